import PyProof.Rows.All
import Wide.All
import OpenK.AllK
import Wide.FinOn
import PySem.Challenge.RW_pb0525_01

set_option Elab.async false
set_option genSizeOf false
set_option genSizeOfSpec false
set_option genInjectivity false
noncomputable section

section
set_option linter.all false
set_option bootstrap.genMatcherCode false
namespace Mine
inductive AV where
  | none | bool (b : Bool) | int (i : Int) | str (k : Nat) | bytes (ns : List Int) | ref (i : Nat) | tup (vs : List AV) | glob (a : Nat) | blist (vs : List AV)
inductive AO where
  | inst (c d : Nat) | attrs (kv : List (Nat × AV)) | rc (kv : List (Nat × AV)) | fdict (f : Nat → Option Int) | list (vs : List AV) | ilist (ns : List Int) | cell (v : Option AV) | gone
noncomputable abbrev HS := List AO
noncomputable abbrev AEnv := List (Nat × AV)
inductive Op where | add | sub | mul | fdiv | mod
inductive Cm where | eq | ne | lt | le | gt | ge
inductive B1 where | abs | len | min | toInt | list | bytes | sorted
mutual
inductive E where
  | loc (x : Nat) | cel (x : Nat) | glob (x : Nat)
  | int (i : Int) | str (k : Nat) | bool (b : Bool) | none
  | bin (o : Op) (a b : E)
  | cmp (c : Cm) (a b : E)
  | isIn (a b : E) | notIn (a b : E) | isNone (a : E) | notNone (a : E)
  | and (a b : E) | or (a b : E) | not (a : E) | ife (t a b : E)
  | attr (o : E) (a : Nat)
  | sub (o i : E)
  | upto (o : E) (k : Nat)
  | call (f : E) (as : Es)
  | meth (o : E) (m : Nat) (as : Es)
  | b1 (f : B1) (a : E)
  | max (a b : E)
  | tup (as : Es) | list (as : Es) | dict (ks : List Nat) (as : Es)
  | comp (elt : E) (xs : List Nat) (isTup : Bool) (it : E) (cond : Option Nat) (c : E)
  | compR (elt : E) (x : Nat) (n : E)
  | junk
inductive Es where
  | nil | cons (e : E) (r : Es)
end
inductive Tg where
  | loc (x : Nat) | cel (x : Nat) | attr (o : E) (a : Nat) | sub (o i : E) | tup (sw : Bool) (ts : List Tg)
mutual
inductive S where
  | assign (t : Tg) (e : E)
  | augLoc (x : Nat) (o : Op) (e : E)
  | augAttr (b : E) (a : Nat) (o : Op) (e : E)
  | expr (e : E)
  | ret (e : E)
  | ife (t : E) (a b : Ss)
  | forL (xs : List Nat) (isTup : Bool) (it : E) (body : Ss)
  | forR (x : Nat) (n : E) (body : Ss)
  | junk
inductive Ss where
  | nil | cons (s : S) (r : Ss)
end
structure Fn where
  params : List Nat
  cells : List Nat
  body : Ss
structure Cls where
  init : Nat
  meths : List (Nat × Nat)
  attrs : List Nat
structure Ops where
  add : Int → Int → Int
  sub : Int → Int → Int
  mul : Int → Int → Int
  fdiv : Int → Int → Int
  mod : Int → Int → Int
  eq : Int → Int → Bool
  lt : Int → Int → Bool
  le : Int → Int → Bool
  abs : Int → Int
  max : Int → Int → Int
  mem : Int → List Int → Bool
  iapp : List Int → Int → List Int
  lapp : List AV → AV → List AV
  ign : List Int → Int → Int
  ilen : List Int → Int
  dget : (Nat → Option Int) → Nat → Int → Int
  dput : (Nat → Option Int) → Nat → Int → Nat → Option Int
  dhas : (Nat → Option Int) → Nat → Bool
noncomputable def std : Ops where
  add := fun x y => x + y
  sub := fun x y => x - y
  mul := fun x y => x * y
  fdiv := fun x y => x.fdiv y
  mod := fun x y => x.fmod y
  eq := fun x y => decide (x = y)
  lt := fun x y => decide (x < y)
  le := fun x y => decide (x ≤ y)
  abs := fun x => if x < 0 then -x else x
  max := fun x y => if x < y then y else x
  mem := fun x ns => decide (x ∈ ns)
  iapp := fun ns x => ns ++ [x]
  lapp := fun vs x => vs ++ [x]
  ign := fun ns k => ns.getD k.toNat 0
  ilen := fun ns => ns.length
  dget := fun f k d => (f k).getD d
  dput := fun f k x z => if z = k then some x else f z
  dhas := fun f k => (f k).isSome
end Mine
end

section
set_option linter.all false
set_option bootstrap.genMatcherCode false
set_option maxRecDepth 10000
namespace Mine
noncomputable def b_Path_init : Ss :=
 (.cons (.assign (.attr (.loc 47) 26) (.loc 26))
 (.cons (.assign (.attr (.loc 47) 27) (.ife (.loc 48) (.glob 49) (.glob 50)))
 (.cons (.assign (.attr (.loc 47) 28) (.loc 48))
 (.cons (.assign (.attr (.loc 47) 29) (.int 0))
 (.cons (.assign (.attr (.loc 47) 30) (.int 0))
 (.cons (.assign (.attr (.loc 47) 31) (.list .nil))
 (.cons (.assign (.attr (.loc 47) 32) (.none)) .nil)))))))
noncomputable def b_Path_is_proven : Ss :=
 (.cons (.ret (.cmp .eq (.attr (.loc 47) 27) (.glob 49))) .nil)
noncomputable def b_Path_room : Ss :=
 (.cons (.ret (.ife (.attr (.loc 47) 28) (.none) (.max (.int 0) (.bin .sub (.bin .mul (.glob 51) (.attr (.loc 47) 29)) (.attr (.loc 47) 30))))) .nil)
noncomputable def b_Path_may_send : Ss :=
 (.cons (.assign (.loc 52) (.meth (.loc 47) 52 .nil))
 (.cons (.ret (.or (.isNone (.loc 52)) (.cmp .le (.loc 53) (.loc 52)))) .nil))
noncomputable def b_Path_on_received : Ss :=
 (.cons (.augAttr (.loc 47) 29 .add (.loc 53)) .nil)
noncomputable def b_Path_on_sent : Ss :=
 (.cons (.augAttr (.loc 47) 30 .add (.loc 53)) .nil)
noncomputable def b_Path_challenge : Ss :=
 (.cons (.ife (.cmp .ne (.attr (.loc 47) 27) (.glob 54))
   (.cons (.assign (.attr (.loc 47) 27) (.glob 54))
    (.cons (.assign (.attr (.loc 47) 31) (.list .nil))
    (.cons (.assign (.attr (.loc 47) 32) (.bin .add (.loc 18) (.loc 17))) .nil)))
   .nil)
 (.cons (.expr (.meth (.attr (.loc 47) 31) 55 (.cons (.loc 56) .nil))) .nil))
noncomputable def b_Path_fail : Ss :=
 (.cons (.assign (.attr (.loc 47) 27) (.glob 57))
 (.cons (.assign (.attr (.loc 47) 28) (.bool false))
 (.cons (.assign (.attr (.loc 47) 31) (.list .nil))
 (.cons (.assign (.attr (.loc 47) 32) (.none)) .nil))))
noncomputable def b_Path_renew : Ss :=
 (.cons (.ife (.cmp .eq (.attr (.loc 47) 27) (.glob 57))
   (.cons (.assign (.attr (.loc 47) 27) (.glob 50)) .nil)
   .nil) .nil)
noncomputable def b_Paths_init : Ss :=
 (.cons (.assign (.attr (.loc 47) 33) (.loc 33))
 (.cons (.assign (.attr (.loc 47) 34) (.loc 34))
 (.cons (.assign (.attr (.loc 47) 35) (.list (.cons (.call (.glob 64) (.cons (.loc 26) (.cons (.loc 48) .nil))) .nil)))
 (.cons (.assign (.attr (.loc 47) 36) (.sub (.attr (.loc 47) 35) (.int 0)))
 (.cons (.assign (.attr (.loc 47) 37) (.ife (.loc 48) (.attr (.loc 47) 36) (.none)))
 (.cons (.assign (.attr (.loc 47) 38) (.int (-1)))
 (.cons (.assign (.attr (.loc 47) 39) (.list .nil)) .nil)))))))
noncomputable def b_Paths_path_of : Ss :=
 (.cons (.forL [65] false (.attr (.loc 47) 35)
   (.cons (.ife (.cmp .eq (.attr (.loc 65) 26) (.loc 26))
      (.cons (.ret (.loc 65)) .nil)
      .nil) .nil))
 (.cons (.ret (.none)) .nil))
noncomputable def b_Paths_opened : Ss :=
 (.cons (.assign (.loc 66) (.meth (.loc 47) 67 (.cons (.loc 26) .nil)))
 (.cons (.ife (.isNone (.loc 66))
   (.cons (.assign (.loc 66) (.call (.glob 64) (.cons (.loc 26) (.cons (.bool false) .nil))))
    (.cons (.expr (.meth (.attr (.loc 47) 35) 55 (.cons (.loc 66) .nil))) .nil))
   .nil)
 (.cons (.ret (.loc 66)) .nil)))
noncomputable def b_Paths_on_datagram : Ss :=
 (.cons (.ife (.and (.isNone (.meth (.loc 47) 67 (.cons (.loc 26) .nil))) (.or (.cmp .eq (.attr (.loc 47) 33) (.str 14)) (.not (.attr (.loc 47) 34))))
   (.cons .junk .nil)
   .nil)
 (.cons (.assign (.loc 65) (.meth (.loc 47) 68 (.cons (.loc 26) .nil)))
 (.cons (.expr (.meth (.loc 65) 59 (.cons (.loc 53) .nil)))
 (.cons (.ret (.loc 65)) .nil))))
noncomputable def b_Paths_on_packet : Ss :=
 (.cons (.assign (.loc 69) (.cmp .gt (.loc 70) (.attr (.loc 47) 38)))
 (.cons (.assign (.attr (.loc 47) 38) (.max (.attr (.loc 47) 38) (.loc 70)))
 (.cons (.assign (.loc 65) (.meth (.loc 47) 67 (.cons (.loc 26) .nil)))
 (.cons (.ife (.or (.cmp .eq (.attr (.loc 47) 33) (.str 14)) (.or (.loc 71) (.or (.not (.loc 69)) (.cmp .eq (.attr (.loc 65) 26) (.attr (.attr (.loc 47) 36) 26)))))
   (.cons (.ret (.bool false)) .nil)
   .nil)
 (.cons (.ife (.meth (.attr (.loc 47) 36) 48 .nil)
   (.cons (.assign (.attr (.loc 47) 37) (.attr (.loc 47) 36)) .nil)
   .nil)
 (.cons (.expr (.meth (.loc 65) 63 .nil))
 (.cons (.assign (.attr (.loc 47) 36) (.loc 65))
 (.cons (.ret (.bool true)) .nil))))))))
noncomputable def b_Paths_wants_challenge : Ss :=
 (.cons (.ret (.ife (.cmp .eq (.attr (.attr (.loc 47) 36) 27) (.glob 50)) (.attr (.loc 47) 36) (.none))) .nil)
noncomputable def b_Paths_next_time : Ss :=
 (.cons (.assign (.loc 72) (.comp (.attr (.loc 65) 32) [65] false (.attr (.loc 47) 35) (some 0) (.notNone (.attr (.loc 65) 32))))
 (.cons (.ret (.ife (.cmp .gt (.b1 .len (.loc 72)) (.int 0)) (.b1 .min (.loc 72)) (.none))) .nil))
noncomputable def b_Paths_on_time : Ss :=
 (.cons (.forL [65] false (.attr (.loc 47) 35)
   (.cons (.ife (.and (.notNone (.attr (.loc 65) 32)) (.cmp .le (.attr (.loc 65) 32) (.loc 18)))
      (.cons (.expr (.meth (.loc 65) 62 .nil)) .nil)
      .nil) .nil))
 (.cons (.ife (.cmp .ne (.attr (.attr (.loc 47) 36) 27) (.glob 57))
   (.cons (.ret (.str 11)) .nil)
   .nil)
 (.cons (.ife (.or (.isNone (.attr (.loc 47) 37)) (.cmp .eq (.attr (.attr (.loc 47) 37) 26) (.attr (.attr (.loc 47) 36) 26)))
   (.cons (.ret (.str 7)) .nil)
   .nil)
 (.cons (.assign (.attr (.loc 47) 36) (.attr (.loc 47) 37))
 (.cons (.ret (.str 12)) .nil)))))
noncomputable def b_trial_wait : Ss :=
 (.cons (.ret (.bin .mul (.int 3) (.max (.loc 78) (.loc 79)))) .nil)
noncomputable def b_fate_of : Ss :=
 (.cons (.ret (.tup (.cons (.sub (.glob 81) (.bin .mod (.loc 80) (.b1 .len (.glob 81)))) (.cons (.bin .fdiv (.loc 80) (.b1 .len (.glob 81))) .nil)))) .nil)
noncomputable def b_Network_init : Ss :=
 (.cons (.assign (.attr (.loc 47) 40) (.b1 .list (.loc 40)))
 (.cons (.assign (.attr (.loc 47) 41) (.loc 41))
 (.cons (.assign (.attr (.loc 47) 42) (.loc 42))
 (.cons (.assign (.attr (.loc 47) 43) (.int 0))
 (.cons (.assign (.attr (.loc 47) 44) (.int 0))
 (.cons (.assign (.attr (.loc 47) 45) (.list .nil))
 (.cons (.assign (.attr (.loc 47) 46) (.list .nil)) .nil)))))))
noncomputable def b_Network_next_fate : Ss :=
 (.cons (.assign (.tup false [(.loc 82), (.loc 70)]) (.ife (.cmp .gt (.b1 .len (.attr (.loc 47) 40)) (.int 0)) (.call (.glob 83) (.cons (.meth (.attr (.loc 47) 40) 84 (.cons (.int 0) .nil)) .nil)) (.tup (.cons (.glob 85) (.cons (.int 0) .nil)))))
 (.cons (.ife (.isIn (.loc 82) (.tup (.cons (.glob 87) (.cons (.glob 86) .nil))))
   (.cons (.ife (.and (.notNone (.attr (.loc 47) 42)) (.cmp .ge (.attr (.loc 47) 43) (.attr (.loc 47) 42)))
      (.cons (.assign (.loc 82) (.glob 85)) .nil)
      (.cons (.augAttr (.loc 47) 43 .add (.int 1)) .nil)) .nil)
   .nil)
 (.cons (.ife (.notIn (.loc 82) (.tup (.cons (.glob 87) (.cons (.glob 86) .nil))))
   (.cons (.assign (.attr (.loc 47) 43) (.int 0)) .nil)
   .nil)
 (.cons (.expr (.meth (.attr (.loc 47) 46) 55 (.cons (.loc 82) .nil)))
 (.cons (.ret (.tup (.cons (.loc 82) (.cons (.loc 70) .nil)))) .nil)))))
noncomputable def b_Network_put : Ss :=
 (.cons (.expr (.meth (.attr (.loc 47) 45) 55 (.cons (.tup (.cons (.loc 90) (.cons (.attr (.loc 47) 44) (.cons (.loc 89) (.cons (.loc 65) (.cons (.loc 88) .nil)))))) .nil)))
 (.cons (.augAttr (.loc 47) 44 .add (.int 1)) .nil))
noncomputable def b_Network_carry : Ss :=
 (.cons (.assign (.tup false [(.loc 82), (.loc 70)]) (.meth (.loc 47) 91 .nil))
 (.cons (.ife (.cmp .eq (.loc 82) (.glob 87))
   (.cons (.ret (.loc 82)) .nil)
   .nil)
 (.cons (.assign (.loc 92) (.bin .add (.loc 18) (.attr (.loc 47) 41)))
 (.cons (.ife (.cmp .eq (.loc 82) (.glob 93))
   (.cons (.augLoc 92 .add (.bin .mul (.attr (.loc 47) 41) (.bin .add (.int 1) (.bin .mod (.loc 70) (.int 7))))) .nil)
   .nil)
 (.cons (.expr (.meth (.loc 47) 94 (.cons (.loc 92) (.cons (.loc 89) (.cons (.loc 65) (.cons (.ife (.cmp .eq (.loc 82) (.glob 86)) (.junk) (.loc 88)) .nil))))))
 (.cons (.ife (.cmp .eq (.loc 82) (.glob 95))
   (.cons (.expr (.meth (.loc 47) 94 (.cons (.bin .add (.loc 92) (.bin .mul (.attr (.loc 47) 41) (.bin .mod (.loc 70) (.int 4)))) (.cons (.loc 89) (.cons (.loc 65) (.cons (.loc 88) .nil)))))) .nil)
   .nil)
 (.cons (.ret (.loc 82)) .nil)))))))
noncomputable def b_Network_next_time : Ss :=
 (.cons (.ret (.ife (.cmp .gt (.b1 .len (.attr (.loc 47) 45)) (.int 0)) (.b1 .min (.comp (.sub (.loc 96) (.int 0)) [96] false (.attr (.loc 47) 45) Option.none .none)) (.none))) .nil)
noncomputable def b_Network_arrived : Ss :=
 (.cons (.assign (.loc 97) (.b1 .sorted (.comp (.loc 96) [96] false (.attr (.loc 47) 45) (some 0) (.cmp .le (.sub (.loc 96) (.int 0)) (.cel 18)))))
 (.cons (.assign (.attr (.loc 47) 45) (.comp (.loc 96) [96] false (.attr (.loc 47) 45) (some 0) (.cmp .gt (.sub (.loc 96) (.int 0)) (.cel 18))))
 (.cons (.ret (.comp (.tup (.cons (.loc 89) (.cons (.loc 65) (.cons (.loc 88) .nil)))) [90, 98, 89, 65, 88] true (.loc 97) Option.none .none)) .nil)))
noncomputable def b_law_draw : Ss :=
 (.cons (.assign (.sub (.loc 101) (.int 1)) (.bin .add (.sub (.loc 101) (.int 1)) (.int 1)))
 (.cons (.ife (.cmp .le (.sub (.loc 101) (.int 1)) (.b1 .len (.sub (.loc 101) (.int 0))))
   (.cons (.ret (.bin .mod (.b1 .abs (.sub (.sub (.loc 101) (.int 0)) (.bin .sub (.sub (.loc 101) (.int 1)) (.int 1)))) (.loc 102))) .nil)
   .nil)
 (.cons (.assign (.loc 103) (.bin .sub (.sub (.loc 101) (.int 1)) (.int 1)))
 (.cons (.ret (.bin .mod (.bin .add (.bin .add (.bin .mul (.int 5) (.loc 103)) (.bin .fdiv (.loc 103) (.int 4))) (.int 1)) (.loc 102))) .nil))))
noncomputable def b_law_gets : Ss :=
 (.cons (.assign (.tup true [(.loc 15), (.loc 70), (.loc 53)]) (.tup (.cons (.sub (.loc 104) (.str 15)) (.cons (.sub (.loc 56) (.int 0)) (.cons (.sub (.loc 56) (.int 1)) .nil)))))
 (.cons (.expr (.meth (.loc 15) 73 (.cons (.loc 105) (.cons (.loc 53) .nil))))
 (.cons (.assign (.sub (.sub (.loc 104) (.str 19)) (.loc 105)) (.bin .add (.meth (.sub (.loc 104) (.str 19)) 106 (.cons (.loc 105) (.cons (.int 0) .nil))) (.loc 53)))
 (.cons (.ife (.isIn (.loc 70) (.sub (.loc 104) (.str 21)))
   (.cons (.ret (.bool true)) .nil)
   .nil)
 (.cons (.expr (.meth (.sub (.loc 104) (.str 21)) 55 (.cons (.loc 70) .nil)))
 (.cons (.assign (.loc 107) (.and (.cmp .gt (.loc 70) (.sub (.loc 104) (.str 22))) (.cmp .ne (.loc 105) (.sub (.loc 104) (.str 23)))))
 (.cons (.assign (.sub (.loc 104) (.str 22)) (.max (.sub (.loc 104) (.str 22)) (.loc 70)))
 (.cons (.ife (.cmp .ne (.meth (.loc 15) 74 (.cons (.loc 105) (.cons (.loc 70) (.cons (.bool false) .nil)))) (.loc 107))
   (.cons (.ret (.bool false)) .nil)
   .nil)
 (.cons (.ife (.loc 107)
   (.cons (.assign (.sub (.loc 104) (.str 23)) (.loc 105)) .nil)
   .nil)
 (.cons (.assign (.loc 65) (.meth (.loc 15) 75 .nil))
 (.cons (.ife (.notNone (.loc 65))
   (.cons (.ife (.or (.cmp .ne (.attr (.loc 65) 26) (.str 1)) (.or (.notNone (.sub (.loc 104) (.str 24))) (.not (.meth (.loc 65) 58 (.cons (.int 30) .nil)))))
      (.cons (.ret (.bool false)) .nil)
      .nil)
    (.cons (.expr (.meth (.loc 65) 61 (.cons (.b1 .bytes (.list (.cons (.b1 .len (.sub (.loc 104) (.str 21))) .nil))) (.cons (.sub (.loc 104) (.str 18)) (.cons (.sub (.loc 104) (.str 17)) .nil)))))
    (.cons (.assign (.sub (.loc 104) (.str 24)) (.bin .add (.sub (.loc 104) (.str 18)) (.sub (.loc 104) (.str 17))))
    (.cons (.expr (.call (.glob 108) (.cons (.loc 104) (.cons (.int 30) .nil)))) .nil))))
   .nil)
 (.cons (.ife (.meth (.attr (.loc 15) 36) 58 (.cons (.sub (.loc 104) (.str 25)) .nil))
   (.cons (.expr (.call (.glob 108) (.cons (.loc 104) (.cons (.sub (.loc 104) (.str 25)) .nil)))) .nil)
   .nil)
 (.cons (.ret (.bool true)) .nil)))))))))))))
noncomputable def b_law_goes : Ss :=
 (.cons (.assign (.loc 65) (.attr (.sub (.loc 104) (.str 15)) 36))
 (.cons (.expr (.meth (.loc 65) 60 (.cons (.loc 53) .nil)))
 (.cons (.assign (.sub (.sub (.loc 104) (.str 20)) (.attr (.loc 65) 26)) (.bin .add (.meth (.sub (.loc 104) (.str 20)) 106 (.cons (.attr (.loc 65) 26) (.cons (.int 0) .nil))) (.loc 53))) .nil)))
noncomputable def b_law_passes : Ss :=
 (.cons (.assign (.sub (.loc 104) (.str 18)) (.loc 90))
 (.cons (.forL [89, 105, 56] true (.meth (.sub (.loc 104) (.str 16)) 100 (.cons (.loc 90) .nil))
   (.cons (.ife (.not (.call (.glob 109) (.cons (.loc 104) (.cons (.loc 105) (.cons (.loc 56) .nil)))))
      (.cons (.ret (.bool false)) .nil)
      .nil) .nil))
 (.cons (.assign (.loc 97) (.str 11))
 (.cons (.ife (.and (.notNone (.sub (.loc 104) (.str 24))) (.cmp .le (.sub (.loc 104) (.str 24)) (.loc 90)))
   (.cons (.assign (.loc 97) (.ife (.cmp .eq (.sub (.loc 104) (.str 23)) (.str 1)) (.str 12) (.str 11)))
    (.cons (.assign (.tup false [(.sub (.loc 104) (.str 23)), (.sub (.loc 104) (.str 24))]) (.tup (.cons (.str 0) (.cons (.none) .nil)))) .nil))
   .nil)
 (.cons (.ife (.or (.cmp .ne (.meth (.sub (.loc 104) (.str 15)) 77 (.cons (.loc 90) .nil)) (.loc 97)) (.cmp .ne (.attr (.attr (.sub (.loc 104) (.str 15)) 36) 26) (.sub (.loc 104) (.str 23))))
   (.cons (.ret (.bool false)) .nil)
   .nil)
 (.cons (.assign (.tup true [(.loc 0), (.loc 110)]) (.tup (.cons (.meth (.sub (.loc 104) (.str 15)) 67 (.cons (.str 0) .nil)) (.cons (.meth (.sub (.loc 104) (.str 15)) 67 (.cons (.str 1) .nil)) .nil))))
 (.cons (.ife (.or (.not (.meth (.loc 0) 48 .nil)) (.or (.notNone (.meth (.loc 0) 52 .nil)) (.cmp .ne (.meth (.sub (.loc 104) (.str 15)) 76 .nil) (.sub (.loc 104) (.str 24)))))
   (.cons (.ret (.bool false)) .nil)
   .nil)
 (.cons (.ret (.or (.isNone (.loc 110)) (.and (.cmp .le (.meth (.sub (.loc 104) (.str 20)) 106 (.cons (.str 1) (.cons (.int 0) .nil))) (.bin .mul (.int 3) (.sub (.sub (.loc 104) (.str 19)) (.str 1)))) (.not (.attr (.loc 110) 28))))) .nil))))))))
noncomputable def b_law : Ss :=
 (.cons (.assign (.cel 101) (.list (.cons (.comp (.b1 .toInt (.loc 111)) [111] false (.upto (.loc 112) 40) Option.none .none) (.cons (.int 0) .nil))))
 (.cons (.assign (.tup true [(.loc 113), (.loc 110)]) (.tup (.cons (.bin .add (.int 20) (.bin .mul (.int 10) (.call (.glob 114) (.cons (.cel 101) (.cons (.int 4) .nil))))) (.cons (.bin .add (.int 20) (.bin .mul (.int 10) (.call (.glob 114) (.cons (.cel 101) (.cons (.int 4) .nil))))) .nil))))
 (.cons (.assign (.loc 17) (.call (.glob 115) (.cons (.loc 113) (.cons (.loc 110) .nil))))
 (.cons (.ife (.or (.and (.cmp .ne (.loc 17) (.bin .mul (.int 3) (.loc 113))) (.cmp .ne (.loc 17) (.bin .mul (.int 3) (.loc 110)))) (.or (.cmp .lt (.loc 17) (.bin .mul (.int 3) (.loc 113))) (.cmp .lt (.loc 17) (.bin .mul (.int 3) (.loc 110)))))
   (.cons (.ret (.bool false)) .nil)
   .nil)
 (.cons (.assign (.loc 40) (.compR (.sub (.list (.cons (.int 0) (.cons (.int 2) (.cons (.int 3) (.cons (.int 4) (.cons (.int 10) .nil)))))) (.call (.glob 114) (.cons (.cel 101) (.cons (.int 5) .nil)))) 116 (.call (.glob 114) (.cons (.cel 101) (.cons (.int 7) .nil)))))
 (.cons (.assign (.loc 104) (.dict [15, 16, 17, 18] (.cons (.call (.glob 118) (.cons (.str 13) (.cons (.str 0) (.cons (.bool true) (.cons (.bool true) .nil))))) (.cons (.call (.glob 117) (.cons (.loc 40) (.cons (.int 10) (.cons (.none) .nil)))) (.cons (.loc 17) (.cons (.int 0) .nil))))))
 (.cons (.expr (.meth (.loc 104) 119 (.cons (.dict [19, 20, 21, 22, 23, 24, 25] (.cons (.dict [] .nil) (.cons (.dict [] .nil) (.cons (.list .nil) (.cons (.int (-1)) (.cons (.str 0) (.cons (.none) (.cons (.bin .add (.int 50) (.loc 113)) .nil)))))))) .nil)))
 (.cons (.forR 70 (.bin .add (.int 1) (.call (.glob 114) (.cons (.cel 101) (.cons (.int 6) .nil))))
   (.cons (.assign (.tup true [(.loc 56), (.loc 120)]) (.tup (.cons (.b1 .bytes (.list (.cons (.loc 70) (.cons (.bin .add (.int 40) (.bin .mul (.int 10) (.call (.glob 114) (.cons (.cel 101) (.cons (.int 5) .nil))))) .nil)))) (.cons (.call (.glob 114) (.cons (.cel 101) (.cons (.int 3) .nil))) .nil))))
    (.cons (.forL [105] false (.sub (.list (.cons (.list (.cons (.str 0) .nil)) (.cons (.list (.cons (.str 1) (.cons (.str 0) .nil))) (.cons (.list (.cons (.str 0) (.cons (.str 1) .nil))) .nil)))) (.loc 120))
      (.cons (.expr (.meth (.sub (.loc 104) (.str 16)) 99 (.cons (.sub (.loc 104) (.str 18)) (.cons (.int 1) (.cons (.loc 105) (.cons (.loc 56) .nil)))))) .nil))
    (.cons (.ife (.not (.call (.glob 121) (.cons (.loc 104) (.cons (.bin .add (.sub (.loc 104) (.str 18)) (.call (.glob 114) (.cons (.cel 101) (.cons (.int 40) .nil)))) .nil))))
      (.cons (.ret (.bool false)) .nil)
      .nil) .nil))))
 (.cons (.forR 116 (.int 3)
   (.cons (.ife (.not (.call (.glob 121) (.cons (.loc 104) (.cons (.bin .add (.bin .add (.sub (.loc 104) (.str 18)) (.int 100)) (.loc 17)) .nil))))
      (.cons (.ret (.bool false)) .nil)
      .nil) .nil))
 (.cons (.ret (.and (.cmp .eq (.attr (.attr (.sub (.loc 104) (.str 15)) 36) 26) (.str 0)) (.isNone (.meth (.sub (.loc 104) (.str 16)) 76 .nil)))) .nil))))))))))
noncomputable def globTab : List (Nat × AV) := [(51, .int 3), (50, .str 2), (54, .str 3), (49, .str 4), (57, .str 5), (64, .glob 121), (118, .glob 224), (115, .glob 235), (85, .str 6), (87, .str 7), (95, .str 8), (93, .str 9), (86, .str 10), (81, .blist [.str 6, .str 6, .str 7, .str 8, .str 9, .str 10]), (83, .glob 243), (117, .glob 298), (114, .glob 309), (109, .glob 316), (108, .glob 323), (121, .glob 330)]
noncomputable def fnTab : List (Nat × Fn) := [(55, ⟨[47, 26, 48], [], b_Path_init⟩),
    (62, ⟨[47], [], b_Path_is_proven⟩),
    (69, ⟨[47], [], b_Path_room⟩),
    (76, ⟨[47, 53], [], b_Path_may_send⟩),
    (83, ⟨[47, 53], [], b_Path_on_received⟩),
    (90, ⟨[47, 53], [], b_Path_on_sent⟩),
    (104, ⟨[47, 56, 18, 17], [], b_Path_challenge⟩),
    (111, ⟨[47], [], b_Path_fail⟩),
    (118, ⟨[47], [], b_Path_renew⟩),
    (139, ⟨[47, 33, 26, 48, 34], [], b_Paths_init⟩),
    (146, ⟨[47, 26], [], b_Paths_path_of⟩),
    (153, ⟨[47, 26], [], b_Paths_opened⟩),
    (160, ⟨[47, 26, 53], [], b_Paths_on_datagram⟩),
    (167, ⟨[47, 26, 70, 71], [], b_Paths_on_packet⟩),
    (195, ⟨[47], [], b_Paths_wants_challenge⟩),
    (214, ⟨[47], [], b_Paths_next_time⟩),
    (221, ⟨[47, 18], [], b_Paths_on_time⟩),
    (235, ⟨[78, 79], [], b_trial_wait⟩),
    (243, ⟨[80], [], b_fate_of⟩),
    (264, ⟨[47, 40, 41, 42], [], b_Network_init⟩),
    (271, ⟨[47], [], b_Network_next_fate⟩),
    (278, ⟨[47, 90, 89, 65, 88], [], b_Network_put⟩),
    (285, ⟨[47, 18, 89, 65, 88], [], b_Network_carry⟩),
    (290, ⟨[47], [], b_Network_next_time⟩),
    (295, ⟨[47, 18], [18], b_Network_arrived⟩),
    (309, ⟨[101, 102], [], b_law_draw⟩),
    (316, ⟨[104, 105, 56], [], b_law_gets⟩),
    (323, ⟨[104, 53], [], b_law_goes⟩),
    (330, ⟨[104, 90], [], b_law_passes⟩),
    (335, ⟨[112], [101], b_law⟩)]
noncomputable def clsTab : List (Nat × Cls) := [(121, ⟨55, [(48, 62), (52, 69), (58, 76), (59, 83), (60, 90), (61, 104), (62, 111), (63, 118)], [26, 27, 28, 29, 30, 31, 32]⟩),
    (224, ⟨139, [(67, 146), (68, 153), (73, 160), (74, 167), (75, 195), (76, 214), (77, 221)], [33, 34, 35, 36, 37, 38, 39]⟩),
    (298, ⟨264, [(91, 271), (94, 278), (99, 285), (76, 290), (100, 295)], [40, 41, 42, 43, 44, 45, 46]⟩)]
noncomputable def nAppend : Nat := 55
noncomputable def nPop : Nat := 84
noncomputable def nGet : Nat := 106
noncomputable def nUpdate : Nat := 119
noncomputable def nameList : List String := ["home", "elsewhere", "unproven", "trying", "proven", "failed", "passed", "lost", "doubled", "delayed", "changed", "same", "back", "server", "client", "paths", "net", "wait", "now", "came", "went", "seen", "newest", "where", "end", "reply", "address", "state", "is_free", "received", "sent", "challenges", "deadline", "role", "may_move", "known", "active", "last_proven", "highest", "answers", "choices", "unit", "most_harm", "harmed", "count", "waiting", "fates", "self", "is_proven", "PATH_PROVEN", "PATH_UNPROVEN", "TIMES_RECEIVED", "room", "size", "PATH_TRYING", "append", "data", "PATH_FAILED", "may_send", "on_received", "on_sent", "challenge", "fail", "renew", "Path", "path", "found", "path_of", "opened", "is_newest", "number", "is_probing", "times", "on_datagram", "on_packet", "wants_challenge", "next_time", "on_time", "probe_wait", "first_probe_wait", "choice", "FATES", "fate", "fate_of", "pop", "PASSED", "CHANGED", "LOST", "datagram", "goal", "time", "next_fate", "arrival", "DELAYED", "put", "DOUBLED", "row", "due", "order", "carry", "arrived", "pool", "many", "drawn", "world", "way", "get", "is_moved", "_law_goes", "_law_gets", "other", "cell", "script", "one", "_law_draw", "trial_wait", "turn", "Network", "Paths", "update", "copies", "_law_passes"]
end Mine
end

section
set_option linter.all false
set_option bootstrap.genMatcherCode false
namespace Mine
inductive T (α : Type) where
  | leaf (a : α)
  | ck (p : Prop) (t : T α)
  | pick (xs : List AV) (k : List AV → T α)
  | ite (b : Bool) (t e : Unit → T α)
  | stuck
namespace T
noncomputable def bind {α β : Type} : T α → (α → T β) → T β
  | leaf a, f => f a
  | ck p t, f => ck p (t.bind f)
  | pick xs k, f => pick xs fun ys => (k ys).bind f
  | ite b t e, f => ite b (fun u => (t u).bind f) (fun u => (e u).bind f)
  | stuck, _ => stuck
noncomputable def All {α : Type} : T α → (α → Prop) → Prop
  | leaf a, P => P a
  | ck p t, P => p ∧ t.All P
  | pick xs k, P => ∀ ys, ys.length = xs.length → (∀ y ∈ ys, y ∈ xs) → (k ys).All P
  | ite b t e, P => match b with | true => (t ()).All P | false => (e ()).All P
  | stuck, _ => False
theorem all_bind {α β : Type} {f : α → T β} {P : β → Prop} : ∀ {t : T α}, (t.bind f).All P ↔ t.All fun a => (f a).All P
  | leaf _ => Iff.rfl
  | ck p t => by simp only [bind, All, all_bind (t := t)]
  | pick xs k => by simp only [bind, All, fun ys => all_bind (t := k ys) (f := f) (P := P)]
  | ite b t e => by cases b <;> simp only [bind, All] <;> exact all_bind
  | stuck => Iff.rfl
theorem All.mono {α : Type} {P P' : α → Prop} (h : ∀ a, P a → P' a) : ∀ {t : T α}, t.All P → t.All P'
  | leaf _, x => h _ x
  | ck _ _, x => ⟨x.1, All.mono h x.2⟩
  | pick _ _, x => fun ys h1 h2 => All.mono h (x ys h1 h2)
  | ite true t e, x => All.mono (t := t ()) h x
  | ite false t e, x => All.mono (t := e ()) h x
  | stuck, x => x
end T
noncomputable abbrev br {α : Type} (b : Bool) (t e : Unit → T α) : T α := .ite b t e
noncomputable def opt {α β : Type} : Option α → (α → T β) → T β
  | some a, f => f a
  | none, _ => .stuck
noncomputable def lk : Nat → List (Nat × AV) → Option AV
  | _, [] => none
  | k, (j, v) :: r => match Nat.beq j k with | true => some v | false => lk k r
noncomputable def put (k : Nat) (v : AV) : List (Nat × AV) → List (Nat × AV)
  | [] => [(k, v)]
  | (j, u) :: r => match Nat.beq j k with | true => (j, v) :: r | false => (j, u) :: put k v r
noncomputable def hget : HS → Nat → Option AO
  | [], _ => none
  | o :: _, 0 => some o
  | _ :: r, n + 1 => hget r n
noncomputable def hset : HS → Nat → AO → HS
  | [], _, _ => []
  | _ :: r, 0, x => x :: r
  | o :: r, n + 1, x => o :: hset r n x
noncomputable def hnew : HS → AO → HS
  | [], x => [x]
  | o :: r, x => o :: hnew r x
noncomputable def hlen : HS → Nat
  | [] => 0
  | _ :: r => hlen r + 1
noncomputable def find {α : Type} (k : Nat) : List (Nat × α) → Option α
  | [] => .none
  | (j, v) :: r => match Nat.beq j k with | true => some v | false => find k r
noncomputable def has (k : Nat) : List Nat → Bool
  | [] => false
  | j :: r => match Nat.beq j k with | true => true | false => has k r
noncomputable def instAt (H : HS) (v : AV) : Option (Nat × Cls × Nat × List (Nat × AV)) := match v with
  | .ref i => match hget H i with
    | some (.inst c d) => match find c clsTab, hget H d with
      | some cl, some (.attrs kv) => some (c, cl, d, kv)
      | _, _ => none
    | _ => none
  | _ => none
noncomputable def getA (H : HS) (v : AV) (a : Nat) : Option AV := match instAt H v with
  | some (_, cl, _, kv) => match has a cl.attrs with | true => lk a kv | false => none
  | none => none
noncomputable def setA (H : HS) (v : AV) (a : Nat) (x : AV) : Option HS := match instAt H v with
  | some (_, cl, d, kv) => match has a cl.attrs with | true => some (hset H d (.attrs (put a x kv))) | false => none
  | none => none
noncomputable def small (x : Int) : Bool := decide (-1000000 < x) && decide (x < 1000000)
noncomputable def binop (O : Ops) (o : Op) (a b : AV) : T AV := match a, b with
  | .int x, .int y => match o with
    | .add => .leaf (.int (O.add x y))
    | .sub => .leaf (.int (O.sub x y))
    | .mul => br (small x) (fun _ => .leaf (.int (O.mul x y))) (fun _ => .stuck)
    | .fdiv => .ck (y ≠ 0 ∧ -1000000 < y ∧ y < 1000000) (.leaf (.int (O.fdiv x y)))
    | .mod => .ck (y ≠ 0) (.leaf (.int (O.mod x y)))
  | _, _ => .stuck
noncomputable def cmpop (O : Ops) (c : Cm) (a b : AV) : T Bool := match a, b with
  | .int x, .int y => .leaf (match c with
    | .eq => O.eq x y | .ne => !O.eq x y | .lt => O.lt x y | .le => O.le x y | .gt => O.lt y x | .ge => O.le y x)
  | .str x, .str y => match c with
    | .eq => .leaf (Nat.beq x y)
    | .ne => .leaf (!Nat.beq x y)
    | _ => .stuck
  | .bool x, .bool y => match c with
    | .eq => .leaf (x == y)
    | .ne => .leaf (!(x == y))
    | _ => .stuck
  | .none, .none => match c with
    | .eq => .leaf true
    | .ne => .leaf false
    | _ => .stuck
  | .none, .int _ => match c with
    | .eq => .leaf false
    | .ne => .leaf true
    | _ => .stuck
  | .int _, .none => match c with
    | .eq => .leaf false
    | .ne => .leaf true
    | _ => .stuck
  | _, _ => .stuck
noncomputable def isNoneV : AV → Bool
  | .none => true
  | _ => false
noncomputable def truthV : AV → T Bool
  | .bool b => .leaf b
  | .none => .leaf false
  | _ => .stuck
noncomputable def allInts : List AV → Option (List Int)
  | [] => some []
  | .int i :: r => (allInts r).map (i :: ·)
  | _ :: _ => none
noncomputable def allStrs : List AV → Option (List Nat)
  | [] => some []
  | .str i :: r => (allStrs r).map (i :: ·)
  | _ :: _ => none
noncomputable def hasN (k : Nat) : List Nat → Bool
  | [] => false
  | j :: r => (Nat.beq j k) || hasN k r
noncomputable def inV (O : Ops) (H : HS) (a b : AV) : T Bool := match a, b with
  | .int x, .ref i => match hget H i with
    | some (.ilist ns) => .leaf (O.mem x ns)
    | some (.list vs) => opt (allInts vs) fun ns => .leaf (O.mem x ns)
    | _ => .stuck
  | .str x, .tup vs => match allStrs vs with
    | some ns => .leaf (hasN x ns)
    | none => .stuck
  | _, _ => .stuck
noncomputable def listAt (H : HS) (v : AV) : Option (List AV) := match v with
  | .ref i => match hget H i with
    | some (.list vs) => some vs
    | _ => none
  | .blist vs => some vs
  | _ => none
noncomputable def hideV (H : HS) (v : AV) : HS := match v with
  | .ref i => hset H i .gone
  | _ => H
noncomputable def showV (H : HS) (v : AV) (vs : List AV) : HS := match v with
  | .ref i => hset H i (.list vs)
  | _ => H
noncomputable def nthD {α : Type} (d : α) : List α → Nat → α
  | [], _ => d
  | a :: _, 0 => a
  | _ :: r, n + 1 => nthD d r n
noncomputable def inB (k : Int) (n : Nat) : Prop := 0 ≤ k ∧ k < n ∧ k < 1048576
noncomputable def subV (O : Ops) (H : HS) (o i : AV) : T AV := match o, i with
  | .ref j, .str k => match hget H j with
    | some (.rc kv) => opt (lk k kv) .leaf
    | some (.fdict f) => .ck (O.dhas f k = true) (.leaf (.int (O.dget f k 0)))
    | _ => .stuck
  | .ref j, .int k => match hget H j with
    | some (.list vs) => .ck (inB k vs.length) (.leaf (nthD .none vs k.toNat))
    | some (.ilist ns) => .ck (inB k ns.length) (.leaf (.int (O.ign ns k)))
    | _ => .stuck
  | .blist vs, .int k => .ck (inB k vs.length) (.leaf (nthD .none vs k.toNat))
  | .tup vs, .int k => .ck (inB k vs.length) (.leaf (nthD .none vs k.toNat))
  | .bytes ns, .int k => .ck (inB k ns.length ∧ ns.length < 1000) (.leaf (.int (nthD 0 ns k.toNat)))
  | _, _ => .stuck
noncomputable def setNth : List AV → Nat → AV → List AV
  | [], _, _ => []
  | _ :: r, 0, x => x :: r
  | a :: r, n + 1, x => a :: setNth r n x
noncomputable def setS (O : Ops) (H : HS) (o i x : AV) : T HS := match o, i with
  | .ref j, .str k => match hget H j with
    | some (.rc kv) => .leaf (hset H j (.rc (put k x kv)))
    | some (.fdict f) => match x with
      | .int x => .leaf (hset H j (.fdict (O.dput f k x)))
      | _ => .stuck
    | _ => .stuck
  | .ref j, .int k => match hget H j with
    | some (.list vs) => .ck (inB k vs.length) (.leaf (hset H j (.list (setNth vs k.toNat x))))
    | _ => .stuck
  | _, _ => .stuck
noncomputable def row2 : AV → Option Int
  | .tup (.int _ :: .int n :: _) => some n
  | _ => none
noncomputable def sortOk (vs : List AV) : Prop := vs.length < 64 ∧ (∀ v ∈ vs, (row2 v).isSome = true) ∧ (vs.map row2).Nodup
noncomputable def bytesOk (ns : List Int) : Prop := ∀ n ∈ ns, 0 ≤ n ∧ n < 256
noncomputable def app1 (O : Ops) (f : B1) (v : AV) (H : HS) : T (AV × HS) := match f with
  | .abs => match v with | .int x => .leaf (.int (O.abs x), H) | _ => .stuck
  | .toInt => match v with | .int x => .leaf (.int x, H) | _ => .stuck
  | .len => match v with
    | .ref i => match hget H i with
      | some (.list vs) => .ck (vs.length < 2 ^ 20) (.leaf (.int vs.length, H))
      | some (.ilist ns) => .ck (ns.length < 2 ^ 20) (.leaf (.int (O.ilen ns), H))
      | _ => .stuck
    | .blist vs => .ck (vs.length < 2 ^ 20) (.leaf (.int vs.length, H))
    | _ => .stuck
  | .min => match v with
    | .ref i => match hget H i with
      | some (.list [.int m]) => .leaf (.int m, H)
      | _ => .stuck
    | _ => .stuck
  | .list => match v with
    | .ref i => match hget H i with
      | some (.list vs) => .ck (vs.length < 2 ^ 20) (.leaf (.ref (hlen H), hnew H (.list vs)))
      | some (.ilist ns) => .ck (ns.length < 2 ^ 20) (.leaf (.ref (hlen H), hnew H (.ilist ns)))
      | _ => .stuck
    | _ => .stuck
  | .bytes => match v with
    | .ref i => match hget H i with
      | some (.list vs) => opt (allInts vs) fun ns => .ck (bytesOk ns ∧ ns.length < 100) (.leaf (.bytes ns, H))
      | _ => .stuck
    | _ => .stuck
  | .sorted => match v with
    | .ref i => match hget H i with
      | some (.list vs) => .ck (sortOk vs) (.pick vs fun ys => .leaf (.ref (hlen H), hnew H (.list ys)))
      | _ => .stuck
    | _ => .stuck
inductive BM where | append | pop | get | update
noncomputable def bmOf (H : HS) (o : AV) (m : Nat) : Option BM := match o with
  | .ref j => match hget H j with
    | some (.list _) => match Nat.beq m nAppend with
      | true => some .append
      | false => match Nat.beq m nPop with
        | true => some .pop
        | false => none
    | some (.ilist _) => match Nat.beq m nAppend with
      | true => some .append
      | false => match Nat.beq m nPop with
        | true => some .pop
        | false => none
    | some (.rc _) => match Nat.beq m nGet with
      | true => some .get
      | false => match Nat.beq m nUpdate with
        | true => some .update
        | false => none
    | some (.fdict _) => match Nat.beq m nGet with
      | true => some .get
      | false => none
    | _ => none
  | _ => none
noncomputable def meth1 (O : Ops) (b : BM) (H : HS) (o : AV) (as : List AV) : T (AV × HS) := match o with
  | .ref j => match b with
    | .append => match as with
      | [x] => match hget H j with
        | some (.list vs) => .ck (vs.length < 2 ^ 20) (.leaf (.none, hset H j (.list (O.lapp vs x))))
        | some (.ilist ns) => match x with
          | .int x => .ck (ns.length < 2 ^ 20) (.leaf (.none, hset H j (.ilist (O.iapp ns x))))
          | _ => .stuck
        | _ => .stuck
      | _ => .stuck
    | .pop => match as with
      | [.int k] => match hget H j with
        | some (.list (v :: r)) => .ck (k = 0 ∧ r.length < 2 ^ 20) (.leaf (v, hset H j (.list r)))
        | some (.ilist (v :: r)) => .ck (k = 0 ∧ r.length < 2 ^ 20) (.leaf (.int v, hset H j (.ilist r)))
        | _ => .stuck
      | _ => .stuck
    | .get => match as with
      | [.str k, d] => match hget H j with
        | some (.rc kv) => .leaf ((lk k kv).getD d, H)
        | some (.fdict f) => match d with
          | .int d => .leaf (.int (O.dget f k d), H)
          | _ => .stuck
        | _ => .stuck
      | _ => .stuck
    | .update => match as with
      | [.ref i] => match hget H j, hget H i with
        | some (.rc kv), some (.rc kv') => .ck (j ≠ i) (.leaf (.none, hset H j (.rc (kv'.foldr (fun p l => put p.1 p.2 l) kv))))
        | _, _ => .stuck
      | _ => .stuck
  | _ => .stuck
noncomputable abbrev CF := Nat → List AV → HS → T (AV × HS)
noncomputable def bindXs (xs : List Nat) (isTup : Bool) (v : AV) (env : AEnv) : Option AEnv := match isTup, xs with
  | false, [x] => some (put x v env)
  | true, xs => match v with
    | .tup vs => if vs.length = xs.length then some ((xs.zip vs).foldl (fun e p => put p.1 p.2 e) env) else none
    | _ => none
  | _, _ => none
noncomputable def zipE : List Nat → List AV → Option AEnv
  | [], [] => some []
  | x :: xs, v :: vs => (zipE xs vs).map ((x, v) :: ·)
  | _, _ => none
noncomputable def callV (cf : CF) (f : AV) (as : List AV) (H : HS) : T (AV × HS) := match f with
  | .glob a => match find a clsTab with
    | some cl =>
      let d := hlen H
      (cf cl.init (.ref (d + 1) :: as) (hnew (hnew H (.attrs [])) (.inst a d))).bind fun r => match r.1 with
        | .none => .leaf (.ref (d + 1), r.2)
        | _ => .stuck
    | none => match find a fnTab with
      | some _ => cf a as H
      | none => .stuck
  | _ => .stuck
noncomputable def methV (O : Ops) (cf : CF) (H : HS) (o : AV) (m : Nat) (args : T (List AV × HS)) : T (AV × HS) := match instAt H o with
  | some (_, cl, _, kv) => match find m cl.meths, lk m kv with
    | some f, none => args.bind fun q => cf f (o :: q.1) q.2
    | _, _ => .stuck
  | none => match bmOf H o m with
    | some b => args.bind fun q => meth1 O b q.2 o q.1
    | none => .stuck
noncomputable def compL (ev : AV → HS → T (Option AV × HS)) : List AV → HS → T (List AV × HS)
  | [], H => .leaf ([], H)
  | v :: r, H => (ev v H).bind fun q => (compL ev r q.2).bind fun q' => .leaf (match q.1 with | some y => y :: q'.1 | none => q'.1, q'.2)
noncomputable def upTo : Nat → Nat → List AV
  | 0, _ => []
  | n + 1, i => .int (i : Int) :: upTo n (i + 1)
mutual
noncomputable def evalE (O : Ops) (cf : CF) : E → AEnv → HS → T (AV × HS)
  | .loc x, env, H => opt (lk x env) fun v => .leaf (v, H)
  | .cel x, env, H => match lk x env with
    | some (.ref i) => match hget H i with
      | some (.cell (some v)) => .leaf (v, H)
      | _ => .stuck
    | _ => .stuck
  | .glob x, _, H => opt (lk x globTab) fun v => .leaf (v, H)
  | .int i, _, H => .leaf (.int i, H)
  | .str k, _, H => .leaf (.str k, H)
  | .bool b, _, H => .leaf (.bool b, H)
  | .none, _, H => .leaf (.none, H)
  | .bin o a b, env, H => (evalE O cf a env H).bind fun p => (evalE O cf b env p.2).bind fun q => (binop O o p.1 q.1).bind fun v => .leaf (v, q.2)
  | .cmp c a b, env, H => (evalE O cf a env H).bind fun p => (evalE O cf b env p.2).bind fun q => (cmpop O c p.1 q.1).bind fun v => .leaf (.bool v, q.2)
  | .isIn a b, env, H => (evalE O cf a env H).bind fun p => (evalE O cf b env p.2).bind fun q => (inV O q.2 p.1 q.1).bind fun v => .leaf (.bool v, q.2)
  | .notIn a b, env, H => (evalE O cf a env H).bind fun p => (evalE O cf b env p.2).bind fun q => (inV O q.2 p.1 q.1).bind fun v => .leaf (.bool (!v), q.2)
  | .isNone a, env, H => (evalE O cf a env H).bind fun p => .leaf (.bool (isNoneV p.1), p.2)
  | .notNone a, env, H => (evalE O cf a env H).bind fun p => .leaf (.bool (!isNoneV p.1), p.2)
  | .and a b, env, H => (evalE O cf a env H).bind fun p => (truthV p.1).bind fun c => br c (fun _ => evalE O cf b env p.2) (fun _ => .leaf p)
  | .or a b, env, H => (evalE O cf a env H).bind fun p => (truthV p.1).bind fun c => br c (fun _ => .leaf p) (fun _ => evalE O cf b env p.2)
  | .not a, env, H => (evalE O cf a env H).bind fun p => (truthV p.1).bind fun c => .leaf (.bool (!c), p.2)
  | .ife t a b, env, H => (evalT O cf t env H).bind fun p => br p.1 (fun _ => evalE O cf a env p.2) (fun _ => evalE O cf b env p.2)
  | .attr o a, env, H => (evalE O cf o env H).bind fun p => opt (getA p.2 p.1 a) fun v => .leaf (v, p.2)
  | .sub o i, env, H => (evalE O cf o env H).bind fun p => (evalE O cf i env p.2).bind fun q => (subV O q.2 p.1 q.1).bind fun v => .leaf (v, q.2)
  | .upto o k, env, H => (evalE O cf o env H).bind fun p => match p.1 with
    | .blist vs => .ck (vs.length < 1000) (.leaf (.ref (hlen p.2), hnew p.2 (.list (vs.take k))))
    | _ => .stuck
  | .call f as, env, H => (evalE O cf f env H).bind fun p => (evalEs O cf as env p.2).bind fun q => callV cf p.1 q.1 q.2
  | .meth o m as, env, H => (evalE O cf o env H).bind fun p => methV O cf p.2 p.1 m (evalEs O cf as env p.2)
  | .b1 f a, env, H => (evalE O cf a env H).bind fun p => app1 O f p.1 p.2
  | .max a b, env, H => (evalE O cf a env H).bind fun p => (evalE O cf b env p.2).bind fun q => match p.1, q.1 with
    | .int x, .int y => .leaf (.int (O.max x y), q.2)
    | _, _ => .stuck
  | .tup as, env, H => (evalEs O cf as env H).bind fun p => .leaf (.tup p.1, p.2)
  | .list as, env, H => (evalEs O cf as env H).bind fun p => .leaf (.ref (hlen p.2), hnew p.2 (.list p.1))
  | .dict ks as, env, H => (evalEs O cf as env (hnew H (.rc []))).bind fun p => opt (zipE ks p.1) fun kv => match hget p.2 (hlen H) with
    | some (.rc []) => .leaf (.ref (hlen H), hset p.2 (hlen H) (.rc kv))
    | _ => .stuck
  | .comp elt xs isTup it cond c, env, H => (evalE O cf it env H).bind fun p => opt (listAt p.2 p.1) fun vs => .ck (vs.length < 2 ^ 20) <|
      (compL (fun v H' => opt (bindXs xs isTup v env) fun env' => match cond with
        | none => (evalE O cf elt env' H').bind fun q => .leaf (some q.1, q.2)
        | some _ => (evalT O cf c env' H').bind fun b => br b.1 (fun _ => (evalE O cf elt env' b.2).bind fun q => .leaf (some q.1, q.2)) (fun _ => .leaf (none, b.2))) vs (hideV p.2 p.1)).bind fun q =>
      .leaf (.ref (hlen q.2), hnew (showV q.2 p.1 vs) (.list q.1))
  | .compR elt x n, env, H => (evalE O cf n env H).bind fun p => match p.1 with
    | .int k => .ck (0 ≤ k ∧ k < 2 ^ 20) <| (compL (fun v H' => (evalE O cf elt (put x v env) H').bind fun q => .leaf (some q.1, q.2)) (upTo k.toNat 0) p.2).bind fun q => .leaf (.ref (hlen q.2), hnew q.2 (.list q.1))
    | _ => .stuck
  | .junk, _, _ => .stuck
noncomputable def evalT (O : Ops) (cf : CF) : E → AEnv → HS → T (Bool × HS)
  | .not a, env, H => (evalT O cf a env H).bind fun p => .leaf (!p.1, p.2)
  | .and a b, env, H => (evalT O cf a env H).bind fun p => br p.1 (fun _ => evalT O cf b env p.2) (fun _ => .leaf (false, p.2))
  | .or a b, env, H => (evalT O cf a env H).bind fun p => br p.1 (fun _ => .leaf (true, p.2)) (fun _ => evalT O cf b env p.2)
  | .cmp c a b, env, H => (evalE O cf a env H).bind fun p => (evalE O cf b env p.2).bind fun q => (cmpop O c p.1 q.1).bind fun v => .leaf (v, q.2)
  | .isIn a b, env, H => (evalE O cf a env H).bind fun p => (evalE O cf b env p.2).bind fun q => (inV O q.2 p.1 q.1).bind fun v => .leaf (v, q.2)
  | .notIn a b, env, H => (evalE O cf a env H).bind fun p => (evalE O cf b env p.2).bind fun q => (inV O q.2 p.1 q.1).bind fun v => .leaf (!v, q.2)
  | .isNone a, env, H => (evalE O cf a env H).bind fun p => .leaf (isNoneV p.1, p.2)
  | .notNone a, env, H => (evalE O cf a env H).bind fun p => .leaf (!isNoneV p.1, p.2)
  | .loc x, env, H => opt (lk x env) fun v => (truthV v).bind fun b => .leaf (b, H)
  | .call f as, env, H => (evalE O cf f env H).bind fun p => (evalEs O cf as env p.2).bind fun q => (callV cf p.1 q.1 q.2).bind fun r => (truthV r.1).bind fun b => .leaf (b, r.2)
  | .meth o m as, env, H => (evalE O cf o env H).bind fun p => (methV O cf p.2 p.1 m (evalEs O cf as env p.2)).bind fun r => (truthV r.1).bind fun b => .leaf (b, r.2)
  | .attr o a, env, H => (evalE O cf o env H).bind fun p => opt (getA p.2 p.1 a) fun v => (truthV v).bind fun b => .leaf (b, p.2)
  | _, _, _ => .stuck
noncomputable def evalEs (O : Ops) (cf : CF) : Es → AEnv → HS → T (List AV × HS)
  | .nil, _, H => .leaf ([], H)
  | .cons e r, env, H => (evalE O cf e env H).bind fun p => (evalEs O cf r env p.2).bind fun q => .leaf (p.1 :: q.1, q.2)
end
inductive Fl where | next | ret (v : AV)
noncomputable def asgP (O : Ops) (cf : CF) (t : Tg) (v : AV) (env : AEnv) (H : HS) : T (AEnv × HS) := match t with
  | .loc x => .leaf (put x v env, H)
  | .cel x => match lk x env with
    | some (.ref i) => match hget H i with
      | some (.cell _) => .leaf (env, hset H i (.cell (some v)))
      | _ => .stuck
    | _ => .stuck
  | .attr o a => (evalE O cf o env H).bind fun p => opt (setA p.2 p.1 a v) fun H' => .leaf (env, H')
  | .sub o i => (evalE O cf o env H).bind fun p => (evalE O cf i env p.2).bind fun q => (setS O q.2 p.1 q.1 v).bind fun H' => .leaf (env, H')
  | .tup _ _ => .stuck
noncomputable def asgL (O : Ops) (cf : CF) : List Tg → List AV → AEnv → HS → T (AEnv × HS)
  | [], [], env, H => .leaf (env, H)
  | t :: ts, v :: vs, env, H => (asgP O cf t v env H).bind fun p => asgL O cf ts vs p.1 p.2
  | _, _, _, _ => .stuck
noncomputable def asg (O : Ops) (cf : CF) (t : Tg) (v : AV) (env : AEnv) (H : HS) : T (AEnv × HS) := match t with
  | .tup sw ts => match v with
    | .tup vs => match Nat.beq ts.length vs.length with
      | true => match sw with
        | true => asgL O cf ts.reverse vs.reverse env H
        | false => asgL O cf ts vs env H
      | false => .stuck
    | _ => .stuck
  | t => asgP O cf t v env H
noncomputable def forS (ex : AEnv → HS → T (Fl × AEnv × HS)) (xs : List Nat) (isTup : Bool) : List AV → AEnv → HS → T (Fl × AEnv × HS)
  | [], env, H => .leaf (.next, env, H)
  | v :: r, env, H => opt (bindXs xs isTup v env) fun env' => (ex env' H).bind fun q => match q.1 with
    | .next => forS ex xs isTup r q.2.1 q.2.2
    | .ret u => .leaf (.ret u, q.2.1, q.2.2)
mutual
noncomputable def execS (O : Ops) (cf : CF) : S → AEnv → HS → T (Fl × AEnv × HS)
  | .assign t e, env, H => (evalE O cf e env H).bind fun p => (asg O cf t p.1 env p.2).bind fun q => .leaf (.next, q.1, q.2)
  | .augLoc x o e, env, H => opt (lk x env) fun u => (evalE O cf e env H).bind fun p => (binop O o u p.1).bind fun v => .leaf (.next, put x v env, p.2)
  | .augAttr b a o e, env, H => (evalE O cf b env H).bind fun p => opt (getA p.2 p.1 a) fun u => (evalE O cf e env p.2).bind fun q => (binop O o u q.1).bind fun v =>
      opt (setA q.2 p.1 a v) fun H' => .leaf (.next, env, H')
  | .expr e, env, H => (evalE O cf e env H).bind fun p => .leaf (.next, env, p.2)
  | .ret e, env, H => (evalE O cf e env H).bind fun p => .leaf (.ret p.1, env, p.2)
  | .ife t a b, env, H => (evalT O cf t env H).bind fun p => br p.1 (fun _ => execB O cf a env p.2) (fun _ => execB O cf b env p.2)
  | .forL xs isTup it body, env, H => (evalE O cf it env H).bind fun p => opt (listAt p.2 p.1) fun vs =>
    (forS (fun e h => execB O cf body e h) xs isTup vs env (hideV p.2 p.1)).bind fun q => .leaf (q.1, q.2.1, showV q.2.2 p.1 vs)
  | .forR x n body, env, H => (evalE O cf n env H).bind fun p => match p.1 with
    | .int k => .ck (0 ≤ k ∧ k < 2 ^ 20) (forS (fun e h => execB O cf body e h) [x] false (upTo k.toNat 0) env p.2)
    | _ => .stuck
  | .junk, _, _ => .stuck
noncomputable def execB (O : Ops) (cf : CF) : Ss → AEnv → HS → T (Fl × AEnv × HS)
  | .nil, env, H => .leaf (.next, env, H)
  | .cons s r, env, H => (execS O cf s env H).bind fun p => match p.1 with
    | .next => execB O cf r p.2.1 p.2.2
    | .ret v => .leaf (.ret v, p.2.1, p.2.2)
end
noncomputable def cellsIn : List Nat → AEnv → HS → AEnv × HS
  | [], env, H => (env, H)
  | c :: r, env, H => cellsIn r (put c (.ref (hlen H)) env) (hnew H (.cell (lk c env)))
noncomputable def runF (O : Ops) (cf : CF) (f : Nat) (as : List AV) (H : HS) : T (AV × HS) := opt (find f fnTab) fun fn => opt (zipE fn.params as) fun env =>
  (execB O cf fn.body (cellsIn fn.cells env H).1 (cellsIn fn.cells env H).2).bind fun q => .leaf (match q.1 with | .ret v => v | .next => .none, q.2.2)
noncomputable def callN (O : Ops) : Nat → CF
  | 0 => fun _ _ _ => .stuck
  | n + 1 => runF O (callN O n)
end Mine
end

section
set_option linter.all false
set_option bootstrap.genMatcherCode false
namespace Mine
section
variable {O : Ops} {cf : CF} {env : AEnv} {H : HS}
theorem eE_loc {x} : evalE O cf (.loc x) env H = opt (lk x env) fun v => .leaf (v, H) := rfl
theorem eE_cel {x} : evalE O cf (.cel x) env H = match lk x env with
    | some (.ref i) => match hget H i with
      | some (.cell (some v)) => .leaf (v, H)
      | _ => .stuck
    | _ => .stuck := rfl
theorem eE_glob {x} : evalE O cf (.glob x) env H = opt (lk x globTab) fun v => .leaf (v, H) := rfl
theorem eE_int {i} : evalE O cf (.int i) env H = .leaf (.int i, H) := rfl
theorem eE_str {k} : evalE O cf (.str k) env H = .leaf (.str k, H) := rfl
theorem eE_bool {b} : evalE O cf (.bool b) env H = .leaf (.bool b, H) := rfl
theorem eE_none : evalE O cf (.none) env H = .leaf (.none, H) := rfl
theorem eE_bin {o a b} : evalE O cf (.bin o a b) env H = (evalE O cf a env H).bind fun p => (evalE O cf b env p.2).bind fun q => (binop O o p.1 q.1).bind fun v => .leaf (v, q.2) := rfl
theorem eE_cmp {c a b} : evalE O cf (.cmp c a b) env H = (evalE O cf a env H).bind fun p => (evalE O cf b env p.2).bind fun q => (cmpop O c p.1 q.1).bind fun v => .leaf (.bool v, q.2) := rfl
theorem eE_isIn {a b} : evalE O cf (.isIn a b) env H = (evalE O cf a env H).bind fun p => (evalE O cf b env p.2).bind fun q => (inV O q.2 p.1 q.1).bind fun v => .leaf (.bool v, q.2) := rfl
theorem eE_notIn {a b} : evalE O cf (.notIn a b) env H = (evalE O cf a env H).bind fun p => (evalE O cf b env p.2).bind fun q => (inV O q.2 p.1 q.1).bind fun v => .leaf (.bool (!v), q.2) := rfl
theorem eE_isNone {a} : evalE O cf (.isNone a) env H = (evalE O cf a env H).bind fun p => .leaf (.bool (isNoneV p.1), p.2) := rfl
theorem eE_notNone {a} : evalE O cf (.notNone a) env H = (evalE O cf a env H).bind fun p => .leaf (.bool (!isNoneV p.1), p.2) := rfl
theorem eE_and {a b} : evalE O cf (.and a b) env H = (evalE O cf a env H).bind fun p => (truthV p.1).bind fun c => br c (fun _ => evalE O cf b env p.2) (fun _ => .leaf p) := rfl
theorem eE_or {a b} : evalE O cf (.or a b) env H = (evalE O cf a env H).bind fun p => (truthV p.1).bind fun c => br c (fun _ => .leaf p) (fun _ => evalE O cf b env p.2) := rfl
theorem eE_not {a} : evalE O cf (.not a) env H = (evalE O cf a env H).bind fun p => (truthV p.1).bind fun c => .leaf (.bool (!c), p.2) := rfl
theorem eE_ife {t a b} : evalE O cf (.ife t a b) env H = (evalT O cf t env H).bind fun p => br p.1 (fun _ => evalE O cf a env p.2) (fun _ => evalE O cf b env p.2) := rfl
theorem eE_attr {o a} : evalE O cf (.attr o a) env H = (evalE O cf o env H).bind fun p => opt (getA p.2 p.1 a) fun v => .leaf (v, p.2) := rfl
theorem eE_sub {o i} : evalE O cf (.sub o i) env H = (evalE O cf o env H).bind fun p => (evalE O cf i env p.2).bind fun q => (subV O q.2 p.1 q.1).bind fun v => .leaf (v, q.2) := rfl
theorem eE_upto {o k} : evalE O cf (.upto o k) env H = (evalE O cf o env H).bind fun p => match p.1 with
    | .blist vs => .ck (vs.length < 1000) (.leaf (.ref (hlen p.2), hnew p.2 (.list (vs.take k))))
    | _ => .stuck := rfl
theorem eE_call {f as} : evalE O cf (.call f as) env H = (evalE O cf f env H).bind fun p => (evalEs O cf as env p.2).bind fun q => callV cf p.1 q.1 q.2 := rfl
theorem eE_meth {o m as} : evalE O cf (.meth o m as) env H = (evalE O cf o env H).bind fun p => methV O cf p.2 p.1 m (evalEs O cf as env p.2) := rfl
theorem eE_b1 {f a} : evalE O cf (.b1 f a) env H = (evalE O cf a env H).bind fun p => app1 O f p.1 p.2 := rfl
theorem eE_max {a b} : evalE O cf (.max a b) env H = (evalE O cf a env H).bind fun p => (evalE O cf b env p.2).bind fun q => match p.1, q.1 with
    | .int x, .int y => .leaf (.int (O.max x y), q.2)
    | _, _ => .stuck := rfl
theorem eE_tup {as} : evalE O cf (.tup as) env H = (evalEs O cf as env H).bind fun p => .leaf (.tup p.1, p.2) := rfl
theorem eE_list {as} : evalE O cf (.list as) env H = (evalEs O cf as env H).bind fun p => .leaf (.ref (hlen p.2), hnew p.2 (.list p.1)) := rfl
theorem eE_dict {ks as} : evalE O cf (.dict ks as) env H = (evalEs O cf as env (hnew H (.rc []))).bind fun p => opt (zipE ks p.1) fun kv => match hget p.2 (hlen H) with
    | some (.rc []) => .leaf (.ref (hlen H), hset p.2 (hlen H) (.rc kv))
    | _ => .stuck := rfl
theorem eE_comp {elt xs isTup it cond c} : evalE O cf (.comp elt xs isTup it cond c) env H = (evalE O cf it env H).bind fun p => opt (listAt p.2 p.1) fun vs => .ck (vs.length < 2 ^ 20) <|
      (compL (fun v H' => opt (bindXs xs isTup v env) fun env' => match cond with
        | none => (evalE O cf elt env' H').bind fun q => .leaf (some q.1, q.2)
        | some _ => (evalT O cf c env' H').bind fun b => br b.1 (fun _ => (evalE O cf elt env' b.2).bind fun q => .leaf (some q.1, q.2)) (fun _ => .leaf (none, b.2))) vs (hideV p.2 p.1)).bind fun q =>
      .leaf (.ref (hlen q.2), hnew (showV q.2 p.1 vs) (.list q.1)) := rfl
theorem eE_compR {elt x n} : evalE O cf (.compR elt x n) env H = (evalE O cf n env H).bind fun p => match p.1 with
    | .int k => .ck (0 ≤ k ∧ k < 2 ^ 20) <| (compL (fun v H' => (evalE O cf elt (put x v env) H').bind fun q => .leaf (some q.1, q.2)) (upTo k.toNat 0) p.2).bind fun q => .leaf (.ref (hlen q.2), hnew q.2 (.list q.1))
    | _ => .stuck := rfl
theorem eE_junk : evalE O cf (.junk) env H = .stuck := rfl
theorem eT_not {a} : evalT O cf (.not a) env H = (evalT O cf a env H).bind fun p => .leaf (!p.1, p.2) := rfl
theorem eT_and {a b} : evalT O cf (.and a b) env H = (evalT O cf a env H).bind fun p => br p.1 (fun _ => evalT O cf b env p.2) (fun _ => .leaf (false, p.2)) := rfl
theorem eT_or {a b} : evalT O cf (.or a b) env H = (evalT O cf a env H).bind fun p => br p.1 (fun _ => .leaf (true, p.2)) (fun _ => evalT O cf b env p.2) := rfl
theorem eT_cmp {c a b} : evalT O cf (.cmp c a b) env H = (evalE O cf a env H).bind fun p => (evalE O cf b env p.2).bind fun q => (cmpop O c p.1 q.1).bind fun v => .leaf (v, q.2) := rfl
theorem eT_isIn {a b} : evalT O cf (.isIn a b) env H = (evalE O cf a env H).bind fun p => (evalE O cf b env p.2).bind fun q => (inV O q.2 p.1 q.1).bind fun v => .leaf (v, q.2) := rfl
theorem eT_notIn {a b} : evalT O cf (.notIn a b) env H = (evalE O cf a env H).bind fun p => (evalE O cf b env p.2).bind fun q => (inV O q.2 p.1 q.1).bind fun v => .leaf (!v, q.2) := rfl
theorem eT_isNone {a} : evalT O cf (.isNone a) env H = (evalE O cf a env H).bind fun p => .leaf (isNoneV p.1, p.2) := rfl
theorem eT_notNone {a} : evalT O cf (.notNone a) env H = (evalE O cf a env H).bind fun p => .leaf (!isNoneV p.1, p.2) := rfl
theorem eT_loc {x} : evalT O cf (.loc x) env H = opt (lk x env) fun v => (truthV v).bind fun b => .leaf (b, H) := rfl
theorem eT_call {f as} : evalT O cf (.call f as) env H = (evalE O cf f env H).bind fun p => (evalEs O cf as env p.2).bind fun q => (callV cf p.1 q.1 q.2).bind fun r => (truthV r.1).bind fun b => .leaf (b, r.2) := rfl
theorem eT_meth {o m as} : evalT O cf (.meth o m as) env H = (evalE O cf o env H).bind fun p => (methV O cf p.2 p.1 m (evalEs O cf as env p.2)).bind fun r => (truthV r.1).bind fun b => .leaf (b, r.2) := rfl
theorem eT_attr {o a} : evalT O cf (.attr o a) env H = (evalE O cf o env H).bind fun p => opt (getA p.2 p.1 a) fun v => (truthV v).bind fun b => .leaf (b, p.2) := rfl
theorem eL_nil : evalEs O cf (.nil) env H = .leaf ([], H) := rfl
theorem eL_cons {e r} : evalEs O cf (.cons e r) env H = (evalE O cf e env H).bind fun p => (evalEs O cf r env p.2).bind fun q => .leaf (p.1 :: q.1, q.2) := rfl
theorem eS_assign {t e} : execS O cf (.assign t e) env H = (evalE O cf e env H).bind fun p => (asg O cf t p.1 env p.2).bind fun q => .leaf (.next, q.1, q.2) := rfl
theorem eS_augLoc {x o e} : execS O cf (.augLoc x o e) env H = opt (lk x env) fun u => (evalE O cf e env H).bind fun p => (binop O o u p.1).bind fun v => .leaf (.next, put x v env, p.2) := rfl
theorem eS_augAttr {b a o e} : execS O cf (.augAttr b a o e) env H = (evalE O cf b env H).bind fun p => opt (getA p.2 p.1 a) fun u => (evalE O cf e env p.2).bind fun q => (binop O o u q.1).bind fun v =>
      opt (setA q.2 p.1 a v) fun H' => .leaf (.next, env, H') := rfl
theorem eS_expr {e} : execS O cf (.expr e) env H = (evalE O cf e env H).bind fun p => .leaf (.next, env, p.2) := rfl
theorem eS_ret {e} : execS O cf (.ret e) env H = (evalE O cf e env H).bind fun p => .leaf (.ret p.1, env, p.2) := rfl
theorem eS_ife {t a b} : execS O cf (.ife t a b) env H = (evalT O cf t env H).bind fun p => br p.1 (fun _ => execB O cf a env p.2) (fun _ => execB O cf b env p.2) := rfl
theorem eS_forL {xs isTup it body} : execS O cf (.forL xs isTup it body) env H = (evalE O cf it env H).bind fun p => opt (listAt p.2 p.1) fun vs =>
    (forS (fun e h => execB O cf body e h) xs isTup vs env (hideV p.2 p.1)).bind fun q => .leaf (q.1, q.2.1, showV q.2.2 p.1 vs) := rfl
theorem eS_forR {x n body} : execS O cf (.forR x n body) env H = (evalE O cf n env H).bind fun p => match p.1 with
    | .int k => .ck (0 ≤ k ∧ k < 2 ^ 20) (forS (fun e h => execB O cf body e h) [x] false (upTo k.toNat 0) env p.2)
    | _ => .stuck := rfl
theorem eS_junk : execS O cf (.junk) env H = .stuck := rfl
theorem eB_nil : execB O cf (.nil) env H = .leaf (.next, env, H) := rfl
theorem eB_cons {s r} : execB O cf (.cons s r) env H = (execS O cf s env H).bind fun p => match p.1 with
    | .next => execB O cf r p.2.1 p.2.2
    | .ret v => .leaf (.ret v, p.2.1, p.2.2) := rfl
theorem eT_cel {x0} : evalT O cf (.cel x0) env H = .stuck := rfl
theorem eT_glob {x0} : evalT O cf (.glob x0) env H = .stuck := rfl
theorem eT_int {x0} : evalT O cf (.int x0) env H = .stuck := rfl
theorem eT_str {x0} : evalT O cf (.str x0) env H = .stuck := rfl
theorem eT_bool {x0} : evalT O cf (.bool x0) env H = .stuck := rfl
theorem eT_none : evalT O cf (.none) env H = .stuck := rfl
theorem eT_bin {x0 x1 x2} : evalT O cf (.bin x0 x1 x2) env H = .stuck := rfl
theorem eT_ife {x0 x1 x2} : evalT O cf (.ife x0 x1 x2) env H = .stuck := rfl
theorem eT_sub {x0 x1} : evalT O cf (.sub x0 x1) env H = .stuck := rfl
theorem eT_upto {x0 x1} : evalT O cf (.upto x0 x1) env H = .stuck := rfl
theorem eT_b1 {x0 x1} : evalT O cf (.b1 x0 x1) env H = .stuck := rfl
theorem eT_max {x0 x1} : evalT O cf (.max x0 x1) env H = .stuck := rfl
theorem eT_tup {x0} : evalT O cf (.tup x0) env H = .stuck := rfl
theorem eT_list {x0} : evalT O cf (.list x0) env H = .stuck := rfl
theorem eT_dict {x0 x1} : evalT O cf (.dict x0 x1) env H = .stuck := rfl
theorem eT_comp {x0 x1 x2 x3 x4 x5} : evalT O cf (.comp x0 x1 x2 x3 x4 x5) env H = .stuck := rfl
theorem eT_compR {x0 x1 x2} : evalT O cf (.compR x0 x1 x2) env H = .stuck := rfl
theorem eT_junk : evalT O cf (.junk) env H = .stuck := rfl
end
end Mine
end

section
set_option linter.all false
set_option bootstrap.genMatcherCode false
namespace Mine.R
noncomputable abbrev Wr := Nat → Nat → Prop
noncomputable def Wr.le (W W' : Wr) : Prop := ∀ i j, W i j → W' i j
theorem Wr.le_refl (W : Wr) : W.le W := fun _ _ h => h
theorem Wr.le_trans {A B C : Wr} (h : A.le B) (h' : B.le C) : A.le C := fun i j x => h' i j (h i j x)
mutual
inductive VX (W : Wr) : AV → AV → Prop
  | none : VX W .none .none
  | bool (b) : VX W (.bool b) (.bool b)
  | int (i) : VX W (.int i) (.int i)
  | str (k) : VX W (.str k) (.str k)
  | bytes (ns) : VX W (.bytes ns) (.bytes ns)
  | glob (a) : VX W (.glob a) (.glob a)
  | ref {i j} : W i j → VX W (.ref i) (.ref j)
  | tup {vs vs'} : VL W vs vs' → VX W (.tup vs) (.tup vs')
  | blist {vs vs'} : VL W vs vs' → VX W (.blist vs) (.blist vs')
inductive VL (W : Wr) : List AV → List AV → Prop
  | nil : VL W [] []
  | cons {v v' r r'} : VX W v v' → VL W r r' → VL W (v :: r) (v' :: r')
end
inductive KX (W : Wr) : List (Nat × AV) → List (Nat × AV) → Prop
  | nil : KX W [] []
  | cons {k v v' r r'} : VX W v v' → KX W r r' → KX W ((k, v) :: r) ((k, v') :: r')
noncomputable def VXi (W : Wr) : AV → AV → Prop
  | .none, v => v = .none
  | .bool b, v => v = .bool b
  | .int b, v => v = .int b
  | .str b, v => v = .str b
  | .bytes b, v => v = .bytes b
  | .glob b, v => v = .glob b
  | .ref i, v => ∃ j, v = .ref j ∧ W i j
  | .tup vs, v => ∃ vs', v = .tup vs' ∧ VL W vs vs'
  | .blist vs, v => ∃ vs', v = .blist vs' ∧ VL W vs vs'
noncomputable def VLi (W : Wr) : List AV → List AV → Prop
  | [], v => v = []
  | a :: l, v => ∃ b r, v = b :: r ∧ VX W a b ∧ VL W l r
theorem VX.inv {W v v'} (h : VX W v v') : VXi W v v' := @VX.casesOn W (fun a b _ => VXi W a b) _ _ h rfl (fun _ => rfl) (fun _ => rfl) (fun _ => rfl) (fun _ => rfl) (fun _ => rfl) (fun w => ⟨_, rfl, w⟩) (fun l => ⟨_, rfl, l⟩) (fun l => ⟨_, rfl, l⟩)
theorem VL.inv {W v v'} (h : VL W v v') : VLi W v v' := @VL.casesOn W (fun a b _ => VLi W a b) _ _ h rfl (fun a r => ⟨_, _, rfl, a, r⟩)
theorem VX.mono {W W' : Wr} (h : W.le W') {v v'} (x : VX W v v') : VX W' v v' :=
  @VX.rec W (fun a b _ => VX W' a b) (fun a b _ => VL W' a b) .none .bool .int .str .bytes .glob (fun w => .ref (h _ _ w)) (fun _ l => .tup l) (fun _ l => .blist l) .nil (fun _ _ a b => .cons a b) _ _ x
theorem VL.mono {W W' : Wr} (h : W.le W') {v v'} (x : VL W v v') : VL W' v v' :=
  @VL.rec W (fun a b _ => VX W' a b) (fun a b _ => VL W' a b) .none .bool .int .str .bytes .glob (fun w => .ref (h _ _ w)) (fun _ l => .tup l) (fun _ l => .blist l) .nil (fun _ _ a b => .cons a b) _ _ x
theorem VL.ind {W} {P : List AV → List AV → Prop} (h0 : P [] []) (h1 : ∀ {a b l r}, VX W a b → VL W l r → P l r → P (a :: l) (b :: r)) {v v'} (x : VL W v v') : P v v' :=
  @VL.rec W (fun _ _ _ => True) (fun a b _ => P a b) trivial (fun _ => trivial) (fun _ => trivial) (fun _ => trivial) (fun _ => trivial) (fun _ => trivial) (fun _ => trivial) (fun _ _ => trivial) (fun _ _ => trivial) h0 (fun a b _ p => h1 a b p) _ _ x
theorem KX.mono {W W' : Wr} (h : W.le W') {v v'} (x : KX W v v') : KX W' v v' :=
  @KX.rec W (fun a b _ => KX W' a b) .nil (fun a _ k => .cons (a.mono h) k) _ _ x
inductive OX (W : Wr) : AO → AO → Prop
  | inst (c) {d d'} : W d d' → OX W (.inst c d) (.inst c d')
  | attrs {kv kv'} : KX W kv kv' → OX W (.attrs kv) (.attrs kv')
  | rc {kv kv'} : KX W kv kv' → OX W (.rc kv) (.rc kv')
  | fd {f kv'} : (∀ k, lk k kv' = (f k).map .int) → OX W (.fdict f) (.rc kv')
  | list {vs vs'} : VL W vs vs' → OX W (.list vs) (.list vs')
  | il (ns) : OX W (.ilist ns) (.list (ns.map .int))
  | cell0 : OX W (.cell none) (.cell none)
  | cell {v v'} : VX W v v' → OX W (.cell (some v)) (.cell (some v'))
  | gone : OX W .gone .gone
theorem OX.mono {W W' : Wr} (h : W.le W') {v v'} (x : OX W v v') : OX W' v v' :=
  @OX.casesOn W (fun a b _ => OX W' a b) _ _ x (fun c _ _ w => .inst c (h _ _ w)) (fun k => .attrs (k.mono h)) (fun k => .rc (k.mono h)) .fd (fun k => .list (k.mono h)) .il .cell0 (fun v => .cell (v.mono h)) .gone
noncomputable def OXi (W : Wr) : AO → AO → Prop
  | .inst c d, o => ∃ d', o = .inst c d' ∧ W d d'
  | .attrs vs, o => ∃ vs', o = .attrs vs' ∧ KX W vs vs'
  | .rc vs, o => ∃ vs', o = .rc vs' ∧ KX W vs vs'
  | .fdict f, o => ∃ kv, o = .rc kv ∧ ∀ k, lk k kv = (f k).map .int
  | .list vs, o => ∃ vs', o = .list vs' ∧ VL W vs vs'
  | .ilist vs, o => o = .list (vs.map .int)
  | .cell v, o => (v = none ∧ o = .cell none) ∨ ∃ x y, v = some x ∧ o = .cell (some y) ∧ VX W x y
  | .gone, o => o = .gone
theorem OX.inv {W v v'} (h : OX W v v') : OXi W v v' :=
  @OX.casesOn W (fun a b _ => OXi W a b) _ _ h (fun _ _ _ w => ⟨_, rfl, w⟩) (fun k => ⟨_, rfl, k⟩) (fun k => ⟨_, rfl, k⟩) (fun k => ⟨_, rfl, k⟩) (fun k => ⟨_, rfl, k⟩) (fun _ => rfl) (.inl ⟨rfl, rfl⟩) (fun v => .inr ⟨_, _, rfl, rfl, v⟩) rfl
structure Emb (W : Wr) (C H : HS) : Prop where
  inj : ∀ i j i' j', W i j → W i' j' → (i = i' ↔ j = j')
  obj : ∀ i j, W i j → ∃ o o', hget C i = some o ∧ hget H j = some o' ∧ OX W o o'
theorem hget_hset_self : ∀ {H i o x}, hget H i = some o → hget (hset H i x) i = some x
  | [], _, _, _, h => by simp [hget] at h
  | _ :: _, 0, _, _, _ => rfl
  | _ :: r, n + 1, _, _, h => hget_hset_self (H := r) h
theorem hget_hset_other : ∀ {H i j x}, i ≠ j → hget (hset H i x) j = hget H j
  | [], _, _, _, _ => rfl
  | _ :: _, 0, 0, _, h => absurd rfl h
  | _ :: _, 0, _ + 1, _, _ => rfl
  | _ :: _, _ + 1, 0, _, _ => rfl
  | _ :: r, n + 1, m + 1, _, h => hget_hset_other (H := r) (fun e => h (congrArg _ e))
theorem hget_hnew_last : ∀ {H x}, hget (hnew H x) (hlen H) = some x
  | [], _ => rfl
  | _ :: r, _ => hget_hnew_last (H := r)
theorem hget_lt : ∀ {H i o}, hget H i = some o → i < hlen H
  | [], _, _, h => by simp [hget] at h
  | _ :: _, 0, _, _ => Nat.succ_pos _
  | _ :: r, n + 1, _, h => Nat.succ_lt_succ (hget_lt (H := r) h)
theorem hget_hnew_before : ∀ {H i x}, i < hlen H → hget (hnew H x) i = hget H i
  | [], _, _, h => by simp [hlen] at h
  | _ :: _, 0, _, _ => rfl
  | _ :: r, n + 1, _, h => hget_hnew_before (H := r) (Nat.lt_of_succ_lt_succ h)
theorem hlen_hset : ∀ {H i x}, hlen (hset H i x) = hlen H
  | [], _, _ => rfl
  | _ :: _, 0, _ => rfl
  | _ :: r, n + 1, _ => congrArg (· + 1) (hlen_hset (H := r))
theorem hlen_hnew : ∀ {H x}, hlen (hnew H x) = hlen H + 1
  | [], _ => rfl
  | _ :: r, _ => congrArg (· + 1) (hlen_hnew (H := r))
structure Ext (W : Wr) (H : HS) (W' : Wr) (C' H' : HS) : Prop where
  emb : Emb W' C' H'
  le : W.le W'
  new : ∀ i j, W' i j → W i j ∨ hlen H ≤ j
  frm : ∀ j, j < hlen H → (∀ i, ¬ W i j) → hget H' j = hget H j
  len : hlen H ≤ hlen H'
theorem Ext.refl {W C H} (e : Emb W C H) : Ext W H W C H := ⟨e, W.le_refl, fun _ _ h => .inl h, fun _ _ _ => rfl, Nat.le_refl _⟩
theorem Ext.trans {W H W' C' H' W'' C'' H''} (a : Ext W H W' C' H') (b : Ext W' H' W'' C'' H'') : Ext W H W'' C'' H'' where
  emb := b.emb
  le := Wr.le_trans a.le b.le
  new := fun i j h => (b.new i j h).elim (fun h => a.new i j h) (fun h => .inr (Nat.le_trans a.len h))
  frm := fun j h k => (b.frm j (Nat.lt_of_lt_of_le h a.len) fun i x => (a.new i j x).elim (fun y => k i y) (fun y => absurd h (Nat.not_lt.2 y))).trans (a.frm j h k)
  len := Nat.le_trans a.len b.len
theorem Emb.set {W C H i j o'} (e : Emb W C H) (w : W i j) {o} (h : OX W o o') : Ext W H W (hset C i o) (hset H j o') where
  emb := ⟨e.inj, fun a b x => by
    obtain ⟨p, p', h1, h2, h3⟩ := e.obj _ _ x
    by_cases q : i = a
    · have q' := (e.inj _ _ _ _ w x).1 q
      subst q; subst q'
      exact ⟨_, _, hget_hset_self h1, hget_hset_self h2, h⟩
    · have q' : j ≠ b := fun z => q ((e.inj _ _ _ _ w x).2 z)
      exact ⟨_, _, (hget_hset_other q).trans h1, (hget_hset_other q').trans h2, h3⟩⟩
  le := W.le_refl
  new := fun _ _ h => .inl h
  frm := fun b _ k => hget_hset_other fun e => k i (e ▸ w)
  len := Nat.le_of_eq hlen_hset.symm
noncomputable def Wr.ext (W : Wr) (a b : Nat) : Wr := fun i j => W i j ∨ (i = a ∧ j = b)
theorem Wr.le_ext (W : Wr) (a b : Nat) : W.le (W.ext a b) := fun _ _ h => .inl h
theorem Emb.new {W C H o o'} (e : Emb W C H) (h : OX (W.ext (hlen C) (hlen H)) o o') : Ext W H (W.ext (hlen C) (hlen H)) (hnew C o) (hnew H o') where
  emb := {
    inj := fun i j i' j' a b => by
      rcases a with a | ⟨a, a'⟩ <;> rcases b with b | ⟨b, b'⟩
      · exact e.inj _ _ _ _ a b
      · obtain ⟨p, p', h1, h2, h3⟩ := e.obj _ _ a
        have := hget_lt h1; have := hget_lt h2; omega
      · obtain ⟨p, p', h1, h2, h3⟩ := e.obj _ _ b
        have := hget_lt h1; have := hget_lt h2; omega
      · omega
    obj := fun i j a => by
      rcases a with a | ⟨a, a'⟩
      · obtain ⟨p, p', h1, h2, h3⟩ := e.obj _ _ a
        exact ⟨_, _, (hget_hnew_before (hget_lt h1)).trans h1, (hget_hnew_before (hget_lt h2)).trans h2, h3.mono (Wr.le_ext _ _ _)⟩
      · subst a; subst a'
        exact ⟨_, _, hget_hnew_last, hget_hnew_last, h⟩ }
  le := W.le_ext _ _
  new := fun i j h => h.elim .inl fun h => .inr (Nat.le_of_eq h.2.symm)
  frm := fun b h _ => hget_hnew_before h
  len := by rw [hlen_hnew]; exact Nat.le_succ _
theorem Emb.new' {W C H o o'} (e : Emb W C H) (h : OX W o o') : Ext W H (W.ext (hlen C) (hlen H)) (hnew C o) (hnew H o') := e.new (h.mono (Wr.le_ext _ _ _))
theorem Wr.ext_last {W : Wr} {a b : Nat} : W.ext a b a b := .inr ⟨rfl, rfl⟩
noncomputable def Sim {α β : Type} (R : α → β → Prop) (t : T α) (t' : T β) : Prop := ∀ P : β → Prop, t.All (fun a => ∀ b, R a b → P b) → t'.All P
section
variable {α β γ δ : Type} {R : α → β → Prop} {S : γ → δ → Prop}
theorem Sim.leaf {a b} (h : R a b) : Sim R (.leaf a) (.leaf b) := fun P x => x b h
theorem Sim.stuck {t' : T β} : Sim R (.stuck : T α) t' := fun P x => x.elim
theorem Sim.ck {p p' t} {t' : T β} (hp : p → p') (h : p → Sim R t t') : Sim R (.ck p t : T α) (.ck p' t') :=
  fun P x => ⟨hp x.1, h x.1 P x.2⟩
theorem Sim.ckL {p t} {t' : T β} (h : p → Sim R t t') : Sim R (.ck p t : T α) t' := fun P x => h x.1 P x.2
theorem Sim.bind {t : T α} {t' : T β} {f : α → T γ} {g : β → T δ} (h : Sim R t t') (k : ∀ a b, R a b → Sim S (f a) (g b)) : Sim S (t.bind f) (t'.bind g) :=
  fun P x => T.all_bind.2 (h _ (T.All.mono (fun a y b r => k a b r P y) (T.all_bind.1 x)))
theorem Sim.bindE {t t' : T α} {f : α → T γ} {g : α → T δ} (h : Sim Eq t t') (k : ∀ a, Sim S (f a) (g a)) : Sim S (t.bind f) (t'.bind g) := h.bind fun a _ e => e ▸ k a
theorem Sim.mono {R S : α → β → Prop} {t t'} (h : Sim R t t') (k : ∀ a b, R a b → S a b) : Sim S t t' :=
  fun P x => h P (T.All.mono (fun a y b r => y b (k a b r)) x)
theorem Sim.br {b : Bool} {t e} {t' e' : Unit → T β} (h1 : Sim R (t ()) (t' ())) (h2 : Sim R (e ()) (e' ())) : Sim R (br b t e : T α) (br b t' e') := by
  cases b
  · exact h2
  · exact h1
theorem Sim.brE {b b' : Bool} {t e} {t' e' : Unit → T β} (q : b = b') (h1 : Sim R (t ()) (t' ())) (h2 : Sim R (e ()) (e' ())) : Sim R (Mine.br b t e : T α) (Mine.br b' t' e') := q ▸ .br h1 h2
end
theorem VL.length {W vs vs'} (h : VL W vs vs') : vs'.length = vs.length :=
  h.ind (P := fun a b => b.length = a.length) rfl (fun _ _ r => congrArg (· + 1) r)
theorem VL.back {W vs vs'} (h : VL W vs vs') : ∀ ys' : List AV, (∀ y ∈ ys', y ∈ vs') → ∃ ys, (∀ y ∈ ys, y ∈ vs) ∧ VL W ys ys'
  | [], _ => ⟨[], by simp, .nil⟩
  | y' :: r', k => by
    obtain ⟨ys, h1, h2⟩ := VL.back h r' (fun y m => k y (List.mem_cons_of_mem _ m))
    have key : ∀ {vs vs'}, VL W vs vs' → y' ∈ vs' → ∃ y ∈ vs, VX W y y' := by
      intro vs vs' h m
      clear k h1 h2
      induction vs generalizing vs' with
      | nil => cases h; simp at m
      | cons a l ih =>
        cases h with
        | cons p q =>
          rcases List.mem_cons.1 m with m | m
          · exact ⟨a, List.mem_cons_self .., m ▸ p⟩
          · obtain ⟨z, z1, z2⟩ := ih q m
            exact ⟨z, List.mem_cons_of_mem _ z1, z2⟩
    obtain ⟨y, y1, y2⟩ := key h (k y' (List.mem_cons_self ..))
    exact ⟨y :: ys, fun z m => (List.mem_cons.1 m).elim (fun e => e ▸ y1) (h1 z), .cons y2 h2⟩
theorem Sim.pick {α β : Type} {R : α → β → Prop} {W vs vs' k} {k' : List AV → T β} (h : VL W vs vs')
    (g : ∀ ys ys', ys.length = vs.length → VL W ys ys' → Sim R (k ys) (k' ys')) : Sim R (.pick vs k : T α) (.pick vs' k') := fun P x ys' l m => by
  obtain ⟨ys, h1, h2⟩ := h.back ys' m
  have l' : ys.length = vs.length := by rw [← h2.length, l, h.length]
  exact g ys ys' l' h2 P (x ys l' h1)
theorem VX.int' {W i v} (h : VX W (.int i) v) : v = .int i := h.inv
theorem VX.bool' {W i v} (h : VX W (.bool i) v) : v = .bool i := h.inv
theorem VX.str' {W i v} (h : VX W (.str i) v) : v = .str i := h.inv
theorem VX.none' {W v} (h : VX W .none v) : v = .none := h.inv
theorem KX.ind {W} {P : List (Nat × AV) → List (Nat × AV) → Prop} (h0 : P [] []) (h1 : ∀ {k a b l r}, VX W a b → KX W l r → P l r → P ((k, a) :: l) ((k, b) :: r)) {v v'} (x : KX W v v') : P v v' :=
  @KX.rec W (fun a b _ => P a b) h0 (fun a b p => h1 a b p) _ _ x
noncomputable def OptX {α β : Type} (V : α → β → Prop) (a : Option α) (b : Option β) : Prop := a = none ∨ ∃ x y, a = some x ∧ b = some y ∧ V x y
theorem Sim.opt {α β γ δ : Type} {R : γ → δ → Prop} {V : α → β → Prop} {a b} {f : α → T γ} {g : β → T δ} (h : OptX V a b) (k : ∀ x y, V x y → Sim R (f x) (g y)) : Sim R (opt a f) (opt b g) := by
  rcases h with rfl | ⟨x, y, rfl, rfl, h⟩
  · exact .stuck
  · exact k x y h
theorem lk_t {j k v r} (h : Nat.beq j k = true) : lk k ((j, v) :: r) = some v := congrArg (fun b : Bool => match b with | true => some v | false => lk k r) h
theorem lk_f {j k v r} (h : Nat.beq j k = false) : lk k ((j, v) :: r) = lk k r := congrArg (fun b : Bool => match b with | true => some v | false => lk k r) h
theorem put_t {j k v u r} (h : Nat.beq j k = true) : put k v ((j, u) :: r) = (j, v) :: r := congrArg (fun b : Bool => match b with | true => (j, v) :: r | false => (j, u) :: put k v r) h
theorem put_f {j k v u r} (h : Nat.beq j k = false) : put k v ((j, u) :: r) = (j, u) :: put k v r := congrArg (fun b : Bool => match b with | true => (j, v) :: r | false => (j, u) :: put k v r) h
theorem lk_x {W k kv kv'} (h : KX W kv kv') : OptX (VX W) (lk k kv) (lk k kv') :=
  h.ind (P := fun a b => OptX (VX W) (lk k a) (lk k b)) (.inl rfl) fun {j _ _ _ _} a _ r => by
    cases h : Nat.beq j k
    · rw [lk_f h, lk_f h]; exact r
    · exact .inr ⟨_, _, lk_t h, lk_t h, a⟩
theorem lk_xn {W k kv kv'} (h : KX W kv kv') : lk k kv = none → lk k kv' = none :=
  h.ind (P := fun a b => lk k a = none → lk k b = none) id fun {j _ _ _ _} a _ r => by
    cases h : Nat.beq j k
    · rw [lk_f h, lk_f h]; exact r
    · exact fun q => nomatch (lk_t h).symm.trans q
theorem put_x {W k v v'} (h : VX W v v') {kv kv'} (x : KX W kv kv') : KX W (put k v kv) (put k v' kv') :=
  x.ind (P := fun a b => KX W (put k v a) (put k v' b)) (.cons h .nil) fun {j _ _ _ _} a l r => by
    cases q : Nat.beq j k
    · rw [put_f q, put_f q]; exact .cons a r
    · rw [put_t q, put_t q]; exact .cons h l
theorem zipE_x {W xs vs vs'} (h : VL W vs vs') : OptX (KX W) (zipE xs vs) (zipE xs vs') :=
  h.ind (P := fun a b => ∀ xs, OptX (KX W) (zipE xs a) (zipE xs b)) (fun xs => List.casesOn xs (.inr ⟨_, _, rfl, rfl, .nil⟩) fun _ _ => .inl rfl) (fun {v v' l r} a _ ih xs => List.casesOn xs (.inl rfl) fun x xs =>
    (ih xs).elim (fun h => .inl (congrArg (Option.map ((x, v) :: ·)) h)) fun ⟨e, e', h1, h2, h3⟩ => .inr ⟨_, _, congrArg (Option.map ((x, v) :: ·)) h1, congrArg (Option.map ((x, v') :: ·)) h2, .cons a h3⟩) xs
theorem lk_put_self {k v kv} : lk k (put k v kv) = some v := by
  induction kv with
  | nil => exact lk_t (Nat.beq_refl k)
  | cons p r ih =>
    cases h : Nat.beq p.1 k
    · rw [put_f h, lk_f h]; exact ih
    · rw [put_t h]; exact lk_t h
theorem beq_ne {i j : Nat} (h : i ≠ j) : Nat.beq i j = false := by
  cases h' : Nat.beq i j
  · rfl
  · exact absurd (Nat.eq_of_beq_eq_true h') h
theorem lk_put_ne {k j v} (h : j ≠ k) {kv} : lk j (put k v kv) = lk j kv := by
  induction kv with
  | nil => exact lk_f (beq_ne h.symm)
  | cons p r ih =>
    obtain ⟨i, u⟩ := p
    cases h' : Nat.beq i k
    · rw [put_f h']
      cases h'' : Nat.beq i j
      · rw [lk_f h'', lk_f h'', ih]
      · rw [lk_t h'', lk_t h'']
    · have := Nat.eq_of_beq_eq_true h'
      subst this
      rw [put_t h', lk_f (beq_ne h.symm), lk_f (beq_ne h.symm)]
end Mine.R
end

section
set_option linter.all false
set_option bootstrap.genMatcherCode false
namespace Mine.R
noncomputable abbrev RR {α β : Type} (V : Wr → α → β → Prop) (W : Wr) (H : HS) : α × HS → β × HS → Prop := fun a b => ∃ W', Ext W H W' a.2 b.2 ∧ V W' a.1 b.1
section
variable {α β γ δ : Type} {V : Wr → α → β → Prop} {V2 : Wr → γ → δ → Prop} {W : Wr} {C H : HS}
theorem Sim.bindR {t : T (α × HS)} {t' : T (β × HS)} {f : α × HS → T (γ × HS)} {g : β × HS → T (δ × HS)} (h : Sim (RR V W H) t t')
    (k : ∀ W' a b, Ext W H W' a.2 b.2 → V W' a.1 b.1 → Sim (RR V2 W' b.2) (f a) (g b)) : Sim (RR V2 W H) (t.bind f) (t'.bind g) :=
  Sim.bind h fun a b ⟨W', e, v⟩ => Sim.mono (k W' a b e v) fun c d ⟨W'', e', v'⟩ => ⟨W'', e.trans e', v'⟩
theorem leafR {x : α} {y : β} (e : Emb W C H) (v : V W x y) : Sim (RR V W H) (.leaf (x, C)) (.leaf (y, H)) := .leaf ⟨W, .refl e, v⟩
theorem newR {o o'} (e : Emb W C H) (h : OX W o o') : Sim (RR VX W H) (.leaf (.ref (hlen C), hnew C o)) (.leaf (.ref (hlen H), hnew H o')) :=
  .leaf ⟨_, e.new' h, .ref Wr.ext_last⟩
end
section
variable {W : Wr} {C H : HS}
theorem VX.ref' {i v} (h : VX W (.ref i) v) : ∃ j, v = .ref j ∧ W i j := h.inv
theorem VX.tup' {i v} (h : VX W (.tup i) v) : ∃ j, v = .tup j ∧ VL W i j := h.inv
theorem VX.blist' {i v} (h : VX W (.blist i) v) : ∃ j, v = .blist j ∧ VL W i j := h.inv
theorem VX.glob' {i v} (h : VX W (.glob i) v) : v = .glob i := h.inv
theorem VX.bytes' {i v} (h : VX W (.bytes i) v) : v = .bytes i := h.inv
theorem VL.nil' {v} (h : VL W [] v) : v = [] := h.inv
theorem VL.cons' {a l v} (h : VL W (a :: l) v) : ∃ b r, v = b :: r ∧ VX W a b ∧ VL W l r := h.inv
theorem OX.list' {vs o} (h : OX W (.list vs) o) : ∃ vs', o = .list vs' ∧ VL W vs vs' := h.inv
theorem OX.il' {vs o} (h : OX W (.ilist vs) o) : o = .list (vs.map .int) := h.inv
theorem OX.rc' {vs o} (h : OX W (.rc vs) o) : ∃ vs', o = .rc vs' ∧ KX W vs vs' := h.inv
theorem OX.attrs' {vs o} (h : OX W (.attrs vs) o) : ∃ vs', o = .attrs vs' ∧ KX W vs vs' := h.inv
theorem OX.inst' {c d o} (h : OX W (.inst c d) o) : ∃ d', o = .inst c d' ∧ W d d' := h.inv
theorem OX.fd' {f o} (h : OX W (.fdict f) o) : ∃ kv, o = .rc kv ∧ ∀ k, lk k kv = (f k).map .int := h.inv
theorem OX.cell' {x o} (h : OX W (.cell (some x)) o) : ∃ y, o = .cell (some y) ∧ VX W x y :=
  h.inv.elim (fun h => nomatch h.1) fun ⟨_, y, e, h, v⟩ => ⟨y, h, Option.some.inj e ▸ v⟩
noncomputable def KXi (W : Wr) : List (Nat × AV) → List (Nat × AV) → Prop
  | [], v => v = []
  | a :: l, v => ∃ b r, v = (a.1, b) :: r ∧ VX W a.2 b ∧ KX W l r
theorem KX.inv {v v'} (h : KX W v v') : KXi W v v' := @KX.casesOn W (fun a b _ => KXi W a b) _ _ h rfl (fun a r => ⟨_, _, rfl, a, r⟩)
theorem KX.nil' {v} (h : KX W [] v) : v = [] := h.inv
theorem KX.cons' {a l v} (h : KX W (a :: l) v) : ∃ b r, v = (a.1, b) :: r ∧ VX W a.2 b ∧ KX W l r := h.inv
theorem VX.at {i v} (e : Emb W C H) (h : VX W (.ref i) v) : ∃ j o o', v = .ref j ∧ W i j ∧ hget C i = some o ∧ hget H j = some o' ∧ OX W o o' := by
  obtain ⟨j, rfl, w⟩ := h.ref'
  obtain ⟨o, o', h1, h2, h3⟩ := e.obj _ _ w
  exact ⟨j, o, o', rfl, w, h1, h2, h3⟩
theorem binop_x {o a b a' b'} (ha : VX W a a') (hb : VX W b b') : Sim (VX W) (binop std o a b) (binop std o a' b') := by
  cases a with
  | int x => cases b with
    | int y =>
      rw [ha.int', hb.int']
      cases o
      · exact .leaf (.int _)
      · exact .leaf (.int _)
      · exact .br (.leaf (.int _)) .stuck
      · exact .ck id fun _ => .leaf (.int _)
      · exact .ck id fun _ => .leaf (.int _)
    | _ => exact .stuck
  | _ => exact .stuck
theorem sim_eq {α : Type} : ∀ {t : T α}, Sim Eq t t := fun P x => T.All.mono (fun a y => y a rfl) x
theorem cmpop_x {c a b a' b'} (ha : VX W a a') (hb : VX W b b') : Sim Eq (cmpop std c a b) (cmpop std c a' b') := by
  cases a with
  | int x => cases b with
    | int y => rw [ha.int', hb.int']; exact sim_eq
    | none => rw [ha.int', hb.none']; exact sim_eq
    | _ => exact .stuck
  | str x => cases b with
    | str y => rw [ha.str', hb.str']; exact sim_eq
    | _ => exact .stuck
  | bool x => cases b with
    | bool y => rw [ha.bool', hb.bool']; exact sim_eq
    | _ => exact .stuck
  | none => cases b with
    | int y => rw [ha.none', hb.int']; exact sim_eq
    | none => rw [ha.none', hb.none']; exact sim_eq
    | _ => exact .stuck
  | _ => exact .stuck
theorem truthV_x {a a'} (ha : VX W a a') : Sim Eq (truthV a) (truthV a') := by
  cases a with
  | none => rw [ha.none']; exact sim_eq
  | bool x => rw [ha.bool']; exact sim_eq
  | _ => exact .stuck
theorem isNoneV_x {a a'} (ha : VX W a a') : isNoneV a = isNoneV a' := by
  cases ha <;> rfl
theorem opt_map {α β : Type} (f : α → β) {a b : Option α} (h : OptX Eq a b) : OptX Eq (a.map f) (b.map f) :=
  h.elim (fun h => .inl (congrArg (Option.map f) h)) fun ⟨x, y, h1, h2, h3⟩ => .inr ⟨f x, f y, congrArg (Option.map f) h1, congrArg (Option.map f) h2, congrArg f h3⟩
theorem allInts_x {vs vs'} (h : VL W vs vs') : OptX Eq (allInts vs) (allInts vs') :=
  h.ind (P := fun a b => OptX Eq (allInts a) (allInts b)) (.inr ⟨_, _, rfl, rfl, rfl⟩) fun {a b l r} x _ ih => by
    cases x <;> first | exact .inl rfl | exact opt_map _ ih
theorem allStrs_x {vs vs'} (h : VL W vs vs') : OptX Eq (allStrs vs) (allStrs vs') :=
  h.ind (P := fun a b => OptX Eq (allStrs a) (allStrs b)) (.inr ⟨_, _, rfl, rfl, rfl⟩) fun {a b l r} x _ ih => by
    cases x <;> first | exact .inl rfl | exact opt_map _ ih
theorem allInts_map (ns : List Int) : allInts (ns.map .int) = some ns :=
  List.rec (motive := fun ns => allInts (ns.map .int) = some ns) rfl (fun n _ h => congrArg (Option.map (n :: ·)) h) ns
theorem VL.ints (ns : List Int) : VL W (ns.map .int) (ns.map .int) :=
  List.rec (motive := fun ns => VL W (ns.map .int) (ns.map .int)) .nil (fun n _ h => .cons (.int n) h) ns
theorem VL.ints' {ns : List Int} : ∀ {vs}, VL W (ns.map .int) vs → vs = ns.map .int :=
  List.rec (motive := fun ns => ∀ {vs}, VL W (ns.map .int) vs → vs = ns.map .int) (fun h => h.nil') (fun n r ih _ h => by
    obtain ⟨b, l, rfl, h1, h2⟩ := h.cons'
    rw [h1.int', ih h2]; rfl) ns
theorem nthD_x {vs vs' k} (h : VL W vs vs') : VX W (nthD .none vs k) (nthD .none vs' k) :=
  h.ind (P := fun a b => ∀ k, VX W (nthD .none a k) (nthD .none b k)) (fun _ => .none) (fun a _ ih k => Nat.casesOn k a ih) k
theorem setNth_x {x x'} (hx : VX W x x') {vs vs' k} (h : VL W vs vs') : VL W (setNth vs k x) (setNth vs' k x') :=
  h.ind (P := fun a b => ∀ k, VL W (setNth a k x) (setNth b k x')) (fun _ => .nil) (fun a r ih k => Nat.casesOn k (.cons hx r) fun k => .cons a (ih k)) k
theorem VL.take {vs vs'} (k : Nat) (h : VL W vs vs') : VL W (vs.take k) (vs'.take k) :=
  h.ind (P := fun a b => ∀ k, VL W (a.take k) (b.take k)) (fun k => Nat.casesOn k .nil fun _ => .nil) (fun a r ih k => Nat.casesOn k .nil fun k => .cons a (ih k)) k
theorem VL.append {vs vs' us us'} (h : VL W vs vs') (h' : VL W us us') : VL W (vs ++ us) (vs' ++ us') :=
  h.ind (P := fun a b => VL W (a ++ us) (b ++ us')) h' (fun a _ ih => .cons a ih)
theorem VL.reverse {vs vs'} (h : VL W vs vs') : VL W vs.reverse vs'.reverse :=
  h.ind (P := fun a b => VL W a.reverse b.reverse) .nil (fun a _ ih => by rw [List.reverse_cons, List.reverse_cons]; exact ih.append (.cons a .nil))
theorem nthD_map (ns : List Int) : ∀ (k : Nat), k < ns.length → nthD AV.none (ns.map AV.int) k = AV.int (ns.getD k 0) := by
  induction ns with
  | nil => exact fun _ h => absurd h (Nat.not_lt_zero _)
  | cons n r ih => exact fun k => Nat.casesOn k (fun _ => rfl) fun k h => ih k (Nat.lt_of_succ_lt_succ h)
theorem foldr_x {kv kv'} (h0 : KX W kv kv') {l l'} (h : KX W l l') : KX W (l.foldr (fun p l => put p.1 p.2 l) kv) (l'.foldr (fun p l => put p.1 p.2 l) kv') :=
  h.ind (P := fun l l' => KX W (l.foldr (fun (p : Nat × AV) l => put p.1 p.2 l) kv) (l'.foldr (fun (p : Nat × AV) l => put p.1 p.2 l) kv')) h0 fun a _ ih => put_x a ih
theorem instAt_x {v v'} (e : Emb W C H) (h : VX W v v') : OptX (fun a b => a.1 = b.1 ∧ a.2.1 = b.2.1 ∧ W a.2.2.1 b.2.2.1 ∧ KX W a.2.2.2 b.2.2.2) (instAt C v) (instAt H v') := by
  cases v with
  | ref i =>
    obtain ⟨j, o, o', rfl, w, h1, h2, h3⟩ := h.at e
    unfold instAt
    dsimp only
    rw [h1, h2]
    cases o with
    | inst c d =>
      obtain ⟨d', rfl, w'⟩ := h3.inst'
      obtain ⟨p, p', k1, k2, k3⟩ := e.obj _ _ w'
      dsimp only
      rw [k1, k2]
      cases find c clsTab with
      | none => exact .inl rfl
      | some cl =>
        cases p with
        | attrs kv =>
          obtain ⟨kv', rfl, kx⟩ := k3.attrs'
          exact .inr ⟨(c, cl, d, kv), (c, cl, d', kv'), rfl, rfl, rfl, rfl, w', kx⟩
        | _ => exact .inl rfl
    | _ => exact .inl rfl
  | _ => exact .inl rfl
theorem getA_x {v v' a} (e : Emb W C H) (h : VX W v v') : OptX (VX W) (getA C v a) (getA H v' a) := by
  unfold getA
  rcases instAt_x e h with q | ⟨⟨c, cl, d, kv⟩, ⟨c', cl', d', kv'⟩, q, q', rfl, rfl, w, kx⟩
  · rw [q]; exact .inl rfl
  · rw [q, q']
    dsimp only at kx ⊢
    cases has a cl.attrs
    · exact .inl rfl
    · exact lk_x kx
theorem setA_x {v v' a x x'} (e : Emb W C H) (h : VX W v v') (hx : VX W x x') : OptX (fun C' H' => Ext W H W C' H') (setA C v a x) (setA H v' a x') := by
  unfold setA
  rcases instAt_x e h with q | ⟨⟨c, cl, d, kv⟩, ⟨c', cl', d', kv'⟩, q, q', rfl, rfl, w, kx⟩
  · rw [q]; exact .inl rfl
  · rw [q, q']
    dsimp only at kx w ⊢
    cases has a cl.attrs
    · exact .inl rfl
    · exact .inr ⟨_, _, rfl, rfl, e.set w (.attrs (put_x hx kx))⟩
theorem inV_x {a a' b b'} (e : Emb W C H) (ha : VX W a a') (hb : VX W b b') : Sim Eq (inV std C a b) (inV std H a' b') := by
  cases a with
  | int x => cases b with
    | ref i =>
      rw [ha.int']
      obtain ⟨j, o, o', rfl, w, h1, h2, h3⟩ := hb.at e
      unfold inV
      dsimp only
      rw [h1, h2]
      cases o with
      | list vs =>
        obtain ⟨vs', rfl, l⟩ := h3.list'
        exact .opt (allInts_x l) fun x y e => by subst e; exact .leaf rfl
      | ilist ns =>
        rw [h3.il']
        dsimp only
        rw [allInts_map]
        exact .leaf rfl
      | _ => exact .stuck
    | _ => exact .stuck
  | str x => cases b with
    | tup vs =>
      obtain ⟨vs', rfl, l⟩ := hb.tup'
      rw [ha.str']
      unfold inV
      dsimp only
      rcases allStrs_x l with h | ⟨x, y, h1, h2, rfl⟩
      · rw [h]; exact .stuck
      · rw [h1, h2]; exact .leaf rfl
    | _ => exact .stuck
  | _ => exact .stuck
theorem listAt_x {v v'} (e : Emb W C H) (h : VX W v v') : OptX (VL W) (listAt C v) (listAt H v') := by
  cases v with
  | ref i =>
    obtain ⟨j, o, o', rfl, w, h1, h2, h3⟩ := h.at e
    unfold listAt
    dsimp only
    rw [h1, h2]
    cases o with
    | list vs =>
      obtain ⟨vs', rfl, l⟩ := h3.list'
      exact .inr ⟨_, _, rfl, rfl, l⟩
    | _ => exact .inl rfl
  | blist vs =>
    obtain ⟨vs', rfl, l⟩ := h.blist'
    exact .inr ⟨_, _, rfl, rfl, l⟩
  | _ => exact .inl rfl
theorem hide_x {v v'} (e : Emb W C H) (h : VX W v v') : Ext W H W (hideV C v) (hideV H v') := by
  cases h <;> first | exact .refl e | exact e.set (by assumption) .gone
theorem show_x {v v' vs vs'} (e : Emb W C H) (h : VX W v v') (l : VL W vs vs') : Ext W H W (showV C v vs) (showV H v' vs') := by
  cases h <;> first | exact .refl e | exact e.set (by assumption) (.list l)
theorem subV_x {a a' b b'} (e : Emb W C H) (ha : VX W a a') (hb : VX W b b') : Sim (VX W) (subV std C a b) (subV std H a' b') := by
  cases a with
  | bytes ns => cases b with
    | int k => rw [ha.bytes', hb.int']; exact .ck id fun _ => .leaf (.int _)
    | _ => exact .stuck
  | tup vs => cases b with
    | int k =>
      obtain ⟨vs', rfl, l⟩ := ha.tup'
      rw [hb.int']
      exact .ck (fun h => by rw [l.length]; exact h) fun _ => .leaf (nthD_x l)
    | _ => exact .stuck
  | blist vs => cases b with
    | int k =>
      obtain ⟨vs', rfl, l⟩ := ha.blist'
      rw [hb.int']
      exact .ck (fun h => by rw [l.length]; exact h) fun _ => .leaf (nthD_x l)
    | _ => exact .stuck
  | ref i =>
    obtain ⟨j, o, o', rfl, w, h1, h2, h3⟩ := ha.at e
    cases b with
    | int k =>
      rw [hb.int']
      unfold subV
      dsimp only
      rw [h1, h2]
      cases o with
      | list vs =>
        obtain ⟨vs', rfl, l⟩ := h3.list'
        exact .ck (fun h => by rw [l.length]; exact h) fun _ => .leaf (nthD_x l)
      | ilist ns =>
        rw [h3.il']
        exact .ck (fun h => by rw [List.length_map]; exact h) fun h => .leaf (by
          rw [nthD_map]
          · exact .int _
          · have := h.1; have := h.2.1; omega)
      | _ => exact .stuck
    | str k =>
      rw [hb.str']
      unfold subV
      dsimp only
      rw [h1, h2]
      cases o with
      | rc kv =>
        obtain ⟨kv', rfl, kx⟩ := h3.rc'
        exact .opt (lk_x kx) fun x y h => .leaf h
      | fdict f =>
        obtain ⟨kv', rfl, hf⟩ := h3.fd'
        refine .ckL fun h => ?_
        have h' : (f k).isSome = true := h
        cases q : f k with
        | none => rw [q] at h'; cases h'
        | some z =>
          dsimp only
          rw [hf k, q]
          have : std.dget f k 0 = z := by show (f k).getD 0 = z; rw [q]; rfl
          rw [this]
          exact .leaf (.int _)
      | _ => exact .stuck
    | _ => exact .stuck
  | _ => exact .stuck
theorem setS_x {a a' b b' x x'} (e : Emb W C H) (ha : VX W a a') (hb : VX W b b') (hx : VX W x x') : Sim (fun C' H' => Ext W H W C' H') (setS std C a b x) (setS std H a' b' x') := by
  cases a with
  | ref i =>
    obtain ⟨j, o, o', rfl, w, h1, h2, h3⟩ := ha.at e
    cases b with
    | int k =>
      rw [hb.int']
      unfold setS
      dsimp only
      rw [h1, h2]
      cases o with
      | list vs =>
        obtain ⟨vs', rfl, l⟩ := h3.list'
        exact .ck (fun h => by rw [l.length]; exact h) fun _ => .leaf (e.set w (.list (setNth_x hx l)))
      | _ => exact .stuck
    | str k =>
      rw [hb.str']
      unfold setS
      dsimp only
      rw [h1, h2]
      cases o with
      | rc kv =>
        obtain ⟨kv', rfl, kx⟩ := h3.rc'
        exact .leaf (e.set w (.rc (put_x hx kx)))
      | fdict f =>
        obtain ⟨kv', rfl, hf⟩ := h3.fd'
        cases x with
        | int n =>
          rw [hx.int']
          refine .leaf (e.set w (.fd fun z => ?_))
          by_cases q : z = k
          · subst q
            rw [lk_put_self]; simp [std]
          · rw [lk_put_ne q, hf z]; simp [std, q]
        | _ => exact .stuck
      | _ => exact .stuck
    | _ => exact .stuck
  | _ => exact .stuck
theorem row2_x {v v'} (h : VX W v v') : row2 v = row2 v' := by
  cases h with
  | tup l =>
    cases l with
    | nil => rfl
    | cons a r => cases a with
      | int _ => cases r with
        | nil => rfl
        | cons b s => cases b <;> rfl
      | _ => rfl
  | _ => rfl
theorem map2_x {vs vs'} (h : VL W vs vs') : vs.map row2 = vs'.map row2 :=
  h.ind (P := fun a b => a.map row2 = b.map row2) rfl fun a _ ih => by rw [List.map_cons, List.map_cons, row2_x a, ih]
theorem sortOk_x {vs vs'} (l : VL W vs vs') (h : sortOk vs) : sortOk vs' :=
  ⟨by rw [l.length]; exact h.1, l.ind (P := fun a b => (∀ v ∈ a, (row2 v).isSome = true) → ∀ v ∈ b, (row2 v).isSome = true) (fun _ => List.forall_mem_nil _) (fun p _ ih h2 v hv =>
      (List.mem_cons.1 hv).elim (fun e => by rw [e, ← row2_x p]; exact h2 _ List.mem_cons_self) fun e => ih (fun v hv => h2 v (List.mem_cons_of_mem _ hv)) v e) h.2.1, by rw [← map2_x l]; exact h.2.2⟩
theorem len_x {v v'} (e : Emb W C H) (h : VX W v v') : Sim (RR VX W H) (app1 std .len v C) (app1 std .len v' H) := by
    cases v with
    | ref i =>
      obtain ⟨j, o, o', rfl, w, h1, h2, h3⟩ := h.at e
      dsimp only [app1]
      rw [h1, h2]
      cases o with
      | list vs =>
        obtain ⟨vs', rfl, l⟩ := h3.list'
        dsimp only
        rw [l.length]
        exact .ck id fun _ => leafR e (.int _)
      | ilist ns =>
        rw [h3.il']
        exact .ck (fun h => by rw [List.length_map]; exact h) fun _ => by rw [List.length_map]; exact leafR e (.int _)
      | _ => exact .stuck
    | blist vs =>
      obtain ⟨vs', rfl, l⟩ := h.blist'
      dsimp only [app1]
      rw [l.length]
      exact .ck id fun _ => leafR e (.int _)
    | _ => exact .stuck
theorem min1_x {v v'} (e : Emb W C H) (h : VX W v v') : Sim (RR VX W H) (app1 std .min v C) (app1 std .min v' H) := by
    cases v with
    | ref i =>
      obtain ⟨j, o, o', rfl, w, h1, h2, h3⟩ := h.at e
      dsimp only [app1]
      rw [h1, h2]
      cases o with
      | list vs =>
        obtain ⟨vs', rfl, l⟩ := h3.list'
        cases vs with
        | nil => exact .stuck
        | cons a r =>
          obtain ⟨a', r', rfl, ha, hr⟩ := l.cons'
          cases a with
          | int x => cases r with
            | nil => rw [ha.int', hr.nil']; exact leafR e (.int _)
            | cons b s => exact .stuck
          | _ => exact .stuck
      | _ => exact .stuck
    | _ => exact .stuck
theorem lst_x {v v'} (e : Emb W C H) (h : VX W v v') : Sim (RR VX W H) (app1 std .list v C) (app1 std .list v' H) := by
    cases v with
    | ref i =>
      obtain ⟨j, o, o', rfl, w, h1, h2, h3⟩ := h.at e
      dsimp only [app1]
      rw [h1, h2]
      cases o with
      | list vs =>
        obtain ⟨vs', rfl, l⟩ := h3.list'
        dsimp only
        rw [l.length]
        exact .ck id fun _ => newR e (.list l)
      | ilist ns =>
        rw [h3.il']
        exact .ck (fun h => by rw [List.length_map]; exact h) fun _ => newR e (.il ns)
      | _ => exact .stuck
    | _ => exact .stuck
theorem byt_x {v v'} (e : Emb W C H) (h : VX W v v') : Sim (RR VX W H) (app1 std .bytes v C) (app1 std .bytes v' H) := by
    cases v with
    | ref i =>
      obtain ⟨j, o, o', rfl, w, h1, h2, h3⟩ := h.at e
      dsimp only [app1]
      rw [h1, h2]
      cases o with
      | list vs =>
        obtain ⟨vs', rfl, l⟩ := h3.list'
        exact .opt (allInts_x l) fun x y q => by subst q; exact .ck id fun _ => leafR e (.bytes _)
      | _ => exact .stuck
    | _ => exact .stuck
theorem srt_x {v v'} (e : Emb W C H) (h : VX W v v') : Sim (RR VX W H) (app1 std .sorted v C) (app1 std .sorted v' H) := by
    cases v with
    | ref i =>
      obtain ⟨j, o, o', rfl, w, h1, h2, h3⟩ := h.at e
      dsimp only [app1]
      rw [h1, h2]
      cases o with
      | list vs =>
        obtain ⟨vs', rfl, l⟩ := h3.list'
        exact .ck (sortOk_x l) fun _ => .pick l fun ys ys' _ l' => newR e (.list l')
      | _ => exact .stuck
    | _ => exact .stuck
theorem app1_x {f v v'} (e : Emb W C H) (h : VX W v v') : Sim (RR VX W H) (app1 std f v C) (app1 std f v' H) := by
  cases f with
  | len => exact len_x e h
  | min => exact min1_x e h
  | list => exact lst_x e h
  | bytes => exact byt_x e h
  | sorted => exact srt_x e h
  | _ => cases v with
    | int x => rw [h.int']; exact leafR e (.int _)
    | _ => exact .stuck
theorem bm_x {v v' m b} (e : Emb W C H) (h : VX W v v') (q : bmOf C v m = some b) : instAt H v' = none ∧ bmOf H v' m = some b := by
  cases v with
  | ref i =>
    obtain ⟨j, o, o', rfl, w, h1, h2, h3⟩ := h.at e
    unfold bmOf at q ⊢
    unfold instAt
    dsimp only at q ⊢
    rw [h1] at q
    rw [h2]
    cases o with
    | list vs => obtain ⟨vs', rfl, l⟩ := h3.list'; exact ⟨rfl, q⟩
    | ilist vs => rw [h3.il']; exact ⟨rfl, q⟩
    | rc vs => obtain ⟨vs', rfl, l⟩ := h3.rc'; exact ⟨rfl, q⟩
    | fdict f =>
      obtain ⟨vs', rfl, l⟩ := h3.fd'
      refine ⟨rfl, ?_⟩
      dsimp only at q ⊢
      cases hb : Nat.beq m nGet
      · rw [hb] at q; exact absurd q (by intro q; cases q)
      · rw [hb] at q; exact q
    | _ => exact absurd q (by intro q; cases q)
  | _ => exact absurd q (by intro q; cases q)
theorem append_x {o o' as as'} (e : Emb W C H) (h : VX W o o') (ha : VL W as as') : Sim (RR VX W H) (meth1 std .append C o as) (meth1 std .append H o' as') := by
  cases o with
  | ref i =>
    obtain ⟨j, p, p', rfl, w, h1, h2, h3⟩ := h.at e
    cases as with
    | nil => exact .stuck
    | cons x r => cases r with
      | cons _ _ => exact .stuck
      | nil =>
        obtain ⟨x', r', rfl, hx, hr⟩ := ha.cons'
        rw [hr.nil']
        unfold meth1
        dsimp only
        rw [h1, h2]
        cases p with
        | list vs =>
          obtain ⟨vs', rfl, l⟩ := h3.list'
          dsimp only
          rw [l.length]
          exact .ck id fun _ => .leaf ⟨W, e.set w (.list (l.append (.cons hx .nil))), .none⟩
        | ilist ns =>
          rw [h3.il']
          cases x with
          | int n =>
            rw [hx.int']
            refine .ck (fun h => by rw [List.length_map]; exact h) fun _ => .leaf ⟨W, e.set w ?_, .none⟩
            have : std.lapp (ns.map .int) (.int n) = (std.iapp ns n).map .int := by simp [std]
            rw [this]
            exact .il _
          | _ => exact .stuck
        | _ => exact .stuck
  | _ => exact .stuck
theorem pop_x {o o' as as'} (e : Emb W C H) (h : VX W o o') (ha : VL W as as') : Sim (RR VX W H) (meth1 std .pop C o as) (meth1 std .pop H o' as') := by
  cases o with
  | ref i =>
    obtain ⟨j, p, p', rfl, w, h1, h2, h3⟩ := h.at e
    cases as with
    | nil => exact .stuck
    | cons x r => cases x with
      | int k => cases r with
        | cons _ _ => exact .stuck
        | nil =>
          obtain ⟨x', r', rfl, hx, hr⟩ := ha.cons'
          rw [hr.nil', hx.int']
          unfold meth1
          dsimp only
          rw [h1, h2]
          cases p with
          | list vs =>
            obtain ⟨vs', rfl, l⟩ := h3.list'
            cases l with
            | nil => exact .stuck
            | cons a r =>
              dsimp only
              rw [r.length]
              exact .ck id fun _ => .leaf ⟨W, e.set w (.list r), a⟩
          | ilist ns =>
            rw [h3.il']
            cases ns with
            | nil => exact .stuck
            | cons n r => exact .ck (fun h => by rw [List.length_map]; exact h) fun _ => .leaf ⟨W, e.set w (.il r), .int _⟩
          | _ => exact .stuck
      | _ => exact .stuck
  | _ => exact .stuck
theorem get_x {o o' as as'} (e : Emb W C H) (h : VX W o o') (ha : VL W as as') : Sim (RR VX W H) (meth1 std .get C o as) (meth1 std .get H o' as') := by
  cases o with
  | ref i =>
    obtain ⟨j, p, p', rfl, w, h1, h2, h3⟩ := h.at e
    cases as with
    | nil => exact .stuck
    | cons x r => cases x with
      | str k => cases r with
        | nil => exact .stuck
        | cons d r => cases r with
          | cons _ _ => exact .stuck
          | nil =>
            obtain ⟨x', r', rfl, hx, hr⟩ := ha.cons'
            obtain ⟨d', r'', rfl, hd, hr⟩ := hr.cons'
            rw [hr.nil', hx.str']
            unfold meth1
            dsimp only
            rw [h1, h2]
            cases p with
            | rc kv =>
              obtain ⟨kv', rfl, kx⟩ := h3.rc'
              refine leafR e ?_
              cases q : lk k kv with
              | none => rw [lk_xn kx q]; exact hd
              | some u =>
                rcases lk_x (k := k) kx with q' | ⟨x, y, q1, q2, q3⟩
                · exact absurd (q.symm.trans q') (by intro q; cases q)
                · rw [q2]
                  have : u = x := Option.some.inj (q.symm.trans q1)
                  rw [this]
                  exact q3
            | fdict f =>
              obtain ⟨kv', rfl, hf⟩ := h3.fd'
              cases d with
              | int z =>
                rw [hd.int']
                refine leafR e ?_
                rw [hf k]
                have : std.dget f k z = (f k).getD z := rfl
                rw [this]
                cases f k <;> exact .int _
              | _ => exact .stuck
            | _ => exact .stuck
      | _ => exact .stuck
  | _ => exact .stuck
theorem update_x {o o' as as'} (e : Emb W C H) (h : VX W o o') (ha : VL W as as') : Sim (RR VX W H) (meth1 std .update C o as) (meth1 std .update H o' as') := by
  cases o with
  | ref i =>
    obtain ⟨j, p, p', rfl, w, h1, h2, h3⟩ := h.at e
    cases as with
    | nil => exact .stuck
    | cons x r => cases x with
      | ref u => cases r with
        | cons _ _ => exact .stuck
        | nil =>
          obtain ⟨x', r', rfl, hx, hr⟩ := ha.cons'
          obtain ⟨u', z, z', rfl, w', k1, k2, k3⟩ := hx.at e
          rw [hr.nil']
          unfold meth1
          dsimp only
          rw [h1, h2, k1, k2]
          cases p with
          | rc kv =>
            obtain ⟨kv', rfl, kx⟩ := h3.rc'
            cases z with
            | rc kz =>
              obtain ⟨kz', rfl, kx'⟩ := k3.rc'
              exact .ck (fun h => fun q => h ((e.inj _ _ _ _ w w').2 q)) fun _ => .leaf ⟨W, e.set w (.rc (foldr_x kx kx')), .none⟩
            | _ => exact .stuck
          | _ => exact .stuck
      | _ => exact .stuck
  | _ => exact .stuck
theorem meth1_x {b o o' as as'} (e : Emb W C H) (h : VX W o o') (ha : VL W as as') : Sim (RR VX W H) (meth1 std b C o as) (meth1 std b H o' as') := by
  cases b
  · exact append_x e h ha
  · exact pop_x e h ha
  · exact get_x e h ha
  · exact update_x e h ha
end
end Mine.R
end

section
set_option linter.all false
set_option bootstrap.genMatcherCode false
namespace Mine.R
noncomputable def EX (W : Wr) (a b : AEnv) : Prop := ∀ x, OptX (VX W) (lk x a) (lk x b)
theorem EX.mono {W W' a b} (h : Wr.le W W') (k : EX W a b) : EX W' a b := fun x => (k x).elim .inl fun ⟨u, v, h1, h2, h3⟩ => .inr ⟨u, v, h1, h2, h3.mono h⟩
theorem EX.put {W a b x u v} (k : EX W a b) (h : VX W u v) : EX W (Mine.put x u a) (Mine.put x v b) := fun y => by
  by_cases q : y = x
  · subst q
    exact .inr ⟨u, v, lk_put_self, lk_put_self, h⟩
  · rw [lk_put_ne q, lk_put_ne q]; exact k y
theorem KX.ex {W a b} (k : KX W a b) : EX W a b := fun _ => lk_x k
noncomputable def GoodCF (cf : CF) : Prop := ∀ {W C H} (f : Nat) {as as'}, Emb W C H → VL W as as' → Sim (RR VX W H) (cf f as C) (cf f as' H)
theorem Sim.after {α β : Type} {V : Wr → α → β → Prop} {W H W' C' H'} {t : T (α × HS)} {t' : T (β × HS)} (x : Ext W H W' C' H') (h : Sim (RR V W' H') t t') : Sim (RR V W H) t t' :=
  Sim.mono h fun c d ⟨W'', e', v'⟩ => ⟨W'', x.trans e', v'⟩
section
variable {W : Wr} {C H : HS} {cf : CF}
theorem callV_x (g : GoodCF cf) {f f' as as'} (e : Emb W C H) (h : VX W f f') (ha : VL W as as') : Sim (RR VX W H) (callV cf f as C) (callV cf f' as' H) := by
  cases h <;> first | exact .stuck | skip
  rename_i a
  unfold callV
  dsimp only
  cases find a clsTab with
  | none =>
    dsimp only
    cases find a fnTab with
    | none => exact .stuck
    | some _ => exact g a e ha
  | some cl =>
    dsimp only
    have e1 := e.new' (o := .attrs []) (o' := .attrs []) (.attrs .nil)
    have e2 := e1.emb.new' (o := .inst a (hlen C)) (o' := .inst a (hlen H)) (.inst a Wr.ext_last)
    have l := Wr.ext_last (W := W.ext (hlen C) (hlen H)) (a := hlen (hnew C (.attrs []))) (b := hlen (hnew H (.attrs [])))
    have e3 := e1.trans e2
    refine Sim.after e3 ?_
    have l' : VX ((W.ext (hlen C) (hlen H)).ext (hlen (hnew C (.attrs []))) (hlen (hnew H (.attrs [])))) (.ref (hlen C + 1)) (.ref (hlen H + 1)) := by
      refine .ref ?_
      rw [hlen_hnew, hlen_hnew] at l
      rw [hlen_hnew, hlen_hnew]
      exact l
    refine Sim.bindR (g cl.init e2.emb (.cons l' (VL.mono e3.le ha))) fun W' p q x v => ?_
    obtain ⟨p1, p2⟩ := p
    obtain ⟨q1, q2⟩ := q
    dsimp only at v x ⊢
    cases v <;> first | exact .stuck | skip
    exact leafR x.emb (l'.mono x.le)
theorem methV_x (g : GoodCF cf) {o o' m} {args args' : T (List AV × HS)} (e : Emb W C H) (h : VX W o o') (ha : Sim (RR VL W H) args args') : Sim (RR VX W H) (methV std cf C o m args) (methV std cf H o' m args') := by
  unfold methV
  rcases instAt_x e h with q | ⟨⟨c, cl, d, kv⟩, ⟨c', cl', d', kv'⟩, q, q', r1, r2, w, kx⟩
  · rw [q]
    dsimp only
    cases hb : bmOf C o m with
    | none => exact .stuck
    | some b =>
      obtain ⟨h1, h2⟩ := bm_x e h hb
      rw [h1]
      dsimp only
      rw [h2]
      exact Sim.bindR ha fun W' a b x l => meth1_x x.emb (h.mono x.le) l
  · rw [q, q']
    dsimp only at r1 r2 w kx ⊢
    subst r1; subst r2
    cases find m cl.meths with
    | none => exact .stuck
    | some f =>
      cases hl : lk m kv with
      | some _ => exact .stuck
      | none =>
        rw [lk_xn kx hl]
        exact Sim.bindR ha fun W' a b x l => g f x.emb (.cons (h.mono x.le) l)
noncomputable def OptB {α β : Type} (V : α → β → Prop) (a : Option α) (b : Option β) : Prop := (a = none ∧ b = none) ∨ ∃ x y, a = some x ∧ b = some y ∧ V x y
theorem compL_x {W0 : Wr} {ev ev' : AV → HS → T (Option AV × HS)} (hev : ∀ {W' C' H' v v'}, W0.le W' → Emb W' C' H' → VX W' v v' → Sim (RR (fun W => OptB (VX W)) W' H') (ev v C') (ev' v' H')) :
    ∀ {vs vs' W C H}, W0.le W → Emb W C H → VL W vs vs' → Sim (RR VL W H) (compL ev vs C) (compL ev' vs' H)
  | _, _, _, _, _, _, e, .nil => leafR e .nil
  | _, _, _, _, _, L, e, .cons a r => by
    unfold compL
    refine Sim.bindR (hev L e a) fun W' p q x v => ?_
    refine Sim.bindR (compL_x hev (Wr.le_trans L x.le) x.emb (VL.mono x.le r)) fun W'' p' q' x' v' => ?_
    refine leafR x'.emb ?_
    rcases v with ⟨h1, h2⟩ | ⟨y, y', h1, h2, h3⟩
    · rw [h1, h2]; exact v'
    · rw [h1, h2]; exact .cons (h3.mono x'.le) v'
theorem upTo_x : ∀ (n i : Nat), VL W (upTo n i) (upTo n i)
  | 0, _ => .nil
  | n + 1, i => .cons (.int _) (upTo_x n (i + 1))
theorem foldl_x : ∀ (xs : List Nat) {vs vs' env env'}, EX W env env' → VL W vs vs' → EX W ((xs.zip vs).foldl (fun e p => put p.1 p.2 e) env) ((xs.zip vs').foldl (fun e p => put p.1 p.2 e) env')
  | [], _, _, _, _, h, _ => by simpa using h
  | x :: xs, _, _, _, _, h, .nil => by simpa using h
  | x :: xs, _, _, _, _, h, .cons a r => by simpa using foldl_x xs (h.put a) r
theorem bindXs_x {xs tp v v' env env'} (h : VX W v v') (k : EX W env env') : OptX (EX W) (bindXs xs tp v env) (bindXs xs tp v' env') := by
  cases tp with
  | false =>
    cases xs with
    | nil => exact .inl rfl
    | cons x r =>
      cases r with
      | nil => exact .inr ⟨_, _, rfl, rfl, k.put h⟩
      | cons _ _ => exact .inl rfl
  | true =>
    cases h <;> first | (refine .inl ?_; cases xs <;> rfl; done) | skip
    rename_i vs vs' l
    have e1 : ∀ vs env, bindXs xs true (.tup vs) env = if vs.length = xs.length then some ((xs.zip vs).foldl (fun e p => put p.1 p.2 e) env) else none := by
      intro vs env; cases xs <;> rfl
    rw [e1, e1, l.length]
    by_cases q : vs.length = xs.length
    · rw [if_pos q, if_pos q]
      exact .inr ⟨_, _, rfl, rfl, foldl_x xs k l⟩
    · rw [if_neg q]; exact .inl rfl
theorem hlen_showV {H v vs} : hlen (showV H v vs) = hlen H := by
  cases v <;> first | rfl | exact hlen_hset
theorem lk_memR : ∀ {l : List (Nat × AV)} {k : Nat} {v : AV}, lk k l = some v → (k, v) ∈ l
  | [], _, _, h => by simp [lk] at h
  | (j, u) :: r, k, v, h => by
    unfold lk at h
    cases q : Nat.beq j k
    · simp only [q] at h
      exact List.mem_cons_of_mem _ (lk_memR h)
    · simp only [q] at h
      have := Nat.eq_of_beq_eq_true q
      subst this
      cases h; exact List.mem_cons_self
theorem glob_x {k v} (h : lk k globTab = some v) : VX W v v := by
  have := lk_memR h
  simp only [globTab, List.mem_cons, Prod.mk.injEq, List.not_mem_nil, or_false] at this
  rcases this with ⟨_, rfl⟩ | ⟨_, rfl⟩ | ⟨_, rfl⟩ | ⟨_, rfl⟩ | ⟨_, rfl⟩ | ⟨_, rfl⟩ | ⟨_, rfl⟩ | ⟨_, rfl⟩ | ⟨_, rfl⟩ | ⟨_, rfl⟩ | ⟨_, rfl⟩ | ⟨_, rfl⟩ | ⟨_, rfl⟩ | ⟨_, rfl⟩ | ⟨_, rfl⟩ | ⟨_, rfl⟩ | ⟨_, rfl⟩ | ⟨_, rfl⟩ | ⟨_, rfl⟩ | ⟨_, rfl⟩
  all_goals first | exact .int _ | exact .str _ | exact .glob _ | exact .blist (.cons (.str _) (.cons (.str _) (.cons (.str _) (.cons (.str _) (.cons (.str _) (.cons (.str _) .nil))))))
theorem glob_o (k) : OptX (VX W) (lk k globTab) (lk k globTab) := by
  cases h : lk k globTab with
  | none => exact .inl rfl
  | some v => exact .inr ⟨_, _, rfl, rfl, glob_x h⟩
theorem cel_x {x env env'} (e : Emb W C H) (k : EX W env env') : Sim (RR VX W H)
    (evalE std cf (.cel x) env C) (evalE std cf (.cel x) env' H) := by
  simp only [eE_cel]
  rcases k x with h | ⟨v, v', h, h', hv⟩
  · rw [h]; exact .stuck
  · rw [h, h']
    cases hv <;> first | exact .stuck | skip
    rename_i i j w
    obtain ⟨o, o', h1, h2, h3⟩ := e.obj _ _ w
    dsimp only
    rw [h1, h2]
    cases h3 <;> first | exact .stuck | skip
    rename_i hv
    exact leafR e hv
end
noncomputable abbrev EqR {α : Type} : Wr → α → α → Prop := fun _ a b => a = b
mutual
theorem sE {cf : CF} (g : GoodCF cf) : ∀ (x : E) {W C H env env'}, Emb W C H → EX W env env' → Sim (RR VX W H) (evalE std cf x env C) (evalE std cf x env' H)
  | .loc x, W, C, H, env, env', e, k => by
    simp only [eE_loc]
    exact .opt (k _) fun u v h => leafR e h
  | .cel x, W, C, H, env, env', e, k => by
    exact cel_x e k
  | .glob x, W, C, H, env, env', e, k => by
    simp only [eE_glob]
    exact .opt (glob_o x) fun u v h => leafR e h
  | .int i, W, C, H, env, env', e, k => by simp only [eE_int]; exact leafR e (.int _)
  | .str i, W, C, H, env, env', e, k => by simp only [eE_str]; exact leafR e (.str _)
  | .bool i, W, C, H, env, env', e, k => by simp only [eE_bool]; exact leafR e (.bool _)
  | .none, W, C, H, env, env', e, k => by simp only [eE_none]; exact leafR e .none
  | .bin o a b, W, C, H, env, env', e, k => by
    simp only [eE_bin]
    refine Sim.bindR (sE g a e k) fun W1 p p' x1 v1 => ?_
    refine Sim.bindR (sE g b x1.emb (EX.mono x1.le k)) fun W2 q q' x2 v2 => ?_
    exact Sim.bind (binop_x (v1.mono x2.le) v2) fun u v h => leafR x2.emb h
  | .cmp c a b, W, C, H, env, env', e, k => by
    simp only [eE_cmp]
    refine Sim.bindR (sE g a e k) fun W1 p p' x1 v1 => ?_
    refine Sim.bindR (sE g b x1.emb (EX.mono x1.le k)) fun W2 q q' x2 v2 => ?_
    exact Sim.bindE (cmpop_x (v1.mono x2.le) v2) fun _ => leafR x2.emb (.bool _)
  | .isIn a b, W, C, H, env, env', e, k => by
    simp only [eE_isIn]
    refine Sim.bindR (sE g a e k) fun W1 p p' x1 v1 => ?_
    refine Sim.bindR (sE g b x1.emb (EX.mono x1.le k)) fun W2 q q' x2 v2 => ?_
    exact Sim.bindE (inV_x x2.emb (v1.mono x2.le) v2) fun _ => leafR x2.emb (.bool _)
  | .notIn a b, W, C, H, env, env', e, k => by
    simp only [eE_notIn]
    refine Sim.bindR (sE g a e k) fun W1 p p' x1 v1 => ?_
    refine Sim.bindR (sE g b x1.emb (EX.mono x1.le k)) fun W2 q q' x2 v2 => ?_
    exact Sim.bindE (inV_x x2.emb (v1.mono x2.le) v2) fun _ => leafR x2.emb (.bool _)
  | .isNone a, W, C, H, env, env', e, k => by
    simp only [eE_isNone]
    refine Sim.bindR (sE g a e k) fun W1 p p' x1 v1 => ?_
    exact leafR x1.emb (isNoneV_x v1 ▸ .bool _)
  | .notNone a, W, C, H, env, env', e, k => by
    simp only [eE_notNone]
    refine Sim.bindR (sE g a e k) fun W1 p p' x1 v1 => ?_
    exact leafR x1.emb (isNoneV_x v1 ▸ .bool _)
  | .and a b, W, C, H, env, env', e, k => by
    simp only [eE_and]
    refine Sim.bindR (sE g a e k) fun W1 p p' x1 v1 => ?_
    refine Sim.bindE (truthV_x v1) fun _ => ?_
    exact .br (sE g b x1.emb (EX.mono x1.le k)) (leafR x1.emb v1)
  | .or a b, W, C, H, env, env', e, k => by
    simp only [eE_or]
    refine Sim.bindR (sE g a e k) fun W1 p p' x1 v1 => ?_
    refine Sim.bindE (truthV_x v1) fun _ => ?_
    exact .br (leafR x1.emb v1) (sE g b x1.emb (EX.mono x1.le k))
  | .not a, W, C, H, env, env', e, k => by
    simp only [eE_not]
    refine Sim.bindR (sE g a e k) fun W1 p p' x1 v1 => ?_
    refine Sim.bindE (truthV_x v1) fun _ => ?_
    exact leafR x1.emb (.bool _)
  | .ife t a b, W, C, H, env, env', e, k => by
    simp only [eE_ife]
    refine Sim.bindR (sT g t e k) fun W1 p p' x1 v1 => ?_
    exact .brE v1 (sE g a x1.emb (EX.mono x1.le k)) (sE g b x1.emb (EX.mono x1.le k))
  | .attr o a, W, C, H, env, env', e, k => by
    simp only [eE_attr]
    refine Sim.bindR (sE g o e k) fun W1 p p' x1 v1 => ?_
    exact .opt (getA_x x1.emb v1) fun u v h => leafR x1.emb h
  | .sub o i, W, C, H, env, env', e, k => by
    simp only [eE_sub]
    refine Sim.bindR (sE g o e k) fun W1 p p' x1 v1 => ?_
    refine Sim.bindR (sE g i x1.emb (EX.mono x1.le k)) fun W2 q q' x2 v2 => ?_
    exact Sim.bind (subV_x x2.emb (v1.mono x2.le) v2) fun u v h => leafR x2.emb h
  | .upto o n, W, C, H, env, env', e, k => by
    simp only [eE_upto]
    refine Sim.bindR (sE g o e k) fun W1 p p' x1 v1 => ?_
    obtain ⟨p1, p2⟩ := p
    obtain ⟨q1, q2⟩ := p'
    dsimp only at v1 x1 ⊢
    cases v1 <;> first | exact .stuck | skip
    rename_i l
    dsimp only
    rw [l.length]
    exact .ck id fun _ => newR x1.emb (.list (l.take n))
  | .call f as, W, C, H, env, env', e, k => by
    simp only [eE_call]
    refine Sim.bindR (sE g f e k) fun W1 p p' x1 v1 => ?_
    refine Sim.bindR (sEs g as x1.emb (EX.mono x1.le k)) fun W2 q q' x2 v2 => ?_
    exact callV_x g x2.emb (v1.mono x2.le) v2
  | .meth o m as, W, C, H, env, env', e, k => by
    simp only [eE_meth]
    refine Sim.bindR (sE g o e k) fun W1 p p' x1 v1 => ?_
    exact methV_x g x1.emb v1 (sEs g as x1.emb (EX.mono x1.le k))
  | .b1 f a, W, C, H, env, env', e, k => by
    simp only [eE_b1]
    refine Sim.bindR (sE g a e k) fun W1 p p' x1 v1 => ?_
    exact app1_x x1.emb v1
  | .max a b, W, C, H, env, env', e, k => by
    simp only [eE_max]
    refine Sim.bindR (sE g a e k) fun W1 p p' x1 v1 => ?_
    refine Sim.bindR (sE g b x1.emb (EX.mono x1.le k)) fun W2 q q' x2 v2 => ?_
    obtain ⟨p1, p2⟩ := p
    obtain ⟨p1', p2'⟩ := p'
    obtain ⟨q1, q2⟩ := q
    obtain ⟨q1', q2'⟩ := q'
    dsimp only at v1 v2 x1 x2 ⊢
    cases v1 <;> cases v2 <;> first | exact .stuck | exact leafR x2.emb (.int _)
  | .tup as, W, C, H, env, env', e, k => by
    simp only [eE_tup]
    refine Sim.bindR (sEs g as e k) fun W1 p p' x1 v1 => ?_
    exact leafR x1.emb (.tup v1)
  | .list as, W, C, H, env, env', e, k => by
    simp only [eE_list]
    refine Sim.bindR (sEs g as e k) fun W1 p p' x1 v1 => ?_
    exact newR x1.emb (.list v1)
  | .dict ks as, W, C, H, env, env', e, k => by
    simp only [eE_dict]
    have e1 := e.new' (o := .rc []) (o' := .rc []) (.rc .nil)
    refine Sim.after e1 ?_
    refine Sim.bindR (sEs g as e1.emb (EX.mono e1.le k)) fun W1 p p' x1 v1 => ?_
    refine .opt (zipE_x v1) fun kv kv' hkv => ?_
    have w : W1 (hlen C) (hlen H) := x1.le _ _ Wr.ext_last
    obtain ⟨o, o', h1, h2, h3⟩ := x1.emb.obj _ _ w
    rw [h1, h2]
    cases h3 <;> first | exact .stuck | skip
    rename_i kx
    cases kx
    · exact .leaf ⟨W1, x1.emb.set w (.rc hkv), .ref w⟩
    · exact .stuck
  | .comp elt xs tp it none c, W, C, H, env, env', e, k => by
    simp only [eE_comp]
    refine Sim.bindR (sE g it e k) fun W1 p p' x1 v1 => ?_
    refine .opt (listAt_x x1.emb v1) fun vs vs' l => ?_
    rw [l.length]
    refine .ck id fun _ => ?_
    have hx := hide_x x1.emb v1
    refine Sim.after hx (Sim.bindR (compL_x (W0 := W1) ?_ (Wr.le_refl _) hx.emb l) fun W2 q q' x2 v2 => ?_)
    · intro W' C' H' v v' L e' hv
      refine .opt (bindXs_x hv (EX.mono (Wr.le_trans x1.le L) k)) fun en en' hen => ?_
      refine Sim.bindR (sE g elt e' hen) fun W3 r r' x3 v3 => ?_
      exact leafR x3.emb (.inr ⟨_, _, rfl, rfl, v3⟩)
    · have hs := show_x x2.emb (v1.mono x2.le) (VL.mono x2.le l)
      refine Sim.after hs ?_
      have := newR hs.emb (.list v2)
      rw [hlen_showV, hlen_showV] at this
      exact this
  | .comp elt xs tp it (some _) c, W, C, H, env, env', e, k => by
    simp only [eE_comp]
    refine Sim.bindR (sE g it e k) fun W1 p p' x1 v1 => ?_
    refine .opt (listAt_x x1.emb v1) fun vs vs' l => ?_
    rw [l.length]
    refine .ck id fun _ => ?_
    have hx := hide_x x1.emb v1
    refine Sim.after hx (Sim.bindR (compL_x (W0 := W1) ?_ (Wr.le_refl _) hx.emb l) fun W2 q q' x2 v2 => ?_)
    · intro W' C' H' v v' L e' hv
      refine .opt (bindXs_x hv (EX.mono (Wr.le_trans x1.le L) k)) fun en en' hen => ?_
      refine Sim.bindR (sT g c e' hen) fun W3 r r' x3 v3 => ?_
      rw [v3]
      refine .br ?_ (leafR x3.emb (.inl ⟨rfl, rfl⟩))
      refine Sim.bindR (sE g elt x3.emb (EX.mono x3.le hen)) fun W4 s s' x4 v4 => ?_
      exact leafR x4.emb (.inr ⟨_, _, rfl, rfl, v4⟩)
    · have hs := show_x x2.emb (v1.mono x2.le) (VL.mono x2.le l)
      refine Sim.after hs ?_
      have := newR hs.emb (.list v2)
      rw [hlen_showV, hlen_showV] at this
      exact this
  | .compR elt x n, W, C, H, env, env', e, k => by
    simp only [eE_compR]
    refine Sim.bindR (sE g n e k) fun W1 p p' x1 v1 => ?_
    obtain ⟨p1, p2⟩ := p
    obtain ⟨q1, q2⟩ := p'
    dsimp only at v1 x1 ⊢
    cases v1 <;> first | exact .stuck | skip
    rename_i i
    refine .ck id fun _ => ?_
    refine Sim.bindR (compL_x (W0 := W1) ?_ (Wr.le_refl _) x1.emb (upTo_x _ _)) fun W2 q q' x2 v2 => ?_
    · intro W' C' H' v v' L e' hv
      refine Sim.bindR (sE g elt e' (EX.put (EX.mono (Wr.le_trans x1.le L) k) hv)) fun W3 r r' x3 v3 => ?_
      exact leafR x3.emb (.inr ⟨_, _, rfl, rfl, v3⟩)
    · exact newR x2.emb (.list v2)
  | .junk, W, C, H, env, env', e, k => by simp only [eE_junk]; exact .stuck
theorem sT {cf : CF} (g : GoodCF cf) : ∀ (x : E) {W C H env env'}, Emb W C H → EX W env env' → Sim (RR EqR W H) (evalT std cf x env C) (evalT std cf x env' H)
  | .not a, W, C, H, env, env', e, k => by
    simp only [eT_not]
    refine Sim.bindR (sT g a e k) fun W1 p p' x1 v1 => ?_
    exact leafR x1.emb (congrArg _ v1)
  | .and a b, W, C, H, env, env', e, k => by
    simp only [eT_and]
    refine Sim.bindR (sT g a e k) fun W1 p p' x1 v1 => ?_
    exact .brE v1 (sT g b x1.emb (EX.mono x1.le k)) (leafR x1.emb rfl)
  | .or a b, W, C, H, env, env', e, k => by
    simp only [eT_or]
    refine Sim.bindR (sT g a e k) fun W1 p p' x1 v1 => ?_
    exact .brE v1 (leafR x1.emb rfl) (sT g b x1.emb (EX.mono x1.le k))
  | .cmp c a b, W, C, H, env, env', e, k => by
    simp only [eT_cmp]
    refine Sim.bindR (sE g a e k) fun W1 p p' x1 v1 => ?_
    refine Sim.bindR (sE g b x1.emb (EX.mono x1.le k)) fun W2 q q' x2 v2 => ?_
    exact Sim.bindE (cmpop_x (v1.mono x2.le) v2) fun _ => leafR x2.emb rfl
  | .isIn a b, W, C, H, env, env', e, k => by
    simp only [eT_isIn]
    refine Sim.bindR (sE g a e k) fun W1 p p' x1 v1 => ?_
    refine Sim.bindR (sE g b x1.emb (EX.mono x1.le k)) fun W2 q q' x2 v2 => ?_
    exact Sim.bindE (inV_x x2.emb (v1.mono x2.le) v2) fun _ => leafR x2.emb rfl
  | .notIn a b, W, C, H, env, env', e, k => by
    simp only [eT_notIn]
    refine Sim.bindR (sE g a e k) fun W1 p p' x1 v1 => ?_
    refine Sim.bindR (sE g b x1.emb (EX.mono x1.le k)) fun W2 q q' x2 v2 => ?_
    exact Sim.bindE (inV_x x2.emb (v1.mono x2.le) v2) fun _ => leafR x2.emb rfl
  | .isNone a, W, C, H, env, env', e, k => by
    simp only [eT_isNone]
    refine Sim.bindR (sE g a e k) fun W1 p p' x1 v1 => ?_
    exact leafR x1.emb (isNoneV_x v1)
  | .notNone a, W, C, H, env, env', e, k => by
    simp only [eT_notNone]
    refine Sim.bindR (sE g a e k) fun W1 p p' x1 v1 => ?_
    exact leafR x1.emb (congrArg _ (isNoneV_x v1))
  | .loc x, W, C, H, env, env', e, k => by
    simp only [eT_loc]
    exact .opt (k _) fun u v h => Sim.bindE (truthV_x h) fun _ => leafR e rfl
  | .call f as, W, C, H, env, env', e, k => by
    simp only [eT_call]
    refine Sim.bindR (sE g f e k) fun W1 p p' x1 v1 => ?_
    refine Sim.bindR (sEs g as x1.emb (EX.mono x1.le k)) fun W2 q q' x2 v2 => ?_
    refine Sim.bindR (callV_x g x2.emb (v1.mono x2.le) v2) fun W3 r r' x3 v3 => ?_
    exact Sim.bindE (truthV_x v3) fun _ => leafR x3.emb rfl
  | .meth o m as, W, C, H, env, env', e, k => by
    simp only [eT_meth]
    refine Sim.bindR (sE g o e k) fun W1 p p' x1 v1 => ?_
    refine Sim.bindR (methV_x g x1.emb v1 (sEs g as x1.emb (EX.mono x1.le k))) fun W3 r r' x3 v3 => ?_
    exact Sim.bindE (truthV_x v3) fun _ => leafR x3.emb rfl
  | .attr o a, W, C, H, env, env', e, k => by
    simp only [eT_attr]
    refine Sim.bindR (sE g o e k) fun W1 p p' x1 v1 => ?_
    refine .opt (getA_x x1.emb v1) fun u v h => ?_
    exact Sim.bindE (truthV_x h) fun _ => leafR x1.emb rfl
  | .cel _, _, _, _, _, _, _, _ => by simp only [eT_cel]; exact .stuck
  | .glob _, _, _, _, _, _, _, _ => by simp only [eT_glob]; exact .stuck
  | .int _, _, _, _, _, _, _, _ => by simp only [eT_int]; exact .stuck
  | .str _, _, _, _, _, _, _, _ => by simp only [eT_str]; exact .stuck
  | .bool _, _, _, _, _, _, _, _ => by simp only [eT_bool]; exact .stuck
  | .none, _, _, _, _, _, _, _ => by simp only [eT_none]; exact .stuck
  | .bin _ _ _, _, _, _, _, _, _, _ => by simp only [eT_bin]; exact .stuck
  | .ife _ _ _, _, _, _, _, _, _, _ => by simp only [eT_ife]; exact .stuck
  | .sub _ _, _, _, _, _, _, _, _ => by simp only [eT_sub]; exact .stuck
  | .upto _ _, _, _, _, _, _, _, _ => by simp only [eT_upto]; exact .stuck
  | .b1 _ _, _, _, _, _, _, _, _ => by simp only [eT_b1]; exact .stuck
  | .max _ _, _, _, _, _, _, _, _ => by simp only [eT_max]; exact .stuck
  | .tup _, _, _, _, _, _, _, _ => by simp only [eT_tup]; exact .stuck
  | .list _, _, _, _, _, _, _, _ => by simp only [eT_list]; exact .stuck
  | .dict _ _, _, _, _, _, _, _, _ => by simp only [eT_dict]; exact .stuck
  | .comp _ _ _ _ _ _, _, _, _, _, _, _, _ => by simp only [eT_comp]; exact .stuck
  | .compR _ _ _, _, _, _, _, _, _, _ => by simp only [eT_compR]; exact .stuck
  | .junk, _, _, _, _, _, _, _ => by simp only [eT_junk]; exact .stuck
theorem sEs {cf : CF} (g : GoodCF cf) : ∀ (x : Es) {W C H env env'}, Emb W C H → EX W env env' → Sim (RR VL W H) (evalEs std cf x env C) (evalEs std cf x env' H)
  | .nil, W, C, H, env, env', e, k => by simp only [eL_nil]; exact leafR e .nil
  | .cons a r, W, C, H, env, env', e, k => by
    simp only [eL_cons]
    refine Sim.bindR (sE g a e k) fun W1 p p' x1 v1 => ?_
    refine Sim.bindR (sEs g r x1.emb (EX.mono x1.le k)) fun W2 q q' x2 v2 => ?_
    exact leafR x2.emb (.cons (v1.mono x2.le) v2)
end
end Mine.R
end

section
set_option linter.all false
set_option bootstrap.genMatcherCode false
namespace Mine.R
section
variable {W : Wr} {C H : HS} {cf : CF}
theorem asgP_x (g : GoodCF cf) {t v v' env env'} (e : Emb W C H) (hv : VX W v v') (k : EX W env env') : Sim (RR EX W H) (asgP std cf t v env C) (asgP std cf t v' env' H) := by
  cases t with
  | loc x => exact leafR e (k.put hv)
  | cel x =>
    simp only [asgP]
    rcases k x with h | ⟨v, v', h, h', hu⟩
    · rw [h]; exact .stuck
    · rw [h, h']
      cases hu <;> first | exact .stuck | skip
      rename_i i j w
      obtain ⟨o, o', h1, h2, h3⟩ := e.obj _ _ w
      dsimp only
      rw [h1, h2]
      cases h3 <;> first | exact .stuck | exact .leaf ⟨W, e.set w (.cell hv), k⟩
  | attr o a =>
    simp only [asgP]
    refine Sim.bindR (sE g o e k) fun W1 p p' x1 v1 => ?_
    exact .opt (setA_x x1.emb v1 (hv.mono x1.le)) fun C' H' x => .leaf ⟨W1, x, EX.mono x1.le k⟩
  | sub o i =>
    simp only [asgP]
    refine Sim.bindR (sE g o e k) fun W1 p p' x1 v1 => ?_
    refine Sim.bindR (sE g i x1.emb (EX.mono x1.le k)) fun W2 q q' x2 v2 => ?_
    exact Sim.bind (setS_x x2.emb (v1.mono x2.le) v2 ((hv.mono x1.le).mono x2.le)) fun C' H' x => .leaf ⟨W2, x, EX.mono x2.le (EX.mono x1.le k)⟩
  | tup _ _ => exact .stuck
theorem asgL_x (g : GoodCF cf) : ∀ {ts vs vs' W C H env env'}, Emb W C H → VL W vs vs' → EX W env env' → Sim (RR EX W H) (asgL std cf ts vs env C) (asgL std cf ts vs' env' H)
  | [], _, _, _, _, _, _, _, e, .nil, k => leafR e k
  | [], _, _, _, _, _, _, _, e, .cons _ _, k => .stuck
  | _ :: _, _, _, _, _, _, _, _, e, .nil, k => .stuck
  | t :: ts, _, _, _, _, _, _, _, e, .cons a r, k => by
    unfold asgL
    refine Sim.bindR (asgP_x g e a k) fun W1 p p' x1 v1 => ?_
    exact asgL_x g x1.emb (VL.mono x1.le r) v1
theorem asg_x (g : GoodCF cf) {t v v' env env'} (e : Emb W C H) (hv : VX W v v') (k : EX W env env') : Sim (RR EX W H) (asg std cf t v env C) (asg std cf t v' env' H) := by
  cases t with
  | tup sw ts =>
    cases hv <;> first | exact .stuck | skip
    rename_i vs vs' l
    simp only [asg]
    rw [l.length]
    cases Nat.beq ts.length vs.length
    · exact .stuck
    · cases sw
      · exact asgL_x g e l k
      · exact asgL_x g e l.reverse k
  | loc x => simp only [asg]; exact asgP_x g e hv k
  | cel x => simp only [asg]; exact asgP_x g e hv k
  | attr o a => simp only [asg]; exact asgP_x g e hv k
  | sub o i => simp only [asg]; exact asgP_x g e hv k
end
inductive FX (W : Wr) : Fl → Fl → Prop
  | next : FX W .next .next
  | ret {v v'} : VX W v v' → FX W (.ret v) (.ret v')
theorem FX.mono {W W'} (h : Wr.le W W') : ∀ {a b}, FX W a b → FX W' a b
  | _, _, .next => .next
  | _, _, .ret v => .ret (v.mono h)
noncomputable abbrev RS (W : Wr) (H : HS) : Fl × AEnv × HS → Fl × AEnv × HS → Prop := fun a b => ∃ W', Ext W H W' a.2.2 b.2.2 ∧ FX W' a.1 b.1 ∧ EX W' a.2.1 b.2.1
section
variable {W : Wr} {C H : HS} {cf : CF}
theorem leafS {a b env env'} (e : Emb W C H) (f : FX W a b) (k : EX W env env') : Sim (RS W H) (.leaf (a, env, C)) (.leaf (b, env', H)) := .leaf ⟨W, .refl e, f, k⟩
theorem Sim.afterS {W' C' H'} {t t' : T (Fl × AEnv × HS)} (x : Ext W H W' C' H') (h : Sim (RS W' H') t t') : Sim (RS W H) t t' :=
  Sim.mono h fun c d ⟨W'', e', v'⟩ => ⟨W'', x.trans e', v'⟩
theorem Sim.bindRS {α β : Type} {V : Wr → α → β → Prop} {t : T (α × HS)} {t' : T (β × HS)} {f : α × HS → T (Fl × AEnv × HS)} {g : β × HS → T (Fl × AEnv × HS)} (h : Sim (RR V W H) t t')
    (k : ∀ W' a b, Ext W H W' a.2 b.2 → V W' a.1 b.1 → Sim (RS W' b.2) (f a) (g b)) : Sim (RS W H) (t.bind f) (t'.bind g) :=
  Sim.bind h fun a b ⟨W', e, v⟩ => Sim.afterS e (k W' a b e v)
theorem Sim.bindSS {t t' : T (Fl × AEnv × HS)} {f g : Fl × AEnv × HS → T (Fl × AEnv × HS)} (h : Sim (RS W H) t t')
    (k : ∀ W' a b, Ext W H W' a.2.2 b.2.2 → FX W' a.1 b.1 → EX W' a.2.1 b.2.1 → Sim (RS W' b.2.2) (f a) (g b)) : Sim (RS W H) (t.bind f) (t'.bind g) :=
  Sim.bind h fun a b ⟨W', e, v, u⟩ => Sim.afterS e (k W' a b e v u)
theorem forS_x {xs tp} {ex ex' : AEnv → HS → T (Fl × AEnv × HS)} (hex : ∀ {W' C' H' env env'}, Emb W' C' H' → EX W' env env' → Sim (RS W' H') (ex env C') (ex' env' H')) :
    ∀ {vs vs' W C H env env'}, Emb W C H → VL W vs vs' → EX W env env' → Sim (RS W H) (forS ex xs tp vs env C) (forS ex' xs tp vs' env' H)
  | _, _, _, _, _, _, _, e, .nil, k => leafS e .next k
  | _, _, _, _, _, _, _, e, .cons a r, k => by
    unfold forS
    refine .opt (bindXs_x a k) fun en en' hen => ?_
    refine Sim.bindSS (hex e hen) fun W1 p p' x1 f1 k1 => ?_
    obtain ⟨p0, p1, p2⟩ := p
    obtain ⟨q0, q1, q2⟩ := p'
    dsimp only at x1 f1 k1 ⊢
    cases f1
    · exact forS_x hex x1.emb (VL.mono x1.le r) k1
    · rename_i hv
      exact leafS x1.emb (.ret hv) k1
end
mutual
theorem sS {cf : CF} (g : GoodCF cf) : ∀ (x : S) {W C H env env'}, Emb W C H → EX W env env' → Sim (RS W H) (execS std cf x env C) (execS std cf x env' H)
  | .assign t a, W, C, H, env, env', e, k => by
    simp only [eS_assign]
    refine Sim.bindRS (sE g a e k) fun W1 p p' x1 v1 => ?_
    refine Sim.bindRS (asg_x g x1.emb v1 (EX.mono x1.le k)) fun W2 q q' x2 v2 => ?_
    exact leafS x2.emb .next v2
  | .augLoc x o a, W, C, H, env, env', e, k => by
    simp only [eS_augLoc]
    refine .opt (k _) fun u v h => ?_
    refine Sim.bindRS (sE g a e k) fun W1 p p' x1 v1 => ?_
    exact Sim.bind (binop_x (h.mono x1.le) v1) fun y y' hy => leafS x1.emb .next (EX.put (EX.mono x1.le k) hy)
  | .augAttr b a o c, W, C, H, env, env', e, k => by
    simp only [eS_augAttr]
    refine Sim.bindRS (sE g b e k) fun W1 p p' x1 v1 => ?_
    refine .opt (getA_x x1.emb v1) fun u v h => ?_
    refine Sim.bindRS (sE g c x1.emb (EX.mono x1.le k)) fun W2 q q' x2 v2 => ?_
    refine Sim.bind (binop_x (h.mono x2.le) v2) fun y y' hy => ?_
    exact .opt (setA_x x2.emb (v1.mono x2.le) hy) fun C' H' x => .leaf ⟨W2, x, .next, EX.mono x2.le (EX.mono x1.le k)⟩
  | .expr a, W, C, H, env, env', e, k => by
    simp only [eS_expr]
    refine Sim.bindRS (sE g a e k) fun W1 p p' x1 v1 => ?_
    exact leafS x1.emb .next (EX.mono x1.le k)
  | .ret a, W, C, H, env, env', e, k => by
    simp only [eS_ret]
    refine Sim.bindRS (sE g a e k) fun W1 p p' x1 v1 => ?_
    exact leafS x1.emb (.ret v1) (EX.mono x1.le k)
  | .ife t a b, W, C, H, env, env', e, k => by
    simp only [eS_ife]
    refine Sim.bindRS (sT g t e k) fun W1 p p' x1 v1 => ?_
    exact .brE v1 (sSs g a x1.emb (EX.mono x1.le k)) (sSs g b x1.emb (EX.mono x1.le k))
  | .forL xs tp it body, W, C, H, env, env', e, k => by
    simp only [eS_forL]
    refine Sim.bindRS (sE g it e k) fun W1 p p' x1 v1 => ?_
    refine .opt (listAt_x x1.emb v1) fun vs vs' l => ?_
    have hx := hide_x x1.emb v1
    refine Sim.afterS hx (Sim.bindSS (forS_x (fun e k => sSs g body e k) hx.emb l (EX.mono x1.le k)) fun W2 q q' x2 f2 k2 => ?_)
    exact Sim.leaf ⟨W2, show_x x2.emb (v1.mono x2.le) (VL.mono x2.le l), f2, k2⟩
  | .forR x n body, W, C, H, env, env', e, k => by
    simp only [eS_forR]
    refine Sim.bindRS (sE g n e k) fun W1 p p' x1 v1 => ?_
    obtain ⟨p1, p2⟩ := p
    obtain ⟨q1, q2⟩ := p'
    dsimp only at v1 x1 ⊢
    cases v1 <;> first | exact .stuck | skip
    exact .ck id fun _ => forS_x (fun e k => sSs g body e k) x1.emb (upTo_x _ _) (EX.mono x1.le k)
  | .junk, W, C, H, env, env', e, k => by simp only [eS_junk]; exact .stuck
theorem sSs {cf : CF} (g : GoodCF cf) : ∀ (x : Ss) {W C H env env'}, Emb W C H → EX W env env' → Sim (RS W H) (execB std cf x env C) (execB std cf x env' H)
  | .nil, W, C, H, env, env', e, k => by simp only [eB_nil]; exact leafS e .next k
  | .cons s r, W, C, H, env, env', e, k => by
    simp only [eB_cons]
    refine Sim.bindSS (sS g s e k) fun W1 p p' x1 f1 k1 => ?_
    obtain ⟨p0, p1, p2⟩ := p
    obtain ⟨q0, q1, q2⟩ := p'
    dsimp only at x1 f1 k1 ⊢
    cases f1
    · exact sSs g r x1.emb k1
    · rename_i hv
      exact leafS x1.emb (.ret hv) k1
end
theorem cellsIn_x : ∀ (cs : List Nat) {W C H env env'}, Emb W C H → KX W env env' → ∃ W', Ext W H W' (cellsIn cs env C).2 (cellsIn cs env' H).2 ∧ KX W' (cellsIn cs env C).1 (cellsIn cs env' H).1
  | [], W, C, H, env, env', e, k => ⟨W, .refl e, k⟩
  | c :: r, W, C, H, env, env', e, k => by
    simp only [cellsIn]
    have ho : OX W (.cell (lk c env)) (.cell (lk c env')) := by
      cases h : lk c env with
      | none => rw [lk_xn k h]; exact .cell0
      | some v =>
        rcases lk_x (k := c) k with q | ⟨x, y, q1, q2, q3⟩
        · rw [h] at q; cases q
        · rw [h] at q1; cases q1
          rw [q2]; exact .cell q3
    have x := e.new' ho
    obtain ⟨W', x', k'⟩ := cellsIn_x r x.emb (put_x (k := c) (.ref Wr.ext_last) (k.mono x.le))
    exact ⟨W', x.trans x', k'⟩
theorem runF_x {cf : CF} (g : GoodCF cf) : GoodCF (runF std cf) := fun {W C H} f {as as'} e l => by
  unfold runF
  cases find f fnTab with
  | none => exact .stuck
  | some fn =>
    simp only [opt]
    refine .opt (zipE_x l) fun env env' k => ?_
    obtain ⟨W1, x1, k1⟩ := cellsIn_x fn.cells e k
    refine Sim.after x1 ?_
    refine Sim.bind (sSs g fn.body x1.emb k1.ex) fun a b ⟨W2, x2, f2, k2⟩ => ?_
    refine .leaf ⟨W2, x2, ?_⟩
    obtain ⟨p0, p1, p2⟩ := a
    obtain ⟨q0, q1, q2⟩ := b
    dsimp only at f2 ⊢
    cases f2 with
    | next => exact .none
    | ret hv => exact hv
theorem callN_x : ∀ n, GoodCF (callN std n)
  | 0 => fun _ _ _ _ _ => .stuck
  | n + 1 => runF_x (callN_x n)
end Mine.R
end

section
set_option linter.all false
set_option bootstrap.genMatcherCode false
namespace Mine.R
theorem transS {cf : CF} (g : GoodCF cf) {s : Ss} {W C H ec env} {Post : Fl × AEnv × HS → Prop} (e : Emb W C H) (k : EX W ec env) (run : (execB std cf s ec C).All Post) :
    (execB std cf s env H).All (fun r => ∃ q W', Post q ∧ Ext W H W' q.2.2 r.2.2 ∧ FX W' q.1 r.1 ∧ EX W' q.2.1 r.2.1) :=
  sSs g s e k _ (T.All.mono (fun q h r ⟨W', x, f, y⟩ => ⟨q, W', h, x, f, y⟩) run)
theorem trans1 {cf : CF} (g : GoodCF cf) {s : S} {W C H ec env} {Post : Fl × AEnv × HS → Prop} (e : Emb W C H) (k : EX W ec env) (run : (execS std cf s ec C).All Post) :
    (execS std cf s env H).All (fun r => ∃ q W', Post q ∧ Ext W H W' q.2.2 r.2.2 ∧ FX W' q.1 r.1 ∧ EX W' q.2.1 r.2.1) :=
  sS g s e k _ (T.All.mono (fun q h r ⟨W', x, f, y⟩ => ⟨q, W', h, x, f, y⟩) run)
theorem transE {cf : CF} (g : GoodCF cf) {x : E} {W C H ec env} {Post : AV × HS → Prop} (e : Emb W C H) (k : EX W ec env) (run : (evalE std cf x ec C).All Post) :
    (evalE std cf x env H).All (fun r => ∃ q W', Post q ∧ Ext W H W' q.2 r.2 ∧ VX W' q.1 r.1) :=
  sE g x e k _ (T.All.mono (fun q h r ⟨W', x, f⟩ => ⟨q, W', h, x, f⟩) run)
theorem transEs {cf : CF} (g : GoodCF cf) {x : Es} {W C H ec env} {Post : List AV × HS → Prop} (e : Emb W C H) (k : EX W ec env) (run : (evalEs std cf x ec C).All Post) :
    (evalEs std cf x env H).All (fun r => ∃ q W', Post q ∧ Ext W H W' q.2 r.2 ∧ VL W' q.1 r.1) :=
  sEs g x e k _ (T.All.mono (fun q h r ⟨W', x, f⟩ => ⟨q, W', h, x, f⟩) run)
inductive OY (R : Wr) : AO → AO → Prop
  | inst (c) {d d'} : R d d' → OY R (.inst c d) (.inst c d')
  | attrs {kv kv'} : KX R kv kv' → OY R (.attrs kv) (.attrs kv')
  | rc {kv kv'} : KX R kv kv' → OY R (.rc kv) (.rc kv')
  | fd (f) : OY R (.fdict f) (.fdict f)
  | fr : OY R (.fdict fun _ => none) (.rc [])
  | list {vs vs'} : VL R vs vs' → OY R (.list vs) (.list vs')
  | il (ns) : OY R (.ilist ns) (.ilist ns)
  | ilm (ns) : OY R (.ilist ns) (.list (ns.map .int))
  | cell {v v'} : VX R v v' → OY R (.cell (some v)) (.cell (some v'))
inductive Subs (R : Wr) (C : HS) : HS → List Nat → Prop
  | nil : Subs R C [] []
  | cons {o o' k D ks} : hget C k = some o' → OY R o o' → Subs R C D ks → Subs R C (o :: D) (k :: ks)
noncomputable def nth? : List Nat → Nat → Option Nat
  | [], _ => none
  | a :: _, 0 => some a
  | _ :: r, n + 1 => nth? r n
noncomputable def Ren (rho : List Nat) : Wr := fun i k => nth? rho i = some k
noncomputable def nodup : List Nat → Bool
  | [] => true
  | a :: r => !has a r && nodup r
structure Sub (D C : HS) (rho : List Nat) : Prop where
  nd : nodup rho = true
  ok : Subs (Ren rho) C D rho
noncomputable def Wr.seq (R W : Wr) : Wr := fun i j => ∃ k, R i k ∧ W k j
noncomputable abbrev VXs (R W : Wr) (a b : AV) : Prop := ∀ c, VX W b c → VX (Wr.seq R W) a c
noncomputable abbrev VLs (R W : Wr) (a b : List AV) : Prop := ∀ c, VL W b c → VL (Wr.seq R W) a c
section
variable {R W : Wr}
theorem vs_k {a b} (x : VX (Wr.seq R W) a b) (h : ∀ c, VX W b c → c = b) : VXs R W a b := fun c k => by rw [h c k]; exact x
theorem vs_ref {i j} (r : R i j) : VXs R W (.ref i) (.ref j) := fun c k => by obtain ⟨j, rfl, w⟩ := k.ref'; exact .ref ⟨_, r, w⟩
theorem vs_tup {i j} (r : VLs R W i j) : VXs R W (.tup i) (.tup j) := fun c k => by obtain ⟨j, rfl, w⟩ := k.tup'; exact .tup (r _ w)
theorem vs_blist {i j} (r : VLs R W i j) : VXs R W (.blist i) (.blist j) := fun c k => by obtain ⟨j, rfl, w⟩ := k.blist'; exact .blist (r _ w)
theorem vs_nil : VLs R W [] [] := fun c k => by rw [k.nil']; exact .nil
theorem vs_cons {a b l r} (x : VXs R W a b) (y : VLs R W l r) : VLs R W (a :: l) (b :: r) := fun c k => by obtain ⟨b, r, rfl, p, q⟩ := k.cons'; exact .cons (x _ p) (y _ q)
theorem VX.seq {a b c} (x : VX R a b) (k : VX W b c) : VX (Wr.seq R W) a c :=
  @VX.rec R (fun a b _ => VXs R W a b) (fun a b _ => VLs R W a b) (vs_k .none fun _ k => k.none') (fun _ => vs_k (.bool _) fun _ k => k.bool') (fun _ => vs_k (.int _) fun _ k => k.int') (fun _ => vs_k (.str _) fun _ k => k.str') (fun _ => vs_k (.bytes _) fun _ k => k.bytes') (fun _ => vs_k (.glob _) fun _ k => k.glob')
    vs_ref (fun _ => vs_tup) (fun _ => vs_blist) vs_nil (fun _ _ => vs_cons) _ _ x _ k
theorem VL.seq {a b c} (x : VL R a b) (k : VL W b c) : VL (Wr.seq R W) a c :=
  x.ind (P := fun a b => VLs R W a b) vs_nil (fun a _ ih => vs_cons (fun _ k => a.seq k) ih) _ k
theorem KX.seq {a b c} (x : KX R a b) (k : KX W b c) : KX (Wr.seq R W) a c :=
  x.ind (P := fun a b => ∀ c, KX W b c → KX (Wr.seq R W) a c) (fun c k => by rw [k.nil']; exact .nil) (fun a _ ih c k => by obtain ⟨b, r, rfl, p, q⟩ := k.cons'; exact .cons (a.seq p) (ih _ q)) _ k
end
theorem EX.seq {R W a b c} (h : EX R a b) (k : EX W b c) : EX (Wr.seq R W) a c := fun x => by
  rcases h x with h | ⟨u, v, h1, h2, h3⟩
  · exact .inl h
  · rcases k x with k | ⟨u', v', k1, k2, k3⟩
    · rw [h2] at k; cases k
    · rw [h2] at k1; cases k1
      exact .inr ⟨_, _, h1, k2, h3.seq k3⟩
theorem OX.seq {R W a b c} (h : OY R a b) (k : OX W b c) : OX (Wr.seq R W) a c := by
  cases h with
  | inst c r => obtain ⟨_, rfl, w⟩ := k.inst'; exact .inst c ⟨_, r, w⟩
  | attrs r => obtain ⟨_, rfl, w⟩ := k.attrs'; exact .attrs (r.seq w)
  | rc r => obtain ⟨_, rfl, w⟩ := k.rc'; exact .rc (r.seq w)
  | fd f => obtain ⟨_, rfl, w⟩ := k.fd'; exact .fd w
  | fr => obtain ⟨_, rfl, w⟩ := k.rc'; rw [w.nil']; exact .fd fun _ => rfl
  | list r => obtain ⟨_, rfl, w⟩ := k.list'; exact .list (r.seq w)
  | il ns => rw [k.il']; exact .il ns
  | ilm ns => obtain ⟨_, rfl, w⟩ := k.list'; rw [VL.ints' w]; exact .il ns
  | cell r => obtain ⟨_, rfl, w⟩ := k.cell'; exact .cell (r.seq w)
theorem has_t {a k r} (h : has k r = true) : has k (a :: r) = true := by
  unfold has
  cases Nat.beq a k
  · exact h
  · rfl
theorem nth_has {l : List Nat} : ∀ {i k}, nth? l i = some k → has k l = true := by
  induction l with
  | nil => exact fun h => nomatch h
  | cons a r ih =>
    intro i k
    cases i with
    | zero => exact fun h => Option.some.inj h ▸ congrArg (fun b : Bool => match b with | true => true | false => has a r) (Nat.beq_refl a)
    | succ i => exact fun h => has_t (ih h)
theorem nodup_no {a r} (n : nodup (a :: r) = true) (h : has a r = true) : False := by
  have := (Bool.and_eq_true_iff.1 n).1
  rw [h] at this
  exact nomatch this
theorem nth_inj {l : List Nat} : ∀ {i j k}, nodup l = true → nth? l i = some k → nth? l j = some k → i = j := by
  induction l with
  | nil => exact fun _ h => nomatch h
  | cons a r ih =>
    intro i j k n
    cases i with
    | zero => cases j with
      | zero => exact fun _ _ => rfl
      | succ j => exact fun h h' => (nodup_no n (Option.some.inj h ▸ nth_has h')).elim
    | succ i => cases j with
      | zero => exact fun h h' => (nodup_no n (Option.some.inj h' ▸ nth_has h)).elim
      | succ j => exact fun h h' => congrArg (· + 1) (ih (Bool.and_eq_true_iff.1 n).2 h h')
theorem Subs.at {R C D ks i k} (s : Subs R C D ks) : nth? ks i = some k → ∃ o o', hget D i = some o ∧ hget C k = some o' ∧ OY R o o' :=
  @Subs.rec R C (fun D ks _ => ∀ i, nth? ks i = some k → ∃ o o', hget D i = some o ∧ hget C k = some o' ∧ OY R o o') (fun _ h => nomatch h)
    (fun a b _ ih i => Nat.casesOn i (fun h => ⟨_, _, rfl, Option.some.inj h ▸ a, b⟩) fun i h => ih i h) _ _ s i
theorem Emb.sub {D C H rho W} (s : Sub D C rho) (e : Emb W C H) : Emb (Wr.seq (Ren rho) W) D H where
  inj := fun i j i' j' ⟨k, r, w⟩ ⟨k', r', w'⟩ => by
    constructor
    · intro h
      subst h
      have : k = k' := by
        have r1 : nth? rho i = some k := r
        have r2 : nth? rho i = some k' := r'
        rw [r1] at r2; cases r2; rfl
      exact (e.inj _ _ _ _ w w').1 this
    · intro h
      have := (e.inj _ _ _ _ w w').2 h
      subst this
      exact nth_inj s.nd r r'
  obj := fun i j ⟨k, r, w⟩ => by
    obtain ⟨o, o', h1, h2, h3⟩ := s.ok.at r
    obtain ⟨p, p', k1, k2, k3⟩ := e.obj _ _ w
    rw [h2] at k1; cases k1
    exact ⟨_, _, h1, k2, OX.seq h3 k3⟩
noncomputable abbrev Rel (w ce : Nat) : Wr := fun i j => (i = 0 ∧ j = w) ∨ (i = 16 ∧ j = ce)
structure Held (D : HS) (w ce : Nat) (H : HS) (U : Nat → Prop) : Prop where
  ex : ∃ W, Emb W D H ∧ W 0 w ∧ W 16 ce ∧ ∀ i j, W i j → U j
structure Frd (U : Nat → Prop) (H : HS) (U' : Nat → Prop) (H' : HS) : Prop where
  new : ∀ j, U' j → U j ∨ hlen H ≤ j
  frm : ∀ j, j < hlen H → ¬ U j → hget H' j = hget H j
  len : hlen H ≤ hlen H'
theorem Frd.refl (U H) : Frd U H U H := ⟨fun _ h => .inl h, fun _ _ _ => rfl, Nat.le_refl _⟩
theorem Frd.trans {U H U' H' U'' H''} (a : Frd U H U' H') (b : Frd U' H' U'' H'') : Frd U H U'' H'' where
  new := fun j h => (b.new j h).elim (fun h => a.new j h) (fun h => .inr (Nat.le_trans a.len h))
  frm := fun j h k => (b.frm j (Nat.lt_of_lt_of_le h a.len) fun x => (a.new j x).elim k fun y => absurd h (Nat.not_lt.2 y)).trans (a.frm j h k)
  len := Nat.le_trans a.len b.len
noncomputable def Out (D' : HS) (ec' : AEnv) (env : AEnv) (C' : HS) : Prop := ∃ rho, Sub D' C' rho ∧ nth? rho 0 = some 0 ∧ nth? rho 16 = some 16 ∧ EX (Ren rho) ec' env
theorem held_of {w ce H U W C' D' rho} {W' : Wr} {H' : HS} (hW : W 0 w) (hc : W 16 ce) (hU : ∀ i j, W i j → U j) (x : Ext W H W' C' H') (s : Sub D' C' rho) (h0 : nth? rho 0 = some 0) (h1 : nth? rho 16 = some 16) :
    ∃ U', Held D' w ce H' U' ∧ Frd U H U' H' ∧ ∀ i j, (∀ a, nth? rho a ≠ some i) → W' i j → ¬ U' j := by
  refine ⟨fun j => ∃ i, Wr.seq (Ren rho) W' i j, ⟨_, x.emb.sub s, ⟨0, h0, x.le _ _ hW⟩, ⟨16, h1, x.le _ _ hc⟩, fun i j h => ⟨i, h⟩⟩, ⟨fun j ⟨i, k, r, w⟩ => ?_, fun j h k => ?_, x.len⟩, fun i j ha w ⟨a, k, r, w'⟩ => ?_⟩
  · exact (x.new _ _ w).elim (fun h => .inl (hU _ _ h)) .inr
  · exact x.frm j h fun i w => k (hU i j w)
  · have := (x.emb.inj _ _ _ _ w w').2 rfl
    subst this
    exact ha a r
noncomputable def plain : AV → Bool
  | .ref i => Nat.beq i 0 || Nat.beq i 16
  | .tup _ => false
  | .blist _ => false
  | _ => true
noncomputable def plains : AEnv → Bool
  | [] => true
  | (_, v) :: r => plain v && plains r
theorem plains_lk {l : AEnv} {x v} : plains l = true → lk x l = some v → plain v = true := by
  induction l with
  | nil => exact fun _ h => nomatch h
  | cons p r ih =>
    obtain ⟨y, u⟩ := p
    intro h
    cases q : Nat.beq y x
    · rw [lk_f q]; exact ih (Bool.and_eq_true_iff.1 h).2
    · rw [lk_t q]; exact fun e => Option.some.inj e ▸ (Bool.and_eq_true_iff.1 h).1
theorem ex_rel {w ce rho ec ec' env' W' C' H'} (hW : W' 0 w) (hc : W' 16 ce) (h0 : nth? rho 0 = some 0) (h1 : nth? rho 16 = some 16) (e : Emb W' C' H')
    (hp : plains ec' = true) (k : EX (Ren rho) ec' ec) (k' : EX W' ec env') : EX (Rel w ce) ec' env' := fun x => by
  rcases EX.seq k k' x with h | ⟨u, v, h2, h3, h4⟩
  · exact .inl h
  · refine .inr ⟨u, v, h2, h3, ?_⟩
    have hu := plains_lk hp h2
    cases h4 with
    | none => exact .none
    | bool => exact .bool _
    | int => exact .int _
    | str => exact .str _
    | bytes => exact .bytes _
    | glob => exact .glob _
    | tup => cases hu
    | blist => cases hu
    | ref r =>
      obtain ⟨i, r1, r2⟩ := r
      simp only [plain, Bool.or_eq_true] at hu
      have hu : _ = 0 ∨ _ = 16 := hu.imp Nat.eq_of_beq_eq_true Nat.eq_of_beq_eq_true
      rcases hu with rfl | rfl
      · rw [Ren, h0] at r1; cases r1
        exact .ref (.inl ⟨rfl, (e.inj _ _ _ _ r2 hW).1 rfl⟩)
      · rw [Ren, h1] at r1; cases r1
        exact .ref (.inr ⟨rfl, (e.inj _ _ _ _ r2 hc).1 rfl⟩)
end Mine.R
end

section
set_option linter.all false
set_option bootstrap.genMatcherCode false
namespace Mine.R
noncomputable def NRv (v : AV) : Prop := ∀ W v', VX W v v' ↔ v' = v
noncomputable def NRl (vs : List AV) : Prop := ∀ v ∈ vs, NRv v
theorem NRl.refl {W} : ∀ {vs}, NRl vs → VL W vs vs
  | [], _ => .nil
  | v :: r, h => .cons ((h v List.mem_cons_self W v).2 rfl) (NRl.refl fun u hu => h u (List.mem_cons_of_mem _ hu))
theorem NRl.eq {W} : ∀ {vs vs'}, NRl vs → VL W vs vs' → vs' = vs
  | [], _, _, .nil => rfl
  | v :: r, _, h, .cons a b => by rw [(h v List.mem_cons_self W _).1 a, NRl.eq (fun u hu => h u (List.mem_cons_of_mem _ hu)) b]
theorem NRv.int (i) : NRv (.int i) := fun W v' => ⟨fun h => by cases h; rfl, fun h => by subst h; exact .int i⟩
theorem NRv.str (i) : NRv (.str i) := fun W v' => ⟨fun h => by cases h; rfl, fun h => by subst h; exact .str i⟩
theorem NRv.bytes (i) : NRv (.bytes i) := fun W v' => ⟨fun h => by cases h; rfl, fun h => by subst h; exact .bytes i⟩
theorem NRv.tup {vs} (h : NRl vs) : NRv (.tup vs) := fun W v' => ⟨fun k => by cases k with | tup l => rw [h.eq l], fun k => by subst k; exact .tup h.refl⟩
theorem NRl.nil : NRl [] := fun _ h => nomatch h
theorem NRl.cons {v r} (h : NRv v) (k : NRl r) : NRl (v :: r) := fun u hu => (List.mem_cons.1 hu).elim (fun e => e ▸ h) (k u)
theorem NRl.append {a b} (h : NRl a) (k : NRl b) : NRl (a ++ b) := fun u hu => (List.mem_append.1 hu).elim (h u) (k u)
inductive Exs (R : Wr) (env : AEnv) : AEnv → Prop
  | nil : Exs R env []
  | cons {x v v' r} : lk x env = some v' → VX R v v' → Exs R env r → Exs R env ((x, v) :: r)
theorem Exs.ex {R env} : ∀ {ec}, Exs R env ec → EX R ec env
  | _, .nil => fun _ => .inl rfl
  | _, .cons (x := y) h k r => fun x => by
    rw [lk]
    cases q : Nat.beq y x
    · exact Exs.ex r x
    · have := Nat.eq_of_beq_eq_true q
      subst this
      exact .inr ⟨_, _, rfl, h, k⟩
structure AllW {α : Type} (t : T α) (P : α → Prop) : Prop where
  w : t.All P
noncomputable abbrev Xn := AEnv → HS → T (Fl × AEnv × HS)
noncomputable def GoodX (x : Xn) : Prop := ∀ {W C H env env'}, Emb W C H → EX W env env' → Sim (RS W H) (x env C) (x env' H)
noncomputable def HT (x : Xn) (fl : Fl) (P Q : HS → AEnv → Prop) : Prop := ∀ w ce D ec env H U, P D ec → Held D w ce H U → EX (Rel w ce) ec env →
  (x env H).All fun r => r.1 = fl ∧ ∃ D' ec' U', Q D' ec' ∧ Held D' w ce r.2.2 U' ∧ EX (Rel w ce) ec' r.2.1 ∧ Frd U H U' r.2.2
noncomputable def Outc (D' : HS) (ec' : AEnv) (env : AEnv) (C' : HS) : Prop := plains ec' = true ∧ ((D' = C' ∧ Exs (fun i j => i = j) env ec') ∨ ∃ rho, Sub D' C' rho ∧ nth? rho 0 = some 0 ∧ nth? rho 16 = some 16 ∧ Exs (Ren rho) env ec')
inductive FlN : Fl → Prop
  | next : FlN .next
  | bool (b) : FlN (.ret (.bool b))
theorem FlN.eq {W a b} (h : FlN a) (f : FX W a b) : b = a := by
  cases h
  · cases f; rfl
  · cases f with | ret v => cases v; rfl
theorem Rel.le {W : Wr} {w ce} (h : W 0 w) (k : W 16 ce) : Wr.le (Rel w ce) W := fun i j x => x.elim (fun e => e.1 ▸ e.2 ▸ h) (fun e => e.1 ▸ e.2 ▸ k)
theorem EX.eqR {W ec env env'} (h : EX (fun i j => i = j) ec env) (k : EX W env env') : EX W ec env' := by
  refine EX.mono ?_ (EX.seq h k)
  rintro i j ⟨k, rfl, h⟩
  exact h
theorem ex_rel' {w ce ec env' W' C' H'} (hW : W' 0 w) (hc : W' 16 ce) (e : Emb W' C' H') (hp : plains ec = true) (k : EX W' ec env') : EX (Rel w ce) ec env' := fun x => by
  rcases k x with h | ⟨u, v, h2, h3, h4⟩
  · exact .inl h
  · refine .inr ⟨u, v, h2, h3, ?_⟩
    have hu := plains_lk hp h2
    cases h4 with
    | none => exact .none
    | bool => exact .bool _
    | int => exact .int _
    | str => exact .str _
    | bytes => exact .bytes _
    | glob => exact .glob _
    | tup => cases hu
    | blist => cases hu
    | ref r =>
      simp only [plain, Bool.or_eq_true] at hu
      have hu : _ = 0 ∨ _ = 16 := hu.imp Nat.eq_of_beq_eq_true Nat.eq_of_beq_eq_true
      rcases hu with rfl | rfl
      · exact .ref (.inl ⟨rfl, (e.inj _ _ _ _ r hW).1 rfl⟩)
      · exact .ref (.inr ⟨rfl, (e.inj _ _ _ _ r hc).1 rfl⟩)
theorem HT.run {x : Xn} (g : GoodX x) {fl : Fl} (hf : FlN fl) {P Q : HS → AEnv → Prop}
    (run : ∀ D ec, P D ec → AllW (x ec D) fun r => r.1 = fl ∧ ∃ D' ec', Q D' ec' ∧ Outc D' ec' r.2.1 r.2.2) : HT x fl P Q := by
  intro w ce D ec env H U hP ⟨W, e, hW, hc, hU⟩ k
  refine g e (EX.mono (Rel.le hW hc) k) _ (T.All.mono ?_ (run D ec hP).w)
  rintro q ⟨rfl, D', ec', hQ, hp, o⟩ r ⟨W', x, f, k'⟩
  refine ⟨hf.eq f, D', ec', ?_⟩
  rcases o with ⟨rfl, o⟩ | ⟨rho, s, h0, h1, o⟩
  · exact ⟨fun j => ∃ i, W' i j, hQ, ⟨W', x.emb, x.le _ _ hW, x.le _ _ hc, fun i j h => ⟨i, h⟩⟩, ex_rel' (x.le _ _ hW) (x.le _ _ hc) x.emb hp (EX.eqR o.ex k'),
      ⟨fun j ⟨i, h⟩ => (x.new i j h).imp (hU i j) id, fun j h n => x.frm j h fun i w => n (hU i j w), x.len⟩⟩
  · obtain ⟨U', hH, hF, _⟩ := held_of hW hc hU x s h0 h1
    exact ⟨U', hQ, hH, ex_rel (x.le _ _ hW) (x.le _ _ hc) h0 h1 x.emb hp o.ex k', hF⟩
theorem HT.cons {cf : CF} {s : S} {b : Ss} {fl : Fl} {P R Q : HS → AEnv → Prop} (h : HT (execS std cf s) .next P R) (k : HT (execB std cf b) fl R Q) : HT (execB std cf (.cons s b)) fl P Q := by
  intro w ce D ec env H U hP hH hE
  simp only [eB_nil, eB_cons]
  refine T.all_bind.2 (T.All.mono ?_ (h w ce D ec env H U hP hH hE))
  rintro ⟨f, env', H'⟩ ⟨rfl, D', ec', U', hR, hH', hE', hF⟩
  refine T.All.mono ?_ (k w ce D' ec' env' H' U' hR hH' hE')
  rintro r ⟨e, D'', ec'', U'', hQ, hH'', hE'', hF'⟩
  exact ⟨e, D'', ec'', U'', hQ, hH'', hE'', hF.trans hF'⟩
theorem HT.nil {cf : CF} {P : HS → AEnv → Prop} : HT (execB std cf .nil) .next P P := by
  intro w ce D ec env H U hP hH hE
  simp only [eB_nil, eB_cons]
  exact ⟨rfl, D, ec, U, hP, hH, hE, .refl _ _⟩
theorem HT.post {x : Xn} {fl} {P P' Q Q' : HS → AEnv → Prop} (h : HT x fl P Q) (hp : ∀ D ec, P' D ec → P D ec) (hq : ∀ D ec, Q D ec → Q' D ec) : HT x fl P' Q' := by
  intro w ce D ec env H U hP hH hE
  refine T.All.mono ?_ (h w ce D ec env H U (hp _ _ hP) hH hE)
  rintro r ⟨e, D', ec', U', hQ, z⟩
  exact ⟨e, D', ec', U', hq _ _ hQ, z⟩
theorem Held.off {D w ce H U j o} (h : Held D w ce H U) (n : ¬ U j) : Held D w ce (hset H j o) U := by
  obtain ⟨W, e, hW, hc, hU⟩ := h
  refine ⟨W, ⟨e.inj, fun a b x => ?_⟩, hW, hc, hU⟩
  obtain ⟨p, p', h1, h2, h3⟩ := e.obj a b x
  exact ⟨p, p', h1, (hget_hset_other fun q => n (by rw [q]; exact hU a b x)).trans h2, h3⟩
theorem Frd.off {U H U' H' j o} (h : Frd U H U' H') (n : U j ∨ hlen H ≤ j) : Frd U H U' (hset H' j o) where
  new := h.new
  frm := fun i hi k => (hget_hset_other fun q => by
    subst q
    rcases n with n | n
    · exact k n
    · exact absurd hi (Nat.not_lt.2 n)).trans (h.frm i hi k)
  len := by rw [hlen_hset]; exact h.len
theorem loopS {x : AV → Xn} {xs tp} {body : Xn} {I : List AV → HS → AEnv → Prop} (hx : ∀ y env H, x y env H = opt (bindXs xs tp y env) fun env' => body env' H)
    (hb : ∀ y ys, HT (x y) .next (I (y :: ys)) (I ys)) : ∀ vs w ce D ec env H U, I vs D ec → Held D w ce H U → EX (Rel w ce) ec env →
    (forS body xs tp vs env H).All fun r => r.1 = .next ∧ ∃ D' ec' U', I [] D' ec' ∧ Held D' w ce r.2.2 U' ∧ EX (Rel w ce) ec' r.2.1 ∧ Frd U H U' r.2.2
  | [], w, ce, D, ec, env, H, U, hI, hH, hE => ⟨rfl, D, ec, U, hI, hH, hE, .refl _ _⟩
  | y :: ys, w, ce, D, ec, env, H, U, hI, hH, hE => by
    have h1 := hb y ys w ce D ec env H U hI hH hE
    rw [hx] at h1
    unfold forS
    cases q : bindXs xs tp y env with
    | none => rw [q] at h1; exact h1.elim
    | some env' =>
      rw [q] at h1
      refine T.all_bind.2 (T.All.mono ?_ h1)
      rintro ⟨f, env1, H1⟩ ⟨rfl, D', ec', U', hI', hH', hE', hF⟩
      refine T.All.mono ?_ (loopS hx hb ys w ce D' ec' env1 H1 U' hI' hH' hE')
      rintro r ⟨e, D'', ec'', U'', hQ, hH'', hE'', hF'⟩
      exact ⟨e, D'', ec'', U'', hQ, hH'', hE'', hF.trans hF'⟩
noncomputable def OutL (ec : AEnv) (I : List AV → HS → AEnv → Prop) (r : AV × HS) : Prop := ∃ d ys D' rho, r.1 = .ref d ∧ hget r.2 d = some (.list ys) ∧ NRl ys ∧ Sub D' r.2 rho ∧ nth? rho 0 = some 0 ∧ nth? rho 16 = some 16 ∧ has d rho = false ∧ I ys D' ec
theorem HT.forL {cf : CF} (g : GoodCF cf) {xs tp it} {body : Ss} {P : HS → AEnv → Prop} {I : List AV → HS → AEnv → Prop} {x : AV → Xn}
    (hx : ∀ y env H, x y env H = opt (bindXs xs tp y env) fun env' => execB std cf body env' H)
    (hi : ∀ D ec, P D ec → ∃ ec2, Exs (fun i j => i = j) ec ec2 ∧ AllW (evalE std cf it ec D) (OutL ec2 I)) (hb : ∀ y ys, HT (x y) .next (I (y :: ys)) (I ys)) : HT (execS std cf (.forL xs tp it body)) .next P (I []) := by
  intro w ce D ec env H U hP ⟨W, e, hW, hc, hU⟩ hE
  simp only [eS_assign, eS_augLoc, eS_augAttr, eS_expr, eS_ret, eS_ife, eS_forL, eS_forR, eS_junk]
  obtain ⟨ec2, hx2, hi⟩ := hi D ec hP
  have hE2 : EX (Rel w ce) ec2 env := EX.eqR hx2.ex hE
  have hE' := EX.mono (Rel.le hW hc) hE
  refine T.all_bind.2 (T.All.mono ?_ (transE g e hE' hi.w))
  rintro ⟨v, H1⟩ ⟨⟨q1, q2⟩, W1, ⟨d, ys, D', rho, h1, h2, h3, h4, h5, h6, h7, h8⟩, x1, v1⟩
  dsimp only at h1 h2 x1 v1 ⊢
  subst h1
  cases v1 with
  | ref wd =>
    rename_i d'
    obtain ⟨o, o', k1, k2, k3⟩ := x1.emb.obj _ _ wd
    rw [h2] at k1; cases k1
    cases k3 with
    | list l =>
      have := h3.eq l
      subst this
      simp only [listAt, k2, opt]
      obtain ⟨U', hH, hF, hN⟩ := held_of hW hc hU x1 h4 h5 h6
      have nd : ¬ U' d' := hN d d' (fun a ha => by rw [nth_has ha] at h7; cases h7) wd
      have hd : U d' ∨ hlen H ≤ d' := (x1.new _ _ wd).imp (hU _ _) id
      refine T.all_bind.2 (T.All.mono ?_ (loopS hx hb _ w ce D' ec2 env (hideV H1 (.ref d')) U' h8 (hH.off nd) hE2))
      rintro ⟨f, env2, H2⟩ ⟨r1, D2, ec2, U2, r2, r3, r4, r5⟩
      have nd2 : ¬ U2 d' := fun q => (r5.new d' q).elim nd fun y => by
        have := hget_lt k2
        simp only [hideV, hlen_hset] at y
        omega
      refine ⟨r1, D2, ec2, U2, r2, r3.off nd2, r4, ?_⟩
      exact ((hF.off hd).trans r5).off hd
end Mine.R
end

section
set_option linter.all false
set_option bootstrap.genMatcherCode false
namespace Mine.R
inductive Mode | unp | fai | tryH (e : Int) | tryE (e : Int)
structure El where
  re : Int
  se : Int
  ch : List AV
  m : Mode
structure St where
  wait : Int
  now : Int
  reply : Int
  newest : Int
  rh : Int
  sh : Int
  harmed : Int
  count : Int
  cs : List AV
  ws : List AV
  fs : List AV
  came : Nat → Option Int
  went : Nat → Option Int
  seen : List Int
  pc : Int
  ps : List Int
  el : Option El
noncomputable def encH (st : St) (wh en : AV) (act : Nat) (kn : List AV) (tl : HS) : HS :=
  .rc [(15,.ref 1),(16,.ref 8),(17,.int st.wait),(18,.int st.now),(25,.int st.reply),(24,en),(23,wh),(22,.int st.newest),(21,.ref 15),(20,.ref 14),(19,.ref 13)] ::
  .inst 224 2 ::
  .attrs [(33,.str 13),(34,.bool true),(35,.ref 6),(36,.ref act),(37,.ref 3),(38,.int st.newest),(39,.ref 7)] ::
  .inst 121 4 ::
  .attrs [(26,.str 0),(27,.str 4),(28,.bool true),(29,.int st.rh),(30,.int st.sh),(31,.ref 5),(32,.none)] ::
  .list [] :: .list kn :: .list [] ::
  .inst 298 9 ::
  .attrs [(40,.ref 10),(41,.int 10),(42,.none),(43,.int st.harmed),(44,.int st.count),(45,.ref 11),(46,.ref 12)] ::
  .list st.cs :: .list st.ws :: .list st.fs ::
  .fdict st.came :: .fdict st.went :: .ilist st.seen ::
  .cell (some (.ref 17)) :: .list [.ref 18, .int st.pc] :: .ilist st.ps :: tl
noncomputable def encE (re se : Int) (ch : List AV) (s dl : AV) : HS :=
  [.attrs [(26,.str 1),(27,s),(28,.bool false),(29,.int re),(30,.int se),(31,.ref 21),(32,dl)], .inst 121 19, .list ch]
noncomputable def tlOf : Option El → HS
  | none => []
  | some ⟨re, se, ch, .unp⟩ => encE re se ch (.str 2) .none
  | some ⟨re, se, ch, .fai⟩ => encE re se ch (.str 5) .none
  | some ⟨re, se, ch, .tryH e⟩ => encE re se ch (.str 3) (.int e)
  | some ⟨re, se, ch, .tryE e⟩ => encE re se ch (.str 3) (.int e)
noncomputable def knOf : Option El → List AV
  | none => [.ref 3]
  | some _ => [.ref 3, .ref 20]
noncomputable def actOf : Option El → Nat
  | some ⟨_, _, _, .tryE e⟩ => 20
  | _ => 3
noncomputable def whOf : Option El → AV
  | some ⟨_, _, _, .tryE e⟩ => .str 1
  | _ => .str 0
noncomputable def enOf : Option El → AV
  | some ⟨_, _, _, .tryE e⟩ => .int e
  | some ⟨_, _, _, .tryH e⟩ => .int e
  | _ => .none
noncomputable def enc (st : St) : HS := encH st (whOf st.el) (enOf st.el) (actOf st.el) (knOf st.el) (tlOf st.el)
noncomputable def ElInv (now wait : Int) (came went : Nat → Option Int) : Option El → Prop
  | none => came 1 = none ∧ went 1 = none
  | some ⟨re, se, ch, m⟩ => came 1 = some re ∧ (went 1).getD 0 = se ∧ se ≤ 3 * re ∧ NRl ch ∧ match m with
    | .unp => True
    | .fai => True
    | .tryH e => e ≤ now + wait
    | .tryE e => e ≤ now + wait
theorem subs_base {R : Wr} {st : St} {wh en : AV} {act : Nat} {kn : List AV} {ex tl : HS} {ks : List Nat} (R1 : ∀ i, i < 19 → R i i) (h1 : VX R wh wh) (h2 : VX R en en) (h3 : R act act) (h4 : VL R kn kn) (h5 : NRl st.cs) (h6 : NRl st.ws) (h7 : NRl st.fs)
    (h : Subs R (encH st wh en act kn ex) tl ks) : Subs R (encH st wh en act kn ex) (encH st wh en act kn tl) (0 :: 1 :: 2 :: 3 :: 4 :: 5 :: 6 :: 7 :: 8 :: 9 :: 10 :: 11 :: 12 :: 13 :: 14 :: 15 :: 16 :: 17 :: 18 :: ks) := by
  refine .cons rfl (.rc (.cons (.ref (R1 1 (by decide))) (.cons (.ref (R1 8 (by decide))) (.cons (.int _) (.cons (.int _) (.cons (.int _) (.cons h2 (.cons h1 (.cons (.int _) (.cons (.ref (R1 15 (by decide))) (.cons (.ref (R1 14 (by decide))) (.cons (.ref (R1 13 (by decide))) .nil)))))))))))) ?_
  refine .cons rfl (.inst _ (R1 2 (by decide))) ?_
  refine .cons rfl (.attrs (.cons (.str _) (.cons (.bool _) (.cons (.ref (R1 6 (by decide))) (.cons (.ref h3) (.cons (.ref (R1 3 (by decide))) (.cons (.int _) (.cons (.ref (R1 7 (by decide))) .nil)))))))) ?_
  refine .cons rfl (.inst _ (R1 4 (by decide))) ?_
  refine .cons rfl (.attrs (.cons (.str _) (.cons (.str _) (.cons (.bool _) (.cons (.int _) (.cons (.int _) (.cons (.ref (R1 5 (by decide))) (.cons .none .nil)))))))) ?_
  refine .cons rfl (.list .nil) ?_
  refine .cons rfl (.list h4) ?_
  refine .cons rfl (.list .nil) ?_
  refine .cons rfl (.inst _ (R1 9 (by decide))) ?_
  refine .cons rfl (.attrs (.cons (.ref (R1 10 (by decide))) (.cons (.int _) (.cons .none (.cons (.int _) (.cons (.int _) (.cons (.ref (R1 11 (by decide))) (.cons (.ref (R1 12 (by decide))) .nil)))))))) ?_
  refine .cons rfl (.list h5.refl) ?_
  refine .cons rfl (.list h6.refl) ?_
  refine .cons rfl (.list h7.refl) ?_
  refine .cons rfl (.fd _) ?_
  refine .cons rfl (.fd _) ?_
  refine .cons rfl (.il _) ?_
  refine .cons rfl (.cell (.ref (R1 17 (by decide)))) ?_
  refine .cons rfl (.list (.cons (.ref (R1 18 (by decide))) (.cons (.int _) .nil))) ?_
  exact .cons rfl (.il _) h
noncomputable def rho21 (k : Nat) : List Nat := [0,1,2,3,4,5,6,7,8,9,10,11,12,13,14,15,16,17,18,19,20,k]
noncomputable def rho18 : List Nat := [0,1,2,3,4,5,6,7,8,9,10,11,12,13,14,15,16,17,18]
noncomputable def fixA : List Nat → Nat → Nat → Nat → Bool
  | _, _, 0, _ => true
  | [], _, _ + 1, _ => false
  | a :: r, j, n + 1, sk => (Nat.beq j sk || Nat.beq a j) && fixA r (j + 1) n sk
theorem fixA_ok : ∀ {l : List Nat} {j n sk i : Nat}, fixA l j n sk = true → i < n → j + i ≠ sk → nth? l i = some (j + i)
  | _, _, 0, _, _, _, h, _ => absurd h (Nat.not_lt_zero _)
  | [], _, _ + 1, _, _, h, _, _ => nomatch h
  | a :: r, j, n + 1, sk, 0, h, _, k => by
    have h1 := (Bool.and_eq_true_iff.mp h).1
    rcases Bool.or_eq_true_iff.mp h1 with q | q
    · exact absurd (Nat.eq_of_beq_eq_true q) k
    · exact congrArg some (Nat.eq_of_beq_eq_true q)
  | a :: r, j, n + 1, sk, i + 1, h, hi, k => by
    have e : j + (i + 1) = j + 1 + i := (Nat.succ_add_eq_add_succ j i).symm
    rw [e] at k ⊢
    exact fixA_ok (l := r) (Bool.and_eq_true_iff.mp h).2 (Nat.lt_of_succ_lt_succ hi) k
theorem fix_ok {l : List Nat} {n sk : Nat} (h : fixA l 0 n sk = true) (hs : n ≤ sk) : ∀ i, i < n → Ren l i i := fun i hi =>
  (fixA_ok h hi (fun e => absurd hi (Nat.not_lt.2 (by rw [Nat.zero_add] at e; rw [e]; exact hs)))).trans (congrArg some (Nat.zero_add i))
theorem fix_ok' {l : List Nat} {n sk : Nat} (h : fixA l 0 n sk = true) : ∀ i, i < n → i ≠ sk → Ren l i i := fun i hi k =>
  (fixA_ok h hi (fun e => k (by rw [Nat.zero_add] at e; exact e))).trans (congrArg some (Nat.zero_add i))
theorem ren21 {k : Nat} : ∀ i, i < 21 → Ren (rho21 k) i i := fix_ok (sk := 99) rfl (Nat.le_add_left 21 78)
theorem ren18 : ∀ i, i < 19 → Ren rho18 i i := fix_ok (sk := 99) rfl (Nat.le_add_left 19 80)
theorem sub_ch {st : St} {wh en : AV} {act : Nat} {kn : List AV} {re se : Int} {ch1 : List AV} {s dl : AV} {k : Nat} {ex : HS} (hk : nodup (rho21 k) = true)
    (h1 : NRv wh) (h2 : NRv en) (h3 : act < 21) (h4 : ∀ R : Wr, (∀ i, i < 21 → R i i) → VL R kn kn) (h5 : NRl st.cs) (h6 : NRl st.ws) (h7 : NRl st.fs) (h8 : NRl ch1) (h9 : NRv s) (h10 : NRv dl)
    (hg : hget ex (k - 21) = some (.list ch1)) (hk2 : 21 ≤ k) :
    Sub (encH st wh en act kn (encE re se ch1 s dl)) (encH st wh en act kn (.attrs [(26,.str 1),(27,s),(28,.bool false),(29,.int re),(30,.int se),(31,.ref k),(32,dl)] :: .inst 121 19 :: ex)) (rho21 k) := by
  refine ⟨hk, ?_⟩
  obtain ⟨j, rfl⟩ : ∃ j, k = j + 21 := ⟨k - 21, by omega⟩
  refine subs_base (fun i hi => ren21 i (by omega)) ((h1 _ _).2 rfl) ((h2 _ _).2 rfl) (ren21 act h3) (h4 _ ren21) h5 h6 h7 ?_
  refine .cons rfl (.attrs (.cons (.str _) (.cons ((h9 _ _).2 rfl) (.cons (.bool _) (.cons (.int _) (.cons (.int _) (.cons (.ref rfl) (.cons ((h10 _ _).2 rfl) .nil)))))))) ?_
  refine .cons rfl (.inst _ (ren21 19 (by decide))) ?_
  refine .cons (o' := .list ch1) ?_ (.list h8.refl) .nil
  simpa [encH, hget] using hg
theorem sub_no {st : St} {wh en : AV} {act : Nat} {kn : List AV} {ex : HS} (h1 : NRv wh) (h2 : NRv en) (h3 : act < 19) (h4 : ∀ R : Wr, (∀ i, i < 19 → R i i) → VL R kn kn) (h5 : NRl st.cs) (h6 : NRl st.ws) (h7 : NRl st.fs) :
    Sub (encH st wh en act kn []) (encH st wh en act kn ex) rho18 :=
  ⟨by decide, subs_base ren18 ((h1 _ _).2 rfl) ((h2 _ _).2 rfl) (ren18 act h3) (h4 _ ren18) h5 h6 h7 .nil⟩
end Mine.R
end

section
set_option linter.all false
set_option bootstrap.genMatcherCode false
namespace Mine.R
inductive D where
  | done | lit (b : Bool) (d : D) | sym (d e : D)
noncomputable def allD {α : Type} : T α → D → (α → Prop) → Prop
  | .leaf a, _, P => P a
  | .ck p t, d, P => p ∧ allD t d P
  | .pick xs k, d, P => ∀ ys, ys.length = xs.length → (∀ y ∈ ys, y ∈ xs) → allD (k ys) d P
  | .ite b t e, .lit true d, P => b = true ∧ allD (t ()) d P
  | .ite b t e, .lit false d, P => b = false ∧ allD (e ()) d P
  | .ite b t e, .sym d d', P => (b = true → allD (t ()) d P) ∧ (b = false → allD (e ()) d' P)
  | .ite _ _ _, .done, _ => False
  | .stuck, _, _ => False
theorem allD_all {α : Type} {P : α → Prop} : ∀ {t : T α} {d : D}, allD t d P → t.All P
  | .leaf _, _, h => h
  | .ck _ _, _, h => ⟨h.1, allD_all h.2⟩
  | .pick _ _, _, h => fun ys a b => allD_all (h ys a b)
  | .ite b t e, .lit true d, h => by
    obtain ⟨rfl, h⟩ := h
    exact allD_all (t := t ()) h
  | .ite b t e, .lit false d, h => by
    obtain ⟨rfl, h⟩ := h
    exact allD_all (t := e ()) h
  | .ite true t e, .sym d d', h => allD_all (t := t ()) (h.1 rfl)
  | .ite false t e, .sym d d', h => allD_all (t := e ()) (h.2 rfl)
  | .ite _ _ _, .done, h => h.elim
  | .stuck, _, h => h.elim
theorem AllW.ofTree {α : Type} {t : T α} {d : D} {P : α → Prop} {E : Prop} (e : allD t d P = E) (h : E) : AllW t P := ⟨allD_all (e.mpr h)⟩
noncomputable def OL (O : Ops) : Ops := { O with lapp := std.lapp }
theorem OL_std : OL std = std := rfl
noncomputable def bodyP : Ss := .cons (.ife (.not (.call (.glob 109) (.cons (.loc 104) (.cons (.loc 105) (.cons (.loc 56) .nil))))) (.cons (.ret (.bool false)) .nil) .nil) .nil
noncomputable def runG (O : Ops) (way : Nat) (n s t : Int) (st : St) : T (Fl × AEnv × HS) :=
  opt (bindXs [89,105,56] true (.tup [.int 1, .str way, .bytes [n, s]]) [(104, .ref 0), (90, .int t)]) fun env' => execB O (callN O 11) bodyP env' (enc st)
structure GP (st st' : St) : Prop where
  eqs : st' = { st with newest := st'.newest, rh := st'.rh, sh := st'.sh, came := st'.came, went := st'.went, seen := st'.seen, el := st'.el }
  ei : ElInv st.now st.wait st'.came st'.went st'.el ∧ st'.seen.length ≤ st.seen.length + 1
noncomputable def GPost (st : St) (t : Int) (r : Fl × AEnv × HS) : Prop := r.1 = .next ∧ ∃ D' ec', (ec' = [(104, .ref 0), (90, .int t)] ∧ ∃ st', D' = enc st' ∧ GP st st') ∧ Outc D' ec' r.2.1 r.2.2
structure GHyp (st : St) (s : Int) : Prop where
  ei : ElInv st.now st.wait st.came st.went st.el
  sn : st.seen.length < 200
  cs : NRl st.cs
  ws : NRl st.ws
  fs : NRl st.fs
  sz : 40 ≤ s
end Mine.R
end

section
set_option linter.all false
set_option bootstrap.genMatcherCode false
namespace Mine.R
theorem rho23 : nodup (rho21 23) = true := by decide
noncomputable def d_none_0 : D := (.lit true (.lit false (.lit false (.lit true (.lit false (.sym (.lit false .done) (.sym (.lit true (.lit false (.lit false (.lit false (.lit true (.lit false (.lit false (.lit false (.lit false (.lit true (.lit true (.lit true (.lit false .done))))))))))))) (.lit true (.lit false (.lit false (.lit true (.lit true (.lit false (.lit false (.lit false (.lit false (.lit true (.lit true (.lit true (.lit false .done))))))))))))))))))))
theorem tree_none_0 (O : Ops) (P : Fl × AEnv × HS → Prop) (wait now newest reply harmed count rh sh re se n s t pc e : Int) (cs ws fs ch : List AV) (came went : Nat → Option Int) (seen ps : List Int) :
    allD (runG (OL O) 0 n s t ⟨wait, now, reply, newest, rh, sh, harmed, count, cs, ws, fs, came, went, seen, pc, ps, none⟩) d_none_0 P =
    (((inB 0 2 ∧ (2 < 1000))) ∧
    (((inB 1 2 ∧ (2 < 1000))) ∧
    (true = true ∧ (false = false ∧ (false = false ∧ (true = true ∧ (false = false ∧ (((O.mem n seen) = true → (false = false ∧ (P (.next, [(104, (.ref 0)), (90, (.int t)), (89, (.int 1)), (105, (.str 0)), (56, (.bytes [n, s]))], enc ⟨wait, now, reply, newest, (O.add rh s), sh, harmed, count, cs, ws, fs, (O.dput came 0 (O.add (O.dget came 0 0) s)), went, seen, pc, ps, none⟩)))) ∧
    ((O.mem n seen) = false → ((((List.length seen) < 1048576)) ∧
    (((O.lt newest n) = true → (true = true ∧ (false = false ∧ (false = false ∧ ((!(O.lt newest n)) = false ∧ (true = true ∧ (false = false ∧ (false = false ∧ (false = false ∧ (false = false ∧ (true = true ∧ (true = true ∧ (true = true ∧ (false = false ∧ (P (.next, [(104, (.ref 0)), (90, (.int t)), (89, (.int 1)), (105, (.str 0)), (56, (.bytes [n, s]))], enc ⟨wait, now, reply, (O.max newest n), (O.add rh s), (O.add sh reply), harmed, count, cs, ws, fs, (O.dput came 0 (O.add (O.dget came 0 0) s)), (O.dput went 0 (O.add (O.dget went 0 0) reply)), (O.iapp seen n), pc, ps, none⟩)))))))))))))))) ∧
    ((O.lt newest n) = false → (true = true ∧ (false = false ∧ (false = false ∧ ((!(O.lt newest n)) = true ∧ (true = true ∧ ((!(false == (O.lt newest n))) = false ∧ ((O.lt newest n) = false ∧ (false = false ∧ (false = false ∧ (true = true ∧ (true = true ∧ (true = true ∧ (false = false ∧ (P (.next, [(104, (.ref 0)), (90, (.int t)), (89, (.int 1)), (105, (.str 0)), (56, (.bytes [n, s]))], enc ⟨wait, now, reply, (O.max newest n), (O.add rh s), (O.add sh reply), harmed, count, cs, ws, fs, (O.dput came 0 (O.add (O.dget came 0 0) s)), (O.dput went 0 (O.add (O.dget went 0 0) reply)), (O.iapp seen n), pc, ps, none⟩))))))))))))))))))))))))))) := by kernel_rfl
theorem core_none_0 {wait now newest reply harmed count rh sh re se n s t pc e : Int} {cs ws fs ch : List AV} {came went : Nat → Option Int} {seen ps : List Int}
  (e1 : came 1 = none) (e2 : went 1 = none) (hcs : NRl cs) (hws : NRl ws) (hfs : NRl fs) (hsz : 40 ≤ s) (hseen : seen.length < 2 ^ 20) :
    AllW (runG std 0 n s t ⟨wait, now, reply, newest, rh, sh, harmed, count, cs, ws, fs, came, went, seen, pc, ps, none⟩) (GPost ⟨wait, now, reply, newest, rh, sh, harmed, count, cs, ws, fs, came, went, seen, pc, ps, none⟩ t) := by
  refine AllW.ofTree (tree_none_0 std _ wait now newest reply harmed count rh sh re se n s t pc e cs ws fs ch came went seen ps) ?_
  refine ⟨⟨⟨by decide, by decide, by decide⟩, by decide⟩, ⟨⟨by decide, by decide, by decide⟩, by decide⟩, rfl, rfl, rfl, rfl, rfl, ?_⟩
  refine ⟨fun h1 => ?_, fun h1 => ?_⟩
  · refine ⟨rfl, ?_⟩
    refine ⟨rfl, _, _, ⟨rfl, ⟨wait, now, reply, newest, (std.add rh s), sh, harmed, count, cs, ws, fs, (std.dput came 0 (std.add (std.dget came 0 0) s)), went, seen, pc, ps, none⟩, rfl, ⟨rfl, ?_⟩⟩, rfl, .inl ⟨rfl, .cons rfl (.ref rfl) (.cons rfl (.int _) .nil)⟩⟩
    exact ⟨⟨by simp [std, e1], by simp [std, e2]⟩, by simp [std]⟩
  · refine ⟨hseen, ?_⟩
    refine ⟨fun h2 => ?_, fun h2 => ?_⟩
    · refine ⟨rfl, rfl, rfl, (by rw [h2] <;> rfl), rfl, rfl, rfl, rfl, rfl, rfl, rfl, rfl, rfl, ?_⟩
      refine ⟨rfl, _, _, ⟨rfl, ⟨wait, now, reply, (std.max newest n), (std.add rh s), (std.add sh reply), harmed, count, cs, ws, fs, (std.dput came 0 (std.add (std.dget came 0 0) s)), (std.dput went 0 (std.add (std.dget went 0 0) reply)), (std.iapp seen n), pc, ps, none⟩, rfl, ⟨rfl, ?_⟩⟩, rfl, .inl ⟨rfl, .cons rfl (.ref rfl) (.cons rfl (.int _) .nil)⟩⟩
      exact ⟨⟨by simp [std, e1], by simp [std, e2]⟩, by simp [std]⟩
    · refine ⟨rfl, rfl, rfl, (by rw [h2] <;> rfl), rfl, (by rw [h2] <;> rfl), (by rw [h2] <;> rfl), rfl, rfl, rfl, rfl, rfl, rfl, ?_⟩
      refine ⟨rfl, _, _, ⟨rfl, ⟨wait, now, reply, (std.max newest n), (std.add rh s), (std.add sh reply), harmed, count, cs, ws, fs, (std.dput came 0 (std.add (std.dget came 0 0) s)), (std.dput went 0 (std.add (std.dget went 0 0) reply)), (std.iapp seen n), pc, ps, none⟩, rfl, ⟨rfl, ?_⟩⟩, rfl, .inl ⟨rfl, .cons rfl (.ref rfl) (.cons rfl (.int _) .nil)⟩⟩
      exact ⟨⟨by simp [std, e1], by simp [std, e2]⟩, by simp [std]⟩
noncomputable def d_none_1 : D := (.lit false (.lit true (.lit false (.lit false (.lit false (.lit true (.lit false (.sym (.lit false .done) (.sym (.lit false (.lit true (.lit false (.lit false (.lit false (.lit false (.lit true (.lit false (.lit false (.lit true (.lit true (.lit true (.lit false (.lit false (.lit false (.lit true (.lit false (.lit false (.lit true (.lit false (.lit true (.lit false (.sym (.lit false .done) (.lit false .done)))))))))))))))))))))))) (.lit false (.lit true (.lit false (.lit false (.lit true (.lit true (.lit false (.lit false (.lit false (.lit false (.lit true (.lit true (.lit true (.lit false .done)))))))))))))))))))))))
theorem tree_none_1 (O : Ops) (P : Fl × AEnv × HS → Prop) (wait now newest reply harmed count rh sh re se n s t pc e : Int) (cs ws fs ch : List AV) (came went : Nat → Option Int) (seen ps : List Int) :
    allD (runG (OL O) 1 n s t ⟨wait, now, reply, newest, rh, sh, harmed, count, cs, ws, fs, came, went, seen, pc, ps, none⟩) d_none_1 P =
    (((inB 0 2 ∧ (2 < 1000))) ∧
    (((inB 1 2 ∧ (2 < 1000))) ∧
    (false = false ∧ (true = true ∧ (false = false ∧ (false = false ∧ (false = false ∧ (true = true ∧ (false = false ∧ (((1 < 1048576)) ∧
    (((O.mem n seen) = true → (false = false ∧ (P (.next, [(104, (.ref 0)), (90, (.int t)), (89, (.int 1)), (105, (.str 1)), (56, (.bytes [n, s]))], enc ⟨wait, now, reply, newest, rh, sh, harmed, count, cs, ws, fs, (O.dput came 1 (O.add (O.dget came 1 0) s)), went, seen, pc, ps, some ⟨(O.add 0 s), 0, [], .unp⟩⟩)))) ∧
    ((O.mem n seen) = false → ((((List.length seen) < 1048576)) ∧
    (((O.lt newest n) = true → (false = false ∧ (true = true ∧ (false = false ∧ (false = false ∧ ((!(O.lt newest n)) = false ∧ (false = false ∧ (true = true ∧ (false = false ∧ (false = false ∧ (true = true ∧ (true = true ∧ (true = true ∧ (false = false ∧ (false = false ∧ (false = false ∧ (true = true ∧ (false = false ∧ ((!(O.le 30 (O.max 0 (O.sub (O.mul 3 (O.add 0 s)) 0)))) = false ∧ ((((List.length (O.iapp seen n)) < 1048576)) ∧
    (((bytesOk [(O.ilen (O.iapp seen n))] ∧ (1 < 100))) ∧
    (true = true ∧ (((0 < 1048576)) ∧
    (false = false ∧ (true = true ∧ (false = false ∧ (((O.le reply (O.max 0 (O.sub (O.mul 3 (O.add 0 s)) (O.add 0 30)))) = true → (false = false ∧ (P (.next, [(104, (.ref 0)), (90, (.int t)), (89, (.int 1)), (105, (.str 1)), (56, (.bytes [n, s]))], encH ⟨wait, now, reply, (O.max newest n), rh, sh, harmed, count, cs, ws, fs, (O.dput came 1 (O.add (O.dget came 1 0) s)), (O.dput (O.dput went 1 (O.add (O.dget went 1 0) 30)) 1 (O.add (O.dget (O.dput went 1 (O.add (O.dget went 1 0) 30)) 1 0) reply)), (O.iapp seen n), pc, ps, some ⟨(O.add 0 s), (O.add (O.add 0 30) reply), [(.bytes [(O.ilen (O.iapp seen n))])], .tryE (O.add now wait)⟩⟩ (.str 1) (.int (O.add now wait)) 20 [(.ref 3), (.ref 20)] (.attrs [(26,.str 1),(27,(.str 3)),(28,.bool false),(29,.int (O.add 0 s)),(30,.int (O.add (O.add 0 30) reply)),(31,.ref 23),(32,(.int (O.add now wait)))] :: (.inst 121 19) :: (.list []) :: (.list [(.int (O.ilen (O.iapp seen n)))]) :: (.list [(.bytes [(O.ilen (O.iapp seen n))])]) :: []))))) ∧
    ((O.le reply (O.max 0 (O.sub (O.mul 3 (O.add 0 s)) (O.add 0 30)))) = false → (false = false ∧ (P (.next, [(104, (.ref 0)), (90, (.int t)), (89, (.int 1)), (105, (.str 1)), (56, (.bytes [n, s]))], encH ⟨wait, now, reply, (O.max newest n), rh, sh, harmed, count, cs, ws, fs, (O.dput came 1 (O.add (O.dget came 1 0) s)), (O.dput went 1 (O.add (O.dget went 1 0) 30)), (O.iapp seen n), pc, ps, some ⟨(O.add 0 s), (O.add 0 30), [(.bytes [(O.ilen (O.iapp seen n))])], .tryE (O.add now wait)⟩⟩ (.str 1) (.int (O.add now wait)) 20 [(.ref 3), (.ref 20)] (.attrs [(26,.str 1),(27,(.str 3)),(28,.bool false),(29,.int (O.add 0 s)),(30,.int (O.add 0 30)),(31,.ref 23),(32,(.int (O.add now wait)))] :: (.inst 121 19) :: (.list []) :: (.list [(.int (O.ilen (O.iapp seen n)))]) :: (.list [(.bytes [(O.ilen (O.iapp seen n))])]) :: [])))))))))))))))))))))))))))))))) ∧
    ((O.lt newest n) = false → (false = false ∧ (true = true ∧ (false = false ∧ (false = false ∧ ((!(O.lt newest n)) = true ∧ (true = true ∧ ((!(false == (O.lt newest n))) = false ∧ ((O.lt newest n) = false ∧ (false = false ∧ (false = false ∧ (true = true ∧ (true = true ∧ (true = true ∧ (false = false ∧ (P (.next, [(104, (.ref 0)), (90, (.int t)), (89, (.int 1)), (105, (.str 1)), (56, (.bytes [n, s]))], enc ⟨wait, now, reply, (O.max newest n), rh, (O.add sh reply), harmed, count, cs, ws, fs, (O.dput came 1 (O.add (O.dget came 1 0) s)), (O.dput went 0 (O.add (O.dget went 0 0) reply)), (O.iapp seen n), pc, ps, some ⟨(O.add 0 s), 0, [], .unp⟩⟩))))))))))))))))))))))))))))))) := by kernel_rfl
theorem core_none_1 {wait now newest reply harmed count rh sh re se n s t pc e : Int} {cs ws fs ch : List AV} {came went : Nat → Option Int} {seen ps : List Int}
  (e1 : came 1 = none) (e2 : went 1 = none) (hcs : NRl cs) (hws : NRl ws) (hfs : NRl fs) (hsz : 40 ≤ s) (hseen : seen.length < 2 ^ 20) (hs2 : (std.iapp seen n).length < 2 ^ 20) (hb : bytesOk [std.ilen (std.iapp seen n)] ∧ [std.ilen (std.iapp seen n)].length < 100) (h30 : (std.le 30 (std.max 0 (std.sub (std.mul 3 (std.add 0 s)) 0))) = true) :
    AllW (runG std 1 n s t ⟨wait, now, reply, newest, rh, sh, harmed, count, cs, ws, fs, came, went, seen, pc, ps, none⟩) (GPost ⟨wait, now, reply, newest, rh, sh, harmed, count, cs, ws, fs, came, went, seen, pc, ps, none⟩ t) := by
  refine AllW.ofTree (tree_none_1 std _ wait now newest reply harmed count rh sh re se n s t pc e cs ws fs ch came went seen ps) ?_
  refine ⟨⟨⟨by decide, by decide, by decide⟩, by decide⟩, ⟨⟨by decide, by decide, by decide⟩, by decide⟩, rfl, rfl, rfl, rfl, rfl, rfl, rfl, by decide, ?_⟩
  refine ⟨fun h1 => ?_, fun h1 => ?_⟩
  · refine ⟨rfl, ?_⟩
    refine ⟨rfl, _, _, ⟨rfl, ⟨wait, now, reply, newest, rh, sh, harmed, count, cs, ws, fs, (std.dput came 1 (std.add (std.dget came 1 0) s)), went, seen, pc, ps, some ⟨(std.add 0 s), 0, [], .unp⟩⟩, rfl, ⟨rfl, ?_⟩⟩, rfl, .inl ⟨rfl, .cons rfl (.ref rfl) (.cons rfl (.int _) .nil)⟩⟩
    refine ⟨⟨by simp [std, e1], by simp [std, e2], ?_, ?_, ?_⟩, by simp [std]⟩
    · first | omega | (simp [std]; omega)
    · first | exact e4 | exact NRl.nil | exact NRl.cons (NRv.bytes _) NRl.nil
    · first | trivial | exact e5 | exact Int.le_refl _
  · refine ⟨hseen, ?_⟩
    refine ⟨fun h2 => ?_, fun h2 => ?_⟩
    · refine ⟨rfl, rfl, rfl, rfl, (by rw [h2] <;> rfl), rfl, rfl, rfl, rfl, rfl, rfl, rfl, rfl, rfl, rfl, rfl, rfl, (by rw [h30] <;> rfl), hs2, ⟨hb.1, by decide⟩, rfl, by decide, rfl, rfl, rfl, ?_⟩
      refine ⟨fun h3 => ?_, fun h3 => ?_⟩
      · refine ⟨rfl, ?_⟩
        refine ⟨rfl, _, _, ⟨rfl, ⟨wait, now, reply, (std.max newest n), rh, sh, harmed, count, cs, ws, fs, (std.dput came 1 (std.add (std.dget came 1 0) s)), (std.dput (std.dput went 1 (std.add (std.dget went 1 0) 30)) 1 (std.add (std.dget (std.dput went 1 (std.add (std.dget went 1 0) 30)) 1 0) reply)), (std.iapp seen n), pc, ps, some ⟨(std.add 0 s), (std.add (std.add 0 30) reply), [(.bytes [(std.ilen (std.iapp seen n))])], .tryE (std.add now wait)⟩⟩, rfl, ⟨rfl, ?_⟩⟩, rfl, .inr ⟨rho21 23, sub_ch rho23 (NRv.str _) (NRv.int _) (Nat.lt_succ_self 20) (fun R h => .cons (.ref (h _ (by decide))) (.cons (.ref (h _ (by decide))) .nil)) hcs hws hfs (NRl.cons (NRv.bytes _) NRl.nil) (NRv.str _) (NRv.int _) rfl (by decide), rfl, rfl, .cons rfl (.ref rfl) (.cons rfl (.int _) .nil)⟩⟩
        refine ⟨⟨by simp [std, e1], by simp [std, e2], ?_, ?_, ?_⟩, by simp [std]⟩
        · first | omega | (simp [std]; omega) | (simp [std] at h3 ⊢; split at h3 <;> omega)
        · first | exact e4 | exact NRl.nil | exact NRl.cons (NRv.bytes _) NRl.nil
        · first | trivial | exact e5 | exact Int.le_refl _
      · refine ⟨rfl, ?_⟩
        refine ⟨rfl, _, _, ⟨rfl, ⟨wait, now, reply, (std.max newest n), rh, sh, harmed, count, cs, ws, fs, (std.dput came 1 (std.add (std.dget came 1 0) s)), (std.dput went 1 (std.add (std.dget went 1 0) 30)), (std.iapp seen n), pc, ps, some ⟨(std.add 0 s), (std.add 0 30), [(.bytes [(std.ilen (std.iapp seen n))])], .tryE (std.add now wait)⟩⟩, rfl, ⟨rfl, ?_⟩⟩, rfl, .inr ⟨rho21 23, sub_ch rho23 (NRv.str _) (NRv.int _) (Nat.lt_succ_self 20) (fun R h => .cons (.ref (h _ (by decide))) (.cons (.ref (h _ (by decide))) .nil)) hcs hws hfs (NRl.cons (NRv.bytes _) NRl.nil) (NRv.str _) (NRv.int _) rfl (by decide), rfl, rfl, .cons rfl (.ref rfl) (.cons rfl (.int _) .nil)⟩⟩
        refine ⟨⟨by simp [std, e1], by simp [std, e2], ?_, ?_, ?_⟩, by simp [std]⟩
        · first | omega | (simp [std]; omega) | (simp [std] at h3 ⊢; split at h3 <;> omega)
        · first | exact e4 | exact NRl.nil | exact NRl.cons (NRv.bytes _) NRl.nil
        · first | trivial | exact e5 | exact Int.le_refl _
    · refine ⟨rfl, rfl, rfl, rfl, (by rw [h2] <;> rfl), rfl, (by rw [h2] <;> rfl), (by rw [h2] <;> rfl), rfl, rfl, rfl, rfl, rfl, rfl, ?_⟩
      refine ⟨rfl, _, _, ⟨rfl, ⟨wait, now, reply, (std.max newest n), rh, (std.add sh reply), harmed, count, cs, ws, fs, (std.dput came 1 (std.add (std.dget came 1 0) s)), (std.dput went 0 (std.add (std.dget went 0 0) reply)), (std.iapp seen n), pc, ps, some ⟨(std.add 0 s), 0, [], .unp⟩⟩, rfl, ⟨rfl, ?_⟩⟩, rfl, .inl ⟨rfl, .cons rfl (.ref rfl) (.cons rfl (.int _) .nil)⟩⟩
      refine ⟨⟨by simp [std, e1], by simp [std, e2], ?_, ?_, ?_⟩, by simp [std]⟩
      · first | omega | (simp [std]; omega)
      · first | exact e4 | exact NRl.nil | exact NRl.cons (NRv.bytes _) NRl.nil
      · first | trivial | exact e5 | exact Int.le_refl _
noncomputable def d_unp_0 : D := (.lit true (.lit false (.lit false (.lit true (.lit false (.sym (.lit false .done) (.sym (.lit true (.lit false (.lit false (.lit false (.lit true (.lit false (.lit false (.lit false (.lit false (.lit true (.lit true (.lit true (.lit false .done))))))))))))) (.lit true (.lit false (.lit false (.lit true (.lit true (.lit false (.lit false (.lit false (.lit false (.lit true (.lit true (.lit true (.lit false .done))))))))))))))))))))
theorem tree_unp_0 (O : Ops) (P : Fl × AEnv × HS → Prop) (wait now newest reply harmed count rh sh re se n s t pc e : Int) (cs ws fs ch : List AV) (came went : Nat → Option Int) (seen ps : List Int) :
    allD (runG (OL O) 0 n s t ⟨wait, now, reply, newest, rh, sh, harmed, count, cs, ws, fs, came, went, seen, pc, ps, some ⟨re, se, ch, .unp⟩⟩) d_unp_0 P =
    (((inB 0 2 ∧ (2 < 1000))) ∧
    (((inB 1 2 ∧ (2 < 1000))) ∧
    (true = true ∧ (false = false ∧ (false = false ∧ (true = true ∧ (false = false ∧ (((O.mem n seen) = true → (false = false ∧ (P (.next, [(104, (.ref 0)), (90, (.int t)), (89, (.int 1)), (105, (.str 0)), (56, (.bytes [n, s]))], enc ⟨wait, now, reply, newest, (O.add rh s), sh, harmed, count, cs, ws, fs, (O.dput came 0 (O.add (O.dget came 0 0) s)), went, seen, pc, ps, some ⟨re, se, ch, .unp⟩⟩)))) ∧
    ((O.mem n seen) = false → ((((List.length seen) < 1048576)) ∧
    (((O.lt newest n) = true → (true = true ∧ (false = false ∧ (false = false ∧ ((!(O.lt newest n)) = false ∧ (true = true ∧ (false = false ∧ (false = false ∧ (false = false ∧ (false = false ∧ (true = true ∧ (true = true ∧ (true = true ∧ (false = false ∧ (P (.next, [(104, (.ref 0)), (90, (.int t)), (89, (.int 1)), (105, (.str 0)), (56, (.bytes [n, s]))], enc ⟨wait, now, reply, (O.max newest n), (O.add rh s), (O.add sh reply), harmed, count, cs, ws, fs, (O.dput came 0 (O.add (O.dget came 0 0) s)), (O.dput went 0 (O.add (O.dget went 0 0) reply)), (O.iapp seen n), pc, ps, some ⟨re, se, ch, .unp⟩⟩)))))))))))))))) ∧
    ((O.lt newest n) = false → (true = true ∧ (false = false ∧ (false = false ∧ ((!(O.lt newest n)) = true ∧ (true = true ∧ ((!(false == (O.lt newest n))) = false ∧ ((O.lt newest n) = false ∧ (false = false ∧ (false = false ∧ (true = true ∧ (true = true ∧ (true = true ∧ (false = false ∧ (P (.next, [(104, (.ref 0)), (90, (.int t)), (89, (.int 1)), (105, (.str 0)), (56, (.bytes [n, s]))], enc ⟨wait, now, reply, (O.max newest n), (O.add rh s), (O.add sh reply), harmed, count, cs, ws, fs, (O.dput came 0 (O.add (O.dget came 0 0) s)), (O.dput went 0 (O.add (O.dget went 0 0) reply)), (O.iapp seen n), pc, ps, some ⟨re, se, ch, .unp⟩⟩))))))))))))))))))))))))))) := by kernel_rfl
theorem core_unp_0 {wait now newest reply harmed count rh sh re se n s t pc e : Int} {cs ws fs ch : List AV} {came went : Nat → Option Int} {seen ps : List Int}
  (e1 : came 1 = some re) (e2 : (went 1).getD 0 = se) (e3 : se ≤ 3 * re) (e4 : NRl ch) (e5 : True) (hcs : NRl cs) (hws : NRl ws) (hfs : NRl fs) (hsz : 40 ≤ s) (hseen : seen.length < 2 ^ 20) :
    AllW (runG std 0 n s t ⟨wait, now, reply, newest, rh, sh, harmed, count, cs, ws, fs, came, went, seen, pc, ps, some ⟨re, se, ch, .unp⟩⟩) (GPost ⟨wait, now, reply, newest, rh, sh, harmed, count, cs, ws, fs, came, went, seen, pc, ps, some ⟨re, se, ch, .unp⟩⟩ t) := by
  refine AllW.ofTree (tree_unp_0 std _ wait now newest reply harmed count rh sh re se n s t pc e cs ws fs ch came went seen ps) ?_
  refine ⟨⟨⟨by decide, by decide, by decide⟩, by decide⟩, ⟨⟨by decide, by decide, by decide⟩, by decide⟩, rfl, rfl, rfl, rfl, rfl, ?_⟩
  refine ⟨fun h1 => ?_, fun h1 => ?_⟩
  · refine ⟨rfl, ?_⟩
    refine ⟨rfl, _, _, ⟨rfl, ⟨wait, now, reply, newest, (std.add rh s), sh, harmed, count, cs, ws, fs, (std.dput came 0 (std.add (std.dget came 0 0) s)), went, seen, pc, ps, some ⟨re, se, ch, .unp⟩⟩, rfl, ⟨rfl, ?_⟩⟩, rfl, .inl ⟨rfl, .cons rfl (.ref rfl) (.cons rfl (.int _) .nil)⟩⟩
    refine ⟨⟨by simp [std, e1], by simp [std, e2], ?_, ?_, ?_⟩, by simp [std]⟩
    · first | omega | (simp [std]; omega)
    · first | exact e4 | exact NRl.nil | exact NRl.cons (NRv.bytes _) NRl.nil
    · first | trivial | exact e5 | exact Int.le_refl _
  · refine ⟨hseen, ?_⟩
    refine ⟨fun h2 => ?_, fun h2 => ?_⟩
    · refine ⟨rfl, rfl, rfl, (by rw [h2] <;> rfl), rfl, rfl, rfl, rfl, rfl, rfl, rfl, rfl, rfl, ?_⟩
      refine ⟨rfl, _, _, ⟨rfl, ⟨wait, now, reply, (std.max newest n), (std.add rh s), (std.add sh reply), harmed, count, cs, ws, fs, (std.dput came 0 (std.add (std.dget came 0 0) s)), (std.dput went 0 (std.add (std.dget went 0 0) reply)), (std.iapp seen n), pc, ps, some ⟨re, se, ch, .unp⟩⟩, rfl, ⟨rfl, ?_⟩⟩, rfl, .inl ⟨rfl, .cons rfl (.ref rfl) (.cons rfl (.int _) .nil)⟩⟩
      refine ⟨⟨by simp [std, e1], by simp [std, e2], ?_, ?_, ?_⟩, by simp [std]⟩
      · first | omega | (simp [std]; omega)
      · first | exact e4 | exact NRl.nil | exact NRl.cons (NRv.bytes _) NRl.nil
      · first | trivial | exact e5 | exact Int.le_refl _
    · refine ⟨rfl, rfl, rfl, (by rw [h2] <;> rfl), rfl, (by rw [h2] <;> rfl), (by rw [h2] <;> rfl), rfl, rfl, rfl, rfl, rfl, rfl, ?_⟩
      refine ⟨rfl, _, _, ⟨rfl, ⟨wait, now, reply, (std.max newest n), (std.add rh s), (std.add sh reply), harmed, count, cs, ws, fs, (std.dput came 0 (std.add (std.dget came 0 0) s)), (std.dput went 0 (std.add (std.dget went 0 0) reply)), (std.iapp seen n), pc, ps, some ⟨re, se, ch, .unp⟩⟩, rfl, ⟨rfl, ?_⟩⟩, rfl, .inl ⟨rfl, .cons rfl (.ref rfl) (.cons rfl (.int _) .nil)⟩⟩
      refine ⟨⟨by simp [std, e1], by simp [std, e2], ?_, ?_, ?_⟩, by simp [std]⟩
      · first | omega | (simp [std]; omega)
      · first | exact e4 | exact NRl.nil | exact NRl.cons (NRv.bytes _) NRl.nil
      · first | trivial | exact e5 | exact Int.le_refl _
noncomputable def d_unp_1 : D := (.lit false (.lit true (.lit false (.lit false (.lit false (.lit true (.lit false (.sym (.lit false .done) (.sym (.lit false (.lit true (.lit false (.lit false (.lit false (.lit false (.lit true (.lit false (.lit false (.lit true (.lit true (.lit true (.lit false (.lit false (.lit false (.lit true (.lit false (.lit false (.lit true (.lit false (.lit true (.lit false (.sym (.lit false .done) (.lit false .done)))))))))))))))))))))))) (.lit false (.lit true (.lit false (.lit false (.lit true (.lit true (.lit false (.lit false (.lit false (.lit false (.lit true (.lit true (.lit true (.lit false .done)))))))))))))))))))))))
theorem tree_unp_1 (O : Ops) (P : Fl × AEnv × HS → Prop) (wait now newest reply harmed count rh sh re se n s t pc e : Int) (cs ws fs ch : List AV) (came went : Nat → Option Int) (seen ps : List Int) :
    allD (runG (OL O) 1 n s t ⟨wait, now, reply, newest, rh, sh, harmed, count, cs, ws, fs, came, went, seen, pc, ps, some ⟨re, se, ch, .unp⟩⟩) d_unp_1 P =
    (((inB 0 2 ∧ (2 < 1000))) ∧
    (((inB 1 2 ∧ (2 < 1000))) ∧
    (false = false ∧ (true = true ∧ (false = false ∧ (false = false ∧ (false = false ∧ (true = true ∧ (false = false ∧ (((O.mem n seen) = true → (false = false ∧ (P (.next, [(104, (.ref 0)), (90, (.int t)), (89, (.int 1)), (105, (.str 1)), (56, (.bytes [n, s]))], enc ⟨wait, now, reply, newest, rh, sh, harmed, count, cs, ws, fs, (O.dput came 1 (O.add (O.dget came 1 0) s)), went, seen, pc, ps, some ⟨(O.add re s), se, ch, .unp⟩⟩)))) ∧
    ((O.mem n seen) = false → ((((List.length seen) < 1048576)) ∧
    (((O.lt newest n) = true → (false = false ∧ (true = true ∧ (false = false ∧ (false = false ∧ ((!(O.lt newest n)) = false ∧ (false = false ∧ (true = true ∧ (false = false ∧ (false = false ∧ (true = true ∧ (true = true ∧ (true = true ∧ (false = false ∧ (false = false ∧ (false = false ∧ (true = true ∧ (false = false ∧ ((!(O.le 30 (O.max 0 (O.sub (O.mul 3 (O.add re s)) se)))) = false ∧ ((((List.length (O.iapp seen n)) < 1048576)) ∧
    (((bytesOk [(O.ilen (O.iapp seen n))] ∧ (1 < 100))) ∧
    (true = true ∧ (((0 < 1048576)) ∧
    (false = false ∧ (true = true ∧ (false = false ∧ (((O.le reply (O.max 0 (O.sub (O.mul 3 (O.add re s)) (O.add se 30)))) = true → (false = false ∧ (P (.next, [(104, (.ref 0)), (90, (.int t)), (89, (.int 1)), (105, (.str 1)), (56, (.bytes [n, s]))], encH ⟨wait, now, reply, (O.max newest n), rh, sh, harmed, count, cs, ws, fs, (O.dput came 1 (O.add (O.dget came 1 0) s)), (O.dput (O.dput went 1 (O.add (O.dget went 1 0) 30)) 1 (O.add (O.dget (O.dput went 1 (O.add (O.dget went 1 0) 30)) 1 0) reply)), (O.iapp seen n), pc, ps, some ⟨(O.add re s), (O.add (O.add se 30) reply), [(.bytes [(O.ilen (O.iapp seen n))])], .tryE (O.add now wait)⟩⟩ (.str 1) (.int (O.add now wait)) 20 [(.ref 3), (.ref 20)] (.attrs [(26,.str 1),(27,(.str 3)),(28,.bool false),(29,.int (O.add re s)),(30,.int (O.add (O.add se 30) reply)),(31,.ref 23),(32,(.int (O.add now wait)))] :: (.inst 121 19) :: (.list ch) :: (.list [(.int (O.ilen (O.iapp seen n)))]) :: (.list [(.bytes [(O.ilen (O.iapp seen n))])]) :: []))))) ∧
    ((O.le reply (O.max 0 (O.sub (O.mul 3 (O.add re s)) (O.add se 30)))) = false → (false = false ∧ (P (.next, [(104, (.ref 0)), (90, (.int t)), (89, (.int 1)), (105, (.str 1)), (56, (.bytes [n, s]))], encH ⟨wait, now, reply, (O.max newest n), rh, sh, harmed, count, cs, ws, fs, (O.dput came 1 (O.add (O.dget came 1 0) s)), (O.dput went 1 (O.add (O.dget went 1 0) 30)), (O.iapp seen n), pc, ps, some ⟨(O.add re s), (O.add se 30), [(.bytes [(O.ilen (O.iapp seen n))])], .tryE (O.add now wait)⟩⟩ (.str 1) (.int (O.add now wait)) 20 [(.ref 3), (.ref 20)] (.attrs [(26,.str 1),(27,(.str 3)),(28,.bool false),(29,.int (O.add re s)),(30,.int (O.add se 30)),(31,.ref 23),(32,(.int (O.add now wait)))] :: (.inst 121 19) :: (.list ch) :: (.list [(.int (O.ilen (O.iapp seen n)))]) :: (.list [(.bytes [(O.ilen (O.iapp seen n))])]) :: [])))))))))))))))))))))))))))))))) ∧
    ((O.lt newest n) = false → (false = false ∧ (true = true ∧ (false = false ∧ (false = false ∧ ((!(O.lt newest n)) = true ∧ (true = true ∧ ((!(false == (O.lt newest n))) = false ∧ ((O.lt newest n) = false ∧ (false = false ∧ (false = false ∧ (true = true ∧ (true = true ∧ (true = true ∧ (false = false ∧ (P (.next, [(104, (.ref 0)), (90, (.int t)), (89, (.int 1)), (105, (.str 1)), (56, (.bytes [n, s]))], enc ⟨wait, now, reply, (O.max newest n), rh, (O.add sh reply), harmed, count, cs, ws, fs, (O.dput came 1 (O.add (O.dget came 1 0) s)), (O.dput went 0 (O.add (O.dget went 0 0) reply)), (O.iapp seen n), pc, ps, some ⟨(O.add re s), se, ch, .unp⟩⟩)))))))))))))))))))))))))))))) := by kernel_rfl
theorem core_unp_1 {wait now newest reply harmed count rh sh re se n s t pc e : Int} {cs ws fs ch : List AV} {came went : Nat → Option Int} {seen ps : List Int}
  (e1 : came 1 = some re) (e2 : (went 1).getD 0 = se) (e3 : se ≤ 3 * re) (e4 : NRl ch) (e5 : True) (hcs : NRl cs) (hws : NRl ws) (hfs : NRl fs) (hsz : 40 ≤ s) (hseen : seen.length < 2 ^ 20) (hs2 : (std.iapp seen n).length < 2 ^ 20) (hb : bytesOk [std.ilen (std.iapp seen n)] ∧ [std.ilen (std.iapp seen n)].length < 100) (h30 : (std.le 30 (std.max 0 (std.sub (std.mul 3 (std.add re s)) se))) = true) :
    AllW (runG std 1 n s t ⟨wait, now, reply, newest, rh, sh, harmed, count, cs, ws, fs, came, went, seen, pc, ps, some ⟨re, se, ch, .unp⟩⟩) (GPost ⟨wait, now, reply, newest, rh, sh, harmed, count, cs, ws, fs, came, went, seen, pc, ps, some ⟨re, se, ch, .unp⟩⟩ t) := by
  refine AllW.ofTree (tree_unp_1 std _ wait now newest reply harmed count rh sh re se n s t pc e cs ws fs ch came went seen ps) ?_
  refine ⟨⟨⟨by decide, by decide, by decide⟩, by decide⟩, ⟨⟨by decide, by decide, by decide⟩, by decide⟩, rfl, rfl, rfl, rfl, rfl, rfl, rfl, ?_⟩
  refine ⟨fun h1 => ?_, fun h1 => ?_⟩
  · refine ⟨rfl, ?_⟩
    refine ⟨rfl, _, _, ⟨rfl, ⟨wait, now, reply, newest, rh, sh, harmed, count, cs, ws, fs, (std.dput came 1 (std.add (std.dget came 1 0) s)), went, seen, pc, ps, some ⟨(std.add re s), se, ch, .unp⟩⟩, rfl, ⟨rfl, ?_⟩⟩, rfl, .inl ⟨rfl, .cons rfl (.ref rfl) (.cons rfl (.int _) .nil)⟩⟩
    refine ⟨⟨by simp [std, e1], by simp [std, e2], ?_, ?_, ?_⟩, by simp [std]⟩
    · first | omega | (simp [std]; omega)
    · first | exact e4 | exact NRl.nil | exact NRl.cons (NRv.bytes _) NRl.nil
    · first | trivial | exact e5 | exact Int.le_refl _
  · refine ⟨hseen, ?_⟩
    refine ⟨fun h2 => ?_, fun h2 => ?_⟩
    · refine ⟨rfl, rfl, rfl, rfl, (by rw [h2] <;> rfl), rfl, rfl, rfl, rfl, rfl, rfl, rfl, rfl, rfl, rfl, rfl, rfl, (by rw [h30] <;> rfl), hs2, ⟨hb.1, by decide⟩, rfl, by decide, rfl, rfl, rfl, ?_⟩
      refine ⟨fun h3 => ?_, fun h3 => ?_⟩
      · refine ⟨rfl, ?_⟩
        refine ⟨rfl, _, _, ⟨rfl, ⟨wait, now, reply, (std.max newest n), rh, sh, harmed, count, cs, ws, fs, (std.dput came 1 (std.add (std.dget came 1 0) s)), (std.dput (std.dput went 1 (std.add (std.dget went 1 0) 30)) 1 (std.add (std.dget (std.dput went 1 (std.add (std.dget went 1 0) 30)) 1 0) reply)), (std.iapp seen n), pc, ps, some ⟨(std.add re s), (std.add (std.add se 30) reply), [(.bytes [(std.ilen (std.iapp seen n))])], .tryE (std.add now wait)⟩⟩, rfl, ⟨rfl, ?_⟩⟩, rfl, .inr ⟨rho21 23, sub_ch rho23 (NRv.str _) (NRv.int _) (Nat.lt_succ_self 20) (fun R h => .cons (.ref (h _ (by decide))) (.cons (.ref (h _ (by decide))) .nil)) hcs hws hfs (NRl.cons (NRv.bytes _) NRl.nil) (NRv.str _) (NRv.int _) rfl (by decide), rfl, rfl, .cons rfl (.ref rfl) (.cons rfl (.int _) .nil)⟩⟩
        refine ⟨⟨by simp [std, e1], by simp [std, e2], ?_, ?_, ?_⟩, by simp [std]⟩
        · first | omega | (simp [std]; omega) | (simp [std] at h3 ⊢; split at h3 <;> omega)
        · first | exact e4 | exact NRl.nil | exact NRl.cons (NRv.bytes _) NRl.nil
        · first | trivial | exact e5 | exact Int.le_refl _
      · refine ⟨rfl, ?_⟩
        refine ⟨rfl, _, _, ⟨rfl, ⟨wait, now, reply, (std.max newest n), rh, sh, harmed, count, cs, ws, fs, (std.dput came 1 (std.add (std.dget came 1 0) s)), (std.dput went 1 (std.add (std.dget went 1 0) 30)), (std.iapp seen n), pc, ps, some ⟨(std.add re s), (std.add se 30), [(.bytes [(std.ilen (std.iapp seen n))])], .tryE (std.add now wait)⟩⟩, rfl, ⟨rfl, ?_⟩⟩, rfl, .inr ⟨rho21 23, sub_ch rho23 (NRv.str _) (NRv.int _) (Nat.lt_succ_self 20) (fun R h => .cons (.ref (h _ (by decide))) (.cons (.ref (h _ (by decide))) .nil)) hcs hws hfs (NRl.cons (NRv.bytes _) NRl.nil) (NRv.str _) (NRv.int _) rfl (by decide), rfl, rfl, .cons rfl (.ref rfl) (.cons rfl (.int _) .nil)⟩⟩
        refine ⟨⟨by simp [std, e1], by simp [std, e2], ?_, ?_, ?_⟩, by simp [std]⟩
        · first | omega | (simp [std]; omega) | (simp [std] at h3 ⊢; split at h3 <;> omega)
        · first | exact e4 | exact NRl.nil | exact NRl.cons (NRv.bytes _) NRl.nil
        · first | trivial | exact e5 | exact Int.le_refl _
    · refine ⟨rfl, rfl, rfl, rfl, (by rw [h2] <;> rfl), rfl, (by rw [h2] <;> rfl), (by rw [h2] <;> rfl), rfl, rfl, rfl, rfl, rfl, rfl, ?_⟩
      refine ⟨rfl, _, _, ⟨rfl, ⟨wait, now, reply, (std.max newest n), rh, (std.add sh reply), harmed, count, cs, ws, fs, (std.dput came 1 (std.add (std.dget came 1 0) s)), (std.dput went 0 (std.add (std.dget went 0 0) reply)), (std.iapp seen n), pc, ps, some ⟨(std.add re s), se, ch, .unp⟩⟩, rfl, ⟨rfl, ?_⟩⟩, rfl, .inl ⟨rfl, .cons rfl (.ref rfl) (.cons rfl (.int _) .nil)⟩⟩
      refine ⟨⟨by simp [std, e1], by simp [std, e2], ?_, ?_, ?_⟩, by simp [std]⟩
      · first | omega | (simp [std]; omega)
      · first | exact e4 | exact NRl.nil | exact NRl.cons (NRv.bytes _) NRl.nil
      · first | trivial | exact e5 | exact Int.le_refl _
noncomputable def d_fai_0 : D := (.lit true (.lit false (.lit false (.lit true (.lit false (.sym (.lit false .done) (.sym (.lit true (.lit false (.lit false (.lit false (.lit true (.lit false (.lit false (.lit false (.lit false (.lit true (.lit true (.lit true (.lit false .done))))))))))))) (.lit true (.lit false (.lit false (.lit true (.lit true (.lit false (.lit false (.lit false (.lit false (.lit true (.lit true (.lit true (.lit false .done))))))))))))))))))))
theorem tree_fai_0 (O : Ops) (P : Fl × AEnv × HS → Prop) (wait now newest reply harmed count rh sh re se n s t pc e : Int) (cs ws fs ch : List AV) (came went : Nat → Option Int) (seen ps : List Int) :
    allD (runG (OL O) 0 n s t ⟨wait, now, reply, newest, rh, sh, harmed, count, cs, ws, fs, came, went, seen, pc, ps, some ⟨re, se, ch, .fai⟩⟩) d_fai_0 P =
    (((inB 0 2 ∧ (2 < 1000))) ∧
    (((inB 1 2 ∧ (2 < 1000))) ∧
    (true = true ∧ (false = false ∧ (false = false ∧ (true = true ∧ (false = false ∧ (((O.mem n seen) = true → (false = false ∧ (P (.next, [(104, (.ref 0)), (90, (.int t)), (89, (.int 1)), (105, (.str 0)), (56, (.bytes [n, s]))], enc ⟨wait, now, reply, newest, (O.add rh s), sh, harmed, count, cs, ws, fs, (O.dput came 0 (O.add (O.dget came 0 0) s)), went, seen, pc, ps, some ⟨re, se, ch, .fai⟩⟩)))) ∧
    ((O.mem n seen) = false → ((((List.length seen) < 1048576)) ∧
    (((O.lt newest n) = true → (true = true ∧ (false = false ∧ (false = false ∧ ((!(O.lt newest n)) = false ∧ (true = true ∧ (false = false ∧ (false = false ∧ (false = false ∧ (false = false ∧ (true = true ∧ (true = true ∧ (true = true ∧ (false = false ∧ (P (.next, [(104, (.ref 0)), (90, (.int t)), (89, (.int 1)), (105, (.str 0)), (56, (.bytes [n, s]))], enc ⟨wait, now, reply, (O.max newest n), (O.add rh s), (O.add sh reply), harmed, count, cs, ws, fs, (O.dput came 0 (O.add (O.dget came 0 0) s)), (O.dput went 0 (O.add (O.dget went 0 0) reply)), (O.iapp seen n), pc, ps, some ⟨re, se, ch, .fai⟩⟩)))))))))))))))) ∧
    ((O.lt newest n) = false → (true = true ∧ (false = false ∧ (false = false ∧ ((!(O.lt newest n)) = true ∧ (true = true ∧ ((!(false == (O.lt newest n))) = false ∧ ((O.lt newest n) = false ∧ (false = false ∧ (false = false ∧ (true = true ∧ (true = true ∧ (true = true ∧ (false = false ∧ (P (.next, [(104, (.ref 0)), (90, (.int t)), (89, (.int 1)), (105, (.str 0)), (56, (.bytes [n, s]))], enc ⟨wait, now, reply, (O.max newest n), (O.add rh s), (O.add sh reply), harmed, count, cs, ws, fs, (O.dput came 0 (O.add (O.dget came 0 0) s)), (O.dput went 0 (O.add (O.dget went 0 0) reply)), (O.iapp seen n), pc, ps, some ⟨re, se, ch, .fai⟩⟩))))))))))))))))))))))))))) := by kernel_rfl
theorem core_fai_0 {wait now newest reply harmed count rh sh re se n s t pc e : Int} {cs ws fs ch : List AV} {came went : Nat → Option Int} {seen ps : List Int}
  (e1 : came 1 = some re) (e2 : (went 1).getD 0 = se) (e3 : se ≤ 3 * re) (e4 : NRl ch) (e5 : True) (hcs : NRl cs) (hws : NRl ws) (hfs : NRl fs) (hsz : 40 ≤ s) (hseen : seen.length < 2 ^ 20) :
    AllW (runG std 0 n s t ⟨wait, now, reply, newest, rh, sh, harmed, count, cs, ws, fs, came, went, seen, pc, ps, some ⟨re, se, ch, .fai⟩⟩) (GPost ⟨wait, now, reply, newest, rh, sh, harmed, count, cs, ws, fs, came, went, seen, pc, ps, some ⟨re, se, ch, .fai⟩⟩ t) := by
  refine AllW.ofTree (tree_fai_0 std _ wait now newest reply harmed count rh sh re se n s t pc e cs ws fs ch came went seen ps) ?_
  refine ⟨⟨⟨by decide, by decide, by decide⟩, by decide⟩, ⟨⟨by decide, by decide, by decide⟩, by decide⟩, rfl, rfl, rfl, rfl, rfl, ?_⟩
  refine ⟨fun h1 => ?_, fun h1 => ?_⟩
  · refine ⟨rfl, ?_⟩
    refine ⟨rfl, _, _, ⟨rfl, ⟨wait, now, reply, newest, (std.add rh s), sh, harmed, count, cs, ws, fs, (std.dput came 0 (std.add (std.dget came 0 0) s)), went, seen, pc, ps, some ⟨re, se, ch, .fai⟩⟩, rfl, ⟨rfl, ?_⟩⟩, rfl, .inl ⟨rfl, .cons rfl (.ref rfl) (.cons rfl (.int _) .nil)⟩⟩
    refine ⟨⟨by simp [std, e1], by simp [std, e2], ?_, ?_, ?_⟩, by simp [std]⟩
    · first | omega | (simp [std]; omega)
    · first | exact e4 | exact NRl.nil | exact NRl.cons (NRv.bytes _) NRl.nil
    · first | trivial | exact e5 | exact Int.le_refl _
  · refine ⟨hseen, ?_⟩
    refine ⟨fun h2 => ?_, fun h2 => ?_⟩
    · refine ⟨rfl, rfl, rfl, (by rw [h2] <;> rfl), rfl, rfl, rfl, rfl, rfl, rfl, rfl, rfl, rfl, ?_⟩
      refine ⟨rfl, _, _, ⟨rfl, ⟨wait, now, reply, (std.max newest n), (std.add rh s), (std.add sh reply), harmed, count, cs, ws, fs, (std.dput came 0 (std.add (std.dget came 0 0) s)), (std.dput went 0 (std.add (std.dget went 0 0) reply)), (std.iapp seen n), pc, ps, some ⟨re, se, ch, .fai⟩⟩, rfl, ⟨rfl, ?_⟩⟩, rfl, .inl ⟨rfl, .cons rfl (.ref rfl) (.cons rfl (.int _) .nil)⟩⟩
      refine ⟨⟨by simp [std, e1], by simp [std, e2], ?_, ?_, ?_⟩, by simp [std]⟩
      · first | omega | (simp [std]; omega)
      · first | exact e4 | exact NRl.nil | exact NRl.cons (NRv.bytes _) NRl.nil
      · first | trivial | exact e5 | exact Int.le_refl _
    · refine ⟨rfl, rfl, rfl, (by rw [h2] <;> rfl), rfl, (by rw [h2] <;> rfl), (by rw [h2] <;> rfl), rfl, rfl, rfl, rfl, rfl, rfl, ?_⟩
      refine ⟨rfl, _, _, ⟨rfl, ⟨wait, now, reply, (std.max newest n), (std.add rh s), (std.add sh reply), harmed, count, cs, ws, fs, (std.dput came 0 (std.add (std.dget came 0 0) s)), (std.dput went 0 (std.add (std.dget went 0 0) reply)), (std.iapp seen n), pc, ps, some ⟨re, se, ch, .fai⟩⟩, rfl, ⟨rfl, ?_⟩⟩, rfl, .inl ⟨rfl, .cons rfl (.ref rfl) (.cons rfl (.int _) .nil)⟩⟩
      refine ⟨⟨by simp [std, e1], by simp [std, e2], ?_, ?_, ?_⟩, by simp [std]⟩
      · first | omega | (simp [std]; omega)
      · first | exact e4 | exact NRl.nil | exact NRl.cons (NRv.bytes _) NRl.nil
      · first | trivial | exact e5 | exact Int.le_refl _
noncomputable def d_fai_1 : D := (.lit false (.lit true (.lit false (.lit false (.lit false (.lit true (.lit false (.sym (.lit false .done) (.sym (.lit false (.lit true (.lit false (.lit false (.lit false (.lit false (.lit true (.lit true (.lit false (.lit true (.lit true (.lit true (.lit false (.lit false (.lit false (.lit true (.lit false (.lit false (.lit true (.lit false (.lit true (.lit false (.sym (.lit false .done) (.lit false .done)))))))))))))))))))))))) (.lit false (.lit true (.lit false (.lit false (.lit true (.lit true (.lit false (.lit false (.lit false (.lit false (.lit true (.lit true (.lit true (.lit false .done)))))))))))))))))))))))
theorem tree_fai_1 (O : Ops) (P : Fl × AEnv × HS → Prop) (wait now newest reply harmed count rh sh re se n s t pc e : Int) (cs ws fs ch : List AV) (came went : Nat → Option Int) (seen ps : List Int) :
    allD (runG (OL O) 1 n s t ⟨wait, now, reply, newest, rh, sh, harmed, count, cs, ws, fs, came, went, seen, pc, ps, some ⟨re, se, ch, .fai⟩⟩) d_fai_1 P =
    (((inB 0 2 ∧ (2 < 1000))) ∧
    (((inB 1 2 ∧ (2 < 1000))) ∧
    (false = false ∧ (true = true ∧ (false = false ∧ (false = false ∧ (false = false ∧ (true = true ∧ (false = false ∧ (((O.mem n seen) = true → (false = false ∧ (P (.next, [(104, (.ref 0)), (90, (.int t)), (89, (.int 1)), (105, (.str 1)), (56, (.bytes [n, s]))], enc ⟨wait, now, reply, newest, rh, sh, harmed, count, cs, ws, fs, (O.dput came 1 (O.add (O.dget came 1 0) s)), went, seen, pc, ps, some ⟨(O.add re s), se, ch, .fai⟩⟩)))) ∧
    ((O.mem n seen) = false → ((((List.length seen) < 1048576)) ∧
    (((O.lt newest n) = true → (false = false ∧ (true = true ∧ (false = false ∧ (false = false ∧ ((!(O.lt newest n)) = false ∧ (false = false ∧ (true = true ∧ (true = true ∧ (false = false ∧ (true = true ∧ (true = true ∧ (true = true ∧ (false = false ∧ (false = false ∧ (false = false ∧ (true = true ∧ (false = false ∧ ((!(O.le 30 (O.max 0 (O.sub (O.mul 3 (O.add re s)) se)))) = false ∧ ((((List.length (O.iapp seen n)) < 1048576)) ∧
    (((bytesOk [(O.ilen (O.iapp seen n))] ∧ (1 < 100))) ∧
    (true = true ∧ (((0 < 1048576)) ∧
    (false = false ∧ (true = true ∧ (false = false ∧ (((O.le reply (O.max 0 (O.sub (O.mul 3 (O.add re s)) (O.add se 30)))) = true → (false = false ∧ (P (.next, [(104, (.ref 0)), (90, (.int t)), (89, (.int 1)), (105, (.str 1)), (56, (.bytes [n, s]))], encH ⟨wait, now, reply, (O.max newest n), rh, sh, harmed, count, cs, ws, fs, (O.dput came 1 (O.add (O.dget came 1 0) s)), (O.dput (O.dput went 1 (O.add (O.dget went 1 0) 30)) 1 (O.add (O.dget (O.dput went 1 (O.add (O.dget went 1 0) 30)) 1 0) reply)), (O.iapp seen n), pc, ps, some ⟨(O.add re s), (O.add (O.add se 30) reply), [(.bytes [(O.ilen (O.iapp seen n))])], .tryE (O.add now wait)⟩⟩ (.str 1) (.int (O.add now wait)) 20 [(.ref 3), (.ref 20)] (.attrs [(26,.str 1),(27,(.str 3)),(28,.bool false),(29,.int (O.add re s)),(30,.int (O.add (O.add se 30) reply)),(31,.ref 23),(32,(.int (O.add now wait)))] :: (.inst 121 19) :: (.list ch) :: (.list [(.int (O.ilen (O.iapp seen n)))]) :: (.list [(.bytes [(O.ilen (O.iapp seen n))])]) :: []))))) ∧
    ((O.le reply (O.max 0 (O.sub (O.mul 3 (O.add re s)) (O.add se 30)))) = false → (false = false ∧ (P (.next, [(104, (.ref 0)), (90, (.int t)), (89, (.int 1)), (105, (.str 1)), (56, (.bytes [n, s]))], encH ⟨wait, now, reply, (O.max newest n), rh, sh, harmed, count, cs, ws, fs, (O.dput came 1 (O.add (O.dget came 1 0) s)), (O.dput went 1 (O.add (O.dget went 1 0) 30)), (O.iapp seen n), pc, ps, some ⟨(O.add re s), (O.add se 30), [(.bytes [(O.ilen (O.iapp seen n))])], .tryE (O.add now wait)⟩⟩ (.str 1) (.int (O.add now wait)) 20 [(.ref 3), (.ref 20)] (.attrs [(26,.str 1),(27,(.str 3)),(28,.bool false),(29,.int (O.add re s)),(30,.int (O.add se 30)),(31,.ref 23),(32,(.int (O.add now wait)))] :: (.inst 121 19) :: (.list ch) :: (.list [(.int (O.ilen (O.iapp seen n)))]) :: (.list [(.bytes [(O.ilen (O.iapp seen n))])]) :: [])))))))))))))))))))))))))))))))) ∧
    ((O.lt newest n) = false → (false = false ∧ (true = true ∧ (false = false ∧ (false = false ∧ ((!(O.lt newest n)) = true ∧ (true = true ∧ ((!(false == (O.lt newest n))) = false ∧ ((O.lt newest n) = false ∧ (false = false ∧ (false = false ∧ (true = true ∧ (true = true ∧ (true = true ∧ (false = false ∧ (P (.next, [(104, (.ref 0)), (90, (.int t)), (89, (.int 1)), (105, (.str 1)), (56, (.bytes [n, s]))], enc ⟨wait, now, reply, (O.max newest n), rh, (O.add sh reply), harmed, count, cs, ws, fs, (O.dput came 1 (O.add (O.dget came 1 0) s)), (O.dput went 0 (O.add (O.dget went 0 0) reply)), (O.iapp seen n), pc, ps, some ⟨(O.add re s), se, ch, .fai⟩⟩)))))))))))))))))))))))))))))) := by kernel_rfl
theorem core_fai_1 {wait now newest reply harmed count rh sh re se n s t pc e : Int} {cs ws fs ch : List AV} {came went : Nat → Option Int} {seen ps : List Int}
  (e1 : came 1 = some re) (e2 : (went 1).getD 0 = se) (e3 : se ≤ 3 * re) (e4 : NRl ch) (e5 : True) (hcs : NRl cs) (hws : NRl ws) (hfs : NRl fs) (hsz : 40 ≤ s) (hseen : seen.length < 2 ^ 20) (hs2 : (std.iapp seen n).length < 2 ^ 20) (hb : bytesOk [std.ilen (std.iapp seen n)] ∧ [std.ilen (std.iapp seen n)].length < 100) (h30 : (std.le 30 (std.max 0 (std.sub (std.mul 3 (std.add re s)) se))) = true) :
    AllW (runG std 1 n s t ⟨wait, now, reply, newest, rh, sh, harmed, count, cs, ws, fs, came, went, seen, pc, ps, some ⟨re, se, ch, .fai⟩⟩) (GPost ⟨wait, now, reply, newest, rh, sh, harmed, count, cs, ws, fs, came, went, seen, pc, ps, some ⟨re, se, ch, .fai⟩⟩ t) := by
  refine AllW.ofTree (tree_fai_1 std _ wait now newest reply harmed count rh sh re se n s t pc e cs ws fs ch came went seen ps) ?_
  refine ⟨⟨⟨by decide, by decide, by decide⟩, by decide⟩, ⟨⟨by decide, by decide, by decide⟩, by decide⟩, rfl, rfl, rfl, rfl, rfl, rfl, rfl, ?_⟩
  refine ⟨fun h1 => ?_, fun h1 => ?_⟩
  · refine ⟨rfl, ?_⟩
    refine ⟨rfl, _, _, ⟨rfl, ⟨wait, now, reply, newest, rh, sh, harmed, count, cs, ws, fs, (std.dput came 1 (std.add (std.dget came 1 0) s)), went, seen, pc, ps, some ⟨(std.add re s), se, ch, .fai⟩⟩, rfl, ⟨rfl, ?_⟩⟩, rfl, .inl ⟨rfl, .cons rfl (.ref rfl) (.cons rfl (.int _) .nil)⟩⟩
    refine ⟨⟨by simp [std, e1], by simp [std, e2], ?_, ?_, ?_⟩, by simp [std]⟩
    · first | omega | (simp [std]; omega)
    · first | exact e4 | exact NRl.nil | exact NRl.cons (NRv.bytes _) NRl.nil
    · first | trivial | exact e5 | exact Int.le_refl _
  · refine ⟨hseen, ?_⟩
    refine ⟨fun h2 => ?_, fun h2 => ?_⟩
    · refine ⟨rfl, rfl, rfl, rfl, (by rw [h2] <;> rfl), rfl, rfl, rfl, rfl, rfl, rfl, rfl, rfl, rfl, rfl, rfl, rfl, (by rw [h30] <;> rfl), hs2, ⟨hb.1, by decide⟩, rfl, by decide, rfl, rfl, rfl, ?_⟩
      refine ⟨fun h3 => ?_, fun h3 => ?_⟩
      · refine ⟨rfl, ?_⟩
        refine ⟨rfl, _, _, ⟨rfl, ⟨wait, now, reply, (std.max newest n), rh, sh, harmed, count, cs, ws, fs, (std.dput came 1 (std.add (std.dget came 1 0) s)), (std.dput (std.dput went 1 (std.add (std.dget went 1 0) 30)) 1 (std.add (std.dget (std.dput went 1 (std.add (std.dget went 1 0) 30)) 1 0) reply)), (std.iapp seen n), pc, ps, some ⟨(std.add re s), (std.add (std.add se 30) reply), [(.bytes [(std.ilen (std.iapp seen n))])], .tryE (std.add now wait)⟩⟩, rfl, ⟨rfl, ?_⟩⟩, rfl, .inr ⟨rho21 23, sub_ch rho23 (NRv.str _) (NRv.int _) (Nat.lt_succ_self 20) (fun R h => .cons (.ref (h _ (by decide))) (.cons (.ref (h _ (by decide))) .nil)) hcs hws hfs (NRl.cons (NRv.bytes _) NRl.nil) (NRv.str _) (NRv.int _) rfl (by decide), rfl, rfl, .cons rfl (.ref rfl) (.cons rfl (.int _) .nil)⟩⟩
        refine ⟨⟨by simp [std, e1], by simp [std, e2], ?_, ?_, ?_⟩, by simp [std]⟩
        · first | omega | (simp [std]; omega) | (simp [std] at h3 ⊢; split at h3 <;> omega)
        · first | exact e4 | exact NRl.nil | exact NRl.cons (NRv.bytes _) NRl.nil
        · first | trivial | exact e5 | exact Int.le_refl _
      · refine ⟨rfl, ?_⟩
        refine ⟨rfl, _, _, ⟨rfl, ⟨wait, now, reply, (std.max newest n), rh, sh, harmed, count, cs, ws, fs, (std.dput came 1 (std.add (std.dget came 1 0) s)), (std.dput went 1 (std.add (std.dget went 1 0) 30)), (std.iapp seen n), pc, ps, some ⟨(std.add re s), (std.add se 30), [(.bytes [(std.ilen (std.iapp seen n))])], .tryE (std.add now wait)⟩⟩, rfl, ⟨rfl, ?_⟩⟩, rfl, .inr ⟨rho21 23, sub_ch rho23 (NRv.str _) (NRv.int _) (Nat.lt_succ_self 20) (fun R h => .cons (.ref (h _ (by decide))) (.cons (.ref (h _ (by decide))) .nil)) hcs hws hfs (NRl.cons (NRv.bytes _) NRl.nil) (NRv.str _) (NRv.int _) rfl (by decide), rfl, rfl, .cons rfl (.ref rfl) (.cons rfl (.int _) .nil)⟩⟩
        refine ⟨⟨by simp [std, e1], by simp [std, e2], ?_, ?_, ?_⟩, by simp [std]⟩
        · first | omega | (simp [std]; omega) | (simp [std] at h3 ⊢; split at h3 <;> omega)
        · first | exact e4 | exact NRl.nil | exact NRl.cons (NRv.bytes _) NRl.nil
        · first | trivial | exact e5 | exact Int.le_refl _
    · refine ⟨rfl, rfl, rfl, rfl, (by rw [h2] <;> rfl), rfl, (by rw [h2] <;> rfl), (by rw [h2] <;> rfl), rfl, rfl, rfl, rfl, rfl, rfl, ?_⟩
      refine ⟨rfl, _, _, ⟨rfl, ⟨wait, now, reply, (std.max newest n), rh, (std.add sh reply), harmed, count, cs, ws, fs, (std.dput came 1 (std.add (std.dget came 1 0) s)), (std.dput went 0 (std.add (std.dget went 0 0) reply)), (std.iapp seen n), pc, ps, some ⟨(std.add re s), se, ch, .fai⟩⟩, rfl, ⟨rfl, ?_⟩⟩, rfl, .inl ⟨rfl, .cons rfl (.ref rfl) (.cons rfl (.int _) .nil)⟩⟩
      refine ⟨⟨by simp [std, e1], by simp [std, e2], ?_, ?_, ?_⟩, by simp [std]⟩
      · first | omega | (simp [std]; omega)
      · first | exact e4 | exact NRl.nil | exact NRl.cons (NRv.bytes _) NRl.nil
      · first | trivial | exact e5 | exact Int.le_refl _
noncomputable def d_tryH_0 : D := (.lit true (.lit false (.lit false (.lit true (.lit false (.sym (.lit false .done) (.sym (.lit true (.lit false (.lit false (.lit false (.lit true (.lit false (.lit false (.lit false (.lit false (.lit true (.lit true (.lit true (.lit false .done))))))))))))) (.lit true (.lit false (.lit false (.lit true (.lit true (.lit false (.lit false (.lit false (.lit false (.lit true (.lit true (.lit true (.lit false .done))))))))))))))))))))
theorem tree_tryH_0 (O : Ops) (P : Fl × AEnv × HS → Prop) (wait now newest reply harmed count rh sh re se n s t pc e : Int) (cs ws fs ch : List AV) (came went : Nat → Option Int) (seen ps : List Int) :
    allD (runG (OL O) 0 n s t ⟨wait, now, reply, newest, rh, sh, harmed, count, cs, ws, fs, came, went, seen, pc, ps, some ⟨re, se, ch, .tryH e⟩⟩) d_tryH_0 P =
    (((inB 0 2 ∧ (2 < 1000))) ∧
    (((inB 1 2 ∧ (2 < 1000))) ∧
    (true = true ∧ (false = false ∧ (false = false ∧ (true = true ∧ (false = false ∧ (((O.mem n seen) = true → (false = false ∧ (P (.next, [(104, (.ref 0)), (90, (.int t)), (89, (.int 1)), (105, (.str 0)), (56, (.bytes [n, s]))], enc ⟨wait, now, reply, newest, (O.add rh s), sh, harmed, count, cs, ws, fs, (O.dput came 0 (O.add (O.dget came 0 0) s)), went, seen, pc, ps, some ⟨re, se, ch, .tryH e⟩⟩)))) ∧
    ((O.mem n seen) = false → ((((List.length seen) < 1048576)) ∧
    (((O.lt newest n) = true → (true = true ∧ (false = false ∧ (false = false ∧ ((!(O.lt newest n)) = false ∧ (true = true ∧ (false = false ∧ (false = false ∧ (false = false ∧ (false = false ∧ (true = true ∧ (true = true ∧ (true = true ∧ (false = false ∧ (P (.next, [(104, (.ref 0)), (90, (.int t)), (89, (.int 1)), (105, (.str 0)), (56, (.bytes [n, s]))], enc ⟨wait, now, reply, (O.max newest n), (O.add rh s), (O.add sh reply), harmed, count, cs, ws, fs, (O.dput came 0 (O.add (O.dget came 0 0) s)), (O.dput went 0 (O.add (O.dget went 0 0) reply)), (O.iapp seen n), pc, ps, some ⟨re, se, ch, .tryH e⟩⟩)))))))))))))))) ∧
    ((O.lt newest n) = false → (true = true ∧ (false = false ∧ (false = false ∧ ((!(O.lt newest n)) = true ∧ (true = true ∧ ((!(false == (O.lt newest n))) = false ∧ ((O.lt newest n) = false ∧ (false = false ∧ (false = false ∧ (true = true ∧ (true = true ∧ (true = true ∧ (false = false ∧ (P (.next, [(104, (.ref 0)), (90, (.int t)), (89, (.int 1)), (105, (.str 0)), (56, (.bytes [n, s]))], enc ⟨wait, now, reply, (O.max newest n), (O.add rh s), (O.add sh reply), harmed, count, cs, ws, fs, (O.dput came 0 (O.add (O.dget came 0 0) s)), (O.dput went 0 (O.add (O.dget went 0 0) reply)), (O.iapp seen n), pc, ps, some ⟨re, se, ch, .tryH e⟩⟩))))))))))))))))))))))))))) := by kernel_rfl
theorem core_tryH_0 {wait now newest reply harmed count rh sh re se n s t pc e : Int} {cs ws fs ch : List AV} {came went : Nat → Option Int} {seen ps : List Int}
  (e1 : came 1 = some re) (e2 : (went 1).getD 0 = se) (e3 : se ≤ 3 * re) (e4 : NRl ch) (e5 : e ≤ now + wait) (hcs : NRl cs) (hws : NRl ws) (hfs : NRl fs) (hsz : 40 ≤ s) (hseen : seen.length < 2 ^ 20) :
    AllW (runG std 0 n s t ⟨wait, now, reply, newest, rh, sh, harmed, count, cs, ws, fs, came, went, seen, pc, ps, some ⟨re, se, ch, .tryH e⟩⟩) (GPost ⟨wait, now, reply, newest, rh, sh, harmed, count, cs, ws, fs, came, went, seen, pc, ps, some ⟨re, se, ch, .tryH e⟩⟩ t) := by
  refine AllW.ofTree (tree_tryH_0 std _ wait now newest reply harmed count rh sh re se n s t pc e cs ws fs ch came went seen ps) ?_
  refine ⟨⟨⟨by decide, by decide, by decide⟩, by decide⟩, ⟨⟨by decide, by decide, by decide⟩, by decide⟩, rfl, rfl, rfl, rfl, rfl, ?_⟩
  refine ⟨fun h1 => ?_, fun h1 => ?_⟩
  · refine ⟨rfl, ?_⟩
    refine ⟨rfl, _, _, ⟨rfl, ⟨wait, now, reply, newest, (std.add rh s), sh, harmed, count, cs, ws, fs, (std.dput came 0 (std.add (std.dget came 0 0) s)), went, seen, pc, ps, some ⟨re, se, ch, .tryH e⟩⟩, rfl, ⟨rfl, ?_⟩⟩, rfl, .inl ⟨rfl, .cons rfl (.ref rfl) (.cons rfl (.int _) .nil)⟩⟩
    refine ⟨⟨by simp [std, e1], by simp [std, e2], ?_, ?_, ?_⟩, by simp [std]⟩
    · first | omega | (simp [std]; omega)
    · first | exact e4 | exact NRl.nil | exact NRl.cons (NRv.bytes _) NRl.nil
    · first | trivial | exact e5 | exact Int.le_refl _
  · refine ⟨hseen, ?_⟩
    refine ⟨fun h2 => ?_, fun h2 => ?_⟩
    · refine ⟨rfl, rfl, rfl, (by rw [h2] <;> rfl), rfl, rfl, rfl, rfl, rfl, rfl, rfl, rfl, rfl, ?_⟩
      refine ⟨rfl, _, _, ⟨rfl, ⟨wait, now, reply, (std.max newest n), (std.add rh s), (std.add sh reply), harmed, count, cs, ws, fs, (std.dput came 0 (std.add (std.dget came 0 0) s)), (std.dput went 0 (std.add (std.dget went 0 0) reply)), (std.iapp seen n), pc, ps, some ⟨re, se, ch, .tryH e⟩⟩, rfl, ⟨rfl, ?_⟩⟩, rfl, .inl ⟨rfl, .cons rfl (.ref rfl) (.cons rfl (.int _) .nil)⟩⟩
      refine ⟨⟨by simp [std, e1], by simp [std, e2], ?_, ?_, ?_⟩, by simp [std]⟩
      · first | omega | (simp [std]; omega)
      · first | exact e4 | exact NRl.nil | exact NRl.cons (NRv.bytes _) NRl.nil
      · first | trivial | exact e5 | exact Int.le_refl _
    · refine ⟨rfl, rfl, rfl, (by rw [h2] <;> rfl), rfl, (by rw [h2] <;> rfl), (by rw [h2] <;> rfl), rfl, rfl, rfl, rfl, rfl, rfl, ?_⟩
      refine ⟨rfl, _, _, ⟨rfl, ⟨wait, now, reply, (std.max newest n), (std.add rh s), (std.add sh reply), harmed, count, cs, ws, fs, (std.dput came 0 (std.add (std.dget came 0 0) s)), (std.dput went 0 (std.add (std.dget went 0 0) reply)), (std.iapp seen n), pc, ps, some ⟨re, se, ch, .tryH e⟩⟩, rfl, ⟨rfl, ?_⟩⟩, rfl, .inl ⟨rfl, .cons rfl (.ref rfl) (.cons rfl (.int _) .nil)⟩⟩
      refine ⟨⟨by simp [std, e1], by simp [std, e2], ?_, ?_, ?_⟩, by simp [std]⟩
      · first | omega | (simp [std]; omega)
      · first | exact e4 | exact NRl.nil | exact NRl.cons (NRv.bytes _) NRl.nil
      · first | trivial | exact e5 | exact Int.le_refl _
noncomputable def d_tryH_1 : D := (.lit false (.lit true (.lit false (.lit false (.lit false (.lit true (.lit false (.sym (.lit false .done) (.sym (.lit false (.lit true (.lit false (.lit false (.lit false (.lit false (.lit true (.lit false (.lit false (.lit true (.lit false (.lit false (.lit false (.lit true (.lit false (.sym (.lit false .done) (.lit false .done))))))))))))))))) (.lit false (.lit true (.lit false (.lit false (.lit true (.lit true (.lit false (.lit false (.lit false (.lit false (.lit true (.lit true (.lit true (.lit false .done)))))))))))))))))))))))
theorem tree_tryH_1 (O : Ops) (P : Fl × AEnv × HS → Prop) (wait now newest reply harmed count rh sh re se n s t pc e : Int) (cs ws fs ch : List AV) (came went : Nat → Option Int) (seen ps : List Int) :
    allD (runG (OL O) 1 n s t ⟨wait, now, reply, newest, rh, sh, harmed, count, cs, ws, fs, came, went, seen, pc, ps, some ⟨re, se, ch, .tryH e⟩⟩) d_tryH_1 P =
    (((inB 0 2 ∧ (2 < 1000))) ∧
    (((inB 1 2 ∧ (2 < 1000))) ∧
    (false = false ∧ (true = true ∧ (false = false ∧ (false = false ∧ (false = false ∧ (true = true ∧ (false = false ∧ (((O.mem n seen) = true → (false = false ∧ (P (.next, [(104, (.ref 0)), (90, (.int t)), (89, (.int 1)), (105, (.str 1)), (56, (.bytes [n, s]))], enc ⟨wait, now, reply, newest, rh, sh, harmed, count, cs, ws, fs, (O.dput came 1 (O.add (O.dget came 1 0) s)), went, seen, pc, ps, some ⟨(O.add re s), se, ch, .tryH e⟩⟩)))) ∧
    ((O.mem n seen) = false → ((((List.length seen) < 1048576)) ∧
    (((O.lt newest n) = true → (false = false ∧ (true = true ∧ (false = false ∧ (false = false ∧ ((!(O.lt newest n)) = false ∧ (false = false ∧ (true = true ∧ (false = false ∧ (false = false ∧ (true = true ∧ (false = false ∧ (false = false ∧ (false = false ∧ (true = true ∧ (false = false ∧ (((O.le reply (O.max 0 (O.sub (O.mul 3 (O.add re s)) se))) = true → (false = false ∧ (P (.next, [(104, (.ref 0)), (90, (.int t)), (89, (.int 1)), (105, (.str 1)), (56, (.bytes [n, s]))], enc ⟨wait, now, reply, (O.max newest n), rh, sh, harmed, count, cs, ws, fs, (O.dput came 1 (O.add (O.dget came 1 0) s)), (O.dput went 1 (O.add (O.dget went 1 0) reply)), (O.iapp seen n), pc, ps, some ⟨(O.add re s), (O.add se reply), ch, .tryE e⟩⟩)))) ∧
    ((O.le reply (O.max 0 (O.sub (O.mul 3 (O.add re s)) se))) = false → (false = false ∧ (P (.next, [(104, (.ref 0)), (90, (.int t)), (89, (.int 1)), (105, (.str 1)), (56, (.bytes [n, s]))], enc ⟨wait, now, reply, (O.max newest n), rh, sh, harmed, count, cs, ws, fs, (O.dput came 1 (O.add (O.dget came 1 0) s)), went, (O.iapp seen n), pc, ps, some ⟨(O.add re s), se, ch, .tryE e⟩⟩))))))))))))))))))))) ∧
    ((O.lt newest n) = false → (false = false ∧ (true = true ∧ (false = false ∧ (false = false ∧ ((!(O.lt newest n)) = true ∧ (true = true ∧ ((!(false == (O.lt newest n))) = false ∧ ((O.lt newest n) = false ∧ (false = false ∧ (false = false ∧ (true = true ∧ (true = true ∧ (true = true ∧ (false = false ∧ (P (.next, [(104, (.ref 0)), (90, (.int t)), (89, (.int 1)), (105, (.str 1)), (56, (.bytes [n, s]))], enc ⟨wait, now, reply, (O.max newest n), rh, (O.add sh reply), harmed, count, cs, ws, fs, (O.dput came 1 (O.add (O.dget came 1 0) s)), (O.dput went 0 (O.add (O.dget went 0 0) reply)), (O.iapp seen n), pc, ps, some ⟨(O.add re s), se, ch, .tryH e⟩⟩)))))))))))))))))))))))))))))) := by kernel_rfl
theorem core_tryH_1 {wait now newest reply harmed count rh sh re se n s t pc e : Int} {cs ws fs ch : List AV} {came went : Nat → Option Int} {seen ps : List Int}
  (e1 : came 1 = some re) (e2 : (went 1).getD 0 = se) (e3 : se ≤ 3 * re) (e4 : NRl ch) (e5 : e ≤ now + wait) (hcs : NRl cs) (hws : NRl ws) (hfs : NRl fs) (hsz : 40 ≤ s) (hseen : seen.length < 2 ^ 20) :
    AllW (runG std 1 n s t ⟨wait, now, reply, newest, rh, sh, harmed, count, cs, ws, fs, came, went, seen, pc, ps, some ⟨re, se, ch, .tryH e⟩⟩) (GPost ⟨wait, now, reply, newest, rh, sh, harmed, count, cs, ws, fs, came, went, seen, pc, ps, some ⟨re, se, ch, .tryH e⟩⟩ t) := by
  refine AllW.ofTree (tree_tryH_1 std _ wait now newest reply harmed count rh sh re se n s t pc e cs ws fs ch came went seen ps) ?_
  refine ⟨⟨⟨by decide, by decide, by decide⟩, by decide⟩, ⟨⟨by decide, by decide, by decide⟩, by decide⟩, rfl, rfl, rfl, rfl, rfl, rfl, rfl, ?_⟩
  refine ⟨fun h1 => ?_, fun h1 => ?_⟩
  · refine ⟨rfl, ?_⟩
    refine ⟨rfl, _, _, ⟨rfl, ⟨wait, now, reply, newest, rh, sh, harmed, count, cs, ws, fs, (std.dput came 1 (std.add (std.dget came 1 0) s)), went, seen, pc, ps, some ⟨(std.add re s), se, ch, .tryH e⟩⟩, rfl, ⟨rfl, ?_⟩⟩, rfl, .inl ⟨rfl, .cons rfl (.ref rfl) (.cons rfl (.int _) .nil)⟩⟩
    refine ⟨⟨by simp [std, e1], by simp [std, e2], ?_, ?_, ?_⟩, by simp [std]⟩
    · first | omega | (simp [std]; omega)
    · first | exact e4 | exact NRl.nil | exact NRl.cons (NRv.bytes _) NRl.nil
    · first | trivial | exact e5 | exact Int.le_refl _
  · refine ⟨hseen, ?_⟩
    refine ⟨fun h2 => ?_, fun h2 => ?_⟩
    · refine ⟨rfl, rfl, rfl, rfl, (by rw [h2] <;> rfl), rfl, rfl, rfl, rfl, rfl, rfl, rfl, rfl, rfl, rfl, ?_⟩
      refine ⟨fun h3 => ?_, fun h3 => ?_⟩
      · refine ⟨rfl, ?_⟩
        refine ⟨rfl, _, _, ⟨rfl, ⟨wait, now, reply, (std.max newest n), rh, sh, harmed, count, cs, ws, fs, (std.dput came 1 (std.add (std.dget came 1 0) s)), (std.dput went 1 (std.add (std.dget went 1 0) reply)), (std.iapp seen n), pc, ps, some ⟨(std.add re s), (std.add se reply), ch, .tryE e⟩⟩, rfl, ⟨rfl, ?_⟩⟩, rfl, .inl ⟨rfl, .cons rfl (.ref rfl) (.cons rfl (.int _) .nil)⟩⟩
        refine ⟨⟨by simp [std, e1], by simp [std, e2], ?_, ?_, ?_⟩, by simp [std]⟩
        · first | omega | (simp [std]; omega) | (simp [std] at h3 ⊢; split at h3 <;> omega)
        · first | exact e4 | exact NRl.nil | exact NRl.cons (NRv.bytes _) NRl.nil
        · first | trivial | exact e5 | exact Int.le_refl _
      · refine ⟨rfl, ?_⟩
        refine ⟨rfl, _, _, ⟨rfl, ⟨wait, now, reply, (std.max newest n), rh, sh, harmed, count, cs, ws, fs, (std.dput came 1 (std.add (std.dget came 1 0) s)), went, (std.iapp seen n), pc, ps, some ⟨(std.add re s), se, ch, .tryE e⟩⟩, rfl, ⟨rfl, ?_⟩⟩, rfl, .inl ⟨rfl, .cons rfl (.ref rfl) (.cons rfl (.int _) .nil)⟩⟩
        refine ⟨⟨by simp [std, e1], by simp [std, e2], ?_, ?_, ?_⟩, by simp [std]⟩
        · first | omega | (simp [std]; omega) | (simp [std] at h3 ⊢; split at h3 <;> omega)
        · first | exact e4 | exact NRl.nil | exact NRl.cons (NRv.bytes _) NRl.nil
        · first | trivial | exact e5 | exact Int.le_refl _
    · refine ⟨rfl, rfl, rfl, rfl, (by rw [h2] <;> rfl), rfl, (by rw [h2] <;> rfl), (by rw [h2] <;> rfl), rfl, rfl, rfl, rfl, rfl, rfl, ?_⟩
      refine ⟨rfl, _, _, ⟨rfl, ⟨wait, now, reply, (std.max newest n), rh, (std.add sh reply), harmed, count, cs, ws, fs, (std.dput came 1 (std.add (std.dget came 1 0) s)), (std.dput went 0 (std.add (std.dget went 0 0) reply)), (std.iapp seen n), pc, ps, some ⟨(std.add re s), se, ch, .tryH e⟩⟩, rfl, ⟨rfl, ?_⟩⟩, rfl, .inl ⟨rfl, .cons rfl (.ref rfl) (.cons rfl (.int _) .nil)⟩⟩
      refine ⟨⟨by simp [std, e1], by simp [std, e2], ?_, ?_, ?_⟩, by simp [std]⟩
      · first | omega | (simp [std]; omega)
      · first | exact e4 | exact NRl.nil | exact NRl.cons (NRv.bytes _) NRl.nil
      · first | trivial | exact e5 | exact Int.le_refl _
noncomputable def d_tryE_0 : D := (.lit true (.lit false (.lit false (.lit true (.lit false (.sym (.lit false .done) (.sym (.lit true (.lit false (.lit false (.lit false (.lit false (.lit false (.lit false (.lit false (.lit true (.lit false (.lit false (.lit true (.lit true (.lit true (.lit false .done))))))))))))))) (.lit true (.lit false (.lit false (.lit true (.lit true (.lit false (.lit false (.lit false (.lit false (.lit false (.lit true (.lit false (.sym (.lit false .done) (.lit false .done)))))))))))))))))))))
theorem tree_tryE_0 (O : Ops) (P : Fl × AEnv × HS → Prop) (wait now newest reply harmed count rh sh re se n s t pc e : Int) (cs ws fs ch : List AV) (came went : Nat → Option Int) (seen ps : List Int) :
    allD (runG (OL O) 0 n s t ⟨wait, now, reply, newest, rh, sh, harmed, count, cs, ws, fs, came, went, seen, pc, ps, some ⟨re, se, ch, .tryE e⟩⟩) d_tryE_0 P =
    (((inB 0 2 ∧ (2 < 1000))) ∧
    (((inB 1 2 ∧ (2 < 1000))) ∧
    (true = true ∧ (false = false ∧ (false = false ∧ (true = true ∧ (false = false ∧ (((O.mem n seen) = true → (false = false ∧ (P (.next, [(104, (.ref 0)), (90, (.int t)), (89, (.int 1)), (105, (.str 0)), (56, (.bytes [n, s]))], enc ⟨wait, now, reply, newest, (O.add rh s), sh, harmed, count, cs, ws, fs, (O.dput came 0 (O.add (O.dget came 0 0) s)), went, seen, pc, ps, some ⟨re, se, ch, .tryE e⟩⟩)))) ∧
    ((O.mem n seen) = false → ((((List.length seen) < 1048576)) ∧
    (((O.lt newest n) = true → (true = true ∧ (false = false ∧ (false = false ∧ ((!(O.lt newest n)) = false ∧ (false = false ∧ (false = false ∧ (false = false ∧ (false = false ∧ (true = true ∧ (false = false ∧ (false = false ∧ (true = true ∧ (true = true ∧ (true = true ∧ (false = false ∧ (P (.next, [(104, (.ref 0)), (90, (.int t)), (89, (.int 1)), (105, (.str 0)), (56, (.bytes [n, s]))], enc ⟨wait, now, reply, (O.max newest n), (O.add rh s), (O.add sh reply), harmed, count, cs, ws, fs, (O.dput came 0 (O.add (O.dget came 0 0) s)), (O.dput went 0 (O.add (O.dget went 0 0) reply)), (O.iapp seen n), pc, ps, some ⟨re, se, ch, .tryH e⟩⟩)))))))))))))))))) ∧
    ((O.lt newest n) = false → (true = true ∧ (false = false ∧ (false = false ∧ ((!(O.lt newest n)) = true ∧ (true = true ∧ ((!(false == (O.lt newest n))) = false ∧ ((O.lt newest n) = false ∧ (false = false ∧ (false = false ∧ (false = false ∧ (true = true ∧ (false = false ∧ (((O.le reply (O.max 0 (O.sub (O.mul 3 re) se))) = true → (false = false ∧ (P (.next, [(104, (.ref 0)), (90, (.int t)), (89, (.int 1)), (105, (.str 0)), (56, (.bytes [n, s]))], enc ⟨wait, now, reply, (O.max newest n), (O.add rh s), sh, harmed, count, cs, ws, fs, (O.dput came 0 (O.add (O.dget came 0 0) s)), (O.dput went 1 (O.add (O.dget went 1 0) reply)), (O.iapp seen n), pc, ps, some ⟨re, (O.add se reply), ch, .tryE e⟩⟩)))) ∧
    ((O.le reply (O.max 0 (O.sub (O.mul 3 re) se))) = false → (false = false ∧ (P (.next, [(104, (.ref 0)), (90, (.int t)), (89, (.int 1)), (105, (.str 0)), (56, (.bytes [n, s]))], enc ⟨wait, now, reply, (O.max newest n), (O.add rh s), sh, harmed, count, cs, ws, fs, (O.dput came 0 (O.add (O.dget came 0 0) s)), went, (O.iapp seen n), pc, ps, some ⟨re, se, ch, .tryE e⟩⟩))))))))))))))))))))))))))))) := by kernel_rfl
theorem core_tryE_0 {wait now newest reply harmed count rh sh re se n s t pc e : Int} {cs ws fs ch : List AV} {came went : Nat → Option Int} {seen ps : List Int}
  (e1 : came 1 = some re) (e2 : (went 1).getD 0 = se) (e3 : se ≤ 3 * re) (e4 : NRl ch) (e5 : e ≤ now + wait) (hcs : NRl cs) (hws : NRl ws) (hfs : NRl fs) (hsz : 40 ≤ s) (hseen : seen.length < 2 ^ 20) :
    AllW (runG std 0 n s t ⟨wait, now, reply, newest, rh, sh, harmed, count, cs, ws, fs, came, went, seen, pc, ps, some ⟨re, se, ch, .tryE e⟩⟩) (GPost ⟨wait, now, reply, newest, rh, sh, harmed, count, cs, ws, fs, came, went, seen, pc, ps, some ⟨re, se, ch, .tryE e⟩⟩ t) := by
  refine AllW.ofTree (tree_tryE_0 std _ wait now newest reply harmed count rh sh re se n s t pc e cs ws fs ch came went seen ps) ?_
  refine ⟨⟨⟨by decide, by decide, by decide⟩, by decide⟩, ⟨⟨by decide, by decide, by decide⟩, by decide⟩, rfl, rfl, rfl, rfl, rfl, ?_⟩
  refine ⟨fun h1 => ?_, fun h1 => ?_⟩
  · refine ⟨rfl, ?_⟩
    refine ⟨rfl, _, _, ⟨rfl, ⟨wait, now, reply, newest, (std.add rh s), sh, harmed, count, cs, ws, fs, (std.dput came 0 (std.add (std.dget came 0 0) s)), went, seen, pc, ps, some ⟨re, se, ch, .tryE e⟩⟩, rfl, ⟨rfl, ?_⟩⟩, rfl, .inl ⟨rfl, .cons rfl (.ref rfl) (.cons rfl (.int _) .nil)⟩⟩
    refine ⟨⟨by simp [std, e1], by simp [std, e2], ?_, ?_, ?_⟩, by simp [std]⟩
    · first | omega | (simp [std]; omega)
    · first | exact e4 | exact NRl.nil | exact NRl.cons (NRv.bytes _) NRl.nil
    · first | trivial | exact e5 | exact Int.le_refl _
  · refine ⟨hseen, ?_⟩
    refine ⟨fun h2 => ?_, fun h2 => ?_⟩
    · refine ⟨rfl, rfl, rfl, (by rw [h2] <;> rfl), rfl, rfl, rfl, rfl, rfl, rfl, rfl, rfl, rfl, rfl, rfl, ?_⟩
      refine ⟨rfl, _, _, ⟨rfl, ⟨wait, now, reply, (std.max newest n), (std.add rh s), (std.add sh reply), harmed, count, cs, ws, fs, (std.dput came 0 (std.add (std.dget came 0 0) s)), (std.dput went 0 (std.add (std.dget went 0 0) reply)), (std.iapp seen n), pc, ps, some ⟨re, se, ch, .tryH e⟩⟩, rfl, ⟨rfl, ?_⟩⟩, rfl, .inl ⟨rfl, .cons rfl (.ref rfl) (.cons rfl (.int _) .nil)⟩⟩
      refine ⟨⟨by simp [std, e1], by simp [std, e2], ?_, ?_, ?_⟩, by simp [std]⟩
      · first | omega | (simp [std]; omega)
      · first | exact e4 | exact NRl.nil | exact NRl.cons (NRv.bytes _) NRl.nil
      · first | trivial | exact e5 | exact Int.le_refl _
    · refine ⟨rfl, rfl, rfl, (by rw [h2] <;> rfl), rfl, (by rw [h2] <;> rfl), (by rw [h2] <;> rfl), rfl, rfl, rfl, rfl, rfl, ?_⟩
      refine ⟨fun h3 => ?_, fun h3 => ?_⟩
      · refine ⟨rfl, ?_⟩
        refine ⟨rfl, _, _, ⟨rfl, ⟨wait, now, reply, (std.max newest n), (std.add rh s), sh, harmed, count, cs, ws, fs, (std.dput came 0 (std.add (std.dget came 0 0) s)), (std.dput went 1 (std.add (std.dget went 1 0) reply)), (std.iapp seen n), pc, ps, some ⟨re, (std.add se reply), ch, .tryE e⟩⟩, rfl, ⟨rfl, ?_⟩⟩, rfl, .inl ⟨rfl, .cons rfl (.ref rfl) (.cons rfl (.int _) .nil)⟩⟩
        refine ⟨⟨by simp [std, e1], by simp [std, e2], ?_, ?_, ?_⟩, by simp [std]⟩
        · first | omega | (simp [std]; omega) | (simp [std] at h3 ⊢; split at h3 <;> omega)
        · first | exact e4 | exact NRl.nil | exact NRl.cons (NRv.bytes _) NRl.nil
        · first | trivial | exact e5 | exact Int.le_refl _
      · refine ⟨rfl, ?_⟩
        refine ⟨rfl, _, _, ⟨rfl, ⟨wait, now, reply, (std.max newest n), (std.add rh s), sh, harmed, count, cs, ws, fs, (std.dput came 0 (std.add (std.dget came 0 0) s)), went, (std.iapp seen n), pc, ps, some ⟨re, se, ch, .tryE e⟩⟩, rfl, ⟨rfl, ?_⟩⟩, rfl, .inl ⟨rfl, .cons rfl (.ref rfl) (.cons rfl (.int _) .nil)⟩⟩
        refine ⟨⟨by simp [std, e1], by simp [std, e2], ?_, ?_, ?_⟩, by simp [std]⟩
        · first | omega | (simp [std]; omega) | (simp [std] at h3 ⊢; split at h3 <;> omega)
        · first | exact e4 | exact NRl.nil | exact NRl.cons (NRv.bytes _) NRl.nil
        · first | trivial | exact e5 | exact Int.le_refl _
noncomputable def d_tryE_1 : D := (.lit false (.lit true (.lit false (.lit false (.lit false (.lit true (.lit false (.sym (.lit false .done) (.sym (.lit false (.lit true (.lit false (.lit false (.lit false (.lit true (.lit false (.lit false (.lit false (.lit false (.lit false (.lit true (.lit false (.sym (.lit false .done) (.lit false .done))))))))))))))) (.lit false (.lit true (.lit false (.lit false (.lit true (.lit true (.lit false (.lit false (.lit false (.lit false (.lit false (.lit true (.lit false (.sym (.lit false .done) (.lit false .done))))))))))))))))))))))))
theorem tree_tryE_1 (O : Ops) (P : Fl × AEnv × HS → Prop) (wait now newest reply harmed count rh sh re se n s t pc e : Int) (cs ws fs ch : List AV) (came went : Nat → Option Int) (seen ps : List Int) :
    allD (runG (OL O) 1 n s t ⟨wait, now, reply, newest, rh, sh, harmed, count, cs, ws, fs, came, went, seen, pc, ps, some ⟨re, se, ch, .tryE e⟩⟩) d_tryE_1 P =
    (((inB 0 2 ∧ (2 < 1000))) ∧
    (((inB 1 2 ∧ (2 < 1000))) ∧
    (false = false ∧ (true = true ∧ (false = false ∧ (false = false ∧ (false = false ∧ (true = true ∧ (false = false ∧ (((O.mem n seen) = true → (false = false ∧ (P (.next, [(104, (.ref 0)), (90, (.int t)), (89, (.int 1)), (105, (.str 1)), (56, (.bytes [n, s]))], enc ⟨wait, now, reply, newest, rh, sh, harmed, count, cs, ws, fs, (O.dput came 1 (O.add (O.dget came 1 0) s)), went, seen, pc, ps, some ⟨(O.add re s), se, ch, .tryE e⟩⟩)))) ∧
    ((O.mem n seen) = false → ((((List.length seen) < 1048576)) ∧
    (((O.lt newest n) = true → (false = false ∧ (true = true ∧ (false = false ∧ (false = false ∧ ((!(O.lt newest n)) = false ∧ (true = true ∧ (false = false ∧ (false = false ∧ (false = false ∧ (false = false ∧ (false = false ∧ (true = true ∧ (false = false ∧ (((O.le reply (O.max 0 (O.sub (O.mul 3 (O.add re s)) se))) = true → (false = false ∧ (P (.next, [(104, (.ref 0)), (90, (.int t)), (89, (.int 1)), (105, (.str 1)), (56, (.bytes [n, s]))], enc ⟨wait, now, reply, (O.max newest n), rh, sh, harmed, count, cs, ws, fs, (O.dput came 1 (O.add (O.dget came 1 0) s)), (O.dput went 1 (O.add (O.dget went 1 0) reply)), (O.iapp seen n), pc, ps, some ⟨(O.add re s), (O.add se reply), ch, .tryE e⟩⟩)))) ∧
    ((O.le reply (O.max 0 (O.sub (O.mul 3 (O.add re s)) se))) = false → (false = false ∧ (P (.next, [(104, (.ref 0)), (90, (.int t)), (89, (.int 1)), (105, (.str 1)), (56, (.bytes [n, s]))], enc ⟨wait, now, reply, (O.max newest n), rh, sh, harmed, count, cs, ws, fs, (O.dput came 1 (O.add (O.dget came 1 0) s)), went, (O.iapp seen n), pc, ps, some ⟨(O.add re s), se, ch, .tryE e⟩⟩))))))))))))))))))) ∧
    ((O.lt newest n) = false → (false = false ∧ (true = true ∧ (false = false ∧ (false = false ∧ ((!(O.lt newest n)) = true ∧ (true = true ∧ ((!(false == (O.lt newest n))) = false ∧ ((O.lt newest n) = false ∧ (false = false ∧ (false = false ∧ (false = false ∧ (true = true ∧ (false = false ∧ (((O.le reply (O.max 0 (O.sub (O.mul 3 (O.add re s)) se))) = true → (false = false ∧ (P (.next, [(104, (.ref 0)), (90, (.int t)), (89, (.int 1)), (105, (.str 1)), (56, (.bytes [n, s]))], enc ⟨wait, now, reply, (O.max newest n), rh, sh, harmed, count, cs, ws, fs, (O.dput came 1 (O.add (O.dget came 1 0) s)), (O.dput went 1 (O.add (O.dget went 1 0) reply)), (O.iapp seen n), pc, ps, some ⟨(O.add re s), (O.add se reply), ch, .tryE e⟩⟩)))) ∧
    ((O.le reply (O.max 0 (O.sub (O.mul 3 (O.add re s)) se))) = false → (false = false ∧ (P (.next, [(104, (.ref 0)), (90, (.int t)), (89, (.int 1)), (105, (.str 1)), (56, (.bytes [n, s]))], enc ⟨wait, now, reply, (O.max newest n), rh, sh, harmed, count, cs, ws, fs, (O.dput came 1 (O.add (O.dget came 1 0) s)), went, (O.iapp seen n), pc, ps, some ⟨(O.add re s), se, ch, .tryE e⟩⟩)))))))))))))))))))))))))))))))) := by kernel_rfl
theorem core_tryE_1 {wait now newest reply harmed count rh sh re se n s t pc e : Int} {cs ws fs ch : List AV} {came went : Nat → Option Int} {seen ps : List Int}
  (e1 : came 1 = some re) (e2 : (went 1).getD 0 = se) (e3 : se ≤ 3 * re) (e4 : NRl ch) (e5 : e ≤ now + wait) (hcs : NRl cs) (hws : NRl ws) (hfs : NRl fs) (hsz : 40 ≤ s) (hseen : seen.length < 2 ^ 20) :
    AllW (runG std 1 n s t ⟨wait, now, reply, newest, rh, sh, harmed, count, cs, ws, fs, came, went, seen, pc, ps, some ⟨re, se, ch, .tryE e⟩⟩) (GPost ⟨wait, now, reply, newest, rh, sh, harmed, count, cs, ws, fs, came, went, seen, pc, ps, some ⟨re, se, ch, .tryE e⟩⟩ t) := by
  refine AllW.ofTree (tree_tryE_1 std _ wait now newest reply harmed count rh sh re se n s t pc e cs ws fs ch came went seen ps) ?_
  refine ⟨⟨⟨by decide, by decide, by decide⟩, by decide⟩, ⟨⟨by decide, by decide, by decide⟩, by decide⟩, rfl, rfl, rfl, rfl, rfl, rfl, rfl, ?_⟩
  refine ⟨fun h1 => ?_, fun h1 => ?_⟩
  · refine ⟨rfl, ?_⟩
    refine ⟨rfl, _, _, ⟨rfl, ⟨wait, now, reply, newest, rh, sh, harmed, count, cs, ws, fs, (std.dput came 1 (std.add (std.dget came 1 0) s)), went, seen, pc, ps, some ⟨(std.add re s), se, ch, .tryE e⟩⟩, rfl, ⟨rfl, ?_⟩⟩, rfl, .inl ⟨rfl, .cons rfl (.ref rfl) (.cons rfl (.int _) .nil)⟩⟩
    refine ⟨⟨by simp [std, e1], by simp [std, e2], ?_, ?_, ?_⟩, by simp [std]⟩
    · first | omega | (simp [std]; omega)
    · first | exact e4 | exact NRl.nil | exact NRl.cons (NRv.bytes _) NRl.nil
    · first | trivial | exact e5 | exact Int.le_refl _
  · refine ⟨hseen, ?_⟩
    refine ⟨fun h2 => ?_, fun h2 => ?_⟩
    · refine ⟨rfl, rfl, rfl, rfl, (by rw [h2] <;> rfl), rfl, rfl, rfl, rfl, rfl, rfl, rfl, rfl, ?_⟩
      refine ⟨fun h3 => ?_, fun h3 => ?_⟩
      · refine ⟨rfl, ?_⟩
        refine ⟨rfl, _, _, ⟨rfl, ⟨wait, now, reply, (std.max newest n), rh, sh, harmed, count, cs, ws, fs, (std.dput came 1 (std.add (std.dget came 1 0) s)), (std.dput went 1 (std.add (std.dget went 1 0) reply)), (std.iapp seen n), pc, ps, some ⟨(std.add re s), (std.add se reply), ch, .tryE e⟩⟩, rfl, ⟨rfl, ?_⟩⟩, rfl, .inl ⟨rfl, .cons rfl (.ref rfl) (.cons rfl (.int _) .nil)⟩⟩
        refine ⟨⟨by simp [std, e1], by simp [std, e2], ?_, ?_, ?_⟩, by simp [std]⟩
        · first | omega | (simp [std]; omega) | (simp [std] at h3 ⊢; split at h3 <;> omega)
        · first | exact e4 | exact NRl.nil | exact NRl.cons (NRv.bytes _) NRl.nil
        · first | trivial | exact e5 | exact Int.le_refl _
      · refine ⟨rfl, ?_⟩
        refine ⟨rfl, _, _, ⟨rfl, ⟨wait, now, reply, (std.max newest n), rh, sh, harmed, count, cs, ws, fs, (std.dput came 1 (std.add (std.dget came 1 0) s)), went, (std.iapp seen n), pc, ps, some ⟨(std.add re s), se, ch, .tryE e⟩⟩, rfl, ⟨rfl, ?_⟩⟩, rfl, .inl ⟨rfl, .cons rfl (.ref rfl) (.cons rfl (.int _) .nil)⟩⟩
        refine ⟨⟨by simp [std, e1], by simp [std, e2], ?_, ?_, ?_⟩, by simp [std]⟩
        · first | omega | (simp [std]; omega) | (simp [std] at h3 ⊢; split at h3 <;> omega)
        · first | exact e4 | exact NRl.nil | exact NRl.cons (NRv.bytes _) NRl.nil
        · first | trivial | exact e5 | exact Int.le_refl _
    · refine ⟨rfl, rfl, rfl, rfl, (by rw [h2] <;> rfl), rfl, (by rw [h2] <;> rfl), (by rw [h2] <;> rfl), rfl, rfl, rfl, rfl, rfl, ?_⟩
      refine ⟨fun h4 => ?_, fun h4 => ?_⟩
      · refine ⟨rfl, ?_⟩
        refine ⟨rfl, _, _, ⟨rfl, ⟨wait, now, reply, (std.max newest n), rh, sh, harmed, count, cs, ws, fs, (std.dput came 1 (std.add (std.dget came 1 0) s)), (std.dput went 1 (std.add (std.dget went 1 0) reply)), (std.iapp seen n), pc, ps, some ⟨(std.add re s), (std.add se reply), ch, .tryE e⟩⟩, rfl, ⟨rfl, ?_⟩⟩, rfl, .inl ⟨rfl, .cons rfl (.ref rfl) (.cons rfl (.int _) .nil)⟩⟩
        refine ⟨⟨by simp [std, e1], by simp [std, e2], ?_, ?_, ?_⟩, by simp [std]⟩
        · first | omega | (simp [std]; omega) | (simp [std] at h4 ⊢; split at h4 <;> omega)
        · first | exact e4 | exact NRl.nil | exact NRl.cons (NRv.bytes _) NRl.nil
        · first | trivial | exact e5 | exact Int.le_refl _
      · refine ⟨rfl, ?_⟩
        refine ⟨rfl, _, _, ⟨rfl, ⟨wait, now, reply, (std.max newest n), rh, sh, harmed, count, cs, ws, fs, (std.dput came 1 (std.add (std.dget came 1 0) s)), went, (std.iapp seen n), pc, ps, some ⟨(std.add re s), se, ch, .tryE e⟩⟩, rfl, ⟨rfl, ?_⟩⟩, rfl, .inl ⟨rfl, .cons rfl (.ref rfl) (.cons rfl (.int _) .nil)⟩⟩
        refine ⟨⟨by simp [std, e1], by simp [std, e2], ?_, ?_, ?_⟩, by simp [std]⟩
        · first | omega | (simp [std]; omega) | (simp [std] at h4 ⊢; split at h4 <;> omega)
        · first | exact e4 | exact NRl.nil | exact NRl.cons (NRv.bytes _) NRl.nil
        · first | trivial | exact e5 | exact Int.le_refl _
end Mine.R
end

section
set_option linter.all false
set_option bootstrap.genMatcherCode false
namespace Mine.R
theorem room30 {re s se : Int} (h : se ≤ 3 * re) (k : 40 ≤ s) : std.le 30 (std.max 0 (std.sub (std.mul 3 (std.add re s)) se)) = true := by
  simp [std]; omega
theorem iapp_len {seen : List Int} {n : Int} (h : seen.length < 200) : (std.iapp seen n).length < 2 ^ 20 := by simp [std]; omega
theorem iapp_byte {seen : List Int} {n : Int} (h : seen.length < 200) : bytesOk [std.ilen (std.iapp seen n)] ∧ [std.ilen (std.iapp seen n)].length < 100 := by
  simp [bytesOk, std]; omega
theorem lt20 {k : Nat} (h : k < 200) : k < 2 ^ 20 := by omega
theorem gets_run : ∀ {st : St} {way : Nat} {n s t : Int}, GHyp st s → (way = 0 ∨ way = 1) → AllW (runG std way n s t st) (GPost st t)
  | ⟨wait, now, reply, newest, rh, sh, harmed, count, cs, ws, fs, came, went, seen, pc, ps, none⟩, _, n, s, t, h, .inl rfl =>
    core_none_0 h.ei.1 h.ei.2 h.cs h.ws h.fs h.sz (lt20 h.sn) (e := 0) (re := 0) (se := 0) (ch := [])
  | ⟨wait, now, reply, newest, rh, sh, harmed, count, cs, ws, fs, came, went, seen, pc, ps, none⟩, _, n, s, t, h, .inr rfl =>
    core_none_1 h.ei.1 h.ei.2 h.cs h.ws h.fs h.sz (lt20 h.sn) (iapp_len h.sn) (iapp_byte h.sn) (room30 (by omega) h.sz) (e := 0) (re := 0) (se := 0) (ch := [])
  | ⟨wait, now, reply, newest, rh, sh, harmed, count, cs, ws, fs, came, went, seen, pc, ps, some ⟨re, se, ch, .unp⟩⟩, _, n, s, t, h, .inl rfl =>
    core_unp_0 h.ei.1 h.ei.2.1 h.ei.2.2.1 h.ei.2.2.2.1 h.ei.2.2.2.2 h.cs h.ws h.fs h.sz (lt20 h.sn) (e := 0)
  | ⟨wait, now, reply, newest, rh, sh, harmed, count, cs, ws, fs, came, went, seen, pc, ps, some ⟨re, se, ch, .unp⟩⟩, _, n, s, t, h, .inr rfl =>
    core_unp_1 h.ei.1 h.ei.2.1 h.ei.2.2.1 h.ei.2.2.2.1 h.ei.2.2.2.2 h.cs h.ws h.fs h.sz (lt20 h.sn) (iapp_len h.sn) (iapp_byte h.sn) (room30 h.ei.2.2.1 h.sz) (e := 0)
  | ⟨wait, now, reply, newest, rh, sh, harmed, count, cs, ws, fs, came, went, seen, pc, ps, some ⟨re, se, ch, .fai⟩⟩, _, n, s, t, h, .inl rfl =>
    core_fai_0 h.ei.1 h.ei.2.1 h.ei.2.2.1 h.ei.2.2.2.1 h.ei.2.2.2.2 h.cs h.ws h.fs h.sz (lt20 h.sn) (e := 0)
  | ⟨wait, now, reply, newest, rh, sh, harmed, count, cs, ws, fs, came, went, seen, pc, ps, some ⟨re, se, ch, .fai⟩⟩, _, n, s, t, h, .inr rfl =>
    core_fai_1 h.ei.1 h.ei.2.1 h.ei.2.2.1 h.ei.2.2.2.1 h.ei.2.2.2.2 h.cs h.ws h.fs h.sz (lt20 h.sn) (iapp_len h.sn) (iapp_byte h.sn) (room30 h.ei.2.2.1 h.sz) (e := 0)
  | ⟨wait, now, reply, newest, rh, sh, harmed, count, cs, ws, fs, came, went, seen, pc, ps, some ⟨re, se, ch, .tryH e⟩⟩, _, n, s, t, h, .inl rfl =>
    core_tryH_0 h.ei.1 h.ei.2.1 h.ei.2.2.1 h.ei.2.2.2.1 h.ei.2.2.2.2 h.cs h.ws h.fs h.sz (lt20 h.sn)
  | ⟨wait, now, reply, newest, rh, sh, harmed, count, cs, ws, fs, came, went, seen, pc, ps, some ⟨re, se, ch, .tryH e⟩⟩, _, n, s, t, h, .inr rfl =>
    core_tryH_1 h.ei.1 h.ei.2.1 h.ei.2.2.1 h.ei.2.2.2.1 h.ei.2.2.2.2 h.cs h.ws h.fs h.sz (lt20 h.sn)
  | ⟨wait, now, reply, newest, rh, sh, harmed, count, cs, ws, fs, came, went, seen, pc, ps, some ⟨re, se, ch, .tryE e⟩⟩, _, n, s, t, h, .inl rfl =>
    core_tryE_0 h.ei.1 h.ei.2.1 h.ei.2.2.1 h.ei.2.2.2.1 h.ei.2.2.2.2 h.cs h.ws h.fs h.sz (lt20 h.sn)
  | ⟨wait, now, reply, newest, rh, sh, harmed, count, cs, ws, fs, came, went, seen, pc, ps, some ⟨re, se, ch, .tryE e⟩⟩, _, n, s, t, h, .inr rfl =>
    core_tryE_1 h.ei.1 h.ei.2.1 h.ei.2.2.1 h.ei.2.2.2.1 h.ei.2.2.2.2 h.cs h.ws h.fs h.sz (lt20 h.sn)
end Mine.R
end

section
set_option linter.all false
set_option bootstrap.genMatcherCode false
namespace Mine.R
theorem rho21_ : nodup (rho21 21) = true := by decide
theorem rho22_ : nodup (rho21 22) = true := by decide
theorem NRv.none : NRv .none := fun W v' => ⟨fun h => by cases h; rfl, fun h => by subst h; exact .none⟩
noncomputable def tailSs : Ss → Ss
  | .cons _ r => r
  | .nil => .nil
noncomputable def restP : Ss := tailSs (tailSs b_law_passes)
noncomputable def runR (O : Ops) (t : Int) (st : St) : T (Fl × AEnv × HS) := execB O (callN O 11) restP [(104, .ref 0), (90, .int t)] (enc st)
noncomputable def endOf : Option El → Option Int
  | some ⟨_, _, _, .tryH e⟩ => some e
  | some ⟨_, _, _, .tryE e⟩ => some e
  | _ => none
structure RP (st : St) (t : Int) (st' : St) : Prop where
  eqs : st' = { st with el := st'.el }
  ei : ElInv st.now st.wait st.came st.went st'.el ∧ (endOf st'.el = none ∨ ∃ e, endOf st'.el = some e ∧ endOf st.el = some e ∧ t < e)
noncomputable def RPost (st : St) (t : Int) (r : Fl × AEnv × HS) : Prop := r.1 = .ret (.bool true) ∧ ∃ D' ec', (ec' = [] ∧ ∃ st', D' = enc st' ∧ RP st t st') ∧ Outc D' ec' r.2.1 r.2.2
noncomputable def OR (O : Ops) : Ops := { O with lapp := std.lapp, lt := std.lt }
noncomputable def dr_none : D := (.lit false (.lit false (.lit false (.lit false (.lit true (.lit false (.lit false (.lit true (.lit false (.lit false (.lit true (.lit false (.lit false (.lit false (.lit false (.lit true .done))))))))))))))))
theorem treer_none (O : Ops) (P : Fl × AEnv × HS → Prop) (wait now newest reply harmed count rh sh re se t pc e : Int) (cs ws fs ch : List AV) (came went : Nat → Option Int) (seen ps : List Int) :
    allD (runR (OR O) t ⟨wait, now, reply, newest, rh, sh, harmed, count, cs, ws, fs, came, went, seen, pc, ps, none⟩) dr_none P =
    (false = false ∧ (false = false ∧ (false = false ∧ (false = false ∧ (true = true ∧ (false = false ∧ (false = false ∧ (true = true ∧ (false = false ∧ (false = false ∧ (true = true ∧ (false = false ∧ (((1 < 1048576)) ∧
    (false = false ∧ (((0 < 1048576)) ∧
    (false = false ∧ (false = false ∧ (true = true ∧ (P ((.ret (.bool true)), [(104, (.ref 0)), (90, (.int t)), (97, (.str 11)), (110, .none), (0, (.ref 3))], encH ⟨wait, now, reply, newest, rh, sh, harmed, count, cs, ws, fs, came, went, seen, pc, ps, none⟩ (.str 0) .none 3 [(.ref 3)] [(.list [])])))))))))))))))))))) := by kernel_rfl
theorem rest_none {wait now newest reply harmed count rh sh re se t pc e : Int} {cs ws fs ch : List AV} {came went : Nat → Option Int} {seen ps : List Int}
  (e1 : came 1 = none) (e2 : went 1 = none) (hcs : NRl cs) (hws : NRl ws) (hfs : NRl fs) :
    AllW (runR std t ⟨wait, now, reply, newest, rh, sh, harmed, count, cs, ws, fs, came, went, seen, pc, ps, none⟩) (RPost ⟨wait, now, reply, newest, rh, sh, harmed, count, cs, ws, fs, came, went, seen, pc, ps, none⟩ t) := by
  refine AllW.ofTree (treer_none std _ wait now newest reply harmed count rh sh re se t pc e cs ws fs ch came went seen ps) ?_
  refine ⟨rfl, rfl, rfl, rfl, rfl, rfl, rfl, rfl, rfl, rfl, rfl, rfl, by decide, rfl, by decide, rfl, rfl, rfl, ?_⟩
  exact ⟨rfl, _, _, ⟨rfl, ⟨wait, now, reply, newest, rh, sh, harmed, count, cs, ws, fs, came, went, seen, pc, ps, none⟩, rfl, ⟨rfl, ⟨e1, e2⟩, .inl rfl⟩⟩, rfl, .inr ⟨rho18, sub_no (NRv.str _) NRv.none (Nat.le_add_left 4 15) (fun R h => .cons (.ref (h _ (by decide))) .nil) hcs hws hfs, rfl, rfl, .nil⟩⟩
noncomputable def dr_unp : D := (.lit false (.lit false (.lit false (.lit false (.lit false (.lit false (.lit true (.lit false (.lit false (.lit true (.lit false (.lit true (.lit false (.lit true (.lit false (.lit false (.lit false (.lit false (.lit false (.lit false (.lit true (.lit true .done))))))))))))))))))))))
theorem treer_unp (O : Ops) (P : Fl × AEnv × HS → Prop) (wait now newest reply harmed count rh sh re se t pc e : Int) (cs ws fs ch : List AV) (came went : Nat → Option Int) (seen ps : List Int) :
    allD (runR (OR O) t ⟨wait, now, reply, newest, rh, sh, harmed, count, cs, ws, fs, came, went, seen, pc, ps, some ⟨re, se, ch, .unp⟩⟩) dr_unp P =
    (false = false ∧ (false = false ∧ (false = false ∧ (false = false ∧ (false = false ∧ (false = false ∧ (true = true ∧ (false = false ∧ (false = false ∧ (true = true ∧ (false = false ∧ (true = true ∧ (false = false ∧ (true = true ∧ (false = false ∧ (((2 < 1048576)) ∧
    (false = false ∧ (false = false ∧ (((0 < 1048576)) ∧
    (false = false ∧ (false = false ∧ (false = false ∧ ((((O.dhas came 1) = true)) ∧
    (true = true ∧ ((O.le (O.dget went 1 0) (O.mul 3 (O.dget came 1 0))) = true ∧ (P ((.ret (.bool true)), [(104, (.ref 0)), (90, (.int t)), (97, (.str 11)), (110, (.ref 20)), (0, (.ref 3))], encH ⟨wait, now, reply, newest, rh, sh, harmed, count, cs, ws, fs, came, went, seen, pc, ps, some ⟨re, se, ch, .unp⟩⟩ (.str 0) .none 3 [(.ref 3), (.ref 20)] (.attrs [(26,.str 1),(27,(.str 2)),(28,.bool false),(29,.int re),(30,.int se),(31,.ref 21),(32,.none)] :: (.inst 121 19) :: (.list ch) :: (.list []) :: [])))))))))))))))))))))))))))) := by kernel_rfl
theorem rest_unp {wait now newest reply harmed count rh sh re se t pc e : Int} {cs ws fs ch : List AV} {came went : Nat → Option Int} {seen ps : List Int}
  (e1 : came 1 = some re) (e2 : (went 1).getD 0 = se) (e3 : se ≤ 3 * re) (e4 : NRl ch) (e5 : True) (hd : std.dhas came 1 = true) (hle : std.le (std.dget went 1 0) (std.mul 3 (std.dget came 1 0)) = true) (hcs : NRl cs) (hws : NRl ws) (hfs : NRl fs) :
    AllW (runR std t ⟨wait, now, reply, newest, rh, sh, harmed, count, cs, ws, fs, came, went, seen, pc, ps, some ⟨re, se, ch, .unp⟩⟩) (RPost ⟨wait, now, reply, newest, rh, sh, harmed, count, cs, ws, fs, came, went, seen, pc, ps, some ⟨re, se, ch, .unp⟩⟩ t) := by
  refine AllW.ofTree (treer_unp std _ wait now newest reply harmed count rh sh re se t pc e cs ws fs ch came went seen ps) ?_
  refine ⟨rfl, rfl, rfl, rfl, rfl, rfl, rfl, rfl, rfl, rfl, rfl, rfl, rfl, rfl, rfl, by decide, rfl, rfl, by decide, rfl, rfl, rfl, hd, rfl, (by rw [hle] <;> rfl), ?_⟩
  exact ⟨rfl, _, _, ⟨rfl, ⟨wait, now, reply, newest, rh, sh, harmed, count, cs, ws, fs, came, went, seen, pc, ps, some ⟨re, se, ch, .unp⟩⟩, rfl, ⟨rfl, ⟨⟨e1, e2, e3, e4, trivial⟩, .inl rfl⟩⟩⟩, rfl, .inr ⟨rho21 21, sub_ch rho21_ (NRv.str _) NRv.none (Nat.le_add_left 4 17) (fun R h => .cons (.ref (h _ (by decide))) (.cons (.ref (h _ (by decide))) .nil)) hcs hws hfs e4 (NRv.str _) NRv.none rfl (by decide), rfl, rfl, .nil⟩⟩
noncomputable def dr_fai : D := (.lit false (.lit false (.lit false (.lit false (.lit false (.lit false (.lit true (.lit false (.lit false (.lit true (.lit false (.lit true (.lit false (.lit true (.lit false (.lit false (.lit false (.lit false (.lit false (.lit false (.lit true (.lit true .done))))))))))))))))))))))
theorem treer_fai (O : Ops) (P : Fl × AEnv × HS → Prop) (wait now newest reply harmed count rh sh re se t pc e : Int) (cs ws fs ch : List AV) (came went : Nat → Option Int) (seen ps : List Int) :
    allD (runR (OR O) t ⟨wait, now, reply, newest, rh, sh, harmed, count, cs, ws, fs, came, went, seen, pc, ps, some ⟨re, se, ch, .fai⟩⟩) dr_fai P =
    (false = false ∧ (false = false ∧ (false = false ∧ (false = false ∧ (false = false ∧ (false = false ∧ (true = true ∧ (false = false ∧ (false = false ∧ (true = true ∧ (false = false ∧ (true = true ∧ (false = false ∧ (true = true ∧ (false = false ∧ (((2 < 1048576)) ∧
    (false = false ∧ (false = false ∧ (((0 < 1048576)) ∧
    (false = false ∧ (false = false ∧ (false = false ∧ ((((O.dhas came 1) = true)) ∧
    (true = true ∧ ((O.le (O.dget went 1 0) (O.mul 3 (O.dget came 1 0))) = true ∧ (P ((.ret (.bool true)), [(104, (.ref 0)), (90, (.int t)), (97, (.str 11)), (110, (.ref 20)), (0, (.ref 3))], encH ⟨wait, now, reply, newest, rh, sh, harmed, count, cs, ws, fs, came, went, seen, pc, ps, some ⟨re, se, ch, .fai⟩⟩ (.str 0) .none 3 [(.ref 3), (.ref 20)] (.attrs [(26,.str 1),(27,(.str 5)),(28,.bool false),(29,.int re),(30,.int se),(31,.ref 21),(32,.none)] :: (.inst 121 19) :: (.list ch) :: (.list []) :: [])))))))))))))))))))))))))))) := by kernel_rfl
theorem rest_fai {wait now newest reply harmed count rh sh re se t pc e : Int} {cs ws fs ch : List AV} {came went : Nat → Option Int} {seen ps : List Int}
  (e1 : came 1 = some re) (e2 : (went 1).getD 0 = se) (e3 : se ≤ 3 * re) (e4 : NRl ch) (e5 : True) (hd : std.dhas came 1 = true) (hle : std.le (std.dget went 1 0) (std.mul 3 (std.dget came 1 0)) = true) (hcs : NRl cs) (hws : NRl ws) (hfs : NRl fs) :
    AllW (runR std t ⟨wait, now, reply, newest, rh, sh, harmed, count, cs, ws, fs, came, went, seen, pc, ps, some ⟨re, se, ch, .fai⟩⟩) (RPost ⟨wait, now, reply, newest, rh, sh, harmed, count, cs, ws, fs, came, went, seen, pc, ps, some ⟨re, se, ch, .fai⟩⟩ t) := by
  refine AllW.ofTree (treer_fai std _ wait now newest reply harmed count rh sh re se t pc e cs ws fs ch came went seen ps) ?_
  refine ⟨rfl, rfl, rfl, rfl, rfl, rfl, rfl, rfl, rfl, rfl, rfl, rfl, rfl, rfl, rfl, by decide, rfl, rfl, by decide, rfl, rfl, rfl, hd, rfl, (by rw [hle] <;> rfl), ?_⟩
  exact ⟨rfl, _, _, ⟨rfl, ⟨wait, now, reply, newest, rh, sh, harmed, count, cs, ws, fs, came, went, seen, pc, ps, some ⟨re, se, ch, .fai⟩⟩, rfl, ⟨rfl, ⟨⟨e1, e2, e3, e4, trivial⟩, .inl rfl⟩⟩⟩, rfl, .inr ⟨rho21 21, sub_ch rho21_ (NRv.str _) NRv.none (Nat.le_add_left 4 17) (fun R h => .cons (.ref (h _ (by decide))) (.cons (.ref (h _ (by decide))) .nil)) hcs hws hfs e4 (NRv.str _) NRv.none rfl (by decide), rfl, rfl, .nil⟩⟩
noncomputable def dr_tryH : D := (.lit true (.sym (.lit false (.lit false (.lit false (.lit true (.lit true (.lit true (.lit false (.lit false (.lit true (.lit false (.lit true (.lit false (.lit true (.lit false (.lit false (.lit false (.lit false (.lit false (.lit false (.lit true (.lit true .done))))))))))))))))))))) (.lit false (.lit false (.lit true (.lit false (.lit true (.lit false (.lit false (.lit true (.lit false (.lit true (.lit false (.lit true (.lit false (.lit false (.lit true (.lit true (.lit false (.lit false (.lit true (.lit true .done))))))))))))))))))))))
theorem treer_tryH (O : Ops) (P : Fl × AEnv × HS → Prop) (wait now newest reply harmed count rh sh re se t pc e : Int) (cs ws fs ch : List AV) (came went : Nat → Option Int) (seen ps : List Int) :
    allD (runR (OR O) t ⟨wait, now, reply, newest, rh, sh, harmed, count, cs, ws, fs, came, went, seen, pc, ps, some ⟨re, se, ch, .tryH e⟩⟩) dr_tryH P =
    (true = true ∧ (((O.le e t) = true → (false = false ∧ (false = false ∧ (false = false ∧ (true = true ∧ ((O.le e t) = true ∧ (true = true ∧ (false = false ∧ (false = false ∧ (true = true ∧ (false = false ∧ (true = true ∧ (false = false ∧ (true = true ∧ (false = false ∧ (((2 < 1048576)) ∧
    (false = false ∧ (false = false ∧ (((0 < 1048576)) ∧
    (false = false ∧ (false = false ∧ (false = false ∧ ((((O.dhas came 1) = true)) ∧
    (true = true ∧ ((O.le (O.dget went 1 0) (O.mul 3 (O.dget came 1 0))) = true ∧ (P ((.ret (.bool true)), [(104, (.ref 0)), (90, (.int t)), (97, (.str 11)), (110, (.ref 20)), (0, (.ref 3))], encH ⟨wait, now, reply, newest, rh, sh, harmed, count, cs, ws, fs, came, went, seen, pc, ps, some ⟨re, se, [], .fai⟩⟩ (.str 0) .none 3 [(.ref 3), (.ref 20)] (.attrs [(26,.str 1),(27,(.str 5)),(28,.bool false),(29,.int re),(30,.int se),(31,.ref 22),(32,.none)] :: (.inst 121 19) :: (.list ch) :: (.list []) :: (.list []) :: [])))))))))))))))))))))))))))) ∧
    ((O.le e t) = false → (false = false ∧ (false = false ∧ (true = true ∧ ((O.le e t) = false ∧ (true = true ∧ (false = false ∧ (false = false ∧ (true = true ∧ (false = false ∧ (true = true ∧ (false = false ∧ (true = true ∧ (false = false ∧ (((2 < 1048576)) ∧
    (false = false ∧ (true = true ∧ (((1 < 1048576)) ∧
    (true = true ∧ ((!(O.eq e e)) = false ∧ (false = false ∧ ((((O.dhas came 1) = true)) ∧
    (true = true ∧ ((O.le (O.dget went 1 0) (O.mul 3 (O.dget came 1 0))) = true ∧ (P ((.ret (.bool true)), [(104, (.ref 0)), (90, (.int t)), (97, (.str 11)), (110, (.ref 20)), (0, (.ref 3))], encH ⟨wait, now, reply, newest, rh, sh, harmed, count, cs, ws, fs, came, went, seen, pc, ps, some ⟨re, se, ch, .tryH e⟩⟩ (.str 0) (.int e) 3 [(.ref 3), (.ref 20)] (.attrs [(26,.str 1),(27,(.str 3)),(28,.bool false),(29,.int re),(30,.int se),(31,.ref 21),(32,(.int e))] :: (.inst 121 19) :: (.list ch) :: (.list [(.int e)]) :: []))))))))))))))))))))))))))))) := by kernel_rfl
theorem rest_tryH {wait now newest reply harmed count rh sh re se t pc e : Int} {cs ws fs ch : List AV} {came went : Nat → Option Int} {seen ps : List Int}
  (e1 : came 1 = some re) (e2 : (went 1).getD 0 = se) (e3 : se ≤ 3 * re) (e4 : NRl ch) (e5 : e ≤ now + wait) (hd : std.dhas came 1 = true) (hle : std.le (std.dget went 1 0) (std.mul 3 (std.dget came 1 0)) = true) (heq : std.eq e e = true) (hcs : NRl cs) (hws : NRl ws) (hfs : NRl fs) :
    AllW (runR std t ⟨wait, now, reply, newest, rh, sh, harmed, count, cs, ws, fs, came, went, seen, pc, ps, some ⟨re, se, ch, .tryH e⟩⟩) (RPost ⟨wait, now, reply, newest, rh, sh, harmed, count, cs, ws, fs, came, went, seen, pc, ps, some ⟨re, se, ch, .tryH e⟩⟩ t) := by
  refine AllW.ofTree (treer_tryH std _ wait now newest reply harmed count rh sh re se t pc e cs ws fs ch came went seen ps) ?_
  refine ⟨rfl, ?_⟩
  refine ⟨fun h1 => ?_, fun h1 => ?_⟩
  · refine ⟨rfl, rfl, rfl, rfl, (by rw [h1] <;> rfl), rfl, rfl, rfl, rfl, rfl, rfl, rfl, rfl, rfl, by decide, rfl, rfl, by decide, rfl, rfl, rfl, hd, rfl, (by rw [hle] <;> rfl), ?_⟩
    exact ⟨rfl, _, _, ⟨rfl, ⟨wait, now, reply, newest, rh, sh, harmed, count, cs, ws, fs, came, went, seen, pc, ps, some ⟨re, se, [], .fai⟩⟩, rfl, ⟨rfl, ⟨⟨e1, e2, e3, NRl.nil, trivial⟩, .inl rfl⟩⟩⟩, rfl, .inr ⟨rho21 22, sub_ch rho22_ (NRv.str _) NRv.none (Nat.le_add_left 4 17) (fun R h => .cons (.ref (h _ (by decide))) (.cons (.ref (h _ (by decide))) .nil)) hcs hws hfs NRl.nil (NRv.str _) NRv.none rfl (by decide), rfl, rfl, .nil⟩⟩
  · refine ⟨rfl, rfl, rfl, (by rw [h1] <;> rfl), rfl, rfl, rfl, rfl, rfl, rfl, rfl, rfl, rfl, by decide, rfl, rfl, by decide, rfl, (by rw [heq] <;> rfl), rfl, hd, rfl, (by rw [hle] <;> rfl), ?_⟩
    exact ⟨rfl, _, _, ⟨rfl, ⟨wait, now, reply, newest, rh, sh, harmed, count, cs, ws, fs, came, went, seen, pc, ps, some ⟨re, se, ch, .tryH e⟩⟩, rfl, ⟨rfl, ⟨⟨e1, e2, e3, e4, e5⟩, .inr ⟨e, rfl, rfl, by simpa [std] using h1⟩⟩⟩⟩, rfl, .inr ⟨rho21 21, sub_ch rho21_ (NRv.str _) (NRv.int _) (Nat.le_add_left 4 17) (fun R h => .cons (.ref (h _ (by decide))) (.cons (.ref (h _ (by decide))) .nil)) hcs hws hfs e4 (NRv.str _) (NRv.int _) rfl (by decide), rfl, rfl, .nil⟩⟩
noncomputable def dr_tryE : D := (.lit true (.sym (.lit true (.lit false (.lit false (.lit true (.lit true (.lit false (.lit false (.lit false (.lit false (.lit false (.lit true (.lit false (.lit true (.lit false (.lit true (.lit false (.lit false (.lit false (.lit false (.lit false (.lit false (.lit true (.lit true .done))))))))))))))))))))))) (.lit false (.lit false (.lit true (.lit false (.lit true (.lit false (.lit false (.lit true (.lit false (.lit true (.lit false (.lit true (.lit false (.lit false (.lit true (.lit true (.lit false (.lit false (.lit true (.lit true .done))))))))))))))))))))))
theorem treer_tryE (O : Ops) (P : Fl × AEnv × HS → Prop) (wait now newest reply harmed count rh sh re se t pc e : Int) (cs ws fs ch : List AV) (came went : Nat → Option Int) (seen ps : List Int) :
    allD (runR (OR O) t ⟨wait, now, reply, newest, rh, sh, harmed, count, cs, ws, fs, came, went, seen, pc, ps, some ⟨re, se, ch, .tryE e⟩⟩) dr_tryE P =
    (true = true ∧ (((O.le e t) = true → (true = true ∧ (false = false ∧ (false = false ∧ (true = true ∧ ((O.le e t) = true ∧ (false = false ∧ (false = false ∧ (false = false ∧ (false = false ∧ (false = false ∧ (true = true ∧ (false = false ∧ (true = true ∧ (false = false ∧ (true = true ∧ (false = false ∧ (((2 < 1048576)) ∧
    (false = false ∧ (false = false ∧ (((0 < 1048576)) ∧
    (false = false ∧ (false = false ∧ (false = false ∧ ((((O.dhas came 1) = true)) ∧
    (true = true ∧ ((O.le (O.dget went 1 0) (O.mul 3 (O.dget came 1 0))) = true ∧ (P ((.ret (.bool true)), [(104, (.ref 0)), (90, (.int t)), (97, (.str 12)), (110, (.ref 20)), (0, (.ref 3))], encH ⟨wait, now, reply, newest, rh, sh, harmed, count, cs, ws, fs, came, went, seen, pc, ps, some ⟨re, se, [], .fai⟩⟩ (.str 0) .none 3 [(.ref 3), (.ref 20)] (.attrs [(26,.str 1),(27,(.str 5)),(28,.bool false),(29,.int re),(30,.int se),(31,.ref 22),(32,.none)] :: (.inst 121 19) :: (.list ch) :: (.list []) :: (.list []) :: [])))))))))))))))))))))))))))))) ∧
    ((O.le e t) = false → (false = false ∧ (false = false ∧ (true = true ∧ ((O.le e t) = false ∧ (true = true ∧ (false = false ∧ (false = false ∧ (true = true ∧ (false = false ∧ (true = true ∧ (false = false ∧ (true = true ∧ (false = false ∧ (((2 < 1048576)) ∧
    (false = false ∧ (true = true ∧ (((1 < 1048576)) ∧
    (true = true ∧ ((!(O.eq e e)) = false ∧ (false = false ∧ ((((O.dhas came 1) = true)) ∧
    (true = true ∧ ((O.le (O.dget went 1 0) (O.mul 3 (O.dget came 1 0))) = true ∧ (P ((.ret (.bool true)), [(104, (.ref 0)), (90, (.int t)), (97, (.str 11)), (110, (.ref 20)), (0, (.ref 3))], encH ⟨wait, now, reply, newest, rh, sh, harmed, count, cs, ws, fs, came, went, seen, pc, ps, some ⟨re, se, ch, .tryE e⟩⟩ (.str 1) (.int e) 20 [(.ref 3), (.ref 20)] (.attrs [(26,.str 1),(27,(.str 3)),(28,.bool false),(29,.int re),(30,.int se),(31,.ref 21),(32,(.int e))] :: (.inst 121 19) :: (.list ch) :: (.list [(.int e)]) :: []))))))))))))))))))))))))))))) := by kernel_rfl
theorem rest_tryE {wait now newest reply harmed count rh sh re se t pc e : Int} {cs ws fs ch : List AV} {came went : Nat → Option Int} {seen ps : List Int}
  (e1 : came 1 = some re) (e2 : (went 1).getD 0 = se) (e3 : se ≤ 3 * re) (e4 : NRl ch) (e5 : e ≤ now + wait) (hd : std.dhas came 1 = true) (hle : std.le (std.dget went 1 0) (std.mul 3 (std.dget came 1 0)) = true) (heq : std.eq e e = true) (hcs : NRl cs) (hws : NRl ws) (hfs : NRl fs) :
    AllW (runR std t ⟨wait, now, reply, newest, rh, sh, harmed, count, cs, ws, fs, came, went, seen, pc, ps, some ⟨re, se, ch, .tryE e⟩⟩) (RPost ⟨wait, now, reply, newest, rh, sh, harmed, count, cs, ws, fs, came, went, seen, pc, ps, some ⟨re, se, ch, .tryE e⟩⟩ t) := by
  refine AllW.ofTree (treer_tryE std _ wait now newest reply harmed count rh sh re se t pc e cs ws fs ch came went seen ps) ?_
  refine ⟨rfl, ?_⟩
  refine ⟨fun h1 => ?_, fun h1 => ?_⟩
  · refine ⟨rfl, rfl, rfl, rfl, (by rw [h1] <;> rfl), rfl, rfl, rfl, rfl, rfl, rfl, rfl, rfl, rfl, rfl, rfl, by decide, rfl, rfl, by decide, rfl, rfl, rfl, hd, rfl, (by rw [hle] <;> rfl), ?_⟩
    exact ⟨rfl, _, _, ⟨rfl, ⟨wait, now, reply, newest, rh, sh, harmed, count, cs, ws, fs, came, went, seen, pc, ps, some ⟨re, se, [], .fai⟩⟩, rfl, ⟨rfl, ⟨⟨e1, e2, e3, NRl.nil, trivial⟩, .inl rfl⟩⟩⟩, rfl, .inr ⟨rho21 22, sub_ch rho22_ (NRv.str _) NRv.none (Nat.le_add_left 4 17) (fun R h => .cons (.ref (h _ (by decide))) (.cons (.ref (h _ (by decide))) .nil)) hcs hws hfs NRl.nil (NRv.str _) NRv.none rfl (by decide), rfl, rfl, .nil⟩⟩
  · refine ⟨rfl, rfl, rfl, (by rw [h1] <;> rfl), rfl, rfl, rfl, rfl, rfl, rfl, rfl, rfl, rfl, by decide, rfl, rfl, by decide, rfl, (by rw [heq] <;> rfl), rfl, hd, rfl, (by rw [hle] <;> rfl), ?_⟩
    exact ⟨rfl, _, _, ⟨rfl, ⟨wait, now, reply, newest, rh, sh, harmed, count, cs, ws, fs, came, went, seen, pc, ps, some ⟨re, se, ch, .tryE e⟩⟩, rfl, ⟨rfl, ⟨⟨e1, e2, e3, e4, e5⟩, .inr ⟨e, rfl, rfl, by simpa [std] using h1⟩⟩⟩⟩, rfl, .inr ⟨rho21 21, sub_ch rho21_ (NRv.str _) (NRv.int _) (Nat.lt_succ_self 20) (fun R h => .cons (.ref (h _ (by decide))) (.cons (.ref (h _ (by decide))) .nil)) hcs hws hfs e4 (NRv.str _) (NRv.int _) rfl (by decide), rfl, rfl, .nil⟩⟩
end Mine.R
end

section
set_option linter.all false
set_option bootstrap.genMatcherCode false
namespace Mine.R
noncomputable def RowOK (B cnt : Int) (v : AV) : Prop := ∃ a o y n s, v = .tup [.int a, .int o, .int 1, .str y, .bytes [n, s]] ∧ a ≤ B ∧ o < cnt ∧ (y = 0 ∨ y = 1) ∧ 40 ≤ s
structure WInv (B cnt : Int) (ws : List AV) : Prop where
  ok : ∀ v ∈ ws, RowOK B cnt v
  nd : (ws.map row2).Nodup
theorem WInv.snoc {B cnt ws a y n s} (h : WInv B cnt ws) (ha : a ≤ B) (hy : y = 0 ∨ y = 1) (hs : 40 ≤ s) : WInv B (cnt + 1) (ws ++ [.tup [.int a, .int cnt, .int 1, .str y, .bytes [n, s]]]) where
  ok := fun v hv => by
    rcases List.mem_append.1 hv with hv | hv
    · obtain ⟨a, o, y, n, s, h1, h2, h3, h4⟩ := h.ok v hv
      exact ⟨a, o, y, n, s, h1, h2, by omega, h4⟩
    · rw [List.mem_singleton.1 hv]
      exact ⟨a, cnt, y, n, s, rfl, ha, by omega, hy, hs⟩
  nd := by
    rw [List.map_append, List.nodup_append]
    refine ⟨h.nd, by simp, ?_⟩
    intro u hu v hv
    simp only [List.map, List.mem_singleton] at hv
    subst hv
    obtain ⟨w, hw, rfl⟩ := List.mem_map.1 hu
    obtain ⟨a, o, y, n, s, rfl, h2, h3, h4⟩ := h.ok w hw
    simp only [row2, ne_eq, Option.some.injEq]
    omega
noncomputable def CsOK (cs : List AV) : Prop := ∀ v ∈ cs, v = .int 0 ∨ v = .int 2 ∨ v = .int 3 ∨ v = .int 4 ∨ v = .int 10
noncomputable def bodyC : Ss := .cons (.expr (.meth (.sub (.loc 104) (.str 16)) 99 (.cons (.sub (.loc 104) (.str 18)) (.cons (.int 1) (.cons (.loc 105) (.cons (.loc 56) .nil)))))) .nil
noncomputable def ecC (wait n s : Int) : AEnv := [(104, .ref 0), (17, .int wait), (101, .ref 16), (56, .bytes [n, s])]
noncomputable def runC (O : Ops) (y : Nat) (n s : Int) (st : St) (wh en : AV) (act : Nat) (kn : List AV) (tl : HS) : T (Fl × AEnv × HS) :=
  opt (bindXs [105] false (.str y) (ecC st.wait n s)) fun env' => execB O (callN O 12) bodyC env' (encH st wh en act kn tl)
structure CP (st st' : St) : Prop where
  eqs : st' = { st with cs := st'.cs, ws := st'.ws, fs := st'.fs, harmed := st'.harmed, count := st'.count }
  inv : WInv (st.now + 30) st'.count st'.ws ∧ (st'.ws.length : Int) - st'.count = st.ws.length - st.count ∧ st'.count ≤ st.count + 2 ∧ st'.fs.length ≤ st.fs.length + 1 ∧ NRl st'.fs ∧ CsOK st'.cs ∧ st'.cs.length ≤ st.cs.length
noncomputable def CPost (st : St) (wh en : AV) (act : Nat) (kn : List AV) (tl : HS) (n s : Int) (r : Fl × AEnv × HS) : Prop := r.1 = .next ∧ ∃ D' ec', (ec' = ecC st.wait n s ∧ ∃ st', D' = encH st' wh en act kn tl ∧ CP st st') ∧ Outc D' ec' r.2.1 r.2.2
theorem lt0 : std.lt 0 0 = false := rfl
theorem ltS (v : AV) (cs : List AV) : std.lt 0 (Int.ofNat (List.length (v :: cs))) = true := by simp [std]
noncomputable def OC (O : Ops) : Ops := { O with fdiv := std.fdiv, mod := std.mod }
noncomputable def dc_nil : D := (.lit false (.lit false (.lit true (.lit false (.lit false (.lit false (.lit false .done)))))))
theorem treec_nil (O : Ops) (P : Fl × AEnv × HS → Prop) (wait now newest reply harmed count rh sh pc n s : Int) (y : Nat) (cs ws fs kn : List AV) (wh en : AV) (act : Nat) (tl : HS) (el : Option El) (came went : Nat → Option Int) (seen ps : List Int) :
    allD (runC (OC O) y n s ⟨wait, now, reply, newest, rh, sh, harmed, count, [], ws, fs, came, went, seen, pc, ps, el⟩ wh en act kn tl) dc_nil P =
    (((0 < 1048576)) ∧
    ((O.lt 0 0) = false ∧ (false = false ∧ (true = true ∧ ((((List.length fs) < 1048576)) ∧
    (false = false ∧ (false = false ∧ (false = false ∧ ((((List.length ws) < 1048576)) ∧
    (false = false ∧ (P (.next, [(104, (.ref 0)), (17, (.int wait)), (101, (.ref 16)), (56, (.bytes [n, s])), (105, (.str y))], encH ⟨wait, now, reply, newest, rh, sh, 0, (O.add count 1), [], (O.lapp ws (.tup [(.int (O.add now 10)), (.int count), (.int 1), (.str y), (.bytes [n, s])])), (O.lapp fs (.str 6)), came, went, seen, pc, ps, el⟩ wh en act kn (tl))))))))))))) := by kernel_rfl
theorem carry_nil {wait now newest reply harmed count rh sh pc n s : Int} {y : Nat} {cs ws fs kn : List AV} {wh en : AV} {act : Nat} {tl : HS} {el : Option El} {came went : Nat → Option Int} {seen ps : List Int}
   (hy : y = 0 ∨ y = 1) (hsz : 40 ≤ s) (hw : WInv (now + 30) count ws) (hc : CsOK cs) (hf : NRl fs) (hfs : fs.length < 2 ^ 20) (hws : ws.length < 2 ^ 20) :
    AllW (runC std y n s ⟨wait, now, reply, newest, rh, sh, harmed, count, [], ws, fs, came, went, seen, pc, ps, el⟩ wh en act kn tl) (CPost ⟨wait, now, reply, newest, rh, sh, harmed, count, [], ws, fs, came, went, seen, pc, ps, el⟩ wh en act kn tl n s) := by
  refine AllW.ofTree (treec_nil std _ wait now newest reply harmed count rh sh pc n s y cs ws fs kn wh en act tl el came went seen ps) ?_
  refine ⟨by decide, (by rw [lt0] <;> rfl), rfl, rfl, hfs, rfl, rfl, rfl, hws, rfl, ?_⟩
  refine ⟨rfl, _, _, ⟨rfl, ⟨wait, now, reply, newest, rh, sh, 0, (std.add count 1), [], (std.lapp ws (.tup [(.int (std.add now 10)), (.int count), (.int 1), (.str y), (.bytes [n, s])])), (std.lapp fs (.str 6)), came, went, seen, pc, ps, el⟩, rfl, ⟨rfl, ?_⟩⟩, rfl, .inl ⟨rfl, .cons rfl (.ref rfl) (.cons rfl (.int _) (.cons rfl (.ref rfl) (.cons rfl (.bytes _) .nil)))⟩⟩
  exact ⟨hw.snoc (by simp [std]; try omega) hy hsz, by simp [std]; try omega, by simp [std]; try omega, by simp [std], hf.append (.cons (.str _) .nil), (fun v h => nomatch h), by simp⟩
noncomputable def dc_c0 : D := (.lit true (.lit false (.lit true (.lit false (.lit false (.lit false (.lit false .done)))))))
theorem treec_c0 (O : Ops) (P : Fl × AEnv × HS → Prop) (wait now newest reply harmed count rh sh pc n s : Int) (y : Nat) (cs ws fs kn : List AV) (wh en : AV) (act : Nat) (tl : HS) (el : Option El) (came went : Nat → Option Int) (seen ps : List Int) :
    allD (runC (OC O) y n s ⟨wait, now, reply, newest, rh, sh, harmed, count, .int 0 :: cs, ws, fs, came, went, seen, pc, ps, el⟩ wh en act kn tl) dc_c0 P =
    ((((List.length (((AV.int 0) :: cs))) < 1048576)) ∧
    ((O.lt 0 (Int.ofNat (List.length (((AV.int 0) :: cs))))) = true ∧ (((((0 : Int) = 0) ∧ ((List.length cs) < 1048576))) ∧
    (((6 < 1048576)) ∧
    ((((6 : Int) ≠ 0)) ∧
    ((inB 0 6) ∧
    (((6 < 1048576)) ∧
    (((((6 : Int) ≠ 0) ∧ ((((-1000000) : Int) < 6) ∧ ((6 : Int) < 1000000)))) ∧
    (false = false ∧ (true = true ∧ ((((List.length fs) < 1048576)) ∧
    (false = false ∧ (false = false ∧ (false = false ∧ ((((List.length ws) < 1048576)) ∧
    (false = false ∧ (P (.next, [(104, (.ref 0)), (17, (.int wait)), (101, (.ref 16)), (56, (.bytes [n, s])), (105, (.str y))], encH ⟨wait, now, reply, newest, rh, sh, 0, (O.add count 1), cs, (O.lapp ws (.tup [(.int (O.add now 10)), (.int count), (.int 1), (.str y), (.bytes [n, s])])), (O.lapp fs (.str 6)), came, went, seen, pc, ps, el⟩ wh en act kn (tl))))))))))))))))))) := by kernel_rfl
theorem carry_c0 {wait now newest reply harmed count rh sh pc n s : Int} {y : Nat} {cs ws fs kn : List AV} {wh en : AV} {act : Nat} {tl : HS} {el : Option El} {came went : Nat → Option Int} {seen ps : List Int}
  (hcl : (AV.int 0 :: cs).length < 2 ^ 20) (hcl' : cs.length < 2 ^ 20) (hy : y = 0 ∨ y = 1) (hsz : 40 ≤ s) (hw : WInv (now + 30) count ws) (hc : CsOK cs) (hf : NRl fs) (hfs : fs.length < 2 ^ 20) (hws : ws.length < 2 ^ 20) :
    AllW (runC std y n s ⟨wait, now, reply, newest, rh, sh, harmed, count, .int 0 :: cs, ws, fs, came, went, seen, pc, ps, el⟩ wh en act kn tl) (CPost ⟨wait, now, reply, newest, rh, sh, harmed, count, .int 0 :: cs, ws, fs, came, went, seen, pc, ps, el⟩ wh en act kn tl n s) := by
  refine AllW.ofTree (treec_c0 std _ wait now newest reply harmed count rh sh pc n s y cs ws fs kn wh en act tl el came went seen ps) ?_
  refine ⟨hcl, (by rw [ltS _ cs] <;> rfl), ⟨rfl, hcl'⟩, by decide, by decide, ⟨by decide, by decide, by decide⟩, by decide, ⟨by decide, ⟨by decide, by decide⟩⟩, rfl, rfl, hfs, rfl, rfl, rfl, hws, rfl, ?_⟩
  refine ⟨rfl, _, _, ⟨rfl, ⟨wait, now, reply, newest, rh, sh, 0, (std.add count 1), cs, (std.lapp ws (.tup [(.int (std.add now 10)), (.int count), (.int 1), (.str y), (.bytes [n, s])])), (std.lapp fs (.str 6)), came, went, seen, pc, ps, el⟩, rfl, ⟨rfl, ?_⟩⟩, rfl, .inl ⟨rfl, .cons rfl (.ref rfl) (.cons rfl (.int _) (.cons rfl (.ref rfl) (.cons rfl (.bytes _) .nil)))⟩⟩
  exact ⟨hw.snoc (by simp [std]; try omega) hy hsz, by simp [std]; try omega, by simp [std]; try omega, by simp [std], hf.append (.cons (.str _) .nil), hc, by simp⟩
noncomputable def dc_c2 : D := (.lit true (.lit true (.lit false (.lit false (.lit false (.lit true .done))))))
theorem treec_c2 (O : Ops) (P : Fl × AEnv × HS → Prop) (wait now newest reply harmed count rh sh pc n s : Int) (y : Nat) (cs ws fs kn : List AV) (wh en : AV) (act : Nat) (tl : HS) (el : Option El) (came went : Nat → Option Int) (seen ps : List Int) :
    allD (runC (OC O) y n s ⟨wait, now, reply, newest, rh, sh, harmed, count, .int 2 :: cs, ws, fs, came, went, seen, pc, ps, el⟩ wh en act kn tl) dc_c2 P =
    ((((List.length (((AV.int 2) :: cs))) < 1048576)) ∧
    ((O.lt 0 (Int.ofNat (List.length (((AV.int 2) :: cs))))) = true ∧ (((((0 : Int) = 0) ∧ ((List.length cs) < 1048576))) ∧
    (((6 < 1048576)) ∧
    ((((6 : Int) ≠ 0)) ∧
    ((inB 2 6) ∧
    (((6 < 1048576)) ∧
    (((((6 : Int) ≠ 0) ∧ ((((-1000000) : Int) < 6) ∧ ((6 : Int) < 1000000)))) ∧
    (true = true ∧ (false = false ∧ (false = false ∧ (false = false ∧ ((((List.length fs) < 1048576)) ∧
    (true = true ∧ (P (.next, [(104, (.ref 0)), (17, (.int wait)), (101, (.ref 16)), (56, (.bytes [n, s])), (105, (.str y))], encH ⟨wait, now, reply, newest, rh, sh, (O.add harmed 1), count, cs, ws, (O.lapp fs (.str 7)), came, went, seen, pc, ps, el⟩ wh en act kn (tl))))))))))))))))) := by kernel_rfl
theorem carry_c2 {wait now newest reply harmed count rh sh pc n s : Int} {y : Nat} {cs ws fs kn : List AV} {wh en : AV} {act : Nat} {tl : HS} {el : Option El} {came went : Nat → Option Int} {seen ps : List Int}
  (hcl : (AV.int 2 :: cs).length < 2 ^ 20) (hcl' : cs.length < 2 ^ 20) (hy : y = 0 ∨ y = 1) (hsz : 40 ≤ s) (hw : WInv (now + 30) count ws) (hc : CsOK cs) (hf : NRl fs) (hfs : fs.length < 2 ^ 20) (hws : ws.length < 2 ^ 20) :
    AllW (runC std y n s ⟨wait, now, reply, newest, rh, sh, harmed, count, .int 2 :: cs, ws, fs, came, went, seen, pc, ps, el⟩ wh en act kn tl) (CPost ⟨wait, now, reply, newest, rh, sh, harmed, count, .int 2 :: cs, ws, fs, came, went, seen, pc, ps, el⟩ wh en act kn tl n s) := by
  refine AllW.ofTree (treec_c2 std _ wait now newest reply harmed count rh sh pc n s y cs ws fs kn wh en act tl el came went seen ps) ?_
  refine ⟨hcl, (by rw [ltS _ cs] <;> rfl), ⟨rfl, hcl'⟩, by decide, by decide, ⟨by decide, by decide, by decide⟩, by decide, ⟨by decide, ⟨by decide, by decide⟩⟩, rfl, rfl, rfl, rfl, hfs, rfl, ?_⟩
  refine ⟨rfl, _, _, ⟨rfl, ⟨wait, now, reply, newest, rh, sh, (std.add harmed 1), count, cs, ws, (std.lapp fs (.str 7)), came, went, seen, pc, ps, el⟩, rfl, ⟨rfl, ?_⟩⟩, rfl, .inl ⟨rfl, .cons rfl (.ref rfl) (.cons rfl (.int _) (.cons rfl (.ref rfl) (.cons rfl (.bytes _) .nil)))⟩⟩
  exact ⟨hw, by simp [std]; try omega, by simp [std]; try omega, by simp [std], hf.append (.cons (.str _) .nil), hc, by simp⟩
noncomputable def dc_c3 : D := (.lit true (.lit false (.lit true (.lit false (.lit false (.lit false (.lit true (.lit true .done))))))))
theorem treec_c3 (O : Ops) (P : Fl × AEnv × HS → Prop) (wait now newest reply harmed count rh sh pc n s : Int) (y : Nat) (cs ws fs kn : List AV) (wh en : AV) (act : Nat) (tl : HS) (el : Option El) (came went : Nat → Option Int) (seen ps : List Int) :
    allD (runC (OC O) y n s ⟨wait, now, reply, newest, rh, sh, harmed, count, .int 3 :: cs, ws, fs, came, went, seen, pc, ps, el⟩ wh en act kn tl) dc_c3 P =
    ((((List.length (((AV.int 3) :: cs))) < 1048576)) ∧
    ((O.lt 0 (Int.ofNat (List.length (((AV.int 3) :: cs))))) = true ∧ (((((0 : Int) = 0) ∧ ((List.length cs) < 1048576))) ∧
    (((6 < 1048576)) ∧
    ((((6 : Int) ≠ 0)) ∧
    ((inB 3 6) ∧
    (((6 < 1048576)) ∧
    (((((6 : Int) ≠ 0) ∧ ((((-1000000) : Int) < 6) ∧ ((6 : Int) < 1000000)))) ∧
    (false = false ∧ (true = true ∧ ((((List.length fs) < 1048576)) ∧
    (false = false ∧ (false = false ∧ (false = false ∧ ((((List.length ws) < 1048576)) ∧
    (true = true ∧ ((((4 : Int) ≠ 0)) ∧
    (true = true ∧ ((((List.length (O.lapp ws (.tup [(.int (O.add now 10)), (.int count), (.int 1), (.str y), (.bytes [n, s])]))) < 1048576)) ∧
    (P (.next, [(104, (.ref 0)), (17, (.int wait)), (101, (.ref 16)), (56, (.bytes [n, s])), (105, (.str y))], encH ⟨wait, now, reply, newest, rh, sh, 0, (O.add (O.add count 1) 1), cs, (O.lapp (O.lapp ws (.tup [(.int (O.add now 10)), (.int count), (.int 1), (.str y), (.bytes [n, s])])) (.tup [(.int (O.add (O.add now 10) (O.mul 10 0))), (.int (O.add count 1)), (.int 1), (.str y), (.bytes [n, s])])), (O.lapp fs (.str 8)), came, went, seen, pc, ps, el⟩ wh en act kn (tl)))))))))))))))))))))) := by kernel_rfl
theorem carry_c3 {wait now newest reply harmed count rh sh pc n s : Int} {y : Nat} {cs ws fs kn : List AV} {wh en : AV} {act : Nat} {tl : HS} {el : Option El} {came went : Nat → Option Int} {seen ps : List Int}
  (hcl : (AV.int 3 :: cs).length < 2 ^ 20) (hcl' : cs.length < 2 ^ 20) (hws2 : (std.lapp ws (.tup [.int (std.add now 10), .int count, .int 1, .str y, .bytes [n, s]])).length < 2 ^ 20) (hy : y = 0 ∨ y = 1) (hsz : 40 ≤ s) (hw : WInv (now + 30) count ws) (hc : CsOK cs) (hf : NRl fs) (hfs : fs.length < 2 ^ 20) (hws : ws.length < 2 ^ 20) :
    AllW (runC std y n s ⟨wait, now, reply, newest, rh, sh, harmed, count, .int 3 :: cs, ws, fs, came, went, seen, pc, ps, el⟩ wh en act kn tl) (CPost ⟨wait, now, reply, newest, rh, sh, harmed, count, .int 3 :: cs, ws, fs, came, went, seen, pc, ps, el⟩ wh en act kn tl n s) := by
  refine AllW.ofTree (treec_c3 std _ wait now newest reply harmed count rh sh pc n s y cs ws fs kn wh en act tl el came went seen ps) ?_
  refine ⟨hcl, (by rw [ltS _ cs] <;> rfl), ⟨rfl, hcl'⟩, by decide, by decide, ⟨by decide, by decide, by decide⟩, by decide, ⟨by decide, ⟨by decide, by decide⟩⟩, rfl, rfl, hfs, rfl, rfl, rfl, hws, rfl, by decide, rfl, hws2, ?_⟩
  refine ⟨rfl, _, _, ⟨rfl, ⟨wait, now, reply, newest, rh, sh, 0, (std.add (std.add count 1) 1), cs, (std.lapp (std.lapp ws (.tup [(.int (std.add now 10)), (.int count), (.int 1), (.str y), (.bytes [n, s])])) (.tup [(.int (std.add (std.add now 10) (std.mul 10 0))), (.int (std.add count 1)), (.int 1), (.str y), (.bytes [n, s])])), (std.lapp fs (.str 8)), came, went, seen, pc, ps, el⟩, rfl, ⟨rfl, ?_⟩⟩, rfl, .inl ⟨rfl, .cons rfl (.ref rfl) (.cons rfl (.int _) (.cons rfl (.ref rfl) (.cons rfl (.bytes _) .nil)))⟩⟩
  exact ⟨(hw.snoc (by simp [std]; try omega) hy hsz).snoc (by simp [std]; try omega) hy hsz, by simp [std]; try omega, by simp [std]; try omega, by simp [std], hf.append (.cons (.str _) .nil), hc, by simp⟩
noncomputable def dc_c4 : D := (.lit true (.lit false (.lit true (.lit false (.lit true (.lit true (.lit false (.lit false .done))))))))
theorem treec_c4 (O : Ops) (P : Fl × AEnv × HS → Prop) (wait now newest reply harmed count rh sh pc n s : Int) (y : Nat) (cs ws fs kn : List AV) (wh en : AV) (act : Nat) (tl : HS) (el : Option El) (came went : Nat → Option Int) (seen ps : List Int) :
    allD (runC (OC O) y n s ⟨wait, now, reply, newest, rh, sh, harmed, count, .int 4 :: cs, ws, fs, came, went, seen, pc, ps, el⟩ wh en act kn tl) dc_c4 P =
    ((((List.length (((AV.int 4) :: cs))) < 1048576)) ∧
    ((O.lt 0 (Int.ofNat (List.length (((AV.int 4) :: cs))))) = true ∧ (((((0 : Int) = 0) ∧ ((List.length cs) < 1048576))) ∧
    (((6 < 1048576)) ∧
    ((((6 : Int) ≠ 0)) ∧
    ((inB 4 6) ∧
    (((6 < 1048576)) ∧
    (((((6 : Int) ≠ 0) ∧ ((((-1000000) : Int) < 6) ∧ ((6 : Int) < 1000000)))) ∧
    (false = false ∧ (true = true ∧ ((((List.length fs) < 1048576)) ∧
    (false = false ∧ (true = true ∧ ((((7 : Int) ≠ 0)) ∧
    (true = true ∧ (false = false ∧ ((((List.length ws) < 1048576)) ∧
    (false = false ∧ (P (.next, [(104, (.ref 0)), (17, (.int wait)), (101, (.ref 16)), (56, (.bytes [n, s])), (105, (.str y))], encH ⟨wait, now, reply, newest, rh, sh, 0, (O.add count 1), cs, (O.lapp ws (.tup [(.int (O.add (O.add now 10) (O.mul 10 (O.add 1 0)))), (.int count), (.int 1), (.str y), (.bytes [n, s])])), (O.lapp fs (.str 9)), came, went, seen, pc, ps, el⟩ wh en act kn (tl))))))))))))))))))))) := by kernel_rfl
theorem carry_c4 {wait now newest reply harmed count rh sh pc n s : Int} {y : Nat} {cs ws fs kn : List AV} {wh en : AV} {act : Nat} {tl : HS} {el : Option El} {came went : Nat → Option Int} {seen ps : List Int}
  (hcl : (AV.int 4 :: cs).length < 2 ^ 20) (hcl' : cs.length < 2 ^ 20) (hy : y = 0 ∨ y = 1) (hsz : 40 ≤ s) (hw : WInv (now + 30) count ws) (hc : CsOK cs) (hf : NRl fs) (hfs : fs.length < 2 ^ 20) (hws : ws.length < 2 ^ 20) :
    AllW (runC std y n s ⟨wait, now, reply, newest, rh, sh, harmed, count, .int 4 :: cs, ws, fs, came, went, seen, pc, ps, el⟩ wh en act kn tl) (CPost ⟨wait, now, reply, newest, rh, sh, harmed, count, .int 4 :: cs, ws, fs, came, went, seen, pc, ps, el⟩ wh en act kn tl n s) := by
  refine AllW.ofTree (treec_c4 std _ wait now newest reply harmed count rh sh pc n s y cs ws fs kn wh en act tl el came went seen ps) ?_
  refine ⟨hcl, (by rw [ltS _ cs] <;> rfl), ⟨rfl, hcl'⟩, by decide, by decide, ⟨by decide, by decide, by decide⟩, by decide, ⟨by decide, ⟨by decide, by decide⟩⟩, rfl, rfl, hfs, rfl, rfl, by decide, rfl, rfl, hws, rfl, ?_⟩
  refine ⟨rfl, _, _, ⟨rfl, ⟨wait, now, reply, newest, rh, sh, 0, (std.add count 1), cs, (std.lapp ws (.tup [(.int (std.add (std.add now 10) (std.mul 10 (std.add 1 0)))), (.int count), (.int 1), (.str y), (.bytes [n, s])])), (std.lapp fs (.str 9)), came, went, seen, pc, ps, el⟩, rfl, ⟨rfl, ?_⟩⟩, rfl, .inl ⟨rfl, .cons rfl (.ref rfl) (.cons rfl (.int _) (.cons rfl (.ref rfl) (.cons rfl (.bytes _) .nil)))⟩⟩
  exact ⟨hw.snoc (by simp [std]; try omega) hy hsz, by simp [std]; try omega, by simp [std]; try omega, by simp [std], hf.append (.cons (.str _) .nil), hc, by simp⟩
noncomputable def dc_c10 : D := (.lit true (.lit false (.lit true (.lit false (.lit true (.lit true (.lit false (.lit false .done))))))))
theorem treec_c10 (O : Ops) (P : Fl × AEnv × HS → Prop) (wait now newest reply harmed count rh sh pc n s : Int) (y : Nat) (cs ws fs kn : List AV) (wh en : AV) (act : Nat) (tl : HS) (el : Option El) (came went : Nat → Option Int) (seen ps : List Int) :
    allD (runC (OC O) y n s ⟨wait, now, reply, newest, rh, sh, harmed, count, .int 10 :: cs, ws, fs, came, went, seen, pc, ps, el⟩ wh en act kn tl) dc_c10 P =
    ((((List.length (((AV.int 10) :: cs))) < 1048576)) ∧
    ((O.lt 0 (Int.ofNat (List.length (((AV.int 10) :: cs))))) = true ∧ (((((0 : Int) = 0) ∧ ((List.length cs) < 1048576))) ∧
    (((6 < 1048576)) ∧
    ((((6 : Int) ≠ 0)) ∧
    ((inB 4 6) ∧
    (((6 < 1048576)) ∧
    (((((6 : Int) ≠ 0) ∧ ((((-1000000) : Int) < 6) ∧ ((6 : Int) < 1000000)))) ∧
    (false = false ∧ (true = true ∧ ((((List.length fs) < 1048576)) ∧
    (false = false ∧ (true = true ∧ ((((7 : Int) ≠ 0)) ∧
    (true = true ∧ (false = false ∧ ((((List.length ws) < 1048576)) ∧
    (false = false ∧ (P (.next, [(104, (.ref 0)), (17, (.int wait)), (101, (.ref 16)), (56, (.bytes [n, s])), (105, (.str y))], encH ⟨wait, now, reply, newest, rh, sh, 0, (O.add count 1), cs, (O.lapp ws (.tup [(.int (O.add (O.add now 10) (O.mul 10 (O.add 1 1)))), (.int count), (.int 1), (.str y), (.bytes [n, s])])), (O.lapp fs (.str 9)), came, went, seen, pc, ps, el⟩ wh en act kn (tl))))))))))))))))))))) := by kernel_rfl
theorem carry_c10 {wait now newest reply harmed count rh sh pc n s : Int} {y : Nat} {cs ws fs kn : List AV} {wh en : AV} {act : Nat} {tl : HS} {el : Option El} {came went : Nat → Option Int} {seen ps : List Int}
  (hcl : (AV.int 10 :: cs).length < 2 ^ 20) (hcl' : cs.length < 2 ^ 20) (hy : y = 0 ∨ y = 1) (hsz : 40 ≤ s) (hw : WInv (now + 30) count ws) (hc : CsOK cs) (hf : NRl fs) (hfs : fs.length < 2 ^ 20) (hws : ws.length < 2 ^ 20) :
    AllW (runC std y n s ⟨wait, now, reply, newest, rh, sh, harmed, count, .int 10 :: cs, ws, fs, came, went, seen, pc, ps, el⟩ wh en act kn tl) (CPost ⟨wait, now, reply, newest, rh, sh, harmed, count, .int 10 :: cs, ws, fs, came, went, seen, pc, ps, el⟩ wh en act kn tl n s) := by
  refine AllW.ofTree (treec_c10 std _ wait now newest reply harmed count rh sh pc n s y cs ws fs kn wh en act tl el came went seen ps) ?_
  refine ⟨hcl, (by rw [ltS _ cs] <;> rfl), ⟨rfl, hcl'⟩, by decide, by decide, ⟨by decide, by decide, by decide⟩, by decide, ⟨by decide, ⟨by decide, by decide⟩⟩, rfl, rfl, hfs, rfl, rfl, by decide, rfl, rfl, hws, rfl, ?_⟩
  refine ⟨rfl, _, _, ⟨rfl, ⟨wait, now, reply, newest, rh, sh, 0, (std.add count 1), cs, (std.lapp ws (.tup [(.int (std.add (std.add now 10) (std.mul 10 (std.add 1 1)))), (.int count), (.int 1), (.str y), (.bytes [n, s])])), (std.lapp fs (.str 9)), came, went, seen, pc, ps, el⟩, rfl, ⟨rfl, ?_⟩⟩, rfl, .inl ⟨rfl, .cons rfl (.ref rfl) (.cons rfl (.int _) (.cons rfl (.ref rfl) (.cons rfl (.bytes _) .nil)))⟩⟩
  exact ⟨hw.snoc (by simp [std]; try omega) hy hsz, by simp [std]; try omega, by simp [std]; try omega, by simp [std], hf.append (.cons (.str _) .nil), hc, by simp⟩
end Mine.R
end

section
set_option linter.all false
set_option bootstrap.genMatcherCode false
namespace Mine.R
noncomputable def timeOf : AV → Int
  | .tup (.int a :: _) => a
  | _ => 0
noncomputable def dueOf (t : Int) (ws : List AV) : List AV := ws.filter fun v => decide (timeOf v ≤ t)
noncomputable def restOf (t : Int) (ws : List AV) : List AV := ws.filter fun v => decide (t < timeOf v)
noncomputable def Yields {α : Type} (t : T α) (a : α) : Prop := ∀ Q : α → Prop, Q a → t.All Q
theorem Yields.leaf {α : Type} (a : α) : Yields (.leaf a) a := fun _ h => h
theorem Yields.ck {α : Type} {p : Prop} {t : T α} {a : α} (h : p) (k : Yields t a) : Yields (.ck p t) a := fun Q q => ⟨h, k Q q⟩
theorem Yields.bind {α β : Type} {t : T α} {f : α → T β} {a : α} {b : β} (h : Yields t a) (k : Yields (f a) b) : Yields (t.bind f) b := fun Q q => T.all_bind.2 (h _ (k Q q))
theorem Yields.br {α : Type} {c : Bool} {t e : Unit → T α} {a : α} (h1 : c = true → Yields (t ()) a) (h2 : c = false → Yields (e ()) a) : Yields (br c t e) a := by
  intro Q q
  cases c
  · exact h2 rfl Q q
  · exact h1 rfl Q q
theorem compL_filter {ev : AV → HS → T (Option AV × HS)} {p : AV → Bool} {H : HS} : ∀ {ws : List AV}, (∀ v ∈ ws, Yields (ev v H) (if p v then some v else none, H)) → Yields (compL ev ws H) (ws.filter p, H)
  | [], _ => .leaf _
  | v :: r, h => by
    unfold compL
    refine .bind (h v List.mem_cons_self) (.bind (compL_filter (p := p) fun u hu => h u (List.mem_cons_of_mem _ hu)) ?_)
    cases q : p v
    · simp [List.filter, q]; exact .leaf _
    · simp [List.filter, q]; exact .leaf _
theorem compL_map {ev : AV → HS → T (Option AV × HS)} {p : AV → AV} {H : HS} : ∀ {ws : List AV}, (∀ v ∈ ws, Yields (ev v H) (some (p v), H)) → Yields (compL ev ws H) (ws.map p, H)
  | [], _ => .leaf _
  | v :: r, h => by
    unfold compL
    exact .bind (h v List.mem_cons_self) (.bind (compL_map (p := p) fun u hu => h u (List.mem_cons_of_mem _ hu)) (.leaf _))
theorem hset_hset : ∀ {H : HS} {i x y}, hset (hset H i x) i y = hset H i y
  | [], _, _, _ => rfl
  | _ :: _, 0, _, _ => rfl
  | o :: r, n + 1, x, y => congrArg (o :: ·) (hset_hset (H := r))
theorem hset_self : ∀ {H : HS} {i o}, hget H i = some o → hset H i o = H
  | [], _, _, h => rfl
  | _ :: _, 0, _, h => by simp [hget] at h; simp [hset, h]
  | o :: r, n + 1, x, h => congrArg (o :: ·) (hset_self (H := r) h)
theorem hide_show {H : HS} {k ws x} (h : hget H k = some (.list ws)) : hset (hset H k x) k (.list ws) = H := by rw [hset_hset, hset_self h]
section
variable {cf : CF} {env : AEnv} {H : HS} {v : AV} {k c : Nat} {ws : List AV} {t : Int}
theorem comp_le (hn : ws.length < 2 ^ 20) (h47 : lk 47 env = some v) (ha : getA H v 45 = some (.ref k)) (hk : hget H k = some (.list ws)) (h18 : lk 18 env = some (.ref c)) (hc : hget H c = some (.cell (some (.int t)))) {B cnt} (hr : ∀ u ∈ ws, RowOK B cnt u) :
    Yields (evalE std cf (.comp (.loc 96) [96] false (.attr (.loc 47) 45) (some 0) (.cmp .le (.sub (.loc 96) (.int 0)) (.cel 18))) env H) (.ref (hlen H), hnew H (.list (dueOf t ws))) := by
  have hck : k ≠ c := fun e => by subst e; rw [hk] at hc; cases hc
  simp only [eE_loc, eE_cel, eE_glob, eE_int, eE_str, eE_bool, eE_none, eE_bin, eE_cmp, eE_isIn, eE_notIn, eE_isNone, eE_notNone, eE_and, eE_or, eE_not, eE_ife, eE_attr, eE_sub, eE_upto, eE_call, eE_meth, eE_b1, eE_max, eE_tup, eE_list, eE_dict, eE_comp, eE_compR, eE_junk, h47, opt, T.bind, ha, listAt, hk, hideV, showV]
  refine .ck hn (.bind (compL_filter (p := fun v => decide (timeOf v ≤ t)) ?_) ?_)
  · intro u hu
    obtain ⟨a, o, y, n, s, rfl, h2⟩ := hr u hu
    have h1 : lk 18 (put 96 (.tup [.int a, .int o, .int 1, .str y, .bytes [n, s]]) env) = some (.ref c) := by rw [lk_put_ne (by decide), h18]
    have h2 : lk 96 (put 96 (.tup [.int a, .int o, .int 1, .str y, .bytes [n, s]]) env) = some (.tup [.int a, .int o, .int 1, .str y, .bytes [n, s]]) := lk_put_self
    have h3 : hget (hset H k .gone) c = some (.cell (some (.int t))) := by rw [hget_hset_other hck, hc]
    simp only [bindXs, opt, eT_not, eT_and, eT_or, eT_cmp, eT_isIn, eT_notIn, eT_isNone, eT_notNone, eT_loc, eT_call, eT_meth, eT_attr, eT_cel, eT_glob, eT_int, eT_str, eT_bool, eT_none, eT_bin, eT_ife, eT_sub, eT_upto, eT_b1, eT_max, eT_tup, eT_list, eT_dict, eT_comp, eT_compR, eT_junk, eE_loc, eE_cel, eE_glob, eE_int, eE_str, eE_bool, eE_none, eE_bin, eE_cmp, eE_isIn, eE_notIn, eE_isNone, eE_notNone, eE_and, eE_or, eE_not, eE_ife, eE_attr, eE_sub, eE_upto, eE_call, eE_meth, eE_b1, eE_max, eE_tup, eE_list, eE_dict, eE_comp, eE_compR, eE_junk, h1, h2, h3, T.bind, subV]
    refine .ck ⟨by decide, by simp, by decide⟩ ?_
    show Yields (br (decide (a ≤ t)) _ _) _
    refine .br (fun q => ?_) (fun q => ?_)
    · have q' : decide (timeOf (.tup [.int a, .int o, .int 1, .str y, .bytes [n, s]]) ≤ t) = true := q
      rw [if_pos q']; exact .leaf _
    · have q' : decide (timeOf (.tup [.int a, .int o, .int 1, .str y, .bytes [n, s]]) ≤ t) = false := q
      rw [if_neg (by rw [q']; decide)]; exact .leaf _
  · simp only [hlen_hset, hide_show hk, dueOf]; exact .leaf _
theorem comp_gt (hn : ws.length < 2 ^ 20) (h47 : lk 47 env = some v) (ha : getA H v 45 = some (.ref k)) (hk : hget H k = some (.list ws)) (h18 : lk 18 env = some (.ref c)) (hc : hget H c = some (.cell (some (.int t)))) {B cnt} (hr : ∀ u ∈ ws, RowOK B cnt u) :
    Yields (evalE std cf (.comp (.loc 96) [96] false (.attr (.loc 47) 45) (some 0) (.cmp .gt (.sub (.loc 96) (.int 0)) (.cel 18))) env H) (.ref (hlen H), hnew H (.list (restOf t ws))) := by
  have hck : k ≠ c := fun e => by subst e; rw [hk] at hc; cases hc
  simp only [eE_loc, eE_cel, eE_glob, eE_int, eE_str, eE_bool, eE_none, eE_bin, eE_cmp, eE_isIn, eE_notIn, eE_isNone, eE_notNone, eE_and, eE_or, eE_not, eE_ife, eE_attr, eE_sub, eE_upto, eE_call, eE_meth, eE_b1, eE_max, eE_tup, eE_list, eE_dict, eE_comp, eE_compR, eE_junk, h47, opt, T.bind, ha, listAt, hk, hideV, showV]
  refine .ck hn (.bind (compL_filter (p := fun v => decide (t < timeOf v)) ?_) ?_)
  · intro u hu
    obtain ⟨a, o, y, n, s, rfl, h2⟩ := hr u hu
    have h1 : lk 18 (put 96 (.tup [.int a, .int o, .int 1, .str y, .bytes [n, s]]) env) = some (.ref c) := by rw [lk_put_ne (by decide), h18]
    have h2 : lk 96 (put 96 (.tup [.int a, .int o, .int 1, .str y, .bytes [n, s]]) env) = some (.tup [.int a, .int o, .int 1, .str y, .bytes [n, s]]) := lk_put_self
    have h3 : hget (hset H k .gone) c = some (.cell (some (.int t))) := by rw [hget_hset_other hck, hc]
    simp only [bindXs, opt, eT_not, eT_and, eT_or, eT_cmp, eT_isIn, eT_notIn, eT_isNone, eT_notNone, eT_loc, eT_call, eT_meth, eT_attr, eT_cel, eT_glob, eT_int, eT_str, eT_bool, eT_none, eT_bin, eT_ife, eT_sub, eT_upto, eT_b1, eT_max, eT_tup, eT_list, eT_dict, eT_comp, eT_compR, eT_junk, eE_loc, eE_cel, eE_glob, eE_int, eE_str, eE_bool, eE_none, eE_bin, eE_cmp, eE_isIn, eE_notIn, eE_isNone, eE_notNone, eE_and, eE_or, eE_not, eE_ife, eE_attr, eE_sub, eE_upto, eE_call, eE_meth, eE_b1, eE_max, eE_tup, eE_list, eE_dict, eE_comp, eE_compR, eE_junk, h1, h2, h3, T.bind, subV]
    refine .ck ⟨by decide, by simp, by decide⟩ ?_
    show Yields (br (decide (t < a)) _ _) _
    refine .br (fun q => ?_) (fun q => ?_)
    · have q' : decide (t < timeOf (.tup [.int a, .int o, .int 1, .str y, .bytes [n, s]])) = true := q
      rw [if_pos q']; exact .leaf _
    · have q' : decide (t < timeOf (.tup [.int a, .int o, .int 1, .str y, .bytes [n, s]])) = false := q
      rw [if_neg (by rw [q']; decide)]; exact .leaf _
  · simp only [hlen_hset, hide_show hk, restOf]; exact .leaf _
noncomputable def outOf : AV → AV
  | .tup [_, _, g, y, d] => .tup [g, y, d]
  | v => v
theorem comp_out (hn : ws.length < 2 ^ 20) (h97 : lk 97 env = some (.ref k)) (hk : hget H k = some (.list ws)) {B cnt} (hr : ∀ u ∈ ws, RowOK B cnt u) :
    Yields (evalE std cf (.comp (.tup (.cons (.loc 89) (.cons (.loc 65) (.cons (.loc 88) .nil)))) [90, 98, 89, 65, 88] true (.loc 97) Option.none .none) env H) (.ref (hlen H), hnew H (.list (ws.map outOf))) := by
  simp only [eE_loc, eE_cel, eE_glob, eE_int, eE_str, eE_bool, eE_none, eE_bin, eE_cmp, eE_isIn, eE_notIn, eE_isNone, eE_notNone, eE_and, eE_or, eE_not, eE_ife, eE_attr, eE_sub, eE_upto, eE_call, eE_meth, eE_b1, eE_max, eE_tup, eE_list, eE_dict, eE_comp, eE_compR, eE_junk, h97, opt, T.bind, listAt, hk, hideV, showV]
  refine .ck hn (.bind (compL_map (p := outOf) ?_) ?_)
  · intro u hu
    obtain ⟨a, o, y, n, s, rfl, h2⟩ := hr u hu
    simp only [bindXs, List.length, if_true, opt, List.zip, List.zipWith, List.foldl, eL_nil, eL_cons, eE_loc, eE_cel, eE_glob, eE_int, eE_str, eE_bool, eE_none, eE_bin, eE_cmp, eE_isIn, eE_notIn, eE_isNone, eE_notNone, eE_and, eE_or, eE_not, eE_ife, eE_attr, eE_sub, eE_upto, eE_call, eE_meth, eE_b1, eE_max, eE_tup, eE_list, eE_dict, eE_comp, eE_compR, eE_junk]
    have e1 : lk 89 (put 88 (.bytes [n, s]) (put 65 (.str y) (put 89 (.int 1) (put 98 (.int o) (put 90 (.int a) env))))) = some (.int 1) := by
      rw [lk_put_ne (by decide), lk_put_ne (by decide), lk_put_self]
    have e2 : lk 65 (put 88 (.bytes [n, s]) (put 65 (.str y) (put 89 (.int 1) (put 98 (.int o) (put 90 (.int a) env))))) = some (.str y) := by
      rw [lk_put_ne (by decide), lk_put_self]
    have e3 : lk 88 (put 88 (.bytes [n, s]) (put 65 (.str y) (put 89 (.int 1) (put 98 (.int o) (put 90 (.int a) env))))) = some (.bytes [n, s]) := lk_put_self
    simp only [e1, e2, e3, opt, T.bind]
    exact .leaf _
  · simp only [hlen_hset, hide_show hk]; exact .leaf _
end
end Mine.R
end

section
set_option linter.all false
set_option bootstrap.genMatcherCode false
namespace Mine.R
theorem hget_new {H : HS} {x : AO} {i o} (h : hget H i = some o) : hget (hnew H x) i = some o := (hget_hnew_before (hget_lt h)).trans h
theorem getA_of {H : HS} {i d a c cl kv u} (h1 : hget H i = some (.inst c d)) (h2 : find c clsTab = some cl) (h3 : hget H d = some (.attrs kv)) (h4 : has a cl.attrs = true) (h5 : lk a kv = some u) : getA H (.ref i) a = some u := by
  simp [getA, instAt, h1, h2, h3, h4, h5]
theorem setA_of {H : HS} {i d a c cl kv u} (h1 : hget H i = some (.inst c d)) (h2 : find c clsTab = some cl) (h3 : hget H d = some (.attrs kv)) (h4 : has a cl.attrs = true) : setA H (.ref i) a u = some (hset H d (.attrs (put a u kv))) := by
  simp [setA, instAt, h1, h2, h3, h4]
noncomputable def cl298 : Cls := ⟨264, [(91, 271), (94, 278), (99, 285), (76, 290), (100, 295)], [40, 41, 42, 43, 44, 45, 46]⟩
noncomputable def HA (H : HS) (d : Nat) (kv : List (Nat × AV)) (t : Int) (ws ys : List AV) : HS :=
  hnew (hset (hnew (hnew (hnew (hnew H (.cell (some (.int t)))) (.list (dueOf t ws))) (.list ys)) (.list (restOf t ws))) d (.attrs (put 45 (.ref (hlen H + 3)) kv))) (.list (ys.map outOf))
theorem arrived {cf : CF} {H : HS} {i d k : Nat} {kv : List (Nat × AV)} {ws : List AV} {t B cnt : Int} {P : AV × HS → Prop} (hi : hget H i = some (.inst 298 d)) (hd : hget H d = some (.attrs kv)) (h45 : lk 45 kv = some (.ref k)) (hk : hget H k = some (.list ws))
    (hw : WInv B cnt ws) (hn : ws.length < 64) (hP : ∀ ys, ys.length = (dueOf t ws).length → (∀ y ∈ ys, y ∈ dueOf t ws) → P (.ref (hlen H + 4), HA H d kv t ws ys)) : (runF std cf 295 [.ref i, .int t] H).All P := by
  have hf : find 295 fnTab = some ⟨[47, 18], [18], b_Network_arrived⟩ := rfl
  have hc298 : find 298 clsTab = some cl298 := rfl
  have hn2 : ws.length < 2 ^ 20 := by omega
  have hdw : dueOf t ws = ws.filter (fun v => decide (timeOf v ≤ t)) := rfl
  have hsub : ∀ v ∈ dueOf t ws, v ∈ ws := fun v h => (List.mem_filter.1 h).1
  have hdl : (dueOf t ws).length ≤ ws.length := List.length_filter_le ..
  have hd1 : hget (hnew H (.cell (some (.int t)))) d = some (.attrs kv) := hget_new hd
  have hi1 : hget (hnew H (.cell (some (.int t)))) i = some (.inst 298 d) := hget_new hi
  have hk1 : hget (hnew H (.cell (some (.int t)))) k = some (.list ws) := hget_new hk
  have hc1 : hget (hnew H (.cell (some (.int t)))) (hlen H) = some (.cell (some (.int t))) := hget_hnew_last
  unfold runF
  rw [hf]
  show ((execB std cf b_Network_arrived [(47, .ref i), (18, .ref (hlen H))] (hnew H (.cell (some (.int t))))).bind fun q => .leaf (match q.1 with | .ret v => v | .next => .none, q.2.2)).All P
  refine T.all_bind.2 ?_
  have hb1 : ∀ f a env H, evalE std cf (.b1 f a) env H = (evalE std cf a env H).bind fun p => app1 std f p.1 p.2 := fun _ _ _ _ => by simp only [eE_loc, eE_cel, eE_glob, eE_int, eE_str, eE_bool, eE_none, eE_bin, eE_cmp, eE_isIn, eE_notIn, eE_isNone, eE_notNone, eE_and, eE_or, eE_not, eE_ife, eE_attr, eE_sub, eE_upto, eE_call, eE_meth, eE_b1, eE_max, eE_tup, eE_list, eE_dict, eE_comp, eE_compR, eE_junk]
  simp only [b_Network_arrived, eB_nil, eB_cons, eS_assign, eS_augLoc, eS_augAttr, eS_expr, eS_ret, eS_ife, eS_forL, eS_forR, eS_junk, T.all_bind, hb1]
  refine comp_le hn2 rfl (getA_of hi1 hc298 hd1 rfl h45) hk1 rfl hc1 hw.ok _ ?_
  simp only [app1, hget_hnew_last]
  refine ⟨⟨by omega, fun v hv => ?_, ?_⟩, fun ys hl hm => ?_⟩
  · obtain ⟨a, o, y, n, s, rfl, _⟩ := hw.ok v (hsub v hv)
    rfl
  · exact List.Nodup.sublist (List.Sublist.map _ List.filter_sublist) hw.nd
  generalize hH3 : hnew (hnew (hnew H (.cell (some (.int t)))) (.list (dueOf t ws))) (.list ys) = H3
  have hl3 : hlen H3 = hlen H + 3 := by rw [← hH3]; simp only [hlen_hnew]
  have hd3 : hget H3 d = some (.attrs kv) := by rw [← hH3]; exact hget_new (hget_new hd1)
  have hi3 : hget H3 i = some (.inst 298 d) := by rw [← hH3]; exact hget_new (hget_new hi1)
  have hk3 : hget H3 k = some (.list ws) := by rw [← hH3]; exact hget_new (hget_new hk1)
  have hc3 : hget H3 (hlen H) = some (.cell (some (.int t))) := by rw [← hH3]; exact hget_new (hget_new hc1)
  have hy3 : hget H3 (hlen H + 2) = some (.list ys) := by
    rw [← hH3]
    have := hget_hnew_last (H := hnew (hnew H (.cell (some (.int t)))) (.list (dueOf t ws))) (x := .list ys)
    rwa [hlen_hnew, hlen_hnew] at this
  simp only [T.All, asg, asgP, hlen_hnew]
  simp only [eB_nil, eB_cons, eS_assign, eS_augLoc, eS_augAttr, eS_expr, eS_ret, eS_ife, eS_forL, eS_forR, eS_junk, T.all_bind]
  have e1 : put 97 (.ref (hlen H + 1 + 1)) [(47, .ref i), (18, .ref (hlen H))] = [(47, .ref i), (18, .ref (hlen H)), (97, .ref (hlen H + 2))] := rfl
  rw [e1, hH3]
  refine comp_gt (env := [(47, .ref i), (18, .ref (hlen H)), (97, .ref (hlen H + 2))]) (H := H3) hn2 rfl (getA_of hi3 hc298 hd3 rfl h45) hk3 rfl hc3 hw.ok _ ?_
  have hs : setA (hnew H3 (.list (restOf t ws))) (.ref i) 45 (.ref (hlen H + 3)) = some (hset (hnew H3 (.list (restOf t ws))) d (.attrs (put 45 (.ref (hlen H + 3)) kv))) :=
    setA_of (hget_new hi3) hc298 (hget_new hd3) rfl
  have e2 : evalE std cf (.loc 47) [(47, .ref i), (18, .ref (hlen H)), (97, .ref (hlen H + 2))] (hnew H3 (.list (restOf t ws))) = .leaf (.ref i, hnew H3 (.list (restOf t ws))) := by simp only [eE_loc, eE_cel, eE_glob, eE_int, eE_str, eE_bool, eE_none, eE_bin, eE_cmp, eE_isIn, eE_notIn, eE_isNone, eE_notNone, eE_and, eE_or, eE_not, eE_ife, eE_attr, eE_sub, eE_upto, eE_call, eE_meth, eE_b1, eE_max, eE_tup, eE_list, eE_dict, eE_comp, eE_compR, eE_junk]; rfl
  simp only [hl3, e2, T.All, hs, opt, T.all_bind]
  have hy5 : hget (hset (hnew H3 (.list (restOf t ws))) d (.attrs (put 45 (.ref (hlen H + 3)) kv))) (hlen H + 2) = some (.list ys) := by
    rw [hget_hset_other (fun e => by rw [e] at hd3; rw [hd3] at hy3; cases hy3)]
    exact hget_new hy3
  refine comp_out (env := [(47, .ref i), (18, .ref (hlen H)), (97, .ref (hlen H + 2))]) (B := B) (cnt := cnt) (by omega) rfl hy5 (fun u hu => hw.ok u (hsub u (hm u hu))) _ ?_
  have := hP ys hl hm
  simp only [T.All, hlen_hset, hlen_hnew, hl3]
  rw [← hH3]
  exact this
end Mine.R
end

section
set_option linter.all false
set_option bootstrap.genMatcherCode false
namespace Mine.R
theorem dhas1 {came : Nat → Option Int} {re : Int} (h : came 1 = some re) : std.dhas came 1 = true := by simp [std, h]
theorem le31 {came went : Nat → Option Int} {re se : Int} (h : came 1 = some re) (k : (went 1).getD 0 = se) (l : se ≤ 3 * re) : std.le (std.dget went 1 0) (std.mul 3 (std.dget came 1 0)) = true := by
  simp [std, h, k, l]
theorem eqee (e : Int) : std.eq e e = true := by simp [std]
theorem rest_run : ∀ {st : St} {t : Int}, ElInv st.now st.wait st.came st.went st.el → NRl st.cs → NRl st.ws → NRl st.fs → AllW (runR std t st) (RPost st t)
  | ⟨wait, now, reply, newest, rh, sh, harmed, count, cs, ws, fs, came, went, seen, pc, ps, none⟩, t, h, hc, hw, hf =>
    rest_none h.1 h.2 hc hw hf (re := 0) (se := 0) (ch := []) (e := 0)
  | ⟨wait, now, reply, newest, rh, sh, harmed, count, cs, ws, fs, came, went, seen, pc, ps, some ⟨re, se, ch, .unp⟩⟩, t, h, hc, hw, hf =>
    rest_unp h.1 h.2.1 h.2.2.1 h.2.2.2.1 h.2.2.2.2 (dhas1 h.1) (le31 h.1 h.2.1 h.2.2.1) hc hw hf (e := 0)
  | ⟨wait, now, reply, newest, rh, sh, harmed, count, cs, ws, fs, came, went, seen, pc, ps, some ⟨re, se, ch, .fai⟩⟩, t, h, hc, hw, hf =>
    rest_fai h.1 h.2.1 h.2.2.1 h.2.2.2.1 h.2.2.2.2 (dhas1 h.1) (le31 h.1 h.2.1 h.2.2.1) hc hw hf (e := 0)
  | ⟨wait, now, reply, newest, rh, sh, harmed, count, cs, ws, fs, came, went, seen, pc, ps, some ⟨re, se, ch, .tryH e⟩⟩, t, h, hc, hw, hf =>
    rest_tryH h.1 h.2.1 h.2.2.1 h.2.2.2.1 h.2.2.2.2 (dhas1 h.1) (le31 h.1 h.2.1 h.2.2.1) (eqee e) hc hw hf
  | ⟨wait, now, reply, newest, rh, sh, harmed, count, cs, ws, fs, came, went, seen, pc, ps, some ⟨re, se, ch, .tryE e⟩⟩, t, h, hc, hw, hf =>
    rest_tryE h.1 h.2.1 h.2.2.1 h.2.2.2.1 h.2.2.2.2 (dhas1 h.1) (le31 h.1 h.2.1 h.2.2.1) (eqee e) hc hw hf
theorem carry_run : ∀ {st : St} {wh en : AV} {act : Nat} {kn : List AV} {tl : HS} {y : Nat} {n s : Int}, (y = 0 ∨ y = 1) → 40 ≤ s → WInv (st.now + 30) st.count st.ws → CsOK st.cs → NRl st.fs → st.fs.length < 1000 → st.ws.length < 1000 → st.cs.length < 1000 →
    AllW (runC std y n s st wh en act kn tl) (CPost st wh en act kn tl n s)
  | ⟨wait, now, reply, newest, rh, sh, harmed, count, [], ws, fs, came, went, seen, pc, ps, el⟩, wh, en, act, kn, tl, y, n, s, hy, hs, hw, hc, hf, l1, l2, l3 =>
    carry_nil hy hs hw hc hf (Nat.lt_trans l1 (by decide)) (Nat.lt_trans l2 (by decide))
  | ⟨wait, now, reply, newest, rh, sh, harmed, count, v :: cs, ws, fs, came, went, seen, pc, ps, el⟩, wh, en, act, kn, tl, y, n, s, hy, hs, hw, hc, hf, l1, l2, l3 => by
    have hc' : CsOK cs := fun u hu => hc u (List.mem_cons_of_mem _ hu)
    have h1 : (v :: cs).length < 2 ^ 20 := Nat.lt_trans l3 (by decide)
    have h2 : cs.length < 2 ^ 20 := Nat.lt_of_succ_lt h1
    have h3 : fs.length < 2 ^ 20 := Nat.lt_trans l1 (by decide)
    have h4 : ws.length < 2 ^ 20 := Nat.lt_trans l2 (by decide)
    rcases hc v List.mem_cons_self with rfl | rfl | rfl | rfl | rfl
    · exact carry_c0 h1 h2 hy hs hw hc' hf h3 h4
    · exact carry_c2 h1 h2 hy hs hw hc' hf h3 h4
    · exact carry_c3 h1 h2 (by have : ws.length < 1000 := l2; simp [std]; omega) hy hs hw hc' hf h3 h4
    · exact carry_c4 h1 h2 hy hs hw hc' hf h3 h4
    · exact carry_c10 h1 h2 hy hs hw hc' hf h3 h4
end Mine.R
end

section
set_option linter.all false
set_option bootstrap.genMatcherCode false
namespace Mine.R
theorem HA_old {H : HS} {d kv t ws ys i o} (hi : hget H i = some o) (h : d ≠ i) : hget (HA H d kv t ws ys) i = some o := by
  unfold HA
  refine hget_new ((hget_hset_other h).trans ?_)
  exact hget_new (hget_new (hget_new (hget_new hi)))
theorem HA_d {H : HS} {d kv t ws ys o} (hi : hget H d = some o) : hget (HA H d kv t ws ys) d = some (.attrs (put 45 (.ref (hlen H + 3)) kv)) := by
  unfold HA
  exact hget_new (hget_hset_self (hget_new (hget_new (hget_new (hget_new hi)))))
theorem HA_ws {H : HS} {d kv t ws ys o} (hi : hget H d = some o) : hget (HA H d kv t ws ys) (hlen H + 3) = some (.list (restOf t ws)) := by
  unfold HA
  have hd := hget_lt hi
  refine hget_new ((hget_hset_other (by omega)).trans ?_)
  have := hget_hnew_last (H := hnew (hnew (hnew H (.cell (some (.int t)))) (.list (dueOf t ws))) (.list ys)) (x := .list (restOf t ws))
  simp only [hlen_hnew] at this
  exact this
theorem HA_out {H : HS} {d kv t ws ys} : hget (HA H d kv t ws ys) (hlen H + 4) = some (.list (ys.map outOf)) := by
  unfold HA
  have := hget_hnew_last (H := hset (hnew (hnew (hnew (hnew H (.cell (some (.int t)))) (.list (dueOf t ws))) (.list ys)) (.list (restOf t ws))) d (.attrs (put 45 (.ref (hlen H + 3)) kv))) (x := .list (ys.map outOf))
  simp only [hlen_hnew, hlen_hset] at this
  exact this
noncomputable def netKv (st : St) : List (Nat × AV) := [(40,.ref 10),(41,.int 10),(42,.none),(43,.int st.harmed),(44,.int st.count),(45,.ref 11),(46,.ref 12)]
theorem subs_baseW {R : Wr} {st : St} {wh en : AV} {act k : Nat} {kn : List AV} {tl0 tl : HS} {ks : List Nat} {C : HS} {r : List AV} (R1 : ∀ i, i < 19 → i ≠ 11 → R i i) (R2 : R 11 k) (h1 : VX R wh wh) (h2 : VX R en en) (h3 : R act act) (h4 : VL R kn kn) (h5 : NRl st.cs) (h6 : NRl r) (h7 : NRl st.fs)
    (hC : ∀ i o, hget (encH st wh en act kn tl0) i = some o → 9 ≠ i → hget C i = some o) (h9 : hget C 9 = some (.attrs (put 45 (.ref k) (netKv st)))) (hk : hget C k = some (.list r))
    (h : Subs R C tl ks) : Subs R C (encH { st with ws := r } wh en act kn tl) (0 :: 1 :: 2 :: 3 :: 4 :: 5 :: 6 :: 7 :: 8 :: 9 :: 10 :: k :: 12 :: 13 :: 14 :: 15 :: 16 :: 17 :: 18 :: ks) := by
  refine .cons (hC 0 _ rfl (by decide)) (.rc (.cons (.ref (R1 1 (by decide) (by decide))) (.cons (.ref (R1 8 (by decide) (by decide))) (.cons (.int _) (.cons (.int _) (.cons (.int _) (.cons h2 (.cons h1 (.cons (.int _) (.cons (.ref (R1 15 (by decide) (by decide))) (.cons (.ref (R1 14 (by decide) (by decide))) (.cons (.ref (R1 13 (by decide) (by decide))) .nil)))))))))))) ?_
  refine .cons (hC 1 _ rfl (by decide)) (.inst _ (R1 2 (by decide) (by decide))) ?_
  refine .cons (hC 2 _ rfl (by decide)) (.attrs (.cons (.str _) (.cons (.bool _) (.cons (.ref (R1 6 (by decide) (by decide))) (.cons (.ref h3) (.cons (.ref (R1 3 (by decide) (by decide))) (.cons (.int _) (.cons (.ref (R1 7 (by decide) (by decide))) .nil)))))))) ?_
  refine .cons (hC 3 _ rfl (by decide)) (.inst _ (R1 4 (by decide) (by decide))) ?_
  refine .cons (hC 4 _ rfl (by decide)) (.attrs (.cons (.str _) (.cons (.str _) (.cons (.bool _) (.cons (.int _) (.cons (.int _) (.cons (.ref (R1 5 (by decide) (by decide))) (.cons .none .nil)))))))) ?_
  refine .cons (hC 5 _ rfl (by decide)) (.list .nil) ?_
  refine .cons (hC 6 _ rfl (by decide)) (.list h4) ?_
  refine .cons (hC 7 _ rfl (by decide)) (.list .nil) ?_
  refine .cons (hC 8 _ rfl (by decide)) (.inst _ (R1 9 (by decide) (by decide))) ?_
  refine .cons h9 (.attrs (.cons (.ref (R1 10 (by decide) (by decide))) (.cons (.int _) (.cons .none (.cons (.int _) (.cons (.int _) (.cons (.ref R2) (.cons (.ref (R1 12 (by decide) (by decide))) .nil)))))))) ?_
  refine .cons (hC 10 _ rfl (by decide)) (.list h5.refl) ?_
  refine .cons hk (.list h6.refl) ?_
  refine .cons (hC 12 _ rfl (by decide)) (.list h7.refl) ?_
  refine .cons (hC 13 _ rfl (by decide)) (.fd _) ?_
  refine .cons (hC 14 _ rfl (by decide)) (.fd _) ?_
  refine .cons (hC 15 _ rfl (by decide)) (.il _) ?_
  refine .cons (hC 16 _ rfl (by decide)) (.cell (.ref (R1 17 (by decide) (by decide)))) ?_
  refine .cons (hC 17 _ rfl (by decide)) (.list (.cons (.ref (R1 18 (by decide) (by decide))) (.cons (.int _) .nil))) ?_
  exact .cons (hC 18 _ rfl (by decide)) (.il _) h
noncomputable def rhoW0 : List Nat := [0,1,2,3,4,5,6,7,8,9,10,22,12,13,14,15,16,17,18]
noncomputable def rhoW1 : List Nat := [0,1,2,3,4,5,6,7,8,9,10,25,12,13,14,15,16,17,18,19,20,21]
theorem renW0 : ∀ i, i < 19 → i ≠ 11 → Ren rhoW0 i i := fix_ok' rfl
theorem renW1 : ∀ i, i < 22 → i ≠ 11 → Ren rhoW1 i i := fix_ok' rfl
theorem sub_w0 {st : St} {wh en : AV} {act : Nat} {kn : List AV} {t : Int} {ys : List AV} (h1 : NRv wh) (h2 : NRv en) (h3 : act < 19) (h3' : act ≠ 11) (h4 : ∀ R : Wr, (∀ i, i < 19 → i ≠ 11 → R i i) → VL R kn kn) (h5 : NRl st.cs) (h6 : NRl st.ws) (h7 : NRl st.fs) :
    Sub (encH { st with ws := restOf t st.ws } wh en act kn []) (HA (encH st wh en act kn []) 9 (netKv st) t st.ws ys) rhoW0 :=
  ⟨by decide, subs_baseW (tl0 := []) renW0 rfl ((h1 _ _).2 rfl) ((h2 _ _).2 rfl) (renW0 act h3 h3') (h4 _ renW0) h5 (fun v h => h6 v (List.mem_filter.1 h).1) h7
    (fun i o h k => HA_old h k) (HA_d (o := .attrs (netKv st)) rfl) (HA_ws (H := encH st wh en act kn []) (o := .attrs (netKv st)) rfl) .nil⟩
theorem sub_w1 {st : St} {wh en : AV} {act : Nat} {kn : List AV} {t : Int} {ys : List AV} {re se : Int} {ch : List AV} {s dl : AV} (h1 : NRv wh) (h2 : NRv en) (h3 : act < 22) (h3' : act ≠ 11) (h4 : ∀ R : Wr, (∀ i, i < 22 → i ≠ 11 → R i i) → VL R kn kn) (h5 : NRl st.cs) (h6 : NRl st.ws) (h7 : NRl st.fs) (h8 : NRl ch) (h9 : NRv s) (h10 : NRv dl) :
    Sub (encH { st with ws := restOf t st.ws } wh en act kn (encE re se ch s dl)) (HA (encH st wh en act kn (encE re se ch s dl)) 9 (netKv st) t st.ws ys) rhoW1 :=
  ⟨by decide, subs_baseW (tl0 := encE re se ch s dl) (fun i hi => renW1 i (by omega)) rfl ((h1 _ _).2 rfl) ((h2 _ _).2 rfl) (renW1 act h3 h3') (h4 _ renW1) h5 (fun v h => h6 v (List.mem_filter.1 h).1) h7
    (fun i o h k => HA_old h k) (HA_d (o := .attrs (netKv st)) rfl) (HA_ws (H := encH st wh en act kn (encE re se ch s dl)) (o := .attrs (netKv st)) rfl)
    (.cons (HA_old (i := 19) rfl (by decide)) (.attrs (.cons (.str _) (.cons ((h9 _ _).2 rfl) (.cons (.bool _) (.cons (.int _) (.cons (.int _) (.cons (.ref (renW1 21 (by decide) (by decide))) (.cons ((h10 _ _).2 rfl) .nil))))))))
    (.cons (HA_old (i := 20) rfl (by decide)) (.inst _ (renW1 19 (by decide) (by decide))) (.cons (HA_old (i := 21) rfl (by decide)) (.list h8.refl) .nil)))⟩
theorem a3_19 : 3 < 19 := by decide
theorem a3_22 : 3 < 22 := by decide
theorem a20_22 : 20 < 22 := by decide
theorem n3_11 : 3 ≠ 11 := by decide
theorem n20_11 : 20 ≠ 11 := by decide
theorem sub_w : ∀ {st : St} {t : Int} {ys : List AV}, ElInv st.now st.wait st.came st.went st.el → NRl st.cs → NRl st.ws → NRl st.fs → ∃ rho, Sub (enc { st with ws := restOf t st.ws }) (HA (enc st) 9 (netKv st) t st.ws ys) rho ∧ nth? rho 0 = some 0 ∧ nth? rho 16 = some 16 ∧ has (hlen (enc st) + 4) rho = false
  | ⟨wait, now, reply, newest, rh, sh, harmed, count, cs, ws, fs, came, went, seen, pc, ps, none⟩, t, ys, h, h5, h6, h7 =>
    ⟨rhoW0, sub_w0 (NRv.str _) NRv.none a3_19 n3_11 (fun R h => .cons (.ref (h 3 (by decide) (by decide))) .nil) h5 h6 h7, rfl, rfl, rfl⟩
  | ⟨wait, now, reply, newest, rh, sh, harmed, count, cs, ws, fs, came, went, seen, pc, ps, some ⟨re, se, ch, .unp⟩⟩, t, ys, h, h5, h6, h7 =>
    ⟨rhoW1, sub_w1 (NRv.str _) NRv.none a3_22 n3_11 (fun R h => .cons (.ref (h 3 (by decide) (by decide))) (.cons (.ref (h 20 (by decide) (by decide))) .nil)) h5 h6 h7 h.2.2.2.1 (NRv.str _) NRv.none, rfl, rfl, rfl⟩
  | ⟨wait, now, reply, newest, rh, sh, harmed, count, cs, ws, fs, came, went, seen, pc, ps, some ⟨re, se, ch, .fai⟩⟩, t, ys, h, h5, h6, h7 =>
    ⟨rhoW1, sub_w1 (NRv.str _) NRv.none a3_22 n3_11 (fun R h => .cons (.ref (h 3 (by decide) (by decide))) (.cons (.ref (h 20 (by decide) (by decide))) .nil)) h5 h6 h7 h.2.2.2.1 (NRv.str _) NRv.none, rfl, rfl, rfl⟩
  | ⟨wait, now, reply, newest, rh, sh, harmed, count, cs, ws, fs, came, went, seen, pc, ps, some ⟨re, se, ch, .tryH e⟩⟩, t, ys, h, h5, h6, h7 =>
    ⟨rhoW1, sub_w1 (NRv.str _) (NRv.int _) a3_22 n3_11 (fun R h => .cons (.ref (h 3 (by decide) (by decide))) (.cons (.ref (h 20 (by decide) (by decide))) .nil)) h5 h6 h7 h.2.2.2.1 (NRv.str _) (NRv.int _), rfl, rfl, rfl⟩
  | ⟨wait, now, reply, newest, rh, sh, harmed, count, cs, ws, fs, came, went, seen, pc, ps, some ⟨re, se, ch, .tryE e⟩⟩, t, ys, h, h5, h6, h7 =>
    ⟨rhoW1, sub_w1 (NRv.str _) (NRv.int _) a20_22 n20_11 (fun R h => .cons (.ref (h 3 (by decide) (by decide))) (.cons (.ref (h 20 (by decide) (by decide))) .nil)) h5 h6 h7 h.2.2.2.1 (NRv.str _) (NRv.int _), rfl, rfl, rfl⟩
end Mine.R
end

section
set_option linter.all false
set_option bootstrap.genMatcherCode false
namespace Mine.R
theorem AllW.mono {α : Type} {t : T α} {P P' : α → Prop} (h : AllW t P) (k : ∀ a, P a → P' a) : AllW t P' := ⟨T.All.mono k h.w⟩
noncomputable def ecP (t : Int) : AEnv := [(104, .ref 0), (90, .int t)]
noncomputable def itP : E := .meth (.sub (.loc 104) (.str 16)) 100 (.cons (.loc 90) .nil)
noncomputable def s1P : S := .assign (.sub (.loc 104) (.str 18)) (.loc 90)
theorem passes_eq : b_law_passes = .cons s1P (.cons (.forL [89,105,56] true itP bodyP) restP) := rfl
structure SInv (st : St) : Prop where
  cs : CsOK st.cs
  fs : NRl st.fs
  w : WInv (st.now + 30) st.count st.ws
  cnt : (st.seen.length : Int) + st.ws.length ≤ st.count
  c2 : st.count ≤ 60
  ei : ElInv st.now st.wait st.came st.went st.el
noncomputable def RowY (y : AV) : Prop := ∃ w n s, y = .tup [.int 1, .str w, .bytes [n, s]] ∧ (w = 0 ∨ w = 1) ∧ 40 ≤ s
theorem RowY.nr {y} (h : RowY y) : NRv y := by
  obtain ⟨w, n, s, rfl, _⟩ := h
  exact .tup (.cons (.int _) (.cons (.str _) (.cons (.bytes _) .nil)))
theorem RowOK.nr {B c v} (h : RowOK B c v) : NRv v := by
  obtain ⟨a, o, y, n, s, rfl, _⟩ := h
  exact .tup (.cons (.int _) (.cons (.int _) (.cons (.int _) (.cons (.str _) (.cons (.bytes _) .nil)))))
theorem WInv.nr {B c ws} (h : WInv B c ws) : NRl ws := fun v hv => (h.ok v hv).nr
theorem CsOK.nr {cs} (h : CsOK cs) : NRl cs := fun v hv => by
  rcases h v hv with rfl | rfl | rfl | rfl | rfl <;> exact .int _
theorem outOf_row {B c v} (h : RowOK B c v) : RowY (outOf v) := by
  obtain ⟨a, o, y, n, s, rfl, h1, h2, h3, h4⟩ := h
  exact ⟨y, n, s, rfl, h3, h4⟩
structure LS (st : St) (t : Int) (ys : List AV) (st' : St) : Prop where
  wait : st'.wait = st.wait
  now : st'.now = t
  reply : st'.reply = st.reply
  harmed : st'.harmed = st.harmed
  count : st'.count = st.count
  cs : st'.cs = st.cs
  ws : st'.ws = restOf t st.ws
  fs : st'.fs = st.fs
  pc : st'.pc = st.pc
  ps : st'.ps = st.ps
  ei : ElInv t st.wait st'.came st'.went st'.el
  rows : ∀ y ∈ ys, RowY y
  len : (st'.seen.length : Int) + (restOf t st.ws).length + ys.length ≤ st.count
  nodue : dueOf t st.ws = [] → ys = [] ∧ st'.el = st.el
noncomputable def LI (st : St) (t : Int) (ys : List AV) (D : HS) (ec : AEnv) : Prop := ec = ecP t ∧ ∃ st', D = enc st' ∧ LS st t ys st'
theorem restOf_row {t B c ws} (h : WInv B c ws) : WInv B c (restOf t ws) where
  ok := fun v hv => h.ok v (List.mem_filter.1 hv).1
  nd := List.Nodup.sublist (List.Sublist.map _ List.filter_sublist) h.nd
theorem due_rest (t : Int) : ∀ ws : List AV, (dueOf t ws).length + (restOf t ws).length = ws.length
  | [] => rfl
  | v :: r => by
    have := due_rest t r
    unfold dueOf restOf at *
    by_cases h : timeOf v ≤ t
    · have h' : ¬ t < timeOf v := by omega
      simp [List.filter, h, h']; omega
    · have h' : t < timeOf v := by omega
      simp [List.filter, h, h']; omega
theorem ElInv.mono {a b w c g} : ∀ {el}, ElInv a w c g el → a ≤ b → ElInv b w c g el
  | none, h, _ => h
  | some ⟨re, se, ch, .unp⟩, h, _ => h
  | some ⟨re, se, ch, .fai⟩, h, _ => h
  | some ⟨re, se, ch, .tryH e⟩, h, k => ⟨h.1, h.2.1, h.2.2.1, h.2.2.2.1, by have := h.2.2.2.2; dsimp only at this; show e ≤ b + w; omega⟩
  | some ⟨re, se, ch, .tryE e⟩, h, k => ⟨h.1, h.2.1, h.2.2.1, h.2.2.2.1, by have := h.2.2.2.2; dsimp only at this; show e ≤ b + w; omega⟩
noncomputable def xP (y : AV) : Xn := fun env H => opt (bindXs [89,105,56] true y env) fun env' => execB std (callN std 11) bodyP env' H
theorem xP_good {y} (h : NRv y) : GoodX (xP y) := fun {W C H env env'} e k =>
  .opt (bindXs_x ((h W y).2 rfl) k) fun en en' hen => sSs (callN_x 11) bodyP e hen
theorem step {st : St} {t : Int} {y : AV} {ys : List AV} (hI : SInv st) : HT (xP y) .next (LI st t (y :: ys)) (LI st t ys) := by
  by_cases hy : RowY y
  · refine HT.run (xP_good hy.nr) .next ?_
    rintro D ec ⟨rfl, st', rfl, L⟩
    obtain ⟨w, n, s, rfl, hw, hs⟩ := hy
    have hG : GHyp st' s := by
      refine ⟨by rw [L.now, L.wait]; exact L.ei, ?_, by rw [L.cs]; exact hI.cs.nr, by rw [L.ws]; exact (restOf_row hI.w).nr, by rw [L.fs]; exact hI.fs, hs⟩
      have h1 := L.len; have h2 := hI.c2
      simp only [List.length_cons] at h1
      omega
    refine (gets_run (t := t) (n := n) hG hw).mono ?_
    rintro r ⟨h1, D', ec', ⟨rfl, st'', rfl, G⟩, ho⟩
    refine ⟨h1, _, _, ⟨rfl, st'', rfl, ?_⟩, ho⟩
    have E := G.eqs
    constructor
    · exact (congrArg St.wait E).trans L.wait
    · exact (congrArg St.now E).trans L.now
    · exact (congrArg St.reply E).trans L.reply
    · exact (congrArg St.harmed E).trans L.harmed
    · exact (congrArg St.count E).trans L.count
    · exact (congrArg St.cs E).trans L.cs
    · exact (congrArg St.ws E).trans L.ws
    · exact (congrArg St.fs E).trans L.fs
    · exact (congrArg St.pc E).trans L.pc
    · exact (congrArg St.ps E).trans L.ps
    · have := G.ei.1
      rw [L.now, L.wait] at this
      exact this
    · exact fun y h => L.rows y (List.mem_cons_of_mem _ h)
    · have h1 := G.ei.2; have h2 := L.len
      simp only [List.length_cons] at h2
      omega
    · intro h
      have := (L.nodue h).1
      cases this
  · intro w ce D ec env H U hP
    obtain ⟨_, st', _, L⟩ := hP
    exact absurd (L.rows y List.mem_cons_self) hy
noncomputable def dx_s1 : D := .done
theorem treex_s1 (O : Ops) (P : Fl × AEnv × HS → Prop) (wait now reply newest harmed count rh sh pc : Int) (cs ws fs kn : List AV) (wh en : AV) (act : Nat) (tl : HS) (el : Option El) (came went : Nat → Option Int) (seen ps : List Int) (t : Int) :
    allD (execS (OR O) (callN (OR O) 11) s1P (ecP t) (encH ⟨wait, now, reply, newest, rh, sh, harmed, count, cs, ws, fs, came, went, seen, pc, ps, el⟩ wh en act kn tl)) dx_s1 P =
    (P (.next, [(104, (.ref 0)), (90, (.int t))], encH ⟨wait, t, reply, newest, rh, sh, harmed, count, cs, ws, fs, came, went, seen, pc, ps, el⟩ wh en act kn (tl))) := by kernel_rfl
theorem run_s1 {wait now reply newest harmed count rh sh pc : Int} {cs ws fs kn : List AV} {wh en : AV} {act : Nat} {tl : HS} {el : Option El} {came went : Nat → Option Int} {seen ps : List Int} {t : Int} {P : Fl × AEnv × HS → Prop}
  (hP : P (.next, [(104, (.ref 0)), (90, (.int t))], encH ⟨wait, t, reply, newest, rh, sh, harmed, count, cs, ws, fs, came, went, seen, pc, ps, el⟩ wh en act kn (tl))) :
    AllW (execS std (callN std 11) s1P (ecP t) (encH ⟨wait, now, reply, newest, rh, sh, harmed, count, cs, ws, fs, came, went, seen, pc, ps, el⟩ wh en act kn tl)) P := by
  refine AllW.ofTree (treex_s1 std _ wait now reply newest harmed count rh sh pc cs ws fs kn wh en act tl el came went seen ps t) ?_
  exact hP
theorem s1_run : ∀ {st : St} {t : Int} {wh en : AV} {act : Nat} {kn : List AV} {tl : HS} {P : Fl × AEnv × HS → Prop}, P (.next, ecP t, encH { st with now := t } wh en act kn tl) →
    AllW (execS std (callN std 11) s1P (ecP t) (encH st wh en act kn tl)) P
  | ⟨wait, now, reply, newest, rh, sh, harmed, count, cs, ws, fs, came, went, seen, pc, ps, el⟩, t, wh, en, act, kn, tl, P, hP => run_s1 hP
theorem it_run {st : St} {t : Int} (hI : SInv st) (hn : st.now = t) : AllW (evalE std (callN std 11) itP (ecP t) (enc st)) (OutL (ecP t) (LI st t)) := by
  have e1 : evalE std (callN std 11) itP (ecP t) (enc st) = runF std (callN std 10) 295 [.ref 8, .int t] (enc st) := by
    simp only [itP, eE_loc, eE_cel, eE_glob, eE_int, eE_str, eE_bool, eE_none, eE_bin, eE_cmp, eE_isIn, eE_notIn, eE_isNone, eE_notNone, eE_and, eE_or, eE_not, eE_ife, eE_attr, eE_sub, eE_upto, eE_call, eE_meth, eE_b1, eE_max, eE_tup, eE_list, eE_dict, eE_comp, eE_compR, eE_junk]
    rfl
  rw [e1]
  have hw := hI.w
  refine ⟨arrived (i := 8) (d := 9) (k := 11) (kv := netKv st) rfl rfl rfl rfl hw (by have := hI.cnt; have := hI.c2; omega) fun ys hl hm => ?_⟩
  obtain ⟨rho, s1, s2, s3, s4⟩ := sub_w (t := t) (ys := ys) hI.ei hI.cs.nr hw.nr hI.fs
  have hr : ∀ y ∈ ys.map outOf, RowY y := fun y hy => by
    obtain ⟨v, hv, rfl⟩ := List.mem_map.1 hy
    exact outOf_row (hw.ok v (List.mem_filter.1 (hm v hv)).1)
  refine ⟨_, ys.map outOf, _, rho, rfl, HA_out, fun y hy => (hr y hy).nr, s1, s2, s3, s4, rfl, _, rfl, ?_⟩
  constructor
  any_goals rfl
  · exact hn
  · rw [← hn]; exact hI.ei
  · exact hr
  · have := due_rest t st.ws; have := hI.cnt
    simp only [List.length_map, hl]
    omega
  · intro h
    rw [h] at hl
    simp only [List.length_nil, List.length_eq_zero_iff] at hl
    exact ⟨by rw [hl]; rfl, rfl⟩
end Mine.R
end

section
set_option linter.all false
set_option bootstrap.genMatcherCode false
namespace Mine.R
structure PP (st : St) (t : Int) (st' : St) : Prop where
  wait : st'.wait = st.wait
  now : st'.now = t
  reply : st'.reply = st.reply
  harmed : st'.harmed = st.harmed
  count : st'.count = st.count
  cs : st'.cs = st.cs
  ws : st'.ws = restOf t st.ws
  fs : st'.fs = st.fs
  pc : st'.pc = st.pc
  ps : st'.ps = st.ps
  inv : SInv st'
  en : endOf st'.el = none ∨ ∃ e, endOf st'.el = some e ∧ t < e ∧ (dueOf t st.ws = [] → endOf st.el = some e)
theorem SInv.now {st : St} {t : Int} (h : SInv st) (k : st.now ≤ t) : SInv { st with now := t } where
  cs := h.cs
  fs := h.fs
  w := ⟨fun v hv => by
    obtain ⟨a, o, y, n, s, h1, h2, h3, h4⟩ := h.w.ok v hv
    exact ⟨a, o, y, n, s, h1, by show a ≤ t + 30; omega, h3, h4⟩, h.w.nd⟩
  cnt := h.cnt
  c2 := h.c2
  ei := h.ei.mono k
theorem rest_good (t : Int) : GoodX (execB std (callN std 11) restP) := fun e k => sSs (callN_x 11) restP e k
theorem passes_HT {st : St} {t : Int} (h0 : SInv st) (hn : st.now ≤ t) :
    HT (execB std (callN std 11) b_law_passes) (.ret (.bool true)) (fun D ec => D = enc st ∧ ec = ecP t) (fun D' _ => ∃ st', D' = enc st' ∧ PP st t st') := by
  have hI := h0.now hn
  rw [passes_eq]
  refine HT.cons (R := fun D ec => D = enc { st with now := t } ∧ ec = ecP t) ?_ (HT.cons (R := LI { st with now := t } t []) ?_ ?_)
  · refine HT.run (fun e k => sS (callN_x 11) s1P e k) .next ?_
    rintro D ec ⟨rfl, rfl⟩
    exact s1_run ⟨rfl, _, _, ⟨rfl, rfl⟩, rfl, .inl ⟨rfl, .cons rfl (.ref rfl) (.cons rfl (.int _) .nil)⟩⟩
  · refine HT.forL (callN_x 11) (x := xP) (fun y env H => rfl) ?_ (fun y ys => step hI)
    rintro D ec ⟨rfl, rfl⟩
    exact ⟨ecP t, .cons rfl (.ref rfl) (.cons rfl (.int _) .nil), it_run hI rfl⟩
  · refine HT.run (rest_good t) (.bool true) ?_
    rintro D ec ⟨rfl, st', rfl, L⟩
    have hw : WInv (t + 30) st.count (restOf t st.ws) := restOf_row hI.w
    have := rest_run (st := st') (t := t) (by rw [L.now, L.wait]; exact L.ei) (by rw [L.cs]; exact hI.cs.nr) (by rw [L.ws]; exact hw.nr) (by rw [L.fs]; exact hI.fs)
    refine this.mono ?_
    rintro r ⟨h1, D', ec', ⟨rfl, st'', rfl, G⟩, ho⟩
    refine ⟨h1, _, _, ⟨st'', rfl, ?_⟩, ho⟩
    have E := G.eqs
    have e1 : st''.wait = st.wait := (congrArg St.wait E).trans L.wait
    have e2 : st''.now = t := (congrArg St.now E).trans L.now
    have e3 : st''.count = st.count := (congrArg St.count E).trans L.count
    have e4 : st''.cs = st.cs := (congrArg St.cs E).trans L.cs
    have e5 : st''.ws = restOf t st.ws := (congrArg St.ws E).trans L.ws
    have e6 : st''.fs = st.fs := (congrArg St.fs E).trans L.fs
    have e7 : st''.seen = st'.seen := (congrArg St.seen E).trans rfl
    have e8 : st''.came = st'.came := (congrArg St.came E).trans rfl
    have e9 : st''.went = st'.went := (congrArg St.went E).trans rfl
    constructor
    · exact e1
    · exact e2
    · exact (congrArg St.reply E).trans L.reply
    · exact (congrArg St.harmed E).trans L.harmed
    · exact e3
    · exact e4
    · exact e5
    · exact e6
    · exact (congrArg St.pc E).trans L.pc
    · exact (congrArg St.ps E).trans L.ps
    · constructor
      · rw [e4]; exact hI.cs
      · rw [e6]; exact hI.fs
      · rw [e2, e3, e5]; exact hw
      · rw [e7, e5, e3]
        have := L.len
        simp only [List.length_nil] at this
        omega
      · rw [e3]; exact hI.c2
      · have := G.ei.1
        rw [L.now, L.wait] at this
        rw [e2, e1, e8, e9]
        exact this
    · rcases G.ei.2 with h | ⟨e, h2, h3, h4⟩
      · exact .inl h
      · refine .inr ⟨e, h2, h4, fun hd => ?_⟩
        have := (L.nodue hd).2
        rw [this] at h3
        exact h3
theorem passes_call {st : St} {t : Int} {w ce : Nat} {H : HS} {U : Nat → Prop} (h0 : SInv st) (hn : st.now ≤ t) (hH : Held (enc st) w ce H U) :
    (callN std 12 330 [.ref w, .int t] H).All fun r => r.1 = .bool true ∧ ∃ st' U', Held (enc st') w ce r.2 U' ∧ Frd U H U' r.2 ∧ PP st t st' := by
  have hf : find 330 fnTab = some ⟨[104, 90], [], b_law_passes⟩ := rfl
  show (runF std (callN std 11) 330 [.ref w, .int t] H).All _
  unfold runF
  rw [hf]
  show ((execB std (callN std 11) b_law_passes [(104, .ref w), (90, .int t)] H).bind _).All _
  refine T.all_bind.2 (T.All.mono ?_ (passes_HT h0 hn w ce (enc st) (ecP t) [(104, .ref w), (90, .int t)] H U ⟨rfl, rfl⟩ hH ?_))
  · rintro ⟨f, env, H'⟩ ⟨h1, D', ec', U', ⟨st', rfl, h2⟩, h3, h4, h5⟩
    dsimp only at h1
    subst h1
    exact ⟨rfl, st', U', h3, h5, h2⟩
  · exact Exs.ex (.cons rfl (.ref (.inl ⟨rfl, rfl⟩)) (.cons rfl (.int _) .nil))
end Mine.R
end

section
set_option linter.all false
set_option bootstrap.genMatcherCode false
namespace Mine.R
noncomputable def C1 (c : Int) (ps : List Int) (tl : HS) : HS := .cell (some (.ref 1)) :: .list [.ref 2, .int c] :: .ilist ps :: tl
noncomputable def dd_enc : D := (.sym .done (.lit true .done))
theorem treed_enc (O : Ops) (P : AV × HS → Prop) (m wait now reply newest harmed count rh sh pc : Int) (cs ws fs kn : List AV) (wh en : AV) (act : Nat) (tl : HS) (el : Option El) (came went : Nat → Option Int) (seen ps : List Int) :
    allD (callN O 12 309 [.ref 17, .int m] (encH ⟨wait, now, reply, newest, rh, sh, harmed, count, cs, ws, fs, came, went, seen, pc, ps, el⟩ wh en act kn tl)) dd_enc P =
    ((inB 1 2) ∧
    ((inB 1 2) ∧
    ((inB 1 2) ∧
    ((inB 0 2) ∧
    ((((List.length ps) < 1048576)) ∧
    (((O.le (O.add pc 1) (O.ilen ps)) = true → ((inB 0 2) ∧
    ((inB 1 2) ∧
    ((inB (O.sub (O.add pc 1) 1) (List.length ps)) ∧
    ((((m : Int) ≠ 0)) ∧
    (P ((.int (O.mod (O.abs (O.ign ps (O.sub (O.add pc 1) 1))) m)), encH ⟨wait, now, reply, newest, rh, sh, harmed, count, cs, ws, fs, came, went, seen, (O.add pc 1), ps, el⟩ wh en act kn (tl)))))))) ∧
    ((O.le (O.add pc 1) (O.ilen ps)) = false → ((inB 1 2) ∧
    (true = true ∧ (((((4 : Int) ≠ 0) ∧ ((((-1000000) : Int) < 4) ∧ ((4 : Int) < 1000000)))) ∧
    ((((m : Int) ≠ 0)) ∧
    (P ((.int (O.mod (O.add (O.add (O.mul 5 (O.sub (O.add pc 1) 1)) (O.fdiv (O.sub (O.add pc 1) 1) 4)) 1) m)), encH ⟨wait, now, reply, newest, rh, sh, harmed, count, cs, ws, fs, came, went, seen, (O.add pc 1), ps, el⟩ wh en act kn (tl)))))))))))))) := by kernel_rfl
theorem draw_enc {m wait now reply newest harmed count rh sh pc : Int} {cs ws fs kn : List AV} {wh en : AV} {act : Nat} {tl : HS} {el : Option El} {came went : Nat → Option Int} {seen ps : List Int} {P : AV × HS → Prop} (hm : m ≠ 0) (hl : ps.length < 2 ^ 20) (hidx : std.le (std.add pc 1) (std.ilen ps) = true → inB (std.sub (std.add pc 1) 1) ps.length)
  (hP1 : P ((.int (std.mod (std.abs (std.ign ps (std.sub (std.add pc 1) 1))) m)), encH ⟨wait, now, reply, newest, rh, sh, harmed, count, cs, ws, fs, came, went, seen, (std.add pc 1), ps, el⟩ wh en act kn (tl))) (hP2 : P ((.int (std.mod (std.add (std.add (std.mul 5 (std.sub (std.add pc 1) 1)) (std.fdiv (std.sub (std.add pc 1) 1) 4)) 1) m)), encH ⟨wait, now, reply, newest, rh, sh, harmed, count, cs, ws, fs, came, went, seen, (std.add pc 1), ps, el⟩ wh en act kn (tl))) :
    AllW (callN std 12 309 [.ref 17, .int m] (encH ⟨wait, now, reply, newest, rh, sh, harmed, count, cs, ws, fs, came, went, seen, pc, ps, el⟩ wh en act kn tl)) P := by
  refine AllW.ofTree (treed_enc std _ m wait now reply newest harmed count rh sh pc cs ws fs kn wh en act tl el came went seen ps) ?_
  refine ⟨⟨by decide, by decide, by decide⟩, ⟨by decide, by decide, by decide⟩, ⟨by decide, by decide, by decide⟩, ⟨by decide, by decide, by decide⟩, hl, ?_⟩
  refine ⟨fun h1 => ?_, fun h1 => ?_⟩
  · refine ⟨⟨by decide, by decide, by decide⟩, ⟨by decide, by decide, by decide⟩, hidx h1, hm, ?_⟩
    exact hP1
  · refine ⟨⟨by decide, by decide, by decide⟩, rfl, ⟨by decide, ⟨by decide, by decide⟩⟩, hm, ?_⟩
    exact hP2
noncomputable def dd_c1 : D := (.sym .done (.lit true .done))
theorem treed_c1 (O : Ops) (P : AV × HS → Prop) (m c : Int) (ps : List Int) (tl : HS) :
    allD (callN O 12 309 [.ref 1, .int m] (C1 c ps tl)) dd_c1 P =
    ((inB 1 2) ∧
    ((inB 1 2) ∧
    ((inB 1 2) ∧
    ((inB 0 2) ∧
    ((((List.length ps) < 1048576)) ∧
    (((O.le (O.add c 1) (O.ilen ps)) = true → ((inB 0 2) ∧
    ((inB 1 2) ∧
    ((inB (O.sub (O.add c 1) 1) (List.length ps)) ∧
    ((((m : Int) ≠ 0)) ∧
    (P ((.int (O.mod (O.abs (O.ign ps (O.sub (O.add c 1) 1))) m)), ((.cell (some (.ref 1))) :: (.list [(.ref 2), (.int (O.add c 1))]) :: (.ilist ps) :: tl)))))))) ∧
    ((O.le (O.add c 1) (O.ilen ps)) = false → ((inB 1 2) ∧
    (true = true ∧ (((((4 : Int) ≠ 0) ∧ ((((-1000000) : Int) < 4) ∧ ((4 : Int) < 1000000)))) ∧
    ((((m : Int) ≠ 0)) ∧
    (P ((.int (O.mod (O.add (O.add (O.mul 5 (O.sub (O.add c 1) 1)) (O.fdiv (O.sub (O.add c 1) 1) 4)) 1) m)), ((.cell (some (.ref 1))) :: (.list [(.ref 2), (.int (O.add c 1))]) :: (.ilist ps) :: tl)))))))))))))) := by kernel_rfl
theorem draw_c1 {m c : Int} {ps : List Int} {tl : HS} {P : AV × HS → Prop} (hm : m ≠ 0) (hl : ps.length < 2 ^ 20) (hidx : std.le (std.add c 1) (std.ilen ps) = true → inB (std.sub (std.add c 1) 1) ps.length)
  (hP1 : P ((.int (std.mod (std.abs (std.ign ps (std.sub (std.add c 1) 1))) m)), ((.cell (some (.ref 1))) :: (.list [(.ref 2), (.int (std.add c 1))]) :: (.ilist ps) :: tl))) (hP2 : P ((.int (std.mod (std.add (std.add (std.mul 5 (std.sub (std.add c 1) 1)) (std.fdiv (std.sub (std.add c 1) 1) 4)) 1) m)), ((.cell (some (.ref 1))) :: (.list [(.ref 2), (.int (std.add c 1))]) :: (.ilist ps) :: tl))) :
    AllW (callN std 12 309 [.ref 1, .int m] (C1 c ps tl)) P := by
  refine AllW.ofTree (treed_c1 std _ m c ps tl) ?_
  refine ⟨⟨by decide, by decide, by decide⟩, ⟨by decide, by decide, by decide⟩, ⟨by decide, by decide, by decide⟩, ⟨by decide, by decide, by decide⟩, hl, ?_⟩
  refine ⟨fun h1 => ?_, fun h1 => ?_⟩
  · refine ⟨⟨by decide, by decide, by decide⟩, ⟨by decide, by decide, by decide⟩, hidx h1, hm, ?_⟩
    exact hP1
  · refine ⟨⟨by decide, by decide, by decide⟩, rfl, ⟨by decide, ⟨by decide, by decide⟩⟩, hm, ?_⟩
    exact hP2
end Mine.R
end

section
set_option linter.all false
set_option bootstrap.genMatcherCode false
namespace Mine.R
theorem fm0 {a m : Int} (h : 0 < m) : 0 ≤ a.fmod m := Int.fmod_nonneg_of_pos a h
theorem fm1 {a m : Int} (h : 0 < m) : a.fmod m < m := Int.fmod_lt_of_pos a h
theorem idx_std {c : Int} {ps : List Int} (h : 0 ≤ c) (hl : ps.length < 1000) (hb : std.le (std.add c 1) (std.ilen ps) = true) : inB (std.sub (std.add c 1) 1) ps.length := by
  have q : c + 1 ≤ ps.length := of_decide_eq_true hb
  simp only [std, inB]
  omega
theorem draw1 {c m : Int} {ps : List Int} {tl : HS} {P : AV × HS → Prop} (hm : 0 < m) (hp : 0 ≤ c) (hl : ps.length < 1000) (hP : ∀ x, 0 ≤ x → x < m → P (.int x, C1 (c + 1) ps tl)) :
    AllW (callN std 12 309 [.ref 1, .int m] (C1 c ps tl)) P :=
  draw_c1 (by omega) (Nat.lt_trans hl (by decide)) (idx_std hp hl)
    (hP _ (fm0 hm) (fm1 hm)) (hP _ (fm0 hm) (fm1 hm))
theorem draw2 : ∀ {st : St} {wh en : AV} {act : Nat} {kn : List AV} {tl : HS} {m : Int} {P : AV × HS → Prop}, 0 < m → 0 ≤ st.pc → st.ps.length < 1000 → (∀ x, 0 ≤ x → x < m → P (.int x, encH { st with pc := st.pc + 1 } wh en act kn tl)) →
    AllW (callN std 12 309 [.ref 17, .int m] (encH st wh en act kn tl)) P
  | ⟨wait, now, reply, newest, rh, sh, harmed, count, cs, ws, fs, came, went, seen, pc, ps, el⟩, wh, en, act, kn, tl, m, P, hm, hp, hl, hP =>
    draw_enc (by omega) (Nat.lt_trans hl (by decide)) (idx_std hp hl)
      (hP _ (fm0 hm) (fm1 hm)) (hP _ (fm0 hm) (fm1 hm))
section
variable {cf : CF} {env : AEnv} {H : HS}
theorem W_leaf {α : Type} {a : α} {P : α → Prop} (h : P a) : AllW (.leaf a) P := ⟨h⟩
theorem W_ck {α : Type} {p : Prop} {t : T α} {P : α → Prop} (h : p) (k : AllW t P) : AllW (.ck p t) P := ⟨⟨h, k.w⟩⟩
theorem W_bind {α β : Type} {t : T α} {f : α → T β} {P : β → Prop} (h : AllW t fun a => AllW (f a) P) : AllW (t.bind f) P := ⟨T.all_bind.2 (T.All.mono (fun a h => h.w) h.w)⟩
theorem W_of {α : Type} {t t' : T α} {P : α → Prop} (e : t = t') (h : AllW t' P) : AllW t P := e ▸ h
theorem eBin {o a b} : evalE std cf (.bin o a b) env H = (evalE std cf a env H).bind fun p => (evalE std cf b env p.2).bind fun q => (binop std o p.1 q.1).bind fun v => .leaf (v, q.2) := by simp only [eE_loc, eE_cel, eE_glob, eE_int, eE_str, eE_bool, eE_none, eE_bin, eE_cmp, eE_isIn, eE_notIn, eE_isNone, eE_notNone, eE_and, eE_or, eE_not, eE_ife, eE_attr, eE_sub, eE_upto, eE_call, eE_meth, eE_b1, eE_max, eE_tup, eE_list, eE_dict, eE_comp, eE_compR, eE_junk]
theorem eInt {i} : evalE std cf (.int i) env H = .leaf (.int i, H) := by simp only [eE_loc, eE_cel, eE_glob, eE_int, eE_str, eE_bool, eE_none, eE_bin, eE_cmp, eE_isIn, eE_notIn, eE_isNone, eE_notNone, eE_and, eE_or, eE_not, eE_ife, eE_attr, eE_sub, eE_upto, eE_call, eE_meth, eE_b1, eE_max, eE_tup, eE_list, eE_dict, eE_comp, eE_compR, eE_junk]
theorem eStr {i} : evalE std cf (.str i) env H = .leaf (.str i, H) := by simp only [eE_loc, eE_cel, eE_glob, eE_int, eE_str, eE_bool, eE_none, eE_bin, eE_cmp, eE_isIn, eE_notIn, eE_isNone, eE_notNone, eE_and, eE_or, eE_not, eE_ife, eE_attr, eE_sub, eE_upto, eE_call, eE_meth, eE_b1, eE_max, eE_tup, eE_list, eE_dict, eE_comp, eE_compR, eE_junk]
theorem eTup {as} : evalE std cf (.tup as) env H = (evalEs std cf as env H).bind fun p => .leaf (.tup p.1, p.2) := by simp only [eE_loc, eE_cel, eE_glob, eE_int, eE_str, eE_bool, eE_none, eE_bin, eE_cmp, eE_isIn, eE_notIn, eE_isNone, eE_notNone, eE_and, eE_or, eE_not, eE_ife, eE_attr, eE_sub, eE_upto, eE_call, eE_meth, eE_b1, eE_max, eE_tup, eE_list, eE_dict, eE_comp, eE_compR, eE_junk]
theorem eList {as} : evalE std cf (.list as) env H = (evalEs std cf as env H).bind fun p => .leaf (.ref (hlen p.2), hnew p.2 (.list p.1)) := by simp only [eE_loc, eE_cel, eE_glob, eE_int, eE_str, eE_bool, eE_none, eE_bin, eE_cmp, eE_isIn, eE_notIn, eE_isNone, eE_notNone, eE_and, eE_or, eE_not, eE_ife, eE_attr, eE_sub, eE_upto, eE_call, eE_meth, eE_b1, eE_max, eE_tup, eE_list, eE_dict, eE_comp, eE_compR, eE_junk]
theorem eB1 {f a} : evalE std cf (.b1 f a) env H = (evalE std cf a env H).bind fun p => app1 std f p.1 p.2 := by simp only [eE_loc, eE_cel, eE_glob, eE_int, eE_str, eE_bool, eE_none, eE_bin, eE_cmp, eE_isIn, eE_notIn, eE_isNone, eE_notNone, eE_and, eE_or, eE_not, eE_ife, eE_attr, eE_sub, eE_upto, eE_call, eE_meth, eE_b1, eE_max, eE_tup, eE_list, eE_dict, eE_comp, eE_compR, eE_junk]
theorem eCons {a r} : evalEs std cf (.cons a r) env H = (evalE std cf a env H).bind fun p => (evalEs std cf r env p.2).bind fun q => .leaf (p.1 :: q.1, q.2) := by simp only [eL_nil, eL_cons]
theorem W_loc {x v} {P : AV × HS → Prop} (h : lk x env = some v) (p : P (v, H)) : AllW (evalE std cf (.loc x) env H) P := by
  refine W_of (t' := .leaf (v, H)) ?_ ⟨p⟩
  simp only [eE_loc, eE_cel, eE_glob, eE_int, eE_str, eE_bool, eE_none, eE_bin, eE_cmp, eE_isIn, eE_notIn, eE_isNone, eE_notNone, eE_and, eE_or, eE_not, eE_ife, eE_attr, eE_sub, eE_upto, eE_call, eE_meth, eE_b1, eE_max, eE_tup, eE_list, eE_dict, eE_comp, eE_compR, eE_junk, h, opt]
theorem W_int {i} {P : AV × HS → Prop} (p : P (.int i, H)) : AllW (evalE std cf (.int i) env H) P := by
  exact W_of eInt ⟨p⟩
theorem W_str {i} {P : AV × HS → Prop} (p : P (.str i, H)) : AllW (evalE std cf (.str i) env H) P := by
  exact W_of eStr ⟨p⟩
theorem W_add {a b} {P : AV × HS → Prop} (h : AllW (evalE std cf a env H) fun p => ∃ x, p.1 = .int x ∧ AllW (evalE std cf b env p.2) fun q => ∃ y, q.1 = .int y ∧ P (.int (x + y), q.2)) :
    AllW (evalE std cf (.bin .add a b) env H) P := by
  refine W_of eBin (W_bind (h.mono ?_))
  rintro ⟨p, Hp⟩ ⟨x, rfl, h⟩
  refine W_bind (h.mono ?_)
  rintro ⟨q, Hq⟩ ⟨y, rfl, h⟩
  exact ⟨h⟩
theorem W_mul {k b} {P : AV × HS → Prop} (hk : small k = true) (h : AllW (evalE std cf b env H) fun q => ∃ y, q.1 = .int y ∧ P (.int (k * y), q.2)) :
    AllW (evalE std cf (.bin .mul (.int k) b) env H) P := by
  refine W_of eBin (W_bind (W_of eInt ⟨?_⟩))
  refine W_bind (h.mono ?_)
  rintro ⟨q, Hq⟩ ⟨y, rfl, h⟩
  refine ⟨?_⟩
  simp only [binop, T.all_bind]
  show (match small k with | true => _ | false => _)
  rw [hk]
  exact h
theorem W_get {x k j kv v} {P : AV × HS → Prop} (h : lk x env = some (.ref j)) (hj : hget H j = some (.rc kv)) (hk : lk k kv = some v) (p : P (v, H)) : AllW (evalE std cf (.sub (.loc x) (.str k)) env H) P := by
  refine W_of (t' := .leaf (v, H)) ?_ ⟨p⟩
  simp only [eE_loc, eE_cel, eE_glob, eE_int, eE_str, eE_bool, eE_none, eE_bin, eE_cmp, eE_isIn, eE_notIn, eE_isNone, eE_notNone, eE_and, eE_or, eE_not, eE_ife, eE_attr, eE_sub, eE_upto, eE_call, eE_meth, eE_b1, eE_max, eE_tup, eE_list, eE_dict, eE_comp, eE_compR, eE_junk, h, opt, T.bind, subV, hj, hk]
theorem W_nil {P : List AV × HS → Prop} (p : P ([], H)) : AllW (evalEs std cf .nil env H) P := by
  refine W_of (t' := .leaf ([], H)) ?_ ⟨p⟩
  simp only [eL_nil, eL_cons]
theorem W_cons {a r} {P : List AV × HS → Prop} (h : AllW (evalE std cf a env H) fun p => AllW (evalEs std cf r env p.2) fun q => P (p.1 :: q.1, q.2)) : AllW (evalEs std cf (.cons a r) env H) P := by
  refine W_of eCons (W_bind (h.mono ?_))
  intro p h
  exact W_bind (h.mono fun q h => W_leaf h)
theorem W_tup {as} {P : AV × HS → Prop} (h : AllW (evalEs std cf as env H) fun q => P (.tup q.1, q.2)) : AllW (evalE std cf (.tup as) env H) P := by
  exact W_of eTup (W_bind (h.mono fun q h => W_leaf h))
theorem W_list {as} {P : AV × HS → Prop} (h : AllW (evalEs std cf as env H) fun q => P (.ref (hlen q.2), hnew q.2 (.list q.1))) : AllW (evalE std cf (.list as) env H) P := by
  exact W_of eList (W_bind (h.mono fun q h => W_leaf h))
theorem W_bytes {as} {P : AV × HS → Prop} (h : AllW (evalEs std cf as env H) fun q => ∃ ns, q.1 = ns.map .int ∧ bytesOk ns ∧ ns.length < 100 ∧ P (.bytes ns, hnew q.2 (.list q.1))) :
    AllW (evalE std cf (.b1 .bytes (.list as)) env H) P := by
  refine W_of eB1 (W_bind (W_of eList (W_bind (h.mono ?_))))
  rintro ⟨vs, H'⟩ ⟨ns, rfl, h1, h2, h3⟩
  refine ⟨?_⟩
  refine ⟨?_⟩
  simp only [app1, hget_hnew_last, allInts_map, opt]
  exact ⟨⟨h1, h2⟩, h3⟩
noncomputable def dE (m : Int) : E := .call (.glob 114) (.cons (.cel 101) (.cons (.int m) .nil))
theorem call_draw {c p m} (h : lk 101 env = some (.ref c)) (hc : hget H c = some (.cell (some (.ref p)))) : evalE std cf (dE m) env H = cf 309 [.ref p, .int m] H := by
  have hg : lk 114 globTab = some (.glob 309) := rfl
  simp only [dE, eE_loc, eE_cel, eE_glob, eE_int, eE_str, eE_bool, eE_none, eE_bin, eE_cmp, eE_isIn, eE_notIn, eE_isNone, eE_notNone, eE_and, eE_or, eE_not, eE_ife, eE_attr, eE_sub, eE_upto, eE_call, eE_meth, eE_b1, eE_max, eE_tup, eE_list, eE_dict, eE_comp, eE_compR, eE_junk, eL_nil, eL_cons, h, hg, opt, T.bind, hc]
  rfl
end
theorem W_draw1 {env : AEnv} {c m : Int} {ps : List Int} {tl : HS} {P : AV × HS → Prop} (h : lk 101 env = some (.ref 0)) (hm : 0 < m) (hp : 0 ≤ c) (hl : ps.length < 1000) (hP : ∀ x, 0 ≤ x → x < m → P (.int x, C1 (c + 1) ps tl)) :
    AllW (evalE std (callN std 12) (dE m) env (C1 c ps tl)) P := W_of (call_draw h rfl) (draw1 hm hp hl hP)
theorem W_draw2 {env : AEnv} {st : St} {wh en : AV} {act : Nat} {kn : List AV} {tl : HS} {m : Int} {P : AV × HS → Prop} (h : lk 101 env = some (.ref 16)) (hm : 0 < m) (hp : 0 ≤ st.pc) (hl : st.ps.length < 1000) (hP : ∀ x, 0 ≤ x → x < m → P (.int x, encH { st with pc := st.pc + 1 } wh en act kn tl)) :
    AllW (evalE std (callN std 12) (dE m) env (encH st wh en act kn tl)) P := W_of (call_draw h rfl) (draw2 hm hp hl hP)
end Mine.R
end

section
set_option linter.all false
set_option bootstrap.genMatcherCode false
namespace Mine.R
theorem held_id {w ce H W W' C' H'} {U : Nat → Prop} (hW : W 0 w) (hc : W 16 ce) (hU : ∀ i j, W i j → U j) (x : Ext W H W' C' H') : ∃ U', Held C' w ce H' U' ∧ Frd U H U' H' :=
  ⟨fun j => ∃ i, W' i j, ⟨W', x.emb, x.le _ _ hW, x.le _ _ hc, fun i j h => ⟨i, h⟩⟩, ⟨fun j ⟨i, h⟩ => (x.new i j h).imp (hU i j) id, fun j h n => x.frm j h fun i w => n (hU i j w), x.len⟩⟩
theorem HT.bind1 {x : Nat} {y : AV} {b : Xn} {fl} {P Q : HS → AEnv → Prop} (hy : NRv y) (h : HT b fl (fun D ec => ∃ ec0, ec = put x y ec0 ∧ P D ec0) Q) :
    HT (fun env H => opt (bindXs [x] false y env) fun env' => b env' H) fl P Q := fun w ce D ec env H U hP hH hE =>
  h w ce D (put x y ec) (put x y env) H U ⟨ec, rfl, hP⟩ hH (hE.put ((hy _ _).2 rfl))
theorem HT.weak {x : Xn} {fl} {P P' Q : HS → AEnv → Prop} (h : HT x fl P Q) (k : ∀ D ec, P' D ec → ∃ ec2, P D ec2 ∧ Exs (fun i j => i = j) ec ec2) : HT x fl P' Q := fun w ce D ec env H U hP hH hE => by
  obtain ⟨ec2, h2, h3⟩ := k D ec hP
  exact h w ce D ec2 env H U h2 hH (EX.eqR h3.ex hE)
theorem HT.forR {cf : CF} (g : GoodCF cf) {x : Nat} {n : E} {body : Ss} {P : HS → AEnv → Prop} {I : List AV → HS → AEnv → Prop} {xx : AV → Xn}
    (hx : ∀ y env H, xx y env H = opt (bindXs [x] false y env) fun env' => execB std cf body env' H)
    (hi : ∀ D ec, P D ec → AllW (evalE std cf n ec D) fun r => ∃ k, r.1 = .int k ∧ 0 ≤ k ∧ k < 2 ^ 20 ∧ I (upTo k.toNat 0) r.2 ec) (hb : ∀ y ys, HT (xx y) .next (I (y :: ys)) (I ys)) : HT (execS std cf (.forR x n body)) .next P (I []) := by
  intro w ce D ec env H U hP ⟨W, e, hW, hc, hU⟩ hE
  simp only [eS_assign, eS_augLoc, eS_augAttr, eS_expr, eS_ret, eS_ife, eS_forL, eS_forR, eS_junk]
  have hE' := EX.mono (Rel.le hW hc) hE
  refine T.all_bind.2 (T.All.mono ?_ (transE g e hE' (hi D ec hP).w))
  rintro ⟨v, H1⟩ ⟨⟨q1, q2⟩, W1, ⟨k, h1, h2, h3, h4⟩, x1, v1⟩
  dsimp only at h1 x1 v1 h4 ⊢
  subst h1
  cases v1
  obtain ⟨U', hH, hF⟩ := held_id hW hc hU x1
  refine ⟨⟨h2, h3⟩, T.All.mono ?_ (loopS hx hb _ w ce q2 ec env H1 U' h4 hH hE)⟩
  rintro r ⟨r1, D2, ec2, U2, r2, r3, r4, r5⟩
  exact ⟨r1, D2, ec2, U2, r2, r3, r4, hF.trans r5⟩
noncomputable def pBody (as : Es) : Ss := .cons (.ife (.not (.call (.glob 121) as)) (.cons (.ret (.bool false)) .nil) .nil) .nil
theorem HT.pcall {as : Es} {P Q : HS → AEnv → Prop}
    (hP : ∀ D ec, P D ec → AllW (evalEs std (callN std 12) as ec D) fun r => ∃ t st1, r.1 = [.ref 0, .int t] ∧ r.2 = enc st1 ∧ SInv st1 ∧ st1.now ≤ t ∧ ∀ st', PP st1 t st' → Q (enc st') ec) :
    HT (execB std (callN std 12) (pBody as)) .next P Q := by
  intro w ce D ec env H U hP0 ⟨W, e, hW, hc, hU⟩ hE
  have hg : lk 121 globTab = some (.glob 330) := rfl
  simp only [pBody, eB_nil, eB_cons, eS_assign, eS_augLoc, eS_augAttr, eS_expr, eS_ret, eS_ife, eS_forL, eS_forR, eS_junk, eT_not, eT_and, eT_or, eT_cmp, eT_isIn, eT_notIn, eT_isNone, eT_notNone, eT_loc, eT_call, eT_meth, eT_attr, eT_cel, eT_glob, eT_int, eT_str, eT_bool, eT_none, eT_bin, eT_ife, eT_sub, eT_upto, eT_b1, eT_max, eT_tup, eT_list, eT_dict, eT_comp, eT_compR, eT_junk, eE_loc, eE_cel, eE_glob, eE_int, eE_str, eE_bool, eE_none, eE_bin, eE_cmp, eE_isIn, eE_notIn, eE_isNone, eE_notNone, eE_and, eE_or, eE_not, eE_ife, eE_attr, eE_sub, eE_upto, eE_call, eE_meth, eE_b1, eE_max, eE_tup, eE_list, eE_dict, eE_comp, eE_compR, eE_junk, hg, opt, T.bind, T.all_bind]
  have hE' := EX.mono (Rel.le hW hc) hE
  refine T.All.mono ?_ (transEs (callN_x 12) e hE' (hP D ec hP0).w)
  rintro ⟨vs, H1⟩ ⟨⟨q1, q2⟩, W1, ⟨t, st1, h1, h2, h3, h4, h5⟩, x1, v1⟩
  dsimp only at h1 h2 x1 v1 ⊢
  subst h1; subst h2
  cases v1 with
  | cons a r =>
    cases r with
    | cons b r =>
      cases r
      cases a with
      | ref w1 =>
        cases b
        have hw := (x1.emb.inj _ _ _ _ w1 (x1.le _ _ hW)).1 rfl
        subst hw
        obtain ⟨U', hH, hF⟩ := held_id hW hc hU x1
        show (callN std 12 330 [.ref _, .int t] H1).All _
        refine T.All.mono ?_ (passes_call h3 h4 hH)
        rintro ⟨v, H2⟩ ⟨rfl, st', U2, k1, k2, k3⟩
        exact ⟨rfl, enc st', ec, U2, h5 st' k3, k1, hE, hF.trans k2⟩
theorem hasL : ∀ {l : List Nat} {b d : Nat}, l.all (fun x => decide (x < b)) = true → b ≤ d → has d l = false
  | [], _, _, _, _ => rfl
  | a :: r, b, d, h, k => by
    simp only [List.all_cons, Bool.and_eq_true, decide_eq_true_eq] at h
    unfold has
    have : Nat.beq a d = false := by
      cases q : Nat.beq a d
      · rfl
      · have := Nat.eq_of_beq_eq_true q
        omega
    rw [this]
    exact hasL h.2 k
theorem a3_21 : 3 < 21 := by decide
theorem a20_21 : 20 < 21 := by decide
theorem sub_gb : ∀ {st : St} {ex : HS}, ElInv st.now st.wait st.came st.went st.el → NRl st.cs → NRl st.ws → NRl st.fs →
    ∃ rho, Sub (enc st) (encH st (whOf st.el) (enOf st.el) (actOf st.el) (knOf st.el) (tlOf st.el ++ ex)) rho ∧ nth? rho 0 = some 0 ∧ nth? rho 16 = some 16 ∧ ∀ d, hlen (enc st) ≤ d → has d rho = false
  | ⟨wait, now, reply, newest, rh, sh, harmed, count, cs, ws, fs, came, went, seen, pc, ps, none⟩, ex, h, h5, h6, h7 =>
    ⟨rho18, sub_no (NRv.str _) NRv.none a3_19 (fun R h => .cons (.ref (h 3 (by decide))) .nil) h5 h6 h7, rfl, rfl, fun d hd => hasL (l := rho18) (b := 19) (by decide) hd⟩
  | ⟨wait, now, reply, newest, rh, sh, harmed, count, cs, ws, fs, came, went, seen, pc, ps, some ⟨re, se, ch, .unp⟩⟩, ex, h, h5, h6, h7 =>
    ⟨rho21 21, sub_ch rho21_ (NRv.str _) NRv.none a3_21 (fun R h => .cons (.ref (h 3 (by decide))) (.cons (.ref (h 20 (by decide))) .nil)) h5 h6 h7 h.2.2.2.1 (NRv.str _) NRv.none rfl (by decide), rfl, rfl, fun d hd => hasL (l := rho21 21) (b := 22) (by decide) hd⟩
  | ⟨wait, now, reply, newest, rh, sh, harmed, count, cs, ws, fs, came, went, seen, pc, ps, some ⟨re, se, ch, .fai⟩⟩, ex, h, h5, h6, h7 =>
    ⟨rho21 21, sub_ch rho21_ (NRv.str _) NRv.none a3_21 (fun R h => .cons (.ref (h 3 (by decide))) (.cons (.ref (h 20 (by decide))) .nil)) h5 h6 h7 h.2.2.2.1 (NRv.str _) NRv.none rfl (by decide), rfl, rfl, fun d hd => hasL (l := rho21 21) (b := 22) (by decide) hd⟩
  | ⟨wait, now, reply, newest, rh, sh, harmed, count, cs, ws, fs, came, went, seen, pc, ps, some ⟨re, se, ch, .tryH e⟩⟩, ex, h, h5, h6, h7 =>
    ⟨rho21 21, sub_ch rho21_ (NRv.str _) (NRv.int _) a3_21 (fun R h => .cons (.ref (h 3 (by decide))) (.cons (.ref (h 20 (by decide))) .nil)) h5 h6 h7 h.2.2.2.1 (NRv.str _) (NRv.int _) rfl (by decide), rfl, rfl, fun d hd => hasL (l := rho21 21) (b := 22) (by decide) hd⟩
  | ⟨wait, now, reply, newest, rh, sh, harmed, count, cs, ws, fs, came, went, seen, pc, ps, some ⟨re, se, ch, .tryE e⟩⟩, ex, h, h5, h6, h7 =>
    ⟨rho21 21, sub_ch rho21_ (NRv.str _) (NRv.int _) a20_21 (fun R h => .cons (.ref (h 3 (by decide))) (.cons (.ref (h 20 (by decide))) .nil)) h5 h6 h7 h.2.2.2.1 (NRv.str _) (NRv.int _) rfl (by decide), rfl, rfl, fun d hd => hasL (l := rho21 21) (b := 22) (by decide) hd⟩
end Mine.R
end

section
set_option linter.all false
set_option bootstrap.genMatcherCode false
namespace Mine.R
noncomputable def ecL (wait : Int) : AEnv := [(104, .ref 0), (17, .int wait), (101, .ref 16)]
structure LW (wait : Int) (a b : Nat) (st : St) : Prop where
  inv : SInv st
  wt : st.wait = wait
  pc : 0 ≤ st.pc
  ps : st.ps.length < 1000
  cnt : st.count + a ≤ 40
  fsn : st.fs.length + b ≤ 40
  csn : st.cs.length < 100
theorem LW.nr {wait a b st} (h : LW wait a b st) : NRl st.cs ∧ NRl st.ws ∧ NRl st.fs := ⟨h.inv.cs.nr, h.inv.w.nr, h.inv.fs⟩
theorem LW.setpc {wait a b st c} (h : LW wait a b st) (hc : 0 ≤ c) : LW wait a b { st with pc := c } :=
  ⟨⟨h.inv.cs, h.inv.fs, h.inv.w, h.inv.cnt, h.inv.c2, h.inv.ei⟩, h.wt, hc, h.ps, h.cnt, h.fsn, h.csn⟩
noncomputable def b1S : S := .assign (.tup true [(.loc 56), (.loc 120)]) (.tup (.cons (.b1 .bytes (.list (.cons (.loc 70) (.cons (.bin .add (.int 40) (.bin .mul (.int 10) (dE 5))) .nil)))) (.cons (dE 3) .nil)))
noncomputable def it2 : E := .sub (.list (.cons (.list (.cons (.str 0) .nil)) (.cons (.list (.cons (.str 1) (.cons (.str 0) .nil))) (.cons (.list (.cons (.str 0) (.cons (.str 1) .nil))) .nil)))) (.loc 120)
noncomputable def as3 : Es := .cons (.loc 104) (.cons (.bin .add (.sub (.loc 104) (.str 18)) (dE 40)) .nil)
noncomputable def body8 : Ss := .cons b1S (.cons (.forL [105] false it2 bodyC) (pBody as3))
theorem hnew_enc {st wh en act kn tl x} : hnew (encH st wh en act kn tl) x = encH st wh en act kn (hnew tl x) := rfl
theorem hnew_app : ∀ {a : HS} {x}, hnew a x = a ++ [x]
  | [], _ => rfl
  | _ :: r, x => congrArg _ (hnew_app (a := r))
noncomputable def ec1 (wait j : Int) : AEnv := [(104, .ref 0), (17, .int wait), (101, .ref 16), (70, .int j)]
noncomputable def ec2 (wait n s x : Int) : AEnv := [(104, .ref 0), (17, .int wait), (101, .ref 16), (56, .bytes [n, s]), (120, .int x)]
theorem b1_HT {wait : Int} {a b : Nat} {j : Int} (h0 : 0 ≤ j) (h1 : j < 256) : HT (execS std (callN std 12) b1S) .next
    (fun D ec => ec = ec1 wait j ∧ ∃ st, D = enc st ∧ LW wait a b st)
    (fun D ec => ∃ n s x, ec = ec2 wait n s x ∧ 40 ≤ s ∧ 0 ≤ x ∧ x < 3 ∧ ∃ st, D = enc st ∧ LW wait a b st) := by
  refine HT.run (fun e k => sS (callN_x 12) b1S e k) .next ?_
  rintro D ec ⟨rfl, st, rfl, L⟩
  have e1 : execS std (callN std 12) b1S (ec1 wait j) (enc st) = (evalE std (callN std 12) (.tup (.cons (.b1 .bytes (.list (.cons (.loc 70) (.cons (.bin .add (.int 40) (.bin .mul (.int 10) (dE 5))) .nil)))) (.cons (dE 3) .nil))) (ec1 wait j) (enc st)).bind
      fun p => (asg std (callN std 12) (.tup true [(.loc 56), (.loc 120)]) p.1 (ec1 wait j) p.2).bind fun q => .leaf (.next, q.1, q.2) := by simp only [b1S, eS_assign, eS_augLoc, eS_augAttr, eS_expr, eS_ret, eS_ife, eS_forL, eS_forR, eS_junk]
  refine W_of e1 (W_bind (W_tup (W_cons (W_bytes (W_cons (W_loc rfl ?_))))))
  refine W_cons (W_add (W_int ⟨_, rfl, W_mul rfl (W_draw2 (tl := tlOf st.el) rfl (by decide) L.pc L.ps ?_)⟩))
  intro x hx0 hx1
  refine ⟨_, rfl, _, rfl, W_nil ⟨[j, 40 + 10 * x], rfl, ?_, by simp, ?_⟩⟩
  · intro n hn
    simp only [List.mem_cons, List.not_mem_nil, or_false] at hn
    rcases hn with rfl | rfl <;> omega
  · dsimp only
    rw [hnew_enc]
    refine W_cons (W_draw2 rfl (by decide) (by show 0 ≤ st.pc + 1; have := L.pc; omega) L.ps ?_)
    intro y hy0 hy1
    refine W_nil ?_
    have L' := (L.setpc (c := st.pc + 1 + 1) (by have := L.pc; omega))
    obtain ⟨rho, s1, s2, s3, s4⟩ := sub_gb (st := { st with pc := st.pc + 1 + 1 }) (ex := [.list [.int j, .int (40 + 10 * x)]]) L'.inv.ei L'.nr.1 L'.nr.2.1 L'.nr.2.2
    refine W_leaf ⟨rfl, _, _, ⟨j, 40 + 10 * x, y, rfl, by omega, hy0, hy1, _, rfl, L'⟩, rfl, .inr ⟨rho, ?_, s2, s3, ?_⟩⟩
    · dsimp only at s1 ⊢
      rw [hnew_app]
      exact s1
    · exact .cons rfl (.ref s2) (.cons rfl (.int _) (.cons rfl (.ref s3) (.cons rfl (.bytes _) (.cons rfl (.int _) .nil))))
end Mine.R
end

section
set_option linter.all false
set_option bootstrap.genMatcherCode false
namespace Mine.R
noncomputable def isWay (y : AV) : Prop := y = .str 0 ∨ y = .str 1
noncomputable def IC (wait n s : Int) (a b : Nat) (ys : List AV) (D : HS) (ec : AEnv) : Prop := ec = ecC wait n s ∧ 40 ≤ s ∧ (∀ y ∈ ys, isWay y) ∧ ∃ st, D = enc st ∧ LW wait (a + 2 * ys.length) (b + ys.length) st
noncomputable def xC (y : AV) : Xn := fun env H => opt (bindXs [105] false y env) fun env' => execB std (callN std 12) bodyC env' H
theorem carry_HT {wait n s : Int} {a b : Nat} (y : AV) (ys : List AV) : HT (xC y) .next (IC wait n s a b (y :: ys)) (IC wait n s a b ys) := by
  by_cases hy : isWay y
  · obtain ⟨w, rfl, hw⟩ : ∃ w, y = .str w ∧ (w = 0 ∨ w = 1) := by
      rcases hy with rfl | rfl
      · exact ⟨0, rfl, .inl rfl⟩
      · exact ⟨1, rfl, .inr rfl⟩
    refine HT.run (fun {W C H env env'} e k => Sim.opt (bindXs_x (.str w) k) fun en en' hen => sSs (callN_x 12) bodyC e hen) .next ?_
    rintro D ec ⟨rfl, hs, hys, st, rfl, L⟩
    have hwl : st.ws.length < 1000 := by have := L.inv.cnt; have := L.inv.c2; omega
    have hfl : st.fs.length < 1000 := by have := L.fsn; omega
    have hcl : st.cs.length < 1000 := by have := L.csn; omega
    have := carry_run (wh := whOf st.el) (en := enOf st.el) (act := actOf st.el) (kn := knOf st.el) (tl := tlOf st.el) (n := n) hw hs L.inv.w L.inv.cs L.inv.fs hfl hwl hcl
    rw [show ecC wait n s = ecC st.wait n s by rw [L.wt]]
    refine AllW.mono this ?_
    rintro r ⟨h1, D', ec', ⟨rfl, st', rfl, G⟩, ho⟩
    have E := G.eqs
    obtain ⟨g1, g2, g3, g4, g5, g6, g7⟩ := G.inv
    have hel : st'.el = st.el := (congrArg St.el E).trans rfl
    have hn : st'.now = st.now := (congrArg St.now E).trans rfl
    have hwt : st'.wait = st.wait := (congrArg St.wait E).trans rfl
    have hse : st'.seen = st.seen := (congrArg St.seen E).trans rfl
    have hca : st'.came = st.came := (congrArg St.came E).trans rfl
    have hwe : st'.went = st.went := (congrArg St.went E).trans rfl
    have hpc : st'.pc = st.pc := (congrArg St.pc E).trans rfl
    have hps : st'.ps = st.ps := (congrArg St.ps E).trans rfl
    have l1 := L.cnt; have l2 := L.fsn; have l3 := L.inv.cnt
    simp only [List.length_cons] at l1 l2
    refine ⟨h1, _, _, ⟨by rw [L.wt], hs, fun y h => hys y (List.mem_cons_of_mem _ h), st', by unfold enc; rw [hel], ?_⟩, ho⟩
    constructor
    · constructor
      · exact g6
      · exact g5
      · rw [hn]; exact g1
      · rw [hse]; omega
      · omega
      · rw [hn, hwt, hca, hwe, hel]; exact L.inv.ei
    · rw [hwt]; exact L.wt
    · rw [hpc]; exact L.pc
    · rw [hps]; exact L.ps
    · omega
    · omega
    · have := L.csn
      omega
  · intro w ce D ec env H U hP
    exact absurd (hP.2.2.1 y List.mem_cons_self) hy
end Mine.R
end

section
set_option linter.all false
set_option bootstrap.genMatcherCode false
namespace Mine.R
theorem eSub {cf : CF} {env : AEnv} {H : HS} {o i} : evalE std cf (.sub o i) env H = (evalE std cf o env H).bind fun p => (evalE std cf i env p.2).bind fun q => (subV std q.2 p.1 q.1).bind fun v => .leaf (v, q.2) := by simp only [eE_loc, eE_cel, eE_glob, eE_int, eE_str, eE_bool, eE_none, eE_bin, eE_cmp, eE_isIn, eE_notIn, eE_isNone, eE_notNone, eE_and, eE_or, eE_not, eE_ife, eE_attr, eE_sub, eE_upto, eE_call, eE_meth, eE_b1, eE_max, eE_tup, eE_list, eE_dict, eE_comp, eE_compR, eE_junk]
theorem hget_app : ∀ {a b : HS} {i}, hget (a ++ b) (hlen a + i) = hget b i
  | [], _, _ => by simp [hlen]
  | o :: r, b, i => by
    have := hget_app (a := r) (b := b) (i := i)
    simp only [hlen, List.cons_append]
    rw [show hlen r + 1 + i = (hlen r + i) + 1 by omega]
    exact this
theorem enc_app {st : St} {ex : HS} : encH st (whOf st.el) (enOf st.el) (actOf st.el) (knOf st.el) (tlOf st.el ++ ex) = enc st ++ ex := rfl
theorem it2_run {wait n s x : Int} {a b : Nat} {st : St} (hs : 40 ≤ s) (h0 : 0 ≤ x) (h1 : x < 3) (L : LW wait (a + 4) (b + 2) st) :
    AllW (evalE std (callN std 12) it2 (ec2 wait n s x) (enc st)) (OutL (ecC wait n s) (IC wait n s a b)) := by
  refine W_of eSub (W_bind (W_list (W_cons (W_list (W_cons (W_str (W_nil ?_)))))))
  refine W_cons (W_list (W_cons (W_str (W_cons (W_str (W_nil ?_))))))
  refine W_cons (W_list (W_cons (W_str (W_cons (W_str (W_nil ?_))))))
  refine W_nil (W_bind (W_loc (v := .int x) rfl (W_bind ?_)))
  dsimp only
  obtain ⟨rho, s1, s2, s3, s4⟩ := sub_gb (st := st) (ex := [.list [.str 0], .list [.str 1, .str 0], .list [.str 0, .str 1], .list [.ref (hlen (enc st)), .ref (hlen (enc st) + 1), .ref (hlen (enc st) + 1 + 1)]]) L.inv.ei L.nr.1 L.nr.2.1 L.nr.2.2
  simp only [hlen_hnew]
  simp only [hnew_app, List.append_assoc, List.cons_append, List.nil_append]
  generalize hG : enc st ++ [.list [.str 0], .list [.str 1, .str 0], .list [.str 0, .str 1], .list [.ref (hlen (enc st)), .ref (hlen (enc st) + 1), .ref (hlen (enc st) + 1 + 1)]] = G
  rw [enc_app, hG] at s1
  have hk : ∀ i o, hget [AO.list [.str 0], .list [.str 1, .str 0], .list [.str 0, .str 1], .list [.ref (hlen (enc st)), .ref (hlen (enc st) + 1), .ref (hlen (enc st) + 1 + 1)]] i = some o → hget G (hlen (enc st) + i) = some o := fun i o h => by
    rw [← hG, hget_app]; exact h
  have h3 := hk 3 _ rfl
  have fin : ∀ (i : Nat) (ys : List AV), hget G (hlen (enc st) + i) = some (.list ys) → ys.length ≤ 2 → (∀ y ∈ ys, isWay y) → OutL (ecC wait n s) (IC wait n s a b) (.ref (hlen (enc st) + i), G) := fun i ys hg hl hw => by
    refine ⟨_, ys, enc st, rho, rfl, hg, fun y hy => ?_, s1, s2, s3, s4 _ (by omega), rfl, hs, hw, st, rfl, ?_⟩
    · rcases hw y hy with rfl | rfl <;> exact .str _
    · exact ⟨L.inv, L.wt, L.pc, L.ps, by have := L.cnt; omega, by have := L.fsn; omega, L.csn⟩
  have w0 : isWay (.str 0) := .inl rfl
  have w1 : isWay (.str 1) := .inr rfl
  refine ⟨?_⟩
  rw [show hlen (enc st) + 1 + 1 + 1 = hlen (enc st) + 3 from rfl]
  simp only [subV, h3]
  refine ⟨⟨h0, by simp; omega, by omega⟩, ?_⟩
  have hx : x = 0 ∨ x = 1 ∨ x = 2 := by omega
  rcases hx with rfl | rfl | rfl
  · exact W_leaf (fin 0 _ (hk 0 _ rfl) (by simp) (by intro y hy; simp at hy; rw [hy]; exact w0))
  · exact W_leaf (fin 1 _ (hk 1 _ rfl) (by simp) (by intro y hy; simp at hy; rcases hy with rfl | rfl; exact w1; exact w0))
  · exact W_leaf (fin 2 _ (hk 2 _ rfl) (by simp) (by intro y hy; simp at hy; rcases hy with rfl | rfl; exact w0; exact w1))
theorem PP.lw {wait a b st t st'} (L : LW wait a b st) (p : PP st t st') : LW wait a b st' where
  inv := p.inv
  wt := by rw [p.wait]; exact L.wt
  pc := by rw [p.pc]; exact L.pc
  ps := by rw [p.ps]; exact L.ps
  cnt := by rw [p.count]; exact L.cnt
  fsn := by rw [p.fs]; exact L.fsn
  csn := by rw [p.cs]; exact L.csn
theorem turn_HT {wait j : Int} {a b : Nat} (h0 : 0 ≤ j) (h1 : j < 256) : HT (execB std (callN std 12) body8) .next
    (fun D ec => ec = ec1 wait j ∧ ∃ st, D = enc st ∧ LW wait (a + 4) (b + 2) st)
    (fun D ec => ec = ecL wait ∧ ∃ st, D = enc st ∧ LW wait a b st) := by
  refine HT.cons (b1_HT h0 h1) (HT.cons (R := fun D ec => ∃ n s, IC wait n s a b [] D ec) ?_ ?_)
  · intro w ce D ec env H U hP hH hE
    obtain ⟨n, s, x, rfl, hs, hx0, hx1, st, rfl, L⟩ := hP
    have := HT.forL (P := fun D' ec' => D' = enc st ∧ ec' = ec2 wait n s x) (callN_x 12) (x := xC) (it := it2) (body := bodyC) (I := IC wait n s a b) (fun y env H => rfl)
      (fun D' ec' h => ⟨ecC wait n s, by rw [h.2]; exact .cons rfl (.ref rfl) (.cons rfl (.int _) (.cons rfl (.ref rfl) (.cons rfl (.bytes _) .nil))), by rw [h.1, h.2]; exact it2_run hs hx0 hx1 L⟩) (fun y ys => carry_HT y ys)
    refine T.All.mono ?_ (this w ce (enc st) _ env H U ⟨rfl, rfl⟩ hH hE)
    rintro r ⟨e, D', ec', U', hQ, z⟩
    exact ⟨e, D', ec', U', ⟨n, s, hQ⟩, z⟩
  · refine HT.weak (P := fun D ec => ec = ecL wait ∧ ∃ st, D = enc st ∧ LW wait a b st) (HT.pcall ?_) ?_
    · rintro D ec ⟨rfl, st, rfl, L⟩
      refine W_cons (W_loc rfl (W_cons (W_add (W_get (v := .int st.now) rfl rfl rfl ⟨_, rfl, W_draw2 (tl := tlOf st.el) rfl (by decide) L.pc L.ps ?_⟩))))
      intro x hx0 hx1
      refine ⟨x, rfl, W_nil ⟨st.now + x, { st with pc := st.pc + 1 }, rfl, rfl, ?_⟩⟩
      have L' := L.setpc (c := st.pc + 1) (by have := L.pc; omega)
      exact ⟨L'.inv, by show st.now ≤ _; omega, fun st' p => ⟨rfl, st', rfl, p.lw L'⟩⟩
    · rintro D ec ⟨n, s, rfl, hs, _, st, rfl, L⟩
      exact ⟨ecL wait, ⟨rfl, st, rfl, L⟩, .cons rfl (.ref rfl) (.cons rfl (.int _) (.cons rfl (.ref rfl) .nil))⟩
end Mine.R
end

section
set_option linter.all false
set_option bootstrap.genMatcherCode false
namespace Mine.R
theorem upTo_len : ∀ (n i : Nat), (upTo n i).length = n
  | 0, _ => rfl
  | n + 1, i => by simp [upTo, upTo_len n]
theorem upTo_mem : ∀ (n i : Nat) {y : AV}, y ∈ upTo n i → ∃ j : Nat, y = .int j ∧ i ≤ j ∧ j < i + n
  | 0, _, _, h => by simp [upTo] at h
  | n + 1, i, y, h => by
    simp only [upTo, List.mem_cons] at h
    rcases h with rfl | h
    · exact ⟨i, rfl, by omega, by omega⟩
    · obtain ⟨j, h1, h2, h3⟩ := upTo_mem n (i + 1) h
      exact ⟨j, h1, by omega, by omega⟩
noncomputable def n8 : E := .bin .add (.int 1) (dE 6)
noncomputable def numOK (y : AV) : Prop := ∃ j, y = .int j ∧ 0 ≤ j ∧ j < 256
noncomputable def I8 (wait : Int) (ys : List AV) (D : HS) (ec : AEnv) : Prop := ec = ecL wait ∧ (∀ y ∈ ys, numOK y) ∧ ∃ st, D = enc st ∧ LW wait (4 * ys.length) (2 * ys.length) st
noncomputable def x8 (y : AV) : Xn := fun env H => opt (bindXs [70] false y env) fun env' => execB std (callN std 12) body8 env' H
theorem t8_HT {wait : Int} (y : AV) (ys : List AV) : HT (x8 y) .next (I8 wait (y :: ys)) (I8 wait ys) := by
  by_cases h : ∀ z ∈ y :: ys, numOK z
  · obtain ⟨j, rfl, h0, h1⟩ := h y List.mem_cons_self
    refine HT.bind1 (NRv.int j) (HT.post (turn_HT (wait := wait) (a := 4 * ys.length) (b := 2 * ys.length) h0 h1) ?_ ?_)
    · rintro D ec ⟨ec0, rfl, rfl, _, st, rfl, L⟩
      refine ⟨rfl, st, rfl, ?_⟩
      simp only [List.length_cons] at L
      exact L
    · rintro D ec ⟨rfl, st, rfl, L⟩
      exact ⟨rfl, fun z hz => h z (List.mem_cons_of_mem _ hz), st, rfl, L⟩
  · intro w ce D ec env H U hP
    exact absurd hP.2.1 h
theorem s8_HT {wait : Int} : HT (execS std (callN std 12) (.forR 70 n8 body8)) .next (fun D ec => ec = ecL wait ∧ ∃ st, D = enc st ∧ LW wait 24 12 st) (I8 wait []) := by
  refine HT.forR (callN_x 12) (xx := x8) (fun y env H => rfl) ?_ (fun y ys => t8_HT y ys)
  rintro D ec ⟨rfl, st, rfl, L⟩
  refine W_add (W_int ⟨1, rfl, W_draw2 (tl := tlOf st.el) rfl (by decide) L.pc L.ps fun x h0 h1 => ⟨x, rfl, 1 + x, rfl, by omega, by omega, rfl, ?_, ?_⟩⟩)
  · intro y hy
    obtain ⟨j, rfl, h2, h3⟩ := upTo_mem _ _ hy
    exact ⟨j, rfl, by omega, by omega⟩
  · have L' := L.setpc (c := st.pc + 1) (by have := L.pc; omega)
    refine ⟨_, rfl, ⟨L'.inv, L'.wt, L'.pc, L'.ps, ?_, ?_, L'.csn⟩⟩
    · have := L'.cnt; rw [upTo_len]; omega
    · have := L'.fsn; rw [upTo_len]; omega
noncomputable def as4 : Es := .cons (.loc 104) (.cons (.bin .add (.bin .add (.sub (.loc 104) (.str 18)) (.int 100)) (.loc 17)) .nil)
structure L9 (wait : Int) (k : Nat) (st : St) : Prop where
  inv : SInv st
  wt : st.wait = wait
  ws : k ≤ 2 → st.ws = []
  en : k ≤ 1 → endOf st.el = none
noncomputable def I9 (wait : Int) (ys : List AV) (D : HS) (ec : AEnv) : Prop := ec = ecL wait ∧ (∀ y ∈ ys, numOK y) ∧ ∃ st, D = enc st ∧ L9 wait ys.length st
noncomputable def x9 (y : AV) : Xn := fun env H => opt (bindXs [116] false y env) fun env' => execB std (callN std 12) (pBody as4) env' H
theorem rest_nil {t B cnt ws} (h : WInv B cnt ws) (k : B < t) : restOf t ws = [] := by
  unfold restOf
  rw [List.filter_eq_nil_iff]
  intro v hv
  obtain ⟨a, o, y, n, s, rfl, h1, _⟩ := h.ok v hv
  intro hq
  have hq : t < a := of_decide_eq_true hq
  omega
theorem endOf_le {now wait c g} : ∀ {el} {e : Int}, ElInv now wait c g el → endOf el = some e → e ≤ now + wait
  | none, e, _, h => by cases h
  | some ⟨_, _, _, .unp⟩, e, _, h => by cases h
  | some ⟨_, _, _, .fai⟩, e, _, h => by cases h
  | some ⟨_, _, _, .tryH _⟩, e, k, h => by cases h; exact k.2.2.2.2
  | some ⟨_, _, _, .tryE _⟩, e, k, h => by cases h; exact k.2.2.2.2
theorem t9_HT {wait : Int} (hw : 0 < wait) (y : AV) (ys : List AV) : HT (x9 y) .next (I9 wait (y :: ys)) (I9 wait ys) := by
  by_cases h : ∀ z ∈ y :: ys, numOK z
  · obtain ⟨j, rfl, h0, h1⟩ := h y List.mem_cons_self
    have hys : ∀ z ∈ ys, numOK z := fun z hz => h z (List.mem_cons_of_mem _ hz)
    refine HT.bind1 (NRv.int j) (HT.weak (P := fun D ec => ec = ecL wait ∧ ∃ st, D = enc st ∧ L9 wait (ys.length + 1) st) (HT.pcall ?_) ?_)
    · rintro D ec ⟨rfl, st, rfl, L⟩
      refine W_cons (W_loc rfl (W_cons (W_add (W_add (W_get (v := .int st.now) rfl rfl rfl ⟨st.now, rfl, W_int ⟨100, rfl, ?_⟩⟩)))))
      refine ⟨_, rfl, W_loc (v := .int wait) rfl ⟨wait, rfl, W_nil ⟨st.now + 100 + wait, st, rfl, rfl, L.inv, by omega, fun st' p => ⟨rfl, hys, st', rfl, ?_⟩⟩⟩⟩
      have r := rest_nil (t := st.now + 100 + wait) L.inv.w (by omega)
      constructor
      · exact p.inv
      · rw [p.wait]; exact L.wt
      · intro _; rw [p.ws]; exact r
      · intro hk
        rcases p.en with q | ⟨e, q1, q2, q3⟩
        · exact q
        · have hn := L.ws (by omega)
          have := q3 (by rw [hn]; rfl)
          have := endOf_le L.inv.ei this
          rw [L.wt] at this
          omega
    · rintro D ec ⟨ec0, rfl, rfl, _, st, rfl, L⟩
      refine ⟨ecL wait, ⟨rfl, st, rfl, ?_⟩, .cons rfl (.ref rfl) (.cons rfl (.int _) (.cons rfl (.ref rfl) .nil))⟩
      simp only [List.length_cons] at L
      exact L
  · intro w ce D ec env H U hP
    exact absurd hP.2.1 h
theorem s9_HT {wait : Int} (hw : 0 < wait) : HT (execS std (callN std 12) (.forR 116 (.int 3) (pBody as4))) .next (I8 wait []) (I9 wait []) := by
  refine HT.forR (callN_x 12) (xx := x9) (fun y env H => rfl) ?_ (fun y ys => t9_HT hw y ys)
  rintro D ec ⟨rfl, _, st, rfl, L⟩
  refine W_int ⟨3, rfl, by decide, by decide, rfl, ?_, st, rfl, L.inv, L.wt, fun h => ?_, fun h => ?_⟩
  · intro y hy
    obtain ⟨j, rfl, h2, h3⟩ := upTo_mem _ _ hy
    exact ⟨j, rfl, by omega, by have : (3 : Int).toNat = 3 := rfl; omega⟩
  · rw [upTo_len] at h; exact absurd h (by decide)
  · rw [upTo_len] at h; exact absurd h (by decide)
noncomputable def s10S : S := .ret (.and (.cmp .eq (.attr (.attr (.sub (.loc 104) (.str 15)) 36) 26) (.str 0)) (.isNone (.meth (.sub (.loc 104) (.str 16)) 76 .nil)))
noncomputable def dx_fin : D := (.lit true (.lit false .done))
theorem treex_fin (O : Ops) (P : Fl × AEnv × HS → Prop) (wait now reply newest harmed count rh sh pc : Int) (cs ws fs kn : List AV) (wh en : AV) (act : Nat) (tl : HS) (el : Option El) (came went : Nat → Option Int) (seen ps : List Int) (w : Int) :
    allD (execS (OR O) (callN (OR O) 12) s10S (ecL w) (encH ⟨wait, now, reply, newest, rh, sh, harmed, count, cs, [], fs, came, went, seen, pc, ps, el⟩ wh en 3 kn tl)) dx_fin P =
    (true = true ∧ (((0 < 1048576)) ∧
    (false = false ∧ (P ((.ret (.bool true)), [(104, (.ref 0)), (17, (.int w)), (101, (.ref 16))], encH ⟨wait, now, reply, newest, rh, sh, harmed, count, cs, [], fs, came, went, seen, pc, ps, el⟩ wh en 3 kn (tl)))))) := by kernel_rfl
theorem run_fin {wait now reply newest harmed count rh sh pc : Int} {cs ws fs kn : List AV} {wh en : AV} {act : Nat} {tl : HS} {el : Option El} {came went : Nat → Option Int} {seen ps : List Int} {w : Int} {P : Fl × AEnv × HS → Prop}
  (hP : P ((.ret (.bool true)), [(104, (.ref 0)), (17, (.int w)), (101, (.ref 16))], encH ⟨wait, now, reply, newest, rh, sh, harmed, count, cs, [], fs, came, went, seen, pc, ps, el⟩ wh en 3 kn (tl))) :
    AllW (execS std (callN std 12) s10S (ecL w) (encH ⟨wait, now, reply, newest, rh, sh, harmed, count, cs, [], fs, came, went, seen, pc, ps, el⟩ wh en 3 kn tl)) P := by
  refine AllW.ofTree (treex_fin std _ wait now reply newest harmed count rh sh pc cs ws fs kn wh en act tl el came went seen ps w) ?_
  refine ⟨rfl, by decide, rfl, ?_⟩
  exact hP
theorem act_home : ∀ {el : Option El}, endOf el = none → actOf el = 3
  | none, _ => rfl
  | some ⟨_, _, _, .unp⟩, _ => rfl
  | some ⟨_, _, _, .fai⟩, _ => rfl
  | some ⟨_, _, _, .tryH _⟩, h => by cases h
  | some ⟨_, _, _, .tryE _⟩, h => by cases h
theorem fin_all : ∀ {st : St} {w : Int}, st.ws = [] → endOf st.el = none → AllW (execS std (callN std 12) s10S (ecL w) (enc st)) fun r => r = (.ret (.bool true), ecL w, enc st)
  | ⟨wait, now, reply, newest, rh, sh, harmed, count, cs, ws, fs, came, went, seen, pc, ps, el⟩, w, h, k => by
    dsimp only at h k
    subst h
    unfold enc
    dsimp only
    rw [act_home k]
    exact run_fin (ws := []) (act := 3) rfl
theorem s10_HT {wait : Int} : HT (execS std (callN std 12) s10S) (.ret (.bool true)) (I9 wait []) (fun _ _ => True) := by
  refine HT.run (fun e k => sS (callN_x 12) s10S e k) (.bool true) ?_
  rintro D ec ⟨rfl, _, st, rfl, L⟩
  refine (fin_all (L.ws (by simp)) (L.en (by simp))).mono ?_
  rintro r rfl
  exact ⟨rfl, _, [], trivial, rfl, .inl ⟨rfl, .nil⟩⟩
end Mine.R
end

section
set_option linter.all false
set_option bootstrap.genMatcherCode false
namespace Mine.R
theorem HT.ret {cf : CF} {s : S} {b : Ss} {v : AV} {P Q : HS → AEnv → Prop} (h : HT (execS std cf s) (.ret v) P Q) : HT (execB std cf (.cons s b)) (.ret v) P Q := by
  intro w ce D ec env H U hP hH hE
  simp only [eB_nil, eB_cons]
  refine T.all_bind.2 (T.All.mono ?_ (h w ce D ec env H U hP hH hE))
  rintro ⟨f, env', H'⟩ ⟨rfl, z⟩
  exact ⟨rfl, z⟩
noncomputable def tail8 : Ss := .cons (.forR 70 n8 body8) (.cons (.forR 116 (.int 3) (pBody as4)) (.cons s10S .nil))
theorem tail_HT {wait : Int} (hw : 0 < wait) : HT (execB std (callN std 12) tail8) (.ret (.bool true)) (fun D ec => ec = ecL wait ∧ ∃ st, D = enc st ∧ LW wait 24 12 st) (fun _ _ => True) :=
  HT.cons s8_HT (HT.cons (s9_HT hw) (HT.ret s10_HT))
inductive SubX (R : Wr) (C : HS) : HS → List Nat → Prop
  | nil : SubX R C [] []
  | cons {o o' k D ks} : hget C k = some o' → OX R o o' → SubX R C D ks → SubX R C (o :: D) (k :: ks)
theorem SubX.at {R C} : ∀ {D ks i k}, SubX R C D ks → nth? ks i = some k → ∃ o o', hget D i = some o ∧ hget C k = some o' ∧ OX R o o'
  | _, _, _, _, .nil, h => by simp [nth?] at h
  | _, _, 0, _, .cons a b r, h => by
    simp only [nth?] at h
    cases h
    exact ⟨_, _, rfl, a, b⟩
  | _, _, i + 1, _, .cons a b r, h => by
    simp only [nth?] at h
    obtain ⟨o, o', h1, h2, h3⟩ := SubX.at r h
    exact ⟨o, o', h1, h2, h3⟩
theorem Emb.ofX {D C rho} (n : nodup rho = true) (s : SubX (Ren rho) C D rho) : Emb (Ren rho) D C where
  inj := fun i j i' j' r r' => by
    constructor
    · intro h
      subst h
      have r1 : nth? rho i = some j := r
      have r2 : nth? rho i = some j' := r'
      rw [r1] at r2; cases r2; rfl
    · intro h
      subst h
      exact nth_inj n r r'
  obj := fun i j r => s.at r
noncomputable def s1S : S := .assign (.cel 101) (.list (.cons (.comp (.b1 .toInt (.loc 111)) [111] false (.upto (.loc 112) 40) Option.none .none) (.cons (.int 0) .nil)))
noncomputable def wE : E := .bin .add (.int 20) (.bin .mul (.int 10) (dE 4))
noncomputable def s2S : S := .assign (.tup true [(.loc 113), (.loc 110)]) (.tup (.cons wE (.cons wE .nil)))
noncomputable def s3S : S := .assign (.loc 17) (.call (.glob 115) (.cons (.loc 113) (.cons (.loc 110) .nil)))
noncomputable def s4S : S := .ife (.or (.and (.cmp .ne (.loc 17) (.bin .mul (.int 3) (.loc 113))) (.cmp .ne (.loc 17) (.bin .mul (.int 3) (.loc 110)))) (.or (.cmp .lt (.loc 17) (.bin .mul (.int 3) (.loc 113))) (.cmp .lt (.loc 17) (.bin .mul (.int 3) (.loc 110)))))
   (.cons (.ret (.bool false)) .nil) .nil
noncomputable def elt5 : E := .sub (.list (.cons (.int 0) (.cons (.int 2) (.cons (.int 3) (.cons (.int 4) (.cons (.int 10) .nil)))))) (dE 5)
noncomputable def s5S : S := .assign (.loc 40) (.compR elt5 116 (dE 7))
noncomputable def s6S : S := .assign (.loc 104) (.dict [15, 16, 17, 18] (.cons (.call (.glob 118) (.cons (.str 13) (.cons (.str 0) (.cons (.bool true) (.cons (.bool true) .nil))))) (.cons (.call (.glob 117) (.cons (.loc 40) (.cons (.int 10) (.cons (.none) .nil)))) (.cons (.loc 17) (.cons (.int 0) .nil)))))
noncomputable def s7S : S := .expr (.meth (.loc 104) 119 (.cons (.dict [19, 20, 21, 22, 23, 24, 25] (.cons (.dict [] .nil) (.cons (.dict [] .nil) (.cons (.list .nil) (.cons (.int (-1)) (.cons (.str 0) (.cons (.none) (.cons (.bin .add (.int 50) (.loc 113)) .nil)))))))) .nil))
theorem law_eq : b_law = .cons s1S (.cons s2S (.cons s3S (.cons s4S (.cons s5S (.cons s6S (.cons s7S tail8)))))) := rfl
end Mine.R
end

section
set_option linter.all false
set_option bootstrap.genMatcherCode false
namespace Mine.R
section
variable {cf : CF}
theorem s1_all {ns : List Int} (hn : ns.length ≤ 63) {P : Fl × AEnv × HS → Prop}
    (hP : P (.next, [(112, .blist (ns.map .int)), (101, .ref 0)], [.cell (some (.ref 3)), .list ((ns.take 40).map .int), .list ((ns.take 40).map .int), .list [.ref 2, .int 0]])) :
    AllW (execS std cf s1S [(112, .blist (ns.map .int)), (101, .ref 0)] [.cell none]) P := by
  have e0 : (ns.map AV.int).take 40 = (ns.take 40).map AV.int := by rw [List.map_take]
  have l0 : ((ns.take 40).map AV.int).length < 2 ^ 20 := by simp; omega
  have hc : Yields (compL (fun v H' => opt (bindXs [111] false v [(112, .blist (ns.map .int)), (101, .ref 0)]) fun env' => (evalE std cf (.b1 .toInt (.loc 111)) env' H').bind fun q => .leaf (some q.1, q.2)) ((ns.take 40).map .int) [.cell none, .gone]) ((ns.take 40).map .int, [.cell none, .gone]) := by
    have := compL_map (ev := (fun v H' => opt (bindXs [111] false v [(112, .blist (ns.map .int)), (101, .ref 0)]) fun env' => (evalE std cf (.b1 .toInt (.loc 111)) env' H').bind fun q => .leaf (some q.1, q.2))) (p := id) (H := [.cell none, .gone]) (ws := (ns.take 40).map .int) ?_
    · rwa [List.map_id] at this
    · intro v hv
      obtain ⟨i, _, rfl⟩ := List.mem_map.1 hv
      have : (opt (bindXs [111] false (.int i) [(112, .blist (ns.map .int)), (101, .ref 0)]) fun env' => (evalE std cf (.b1 .toInt (.loc 111)) env' [.cell none, .gone]).bind fun q => .leaf (some q.1, q.2)) = .leaf (some (.int i), [.cell none, .gone]) := by
        have h1 : lk 111 [(112, AV.blist (ns.map .int)), (101, .ref 0), (111, .int i)] = some (.int i) := rfl
        simp only [bindXs, opt, put, Nat.beq, eE_loc, eE_cel, eE_glob, eE_int, eE_str, eE_bool, eE_none, eE_bin, eE_cmp, eE_isIn, eE_notIn, eE_isNone, eE_notNone, eE_and, eE_or, eE_not, eE_ife, eE_attr, eE_sub, eE_upto, eE_call, eE_meth, eE_b1, eE_max, eE_tup, eE_list, eE_dict, eE_comp, eE_compR, eE_junk, h1, T.bind, app1]
      rw [this]
      exact .leaf _
  have h112 : lk 112 [(112, AV.blist (ns.map .int)), (101, .ref 0)] = some (.blist (ns.map .int)) := rfl
  refine ⟨?_⟩
  simp only [s1S, eS_assign, eS_augLoc, eS_augAttr, eS_expr, eS_ret, eS_ife, eS_forL, eS_forR, eS_junk, eE_loc, eE_cel, eE_glob, eE_int, eE_str, eE_bool, eE_none, eE_bin, eE_cmp, eE_isIn, eE_notIn, eE_isNone, eE_notNone, eE_and, eE_or, eE_not, eE_ife, eE_attr, eE_sub, eE_upto, eE_call, eE_meth, eE_b1, eE_max, eE_tup, eE_list, eE_dict, eE_comp, eE_compR, eE_junk, eL_nil, eL_cons, h112, opt, T.all_bind, T.All, List.length_map, e0]
  refine ⟨by omega, ?_⟩
  have hl : listAt (hnew [.cell none] (.list ((ns.take 40).map .int))) (.ref (hlen [AO.cell none])) = some ((ns.take 40).map .int) := rfl
  simp only [hl, opt, T.All, T.all_bind]
  refine ⟨l0, ?_⟩
  refine hc _ ?_
  exact hP
theorem W_comp5 {is : List Int} (hl : is.length < 1000) {ec : AEnv} (h101 : ∀ v, lk 101 (put 116 v ec) = some (.ref 0)) : ∀ (vs : List AV) (c : Int) (tl : HS), 0 ≤ c →
    AllW (compL (fun v H' => (evalE std (callN std 12) elt5 (put 116 v ec) H').bind fun q => .leaf (some q.1, q.2)) vs (C1 c is tl)) fun q => ∃ c' tl', q.2 = C1 c' is tl' ∧ 0 ≤ c' ∧ CsOK q.1 ∧ q.1.length = vs.length
  | [], c, tl, hc => W_leaf ⟨c, tl, rfl, hc, (fun v h => nomatch h), rfl⟩
  | v :: r, c, tl, hc => by
    unfold compL
    refine W_bind (W_bind (W_of eSub (W_bind (W_list ?_))))
    refine W_cons (W_int (W_cons (W_int (W_cons (W_int (W_cons (W_int (W_cons (W_int (W_nil ?_))))))))))
    dsimp only
    have e1 : hnew (C1 c is tl) (.list [.int 0, .int 2, .int 3, .int 4, .int 10]) = C1 c is (hnew tl (.list [.int 0, .int 2, .int 3, .int 4, .int 10])) := rfl
    have e2 : hget (C1 (c + 1) is (hnew tl (.list [.int 0, .int 2, .int 3, .int 4, .int 10]))) (hlen (C1 c is tl)) = some (.list [.int 0, .int 2, .int 3, .int 4, .int 10]) := hget_hnew_last (H := C1 (c + 1) is tl)
    rw [e1]
    refine W_bind (W_draw1 (h101 v) (by decide) hc hl fun x h0 h1 => W_bind ?_)
    have fin : ∀ z : Int, CsOK [.int z] → AllW (T.leaf (AV.int z, C1 (c + 1) is (hnew tl (.list [.int 0, .int 2, .int 3, .int 4, .int 10])))) fun a => AllW (T.leaf (some a.1, a.2)) fun a => AllW ((compL (fun v H' => (evalE std (callN std 12) elt5 (put 116 v ec) H').bind fun q => .leaf (some q.1, q.2)) r a.2).bind fun q' => .leaf (match a.1 with | some y => y :: q'.1 | none => q'.1, q'.2)) fun q => ∃ c' tl', q.2 = C1 c' is tl' ∧ 0 ≤ c' ∧ CsOK q.1 ∧ q.1.length = (v :: r).length := fun z hz =>
      W_leaf (W_leaf (W_bind ((W_comp5 hl h101 r (c + 1) (hnew tl (.list [.int 0, .int 2, .int 3, .int 4, .int 10])) (by omega)).mono fun q ⟨c', tl', q1, q2, q3, q4⟩ => W_leaf ⟨c', tl', q1, q2, fun u hu => (List.mem_cons.1 hu).elim (fun e => e ▸ hz _ List.mem_cons_self) (q3 u), by simp [q4]⟩)))
    refine ⟨?_⟩
    simp only [subV, e2]
    refine ⟨⟨h0, by simp; omega, by omega⟩, ?_⟩
    have hx : x = 0 ∨ x = 1 ∨ x = 2 ∨ x = 3 ∨ x = 4 := by omega
    rcases hx with rfl | rfl | rfl | rfl | rfl
    · exact fin 0 (by intro u hu; simp at hu; simp [hu])
    · exact fin 2 (by intro u hu; simp at hu; simp [hu])
    · exact fin 3 (by intro u hu; simp at hu; simp [hu])
    · exact fin 4 (by intro u hu; simp at hu; simp [hu])
    · exact fin 10 (by intro u hu; simp at hu; simp [hu])
end
end Mine.R
end

section
set_option linter.all false
set_option bootstrap.genMatcherCode false
namespace Mine.R
section
theorem W_wE {c : Int} {is : List Int} {env : AEnv} {tl : HS} {P : AV × HS → Prop} (h : lk 101 env = some (.ref 0)) (hc : 0 ≤ c) (hl : is.length < 1000) (hP : ∀ a, 20 ≤ a → P (.int a, C1 (c + 1) is tl)) : AllW (evalE std (callN std 12) wE env (C1 c is tl)) P :=
  W_add (W_int ⟨20, rfl, W_mul rfl (W_draw1 h (by decide) hc hl fun x h0 h1 => ⟨x, rfl, 10 * x, rfl, hP _ (by omega)⟩)⟩)
theorem s2_all {is : List Int} (hl : is.length < 1000) {P : Fl × AEnv × HS → Prop} (hP : ∀ a b, 20 ≤ a → 20 ≤ b → P (.next, [(101, .ref 0), (110, .int b), (113, .int a)], C1 2 is [])) :
    AllW (execS std (callN std 12) s2S [(101, .ref 0)] (C1 0 is [])) P := by
  have e1 : execS std (callN std 12) s2S [(101, .ref 0)] (C1 0 is []) = (evalE std (callN std 12) (.tup (.cons wE (.cons wE .nil))) [(101, .ref 0)] (C1 0 is [])).bind
      fun p => (asg std (callN std 12) (.tup true [(.loc 113), (.loc 110)]) p.1 [(101, .ref 0)] p.2).bind fun q => .leaf (.next, q.1, q.2) := by simp only [s2S, eS_assign, eS_augLoc, eS_augAttr, eS_expr, eS_ret, eS_ife, eS_forL, eS_forR, eS_junk]
  refine W_of e1 (W_bind (W_tup (W_cons (W_wE rfl (by decide) hl fun a ha => W_cons (W_wE rfl (by decide) hl fun b hb => W_nil ?_)))))
  exact W_leaf (hP a b ha hb)
noncomputable def dx_s3 : D := (.lit true .done)
theorem treex_s3 (O : Ops) (P : Fl × AEnv × HS → Prop) (a b : Int) (H : HS) :
    allD (execS (OR O) (callN (OR O) 12) s3S [(101, .ref 0), (110, .int b), (113, .int a)] H) dx_s3 P =
    (true = true ∧ (P (.next, [(101, (.ref 0)), (110, (.int b)), (113, (.int a)), (17, (.int (O.mul 3 (O.max a b))))], H))) := by kernel_rfl
theorem run_s3 {a b : Int} {H : HS} {P : Fl × AEnv × HS → Prop}
  (hP : P (.next, [(101, (.ref 0)), (110, (.int b)), (113, (.int a)), (17, (.int (std.mul 3 (std.max a b))))], H)) :
    AllW (execS std (callN std 12) s3S [(101, .ref 0), (110, .int b), (113, .int a)] H) P := by
  refine AllW.ofTree (treex_s3 std _ a b H) ?_
  refine ⟨rfl, ?_⟩
  exact hP
noncomputable def dx_s4 : D := (.lit true (.sym (.lit true (.sym (.lit true .done) (.lit true (.lit false (.lit true (.lit false .done)))))) (.lit false (.lit true (.lit false (.lit true (.lit false .done)))))))
theorem treex_s4 (O : Ops) (P : Fl × AEnv × HS → Prop) (a b w : Int) (H : HS) :
    allD (execS O (callN O 12) s4S [(101, .ref 0), (110, .int b), (113, .int a), (17, .int w)] H) dx_s4 P =
    (true = true ∧ (((!(O.eq w (O.mul 3 a))) = true → (true = true ∧ (((!(O.eq w (O.mul 3 b))) = true → (true = true ∧ (P ((.ret (.bool false)), [(101, (.ref 0)), (110, (.int b)), (113, (.int a)), (17, (.int w))], H)))) ∧
    ((!(O.eq w (O.mul 3 b))) = false → (true = true ∧ ((O.lt w (O.mul 3 a)) = false ∧ (true = true ∧ ((O.lt w (O.mul 3 b)) = false ∧ (P (.next, [(101, (.ref 0)), (110, (.int b)), (113, (.int a)), (17, (.int w))], H)))))))))) ∧
    ((!(O.eq w (O.mul 3 a))) = false → (false = false ∧ (true = true ∧ ((O.lt w (O.mul 3 a)) = false ∧ (true = true ∧ ((O.lt w (O.mul 3 b)) = false ∧ (P (.next, [(101, (.ref 0)), (110, (.int b)), (113, (.int a)), (17, (.int w))], H)))))))))) := by kernel_rfl
theorem run_s4 {a b w : Int} {H : HS} {P : Fl × AEnv × HS → Prop} (k1 : std.eq w (std.mul 3 a) = true ∨ std.eq w (std.mul 3 b) = true)
  (k2 : std.lt w (std.mul 3 a) = false)
  (k3 : std.lt w (std.mul 3 b) = false)
  (hP : P (.next, [(101, (.ref 0)), (110, (.int b)), (113, (.int a)), (17, (.int w))], H)) :
    AllW (execS std (callN std 12) s4S [(101, .ref 0), (110, .int b), (113, .int a), (17, .int w)] H) P := by
  refine AllW.ofTree (treex_s4 std _ a b w H) ?_
  refine ⟨rfl, ?_⟩
  refine ⟨fun h1 => ?_, fun h1 => ?_⟩
  · have h1 : (std.eq w (std.mul 3 a)) = false := by simpa using h1
    refine ⟨rfl, ?_⟩
    refine ⟨fun h2 => ?_, fun h2 => ?_⟩
    · have h2 : (std.eq w (std.mul 3 b)) = false := by simpa using h2
      refine ⟨rfl, ?_⟩
      rcases k1 with h | h
      · rw [h1] at h; cases h
      · rw [h2] at h; cases h
    · have h2 : (std.eq w (std.mul 3 b)) = true := by simpa using h2
      refine ⟨rfl, (by rw [k2] <;> rfl), rfl, (by rw [k3] <;> rfl), ?_⟩
      exact hP
  · have h1 : (std.eq w (std.mul 3 a)) = true := by simpa using h1
    refine ⟨rfl, rfl, (by rw [k2] <;> rfl), rfl, (by rw [k3] <;> rfl), ?_⟩
    exact hP
noncomputable def mid (cs : List AV) : HS :=
  [.attrs [(33, .str 13), (34, .bool true), (35, .ref 10), (36, .ref 8), (37, .ref 8), (38, .int (-1)), (39, .ref 11)],
   .inst 224 5,
   .attrs [(26, .str 0), (27, .str 4), (28, .bool true), (29, .int 0), (30, .int 0), (31, .ref 9), (32, .none)],
   .inst 121 7, .list [], .list [.ref 8], .list [],
   .attrs [(40, .ref 14), (41, .int 10), (42, .none), (43, .int 0), (44, .int 0), (45, .ref 15), (46, .ref 16)],
   .inst 298 12, .list cs, .list [], .list []]
noncomputable def D5 (c : Int) (is : List Int) (cs : List AV) : HS := [.cell (some (.ref 1)), .list [.ref 2, .int c], .ilist is, .list cs]
noncomputable def D6 (c : Int) (is : List Int) (cs : List AV) (w : Int) : HS := D5 c is cs ++ .rc [(15, .ref 6), (16, .ref 13), (17, .int w), (18, .int 0)] :: mid cs
noncomputable def D7 (c : Int) (is : List Int) (cs : List AV) (w z : Int) : HS :=
  D5 c is cs ++ .rc [(15, .ref 6), (16, .ref 13), (17, .int w), (18, .int 0), (25, .int z), (24, .none), (23, .str 0), (22, .int (-1)), (21, .ref 20), (20, .ref 19), (19, .ref 18)] ::
    (mid cs ++ [.rc [(19, .ref 18), (20, .ref 19), (21, .ref 20), (22, .int (-1)), (23, .str 0), (24, .none), (25, .int z)], .rc [], .rc [], .list []])
noncomputable def ec5 (a w : Int) : AEnv := [(101, .ref 0), (113, .int a), (17, .int w), (40, .ref 3)]
noncomputable def ec6 (a w : Int) : AEnv := [(101, .ref 0), (113, .int a), (17, .int w), (40, .ref 3), (104, .ref 4)]
noncomputable def dx_s6 : D := (.lit true (.lit true .done))
theorem treex_s6 (O : Ops) (P : Fl × AEnv × HS → Prop) (a w c : Int) (is : List Int) (cs : List AV) :
    allD (execS O (callN O 12) s6S (ec5 a w) (D5 c is cs)) dx_s6 P =
    (true = true ∧ ((inB 0 1) ∧
    (true = true ∧ ((((List.length cs) < 1048576)) ∧
    (P (.next, [(101, (.ref 0)), (113, (.int a)), (17, (.int w)), (40, (.ref 3)), (104, (.ref 4))], [(.cell (some (.ref 1))), (.list [(.ref 2), (.int c)]), (.ilist is), (.list cs), (.rc [(15, (.ref 6)), (16, (.ref 13)), (17, (.int w)), (18, (.int 0))]), (.attrs [(33, (.str 13)), (34, (.bool true)), (35, (.ref 10)), (36, (.ref 8)), (37, (.ref 8)), (38, (.int (-1))), (39, (.ref 11))]), (.inst 224 5), (.attrs [(26, (.str 0)), (27, (.str 4)), (28, (.bool true)), (29, (.int 0)), (30, (.int 0)), (31, (.ref 9)), (32, .none)]), (.inst 121 7), (.list []), (.list [(.ref 8)]), (.list []), (.attrs [(40, (.ref 14)), (41, (.int 10)), (42, .none), (43, (.int 0)), (44, (.int 0)), (45, (.ref 15)), (46, (.ref 16))]), (.inst 298 12), (.list cs), (.list []), (.list [])])))))) := by kernel_rfl
theorem run_s6 {a w c : Int} {is : List Int} {cs : List AV} {P : Fl × AEnv × HS → Prop} (hl : cs.length < 2 ^ 20)
  (hP : P (.next, [(101, (.ref 0)), (113, (.int a)), (17, (.int w)), (40, (.ref 3)), (104, (.ref 4))], [(.cell (some (.ref 1))), (.list [(.ref 2), (.int c)]), (.ilist is), (.list cs), (.rc [(15, (.ref 6)), (16, (.ref 13)), (17, (.int w)), (18, (.int 0))]), (.attrs [(33, (.str 13)), (34, (.bool true)), (35, (.ref 10)), (36, (.ref 8)), (37, (.ref 8)), (38, (.int (-1))), (39, (.ref 11))]), (.inst 224 5), (.attrs [(26, (.str 0)), (27, (.str 4)), (28, (.bool true)), (29, (.int 0)), (30, (.int 0)), (31, (.ref 9)), (32, .none)]), (.inst 121 7), (.list []), (.list [(.ref 8)]), (.list []), (.attrs [(40, (.ref 14)), (41, (.int 10)), (42, .none), (43, (.int 0)), (44, (.int 0)), (45, (.ref 15)), (46, (.ref 16))]), (.inst 298 12), (.list cs), (.list []), (.list [])])) :
    AllW (execS std (callN std 12) s6S (ec5 a w) (D5 c is cs)) P := by
  refine AllW.ofTree (treex_s6 std _ a w c is cs) ?_
  refine ⟨rfl, ⟨by decide, by decide, by decide⟩, rfl, hl, ?_⟩
  exact hP
noncomputable def dx_s7 : D := .done
theorem treex_s7 (O : Ops) (P : Fl × AEnv × HS → Prop) (a w c : Int) (is : List Int) (cs : List AV) :
    allD (execS O (callN O 12) s7S (ec6 a w) (D6 c is cs w)) dx_s7 P =
    (((4 ≠ 17)) ∧
    (P (.next, [(101, (.ref 0)), (113, (.int a)), (17, (.int w)), (40, (.ref 3)), (104, (.ref 4))], [(.cell (some (.ref 1))), (.list [(.ref 2), (.int c)]), (.ilist is), (.list cs), (.rc [(15, (.ref 6)), (16, (.ref 13)), (17, (.int w)), (18, (.int 0)), (25, (.int (O.add 50 a))), (24, .none), (23, (.str 0)), (22, (.int (-1))), (21, (.ref 20)), (20, (.ref 19)), (19, (.ref 18))]), (.attrs [(33, (.str 13)), (34, (.bool true)), (35, (.ref 10)), (36, (.ref 8)), (37, (.ref 8)), (38, (.int (-1))), (39, (.ref 11))]), (.inst 224 5), (.attrs [(26, (.str 0)), (27, (.str 4)), (28, (.bool true)), (29, (.int 0)), (30, (.int 0)), (31, (.ref 9)), (32, .none)]), (.inst 121 7), (.list []), (.list [(.ref 8)]), (.list []), (.attrs [(40, (.ref 14)), (41, (.int 10)), (42, .none), (43, (.int 0)), (44, (.int 0)), (45, (.ref 15)), (46, (.ref 16))]), (.inst 298 12), (.list cs), (.list []), (.list []), (.rc [(19, (.ref 18)), (20, (.ref 19)), (21, (.ref 20)), (22, (.int (-1))), (23, (.str 0)), (24, .none), (25, (.int (O.add 50 a)))]), (.rc []), (.rc []), (.list [])]))) := by kernel_rfl
theorem run_s7 {a w c : Int} {is : List Int} {cs : List AV} {P : Fl × AEnv × HS → Prop}
  (hP : P (.next, [(101, (.ref 0)), (113, (.int a)), (17, (.int w)), (40, (.ref 3)), (104, (.ref 4))], [(.cell (some (.ref 1))), (.list [(.ref 2), (.int c)]), (.ilist is), (.list cs), (.rc [(15, (.ref 6)), (16, (.ref 13)), (17, (.int w)), (18, (.int 0)), (25, (.int (std.add 50 a))), (24, .none), (23, (.str 0)), (22, (.int (-1))), (21, (.ref 20)), (20, (.ref 19)), (19, (.ref 18))]), (.attrs [(33, (.str 13)), (34, (.bool true)), (35, (.ref 10)), (36, (.ref 8)), (37, (.ref 8)), (38, (.int (-1))), (39, (.ref 11))]), (.inst 224 5), (.attrs [(26, (.str 0)), (27, (.str 4)), (28, (.bool true)), (29, (.int 0)), (30, (.int 0)), (31, (.ref 9)), (32, .none)]), (.inst 121 7), (.list []), (.list [(.ref 8)]), (.list []), (.attrs [(40, (.ref 14)), (41, (.int 10)), (42, .none), (43, (.int 0)), (44, (.int 0)), (45, (.ref 15)), (46, (.ref 16))]), (.inst 298 12), (.list cs), (.list []), (.list []), (.rc [(19, (.ref 18)), (20, (.ref 19)), (21, (.ref 20)), (22, (.int (-1))), (23, (.str 0)), (24, .none), (25, (.int (std.add 50 a)))]), (.rc []), (.rc []), (.list [])])) :
    AllW (execS std (callN std 12) s7S (ec6 a w) (D6 c is cs w)) P := by
  refine AllW.ofTree (treex_s7 std _ a w c is cs) ?_
  refine ⟨by decide, ?_⟩
  exact hP
end
end Mine.R
end

section
set_option linter.all false
set_option bootstrap.genMatcherCode false
namespace Mine.R
noncomputable def HE (D : HS) (ec env : AEnv) (H : HS) : Prop := ∃ W, Emb W D H ∧ EX W ec env
noncomputable def HG (x : Xn) (P Q : HS → AEnv → Prop) : Prop := ∀ D ec env H, P D ec → HE D ec env H → (x env H).All fun r => r.1 = .next ∧ ∃ D' ec', Q D' ec' ∧ HE D' ec' r.2.1 r.2.2
noncomputable def OutA (D' : HS) (ec' : AEnv) (env : AEnv) (C' : HS) : Prop := (D' = C' ∧ Exs (fun i j => i = j) env ec') ∨ ∃ rho, Sub D' C' rho ∧ Exs (Ren rho) env ec'
theorem HG.run {x : Xn} (g : GoodX x) {P Q : HS → AEnv → Prop} (run : ∀ D ec, P D ec → AllW (x ec D) fun r => r.1 = .next ∧ ∃ D' ec', Q D' ec' ∧ OutA D' ec' r.2.1 r.2.2) : HG x P Q := by
  intro D ec env H hP ⟨W, e, k⟩
  refine g e k _ (T.All.mono ?_ (run D ec hP).w)
  rintro q ⟨h1, D', ec', hQ, o⟩ r ⟨W', x, f, k'⟩
  refine ⟨?_, D', ec', hQ, ?_⟩
  · rw [h1] at f; exact FlN.eq .next f
  · rcases o with ⟨rfl, o⟩ | ⟨rho, s, o⟩
    · exact ⟨W', x.emb, EX.eqR o.ex k'⟩
    · exact ⟨_, x.emb.sub s, EX.seq o.ex k'⟩
theorem HG.cons {cf : CF} {s : S} {b : Ss} {P Q : HS → AEnv → Prop} (h : HG (execS std cf s) P Q) {D ec env H} (hP : P D ec) (hE : HE D ec env H) {R : Fl × AEnv × HS → Prop}
    (k : ∀ D' ec' env' H', Q D' ec' → HE D' ec' env' H' → (execB std cf b env' H').All R) : (execB std cf (.cons s b) env H).All R := by
  simp only [eB_nil, eB_cons]
  refine T.all_bind.2 (T.All.mono ?_ (h D ec env H hP hE))
  rintro ⟨f, env', H'⟩ ⟨rfl, D', ec', hQ, hE'⟩
  exact k D' ec' env' H' hQ hE'
noncomputable def ec2' (a b : Int) : AEnv := [(101, .ref 0), (110, .int b), (113, .int a)]
noncomputable def ec3 (a b w : Int) : AEnv := [(101, .ref 0), (110, .int b), (113, .int a), (17, .int w)]
theorem HA2 {is : List Int} (hl : is.length < 1000) : HG (execS std (callN std 12) s2S) (fun D ec => D = C1 0 is [] ∧ ec = [(101, .ref 0)]) (fun D ec => ∃ a b, 20 ≤ a ∧ 20 ≤ b ∧ D = C1 2 is [] ∧ ec = ec2' a b) := by
  refine HG.run (fun e k => sS (callN_x 12) s2S e k) ?_
  rintro D ec ⟨rfl, rfl⟩
  exact s2_all hl fun a b ha hb => ⟨rfl, _, _, ⟨a, b, ha, hb, rfl, rfl⟩, .inl ⟨rfl, .cons rfl (.ref rfl) (.cons rfl (.int _) (.cons rfl (.int _) .nil))⟩⟩
theorem HA3 {is : List Int} {a b : Int} : HG (execS std (callN std 12) s3S) (fun D ec => D = C1 2 is [] ∧ ec = ec2' a b) (fun D ec => D = C1 2 is [] ∧ ec = ec3 a b (std.mul 3 (std.max a b))) := by
  refine HG.run (fun e k => sS (callN_x 12) s3S e k) ?_
  rintro D ec ⟨rfl, rfl⟩
  exact run_s3
    ⟨rfl, _, _, ⟨rfl, rfl⟩, .inl ⟨rfl, .cons rfl (.ref rfl) (.cons rfl (.int _) (.cons rfl (.int _) (.cons rfl (.int _) .nil)))⟩⟩
theorem HA4 {is : List Int} {a b : Int} : HG (execS std (callN std 12) s4S) (fun D ec => D = C1 2 is [] ∧ ec = ec3 a b (std.mul 3 (std.max a b))) (fun D ec => D = C1 2 is [] ∧ ec = ec3 a b (std.mul 3 (std.max a b))) := by
  refine HG.run (fun e k => sS (callN_x 12) s4S e k) ?_
  rintro D ec ⟨rfl, rfl⟩
  have h1 : std.eq (std.mul 3 (std.max a b)) (std.mul 3 a) = true ∨ std.eq (std.mul 3 (std.max a b)) (std.mul 3 b) = true := by
    simp only [std, decide_eq_true_eq]
    split
    · exact .inr rfl
    · exact .inl rfl
  have h2 : std.lt (std.mul 3 (std.max a b)) (std.mul 3 a) = false := by
    simp only [std, decide_eq_false_iff_not]
    split <;> omega
  have h3 : std.lt (std.mul 3 (std.max a b)) (std.mul 3 b) = false := by
    simp only [std, decide_eq_false_iff_not]
    split <;> omega
  exact run_s4 h1 h2 h3
    ⟨rfl, _, _, ⟨rfl, rfl⟩, .inl ⟨rfl, .cons rfl (.ref rfl) (.cons rfl (.int _) (.cons rfl (.int _) (.cons rfl (.int _) .nil)))⟩⟩
theorem sub5 {c : Int} {is : List Int} {tl : HS} {vs : List AV} (hv : NRl vs) : Sub (D5 c is vs) (hnew (C1 c is tl) (.list vs)) [0, 1, 2, hlen tl + 3] where
  nd := by
    have h : ∀ k, Nat.beq (hlen tl + 3) k = true → hlen tl + 3 = k := fun k h => Nat.eq_of_beq_eq_true h
    have h0 : Nat.beq (hlen tl + 3) 0 = false := by cases q : Nat.beq (hlen tl + 3) 0; rfl; have := h 0 q; omega
    have h1 : Nat.beq (hlen tl + 3) 1 = false := by cases q : Nat.beq (hlen tl + 3) 1; rfl; have := h 1 q; omega
    have h2 : Nat.beq (hlen tl + 3) 2 = false := by cases q : Nat.beq (hlen tl + 3) 2; rfl; have := h 2 q; omega
    simp [nodup, has, h0, h1, h2, Nat.beq]
  ok := by
    refine .cons rfl (.cell (.ref rfl)) (.cons rfl (.list (.cons (.ref rfl) (.cons (.int _) .nil))) (.cons rfl (.il _) (.cons ?_ (.list hv.refl) .nil)))
    exact hget_hnew_last (H := C1 c is tl)
theorem HA5 {is : List Int} (hl : is.length < 1000) {a b w : Int} : HG (execS std (callN std 12) s5S) (fun D ec => D = C1 2 is [] ∧ ec = ec3 a b w)
    (fun D ec => ∃ c cs, 0 ≤ c ∧ CsOK cs ∧ cs.length < 100 ∧ D = D5 c is cs ∧ ec = ec5 a w) := by
  refine HG.run (fun e k => sS (callN_x 12) s5S e k) ?_
  rintro D ec ⟨rfl, rfl⟩
  have e1 : execS std (callN std 12) s5S (ec3 a b w) (C1 2 is []) = ((evalE std (callN std 12) (dE 7) (ec3 a b w) (C1 2 is [])).bind fun p => match p.1 with
      | .int k => .ck (0 ≤ k ∧ k < 2 ^ 20) <| (compL (fun v H' => (evalE std (callN std 12) elt5 (put 116 v (ec3 a b w)) H').bind fun q => .leaf (some q.1, q.2)) (upTo k.toNat 0) p.2).bind fun q => .leaf (.ref (hlen q.2), hnew q.2 (.list q.1))
      | _ => .stuck).bind fun p => .leaf (.next, put 40 p.1 (ec3 a b w), p.2) := by
    simp only [s5S, eS_assign, eS_augLoc, eS_augAttr, eS_expr, eS_ret, eS_ife, eS_forL, eS_forR, eS_junk, eE_loc, eE_cel, eE_glob, eE_int, eE_str, eE_bool, eE_none, eE_bin, eE_cmp, eE_isIn, eE_notIn, eE_isNone, eE_notNone, eE_and, eE_or, eE_not, eE_ife, eE_attr, eE_sub, eE_upto, eE_call, eE_meth, eE_b1, eE_max, eE_tup, eE_list, eE_dict, eE_comp, eE_compR, eE_junk]
    rfl
  refine W_of e1 (W_bind (W_bind (W_draw1 rfl (by decide) (by decide) hl fun x h0 h1 => ?_)))
  refine W_ck ⟨h0, by omega⟩ (W_bind ((W_comp5 hl (fun v => rfl) (upTo x.toNat 0) (2 + 1) [] (by decide)).mono ?_))
  rintro ⟨vs, H'⟩ ⟨c', tl', h2, h3, h4, h5⟩
  dsimp only at h2 h4 h5
  subst h2
  rw [upTo_len] at h5
  refine W_leaf (W_leaf ⟨rfl, _, _, ⟨c', vs, h3, h4, by omega, rfl, rfl⟩, .inr ⟨_, sub5 h4.nr, ?_⟩⟩)
  exact .cons rfl (.ref rfl) (.cons rfl (.int _) (.cons rfl (.int _) (.cons rfl (.ref rfl) .nil)))
theorem HA6 {is : List Int} {cs : List AV} (hl : cs.length < 100) {a w c : Int} : HG (execS std (callN std 12) s6S) (fun D ec => D = D5 c is cs ∧ ec = ec5 a w) (fun D ec => D = D6 c is cs w ∧ ec = ec6 a w) := by
  refine HG.run (fun e k => sS (callN_x 12) s6S e k) ?_
  rintro D ec ⟨rfl, rfl⟩
  exact run_s6 (by omega)
    ⟨rfl, _, _, ⟨rfl, rfl⟩, .inl ⟨rfl, .cons rfl (.ref rfl) (.cons rfl (.int _) (.cons rfl (.int _) (.cons rfl (.ref rfl) (.cons rfl (.ref rfl) .nil))))⟩⟩
noncomputable def st0 (w z c : Int) (is : List Int) (cs : List AV) : St := ⟨w, 0, z, -1, 0, 0, 0, 0, cs, [], [], fun _ => none, fun _ => none, [], c, is, none⟩
noncomputable def rho7 : List Nat := [4,6,5,8,7,9,10,11,13,12,14,15,16,18,19,20,0,1,2]
theorem sub7 {w z c : Int} {is : List Int} {cs : List AV} (h : NRl cs) : Sub (enc (st0 w z c is cs)) (D7 c is cs w z) rho7 where
  nd := by decide
  ok := by
    refine .cons rfl (.rc (.cons (.ref rfl) (.cons (.ref rfl) (.cons (.int _) (.cons (.int _) (.cons (.int _) (.cons .none (.cons (.str _) (.cons (.int _) (.cons (.ref rfl) (.cons (.ref rfl) (.cons (.ref rfl) .nil)))))))))))) ?_
    refine .cons rfl (.inst _ rfl) ?_
    refine .cons rfl (.attrs (.cons (.str _) (.cons (.bool _) (.cons (.ref rfl) (.cons (.ref rfl) (.cons (.ref rfl) (.cons (.int _) (.cons (.ref rfl) .nil)))))))) ?_
    refine .cons rfl (.inst _ rfl) ?_
    refine .cons rfl (.attrs (.cons (.str _) (.cons (.str _) (.cons (.bool _) (.cons (.int _) (.cons (.int _) (.cons (.ref rfl) (.cons .none .nil)))))))) ?_
    refine .cons rfl (.list .nil) ?_
    refine .cons rfl (.list (.cons (.ref rfl) .nil)) ?_
    refine .cons rfl (.list .nil) ?_
    refine .cons rfl (.inst _ rfl) ?_
    refine .cons rfl (.attrs (.cons (.ref rfl) (.cons (.int _) (.cons .none (.cons (.int _) (.cons (.int _) (.cons (.ref rfl) (.cons (.ref rfl) .nil)))))))) ?_
    refine .cons rfl (.list h.refl) ?_
    refine .cons rfl (.list .nil) ?_
    refine .cons rfl (.list .nil) ?_
    refine .cons rfl .fr ?_
    refine .cons rfl .fr ?_
    refine .cons rfl (.ilm []) ?_
    refine .cons rfl (.cell (.ref rfl)) ?_
    refine .cons rfl (.list (.cons (.ref rfl) (.cons (.int _) .nil))) ?_
    exact .cons rfl (.il _) .nil
theorem HA7 {is : List Int} {cs : List AV} (hc : CsOK cs) {a w c : Int} : HG (execS std (callN std 12) s7S) (fun D ec => D = D6 c is cs w ∧ ec = ec6 a w) (fun D ec => ∃ z, D = enc (st0 w z c is cs) ∧ ec = ecL w) := by
  refine HG.run (fun e k => sS (callN_x 12) s7S e k) ?_
  rintro D ec ⟨rfl, rfl⟩
  exact run_s7
    ⟨rfl, _, _, ⟨_, rfl, rfl⟩, .inr ⟨rho7, sub7 hc.nr, .cons rfl (.ref rfl) (.cons rfl (.int _) (.cons rfl (.ref rfl) .nil))⟩⟩
theorem start_LW {w z c : Int} {is : List Int} {cs : List AV} (h0 : 0 ≤ c) (hl : is.length < 1000) (hc : CsOK cs) (hn : cs.length < 100) : LW w 24 12 (st0 w z c is cs) where
  inv := { cs := hc, fs := NRl.nil, w := ⟨(fun v h => nomatch h), List.nodup_nil⟩, cnt := Int.le_refl 0, c2 := by show (0 : Int) ≤ 60; decide, ei := ⟨rfl, rfl⟩ }
  wt := rfl
  pc := h0
  ps := hl
  cnt := by show (0 : Int) + (24 : Nat) ≤ 40; decide
  fsn := by show 0 + 12 ≤ 40; decide
  csn := hn
theorem law_from {is : List Int} (hl : is.length < 1000) {env : AEnv} {H : HS} (hE : HE (C1 0 is []) [(101, .ref 0)] env H) :
    AllW (execB std (callN std 12) (.cons s2S (.cons s3S (.cons s4S (.cons s5S (.cons s6S (.cons s7S tail8)))))) env H) fun r => r.1 = .ret (.bool true) := by
  refine ⟨?_⟩
  refine HG.cons (HA2 hl) ⟨rfl, rfl⟩ hE ?_
  rintro D ec env H ⟨a, b, ha, hb, rfl, rfl⟩ hE
  refine HG.cons HA3 ⟨rfl, rfl⟩ hE ?_
  rintro D ec env H ⟨rfl, rfl⟩ hE
  refine HG.cons HA4 ⟨rfl, rfl⟩ hE ?_
  rintro D ec env H ⟨rfl, rfl⟩ hE
  refine HG.cons (HA5 hl) ⟨rfl, rfl⟩ hE ?_
  rintro D ec env H ⟨c, cs, hc, hcs, hcl, rfl, rfl⟩ hE
  refine HG.cons (HA6 hcl) ⟨rfl, rfl⟩ hE ?_
  rintro D ec env H ⟨rfl, rfl⟩ hE
  refine HG.cons (HA7 hcs) ⟨rfl, rfl⟩ hE ?_
  rintro D ec env H ⟨z, rfl, rfl⟩ ⟨W, e, k⟩
  have hw : 0 < std.mul 3 (std.max a b) := by
    simp only [std]
    split <;> omega
  generalize std.mul 3 (std.max a b) = w at hw e k ⊢
  obtain ⟨wd, hwd, h0⟩ : ∃ wd, lk 104 env = some (.ref wd) ∧ W 0 wd := by
    rcases k 104 with h | ⟨u, v, h1, h2, h3⟩
    · cases h
    · cases h1; cases h3 with | ref h => exact ⟨_, h2, h⟩
  obtain ⟨ce, hce, h1⟩ : ∃ ce, lk 101 env = some (.ref ce) ∧ W 16 ce := by
    rcases k 101 with h | ⟨u, v, h1, h2, h3⟩
    · cases h
    · cases h1; cases h3 with | ref h => exact ⟨_, h2, h⟩
  refine T.All.mono ?_ (tail_HT hw wd ce _ (ecL w) env H (fun _ => True) ⟨rfl, _, rfl, start_LW hc hl hcs hcl⟩ ⟨W, e, h0, h1, fun _ _ _ => trivial⟩ (ex_rel' h0 h1 e rfl k))
  rintro r ⟨h, _⟩
  exact h
theorem eExec {cf : CF} {s : S} {r : Ss} {env : AEnv} {H : HS} : execB std cf (.cons s r) env H = (execS std cf s env H).bind fun p => match p.1 with
    | .next => execB std cf r p.2.1 p.2.2
    | .ret v => .leaf (.ret v, p.2.1, p.2.2) := rfl
theorem law_wall {ns : List Int} (hn : ns.length ≤ 63) : AllW (execB std (callN std 12) b_law [(112, .blist (ns.map .int)), (101, .ref 0)] [.cell none]) fun r => r.1 = .ret (.bool true) := by
  have hl : (ns.take 40).length < 1000 := by simp; omega
  rw [law_eq]
  refine W_of eExec (W_bind (s1_all hn ?_))
  refine law_from hl ⟨Ren [0, 3, 2], Emb.ofX (by decide) (.cons rfl (.cell (.ref rfl)) (.cons rfl (.list (.cons (.ref rfl) (.cons (.int _) .nil))) (.cons rfl (.il _) .nil))), Exs.ex (.cons rfl (.ref rfl) .nil)⟩
theorem law_all : ∀ ns : List Int, ns.length ≤ 63 → (execB std (callN std 12) b_law [(112, .blist (ns.map .int)), (101, .ref 0)] [.cell none]).All (fun r => r.1 = .ret (.bool true)) := fun ns hn => (law_wall hn).w
end Mine.R
end

section
set_option linter.all false
set_option bootstrap.genMatcherCode false
namespace Mine
open PySem
noncomputable def nthS : List String → Nat → String
  | [], _ => ""
  | a :: _, 0 => a
  | _ :: r, n + 1 => nthS r n
noncomputable def nm (i : Nat) : Str := Str.ofString (nthS nameList i)
theorem ofString_inj {s t : String} (h : Str.ofString s = Str.ofString t) : s = t := by
  have h1 : (Str.ofString s).cps.toList = (Str.ofString t).cps.toList := by rw [h]
  have h2 : s.toList.map Char.toNat = t.toList.map Char.toNat := by
    rw [← cpsOfBytes_string, ← cpsOfBytes_string]; exact h1
  have inj : ∀ a b : Char, a.toNat = b.toNat → a = b := fun a b e => Char.ext (UInt32.toNat_inj.mp e)
  have h3 : s.toList = t.toList := by
    exact (List.map_inj_right (l := s.toList) (l' := t.toList) (f := Char.toNat) (fun a b => inj a b)).mp h2
  exact String.toList_injective h3
set_option profiler true in
theorem names_nodup : nameList.Nodup := by decide +kernel
theorem nthS_inj : ∀ {l : List String}, l.Nodup → ∀ {i j : Nat}, i < l.length → j < l.length → nthS l i = nthS l j → i = j
  | [], _, i, _, h, _, _ => by simp at h
  | a :: r, hn, i, j, hi, hj, e => by
    obtain ⟨h1, h2⟩ := List.nodup_cons.mp hn
    have mem : ∀ {l : List String} {k : Nat}, k < l.length → nthS l k ∈ l := by
      intro l
      induction l with
      | nil => intro k hk; simp at hk
      | cons b l ih => intro k hk; cases k with
        | zero => exact List.mem_cons_self
        | succ k => exact List.mem_cons_of_mem _ (ih (by simpa using hk))
    cases i with
    | zero => cases j with
      | zero => rfl
      | succ j => exact absurd (by have h := mem (l := r) (k := j) (by simpa using hj); rw [show a = nthS r j from e]; exact h : a ∈ r) h1
    | succ i => cases j with
      | zero => exact absurd (by have h := mem (l := r) (k := i) (by simpa using hi); rw [show a = nthS r i from e.symm]; exact h : a ∈ r) h1
      | succ j => rw [nthS_inj h2 (by simpa using hi) (by simpa using hj) e]
noncomputable def nN : Nat := 122
theorem names_len : nameList.length = nN := by rfl
theorem nm_inj {i j : Nat} (hi : i < nN) (hj : j < nN) (e : nm i = nm j) : i = j := nthS_inj names_nodup (names_len ▸ hi) (names_len ▸ hj) (ofString_inj e)
example : (Str.ofString "paths") = nm 15 := rfl
end Mine
end

section
set_option linter.all false
set_option bootstrap.genMatcherCode false
set_option maxRecDepth 10000
namespace Mine
open PySem PySem.W PySem.Calls PyProof.Rows
noncomputable abbrev Led := List (Addr × Obj)
noncomputable abbrev tupObj (ws : List Value) (n : Nat) : Obj := { cls := .type "tuple", data := .seq ws.toArray n }
structure Wd where
  r : Nat → Option Addr
  t : Led
mutual
inductive VR (b : Heap) (W : Wd) : AV → Value → Prop where
  | none : VR b W .none .none
  | bool (c : Bool) : VR b W (.bool c) (.bool c)
  | int (i : Int) (t : Tok) : VR b W (.int i) (.int i t)
  | str (k : Nat) (t : Tok) (h : k < nN) : VR b W (.str k) (.str (nm k) t)
  | bytes (ns : List Int) (u : Array UInt8) (t : Tok) (h : ns = u.toList.map fun x => (x.toNat : Int)) : VR b W (.bytes ns) (.bytes u t)
  | ref (i : Nat) (a : Addr) (h : W.r i = some a) : VR b W (.ref i) (.ref a)
  | tup (vs : List AV) (ws : List Value) (a : Addr) (n : Nat) (h : (a, tupObj ws n) ∈ W.t) (hs : VRs b W vs ws) : VR b W (.tup vs) (.ref a)
  | glob (a : Addr) : VR b W (.glob a) (.ref a)
  | blist (vs : List AV) (ws : List Value) (a : Addr) (h : b.IsList a ws.toArray) (hs : VRs b W vs ws) : VR b W (.blist vs) (.ref a)
inductive VRs (b : Heap) (W : Wd) : List AV → List Value → Prop where
  | nil : VRs b W [] []
  | cons (v : AV) (w : Value) (vs : List AV) (ws : List Value) (h : VR b W v w) (hs : VRs b W vs ws) : VRs b W (v :: vs) (w :: ws)
end
noncomputable def VRi (b : Heap) (W : Wd) : AV → Value → Prop
  | .none, v => v = .none
  | .bool x, v => v = .bool x
  | .int x, v => ∃ t, v = .int x t
  | .str x, v => ∃ t, v = .str (nm x) t ∧ x < nN
  | .bytes x, v => ∃ (u : Array UInt8) (t : Tok), v = .bytes u t ∧ x = u.toList.map fun x => (x.toNat : Int)
  | .ref x, v => ∃ a, v = .ref a ∧ W.r x = some a
  | .tup x, v => ∃ ws a n, v = .ref a ∧ (a, tupObj ws n) ∈ W.t ∧ VRs b W x ws
  | .glob x, v => v = .ref x
  | .blist x, v => ∃ ws a, v = .ref a ∧ b.IsList a ws.toArray ∧ VRs b W x ws
noncomputable def VRsi (b : Heap) (W : Wd) : List AV → List Value → Prop
  | [], v => v = []
  | x :: r, v => ∃ w ws, v = w :: ws ∧ VR b W x w ∧ VRs b W r ws
theorem VR.inv {b : Heap} {W : Wd} {x v} (h : VR b W x v) : VRi b W x v :=
  @VR.casesOn b W (fun x v _ => VRi b W x v) _ _ h rfl (fun _ => rfl) (fun _ _ => ⟨_, rfl⟩) (fun _ _ h => ⟨_, rfl, h⟩) (fun _ _ _ h => ⟨_, _, rfl, h⟩) (fun _ _ h => ⟨_, rfl, h⟩) (fun _ _ _ _ h hs => ⟨_, _, _, rfl, h, hs⟩) (fun _ => rfl) (fun _ _ _ h hs => ⟨_, _, rfl, h, hs⟩)
theorem VRs.inv {b : Heap} {W : Wd} {x v} (h : VRs b W x v) : VRsi b W x v :=
  @VRs.casesOn b W (fun x v _ => VRsi b W x v) _ _ h rfl (fun _ _ _ _ h hs => ⟨_, _, rfl, h, hs⟩)
theorem VRs.ind {b : Heap} {W : Wd} {P : List AV → List Value → Prop} (h0 : P [] []) (h1 : ∀ {v w vs ws}, VR b W v w → VRs b W vs ws → P vs ws → P (v :: vs) (w :: ws)) {x v} (h : VRs b W x v) : P x v :=
  @VRs.rec b W (fun _ _ _ => True) (fun x v _ => P x v) trivial (fun _ => trivial) (fun _ _ => trivial) (fun _ _ _ => trivial) (fun _ _ _ _ => trivial) (fun _ _ _ => trivial) (fun _ _ _ _ _ _ _ => trivial) (fun _ => trivial) (fun _ _ _ _ _ _ => trivial) h0 (fun _ _ _ _ a b _ p => h1 a b p) _ _ h
theorem VR.noneI {b : Heap} {W : Wd} {v} (h : VR b W .none v) : v = .none := h.inv
theorem VR.boolI {b : Heap} {W : Wd} {x v} (h : VR b W (.bool x) v) : v = .bool x := h.inv
theorem VR.intI {b : Heap} {W : Wd} {x v} (h : VR b W (.int x) v) : ∃ t, v = .int x t := h.inv
theorem VR.strI {b : Heap} {W : Wd} {x v} (h : VR b W (.str x) v) : ∃ t, v = .str (nm x) t ∧ x < nN := h.inv
theorem VR.bytesI {b : Heap} {W : Wd} {x v} (h : VR b W (.bytes x) v) : ∃ (u : Array UInt8) (t : Tok), v = .bytes u t ∧ x = u.toList.map fun x => (x.toNat : Int) := h.inv
theorem VR.refI {b : Heap} {W : Wd} {x v} (h : VR b W (.ref x) v) : ∃ a, v = .ref a ∧ W.r x = some a := h.inv
theorem VR.tupI {b : Heap} {W : Wd} {x v} (h : VR b W (.tup x) v) : ∃ ws a n, v = .ref a ∧ (a, tupObj ws n) ∈ W.t ∧ VRs b W x ws := h.inv
theorem VR.globI {b : Heap} {W : Wd} {x v} (h : VR b W (.glob x) v) : v = .ref x := h.inv
theorem VR.blistI {b : Heap} {W : Wd} {x v} (h : VR b W (.blist x) v) : ∃ ws a, v = .ref a ∧ b.IsList a ws.toArray ∧ VRs b W x ws := h.inv
theorem VRs.nilI {b : Heap} {W : Wd} {v} (h : VRs b W [] v) : v = [] := h.inv
theorem VRs.consI {b : Heap} {W : Wd} {x r v} (h : VRs b W (x :: r) v) : ∃ w ws, v = w :: ws ∧ VR b W x w ∧ VRs b W r ws := h.inv
structure Wd.Le (W W' : Wd) : Prop where
  r : ∀ i a, W.r i = some a → W'.r i = some a
  t : ∀ p ∈ W.t, p ∈ W'.t
theorem Wd.Le.refl (W : Wd) : W.Le W := ⟨fun _ _ h => h, fun _ h => h⟩
theorem Wd.Le.trans {W W' W'' : Wd} (h : W.Le W') (h' : W'.Le W'') : W.Le W'' := ⟨fun i a e => h'.r i a (h.r i a e), fun p e => h'.t p (h.t p e)⟩
theorem VR.mono {b : Heap} {W W' : Wd} (L : W.Le W') {v : AV} {w : Value} (h : VR b W v w) : VR b W' v w :=
  @VR.rec b W (fun v w _ => VR b W' v w) (fun v w _ => VRs b W' v w) .none .bool .int .str .bytes (fun i a h => .ref i a (L.r i a h)) (fun vs ws a n h _ hs => .tup vs ws a n (L.t _ h) hs) .glob (fun vs ws a h _ hs => .blist vs ws a h hs) .nil (fun v w vs ws _ _ h hs => .cons v w vs ws h hs) _ _ h
theorem VRs.mono {b : Heap} {W W' : Wd} (L : W.Le W') {v : List AV} {w : List Value} (h : VRs b W v w) : VRs b W' v w :=
  h.ind (P := VRs b W') .nil fun h _ hs => .cons _ _ _ _ (h.mono L) hs
theorem VRs.length {b : Heap} {W : Wd} {vs : List AV} {ws : List Value} (h : VRs b W vs ws) : vs.length = ws.length :=
  h.ind (P := fun a b => a.length = b.length) rfl fun _ _ hs => congrArg (· + 1) hs
theorem VRs.append {b : Heap} {W : Wd} {vs : List AV} {ws : List Value} {us : List AV} {xs : List Value} (h : VRs b W vs ws) (h' : VRs b W us xs) : VRs b W (vs ++ us) (ws ++ xs) :=
  h.ind (P := fun a c => VRs b W (a ++ us) (c ++ xs)) h' fun h _ hs => .cons _ _ _ _ h hs
theorem VRs.at {b : Heap} {W : Wd} {vs : List AV} {ws : List Value} (h : VRs b W vs ws) {n : Nat} : n < vs.length → ∃ w, ws[n]? = some w ∧ VR b W (nthD .none vs n) w :=
  h.ind (P := fun vs ws => ∀ n, n < vs.length → ∃ w, ws[n]? = some w ∧ VR b W (nthD .none vs n) w) (fun _ h => absurd h (Nat.not_lt_zero _))
    (fun h _ ih n => Nat.casesOn n (fun _ => ⟨_, rfl, h⟩) fun n hn => ih n (Nat.lt_of_succ_lt_succ hn)) n
inductive DRs (P : Params) (b : Heap) (W : Wd) (kv : List (Nat × AV)) : List Nat → List DictEntry → Prop where
  | nil : DRs P b W kv [] []
  | cons (k : Nat) (ks : List Nat) (v : AV) (w : Value) (t : Tok) (es : List DictEntry) (hk : k < nN) (hn : k ∉ ks) (hv : lk k kv = some v) (hw : VR b W v w) (hs : DRs P b W kv ks es) :
      DRs P b W kv (k :: ks) (⟨PyData.keyHash P (nm k), .str (nm k) t, w⟩ :: es)
section
variable {prog : Program} {w : World} {b : Heap} {W : Wd}
noncomputable def PR (b : Heap) (W : Wd) (f : Nat → Option AV) (kvs : List (Str × Value)) : Prop :=
  (∀ p ∈ kvs, ∃ k, k < nN ∧ p.1 = nm k) ∧ ∀ k, k < nN → match f k with
    | some v => ∃ w, valueAt kvs (nm k) = some w ∧ VR b W v w
    | none => valueAt kvs (nm k) = none
inductive OR (prog : Program) (w : World) (b : Heap) (W : Wd) : AO → Addr → Obj → Prop where
  | inst (c d : Nat) (a dx : Addr) (h : W.r d = some dx) : OR prog w b W (.inst c d) a (instObj c dx)
  | attrs (kv : List (Nat × AV)) (a : Addr) (ks : List Nat) (es : List DictEntry) (n : Nat) (h : DRs w.params b W kv ks es) (hc : ∀ k, (lk k kv).isSome = true → k ∈ ks) : OR prog w b W (.attrs kv) a (dictOf es n)
  | rc (kv : List (Nat × AV)) (a : Addr) (o : Obj) (kvs : List (Str × Value)) (lo : (a == sysModules) = false) (hd : o.IsDictOf (PySem.strKind prog w) kvs) (h : PR b W (fun k => lk k kv) kvs) : OR prog w b W (.rc kv) a o
  | fdict (f : Nat → Option Int) (a : Addr) (o : Obj) (kvs : List (Str × Value)) (lo : (a == sysModules) = false) (hd : o.IsDictOf (PySem.strKind prog w) kvs) (h : PR b W (fun k => (f k).map .int) kvs) : OR prog w b W (.fdict f) a o
  | list (vs : List AV) (a : Addr) (ws : List Value) (n : Nat) (h : VRs b W vs ws) : OR prog w b W (.list vs) a (listOf ws.toArray n)
  | ilist (ns : List Int) (a : Addr) (ws : List Value) (n : Nat) (h : VRs b W (ns.map .int) ws) : OR prog w b W (.ilist ns) a (listOf ws.toArray n)
  | cell0 (a : Addr) (o : Obj) (h : o.data = .cell none) : OR prog w b W (.cell none) a o
  | cell (v : AV) (a : Addr) (o : Obj) (x : Value) (h : o.data = .cell (some x)) (hv : VR b W v x) : OR prog w b W (.cell (some v)) a o
end
theorem DRs.mono {P : Params} {b : Heap} {W W' : Wd} (L : W.Le W') {kv : List (Nat × AV)} {ks : List Nat} {es : List DictEntry} (h : DRs P b W kv ks es) : DRs P b W' kv ks es :=
  @DRs.rec P b W kv (fun ks es _ => DRs P b W' kv ks es) .nil (fun k ks v w t es hk hn hv hw _ hs => .cons k ks v w t es hk hn hv (hw.mono L) hs) _ _ h
theorem PR.at {b : Heap} {W : Wd} {f : Nat → Option AV} {kvs : List (Str × Value)} (h : PR b W f kvs) {k : Nat} (hk : k < nN) {v : AV} (e : f k = some v) : ∃ w, valueAt kvs (nm k) = some w ∧ VR b W v w := by
  have := h.2 k hk
  rw [e] at this
  exact this
theorem PR.no {b : Heap} {W : Wd} {f : Nat → Option AV} {kvs : List (Str × Value)} (h : PR b W f kvs) {k : Nat} (hk : k < nN) (e : f k = none) : valueAt kvs (nm k) = none := by
  have := h.2 k hk
  rw [e] at this
  exact this
theorem PR.mono {b : Heap} {W W' : Wd} (L : W.Le W') {f : Nat → Option AV} {kvs : List (Str × Value)} (h : PR b W f kvs) : PR b W' f kvs := by
  refine ⟨h.1, fun k hk => ?_⟩
  have := h.2 k hk
  revert this
  cases f k with
  | none => exact id
  | some v => exact fun ⟨x, h1, h2⟩ => ⟨x, h1, h2.mono L⟩
theorem OR.mono {prog : Program} {w : World} {b : Heap} {W W' : Wd} (L : W.Le W') {o : AO} {a : Addr} {ob : Obj} (h : OR prog w b W o a ob) : OR prog w b W' o a ob := by
  cases h with
  | inst c d a dx h => exact .inst c d a dx (L.r _ _ h)
  | attrs kv a ks es n h hc => exact .attrs kv a ks es n (h.mono L) hc
  | rc kv a o kvs lo hd h => exact .rc kv a _ kvs lo hd (h.mono L)
  | fdict f a o kvs lo hd h => exact .fdict f a _ kvs lo hd (h.mono L)
  | list vs a ws n h => exact .list vs a ws n (h.mono L)
  | ilist ns a ws n h => exact .ilist ns a ws n (h.mono L)
  | cell0 a o h => exact .cell0 a _ h
  | cell v a o x h hv => exact .cell v a _ x h (hv.mono L)
noncomputable def ORi (prog : Program) (w : World) (b : Heap) (W : Wd) : AO → Addr → Obj → Prop
  | .inst c d, _, o => ∃ dx, o = instObj c dx ∧ W.r d = some dx
  | .attrs kv, _, o => ∃ ks es n, o = dictOf es n ∧ DRs w.params b W kv ks es ∧ ∀ k, (lk k kv).isSome = true → k ∈ ks
  | .rc kv, a, o => ∃ kvs, (a == sysModules) = false ∧ o.IsDictOf (PySem.strKind prog w) kvs ∧ PR b W (fun k => lk k kv) kvs
  | .fdict f, a, o => ∃ kvs, (a == sysModules) = false ∧ o.IsDictOf (PySem.strKind prog w) kvs ∧ PR b W (fun k => (f k).map .int) kvs
  | .list vs, _, o => ∃ ws n, o = listOf ws.toArray n ∧ VRs b W vs ws
  | .ilist ns, _, o => ∃ ws n, o = listOf ws.toArray n ∧ VRs b W (ns.map .int) ws
  | .cell none, _, o => o.data = .cell none
  | .cell (some v), _, o => ∃ x, o.data = .cell (some x) ∧ VR b W v x
  | .gone, _, _ => False
theorem OR.inv {prog : Program} {w : World} {b : Heap} {W : Wd} {o : AO} {a : Addr} {ob : Obj} (h : OR prog w b W o a ob) : ORi prog w b W o a ob :=
  @OR.casesOn prog w b W (fun o a ob _ => ORi prog w b W o a ob) _ _ _ h (fun _ _ _ dx h => ⟨dx, rfl, h⟩) (fun _ _ ks es n h hc => ⟨ks, es, n, rfl, h, hc⟩) (fun _ _ _ kvs lo hd h => ⟨kvs, lo, hd, h⟩) (fun _ _ _ kvs lo hd h => ⟨kvs, lo, hd, h⟩)
    (fun _ _ ws n h => ⟨ws, n, rfl, h⟩) (fun _ _ ws n h => ⟨ws, n, rfl, h⟩) (fun _ _ h => h) (fun _ _ _ x h hv => ⟨x, h, hv⟩)
section
variable {prog : Program} {w : World} {b : Heap} {W : Wd} {a : Addr} {ob : Obj}
theorem OR.instI {c d} (h : OR prog w b W (.inst c d) a ob) : ∃ dx, ob = instObj c dx ∧ W.r d = some dx := h.inv
theorem OR.attrsI {kv} (h : OR prog w b W (.attrs kv) a ob) : ∃ ks es n, ob = dictOf es n ∧ DRs w.params b W kv ks es ∧ ∀ k, (lk k kv).isSome = true → k ∈ ks := h.inv
theorem OR.rcI {kv} (h : OR prog w b W (.rc kv) a ob) : ∃ kvs, (a == sysModules) = false ∧ ob.IsDictOf (PySem.strKind prog w) kvs ∧ PR b W (fun k => lk k kv) kvs := h.inv
theorem OR.fdI {f} (h : OR prog w b W (.fdict f) a ob) : ∃ kvs, (a == sysModules) = false ∧ ob.IsDictOf (PySem.strKind prog w) kvs ∧ PR b W (fun k => (f k).map .int) kvs := h.inv
theorem OR.listI {vs} (h : OR prog w b W (.list vs) a ob) : ∃ ws n, ob = listOf ws.toArray n ∧ VRs b W vs ws := h.inv
theorem OR.ilistI {ns} (h : OR prog w b W (.ilist ns) a ob) : ∃ ws n, ob = listOf ws.toArray n ∧ VRs b W (ns.map .int) ws := h.inv
end
theorem OR.notTup {prog : Program} {w : World} {b : Heap} {W : Wd} {o : AO} {a : Addr} {ws : List Value} {n : Nat} (h : OR prog w b W o a (tupObj ws n)) : False := by
  generalize e : tupObj ws n = ob at h
  have ec : ob.cls = .type "tuple" := by rw [← e]
  have ed : ob.data = .seq ws.toArray n := by rw [← e]
  cases h with
  | inst c d a dx h => simp at ec
  | attrs kv a ks es n h hc => simp at ec
  | rc kv a o kvs lo hd h => obtain ⟨es, ep, he, _⟩ := hd; rw [show ob.cls = .type "dict" from he.1] at ec; simp at ec
  | fdict f a o kvs lo hd h => obtain ⟨es, ep, he, _⟩ := hd; rw [show ob.cls = .type "dict" from he.1] at ec; simp at ec
  | list vs a ws n h => simp at ec
  | ilist ns a ws n h => simp at ec
  | cell0 a o h => rw [h] at ed; cases ed
  | cell v a o x h hv => rw [h] at ed; cases ed
theorem hget_hset_same (H : HS) (i : Nat) (x o : AO) (h : hget H i = some o) : hget (hset H i x) i = some x := R.hget_hset_self h
theorem hget_hset_ne (H : HS) (i j : Nat) (x : AO) (h : j ≠ i) : hget (hset H i x) j = hget H j := R.hget_hset_other h.symm
theorem hlen_hset (H : HS) (i : Nat) (x : AO) : hlen (hset H i x) = hlen H := R.hlen_hset
theorem hget_lt {H : HS} {i : Nat} {o : AO} (h : hget H i = some o) : i < hlen H := R.hget_lt h
theorem hget_hnew_old {H : HS} {i : Nat} {x : AO} (h : i < hlen H) : hget (hnew H x) i = hget H i := R.hget_hnew_before h
theorem hget_hnew_self {H : HS} {x : AO} : hget (hnew H x) (hlen H) = some x := R.hget_hnew_last
theorem hlen_hnew (H : HS) (x : AO) : hlen (hnew H x) = hlen H + 1 := R.hlen_hnew
theorem hget_hset_gone {H : HS} {i j : Nat} {x o : AO} (h : hget (hset H i x) j = some o) (hj : j ≠ i) : hget H j = some o := by rw [hget_hset_ne H i j x hj] at h; exact h
theorem hget_hset_at {H : HS} {i : Nat} {x o : AO} (h : hget (hset H i x) i = some o) : o = x := by
  have hl := hget_lt h
  rw [hlen_hset] at hl
  have ex : ∃ o', hget H i = some o' := by
    clear h
    induction H generalizing i with
    | nil => exact absurd hl (Nat.not_lt_zero _)
    | cons a r ih => cases i with
      | zero => exact ⟨a, rfl⟩
      | succ i => exact ih (Nat.lt_of_succ_lt_succ hl)
  obtain ⟨o', ho'⟩ := ex
  rw [hget_hset_same H i x o' ho'] at h
  exact (Option.some.inj h).symm
structure Cx where
  prog : Program
  w : World
  K : Frag
  b : Heap
  h₀ : Heap
  L : Addr
  xs : Led
structure Bears (c : Cx) (W : Wd) (H : HS) (led : Led) : Prop where
  obj : ∀ i o, hget H i = some o → o ≠ .gone → ∃ a ob, W.r i = some a ∧ (a, ob) ∈ led ∧ OR c.prog c.w c.b W o a ob
  tup : ∀ p ∈ W.t, p ∈ led ∧ ∃ ws n, p.2 = tupObj ws n
  xs : ∀ p ∈ c.xs, p ∈ led
  inj : ∀ i j o o' a, hget H i = some o → o ≠ .gone → hget H j = some o' → o' ≠ .gone → W.r i = some a → W.r j = some a → i = j
  off : ∀ i o a, hget H i = some o → o ≠ .gone → W.r i = some a → ∀ p ∈ c.xs, p.1 ≠ a
  top : ∀ i, hlen H ≤ i → W.r i = none
  toff : ∀ p ∈ W.t, ∀ q ∈ c.xs, q.1 ≠ p.1
structure St (c : Cx) (m : Str → Option Value) (W : Wd) (H : HS) (h : Heap) : Prop where
  fr : Fr c.h₀ c.L h m
  led : ∃ led, News c.h₀ c.L h led ∧ Bears c W H led
theorem News.same {h₀ h : Heap} {L a : Addr} {o o' : Obj} {led : Led} (N : News h₀ L h led) (h1 : (a, o) ∈ led) (h2 : (a, o') ∈ led) : o = o' :=
  Option.some.inj ((N _ h1).1.symm.trans (N _ h2).1)
theorem St.split {c : Cx} {m : Str → Option Value} {W : Wd} {H : HS} {h : Heap} (S : St c m W H h) {i : Nat} {o : AO} (hi : hget H i = some o) (hg : o ≠ .gone) :
    ∃ a ob rest, W.r i = some a ∧ OR c.prog c.w c.b W o a ob ∧ News c.h₀ c.L h ((a, ob) :: rest) ∧ (∀ p ∈ rest, p.1 ≠ a) ∧
      ∀ (x : AO) (ob' : Obj) (h' : Heap), (x ≠ .gone → OR c.prog c.w c.b W x a ob') → Fr c.h₀ c.L h' m → News c.h₀ c.L h' ((a, ob') :: rest) → St c m W (hset H i x) h' := by
  obtain ⟨F, led, N, B⟩ := S
  obtain ⟨a, ob, ha, hm, hR⟩ := B.obj i o hi hg
  refine ⟨a, ob, led.filter fun p => decide (p.1 ≠ a), ha, hR, ?_, ?_, ?_⟩
  · intro p hp
    rcases List.mem_cons.mp hp with rfl | hp
    · exact N _ hm
    · exact N p (List.mem_filter.mp hp).1
  · intro p hp
    simpa using (List.mem_filter.mp hp).2
  · intro x ob' h' hx F' N'
    have keep : ∀ p ∈ led, p.1 ≠ a → p ∈ (a, ob') :: led.filter fun p => decide (p.1 ≠ a) := fun p hp hne =>
      List.mem_cons_of_mem _ (List.mem_filter.mpr ⟨hp, by simpa using hne⟩)
    refine ⟨F', _, N', ⟨fun j y hj hy => ?_, fun p hp => ?_, fun p hp => ?_, ?_, ?_, fun j hj => B.top j (by rw [hlen_hset] at hj; exact hj), B.toff⟩⟩
    · by_cases e : j = i
      · subst e
        cases hget_hset_at hj
        exact ⟨a, ob', ha, List.mem_cons_self, hx hy⟩
      · have hj' := hget_hset_gone hj e
        obtain ⟨a', ob₁, ha', hm', hR'⟩ := B.obj j y hj' hy
        refine ⟨a', ob₁, ha', keep _ hm' fun q => ?_, hR'⟩
        have q' : a' = a := q
        subst q'
        exact e (B.inj j i y o a' hj' hy hi hg ha' ha)
    · obtain ⟨h1, ws, n, h2⟩ := B.tup p hp
      refine ⟨keep p h1 fun q => ?_, ws, n, h2⟩
      have : (a, tupObj ws n) ∈ led := by rw [← h2, ← q]; exact h1
      rw [News.same N hm this] at hR
      exact hR.notTup
    · exact keep p (B.xs p hp) (B.off i o a hi hg ha p hp)
    · intro j k y z a' hj hy hk hz hja hka
      have back : ∀ {j : Nat} {y : AO}, hget (hset H i x) j = some y → y ≠ .gone → ∃ y', hget H j = some y' ∧ y' ≠ .gone := fun {j y} hj hy => by
        by_cases e : j = i
        · subst e; exact ⟨o, hi, hg⟩
        · exact ⟨y, hget_hset_gone hj e, hy⟩
      obtain ⟨y', h1, h2⟩ := back hj hy
      obtain ⟨z', h3, h4⟩ := back hk hz
      exact B.inj j k y' z' a' h1 h2 h3 h4 hja hka
    · intro j y a' hj hy hja
      by_cases e : j = i
      · subst e; exact B.off j o a' hi hg hja
      · exact B.off j y a' (hget_hset_gone hj e) hy hja
noncomputable def Wd.put (W : Wd) (i : Nat) (a : Addr) : Wd := ⟨fun j => if j = i then some a else W.r j, W.t⟩
theorem Wd.le_put {W : Wd} {i : Nat} {a : Addr} (h : W.r i = none) : W.Le (W.put i a) :=
  ⟨fun j x e => by
    show (if j = i then some a else W.r j) = some x
    by_cases q : j = i
    · subst q; rw [h] at e; cases e
    · rw [if_neg q]; exact e, fun p hp => hp⟩
theorem Wd.put_self {W : Wd} {i : Nat} {a : Addr} : (W.put i a).r i = some a := by
  show (if i = i then some a else W.r i) = some a
  rw [if_pos rfl]
theorem St.alloc' {c : Cx} {m : Str → Option Value} {W : Wd} {H : HS} {h : Heap} {led : Led} (F : Fr c.h₀ c.L h m) (N : News c.h₀ c.L h led) (B : Bears c W H led)
    (x : AO) (a : Addr) (ob : Obj) (h' : Heap) (hne : ∀ p ∈ led, p.1 ≠ a) (hR : OR c.prog c.w c.b (W.put (hlen H) a) x a ob) (F' : Fr c.h₀ c.L h' m) (N' : News c.h₀ c.L h' ((a, ob) :: led)) :
      W.Le (W.put (hlen H) a) ∧ Bears c (W.put (hlen H) a) (hnew H x) ((a, ob) :: led) := by
  have L := Wd.le_put (a := a) (B.top (hlen H) (Nat.le_refl _))
  have old : ∀ {j : Nat} {y : AO}, hget (hnew H x) j = some y → j ≠ hlen H → hget H j = some y := fun {j y} hj hne => by
    have hl := hget_lt hj
    rw [hlen_hnew] at hl
    rw [hget_hnew_old (Nat.lt_of_le_of_ne (Nat.le_of_lt_succ hl) hne)] at hj
    exact hj
  have rold : ∀ {j : Nat} {a' : Addr}, j ≠ hlen H → (W.put (hlen H) a).r j = some a' → W.r j = some a' := fun {j a'} hne e => by
    have e' : (if j = hlen H then some a else W.r j) = some a' := e
    rwa [if_neg hne] at e'
  have ner : ∀ {j : Nat} {y : AO}, hget H j = some y → y ≠ .gone → W.r j ≠ some a := fun {j y} hj hy e => by
    obtain ⟨a', ob', ha', hm', _⟩ := B.obj j y hj hy
    rw [e] at ha'; cases ha'
    exact hne _ hm' rfl
  refine ⟨L, ⟨fun j y hj hy => ?_, fun p hp => ?_, fun p hp => List.mem_cons_of_mem _ (B.xs p hp), ?_, ?_, fun j hj => ?_, B.toff⟩⟩
  · by_cases e : j = hlen H
    · subst e
      rw [hget_hnew_self] at hj
      cases hj
      exact ⟨a, ob, Wd.put_self, List.mem_cons_self, hR⟩
    · obtain ⟨a', ob', ha', hm', hR'⟩ := B.obj j y (old hj e) hy
      exact ⟨a', ob', L.r _ _ ha', List.mem_cons_of_mem _ hm', hR'.mono L⟩
  · obtain ⟨h1, h2⟩ := B.tup p hp
    exact ⟨List.mem_cons_of_mem _ h1, h2⟩
  · intro j k y z a' hj hy hk hz hja hka
    by_cases e : j = hlen H
    · by_cases e' : k = hlen H
      · rw [e, e']
      · subst e
        have : a' = a := Option.some.inj (hja.symm.trans Wd.put_self)
        subst this
        exact absurd (rold e' hka) (ner (old hk e') hz)
    · by_cases e' : k = hlen H
      · subst e'
        have : a' = a := Option.some.inj (hka.symm.trans Wd.put_self)
        subst this
        exact absurd (rold e hja) (ner (old hj e) hy)
      · exact B.inj j k y z a' (old hj e) hy (old hk e') hz (rold e hja) (rold e' hka)
  · intro j y a' hj hy hja p hp
    by_cases e : j = hlen H
    · subst e
      have : a' = a := Option.some.inj (hja.symm.trans Wd.put_self)
      subst this
      exact hne p (B.xs p hp)
    · exact B.off j y a' (old hj e) hy (rold e hja) p hp
  · rw [hlen_hnew] at hj
    have : ¬ j = hlen H := by omega
    show (if j = hlen H then some a else W.r j) = none
    rw [if_neg this]
    exact B.top j (by omega)
theorem St.alloc {c : Cx} {m : Str → Option Value} {W : Wd} {H : HS} {h : Heap} (S : St c m W H h) :
    ∃ led, News c.h₀ c.L h led ∧ ∀ (x : AO) (a : Addr) (ob : Obj) (h' : Heap), (∀ p ∈ led, p.1 ≠ a) → OR c.prog c.w c.b (W.put (hlen H) a) x a ob → Fr c.h₀ c.L h' m → News c.h₀ c.L h' ((a, ob) :: led) →
      W.Le (W.put (hlen H) a) ∧ St c m (W.put (hlen H) a) (hnew H x) h' := by
  obtain ⟨F, led, N, B⟩ := S
  exact ⟨led, N, fun x a ob h' hne hR F' N' => let ⟨L, B'⟩ := St.alloc' F N B x a ob h' hne hR F' N'; ⟨L, F', _, N', B'⟩⟩
end Mine
end

section
set_option linter.all false
set_option bootstrap.genMatcherCode false
set_option maxRecDepth 10000
namespace Mine
open PySem PySem.W PySem.Calls PyProof.Rows
noncomputable def opOf : Op → Operator
  | .add => .Add | .sub => .Sub | .mul => .Mult | .fdiv => .FloorDiv | .mod => .Mod
noncomputable def cmOf : Cm → CmpOp
  | .eq => .Eq | .ne => .NotEq | .lt => .Lt | .le => .LtE | .gt => .Gt | .ge => .GtE
theorem br_all {α : Type} {c : Bool} {t e : Unit → T α} {P : α → Prop} (h : (br c t e).All P) : (c = true → (t ()).All P) ∧ (c = false → (e ()).All P) := by
  cases c with
  | true => exact ⟨fun _ => h, fun x => by cases x⟩
  | false => exact ⟨fun x => (by cases x), fun _ => h⟩
theorem opt_all {α β : Type} {o : Option α} {f : α → T β} {P : β → Prop} (h : (opt o f).All P) : ∃ a, o = some a ∧ (f a).All P := by
  cases o with
  | none => exact h.elim
  | some a => exact ⟨a, rfl, h⟩
section
variable {prog : Program} {w : World} {A : Around} {E : Value → Shared → Prop} {s : Shared} {b : Heap} {W : Wd} {Q : Value → Shared → Prop}
theorem mulOk_small {x y : Int} (h : small x = true) : IntMulOk x y := by
  refine IntMulOk.of_left ?_
  unfold small at h
  have h1 : -1000000 < x ∧ x < 1000000 := by simpa using h
  exact intBits_le_64 (k := x) (by omega) (by omega)
theorem nopylong {x y : Int} (h1 : -1000000 < y) (h2 : y < 1000000) : Builtin.divisionGoesByPylong x y = false := by
  unfold Builtin.divisionGoesByPylong
  have hd : (if (y == 0) = true then 0 else y.natAbs.log2 / 30 + 1) ≤ 300 := by
    split
    · omega
    · have : y.natAbs.log2 < 20 := by
        have h3 : y.natAbs < 2 ^ 20 := by omega
        rcases Nat.eq_zero_or_pos y.natAbs with e | e
        · rw [e]; decide
        · exact (Nat.log2_lt (by omega)).mpr h3
      omega
  have : decide ((if (y == 0) = true then 0 else y.natAbs.log2 / 30 + 1) > 300) = false := decide_eq_false (by omega)
  simp only [this, Bool.false_and]
theorem binop_snd {o : Op} {p q : AV} {v u : Value} (hv : VR b W p v) (hu : VR b W q u) (h : (binop std o p q).All fun r => ∀ x tk', VR b W r x → Q x { s with toks := tk' }) :
    wpAny (model prog w) A (binaryOp (opOf o) v u) Q E s := by
  cases p with
  | int x => cases q with
    | int y =>
      obtain ⟨t, rfl⟩ := hv.intI
      obtain ⟨u, rfl⟩ := hu.intI
      cases o with
      | add => exact add_int (h _ _ (.int _ _))
      | sub => exact sub_int (h _ _ (.int _ _))
      | mul =>
        cases hs : small x with
        | true => exact mul_int ((br_all h).1 hs _ _ (.int _ _)) (mulOk_small hs)
        | false => exact ((br_all h).2 hs).elim
      | fdiv => exact floordiv_int h.1.1 (h.2 _ _ (.int _ _)) (.inl (nopylong h.1.2.1 h.1.2.2))
      | mod => exact mod_int' h.1 (h.2 _ _ (.int _ _))
    | _ => exact h.elim
  | _ => exact h.elim
theorem iadd_snd {p q : AV} {v u : Value} (hv : VR b W p v) (hu : VR b W q u) (h : (binop std .add p q).All fun r => ∀ x tk', VR b W r x → Q x { s with toks := tk' }) :
    wpAny (model prog w) A (inplaceOp .Add v u) Q E s := by
  cases p with
  | int x => cases q with
    | int y =>
      obtain ⟨t, rfl⟩ := hv.intI
      obtain ⟨u, rfl⟩ := hu.intI
      exact iadd_int (h _ _ (.int _ _))
    | _ => exact h.elim
  | _ => exact h.elim
theorem nm_beq {x y : Nat} (hx : x < nN) (hy : y < nN) : (nm x == nm y) = Nat.beq x y := by
  by_cases q : x = y
  · subst q; simp
  · have : nm x ≠ nm y := fun z => q (nm_inj hx hy z)
    have h1 : (nm x == nm y) = false := by simpa using this
    have h2 : Nat.beq x y = false := by
      cases hb : Nat.beq x y with
      | false => rfl
      | true => exact absurd (Nat.eq_of_beq_eq_true hb) q
    rw [h1, h2]
theorem cmp_snd {c : Cm} {p q : AV} {v u : Value} (hv : VR b W p v) (hu : VR b W q u) (h : (cmpop std c p q).All fun r => Q (.bool r) s) :
    wpAny (model prog w) A (compareOp (cmOf c) v u) Q E s := by
  cases p with
  | none =>
    cases hv.noneI
    cases q with
    | none =>
      cases hu.noneI
      cases c with
      | eq => exact EqNone.eq_none_none h
      | ne => exact EqNone.ne_none_none h
      | _ => exact h.elim
    | int y =>
      obtain ⟨t, rfl⟩ := hu.intI
      cases c with
      | eq => exact EqNone.eq_none_int h
      | ne => exact EqNone.ne_none_int h
      | _ => exact h.elim
    | _ => exact h.elim
  | bool x =>
    cases q with
    | bool y =>
      cases hv.boolI
      cases hu.boolI
      cases c with
      | eq => exact eq_bool h
      | ne => exact ne_bool h
      | _ => exact h.elim
    | _ => exact h.elim
  | int x =>
    obtain ⟨t, rfl⟩ := hv.intI
    cases q with
    | none =>
      cases hu.noneI
      cases c with
      | eq => exact EqNone.eq_int_none h
      | ne => exact EqNone.ne_int_none h
      | _ => exact h.elim
    | int y =>
      obtain ⟨u, rfl⟩ := hu.intI
      cases c with
      | eq => exact eq_int (by have e : (x == y) = decide (x = y) := rfl; rw [e]; exact h)
      | ne => exact ne_int (by have e : (x != y) = !decide (x = y) := rfl; rw [e]; exact h)
      | lt => exact lt_int h
      | le => exact le_int h
      | gt => exact gt_int h
      | ge => exact ge_int h
    | _ => exact h.elim
  | str x =>
    cases q with
    | str y =>
      obtain ⟨t, rfl, hx⟩ := hv.strI
      obtain ⟨u, rfl, hy⟩ := hu.strI
      have e := nm_beq hx hy
      cases c with
      | eq => exact PyProof.Rows.eq_str (by rw [e]; exact h)
      | ne => exact PyProof.Rows.ne_str (by rw [bne, e]; exact h)
      | _ => exact h.elim
    | _ => exact h.elim
  | _ => exact h.elim
theorem isNone_snd {p : AV} {v : Value} (hv : VR b W p v) (h : Q (.bool (isNoneV p)) s) : wpAny (model prog w) A (compareOp .Is v .none) Q E s := by
  cases hv <;> exact is_none_gen h
theorem notNone_snd {p : AV} {v : Value} (hv : VR b W p v) (h : Q (.bool (!isNoneV p)) s) : wpAny (model prog w) A (compareOp .IsNot v .none) Q E s := by
  cases hv <;> exact isnot_none_gen h
theorem truth_snd {p : AV} {v : Value} {Q : Bool → Shared → Prop} (hv : VR b W p v) (h : (truthV p).All fun r => Q r s) : wpAny (model prog w) A (truthy v) Q E s := by
  cases p with
  | none => cases hv.noneI; exact truthy_none h
  | bool x => cases hv.boolI; exact wpAny_truthy_bool h
  | _ => exact h.elim
end
end Mine
end

section
set_option linter.all false
set_option bootstrap.genMatcherCode false
set_option maxRecDepth 10000
namespace Mine
open PySem PySem.W PySem.Calls PyProof.Rows
structure ClsOk (K : Frag) (C : Addr) (cl : Cls) : Prop where
  makes : makesIn K C = true
  init : findIn K (.ref C) "__init__" = some (some (.ref cl.init))
  initFn : isFn K (.ref cl.init) = true
  keep : keepIn K (.ref C) = true
  sett : findIn K (.ref C) "__setattr__" = some (some (.builtin "object.__setattr__"))
  plain : plainOver K C = true
  dict : hasDictIn K C = true
  attr : ∀ a, has a cl.attrs = true → a < nN ∧ plainGet K C (nm a) = true ∧ findIn K (.ref C) (nm a) = some none ∧ takerIn K C (nm a) = some none
  meth : ∀ m f, find m cl.meths = some f → m < nN ∧ plainGet K C (nm m) = true ∧ findIn K (.ref C) (nm m) = some (some (.ref f)) ∧ isFn K (.ref f) = true ∧ keepIn K (.ref f) = true
noncomputable def ClsAll (K : Frag) : Prop := ∀ C cl, find C clsTab = some cl → ClsOk K C cl
theorem beq_eq (i j : Nat) : Nat.beq i j = decide (i = j) := by
  by_cases h : i = j
  · subst h; simp
  · rw [decide_eq_false h]
    cases hb : Nat.beq i j with
    | false => rfl
    | true => exact absurd (Nat.eq_of_beq_eq_true hb) h
theorem lk_put (a : Nat) (x : AV) (kv : List (Nat × AV)) (j : Nat) : lk j (put a x kv) = if j = a then some x else lk j kv := by
  by_cases h : j = a
  · rw [if_pos h, h]; exact R.lk_put_self
  · rw [if_neg h]; exact R.lk_put_ne h
theorem DRs.mem {P : Params} {b : Heap} {W : Wd} {kv : List (Nat × AV)} {ks : List Nat} {es : List DictEntry} (hd : DRs P b W kv ks es) : ∀ k ∈ ks, k < nN ∧ (lk k kv).isSome = true := by
  induction hd with
  | nil => exact fun _ h => absurd h List.not_mem_nil
  | cons k ks v w t es hk hn hv hw hs ih => exact fun j h => (List.mem_cons.mp h).elim (fun e => e ▸ ⟨hk, by rw [hv]; rfl⟩) (ih j)
theorem nodup_bound : ∀ {n : Nat} {l : List Nat}, l.Nodup → (∀ k ∈ l, k < n) → l.length ≤ n
  | 0, l, _, h => by
    cases l with
    | nil => exact Nat.le_refl _
    | cons a r => exact absurd (h a List.mem_cons_self) (Nat.not_lt_zero _)
  | n + 1, l, hn, h => by
    have h1 : (l.erase n).length ≤ n := nodup_bound (hn.erase n) fun k hk => by
      have h2 := (List.Nodup.mem_erase_iff hn).mp hk
      have := h k h2.2
      omega
    have h3 : l.length ≤ (l.erase n).length + 1 := by
      rw [List.length_erase]; split <;> omega
    omega
theorem DRs.nodup {P : Params} {b : Heap} {W : Wd} {kv : List (Nat × AV)} {ks : List Nat} {es : List DictEntry} (hd : DRs P b W kv ks es) : ks.Nodup ∧ es.length = ks.length := by
  induction hd with
  | nil => exact ⟨.nil, rfl⟩
  | cons k ks v w t es hk hn hv hw hs ih => exact ⟨List.nodup_cons.mpr ⟨hn, ih.1⟩, congrArg (· + 1) ih.2⟩
theorem DRs.short {P : Params} {b : Heap} {W : Wd} {kv : List (Nat × AV)} {ks : List Nat} {es : List DictEntry} (h : DRs P b W kv ks es) : es.length ≤ nN := by
  rw [h.nodup.2]; exact nodup_bound h.nodup.1 fun k hk => (h.mem k hk).1
theorem isStr_nm {k j : Nat} {t : Tok} (hk : k < nN) (hj : j < nN) : (Value.str (nm k) t).isStr (nm j) = decide (k = j) := by
  show (nm k == nm j) = _
  by_cases h : k = j
  · subst h; simp
  · rw [decide_eq_false h]
    simpa using fun e => h (nm_inj hk hj e)
theorem getL_cons {P : Params} {k a : Nat} {t : Tok} {w : Value} (hk : k < nN) (ha : a < nN) (r : List DictEntry) : (PySem.W.getL (nm a) (⟨PyData.keyHash P (nm k), .str (nm k) t, w⟩ :: r)) = if k = a then some (some w) else PySem.W.getL (nm a) r := by
  unfold PySem.W.getL
  rw [List.find?_cons, List.any_cons]
  have h1 : (Value.str (nm k) t).isStr (nm a) = decide (k = a) := isStr_nm hk ha
  have h2 : DictEntry.refKey ⟨PyData.keyHash P (nm k), .str (nm k) t, w⟩ = false := rfl
  rw [h1, h2]
  by_cases q : k = a
  · rw [decide_eq_true q, if_pos q]
  · rw [decide_eq_false q, if_neg q]; simp
theorem DRs.getL {P : Params} {b : Heap} {W : Wd} {kv : List (Nat × AV)} {ks : List Nat} {es : List DictEntry} (hd : DRs P b W kv ks es) {a : Nat} (ha : a < nN) :
    (a ∈ ks → ∃ v u, lk a kv = some v ∧ getL (nm a) es = some (some u) ∧ VR b W v u) ∧ (a ∉ ks → getL (nm a) es = some none) := by
  induction hd with
  | nil => exact ⟨fun h => absurd h List.not_mem_nil, fun _ => rfl⟩
  | cons k ks v w t es hk hn hv hw hs ih =>
    rw [getL_cons hk ha]
    obtain ⟨i1, i2⟩ := ih
    refine ⟨fun h => ?_, fun h => ?_⟩
    · by_cases q : k = a
      · subst q
        exact ⟨v, w, hv, by rw [if_pos rfl], hw⟩
      · rw [if_neg q]
        rcases List.mem_cons.mp h with h | h
        · exact absurd h.symm q
        · exact i1 h
    · have q : k ≠ a := fun q => h (by rw [q]; exact List.mem_cons_self)
      rw [if_neg q]
      exact i2 fun h' => h (List.mem_cons_of_mem _ h')
theorem DRs.weak {P : Params} {b : Heap} {W : Wd} {kv kv' : List (Nat × AV)} {ks : List Nat} {es : List DictEntry} (hd : DRs P b W kv ks es) : (∀ k ∈ ks, lk k kv' = lk k kv) → DRs P b W kv' ks es := by
  induction hd with
  | nil => exact fun _ => .nil
  | cons k ks v w t es hk hn hv hw hs ih => exact fun h => .cons k ks v w t es hk hn ((h k List.mem_cons_self).trans hv) hw (ih fun j hj => h j (List.mem_cons_of_mem _ hj))
theorem DRs.putL {P : Params} {b : Heap} {W : Wd} {kv : List (Nat × AV)} {a : Nat} {x : AV} {u : Value} (ha : a < nN) (hx : VR b W x u) (tk : Tok) {ks : List Nat} {es : List DictEntry} (hd : DRs P b W kv ks es) :
    ∃ ks', (∀ k, k ∈ ks' ↔ k ∈ ks ∨ k = a) ∧ DRs P b W (put a x kv) ks' (putL (nm a) (PyData.keyHash P (nm a)) (.str (nm a) tk) u es) := by
  induction hd with
  | nil => exact ⟨[a], by simp, .cons a [] x u tk [] ha (by simp) (by rw [lk_put, if_pos rfl]) hx .nil⟩
  | cons k ks v w t es hk hn hv hw hs ih =>
    have h1 : (Value.str (nm k) t).isStr (nm a) = decide (k = a) := isStr_nm hk ha
    by_cases q : k = a
    · subst q
      refine ⟨k :: ks, fun j => ⟨fun h => .inl h, fun h => h.elim id fun e => by rw [e]; exact List.mem_cons_self⟩, ?_⟩
      unfold PySem.W.putL
      rw [h1]; simp only [decide_true, if_true]
      exact .cons k ks x u t es hk hn (by rw [lk_put, if_pos rfl]) hx (hs.weak fun j hj => by
        rw [lk_put, if_neg fun e => hn (by rw [← e]; exact hj)])
    · obtain ⟨ks', m1, d1⟩ := ih
      refine ⟨k :: ks', fun j => ?_, ?_⟩
      · rw [List.mem_cons, List.mem_cons, m1, or_assoc]
      · unfold PySem.W.putL
        rw [h1, decide_eq_false q]; simp only [Bool.false_eq_true, if_false]
        exact .cons k ks' v w t _ hk (fun h => by rcases (m1 k).mp h with h | h; exact hn h; exact q h) (by rw [lk_put, if_neg q]; exact hv) hw d1
noncomputable abbrev PV (c : Cx) (m : Str → Option Value) (W : Wd) (s : Shared) (Q : Value → Shared → Prop) (r : AV × HS) : Prop :=
  ∀ v W' h' tk', W.Le W' → St c m W' r.2 h' → VR c.b W' r.1 v → Q v { s with heap := h', toks := tk' }
noncomputable abbrev PU (c : Cx) (m : Str → Option Value) (W : Wd) (s : Shared) (Q : Unit → Shared → Prop) (H : HS) : Prop :=
  ∀ W' h' tk', W.Le W' → St c m W' H h' → Q () { s with heap := h', toks := tk' }
section
variable {c : Cx} {m : Str → Option Value} {W : Wd} {H : HS} {A : Around} {s : Shared} {E : Value → Shared → Prop}
theorem instAt_inv {v : AV} {C : Nat} {cl : Cls} {d : Nat} {kv : List (Nat × AV)} (h : instAt H v = some (C, cl, d, kv)) : ∃ i, v = .ref i ∧ hget H i = some (.inst C d) ∧ find C clsTab = some cl ∧ hget H d = some (.attrs kv) := by
  unfold instAt at h
  split at h
  · rename_i i
    split at h
    · rename_i C' d' hi
      split at h
      · rename_i cl' kv' h1 h2
        cases h
        exact ⟨i, rfl, hi, h1, h2⟩
      · cases h
    · cases h
  · cases h
theorem St.inst (S : St c m W H s.heap) (v : AV) {w : Value} {C : Nat} {cl : Cls} {d : Nat} {kv : List (Nat × AV)} (hi : instAt H v = some (C, cl, d, kv)) (hv : VR c.b W v w) :
    ∃ x dx ks es n, w = .ref x ∧ W.r d = some dx ∧ PySem.W.InstAt s.heap x (instObj C dx) C (some (dictOf es n)) ∧ DRs c.w.params c.b W kv ks es ∧ (∀ k, (lk k kv).isSome = true → k ∈ ks) := by
  obtain ⟨i, rfl, h1, h2, h3⟩ := instAt_inv hi
  obtain ⟨F, led, N, B⟩ := S
  obtain ⟨x, ox, hx, mx, rx⟩ := B.obj i _ h1 (by simp)
  obtain ⟨dx, od, hdx, md, rd⟩ := B.obj d _ h3 (by simp)
  cases hv with
  | ref i a ha =>
    rw [hx] at ha; cases ha
    cases rx with
    | inst _ _ _ dx' h =>
      rw [hdx] at h; cases h
      cases rd with
      | attrs _ _ ks es n h hc => exact ⟨x, dx, ks, es, n, rfl, hdx, PySem.W.InstAt.of_news N mx md, h, hc⟩
theorem getA_snd (S : St c m W H s.heap) (X : c.K.In c.h₀) (CA : ClsAll c.K) {p r : AV} {v : Value} {a : Nat} {Q : Value → Shared → Prop} (hv : VR c.b W p v) (hg : getA H p a = some r)
    (h : ∀ u, VR c.b W r u → Q u { s with toks := s.toks + 1 }) : wpAny (model c.prog c.w) A (getAttr v (nm a) true) Q E s := by
  unfold getA at hg
  split at hg
  · rename_i C cl d kv hi
    split at hg
    · rename_i ha
      obtain ⟨x, dx, ks, es, n, rfl, hdx, I, D, hc⟩ := S.inst p hi hv
      obtain ⟨_, _, _, hcl, _⟩ := instAt_inv hi
      have ok := CA C cl hcl
      obtain ⟨a1, a2, a3, a4⟩ := ok.attr a ha
      obtain ⟨v', u, h1, h2, h3⟩ := (D.getL a1).1 (hc a (by rw [hg]; rfl))
      rw [hg] at h1; cases h1
      refine get_own S.fr X I a2 ok.dict a3 rfl h2 ?_ (h u h3)
      cases h3 <;> rfl
    · cases hg
  · cases hg
theorem setA_snd (S : St c m W H s.heap) (X : c.K.In c.h₀) (CA : ClsAll c.K) {p x : AV} {v u : Value} {a : Nat} {H' : HS} {Q : Unit → Shared → Prop} (hv : VR c.b W p v) (hu : VR c.b W x u) (hg : setA H p a x = some H')
    (h : PU c m W s Q H') : wpAny (model c.prog c.w) A (setAttr v (nm a) u) Q E s := by
  unfold setA at hg
  split at hg
  · rename_i C cl d kv hi
    split at hg
    · rename_i ha
      cases hg
      obtain ⟨y, dx, ks, es, n, rfl, hdx, I, D, hc⟩ := S.inst p hi hv
      obtain ⟨i, rfl, h1, hcl, h3⟩ := instAt_inv hi
      have ok := CA C cl hcl
      obtain ⟨a1, a2, a3, a4⟩ := ok.attr a ha
      obtain ⟨dx', od, rest, hdx', rd, N, off, back⟩ := S.split h3 (by simp)
      rw [hdx] at hdx'; cases hdx'
      have ed : od = dictOf es n := by
        have e1 := (N _ List.mem_cons_self).1
        have e2 : s.heap.get? dx = some (dictOf es n) := I.dict
        exact Option.some.inj (e1.symm.trans e2)
      subst ed
      obtain ⟨ks', m1, D'⟩ := D.putL (a := a) a1 hu (s.toks + 1)
      have hgl : (getL (nm a) es).isSome = true := by
        by_cases q : a ∈ ks
        · obtain ⟨_, _, _, e, _⟩ := (D.getL a1).1 q; rw [e]; rfl
        · rw [(D.getL a1).2 q]; rfl
      refine set_dict S.fr X N I rfl ok.sett ok.plain a4 ok.dict hgl rfl (Upd.head off) (Nat.le_trans D'.short (by decide)) fun h' F' N' => ?_
      exact h W h' _ (Wd.Le.refl W) (back (.attrs (put a x kv)) _ h' (fun _ => .attrs _ _ ks' _ _ D' fun k hk => (m1 k).mpr (by
        rw [lk_put] at hk
        by_cases q : k = a
        · exact .inr q
        · rw [if_neg q] at hk; exact .inl (hc k hk))) F' N')
    · cases hg
  · cases hg
end
end Mine
end

section
set_option linter.all false
set_option bootstrap.genMatcherCode false
set_option maxRecDepth 10000
namespace Mine
open PySem PySem.W PySem.Calls PyProof.Rows
structure Ok (c : Cx) : Prop where
  base : ∀ a o, c.b.get? a = some o → c.h₀.get? a = some o
section
variable {c : Cx} {m : Str → Option Value} {W : Wd} {H : HS} {A : Around} {s : Shared} {E : Value → Shared → Prop}
theorem VR.ref_inv {b : Heap} {i : Nat} {w : Value} (h : VR b W (.ref i) w) : ∃ a, w = .ref a ∧ W.r i = some a := h.inv
theorem St.obj (S : St c m W H s.heap) {i : Nat} {o : AO} {w : Value} (hv : VR c.b W (.ref i) w) (hi : hget H i = some o) (hg : o ≠ .gone) :
    ∃ a ob led, w = .ref a ∧ W.r i = some a ∧ News c.h₀ c.L s.heap led ∧ (a, ob) ∈ led ∧ OR c.prog c.w c.b W o a ob := by
  obtain ⟨a, rfl, ha⟩ := hv.ref_inv
  obtain ⟨F, led, N, B⟩ := S
  obtain ⟨a', ob, ha', hm, hR⟩ := B.obj i o hi hg
  rw [ha] at ha'; cases ha'
  exact ⟨a, ob, led, rfl, ha, N, hm, hR⟩
theorem St.isTup (S : St c m W H s.heap) {a : Addr} {ws : List Value} {n : Nat} (h : (a, tupObj ws n) ∈ W.t) : IsTup s.heap a ws.toArray := by
  obtain ⟨F, led, N, B⟩ := S
  exact News.isTup N (B.tup _ h).1
theorem St.blist (S : St c m W H s.heap) (O : Ok c) {a : Addr} {its : Array Value} (h : c.b.IsList a its) : s.heap.IsList a its := by
  obtain ⟨o, ho, r⟩ := h
  exact ⟨o, S.fr.keep _ _ (O.base _ _ ho), r⟩
theorem allInts_are {b : Heap} {vs : List AV} : ∀ {ns : List Int} {ws : List Value}, allInts vs = some ns → VRs b W vs ws → IntsAre ws ns := by
  induction vs with
  | nil => exact fun h hs => by rw [hs.nilI, ← Option.some.inj h]; exact .nil
  | cons v r ih =>
    intro ns ws h hs
    cases v with
    | int i =>
      obtain ⟨ms, h1, rfl⟩ := Option.map_eq_some_iff.mp (h : (allInts r).map (i :: ·) = some ns)
      obtain ⟨_, _, rfl, h', hs'⟩ := hs.consI
      obtain ⟨t, rfl⟩ := h'.intI
      exact .cons i t (ih h1 hs')
    | _ => exact nomatch (h : none = some ns)
theorem allInts_map (ns : List Int) : allInts (ns.map .int) = some ns := R.allInts_map ns
theorem allStrs_are {b : Heap} {vs : List AV} : ∀ {ns : List Nat} {ws : List Value}, allStrs vs = some ns → VRs b W vs ws → StrsAre ws (ns.map nm) ∧ ∀ n ∈ ns, n < nN := by
  induction vs with
  | nil => exact fun h hs => by rw [hs.nilI, ← Option.some.inj h]; exact ⟨.nil, fun _ h => absurd h List.not_mem_nil⟩
  | cons v r ih =>
    intro ns ws h hs
    cases v with
    | str i =>
      obtain ⟨ms, h1, rfl⟩ := Option.map_eq_some_iff.mp (h : (allStrs r).map (i :: ·) = some ns)
      obtain ⟨_, _, rfl, h', hs'⟩ := hs.consI
      obtain ⟨t, rfl, hi⟩ := h'.strI
      obtain ⟨a1, a2⟩ := ih h1 hs'
      exact ⟨.cons _ t a1, fun n hn => (List.mem_cons.mp hn).elim (fun e => e ▸ hi) (a2 n)⟩
    | _ => exact nomatch (h : none = some ns)
theorem any_mem (x : Int) (ns : List Int) : ns.any (· == x) = decide (x ∈ ns) := by
  rw [Bool.eq_iff_iff]; simp
theorem hasN_nm {x : Nat} (hx : x < nN) : ∀ {ns : List Nat}, (∀ n ∈ ns, n < nN) → (ns.map nm).any (· == nm x) = hasN x ns
  | [], _ => rfl
  | j :: r, h => by
    show ((nm j == nm x) || (r.map nm).any (· == nm x)) = (Nat.beq j x || hasN x r)
    rw [hasN_nm hx fun n hn => h n (List.mem_cons_of_mem _ hn)]
    congr 1
    rw [beq_eq]
    by_cases q : j = x
    · subst q; simp
    · rw [decide_eq_false q]
      simpa using fun e => q (nm_inj (h j List.mem_cons_self) hx e)
theorem in_cps {p q : AV} {v u : Value} {P : Bool → Prop} {G : Prop} (S : St c m W H s.heap) (hv : VR c.b W p v) (hu : VR c.b W q u) (h : (inV std H p q).All P)
    (k1 : ∀ x t a (ws : List Value) (ns : List Int), v = .int x t → u = .ref a → s.heap.IsList a ws.toArray → IntsAre ws ns → P (ns.any (· == x)) → G)
    (k2 : ∀ x t a (ws : List Value) (ns : List Nat), v = .str (nm x) t → u = .ref a → IsTup s.heap a ws.toArray → StrsAre ws (ns.map nm) → P ((ns.map nm).any (· == nm x)) → G) : G := by
  cases p with
  | int x => cases q with
    | ref i =>
      obtain ⟨t, rfl⟩ := hv.intI
      dsimp only [inV] at h
      cases hi : hget H i with
      | none => rw [hi] at h; exact h.elim
      | some o =>
        rw [hi] at h
        cases o with
        | ilist ns =>
          obtain ⟨a, ob, led, e, _, N, hm, hR⟩ := S.obj hu hi (by simp)
          obtain ⟨ws, n, rfl, hs⟩ := hR.ilistI
          exact k1 x t a ws ns rfl e (News.isList N hm) (allInts_are (allInts_map ns) hs) (any_mem x ns ▸ h)
        | list vs =>
          obtain ⟨ns, e', h⟩ := opt_all h
          obtain ⟨a, ob, led, e, _, N, hm, hR⟩ := S.obj hu hi (by simp)
          obtain ⟨ws, n, rfl, hs⟩ := hR.listI
          exact k1 x t a ws ns rfl e (News.isList N hm) (allInts_are e' hs) (any_mem x ns ▸ h)
        | _ => exact h.elim
    | _ => exact h.elim
  | str x => cases q with
    | tup vs =>
      obtain ⟨t, rfl, hx⟩ := hv.strI
      obtain ⟨ws, a, n, rfl, hm, hs⟩ := hu.tupI
      dsimp only [inV] at h
      cases e : allStrs vs with
      | none => rw [e] at h; exact h.elim
      | some ns =>
        rw [e] at h
        obtain ⟨a1, a2⟩ := allStrs_are e hs
        exact k2 x t a ws ns rfl rfl (S.isTup hm) a1 ((hasN_nm hx a2).symm ▸ h)
    | _ => exact h.elim
  | _ => exact h.elim
theorem in_snd {p q : AV} {v u : Value} {Q : Value → Shared → Prop} (S : St c m W H s.heap) (hv : VR c.b W p v) (hu : VR c.b W q u) (h : (inV std H p q).All fun r => Q (.bool r) s) :
    wpAny (model c.prog c.w) A (compareOp .In v u) Q E s :=
  in_cps S hv hu h (fun _ _ _ _ _ e1 e2 l i h => by subst e1; subst e2; exact in_list_ints l i h) fun _ _ _ _ _ e1 e2 l i h => by subst e1; subst e2; exact in_tuple_strs l i h
theorem notin_snd {p q : AV} {v u : Value} {Q : Value → Shared → Prop} (S : St c m W H s.heap) (hv : VR c.b W p v) (hu : VR c.b W q u) (h : (inV std H p q).All fun r => Q (.bool (!r)) s) :
    wpAny (model c.prog c.w) A (compareOp .NotIn v u) Q E s :=
  in_cps (P := fun r => Q (.bool (!r)) s) S hv hu h (fun _ _ _ _ _ e1 e2 l i h => by subst e1; subst e2; exact notin_list_ints l i h) fun _ _ _ _ _ e1 e2 l i h => by subst e1; subst e2; exact notin_tuple_strs l i h
end
end Mine
end

section
set_option linter.all false
set_option bootstrap.genMatcherCode false
set_option maxRecDepth 10000
namespace Mine
open PySem PySem.W PySem.Calls PyProof.Rows
section
variable {c : Cx} {m : Str → Option Value} {W : Wd} {H : HS} {A : Around} {s : Shared} {E : Value → Shared → Prop}
theorem VRs.at' {b : Heap} {vs : List AV} {ws : List Value} (hs : VRs b W vs ws) {k : Int} (h0 : 0 ≤ k) (h1 : k < vs.length) : ∃ w, ws.toArray[k.toNat]? = some w ∧ VR b W (nthD .none vs k.toNat) w := by
  obtain ⟨w, a, b⟩ := hs.at (n := k.toNat) (by omega)
  exact ⟨w, by simpa using a, b⟩
theorem nthD_map (ns : List Int) (n : Nat) (h : n < ns.length) : nthD .none (ns.map AV.int) n = .int (ns.getD n 0) := R.nthD_map ns n h
theorem nthD_get (ns : List Int) : ∀ n, nthD 0 ns n = ns.getD n 0 :=
  List.rec (motive := fun ns => ∀ n, nthD 0 ns n = ns.getD n 0) (fun n => Nat.casesOn n rfl fun _ => rfl) (fun _ _ ih n => Nat.casesOn n rfl ih) ns
theorem getD_bytes (l : List UInt8) (n : Nat) : ((l.getD n 0).toNat : Int) = (l.map fun x => (x.toNat : Int)).getD n 0 := by
  simp only [List.getD_eq_getElem?_getD, List.getElem?_map]
  cases l[n]? <;> rfl
theorem sub_snd {value slice : PySem.Expr} {p q : AV} {v u : Value} {Q : Value → Shared → Prop} (S : St c m W H s.heap) (O : Ok c) (hv : VR c.b W p v) (hu : VR c.b W q u)
    (hsl : subscripted slice false v u = operate [v, u] (getItem v u))
    (h : (subV std H p q).All fun r => ∀ x tk', VR c.b W r x → Q x { s with toks := tk' }) :
    wpAny (model c.prog c.w) A (subscriptTail value slice v u) Q E s := by
  cases p with
  | ref j => cases q with
    | str k =>
      obtain ⟨t, rfl, hk⟩ := hu.strI
      dsimp only [subV] at h
      cases hi : hget H j with
      | none => rw [hi] at h; exact h.elim
      | some o =>
        rw [hi] at h
        cases o with
        | rc kv =>
          obtain ⟨r, e, h⟩ := opt_all h
          obtain ⟨a, ob, led, rfl, _, N, hm, hR⟩ := S.obj hv hi (by simp)
          obtain ⟨kvs, lo, hd, hp⟩ := hR.rcI
          ·
            obtain ⟨x, h1, h2⟩ := hp.at hk e
            exact kdt_tail (knd := PySem.strKind _ _) N hm hd (kdt_getItem (knd := PySem.strKind _ _) N hm hd (strKind_is _ _ _ _) h1 (h _ _ h2)) hsl
        | fdict f =>
          obtain ⟨a, ob, led, rfl, _, N, hm, hR⟩ := S.obj hv hi (by simp)
          obtain ⟨kvs, lo, hd, hp⟩ := hR.fdI
          ·
            obtain ⟨h0, h⟩ := h
            have h0' : (f k).isSome = true := h0
            cases e : f k with
            | none => rw [e] at h0'; cases h0'
            | some i =>
              obtain ⟨x, h1, h2⟩ := hp.at hk (congrArg (Option.map AV.int) e)
              have h' : ∀ x tk', VR c.b W (.int ((f k).getD 0)) x → Q x { s with toks := tk' } := h
              rw [e] at h'
              exact kdt_tail (knd := PySem.strKind _ _) N hm hd (kdt_getItem (knd := PySem.strKind _ _) N hm hd (strKind_is _ _ _ _) h1 (h' _ _ h2)) hsl
        | _ => exact h.elim
    | int k =>
      obtain ⟨t, rfl⟩ := hu.intI
      dsimp only [subV] at h
      cases hi : hget H j with
      | none => rw [hi] at h; exact h.elim
      | some o =>
        rw [hi] at h
        cases o with
        | list vs =>
          obtain ⟨a, ob, led, rfl, _, N, hm, hR⟩ := S.obj hv hi (by simp)
          obtain ⟨⟨h0, h1, h2⟩, h⟩ := h
          obtain ⟨ws, n, rfl, hs⟩ := hR.listI
          ·
            obtain ⟨x, e1, e2⟩ := hs.at' h0 h1
            have hl := News.isList N hm
            exact tail_any hl.typeIs slot_list_getitem.lookup (wpAny_getItem_list hl h0 (by omega) e1 (h x s.toks e2)) hsl
        | ilist ns =>
          obtain ⟨a, ob, led, rfl, _, N, hm, hR⟩ := S.obj hv hi (by simp)
          obtain ⟨⟨h0, h1, h2⟩, h⟩ := h
          obtain ⟨ws, n, rfl, hs⟩ := hR.ilistI
          ·
            obtain ⟨x, e1, e2⟩ := hs.at' h0 (by simpa using h1)
            rw [nthD_map _ _ (by omega)] at e2
            have hl := News.isList N hm
            exact tail_any hl.typeIs slot_list_getitem.lookup (wpAny_getItem_list hl h0 (by omega) e1 (h x s.toks e2)) hsl
        | _ => exact h.elim
    | _ => exact h.elim
  | blist vs => cases q with
    | int k =>
      obtain ⟨⟨h0, h1, h2⟩, h⟩ := h
      obtain ⟨t, rfl⟩ := hu.intI
      obtain ⟨ws, a, rfl, hb, hs⟩ := hv.blistI
      obtain ⟨x, e1, e2⟩ := hs.at' h0 h1
      have hl := S.blist O hb
      exact tail_any hl.typeIs slot_list_getitem.lookup (wpAny_getItem_list hl h0 (by omega) e1 (h x s.toks e2)) hsl
    | _ => exact h.elim
  | tup vs => cases q with
    | int k =>
      obtain ⟨⟨h0, h1, h2⟩, h⟩ := h
      obtain ⟨t, rfl⟩ := hu.intI
      obtain ⟨ws, a, n, rfl, hm, hs⟩ := hv.tupI
      obtain ⟨x, e1, e2⟩ := hs.at' h0 h1
      have hl := S.isTup hm
      have hn := hs.length
      exact tail_any hl.typeIs slot_tuple_getitem.lookup (PyProof.Rows.getItem_tuple hl (by omega) (by omega) (seqIndex_of h0 (by simp; omega)) e1 (h x s.toks e2)) hsl
    | _ => exact h.elim
  | bytes ns => cases q with
    | int k =>
      obtain ⟨⟨⟨h0, h1, h2⟩, h3⟩, h⟩ := h
      obtain ⟨t, rfl⟩ := hu.intI
      obtain ⟨u, tb, rfl, e⟩ := hv.bytesI
      have hn : ns.length = u.toList.length := by rw [e, List.length_map]
      have hg : wpAny (model c.prog c.w) A (getItem (.bytes u.toList.toArray tb) (.int k t)) Q E s := getItem_bytes (by omega) h0 (by omega) (h _ _ (by
        rw [nthD_get, e, ← getD_bytes]; exact .int _ _))
      exact tail_any (typeIs_bytes _ _ _) FB.slot_bytes_getitem.lookup hg hsl
    | _ => exact h.elim
  | _ => exact h.elim
end
end Mine
end

section
set_option linter.all false
set_option bootstrap.genMatcherCode false
set_option maxRecDepth 10000
namespace Mine
open PySem PySem.W PySem.Calls PyProof.Rows
section
variable {K : Type} [DecidableEq K]
theorem valueAt_stored (kvs : List (K × Value)) (k : K) (v : Value) (j : K) : valueAt (stored kvs k v) j = if j = k then some v else valueAt kvs j := by
  unfold stored
  by_cases h : (kvs.any fun kv => decide (kv.1 = k)) = true
  · rw [if_pos h]
    induction kvs with
    | nil => cases h
    | cons p r ih =>
      unfold valueAt at ih ⊢
      rw [List.map_cons, List.find?_cons, List.find?_cons]
      by_cases q : p.1 = k
      · simp only [q, if_true]
        by_cases e : k = j
        · simp [e]
        · have e' : ¬ j = k := fun x => e x.symm
          rw [if_neg e', decide_eq_false e]
          clear ih h
          induction r with
          | nil => rfl
          | cons p' r ih' =>
            rw [List.map_cons, List.find?_cons, List.find?_cons]
            by_cases q' : p'.1 = k
            · have : ¬ p'.1 = j := fun x => e (q' ▸ x)
              simp only [q', if_true, decide_eq_false e, ih']
            · simp only [q', if_false]
              by_cases z : p'.1 = j
              · simp [z]
              · simp only [decide_eq_false z, ih']
      · simp only [q, if_false]
        by_cases e : p.1 = j
        · have : ¬ j = k := fun x => q (e.trans x)
          simp [e, this]
        · simp only [decide_eq_false e]
          exact ih (by simpa [q] using h)
  · rw [if_neg h]
    unfold valueAt
    have hn : ∀ p ∈ kvs, p.1 ≠ k := fun p hp e => h (List.any_eq_true.mpr ⟨p, hp, by simpa using e⟩)
    rw [List.find?_append]
    by_cases e : j = k
    · subst e
      have : kvs.find? (fun kv => decide (kv.1 = j)) = none := List.find?_eq_none.mpr fun p hp => by simpa using hn p hp
      rw [this]; simp
    · rw [if_neg e]
      have e' : ¬ k = j := fun x => e x.symm
      have : [(k, v)].find? (fun kv => decide (kv.1 = j)) = none := by simp [e']
      rw [this]; simp
theorem mem_stored {kvs : List (K × Value)} {k : K} {v : Value} {p : K × Value} (h : p ∈ stored kvs k v) : p.1 = k ∨ ∃ q ∈ kvs, q.1 = p.1 := by
  unfold stored at h
  split at h
  · obtain ⟨q, hq, rfl⟩ := List.mem_map.mp h
    exact .inr ⟨q, hq, by split <;> rfl⟩
  · rcases List.mem_append.mp h with h | h
    · exact .inr ⟨p, h, rfl⟩
    · rw [List.mem_singleton] at h; exact .inl (by rw [h])
end
section
variable {b : Heap} {W : Wd}
theorem PR.put {f : Nat → Option AV} {kvs : List (Str × Value)} (h : PR b W f kvs) {k : Nat} (hk : k < nN) {v : AV} {w : Value} (hv : VR b W v w) : PR b W (fun z => if z = k then some v else f z) (stored kvs (nm k) w) := by
  refine ⟨fun p hp => ?_, fun j hj => ?_⟩
  · rcases mem_stored hp with e | ⟨q, hq, e⟩
    · exact ⟨k, hk, e⟩
    · obtain ⟨i, hi, e'⟩ := h.1 q hq
      exact ⟨i, hi, e.symm.trans e'⟩
  · rw [valueAt_stored]
    by_cases e : j = k
    · rw [e]
      dsimp only
      rw [if_pos rfl, if_pos rfl]
      exact ⟨w, rfl, hv⟩
    · have : ¬ nm j = nm k := fun x => e (nm_inj hj hk x)
      dsimp only
      rw [if_neg e, if_neg this]
      exact h.2 j hj
theorem PR.congr {f g : Nat → Option AV} {kvs : List (Str × Value)} (h : PR b W f kvs) (e : ∀ k, f k = g k) : PR b W g kvs := by
  have : f = g := funext e
  rwa [← this]
theorem lk_foldr (kv : List (Nat × AV)) (j : Nat) : ∀ kv' : List (Nat × AV), lk j (kv'.foldr (fun p l => put p.1 p.2 l) kv) = match lk j kv' with | some v => some v | none => lk j kv
  | [] => rfl
  | (i, u) :: r => by
    show lk j (put i u (r.foldr (fun p l => put p.1 p.2 l) kv)) = match (match Nat.beq i j with | true => some u | false => lk j r) with | some v => some v | none => lk j kv
    rw [lk_put, beq_eq, lk_foldr kv j r]
    by_cases q : i = j
    · subst q; simp
    · rw [decide_eq_false q, if_neg fun e => q e.symm]
theorem PR.length {f : Nat → Option AV} {kvs : List (Str × Value)} (h : PR b W f kvs) (hn : (kvs.map (·.1)).Nodup) : kvs.length ≤ nN := by
  have key : ∀ l : List (Str × Value), (∀ p ∈ l, ∃ k, k < nN ∧ p.1 = nm k) → (l.map (·.1)).Nodup → ∃ ks : List Nat, ks.length = l.length ∧ ks.Nodup ∧ (∀ k ∈ ks, k < nN) ∧ ∀ k ∈ ks, nm k ∈ l.map (·.1) := by
    intro l
    induction l with
    | nil => intro _ _; exact ⟨[], rfl, .nil, (fun _ h => nomatch h), fun _ h => nomatch h⟩
    | cons p r ih =>
      intro h1 h2
      rw [List.map_cons, List.nodup_cons] at h2
      obtain ⟨ks, a1, a2, a3, a4⟩ := ih (fun q hq => h1 q (List.mem_cons_of_mem _ hq)) h2.2
      obtain ⟨k, hk, e⟩ := h1 p List.mem_cons_self
      refine ⟨k :: ks, by simp [a1], List.nodup_cons.mpr ⟨fun hm => h2.1 (e ▸ a4 k hm), a2⟩, fun j hj => ?_, fun j hj => ?_⟩
      · rcases List.mem_cons.mp hj with rfl | hj
        · exact hk
        · exact a3 j hj
      · rcases List.mem_cons.mp hj with rfl | hj
        · rw [List.map_cons, e]; exact List.mem_cons_self
        · rw [List.map_cons]; exact List.mem_cons_of_mem _ (a4 j hj)
  obtain ⟨ks, a1, a2, a3, _⟩ := key kvs h.1 hn
  rw [← a1]
  exact nodup_bound a2 a3
theorem valueAt_merged_aux {K : Type} [DecidableEq K] (more : List (K × Value)) : ∀ kvs : List (K × Value), (more.map (·.1)).Nodup → ∀ j, valueAt (merged kvs more) j = match valueAt more j with | some v => some v | none => valueAt kvs j := by
  induction more with
  | nil => intro kvs _ j; rfl
  | cons p r ih =>
    intro kvs hn j
    rw [List.map_cons, List.nodup_cons] at hn
    show valueAt (merged (stored kvs p.1 p.2) r) j = _
    rw [ih _ hn.2 j, valueAt_stored]
    have e : valueAt (p :: r) j = if p.1 = j then some p.2 else valueAt r j := by
      unfold valueAt; rw [List.find?_cons]
      by_cases q : p.1 = j <;> simp [q]
    rw [e]
    by_cases q : p.1 = j
    · have : valueAt r j = none := by
        unfold valueAt
        rw [List.find?_eq_none.mpr fun x hx => ?_]; rfl
        have : x.1 ≠ p.1 := fun z => hn.1 (z ▸ List.mem_map.mpr ⟨x, hx, rfl⟩)
        simpa using fun z => this (z.trans q.symm)
      rw [this, if_pos q, if_pos q.symm]
    · rw [if_neg q, if_neg fun z => q z.symm]
theorem mem_merged {K : Type} [DecidableEq K] (more : List (K × Value)) : ∀ (kvs : List (K × Value)), ∀ p ∈ merged kvs more, (∃ q ∈ kvs, q.1 = p.1) ∨ ∃ q ∈ more, q.1 = p.1 := by
  induction more with
  | nil => intro kvs p hp; exact .inl ⟨p, hp, rfl⟩
  | cons x r ih =>
    intro kvs p hp
    rcases ih (stored kvs x.1 x.2) p hp with ⟨q, hq, e⟩ | ⟨q, hq, e⟩
    · rcases mem_stored hq with e' | ⟨z, hz, e'⟩
      · exact .inr ⟨x, List.mem_cons_self, e'.symm.trans e⟩
      · exact .inl ⟨z, hz, e'.trans e⟩
    · exact .inr ⟨q, List.mem_cons_of_mem _ hq, e⟩
theorem PR.merge {f g : Nat → Option AV} {kvs more : List (Str × Value)} (h : PR b W f kvs) (h' : PR b W g more) (hn : (more.map (·.1)).Nodup) :
    PR b W (fun k => match g k with | some v => some v | none => f k) (merged kvs more) := by
  refine ⟨fun p hp => ?_, fun j hj => ?_⟩
  · rcases mem_merged more kvs p hp with ⟨q, hq, e⟩ | ⟨q, hq, e⟩
    · obtain ⟨i, hi, e'⟩ := h.1 q hq; exact ⟨i, hi, e.symm.trans e'⟩
    · obtain ⟨i, hi, e'⟩ := h'.1 q hq; exact ⟨i, hi, e.symm.trans e'⟩
  · rw [valueAt_merged_aux more kvs hn]
    dsimp only
    cases e : g j with
    | some v =>
      obtain ⟨w, h1, h2⟩ := h'.at hj e
      exact ⟨w, by rw [h1], h2⟩
    | none =>
      rw [h'.no hj e]; exact h.2 j hj
end
end Mine
end

section
set_option linter.all false
set_option bootstrap.genMatcherCode false
set_option maxRecDepth 10000
namespace Mine
open PySem PySem.W PySem.Calls PyProof.Rows
section
variable {c : Cx} {m : Str → Option Value} {W : Wd} {H : HS} {A : Around} {s : Shared} {E : Value → Shared → Prop}
theorem VRs.set {b : Heap} {x : AV} {u : Value} (hx : VR b W x u) {vs : List AV} {ws : List Value} (h : VRs b W vs ws) : ∀ n, VRs b W (setNth vs n x) (ws.set n u) :=
  h.ind (P := fun vs ws => ∀ n, VRs b W (setNth vs n x) (ws.set n u)) (fun _ => .nil) fun h hs ih n => Nat.casesOn n (.cons _ _ _ _ hx hs) fun n => .cons _ _ _ _ h (ih n)
theorem W_ref {W : Wd} {b : Heap} {j : Nat} {a : Addr} {v : Value} (hv : VR b W (.ref j) v) (ha : W.r j = some a) : v = .ref a := by
  obtain ⟨a', rfl, h⟩ := hv.ref_inv
  rw [ha] at h; cases h; rfl
theorem setS_snd {p q x : AV} {v u z : Value} {Q : Unit → Shared → Prop} (S : St c m W H s.heap) (hv : VR c.b W p v) (hu : VR c.b W q u) (hx : VR c.b W x z)
    (h : (setS std H p q x).All fun H' => PU c m W s Q H') : wpAny (model c.prog c.w) A (setItem v u z) Q E s := by
  cases p with
  | ref j => cases q with
    | str k =>
      obtain ⟨t, rfl, hk⟩ := hu.strI
      dsimp only [setS] at h
      cases hi : hget H j with
      | none => rw [hi] at h; exact h.elim
      | some o =>
        rw [hi] at h
        cases o with
        | rc kv =>
          obtain ⟨a, ob, rest, ha, hR, N, off, back⟩ := S.split hi (by simp)
          cases W_ref hv ha
          obtain ⟨kvs, lo, hd, hp⟩ := hR.rcI
          ·
            have hlen : kvs.length ≤ sizeLine := by
              obtain ⟨_, _, _, _, _, _, hn⟩ := id hd
              exact Nat.le_trans (hp.length hn) (by rw [sizeLine_eq]; decide)
            refine kda_set (knd := PySem.strKind _ _) S.fr N (UpdF.head off) hd (strKind_is _ _ _ _) hlen fun h' o' F' N' hd' => ?_
            refine h W h' _ (Wd.Le.refl W) (back (.rc (put k x kv)) o' h' (fun _ => .rc _ _ _ _ lo hd' ((hp.put hk hx).congr fun i => ?_)) F' N')
            rw [lk_put]
        | fdict f =>
          obtain ⟨a, ob, rest, ha, hR, N, off, back⟩ := S.split hi (by simp)
          cases W_ref hv ha
          obtain ⟨kvs, lo, hd, hp⟩ := hR.fdI
          ·
            have hlen : kvs.length ≤ sizeLine := by
              obtain ⟨_, _, _, _, _, _, hn⟩ := id hd
              exact Nat.le_trans (hp.length hn) (by rw [sizeLine_eq]; decide)
            cases x with
            | int i =>
              refine kda_set (knd := PySem.strKind _ _) S.fr N (UpdF.head off) hd (strKind_is _ _ _ _) hlen fun h' o' F' N' hd' => ?_
              refine h W h' _ (Wd.Le.refl W) (back (.fdict (std.dput f k i)) o' h' (fun _ => .fdict _ _ _ _ lo hd' ((hp.put hk hx).congr fun j => ?_)) F' N')
              show (if j = k then some (AV.int i) else (f j).map .int) = (if j = k then some i else f j).map .int
              split <;> rfl
            | _ => exact h.elim
        | _ => exact h.elim
    | int k =>
      obtain ⟨t, rfl⟩ := hu.intI
      dsimp only [setS] at h
      cases hi : hget H j with
      | none => rw [hi] at h; exact h.elim
      | some o =>
        rw [hi] at h
        cases o with
        | list vs =>
          obtain ⟨a, ob, rest, ha, hR, N, off, back⟩ := S.split hi (by simp)
          cases W_ref hv ha
          obtain ⟨⟨h0, h1, h2⟩, h⟩ := h
          obtain ⟨ws, n, rfl, hs⟩ := hR.listI
          ·
            have hl := hs.length
            have z0 := N (a, listOf ws.toArray n) List.mem_cons_self
            have N' : News c.h₀ c.L s.heap ([] ++ (a, listOf ws.toArray n) :: rest) := N
            have nt := ki_turn (its' := (ws.set k.toNat z).toArray) (n' := n) (fun xs => xs.setIfInBounds k.toNat z) N' (fun _ h => nomatch h) off (by
              apply Array.toList_inj.mp; simp) (by simp)
            refine ki_setAt z0.1 h0 (by omega) (by simp; omega) ?_
            exact h W _ _ (Wd.Le.refl W) (back (.list (setNth vs k.toNat x)) _ _ (fun _ => .list _ _ _ _ (hs.set hx _)) (S.fr.change (Heap.SameBut.update ..) z0.2.1 z0.2.2) nt)
        | _ => exact h.elim
    | _ => exact h.elim
  | _ => exact h.elim
theorem append_snd {j : Nat} {x : AV} {z : Value} {vs : List AV} {v : Value} {Q : Value → Shared → Prop} (S : St c m W H s.heap) (hi : hget H j = some (.list vs)) (hv : VR c.b W (.ref j) v) (hx : VR c.b W x z) (hz : vs.length < 2 ^ 20)
    (h : PV c m W s Q (.none, hset H j (.list (std.lapp vs x)))) : wpAny (model c.prog c.w) A (call (.builtin "list.append") [v, z]) Q E s := by
  obtain ⟨a, ob, rest, ha, hR, N, off, back⟩ := S.split hi (by simp)
  cases W_ref hv ha
  obtain ⟨ws, n, rfl, hs⟩ := hR.listI
  ·
    have hl := hs.length
    refine append_K S.fr N (Upd.head off) (fun h' F' N' => ?_) (by rw [sizeLine_eq, List.size_toArray]; omega)
    refine h .none W h' _ (Wd.Le.refl W) (back (.list (vs ++ [x])) _ h' (fun _ => ?_) F' N') .none
    have e : ws.toArray.push z = (ws ++ [z]).toArray := by simp
    rw [e]
    exact .list _ _ _ _ (hs.append (.cons _ _ _ _ hx .nil))
theorem iappend_snd {j : Nat} {x : Int} {z : Value} {vs : List Int} {v : Value} {Q : Value → Shared → Prop} (S : St c m W H s.heap) (hi : hget H j = some (.ilist vs)) (hv : VR c.b W (.ref j) v) (hx : VR c.b W (.int x) z) (hz : vs.length < 2 ^ 20)
    (h : PV c m W s Q (.none, hset H j (.ilist (std.iapp vs x)))) : wpAny (model c.prog c.w) A (call (.builtin "list.append") [v, z]) Q E s := by
  obtain ⟨a, ob, rest, ha, hR, N, off, back⟩ := S.split hi (by simp)
  cases W_ref hv ha
  obtain ⟨ws, n, rfl, hs⟩ := hR.ilistI
  ·
    have hl := hs.length
    rw [List.length_map] at hl
    refine append_K S.fr N (Upd.head off) (fun h' F' N' => ?_) (by rw [sizeLine_eq, List.size_toArray]; omega)
    refine h .none W h' _ (Wd.Le.refl W) (back (.ilist (vs ++ [x])) _ h' (fun _ => ?_) F' N') .none
    have e : ws.toArray.push z = (ws ++ [z]).toArray := by simp
    rw [e]
    refine .ilist _ _ _ _ ?_
    rw [List.map_append]
    exact hs.append (.cons _ _ _ _ hx .nil)
theorem pop_snd {j : Nat} {x : AV} {vs : List AV} {v : Value} {t : Tok} {Q : Value → Shared → Prop} (S : St c m W H s.heap) (hi : hget H j = some (.list (x :: vs))) (hv : VR c.b W (.ref j) v) (hz : vs.length < 2 ^ 20)
    (h : PV c m W s Q (x, hset H j (.list vs))) : wpAny (model c.prog c.w) A (call (.builtin "list.pop") [v, .int 0 t]) Q E s := by
  obtain ⟨a, ob, rest, ha, hR, N, off, back⟩ := S.split hi (by simp)
  cases W_ref hv ha
  obtain ⟨ws, n, rfl, hs⟩ := hR.listI
  ·
    cases hs with
    | cons _ w _ ws hw hs =>
      have hl := hs.length
      refine kl_popAt (k := 0) (p := []) (q := ws) (y := w) S.fr N (by decide) (seqIndex_of (by decide) (by simp)) rfl (Upd.head off) (by rw [sizeLine_eq]; simp; omega) fun h' F' N' => ?_
      exact h w W h' _ (Wd.Le.refl W) (back (.list vs) _ h' (fun _ => .list _ _ _ _ hs) F' N') hw
theorem ipop_snd {j : Nat} {x : Int} {vs : List Int} {v : Value} {t : Tok} {Q : Value → Shared → Prop} (S : St c m W H s.heap) (hi : hget H j = some (.ilist (x :: vs))) (hv : VR c.b W (.ref j) v) (hz : vs.length < 2 ^ 20)
    (h : PV c m W s Q (.int x, hset H j (.ilist vs))) : wpAny (model c.prog c.w) A (call (.builtin "list.pop") [v, .int 0 t]) Q E s := by
  obtain ⟨a, ob, rest, ha, hR, N, off, back⟩ := S.split hi (by simp)
  cases W_ref hv ha
  obtain ⟨ws, n, rfl, hs⟩ := hR.ilistI
  ·
    rw [List.map_cons] at hs
    cases hs with
    | cons _ w _ ws hw hs =>
      have hl := hs.length
      rw [List.length_map] at hl
      refine kl_popAt (k := 0) (p := []) (q := ws) (y := w) S.fr N (by decide) (seqIndex_of (by decide) (by simp)) rfl (Upd.head off) (by rw [sizeLine_eq]; simp; omega) fun h' F' N' => ?_
      exact h w W h' _ (Wd.Le.refl W) (back (.ilist vs) _ h' (fun _ => .ilist _ _ _ _ hs) F' N') hw
theorem fget_snd {j k : Nat} {d : Int} {f : Nat → Option Int} {v u z : Value} {Q : Value → Shared → Prop} (S : St c m W H s.heap) (hi : hget H j = some (.fdict f)) (hv : VR c.b W (.ref j) v) (hu : VR c.b W (.str k) u) (hz : VR c.b W (.int d) z)
    (h : PV c m W s Q (.int (std.dget f k d), H)) : wpAny (model c.prog c.w) A (call (.builtin "dict.get") [v, u, z]) Q E s := by
  obtain ⟨a, ob, led, rfl, _, N, hm, hR⟩ := S.obj hv hi (by simp)
  cases hu with
  | str _ t hk =>
    obtain ⟨kvs, lo, hd, hp⟩ := hR.fdI
    ·
      refine kdg_get2 (knd := PySem.strKind _ _) N hm hd lo (strKind_is _ _ _ _) (valueAt kvs (nm k)) rfl (h _ W s.heap _ (Wd.Le.refl W) S ?_)
      show VR c.b W (.int ((f k).getD d)) _
      cases e : f k with
      | none => rw [hp.no hk (congrArg (Option.map AV.int) e)]; exact hz
      | some i => obtain ⟨w, h1, h2⟩ := hp.at hk (congrArg (Option.map AV.int) e); rw [h1]; exact h2
theorem rget_snd {j k : Nat} {d : AV} {kv : List (Nat × AV)} {v u z : Value} {Q : Value → Shared → Prop} (S : St c m W H s.heap) (hi : hget H j = some (.rc kv)) (hv : VR c.b W (.ref j) v) (hu : VR c.b W (.str k) u) (hz : VR c.b W d z)
    (h : PV c m W s Q ((lk k kv).getD d, H)) : wpAny (model c.prog c.w) A (call (.builtin "dict.get") [v, u, z]) Q E s := by
  obtain ⟨a, ob, led, rfl, _, N, hm, hR⟩ := S.obj hv hi (by simp)
  cases hu with
  | str _ t hk =>
    obtain ⟨kvs, lo, hd, hp⟩ := hR.rcI
    ·
      refine kdg_get2 (knd := PySem.strKind _ _) N hm hd lo (strKind_is _ _ _ _) (valueAt kvs (nm k)) rfl (h _ W s.heap _ (Wd.Le.refl W) S ?_)
      cases e : lk k kv with
      | none => rw [hp.no hk e]; exact hz
      | some i => obtain ⟨w, h1, h2⟩ := hp.at hk e; rw [h1]; exact h2
theorem update_snd {j i : Nat} {kv kv' : List (Nat × AV)} {v u : Value} {Q : Value → Shared → Prop} (S : St c m W H s.heap) (hj : hget H j = some (.rc kv)) (hi : hget H i = some (.rc kv')) (hne : j ≠ i) (hv : VR c.b W (.ref j) v) (hu : VR c.b W (.ref i) u)
    (h : PV c m W s Q (.none, hset H j (.rc (kv'.foldr (fun p l => put p.1 p.2 l) kv)))) : wpAny (model c.prog c.w) A (call (.builtin "dict.update") [v, u]) Q E s := by
  obtain ⟨a', ob', led, rfl, ha', N₀, hm', hR'⟩ := S.obj hu hi (by simp)
  have hne' : ∀ a, W.r j = some a → a ≠ a' := fun a ha e => by
    obtain ⟨F, led, N, B⟩ := S
    subst e
    exact hne (B.inj j i _ _ a hj (by simp) hi (by simp) ha ha')
  obtain ⟨a, ob, rest, ha, hR, N, off, back⟩ := S.split hj (by simp)
  cases W_ref hv ha
  cases hR' with
  | rc _ _ _ more lo' hd' hp' =>
    obtain ⟨kvs, lo, hd, hp⟩ := hR.rcI
    ·
      obtain ⟨_, _, _, _, _, _, hn⟩ := id hd
      obtain ⟨_, _, _, _, _, _, hn'⟩ := id hd'
      have hD : s.heap.DictOf (PySem.strKind c.prog c.w) a kvs := Heap.dictOf_iff.mpr ⟨ob, (N _ List.mem_cons_self).1, hd⟩
      have hD' : s.heap.DictOf (PySem.strKind c.prog c.w) a' more := Heap.dictOf_iff.mpr ⟨ob', (N₀ _ hm').1, hd'⟩
      have hm := N (a, ob) List.mem_cons_self
      have l1 := hp.length hn
      have l2 := hp'.length hn'
      have e122 : nN = 122 := rfl
      refine call_meetsIn PySem.F.slot_dict_update hD.typeIs PySem.F.entry_dict_update (PySem.F.args_dict_update_2 _ _) (meets_dict_update (PySem.strKind c.prog c.w) a a' (hne' a ha) lo')
        ⟨kvs, more, hD, hD', (by rw [sizeLine_eq]; omega), fun h' hmm _ hs => ?_⟩
      obtain ⟨o', ho', hd''⟩ := Heap.dictOf_iff.mp hmm
      have N' : News c.h₀ c.L s.heap ([] ++ (a, ob) :: rest) := N
      refine h .none W h' s.toks (Wd.Le.refl W) (back _ o' h' (fun _ => .rc _ _ _ _ lo hd'' ((hp.merge hp' hn').congr fun k => ?_)) (S.fr.change hs hm.2.1 hm.2.2) (News.setIn N' (fun _ h => nomatch h) off hs ho')) .none
      rw [lk_foldr]
end
end Mine
end

section
set_option linter.all false
set_option bootstrap.genMatcherCode false
set_option maxRecDepth 10000
namespace Mine
open PySem PySem.W PySem.Calls PyProof.Rows
section
variable {c : Cx} {m : Str → Option Value} {W : Wd} {H : HS} {A : Around} {s : Shared} {E : Value → Shared → Prop}
theorem St.grown {h h' : Heap} (S : St c m W H h) (k : ∀ led, News c.h₀ c.L h led → Fr c.h₀ c.L h' m ∧ News c.h₀ c.L h' led) : St c m W H h' := by
  obtain ⟨F, led, N, B⟩ := S
  obtain ⟨F', N'⟩ := k led N
  exact ⟨F', led, N', B⟩
theorem St.keeps {h h' : Heap} (S : St c m W H h) (k : ∀ b o, h.get? b = some o → h'.get? b = some o) : St c m W H h' :=
  S.grown fun led N => ⟨S.fr.keeps k, N.grown k⟩
theorem newTup_snd {vs : List AV} {ws : List Value} {Q : Value → Shared → Prop} (S : St c m W H s.heap) (hs : VRs c.b W vs ws) (hz : ws.length < 2 ^ 20) (h : PV c m W s Q (.tup vs, H)) : wpAny (model c.prog c.w) A (newTuple ws) Q E s := by
  obtain ⟨F, led, N, B⟩ := S
  refine newTuple_N F N (fun h' F' N' => ?_) (by rw [sizeLine_eq]; omega)
  have L : W.Le ⟨W.r, (s.heap.objs.size, tupObj ws 0) :: W.t⟩ := ⟨fun _ _ e => e, fun _ hp => List.mem_cons_of_mem _ hp⟩
  refine h _ ⟨W.r, (s.heap.objs.size, tupObj ws 0) :: W.t⟩ h' s.toks L ⟨F', _, N', ⟨fun i o hi hg => ?_, fun p hp => ?_, fun p hp => List.mem_cons_of_mem _ (B.xs p hp), B.inj, B.off, B.top, fun p hp q hq => ?_⟩⟩
    (.tup _ ws _ 0 List.mem_cons_self (hs.mono L))
  · obtain ⟨a, ob, h1, h2, h3⟩ := B.obj i o hi hg
    exact ⟨a, ob, h1, List.mem_cons_of_mem _ h2, h3.mono L⟩
  · rcases List.mem_cons.mp hp with rfl | hp
    · exact ⟨List.mem_cons_self, ws, 0, rfl⟩
    · obtain ⟨h1, h2⟩ := B.tup p hp
      exact ⟨List.mem_cons_of_mem _ h1, h2⟩
  · rcases List.mem_cons.mp hp with rfl | hp
    · exact Nat.ne_of_lt (Heap.lt_size (N _ (B.xs q hq)).1)
    · exact B.toff p hp q hq
theorem newList_snd {vs : List AV} {ws : List Value} {Q : Value → Shared → Prop} (S : St c m W H s.heap) (hs : VRs c.b W vs ws) (hz : ws.length < 2 ^ 20) (h : PV c m W s Q (.ref (hlen H), hnew H (.list vs))) : wpAny (model c.prog c.w) A (newList ws) Q E s := by
  obtain ⟨led, N, k⟩ := S.alloc
  refine newList_K S.fr N (fun l h' F' N' hlt => ?_) (by rw [sizeLine_eq]; omega)
  have hne : ∀ p ∈ led, p.1 ≠ l := fun p hp => Nat.ne_of_lt (hlt p hp)
  have L : W.Le (W.put (hlen H) l) := by
    obtain ⟨F, led', N, B⟩ := S
    exact Wd.le_put (B.top _ (Nat.le_refl _))
  obtain ⟨_, S'⟩ := k (.list vs) l (listOf ws.toArray 0) h' hne (.list _ _ _ _ (hs.mono L)) F' N'
  exact h _ _ h' s.toks L S' (.ref _ _ Wd.put_self)
theorem copy_snd {i : Nat} {vs : List AV} {v : Value} {Q : Value → Shared → Prop} (S : St c m W H s.heap) (hi : hget H i = some (.list vs)) (hv : VR c.b W (.ref i) v) (hz : vs.length < 2 ^ 20) (h : PV c m W s Q (.ref (hlen H), hnew H (.list vs))) :
    wpAny (model c.prog c.w) A (call (.type "list") [v]) Q E s := by
  obtain ⟨a, ob, led₀, rfl, _, N₀, hm, hR⟩ := S.obj hv hi (by simp)
  obtain ⟨led, N, k⟩ := S.alloc
  obtain ⟨ws, n, rfl, hs⟩ := hR.listI
  ·
    have hl := hs.length
    refine list_copyK S.fr N (News.isList N₀ hm) (fun D e h' F' N' hlt => ?_) (by rw [sizeLine_eq, List.size_toArray]; omega)
    have hne : ∀ p ∈ led, p.1 ≠ D := fun p hp => Nat.ne_of_lt (hlt p hp)
    have L : W.Le (W.put (hlen H) D) := by
      obtain ⟨F, led', N, B⟩ := S
      exact Wd.le_put (B.top _ (Nat.le_refl _))
    obtain ⟨_, S'⟩ := k (.list vs) D (listOf ws.toArray e) h' hne (.list _ _ _ _ (hs.mono L)) F' N'
    exact h _ _ h' s.toks L S' (.ref _ _ Wd.put_self)
theorem icopy_snd {i : Nat} {vs : List Int} {v : Value} {Q : Value → Shared → Prop} (S : St c m W H s.heap) (hi : hget H i = some (.ilist vs)) (hv : VR c.b W (.ref i) v) (hz : vs.length < 2 ^ 20) (h : PV c m W s Q (.ref (hlen H), hnew H (.ilist vs))) :
    wpAny (model c.prog c.w) A (call (.type "list") [v]) Q E s := by
  obtain ⟨a, ob, led₀, rfl, _, N₀, hm, hR⟩ := S.obj hv hi (by simp)
  obtain ⟨led, N, k⟩ := S.alloc
  obtain ⟨ws, n, rfl, hs⟩ := hR.ilistI
  ·
    have hl := hs.length
    rw [List.length_map] at hl
    refine list_copyK S.fr N (News.isList N₀ hm) (fun D e h' F' N' hlt => ?_) (by rw [sizeLine_eq, List.size_toArray]; omega)
    have hne : ∀ p ∈ led, p.1 ≠ D := fun p hp => Nat.ne_of_lt (hlt p hp)
    have L : W.Le (W.put (hlen H) D) := by
      obtain ⟨F, led', N, B⟩ := S
      exact Wd.le_put (B.top _ (Nat.le_refl _))
    obtain ⟨_, S'⟩ := k (.ilist vs) D (listOf ws.toArray e) h' hne (.ilist _ _ _ _ (hs.mono L)) F' N'
    exact h _ _ h' s.toks L S' (.ref _ _ Wd.put_self)
theorem max_snd {x y : Int} {v u : Value} {Q : Value → Shared → Prop} (hh : A.handled = none) (S : St c m W H s.heap) (hv : VR c.b W (.int x) v) (hu : VR c.b W (.int y) u) (h : PV c m W s Q (.int (std.max x y), H)) :
    wpAny (model c.prog c.w) A (call (.builtin "max") [v, u]) Q E s := by
  cases hv; cases hu
  obtain ⟨F, led, N, B⟩ := S
  refine max_two_N hh F N fun h' tk F' N' => ?_
  refine h _ W h' tk (Wd.Le.refl W) ⟨F', led, N', B⟩ ?_
  show VR c.b W (.int (if x < y then y else x)) _
  exact .int _ _
end
section
variable {c : Cx} {m : Str → Option Value} {W : Wd} {H : HS} {A : Around} {s : Shared} {E : Value → Shared → Prop}
noncomputable def idOf : B1 → Value
  | .abs => .builtin "abs" | .len => .builtin "len" | .min => .builtin "min" | .toInt => .type "int" | .list => .type "list" | .bytes => .type "bytes" | .sorted => .builtin "sorted"
theorem len_snd {v : AV} {u : Value} {Q : Value → Shared → Prop} (O : Ok c) (S : St c m W H s.heap) (hv : VR c.b W v u) (h : (app1 std .len v H).All (PV c m W s Q)) : wpAny (model c.prog c.w) A (call (.builtin "len") [u]) Q E s := by
  simp only [app1] at h
  split at h
  · rename_i i
    cases hi : hget H i with
    | none => rw [hi] at h; exact h.elim
    | some o =>
      rw [hi] at h
      cases o with
      | list vs =>
        obtain ⟨a, ob, led, rfl, _, N, hm, hR⟩ := S.obj hv hi (by simp)
        obtain ⟨hz, h⟩ := h
        obtain ⟨ws, n, rfl, hs⟩ := hR.listI
        ·
          have hl := hs.length
          refine PyProof.Rows.len_list (News.isList N hm) (by rw [List.size_toArray]; omega) (h _ W s.heap _ (Wd.Le.refl W) S ?_)
          rw [List.size_toArray, ← hl]; exact .int _ _
      | ilist vs =>
        obtain ⟨a, ob, led, rfl, _, N, hm, hR⟩ := S.obj hv hi (by simp)
        obtain ⟨hz, h⟩ := h
        obtain ⟨ws, n, rfl, hs⟩ := hR.ilistI
        ·
          have hl := hs.length
          rw [List.length_map] at hl
          refine PyProof.Rows.len_list (News.isList N hm) (by rw [List.size_toArray]; omega) (h _ W s.heap _ (Wd.Le.refl W) S ?_)
          rw [List.size_toArray, ← hl]; exact .int _ _
      | _ => exact h.elim
  · rename_i vs
    obtain ⟨hz, h⟩ := h
    cases hv with
    | blist _ ws a hb hs =>
      have hl := hs.length
      refine PyProof.Rows.len_list (S.blist O hb) (by rw [List.size_toArray]; omega) (h _ W s.heap _ (Wd.Le.refl W) S ?_)
      rw [List.size_toArray, ← hl]; exact .int _ _
  · exact h.elim
theorem byteArr_eq {ns : List Int} (hr : ∀ n ∈ ns, 0 ≤ n ∧ n < 256) : ns = (PySem.byteArr ns).toList.map fun x => (x.toNat : Int) := by
  have e : (PySem.byteArr ns).toList = ns.map fun n => n.toNat.toUInt8 := by simp [PySem.byteArr]
  rw [e, List.map_map]
  have : ns.map ((fun x : UInt8 => (x.toNat : Int)) ∘ fun n : Int => n.toNat.toUInt8) = ns.map id := by
    apply List.map_congr_left
    intro n hn
    obtain ⟨h0, h1⟩ := hr n hn
    show ((n.toNat.toUInt8).toNat : Int) = n
    have : n.toNat.toUInt8.toNat = n.toNat := by
      rw [Nat.toUInt8_eq, UInt8.toNat_ofNat']
      omega
    rw [this]; omega
  rw [this, List.map_id]
theorem app1_snd {f : B1} {v : AV} {u : Value} {Q : Value → Shared → Prop} (hf : f ≠ .sorted) (hh : A.handled = none) (O : Ok c) (S : St c m W H s.heap) (hv : VR c.b W v u) (h : (app1 std f v H).All (PV c m W s Q)) :
    wpAny (model c.prog c.w) A (call (idOf f) [u]) Q E s := by
  cases f with
  | sorted => exact absurd rfl hf
  | len => exact len_snd O S hv h
  | abs =>
    cases v with
    | int x =>
      cases hv with
      | int _ t => exact call_abs_int fun u tk => h _ W s.heap tk (Wd.Le.refl W) S (.int _ _)
    | _ => exact h.elim
  | toInt =>
    cases v with
    | int x =>
      cases hv with
      | int _ t => exact call_int_int (h _ W s.heap s.toks (Wd.Le.refl W) S (.int _ _))
    | _ => exact h.elim
  | min =>
    simp only [app1] at h
    split at h
    · rename_i i
      split at h
      · rename_i x hi
        obtain ⟨a, ob, led, rfl, _, N, hm, hR⟩ := S.obj hv hi (by simp)
        obtain ⟨ws, n, rfl, hs⟩ := hR.listI
        ·
          have hl := News.isList N hm
          obtain ⟨F, led₂, N₂, B₂⟩ := S
          refine kso_min F N₂ hl (allInts_are (ns := [x]) rfl hs) (by simp) hh fun h' M t tk F' N' hM _ => ?_
          rw [List.mem_singleton] at hM; subst hM
          exact h _ W h' tk (Wd.Le.refl W) ⟨F', led₂, N', B₂⟩ (.int _ _)
      · exact h.elim
    · exact h.elim
  | list =>
    simp only [app1] at h
    split at h
    · rename_i i
      split at h
      · rename_i vs hi
        exact copy_snd S hi hv h.1 h.2
      · rename_i vs hi
        exact icopy_snd S hi hv h.1 h.2
      · exact h.elim
    · exact h.elim
  | bytes =>
    simp only [app1] at h
    split at h
    · rename_i i
      split at h
      · rename_i vs hi
        obtain ⟨ns, e, ⟨⟨h1, h2⟩, h⟩⟩ := opt_all h
        obtain ⟨a, ob, led, rfl, _, N, hm, hR⟩ := S.obj hv hi (by simp)
        obtain ⟨ws, n, rfl, hs⟩ := hR.listI
        ·
          have ii := allInts_are e hs
          have hl := ii.length
          refine call_bytes_ints (News.isList N hm) ii h1 (by rw [sizeLine_eq]; omega) hh fun h' t k hk => ?_
          exact h _ W h' k (Wd.Le.refl W) (S.keeps hk) (.bytes _ _ _ (byteArr_eq h1))
      · exact h.elim
    · exact h.elim
end
end Mine
end

section
set_option linter.all false
set_option bootstrap.genMatcherCode false
set_option maxRecDepth 10000
namespace Mine
open PySem PySem.W PySem.Calls PyProof.Rows
structure Pl (n : Nat) (p : Array Nat) : Prop where
  size : p.size = n
  mem : ∀ x ∈ p.toList, x < n
theorem Pl.perm {n : Nat} {p q : Array Nat} (h : Pl n p) (e : q.Perm p) : Pl n q := by
  have e' : q.toList.Perm p.toList := Array.perm_iff_toList_perm.mp e
  refine ⟨?_, fun x hx => h.mem x (e'.mem_iff.mp hx)⟩
  rw [← h.size, ← Array.length_toList, ← Array.length_toList, e'.length_eq]
theorem Pl.at {n : Nat} {p : Array Nat} (h : Pl n p) (h0 : 0 < n) (i : Nat) : p.getD i 0 < n := by
  by_cases q : i < p.size
  · have : p.getD i 0 = p[i] := by simp [Array.getD, q]
    rw [this]
    exact h.mem _ (by rw [Array.mem_toList_iff]; exact Array.getElem_mem q)
  · have : p.getD i 0 = 0 := by simp [Array.getD, q]
    rw [this]; exact h0
section
variable {n : Nat} {cmp : Nat → Nat → (Bool → Shared → Prop) → Shared → Prop} {s : Shared}
noncomputable abbrev Asks (n : Nat) (cmp : Nat → Nat → (Bool → Shared → Prop) → Shared → Prop) (s : Shared) : Prop := ∀ i j C, i < n → j < n → (∀ b, C b s) → cmp i j C s
theorem kw_asc (h0 : 0 < n) (hc : Asks n cmp s) {p : Array Nat} (hp : Pl n p) : ∀ (f m : Nat) {Q : Nat → Shared → Prop}, (∀ r, Q r s) → (kas_asc p f m).kasWp cmp Q s
  | 0, m, Q, h => h m
  | f + 1, m, Q, h => hc _ _ _ (hp.at h0 _) (hp.at h0 _) fun b => by
    cases b with
    | true => exact h m
    | false => exact kw_asc h0 hc hp f (m + 1) h
theorem kw_desc (h0 : 0 < n) (hc : Asks n cmp s) : ∀ (f : Nat) {p : Array Nat} (m q : Nat) {Q : Array Nat × Nat × Nat → Shared → Prop}, Pl n p → (∀ p' a b, Pl n p' → Q (p', a, b) s) → (kas_desc f p m q).kasWp cmp Q s
  | 0, p, m, q, Q, hp, h => h p m q hp
  | f + 1, p, m, q, Q, hp, h => hc _ _ _ (hp.at h0 _) (hp.at h0 _) fun b => by
    cases b with
    | true =>
      show KasT.kasWp cmp (if (true : Bool) = true then _ else _) Q s
      rw [if_pos rfl]
      split
      · exact kw_desc h0 hc f _ _ (hp.perm (mirror_perm _ _ _ _)) h
      · exact kw_desc h0 hc f _ _ hp h
    | false =>
      refine hc _ _ _ (hp.at h0 _) (hp.at h0 _) fun b => ?_
      cases b with
      | true => exact h p m q hp
      | false => exact kw_desc h0 hc f _ _ hp h
theorem kw_tail3 (h0 : 0 < n) (hc : Asks n cmp s) {p : Array Nat} (hp : Pl n p) (a b : Nat) {Q : Nat × Array Nat → Shared → Prop} (h : ∀ r p', Pl n p' → Q (r, p') s) : (kas_tail3 a b p).kasWp cmp Q s := by
  unfold kas_tail3
  rw [KasT.kasWp_bind]
  have hp' : Pl n (kas_rev p 0 a) := hp.perm (mirror_perm _ _ _ _)
  exact kw_asc h0 hc hp' _ _ fun r => h r _ hp'
theorem kw_descPart (h0 : 0 < n) (hc : Asks n cmp s) {p : Array Nat} (hp : Pl n p) (a b : Nat) {Q : Nat × Array Nat → Shared → Prop} (h : ∀ r p', Pl n p' → Q (r, p') s) : (kas_descPart a b p).kasWp cmp Q s := by
  unfold kas_descPart
  rw [KasT.kasWp_bind]
  refine kw_desc h0 hc _ _ _ hp fun p' x y hp' => ?_
  dsimp only
  split
  · exact kw_tail3 h0 hc (hp'.perm (mirror_perm _ _ _ _)) _ _ h
  · exact kw_tail3 h0 hc hp' _ _ h
theorem kw_count (h0 : 0 < n) (hc : Asks n cmp s) {p : Array Nat} (hp : Pl n p) (a : Nat) {Q : Nat × Array Nat → Shared → Prop} (h : ∀ r p', Pl n p' → Q (r, p') s) : (kas_count a p).kasWp cmp Q s := by
  unfold kas_count
  rw [KasT.kasWp_bind]
  refine kw_asc h0 hc hp _ _ fun r => ?_
  split
  · exact h _ _ hp
  · split
    · refine hc _ _ _ (hp.at h0 _) (hp.at h0 _) fun b => ?_
      cases b with
      | true => exact h _ _ hp
      | false => exact kw_descPart h0 hc (hp.perm (mirror_perm _ _ _ _)) _ _ h
    · exact kw_descPart h0 hc hp _ _ h
theorem kw_place (h0 : 0 < n) (hc : Asks n cmp s) {p : Array Nat} (hp : Pl n p) (k : Nat) : ∀ (f l r : Nat) {Q : Nat → Shared → Prop}, (∀ r, Q r s) → (kas_place p k f l r).kasWp cmp Q s
  | 0, l, r, Q, h => h l
  | f + 1, l, r, Q, h => by
    unfold kas_place
    split
    · exact h l
    · refine hc _ _ _ (hp.at h0 _) (hp.at h0 _) fun b => ?_
      cases b with
      | true => exact kw_place h0 hc hp k f _ _ h
      | false => exact kw_place h0 hc hp k f _ _ h
theorem kw_bin (h0 : 0 < n) (hc : Asks n cmp s) : ∀ (f : Nat) {p : Array Nat} (k : Nat) {Q : Array Nat → Shared → Prop}, Pl n p → (∀ p', Pl n p' → Q p' s) → (kas_bin f p k).kasWp cmp Q s
  | 0, p, k, Q, hp, h => h p hp
  | f + 1, p, k, Q, hp, h => by
    show ((kas_place p k k 0 k).bind fun l => kas_bin f (bubble p k (k - l)) (k + 1)).kasWp cmp Q s
    rw [KasT.kasWp_bind]
    exact kw_place h0 hc hp k _ _ _ fun r => kw_bin h0 hc f _ (hp.perm (bubble_perm _ _ _)) h
theorem kw_sort (h0 : 0 < n) (hc : Asks n cmp s) {Q : Array Nat → Shared → Prop} (h : ∀ p, Pl n p → Q p s) : (kas_sort n).kasWp cmp Q s := by
  unfold kas_sort
  rw [KasT.kasWp_bind]
  have hp : Pl n (List.range n).toArray := ⟨by simp, by simp⟩
  refine kw_count h0 hc hp _ fun r p' hp' => ?_
  dsimp only
  split
  · exact kw_bin h0 hc _ _ hp' h
  · exact h _ hp'
end
section
variable {prog : Program} {w : World} {A : Around} {s : Shared} {E : Value → Shared → Prop}
theorem eqBool_self {v : Value} {Q : Bool → Shared → Prop} (h : Q true s) : wpAny (model prog w) A (eqBool v v) Q E s := by
  unfold eqBool
  refine wpAny_holding ?_
  rw [if_pos (beq_self_eq_true v)]
  exact wpAny_bind (wpAny_rule (wpAny_pure h))
theorem lex_self {b fin : Bool} {Q : Bool → Shared → Prop} (h : ∀ c, Q c s) : ∀ (l : List Value) (i : Nat), KatLex prog w A b fin Q (l.zip l) i s
  | [], i => kat_nil (h _)
  | v :: l, i => by
    show KatLex prog w A b fin Q ((v, v) :: l.zip l) i s
    exact kat_cons (eqBool_self (kat_yes (lex_self h l (i + 1))))
theorem lt_rows {x y : Addr} {ox oy : Obj} {xs ys : List Value} {n k : Nat} {a a' b b' : Int} {t t' u u' : Tok} {r r' : List Value} {Q : Bool → Shared → Prop} (hx : s.heap.get? x = some ox) (dx : ox.data = .seq xs.toArray n) (hy : s.heap.get? y = some oy) (dy : oy.data = .seq ys.toArray k)
    (ex : xs = .int a t :: .int b u :: r) (ey : ys = .int a' t' :: .int b' u' :: r') (hd : b = b' → xs = ys) (h : ∀ c, Q c s) : wpAny (model prog w) A (keyLt' (tuples' true) (.ref x) (.ref y)) Q E s := by
  refine kat_lt hx dx hy dy ?_
  show KatLex _ _ _ _ _ _ (xs.zip ys) 0 s
  by_cases q : b = b'
  · rw [← hd q]; exact lex_self h _ _
  · rw [ex, ey]
    show KatLex _ _ _ _ _ _ ((.int a t, .int a' t') :: (.int b u, .int b' u') :: r.zip r') 0 s
    refine kat_cons (wpAny_eqBool_int (kat_go (fun _ => kat_yes ?_) fun _ => kat_no (oneLt_int (h _))))
    refine kat_cons (wpAny_eqBool_int ?_)
    have e : (b == b') = false := by simpa using q
    rw [e]
    exact kat_no (kat_one _ _ (lt_int (h _)))
end
section
variable {c : Cx} {m : Str → Option Value} {W : Wd} {H : HS} {A : Around} {s : Shared} {E : Value → Shared → Prop}
theorem St.made {led : Led} (S : St c m W H s.heap) (N : News c.h₀ c.L s.heap led) (B : Bears c W H led) {x : AO} {a : Addr} {ob : Obj} {h' : Heap} (hne : ∀ p ∈ led, p.1 ≠ a) (hR : OR c.prog c.w c.b (W.put (hlen H) a) x a ob)
    (F' : Fr c.h₀ c.L h' m) (N' : News c.h₀ c.L h' ((a, ob) :: led)) : St c m (W.put (hlen H) a) (hnew H x) h' := by
  exact ⟨F', _, N', (St.alloc' S.fr N B x a ob h' hne hR F' N').2⟩
theorem row_at {b : Heap} {v : AV} {w : Value} (h : VR b W v w) {k : Int} (e : row2 v = some k) : ∃ a ws n t u i r, w = .ref a ∧ (a, tupObj ws n) ∈ W.t ∧ ws = .int i t :: .int k u :: r := by
  unfold row2 at e
  split at e
  · cases e
    cases h with
    | tup _ ws a n hm hs =>
      cases hs with
      | cons _ w1 _ ws1 h1 hs1 =>
        cases hs1 with
        | cons _ w2 _ ws2 h2 hs2 =>
          cases h1 with
          | int i t => cases h2 with
            | int k u => exact ⟨a, _, n, t, u, _, ws2, rfl, hm, rfl⟩
  · cases e
theorem VRs.get {b : Heap} {vs : List AV} {ws : List Value} (h : VRs b W vs ws) {n : Nat} : n < vs.length → VR b W (vs.getD n .none) (ws.getD n .none) :=
  h.ind (P := fun vs ws => ∀ n, n < vs.length → VR b W (vs.getD n .none) (ws.getD n .none)) (fun _ h => absurd h (Nat.not_lt_zero _)) (fun h _ ih n => Nat.casesOn n (fun _ => h) fun n hn => ih n (Nat.lt_of_succ_lt_succ hn)) n
theorem VRs.picked {b : Heap} {vs : List AV} {ws : List Value} (hs : VRs b W vs ws) : ∀ l : List Nat, (∀ x ∈ l, x < vs.length) → VRs b W (l.map fun i => vs.getD i .none) (l.map fun i => ws.getD i Value.none)
  | [], _ => .nil
  | x :: l, h => .cons _ _ _ _ (hs.get (h x List.mem_cons_self)) (hs.picked l fun y hy => h y (List.mem_cons_of_mem _ hy))
theorem tups_of {b : Heap} {h : Heap} (ht : ∀ a ws n, (a, tupObj ws n) ∈ W.t → h.get? a = some (tupObj ws n)) {vs : List AV} {ws : List Value} (hvs : VRs b W vs ws) : (∀ v ∈ vs, (row2 v).isSome = true) →
    ∃ fs, KatTups h ws fs ∧ fs.length = ws.length ∧ ∀ f ∈ fs, ∃ i t, f = Value.int i t :=
  hvs.ind (P := fun vs ws => (∀ v ∈ vs, (row2 v).isSome = true) → ∃ fs, KatTups h ws fs ∧ fs.length = ws.length ∧ ∀ f ∈ fs, ∃ i t, f = Value.int i t) (fun _ => ⟨[], .nil, rfl, fun _ h => absurd h List.not_mem_nil⟩) fun {v w vs ws} hv hs ih hr => by
    obtain ⟨fs, k1, k2, k3⟩ := ih fun v hv => hr v (List.mem_cons_of_mem _ hv)
    obtain ⟨k, e⟩ := Option.isSome_iff_exists.mp (hr v List.mem_cons_self)
    obtain ⟨a, xs, n, t, u, i, r, rfl, hm, ex⟩ := row_at hv e
    refine ⟨.int i t :: fs, .cons (ht _ _ _ hm) rfl rfl (by rw [ex]; rfl) k1, by simp [k2], fun f hf => ?_⟩
    rcases List.mem_cons.mp hf with rfl | hf
    · exact ⟨i, t, rfl⟩
    · exact k3 f hf
theorem sorted_many {i : Nat} {vs : List AV} {v : Value} {Q : Value → Shared → Prop} (S : St c m W H s.heap) (hi : hget H i = some (.list vs)) (hv : VR c.b W (.ref i) v) (ok : sortOk vs) (h2 : 2 ≤ vs.length)
    (h : ∀ ys, ys.length = vs.length → (∀ y ∈ ys, y ∈ vs) → PV c m W s Q (.ref (hlen H), hnew H (.list ys))) : wpAny (model c.prog c.w) A (call (.builtin "sorted") [v]) Q E s := by
  obtain ⟨ok1, ok2, ok3⟩ := ok
  obtain ⟨a, ob, led₀, rfl, _, N₀, hm, hR⟩ := S.obj hv hi (by simp)
  obtain ⟨led, N, k⟩ := S.alloc
  have ht : ∀ a ws n, (a, tupObj ws n) ∈ W.t → s.heap.get? a = some (tupObj ws n) ∧ a ≠ c.L ∧ c.h₀.get? a = none := fun a ws n hm => by
    obtain ⟨F, led', N', B⟩ := S
    exact N' _ (B.tup _ hm).1
  obtain ⟨F, led₁, N₁, B₁⟩ := id S
  obtain ⟨ws, n, rfl, hs⟩ := hR.listI
  ·
    have hl := hs.length
    refine kat_sorted S.fr N₁ (News.isList N₀ hm) (by omega) (by omega) fun D e1 h' F' N' hlt => ?_
    have ht' : ∀ a ws n, (a, tupObj ws n) ∈ W.t → h'.get? a = some (tupObj ws n) := fun a ws n hm => (N' _ (List.mem_cons_of_mem _ (B₁.tup _ hm).1)).1
    obtain ⟨fs, k1, k2, k3⟩ := tups_of ht' hs ok2
    refine kat_kind (fs := fs) (T := .type "int") k1 (by omega) (fun f hf => ?_) (by decide) ?_
    · obtain ⟨i, t, rfl⟩ := k3 f hf
      exact Looks.of_pure rfl
    have e0 : (Value.type "int" != Value.type "tuple") = true := by decide
    rw [e0]
    have h0 : 0 < ws.length := by omega
    refine kw_sort h0 (fun x y C hx hy hC => ?_) fun p hp => ?_
    · have gx := hs.get (n := x) (by omega)
      have gy := hs.get (n := y) (by omega)
      have mx : vs.getD x .none ∈ vs := by
        have e : vs.getD x .none = vs[x] := by simp [hl, hx]
        rw [e]; exact List.getElem_mem _
      have my : vs.getD y .none ∈ vs := by
        have e : vs.getD y .none = vs[y] := by simp [hl, hy]
        rw [e]; exact List.getElem_mem _
      obtain ⟨kx, ex⟩ := Option.isSome_iff_exists.mp (ok2 _ mx)
      obtain ⟨ky, ey⟩ := Option.isSome_iff_exists.mp (ok2 _ my)
      obtain ⟨ax, xs, nx, tx, ux, ix, rx, e1x, hmx, e2x⟩ := row_at gx ex
      obtain ⟨ay, ys, ny, ty, uy, iy, ry, e1y, hmy, e2y⟩ := row_at gy ey
      show wpAny _ _ (keyLt' _ (ws.getD x Value.none) (ws.getD y Value.none)) C _ _
      rw [e1x, e1y]
      refine lt_rows (s := { s with heap := h' }) (ht' _ _ _ hmx) rfl (ht' _ _ _ hmy) rfl e2x e2y (fun e => ?_) hC
      have exy : x = y := by
        have hx' : x < (vs.map row2).length := by rw [List.length_map]; omega
        have hy' : y < (vs.map row2).length := by rw [List.length_map]; omega
        have gx' : (vs.map row2)[x] = some kx := by
          rw [List.getElem_map, ← ex]; congr 1; simp [hl, hx]
        have gy' : (vs.map row2)[y] = some ky := by
          rw [List.getElem_map, ← ey]; congr 1; simp [hl, hy]
        exact (List.getElem_inj ok3).mp (by rw [gx', gy', e])
      subst exy
      rw [e1x] at e1y
      cases e1y
      have z := (ht' _ _ _ hmx).symm.trans (ht' _ _ _ hmy)
      have z' := congrArg Obj.data (Option.some.inj z)
      have z2 : xs.toArray = ys.toArray := by injection z'
      simpa using congrArg Array.toList z2
    · refine KasFin.intro F' N' (UpdF.head fun p hp => Nat.ne_of_lt (hlt p hp)) fun h'' c' F'' N'' => ?_
      have hne : ∀ p ∈ led₁, p.1 ≠ D := fun p hp => Nat.ne_of_lt (hlt p hp)
      have L : W.Le (W.put (hlen H) D) := Wd.le_put (B₁.top _ (Nat.le_refl _))
      have hmem : ∀ x ∈ p.toList, x < vs.length := fun x hx => by have := hp.mem x hx; omega
      have S₁ : St c m W H s.heap := S
      refine h (p.toList.map fun i => vs.getD i .none) (by rw [List.length_map, Array.length_toList, hp.size, hl]) (fun y hy => ?_) _ (W.put (hlen H) D) h'' s.toks L ?_ (.ref _ _ Wd.put_self)
      · obtain ⟨x, hx, rfl⟩ := List.mem_map.mp hy
        have hx' := hmem x hx
        have e : vs.getD x .none = vs[x] := by simp [hx']
        rw [e]; exact List.getElem_mem _
      · exact St.made (S := S) N₁ B₁ hne (.list _ _ _ _ ((hs.picked _ hmem).mono L)) F'' N''
end
end Mine
end

section
set_option linter.all false
set_option bootstrap.genMatcherCode false
set_option maxRecDepth 10000
namespace Mine
open PySem PySem.W PySem.Calls PyProof.Rows
theorem zip_snd : ∀ vs : List Value, List.map (fun x : Value × Value => x.2) (vs.zip vs) = vs
  | [] => rfl
  | v :: r => by rw [List.zip_cons_cons, List.map_cons, zip_snd r]
section
variable {prog : Program} {w : World} {A : Around} {E : Value → Shared → Prop} {s : Shared} {h₀ : Heap} {L a : Addr} {m : Str → Option Value} {news : Led} {vs : List Value}
theorem few_list_sort {n : Nat} {P : PySem.Fin → Shared → Prop} (F : Fr h₀ L s.heap m) (N : News h₀ L s.heap news) (ho : s.heap.get? a = some (seqObj "list" vs.toArray n)) (haL : a ≠ L) (ha0 : h₀.get? a = none) (hna : ∀ p ∈ news, p.1 ≠ a)
    (h2 : vs.length < 2) (h : ∀ h' e, Fr h₀ L h' m → News h₀ L h' ((a, seqObj "list" vs.toArray e) :: news) → P (.done (.ret .none)) { s with heap := h' }) : wpAny (model prog w) A (Builtin.«list.sort» ⟨[.ref a], []⟩) P E s := by
  have ha : a < s.heap.objs.size := Heap.lt_size ho
  have s1 := Heap.SameBut.update s.heap a (Obj.mapSeq fun _ => (#[] : Array Value))
  obtain ⟨e1, ho1⟩ : ∃ e1, (s.heap.update a (Obj.mapSeq fun _ => (#[] : Array Value))).get? a = some (seqObj "list" #[] e1) := ⟨_, get?_update_seq ho fun _ => #[]⟩
  have F3 : Fr h₀ L (((s.heap.update a (Obj.mapSeq fun _ => (#[] : Array Value))).push (seqObj "tuple" vs.toArray 0)).push (seqObj "list" #[] 0)) m := ((kas_fr F s1 haL ha0).push _).push _
  have N2 : News h₀ L (((s.heap.update a (Obj.mapSeq fun _ => (#[] : Array Value))).push (seqObj "tuple" vs.toArray 0)).push (seqObj "list" #[] 0)) news :=
    (kas_news N s1 hna).grown fun b x e => Heap.get?_push_of_some _ (Heap.get?_push_of_some _ e)
  have ho6 : (((s.heap.update a (Obj.mapSeq fun _ => (#[] : Array Value))).push (seqObj "tuple" vs.toArray 0)).push (seqObj "list" #[] 0)).get? a = some (seqObj "list" #[] e1) := Heap.get?_push_of_some _ (Heap.get?_push_of_some _ ho1)
  rw [list_sort_plain]
  refine wpAny_bind (listItems_at ho rfl ?_)
  refine wpAny_bind (listUpdate_at ho rfl ?_ (by rw [List.size_toArray, sizeLine_eq]; omega) (Nat.zero_le _))
  refine wpAny_bind (seqEpoch_at ho1 rfl ?_)
  refine wpAny_bind (wpAny_newTuple ?_ (by show vs.length ≤ _; rw [sizeLine_eq]; omega))
  refine wpAny_bind (wpAny_newList ?_ (Nat.zero_le _))
  refine wpAny_holding ?_
  show wpAny (model prog w) A _ P E { s with heap := ((s.heap.update a (Obj.mapSeq fun _ => (#[] : Array Value))).push (seqObj "tuple" vs.toArray 0)).push (seqObj "list" #[] 0) }
  dsimp only
  have hn2 : vs.toArray.size < 2 := by rw [List.size_toArray]; omega
  rw [if_pos hn2, if_pos hn2]
  refine wpAny_bind (wpAny_pure ?_)
  rw [StateT.run_pure]
  refine wpAny_bind (wpAny_pure ?_)
  dsimp only
  refine wpAny_bind (seqEpoch_at ho6 rfl ?_)
  have hout : Array.map (fun x : Keyed => x.2) (arrOf (SortSt.mk' general' (vs.toArray.zip vs.toArray) #[] 7 none)) = vs.toArray := by
    show Array.map (fun x : Keyed => x.2) (vs.toArray.zip vs.toArray) = vs.toArray
    apply Array.toList_inj.mp
    simp only [Array.toList_map, Array.toList_zip, List.toList_toArray]
    exact zip_snd vs
  rw [hout]
  have s2 := Heap.SameBut.update (((s.heap.update a (Obj.mapSeq fun _ => (#[] : Array Value))).push (seqObj "tuple" vs.toArray 0)).push (seqObj "list" #[] 0)) a (Obj.mapSeq fun _ => vs.toArray)
  obtain ⟨c2, hc2⟩ : ∃ c2, ((((s.heap.update a (Obj.mapSeq fun _ => (#[] : Array Value))).push (seqObj "tuple" vs.toArray 0)).push (seqObj "list" #[] 0)).update a (Obj.mapSeq fun _ => vs.toArray)).get? a = some (seqObj "list" vs.toArray c2) := ⟨_, get?_update_seq ho6 fun _ => vs.toArray⟩
  refine wpAny_bind (listUpdate_at ho6 rfl ?_ (Nat.zero_le _) (by rw [List.size_toArray, sizeLine_eq]; omega))
  simp only [bne_self_eq_false, Bool.false_eq_true, if_false]
  refine wpAny_pure (h _ c2 (kas_fr F3 s2 haL ha0) fun p hp => ?_)
  rcases List.mem_cons.mp hp with rfl | hp
  · exact ⟨hc2, haL, ha0⟩
  · exact kas_news N2 s2 hna p hp
theorem few_sorted {l : Addr} {Q : Value → Shared → Prop} (F : Fr h₀ L s.heap m) (N : News h₀ L s.heap news) (hl : s.heap.IsList l vs.toArray) (h2 : vs.length < 2)
    (h : ∀ D e1 h', Fr h₀ L h' m → News h₀ L h' ((D, seqObj "list" vs.toArray e1) :: news) → (∀ q ∈ news, q.1 < D) → Q (.ref D) { s with heap := h' }) :
    wpAny (model prog w) A (call (.builtin "sorted") [.ref l]) Q E s := by
  refine Calls.call_function_entry kind_sorted plain_sorted entry_sorted (args_sorted1 _) ?_
  unfold Builtin.«sorted»
  refine wpAny_bind (m := checkCount "sorted" 1 1 _) (wpAny_pure ?_)
  refine wpAny_bind (collect_list hl ?_ (by rw [sizeLine_eq]; omega))
  refine wpAny_bind (wpAny_newList ?_ (by rw [sizeLine_eq]; omega))
  have hsz : ((s.heap.push (seqObj "list" #[] 0)).update s.heap.objs.size (Obj.mapSeq (· ++ vs.toArray))).objs.size = s.heap.objs.size + 1 := by
    rw [Heap.size_update, size_push']
  have hoL : (((s.heap.push (seqObj "list" #[] 0)).update s.heap.objs.size (Obj.mapSeq (· ++ vs.toArray))).push (seqObj "list" vs.toArray 0)).get? (s.heap.objs.size + 1) = some (seqObj "list" vs.toArray 0) := by
    rw [← hsz]; exact Heap.get?_push_size _ rfl
  have keep : ∀ b o, s.heap.get? b = some o → (((s.heap.push (seqObj "list" #[] 0)).update s.heap.objs.size (Obj.mapSeq (· ++ vs.toArray))).push (seqObj "list" vs.toArray 0)).get? b = some o := fun b o q => by
    have hlt : b < s.heap.objs.size := Heap.lt_size q
    rw [Heap.get?_push_ne _ _ _ (by rw [hsz]; exact Nat.ne_of_lt (Nat.lt_succ_of_lt hlt)), Heap.get?_update_ne _ _ _ _ (Nat.ne_of_lt hlt), Heap.get?_push_ne _ _ _ (Nat.ne_of_lt hlt)]
    exact q
  have hL : L < s.heap.objs.size := F.ns.lt
  show wpAny _ _ _ _ _ { s with heap := ((s.heap.push (seqObj "list" #[] 0)).update s.heap.objs.size (Obj.mapSeq (· ++ vs.toArray))).push (seqObj "list" vs.toArray 0) }
  rw [hsz]
  refine wpAny_bind (wpAny_holding (wpAny_call_entry slot_list_sort ⟨_, hoL, rfl⟩ entry_list_sort ?body (args_list_sort _)))
  case body =>
    refine few_list_sort (s := { s with heap := ((s.heap.push (seqObj "list" #[] 0)).update s.heap.objs.size (Obj.mapSeq (· ++ vs.toArray))).push (seqObj "list" vs.toArray 0) })
      (F.kept keep) (N.grown keep) hoL (Nat.ne_of_gt (Nat.lt_succ_of_lt hL)) (Heap.get?_none_of_le (Nat.le_trans F.above (Nat.le_succ_of_le (Nat.le_of_lt hL))))
      (fun p hp => Nat.ne_of_lt (Nat.lt_succ_of_lt (Heap.lt_size (N p hp).1))) h2 fun h' e1 F' N' => ?_
    exact ⟨_, rfl, wpAny_pure ⟨_, rfl, h _ e1 h' F' N' fun q hq => Nat.lt_succ_of_lt (Heap.lt_size (N q hq).1)⟩⟩
end
section
variable {c : Cx} {m : Str → Option Value} {W : Wd} {H : HS} {A : Around} {s : Shared} {E : Value → Shared → Prop}
theorem sorted_snd {v : AV} {u : Value} {Q : Value → Shared → Prop} (S : St c m W H s.heap) (hv : VR c.b W v u) (h : (app1 std .sorted v H).All (PV c m W s Q)) :
    wpAny (model c.prog c.w) A (call (.builtin "sorted") [u]) Q E s := by
  simp only [app1] at h
  split at h
  · rename_i i
    split at h
    · rename_i vs hi
      obtain ⟨ok, h⟩ := h
      by_cases h2 : vs.length < 2
      · obtain ⟨a, ob, led₀, rfl, _, N₀, hm, hR⟩ := S.obj hv hi (by simp)
        obtain ⟨F, led₁, N₁, B₁⟩ := id S
        obtain ⟨ws, n, rfl, hs⟩ := hR.listI
        ·
          have hl := hs.length
          refine few_sorted S.fr N₁ (News.isList N₀ hm) (by omega) fun D e1 h' F' N' hlt => ?_
          have hne : ∀ p ∈ led₁, p.1 ≠ D := fun p hp => Nat.ne_of_lt (hlt p hp)
          have L : W.Le (W.put (hlen H) D) := Wd.le_put (B₁.top _ (Nat.le_refl _))
          exact h vs rfl (fun _ h => h) _ (W.put (hlen H) D) h' s.toks L (St.made (S := S) N₁ B₁ hne (.list _ _ _ _ (hs.mono L)) F' N') (.ref _ _ Wd.put_self)
      · exact sorted_many S hi hv ok (by omega) fun ys h1 h2 => h ys h1 h2
    · exact h.elim
  · exact h.elim
theorem call1_snd {f : B1} {v : AV} {u : Value} {Q : Value → Shared → Prop} (hh : A.handled = none) (O : Ok c) (S : St c m W H s.heap) (hv : VR c.b W v u) (h : (app1 std f v H).All (PV c m W s Q)) :
    wpAny (model c.prog c.w) A (call (idOf f) [u]) Q E s := by
  by_cases hf : f = .sorted
  · subst hf; exact sorted_snd S hv h
  · exact app1_snd hf hh O S hv h
end
end Mine
end

section
set_option linter.all false
set_option bootstrap.genMatcherCode false
set_option maxRecDepth 10000
namespace Mine
open PySem PySem.W PySem.Calls PyProof.Rows
noncomputable abbrev Kd := List (Str × NameKind)
noncomputable def relN (ns l : Kd) : Kd := l.map fun (n, k) => if (k == .free && ns.lookup n == some .cell) then (n, .cell) else (n, k)
noncomputable def b1Name : B1 → Str
  | .abs => Str.ofString "abs" | .len => Str.ofString "len" | .min => Str.ofString "min" | .toInt => Str.ofString "int" | .list => Str.ofString "list" | .bytes => Str.ofString "bytes" | .sorted => Str.ofString "sorted"
noncomputable def scOk (ns : Kd) (xs : List Nat) (sc : Scope) : Bool :=
  (sc.kind == .function) && (sc.names.all fun y => y.2 != .cell) && (sc.names.all fun y => y.2 != .local || sc.names.lookup y.1 == some .local) &&
  (xs.all fun x => sc.names.lookup (nm x) == some .local) && (sc.names.all fun y => y.2 != .free || ns.lookup y.1 == some .cell) &&
  (sc.names.all fun y => y.2 != .local || y.1 == Str.ofString ".0" || xs.any fun x => y.1 == nm x)
inductive NamesAre : List Nat → List Expr → Prop where
  | nil : NamesAre [] []
  | cons (x : Nat) (s : Str) (p : Pos) (xs : List Nat) (es : List Expr) (hx : x < nN) (hs : s = nm x) (h : NamesAre xs es) : NamesAre (x :: xs) (.Name s p :: es)
inductive KeysAre : List Nat → List (Option Expr) → Prop where
  | nil : KeysAre [] []
  | cons (x : Nat) (s : Str) (k : Nat) (p : Pos) (xs : List Nat) (es : List (Option Expr)) (hx : x < nN) (hs : s = nm x) (h : KeysAre xs es) : KeysAre (x :: xs) (some (.Constant (.str s) k p) :: es)
inductive RepTg : List Nat → Bool → Expr → Prop where
  | one (x : Nat) (s : Str) (p : Pos) (hx : x < nN) (hs : s = nm x) : RepTg [x] false (.Name s p)
  | tup (xs : List Nat) (es : List Expr) (k : Nat) (p : Pos) (hn : xs.Nodup) (hs : NamesAre xs es) : RepTg xs true (.Tuple es k p)
mutual
inductive RepE : Kd → E → Expr → Prop where
  | loc (ns : Kd) (x : Nat) (s : Str) (p : Pos) (hx : x < nN) (hs : s = nm x) (hk : ns.lookup s = some .local) (hd : (s == ("__debug__" : Str)) = false) : RepE ns (.loc x) (.Name s p)
  | cel (ns : Kd) (x : Nat) (s : Str) (p : Pos) (hx : x < nN) (hs : s = nm x) (hk : ns.lookup s = some .cell) (hd : (s == ("__debug__" : Str)) = false) : RepE ns (.cel x) (.Name s p)
  | glob (ns : Kd) (x : Nat) (s : Str) (p : Pos) (hx : x < nN) (hs : s = nm x) (hk : ns.lookup s = some .globalImplicit) (hd : (s == ("__debug__" : Str)) = false) : RepE ns (.glob x) (.Name s p)
  | int (ns : Kd) (i : Int) (k : Nat) (p : Pos) : RepE ns (.int i) (.Constant (.int i) k p)
  | neg (ns : Kd) (i j : Int) (k : Nat) (p q : Pos) (h : j = -i) : RepE ns (.int j) (.UnaryOp .USub (.Constant (.int i) k p) q)
  | str (ns : Kd) (x : Nat) (s : Str) (k : Nat) (p : Pos) (hx : x < nN) (hs : s = nm x) : RepE ns (.str x) (.Constant (.str s) k p)
  | bool (ns : Kd) (b : Bool) (k : Nat) (p : Pos) : RepE ns (.bool b) (.Constant (.bool b) k p)
  | none (ns : Kd) (k : Nat) (p : Pos) : RepE ns .none (.Constant .none k p)
  | bin (ns : Kd) (o : Op) (a b : E) (x y : Expr) (op : Operator) (p : Pos) (ho : op = opOf o) (ha : RepE ns a x) (hb : RepE ns b y) : RepE ns (.bin o a b) (.BinOp x op y p)
  | cmp (ns : Kd) (o : Cm) (a b : E) (x y : Expr) (op : CmpOp) (p : Pos) (ho : op = cmOf o) (hm : behindInMarks op y = false) (ha : RepE ns a x) (hb : RepE ns b y) : RepE ns (.cmp o a b) (.Compare x [op] [y] p)
  | isIn (ns : Kd) (a b : E) (x y : Expr) (p : Pos) (hm : behindInMarks .In y = false) (ha : RepE ns a x) (hb : RepE ns b y) : RepE ns (.isIn a b) (.Compare x [.In] [y] p)
  | notIn (ns : Kd) (a b : E) (x y : Expr) (p : Pos) (hm : behindInMarks .NotIn y = false) (ha : RepE ns a x) (hb : RepE ns b y) : RepE ns (.notIn a b) (.Compare x [.NotIn] [y] p)
  | isNone (ns : Kd) (a : E) (x : Expr) (k : Nat) (p q : Pos) (ha : RepE ns a x) : RepE ns (.isNone a) (.Compare x [.Is] [.Constant .none k q] p)
  | notNone (ns : Kd) (a : E) (x : Expr) (k : Nat) (p q : Pos) (ha : RepE ns a x) : RepE ns (.notNone a) (.Compare x [.IsNot] [.Constant .none k q] p)
  | and (ns : Kd) (a b : E) (x y : Expr) (r : List Expr) (p : Pos) (ha : RepE ns a x) (hb : RepB ns .And p b (y :: r)) : RepE ns (.and a b) (.BoolOp .And (x :: y :: r) p)
  | or (ns : Kd) (a b : E) (x y : Expr) (r : List Expr) (p : Pos) (ha : RepE ns a x) (hb : RepB ns .Or p b (y :: r)) : RepE ns (.or a b) (.BoolOp .Or (x :: y :: r) p)
  | not (ns : Kd) (a : E) (x : Expr) (p : Pos) (ha : RepE ns a x) : RepE ns (.not a) (.UnaryOp .Not x p)
  | ife (ns : Kd) (t a b : E) (z x y : Expr) (p : Pos) (ht : RepE ns t z) (ha : RepE ns a x) (hb : RepE ns b y) : RepE ns (.ife t a b) (.IfExp z x y p)
  | attr (ns : Kd) (o : E) (a : Nat) (x : Expr) (s : Str) (p : Pos) (hs : s = nm a)
      (he : ∀ env, eval (.Attribute x s p) env = (do
        let o ← eval x env
        standAt p.atName
        let r ← holding [o] (getAttr o s true)
        letTemporaryGo x o r
        pure r)) (ho : RepE ns o x) : RepE ns (.attr o a) (.Attribute x s p)
  | sub (ns : Kd) (o i : E) (x y : Expr) (p : Pos) (hs : ∀ v u, subscripted y false v u = operate [v, u] (getItem v u)) (ho : RepE ns o x) (hi : RepE ns i y) : RepE ns (.sub o i) (.Subscript x y p)
  | upto (ns : Kd) (o : E) (n k : Nat) (x : Expr) (p q r : Pos) (ho : RepE ns o x) : RepE ns (.upto o n) (.Subscript x (.Slice .none (some (.Constant (.int n) k q)) .none r) p)
  | call (ns : Kd) (f : E) (as : Es) (s : Str) (es : List Expr) (p q : Pos) (hf : RepE ns f (.Name s q)) (ha : RepEs ns as es) : RepE ns (.call f as) (.Call (.Name s q) es [] p)
  | meth (ns : Kd) (o : E) (m : Nat) (as : Es) (x : Expr) (s : Str) (es : List Expr) (p q : Pos) (pl : Env → Sem Bool) (hs : s = nm m)
      (he : ∀ env, eval (.Call (.Attribute x s q) es [] p) env = (do
        let ov ← eval x env
        standAt q.atName
        let (f, first) ← holding [ov] (getMethod ov s (pl env))
        callWith p f first (backTo p (starEach es env)) []))
      (ho : RepE ns o x) (ha : RepEs ns as es) : RepE ns (.meth o m as) (.Call (.Attribute x s q) es [] p)
  | b1 (ns : Kd) (f : B1) (a : E) (s : Str) (x : Expr) (p q : Pos) (hs : s = b1Name f) (hk : ns.lookup s = some .globalImplicit) (hx : ∀ env, starEach [x] env = [(false, eval x env)]) (ha : RepE ns a x) : RepE ns (.b1 f a) (.Call (.Name s q) [x] [] p)
  | max (ns : Kd) (a b : E) (s : Str) (x y : Expr) (p q : Pos) (hs : s = Str.ofString "max") (hk : ns.lookup s = some .globalImplicit) (hx : ∀ env, starEach [x, y] env = [(false, eval x env), (false, eval y env)]) (ha : RepE ns a x) (hb : RepE ns b y) : RepE ns (.max a b) (.Call (.Name s q) [x, y] [] p)
  | tup (ns : Kd) (as : Es) (es : List Expr) (k : Nat) (p : Pos) (hz : es.length < 1000) (ha : RepEs ns as es) : RepE ns (.tup as) (.Tuple es k p)
  | list (ns : Kd) (as : Es) (es : List Expr) (p : Pos) (hz : es.length < 1000) (ha : RepEs ns as es) : RepE ns (.list as) (.List es p)
  | dict0 (ns : Kd) (p : Pos) : RepE ns (.dict [] .nil) (.Dict [] [] p)
  | dict (ns : Kd) (ks : List Nat) (as : Es) (keys : List (Option Expr)) (es : List Expr) (p : Pos) (hn : ks.Nodup) (hl : keys.length = es.length) (h0 : keys ≠ []) (hz : keys.length ≤ 15) (hs : KeysAre ks keys) (ha : RepEs ns as es) : RepE ns (.dict ks as) (.Dict keys es p)
  | comp (ns : Kd) (elt : E) (xs : List Nat) (it : E) (sc : Scope) (x y : Expr) (tg : Expr) (p : Pos) (isT : Bool) (hsc : scOk ns xs sc = true) (ht : RepTg xs isT tg) (hfs : ∀ env v, foldedSetIterable y env v = pure v)
      (he : RepE (relN ns sc.names) elt x) (hi : RepE ns it y) : RepE ns (.comp elt xs isT it .none .none) (.ListComp x [⟨tg, y, [], 0⟩] sc p)
  | compIf (ns : Kd) (elt : E) (n k : Nat) (it c : E) (sc : Scope) (x y z : Expr) (tg : Expr) (p : Pos) (hsc : scOk ns [n] sc = true) (ht : RepTg [n] false tg) (hfs : ∀ env v, foldedSetIterable y env v = pure v)
      (he : RepE (relN ns sc.names) elt x) (hc : RepE (relN ns sc.names) c z) (hi : RepE ns it y) : RepE ns (.comp elt [n] false it (some k) c) (.ListComp x [⟨tg, y, [z], 0⟩] sc p)
  | compR (ns : Kd) (elt : E) (n : Nat) (it : E) (sc : Scope) (x y : Expr) (tg : Expr) (s : Str) (p q r : Pos) (hsc : scOk ns [n] sc = true) (ht : RepTg [n] false tg) (hs : s = Str.ofString "range") (hk : ns.lookup s = some .globalImplicit)
      (hx : ∀ env, starEach [y] env = [(false, eval y env)]) (hfs : ∀ env v, foldedSetIterable (.Call (.Name s q) [y] [] r) env v = pure v)
      (he : RepE (relN ns sc.names) elt x) (hi : RepE ns it y) : RepE ns (.compR elt n it) (.ListComp x [⟨tg, .Call (.Name s q) [y] [] r, [], 0⟩] sc p)
  | junk (ns : Kd) (e : Expr) : RepE ns .junk e
inductive RepB : Kd → BoolOp → Pos → E → List Expr → Prop where
  | one (ns : Kd) (op : BoolOp) (p : Pos) (a : E) (x : Expr) (ha : RepE ns a x) : RepB ns op p a [x]
  | and (ns : Kd) (p : Pos) (a b : E) (x y : Expr) (r : List Expr) (ha : RepE ns a x) (hb : RepB ns .And p b (y :: r)) : RepB ns .And p (.and a b) (x :: y :: r)
  | or (ns : Kd) (p : Pos) (a b : E) (x y : Expr) (r : List Expr) (ha : RepE ns a x) (hb : RepB ns .Or p b (y :: r)) : RepB ns .Or p (.or a b) (x :: y :: r)
inductive RepEs : Kd → Es → List Expr → Prop where
  | nil (ns : Kd) : RepEs ns .nil []
  | cons (ns : Kd) (a : E) (as : Es) (x : Expr) (es : List Expr) (he : ∀ env, starEach (x :: es) env = (false, eval x env) :: starEach es env) (ha : RepE ns a x) (hs : RepEs ns as es) : RepEs ns (.cons a as) (x :: es)
end
structure Glb (c : Cx) : Prop where
  base : ∀ a o, c.b.get? a = some o → c.h₀.get? a = some o
  kin : c.K.In c.h₀
  cls : ClsAll c.K
  fn : ∀ f fn, find f fnTab = some fn → find f clsTab = .none → keepIn c.K (.ref f) = true
  clk : ∀ f fn, find f clsTab = some fn → keepIn c.K (.ref f) = true
  top : ∃ mg mb, c.h₀.Ns mainGlobals mg ∧ c.h₀.Ns builtinsNs mb ∧ (∀ x v, lk x globTab = some v → ∃ w, mg (nm x) = some w ∧ ∀ W, VR c.b W v w) ∧
    (∀ f, mg (b1Name f) = .none ∧ mb (b1Name f) = some (idOf f)) ∧ (mg (Str.ofString "max") = .none ∧ mb (Str.ofString "max") = some (.builtin "max")) ∧ (mg (Str.ofString "range") = .none ∧ mb (Str.ofString "range") = some (.type "range"))
  nolim : c.h₀.NoLimit
theorem Glb.ok {c : Cx} (G : Glb c) : Ok c := ⟨G.base⟩
theorem Glb.xs {c : Cx} (G : Glb c) (l : Led) : Glb { c with xs := l } := ⟨G.base, G.kin, G.cls, G.fn, G.clk, G.top, G.nolim⟩
noncomputable abbrev Wants (Q : Value → Shared → Prop) (E : Value → Shared → Prop) : Result → Shared → Prop := fun r s' => match r with | .ok (.ret v) => Q v s' | .ok _ => False | .error e => E e s'
noncomputable def CallsOK (cf : CF) (c : Cx) (A : Around) : Prop := ∀ A' : Around, A'.frames = A.frames → A'.depth ≤ A.depth + 4 → A'.handled = A.handled → ∀ (l : Led) (m : Str → Option Value) (W : Wd) (H : HS) (s : Shared) (f : Nat) (args : List AV) (ws : List Value) (R : Result → Shared → Prop),
  St { c with xs := l } m W H s.heap → VRs c.b W args ws → (cf f args H).All (PV { c with xs := l } m W s fun v s' => R (.ok (.ret v)) s') → codeAny (model c.prog c.w) A' (.call (.ref f) ⟨ws, []⟩) R s
structure Frm (cf : CF) (c : Cx) (A : Around) : Prop where
  handled : A.handled = none
  calls : CallsOK cf c A
theorem Frm.xs {cf : CF} {c : Cx} {A : Around} (F : Frm cf c A) (l : Led) : Frm cf { c with xs := l } A := ⟨F.handled, fun A' a b d l' => F.calls A' a b d l'⟩
structure EnvOK (c : Cx) (m : Str → Option Value) (env : Env) (ns : Kd) (mm : Str → Option Value) : Prop where
  kind : env.scope.kind = .function
  names : env.scope.names = ns
  glob : env.globals = mainGlobals
  bi : env.builtins = builtinsNs
  cells : ∀ y, ns.lookup y = some .cell → ∃ a, env.cells.lookup y = some a
  here : (env.locals = c.L ∧ mm = m) ∨ ∃ o, (env.locals, o) ∈ c.xs ∧ LCg.NsObj o mm
structure LocOK (b : Heap) (W : Wd) (env : Env) (ns : Kd) (mm : Str → Option Value) (ae : AEnv) : Prop where
  lt : ∀ x v, lk x ae = some v → x < nN
  loc : ∀ x v, lk x ae = some v → ns.lookup (nm x) = some .local → ∃ w, mm (nm x) = some w ∧ VR b W v w
  cel : ∀ x v, lk x ae = some v → ns.lookup (nm x) = some .cell → ∃ i a, v = .ref i ∧ W.r i = some a ∧ env.cells.lookup (nm x) = some a
theorem LocOK.mono {b : Heap} {W W' : Wd} {env : Env} {ns : Kd} {mm : Str → Option Value} {ae : AEnv} (h : LocOK b W env ns mm ae) (L : W.Le W') : LocOK b W' env ns mm ae :=
  ⟨h.lt, fun x v e k => let ⟨w, a, r⟩ := h.loc x v e k; ⟨w, a, r.mono L⟩, fun x v e k => let ⟨i, a, e1, e2, e3⟩ := h.cel x v e k; ⟨i, a, e1, L.r _ _ e2, e3⟩⟩
theorem EnvOK.ns {c : Cx} {m : Str → Option Value} {env : Env} {ns : Kd} {mm : Str → Option Value} {W : Wd} {H : HS} {h : Heap} (X : EnvOK c m env ns mm) (S : St c m W H h) : h.Ns env.locals mm := by
  rcases X.here with ⟨e, rfl⟩ | ⟨o, hm, hn⟩
  · rw [e]; exact S.fr.ns
  · obtain ⟨F, led, N, B⟩ := S
    exact hn.ns (N _ (B.xs _ hm)).1
noncomputable def SndE (cf : CF) (ns : Kd) (a : E) (e : Expr) : Prop := ∀ (c : Cx) (A : Around) (env : Env) (m mm : Str → Option Value) (W : Wd) (ae : AEnv) (H : HS) (s : Shared) (Q : Value → Shared → Prop) (E : Value → Shared → Prop),
  Glb c → Frm cf c A → EnvOK c m env ns mm → LocOK c.b W env ns mm ae → St c m W H s.heap → (evalE std cf a ae H).All (PV c m W s Q) → wpAny (model c.prog c.w) A (eval e env) Q E s
noncomputable abbrev PT (c : Cx) (m : Str → Option Value) (W : Wd) (s : Shared) (Q : Bool → Shared → Prop) (r : Bool × HS) : Prop :=
  ∀ W' h' tk', W.Le W' → St c m W' r.2 h' → Q r.1 { s with heap := h', toks := tk' }
noncomputable def SndT (cf : CF) (ns : Kd) (a : E) (e : Expr) : Prop := ∀ (c : Cx) (A : Around) (env : Env) (m mm : Str → Option Value) (W : Wd) (ae : AEnv) (H : HS) (s : Shared) (Q : Bool → Shared → Prop) (E : Value → Shared → Prop),
  Glb c → Frm cf c A → EnvOK c m env ns mm → LocOK c.b W env ns mm ae → St c m W H s.heap → (evalT std cf a ae H).All (PT c m W s Q) → wpAny (model c.prog c.w) A (isTrue e env (eval e env)) Q E s
noncomputable abbrev PVs (c : Cx) (m : Str → Option Value) (W : Wd) (s : Shared) (Q : List Value → Shared → Prop) (r : List AV × HS) : Prop :=
  ∀ vs W' h' tk', W.Le W' → St c m W' r.2 h' → VRs c.b W' r.1 vs → Q vs { s with heap := h', toks := tk' }
noncomputable def SndEs (cf : CF) (ns : Kd) (as : Es) (es : List Expr) : Prop := ∀ (c : Cx) (A : Around) (env : Env) (m mm : Str → Option Value) (W : Wd) (ae : AEnv) (H : HS) (s : Shared) (Q : List Value → Shared → Prop) (E : Value → Shared → Prop) (p : Pos),
  Glb c → Frm cf c A → EnvOK c m env ns mm → LocOK c.b W env ns mm ae → St c m W H s.heap → (evalEs std cf as ae H).All (PVs c m W s fun vs s' => vs.length = es.length → Q vs s') → wpAny (model c.prog c.w) A (spliced (backTo p (starEach es env))) Q E s
theorem PV.next {c : Cx} {m : Str → Option Value} {W W' : Wd} {s : Shared} {h' : Heap} {tk' : Nat} {Q : Value → Shared → Prop} {r : AV × HS} (L : W.Le W') (h : PV c m W s Q r) : PV c m W' { s with heap := h', toks := tk' } Q r :=
  fun v W'' h'' tk'' L' S hv => h v W'' h'' tk'' (L.trans L') S hv
theorem PT.next {c : Cx} {m : Str → Option Value} {W W' : Wd} {s : Shared} {h' : Heap} {tk' : Nat} {Q : Bool → Shared → Prop} {r : Bool × HS} (L : W.Le W') (h : PT c m W s Q r) : PT c m W' { s with heap := h', toks := tk' } Q r :=
  fun W'' h'' tk'' L' S => h W'' h'' tk'' (L.trans L') S
theorem PVs.next {c : Cx} {m : Str → Option Value} {W W' : Wd} {s : Shared} {h' : Heap} {tk' : Nat} {Q : List Value → Shared → Prop} {r : List AV × HS} (L : W.Le W') (h : PVs c m W s Q r) : PVs c m W' { s with heap := h', toks := tk' } Q r :=
  fun v W'' h'' tk'' L' S hv => h v W'' h'' tk'' (L.trans L') S hv
end Mine
end

section
set_option linter.all false
set_option bootstrap.genMatcherCode false
set_option maxRecDepth 10000
namespace Mine
open PySem PySem.W PySem.Calls PyProof.Rows
section
variable {cf : CF} {c : Cx} {A : Around} {env : Env} {m mm : Str → Option Value} {ns : Kd} {W : Wd} {ae : AEnv} {H : HS} {s : Shared} {Ex : Value → Shared → Prop}
theorem SndE.bind {a : E} {e : Expr} {β : Type} {f : AV × HS → T β} {P : β → Prop} {Q : Value → Shared → Prop} (ha : SndE cf ns a e) (G : Glb c) (F : Frm cf c A) (X : EnvOK c m env ns mm) (L : LocOK c.b W env ns mm ae) (S : St c m W H s.heap)
    (h : ((evalE std cf a ae H).bind f).All P) (k : ∀ (r : AV × HS) v W' h' tk', W.Le W' → St c m W' r.2 h' → VR c.b W' r.1 v → (f r).All P → Q v { s with heap := h', toks := tk' }) : wpAny (model c.prog c.w) A (eval e env) Q Ex s :=
  ha c A env m mm W ae H s Q Ex G F X L S (T.All.mono (fun r hr v W' h' tk' a b d => k r v W' h' tk' a b d hr) (T.all_bind.mp h))
theorem SndT.bind {a : E} {e : Expr} {β : Type} {f : Bool × HS → T β} {P : β → Prop} {Q : Bool → Shared → Prop} (ha : SndT cf ns a e) (G : Glb c) (F : Frm cf c A) (X : EnvOK c m env ns mm) (L : LocOK c.b W env ns mm ae) (S : St c m W H s.heap)
    (h : ((evalT std cf a ae H).bind f).All P) (k : ∀ (r : Bool × HS) W' h' tk', W.Le W' → St c m W' r.2 h' → (f r).All P → Q r.1 { s with heap := h', toks := tk' }) : wpAny (model c.prog c.w) A (isTrue e env (eval e env)) Q Ex s :=
  ha c A env m mm W ae H s Q Ex G F X L S (T.All.mono (fun r hr W' h' tk' a b => k r W' h' tk' a b hr) (T.all_bind.mp h))
theorem RepEs.trees {as : Es} {es : List Expr} (h : RepEs ns as es) (env : Env) : starEach es env = es.map fun e => (false, eval e env) := by
  induction es generalizing as with
  | nil => rfl
  | cons x es ih => cases h with | cons _ a as _ _ he ha hs => rw [he env, ih hs]; rfl
theorem RepEs.plain {as : Es} {es : List Expr} (h : RepEs ns as es) (env : Env) (p : Pos) : (backTo p (starEach es env)).any (·.1) = false := by
  rw [h.trees env]
  unfold backTo
  rw [List.map_map, List.any_map]
  exact List.any_eq_false.mpr fun x hx => by simp
theorem evalArgs_of {as : Es} {es : List Expr} (hr : RepEs ns as es) {f : Value} {p : Pos} {Q : Args → Shared → Prop} (h : wpAny (model c.prog c.w) A (spliced (backTo p (starEach es env))) (fun vs s' => Q ⟨vs, []⟩ s') Ex s) :
    wpAny (model c.prog c.w) A (evalArgs f true (backTo p (starEach es env)) []) Q Ex s := by
  cases es with
  | nil =>
    unfold evalArgs
    show wpAny _ A (spliced [] >>= _) Q Ex s
    refine wpAny_bind (wpAny_mono h (fun vs s' h' => ?_) fun _ _ x => x)
    exact wpAny_bind (wpAny_pure (wpAny_holding (wpAny_bind (wpAny_pure (wpAny_bind (wpAny_pure (wpAny_pure h')))))))
  | cons x es =>
    cases hr with
    | cons _ a as _ _ he ha hs => rw [he env] at h ⊢; exact evalArgs_plain h
inductive SndL (cf : CF) (ns : Kd) : Es → List Expr → Prop where
  | nil : SndL cf ns .nil []
  | cons (a : E) (as : Es) (x : Expr) (es : List Expr) (h : SndE cf ns a x) (hs : SndL cf ns as es) : SndL cf ns (.cons a as) (x :: es)
noncomputable def SndB (cf : CF) (ns : Kd) (op : BoolOp) (p : Pos) (a : E) (l : List Expr) : Prop :=
  (∀ (c : Cx) (A : Around) (env : Env) (m mm : Str → Option Value) (W : Wd) (ae : AEnv) (H : HS) (s : Shared) (Q : Value → Shared → Prop) (E : Value → Shared → Prop),
    Glb c → Frm cf c A → EnvOK c m env ns mm → LocOK c.b W env ns mm ae → St c m W H s.heap → (evalE std cf a ae H).All (PV c m W s Q) → wpAny (model c.prog c.w) A (eval (.BoolOp op l p) env) Q E s) ∧
  (∀ (c : Cx) (A : Around) (env : Env) (m mm : Str → Option Value) (W : Wd) (ae : AEnv) (H : HS) (s : Shared) (Q : Bool → Shared → Prop) (E : Value → Shared → Prop) (whole : Sem Value),
    Glb c → Frm cf c A → EnvOK c m env ns mm → LocOK c.b W env ns mm ae → St c m W H s.heap → (evalT std cf a ae H).All (PT c m W s Q) → wpAny (model c.prog c.w) A (isTrue (.BoolOp op l p) env whole) Q E s)
theorem keepP (K : Frag) (fv : Value) (M : Model) : ∀ h, (keepIn K fv = true ∧ K.In h) → ∃ k, (k = Keeper.frame ∨ k = Keeper.machine ∨ k = Keeper.boundFrame) ∧ Looks M h (keeperOf fv) k := fun h x => keeps_K x.1 h x.2
theorem under_new (A : Around) (C : Addr) (l : List Value) : (A.under (.builtin "type.__call__" ⟨.ref C :: l, []⟩)).frames = A.frames ∧ (A.under (.builtin "type.__call__" ⟨.ref C :: l, []⟩)).depth ≤ A.depth + 4 ∧ (A.under (.builtin "type.__call__" ⟨.ref C :: l, []⟩)).handled = A.handled := by
  refine ⟨rfl, ?_, rfl⟩
  show A.depth + _ ≤ A.depth + 4
  have : (Code.builtin "type.__call__" ⟨.ref C :: l, []⟩).weight ≤ 4 := by
    have h1 : (Code.builtin "type.__call__" ⟨.ref C :: l, []⟩).frames = 0 := by kernel_rfl
    have h2 : (Code.builtin "type.__call__" ⟨.ref C :: l, []⟩).isGuard = false := by kernel_rfl
    have h3 : (Code.builtin "type.__call__" ⟨.ref C :: l, []⟩).isCaller = false := by kernel_rfl
    unfold Code.weight
    rw [h2, h3]
    simp only [Bool.false_eq_true, if_false]
    split <;> omega
  omega
theorem callV_snd {f : AV} {args : List AV} {fv : Value} {ws : List Value} {Q : Value → Shared → Prop} (G : Glb c) (F : Frm cf c A) (S : St c m W H s.heap) (hv : VR c.b W f fv) (hws : VRs c.b W args ws)
    (h : (callV cf f args H).All (PV c m W s Q)) : keepIn c.K fv = true ∧ wpAny (model c.prog c.w) A (call fv ws []) Q Ex s := by
  unfold callV at h
  split at h
  · rename_i a
    cases hv with
    | glob =>
      split at h
      · rename_i cl hc
        refine ⟨G.clk a cl hc, ?_⟩
        have ok := G.cls a cl hc
        obtain ⟨Fr0, led, N, B⟩ := S
        refine call_cls Fr0 G.kin N ok.makes ok.init ok.initFn fun x dx h' F' N' lt hlt => ?_
        have N1 : News c.h₀ c.L h' ((dx, dictOf [] 0) :: led) := fun p hp => N' p (List.mem_cons_of_mem _ hp)
        have hne1 : ∀ p ∈ led, p.1 ≠ dx := fun p hp => Nat.ne_of_lt (lt p hp)
        obtain ⟨L1, B1⟩ := St.alloc' Fr0 N B (.attrs []) dx (dictOf [] 0) h' hne1 (.attrs [] dx [] [] 0 .nil (fun k hk => by simp [lk] at hk)) F' N1
        have hne2 : ∀ p ∈ (dx, dictOf [] 0) :: led, p.1 ≠ x := fun p hp => by
          rcases List.mem_cons.mp hp with rfl | hp
          · exact Nat.ne_of_lt hlt
          · exact Nat.ne_of_lt (Nat.lt_trans (lt p hp) hlt)
        obtain ⟨L2, B2⟩ := St.alloc' (x := .inst a (hlen H)) F' N1 B1 x (instObj a dx) h' hne2 (.inst a (hlen H) x dx (Wd.Le.r (Wd.le_put (B1.top _ (Nat.le_refl _))) _ _ Wd.put_self)) F' N'
        rw [hlen_hnew] at L2 B2
        have S2 : St c m ((W.put (hlen H) dx).put (hlen H + 1) x) (hnew (hnew H (.attrs [])) (.inst a (hlen H))) h' := ⟨F', _, N', B2⟩
        obtain ⟨u1, u2, u3⟩ := under_new A a ws
        have L12 := L1.trans L2
        refine F.calls _ u1 u2 u3 c.xs m _ _ { s with heap := h' } cl.init (.ref (hlen H + 1) :: args) (.ref x :: ws) _ S2 (.cons _ _ _ _ (.ref _ _ Wd.put_self) (hws.mono L12)) ?_
        refine T.All.mono (fun r hr v W' h'' tk' L' S' hv => ?_) (T.all_bind.mp h)
        split at hr
        · rename_i e
          rw [e] at hv
          cases hv
          exact ⟨rfl, hr _ W' h'' tk' (L12.trans L') S' (.ref _ _ (L'.r _ _ Wd.put_self))⟩
        · exact hr.elim
      · rename_i hc
        split at h
        · rename_i fn hf
          refine ⟨G.fn a fn hf hc, wpAny_call (F.calls A rfl (Nat.le_add_right _ _) rfl c.xs m W H s a args ws _ S hws ?_)⟩
          exact h
        · exact h.elim
  · exact h.elim
theorem call_snd {f : AV} {as : Es} {es : List Expr} {fv : Value} {p : Pos} {Q : Value → Shared → Prop} (hs : SndEs cf ns as es) (hr : RepEs ns as es) (G : Glb c) (F : Frm cf c A) (X : EnvOK c m env ns mm) (L : LocOK c.b W env ns mm ae) (S : St c m W H s.heap) (hv : VR c.b W f fv)
    (h : ((evalEs std cf as ae H).bind fun q => callV cf f q.1 q.2).All (PV c m W s Q)) : wpAny (model c.prog c.w) A (callWith p fv [] (backTo p (starEach es env)) []) Q Ex s := by
  refine callWith_of (P := fun h => keepIn c.K fv = true ∧ c.K.In h) (by rw [hr.plain env p]; rfl) (keepP c.K fv _) (evalArgs_of hr (hs c A env m mm W ae H s _ Ex p G F X L S (T.All.mono (fun q hq vs W' h' tk' L' S' hvs hl => ?_) (T.all_bind.mp h))))
  obtain ⟨k1, k2⟩ := callV_snd (s := { s with heap := h', toks := tk' }) (Q := Q) (Ex := Ex) G F S' (hv.mono L') hvs (T.All.mono (fun z hz => hz.next L') hq)
  exact ⟨⟨k1, G.kin.keeps S'.fr.keep⟩, k2⟩
theorem VRs.one {b : Heap} {x : AV} {ws : List Value} (h : VRs b W [x] ws) : ∃ w, ws = [w] ∧ VR b W x w := by
  cases h with | cons _ w _ _ h1 h2 => cases h2; exact ⟨w, rfl, h1⟩
theorem VRs.two {b : Heap} {x y : AV} {ws : List Value} (h : VRs b W [x, y] ws) : ∃ w u, ws = [w, u] ∧ VR b W x w ∧ VR b W y u := by
  cases h with | cons _ w _ _ h1 h2 => obtain ⟨u, rfl, h3⟩ := h2.one; exact ⟨w, u, rfl, h1, h3⟩
theorem list_method {j k : Nat} {ov : Value} {pl : Sem Bool} {name id : String} (S : St c m W H s.heap) (hv : VR c.b W (.ref j) ov) {o : AO} (hi : hget H j = some o) (ho : ∃ vs, o = .list vs ∨ ∃ ns, o = .ilist ns) (slot : Slot "list" (nm k) id) (ty : typeOf (.builtin id) = pure (.type "method_descriptor")) :
    wpAny (model c.prog c.w) A (getMethod ov (nm k) pl) (fun fx s₂ => fx = (.builtin id, [ov]) ∧ s₂ = s) Ex s := by
  have go : ∀ (a : Addr) (ob : Obj) (led : Led), ov = .ref a → News c.h₀ c.L s.heap led → (a, ob) ∈ led → ob.cls = .type "list" → ob.dict = none → wpAny (model c.prog c.w) A (getMethod ov (nm k) pl) (fun fx s₂ => fx = (.builtin id, [ov]) ∧ s₂ = s) Ex s := fun a ob led e N hm h1 h2 => by
    subst e
    exact getMethod_builtin ⟨ob, (N _ hm).1, h1⟩ PySem.F.plainAttrs_list slot ty (fun a' e => by cases e; exact ⟨ob, (N _ hm).1, h2⟩) ⟨rfl, rfl⟩
  obtain ⟨vs, rfl | ⟨ns, rfl⟩⟩ := ho
  · obtain ⟨a, ob, led, e, _, N, hm, hR⟩ := S.obj hv hi (by simp)
    obtain ⟨ws, n, rfl, h⟩ := hR.listI
    ·  exact go a _ led e N hm rfl rfl
  · obtain ⟨a, ob, led, e, _, N, hm, hR⟩ := S.obj hv hi (by simp)
    obtain ⟨ws, n, rfl, h⟩ := hR.ilistI
    ·  exact go a _ led e N hm rfl rfl
theorem dict_method {j k : Nat} {ov : Value} {pl : Sem Bool} {id : String} (S : St c m W H s.heap) (hv : VR c.b W (.ref j) ov) {o : AO} (hi : hget H j = some o) (ho : (∃ kv, o = .rc kv) ∨ ∃ f, o = .fdict f) (slot : Slot "dict" (nm k) id) (ty : typeOf (.builtin id) = pure (.type "method_descriptor")) :
    wpAny (model c.prog c.w) A (getMethod ov (nm k) pl) (fun fx s₂ => fx = (.builtin id, [ov]) ∧ s₂ = s) Ex s := by
  rcases ho with ⟨kv, rfl⟩ | ⟨f, rfl⟩
  · obtain ⟨a, ob, led, rfl, _, N, hm, hR⟩ := S.obj hv hi (by simp)
    obtain ⟨kvs, lo, hd, hp⟩ := hR.rcI
    ·  exact kob_method (knd := PySem.strKind _ _) slot ty N hm hd ⟨rfl, rfl⟩
  · obtain ⟨a, ob, led, rfl, _, N, hm, hR⟩ := S.obj hv hi (by simp)
    obtain ⟨kvs, lo, hd, hp⟩ := hR.fdI
    ·  exact kob_method (knd := PySem.strKind _ _) slot ty N hm hd ⟨rfl, rfl⟩
theorem m_append {j : Nat} {ov : Value} {args : List AV} {vs : List Value} {Q : Value → Shared → Prop} (S : St c m W H s.heap) (hv : VR c.b W (.ref j) ov) (hvs : VRs c.b W args vs) (h : (meth1 std .append H (.ref j) args).All (PV c m W s Q)) :
    wpAny (model c.prog c.w) A (call (.builtin "list.append") ([ov] ++ vs)) Q Ex s := by
  simp only [meth1] at h
  · skip
    split at h
    · rename_i x
      obtain ⟨z, rfl, hz⟩ := hvs.one
      split at h
      · rename_i ws hi
        exact append_snd S hi hv hz h.1 h.2
      · rename_i ws hi
        split at h
        · exact iappend_snd S hi hv hz h.1 h.2
        · exact h.elim
      · exact h.elim
    · exact h.elim
theorem m_pop {j : Nat} {ov : Value} {args : List AV} {vs : List Value} {Q : Value → Shared → Prop} (S : St c m W H s.heap) (hv : VR c.b W (.ref j) ov) (hvs : VRs c.b W args vs) (h : (meth1 std .pop H (.ref j) args).All (PV c m W s Q)) :
    wpAny (model c.prog c.w) A (call (.builtin "list.pop") ([ov] ++ vs)) Q Ex s := by
  simp only [meth1] at h
  · skip
    split at h
    · rename_i x
      obtain ⟨z, rfl, hz⟩ := hvs.one
      cases hz with
      | int _ t =>
        split at h
        · rename_i v r hi
          obtain ⟨⟨h1, h2⟩, h3⟩ := h
          subst h1
          exact pop_snd S hi hv h2 h3
        · rename_i v r hi
          obtain ⟨⟨h1, h2⟩, h3⟩ := h
          subst h1
          exact ipop_snd S hi hv h2 h3
        · exact h.elim
    · exact h.elim
theorem m_get {j : Nat} {ov : Value} {args : List AV} {vs : List Value} {Q : Value → Shared → Prop} (S : St c m W H s.heap) (hv : VR c.b W (.ref j) ov) (hvs : VRs c.b W args vs) (h : (meth1 std .get H (.ref j) args).All (PV c m W s Q)) :
    wpAny (model c.prog c.w) A (call (.builtin "dict.get") ([ov] ++ vs)) Q Ex s := by
  simp only [meth1] at h
  · skip
    split at h
    · rename_i k d
      obtain ⟨z, u, rfl, hz, hu⟩ := hvs.two
      split at h
      · rename_i kv hi
        exact rget_snd S hi hv hz hu h
      · rename_i f hi
        split at h
        · exact fget_snd S hi hv hz hu h
        · exact h.elim
      · exact h.elim
    · exact h.elim
theorem m_update {j : Nat} {ov : Value} {args : List AV} {vs : List Value} {Q : Value → Shared → Prop} (S : St c m W H s.heap) (hv : VR c.b W (.ref j) ov) (hvs : VRs c.b W args vs) (h : (meth1 std .update H (.ref j) args).All (PV c m W s Q)) :
    wpAny (model c.prog c.w) A (call (.builtin "dict.update") ([ov] ++ vs)) Q Ex s := by
  simp only [meth1] at h
  · skip
    split at h
    · rename_i i
      obtain ⟨z, rfl, hz⟩ := hvs.one
      split at h
      · rename_i kv kv' hi hi'
        exact update_snd S hi hi' h.1 hv hz h.2
      · exact h.elim
    · exact h.elim
theorem bm_snd {o : AV} {k : Nat} {b : BM} {ov : Value} {pl : Sem Bool} (S : St c m W H s.heap) (hv : VR c.b W o ov) (hb : bmOf H o k = some b) :
    ∃ id : String, wpAny (model c.prog c.w) A (getMethod ov (nm k) pl) (fun fx s₂ => fx = (.builtin id, [ov]) ∧ s₂ = s) Ex s ∧
      ∀ (W' : Wd) (H' : HS) (s' : Shared) (args : List AV) (vs : List Value) (Q : Value → Shared → Prop), St c m W' H' s'.heap → VR c.b W' o ov → VRs c.b W' args vs → (meth1 std b H' o args).All (PV c m W' s' Q) → wpAny (model c.prog c.w) A (call (.builtin id) ([ov] ++ vs)) Q Ex s' := by
  unfold bmOf at hb
  split at hb
  · rename_i j
    have la : nm nAppend = Str.ofString "append" := rfl
    have lp : nm nPop = Str.ofString "pop" := rfl
    have lg : nm nGet = Str.ofString "get" := rfl
    have lu : nm nUpdate = Str.ofString "update" := rfl
    have isl : ∀ {o : AO}, hget H j = some o → (∃ vs, o = .list vs ∨ ∃ ns, o = .ilist ns) → (match Nat.beq k nAppend with | true => some BM.append | false => match Nat.beq k nPop with | true => some .pop | false => none) = some b →
        ∃ id : String, wpAny (model c.prog c.w) A (getMethod ov (nm k) pl) (fun fx s₂ => fx = (.builtin id, [ov]) ∧ s₂ = s) Ex s ∧
          ∀ (W' : Wd) (H' : HS) (s' : Shared) (args : List AV) (vs : List Value) (Q : Value → Shared → Prop), St c m W' H' s'.heap → VR c.b W' (.ref j) ov → VRs c.b W' args vs → (meth1 std b H' (.ref j) args).All (PV c m W' s' Q) → wpAny (model c.prog c.w) A (call (.builtin id) ([ov] ++ vs)) Q Ex s' := fun hi ho hb => by
      split at hb
      · rename_i e
        cases hb
        rw [Nat.eq_of_beq_eq_true e]
        exact ⟨"list.append", list_method (name := "append") S hv hi ho (by rw [la]; exact PySem.F.slot_list_append) PySem.F.type_list_append, fun W' H' s' args vs Q S' hv' hvs h => m_append S' hv' hvs h⟩
      · split at hb
        · rename_i e
          cases hb
          rw [Nat.eq_of_beq_eq_true e]
          exact ⟨"list.pop", list_method (name := "pop") S hv hi ho (by rw [lp]; exact PySem.F.slot_list_pop) PySem.F.type_list_pop, fun W' H' s' args vs Q S' hv' hvs h => m_pop S' hv' hvs h⟩
        · cases hb
    split at hb
    · rename_i vs hi
      exact isl hi ⟨vs, .inl rfl⟩ hb
    · rename_i vs hi
      exact isl hi ⟨[], .inr ⟨vs, rfl⟩⟩ hb
    · rename_i kv hi
      split at hb
      · rename_i e
        cases hb
        rw [Nat.eq_of_beq_eq_true e]
        exact ⟨"dict.get", dict_method S hv hi (.inl ⟨kv, rfl⟩) (by rw [lg]; exact PySem.F.slot_dict_get) PySem.F.type_dict_get, fun W' H' s' args vs Q S' hv' hvs h => m_get S' hv' hvs h⟩
      · split at hb
        · rename_i e
          cases hb
          rw [Nat.eq_of_beq_eq_true e]
          exact ⟨"dict.update", dict_method S hv hi (.inl ⟨kv, rfl⟩) (by rw [lu]; exact PySem.F.slot_dict_update) PySem.F.type_dict_update, fun W' H' s' args vs Q S' hv' hvs h => m_update S' hv' hvs h⟩
        · cases hb
    · rename_i f hi
      split at hb
      · rename_i e
        cases hb
        rw [Nat.eq_of_beq_eq_true e]
        exact ⟨"dict.get", dict_method S hv hi (.inr ⟨f, rfl⟩) (by rw [lg]; exact PySem.F.slot_dict_get) PySem.F.type_dict_get, fun W' H' s' args vs Q S' hv' hvs h => m_get S' hv' hvs h⟩
      · cases hb
    · cases hb
  · cases hb
theorem meth_snd {o : AV} {k : Nat} {as : Es} {es : List Expr} {ov : Value} {p : Pos} {pl : Sem Bool} {Q : Value → Shared → Prop} (hs : SndEs cf ns as es) (hr : RepEs ns as es) (G : Glb c) (F : Frm cf c A) (X : EnvOK c m env ns mm) (L : LocOK c.b W env ns mm ae) (S : St c m W H s.heap) (hv : VR c.b W o ov)
    (h : (methV std cf H o k (evalEs std cf as ae H)).All (PV c m W s Q)) : wpAny (model c.prog c.w) A (getMethod ov (nm k) pl) (fun fx s₂ => wpAny (model c.prog c.w) A (callWith p fx.1 fx.2 (backTo p (starEach es env)) []) Q Ex s₂) Ex s := by
  unfold methV at h
  split at h
  · rename_i C cl d kv hi
    split at h
    · rename_i f hf hl
      obtain ⟨x, dx, ks, ent, n, rfl, hdx, I, D, hc⟩ := S.inst o hi hv
      obtain ⟨_, _, _, hcl, _⟩ := instAt_inv hi
      obtain ⟨m1, m2, m3, m4, m5⟩ := (G.cls C cl hcl).meth k f hf
      have hk : k ∉ ks := fun hk => by
        have := (D.mem k hk).2
        rw [hl] at this; cases this
      refine method_inst S.fr G.kin I m2 m3 m4 ((D.getL m1).2 hk) ?_
      refine callWith_of (P := fun h => keepIn c.K (.ref f) = true ∧ c.K.In h) (by rw [hr.plain env p]; rfl) (keepP c.K (.ref f) _) (evalArgs_of hr (hs c A env m mm W ae H s _ Ex p G F X L S (T.All.mono (fun q hq vs W' h' tk' L' S' hvs hl => ?_) (T.all_bind.mp h))))
      refine ⟨⟨m5, G.kin.keeps S'.fr.keep⟩, wpAny_call (F.calls A rfl (Nat.le_add_right _ _) rfl c.xs m W' q.2 { s with heap := h', toks := tk' } f (o :: q.1) (.ref x :: vs) _ S' (.cons _ _ _ _ (hv.mono L') hvs) ?_)⟩
      exact T.All.mono (fun z hz => PV.next L' hz) hq
    · exact h.elim
  · split at h
    · rename_i b hb
      have key : ∀ id : String, wpAny (model c.prog c.w) A (getMethod ov (nm k) pl) (fun fx s₂ => fx = (.builtin id, [ov]) ∧ s₂ = s) Ex s →
          (∀ (q : List AV × HS) vs W' h' tk', W.Le W' → St c m W' q.2 h' → VRs c.b W' q.1 vs → (meth1 std b q.2 o q.1).All (PV c m W s Q) → wpAny (model c.prog c.w) A (call (.builtin id) ([ov] ++ vs)) Q Ex { s with heap := h', toks := tk' }) →
          wpAny (model c.prog c.w) A (getMethod ov (nm k) pl) (fun fx s₂ => wpAny (model c.prog c.w) A (callWith p fx.1 fx.2 (backTo p (starEach es env)) []) Q Ex s₂) Ex s := fun id h1 h2 => by
        refine wpAny_mono h1 (fun fx s₂ e => ?_) fun _ _ e => e
        obtain ⟨rfl, rfl⟩ := e
        refine callWith_builtin (hr.plain env p) (evalArgs_of hr (hs c A env m mm W ae H _ _ Ex p G F X L S (T.All.mono (fun q hq vs W' h' tk' L' S' hvs hl => ?_) (T.all_bind.mp h))))
        exact h2 q vs W' h' tk' L' S' hvs hq
      obtain ⟨id, k1, k2⟩ := bm_snd (A := A) (Ex := Ex) (pl := pl) S hv hb
      exact key id k1 fun q vs W' h' tk' L' S' hvs hq => k2 W' q.2 { s with heap := h', toks := tk' } q.1 vs Q S' (hv.mono L') hvs (T.All.mono (fun z hz => PV.next L' hz) hq)
    · exact h.elim
theorem St.cell (S : St c m W H s.heap) {i : Nat} {v : AV} {a : Addr} (hi : hget H i = some (.cell (some v))) (ha : W.r i = some a) : ∃ w, s.heap.IsCell a (some w) ∧ VR c.b W v w := by
  obtain ⟨a', ob, led, e, ha', N, hm, hR⟩ := S.obj (.ref i a ha) hi (by simp)
  cases e
  cases hR with
  | cell _ _ _ x hd hv => exact ⟨x, ⟨ob, (N _ hm).1, hd⟩, hv⟩
theorem name_loc {x : Nat} {p : Pos} {v : AV} {Q : Value → Shared → Prop} (X : EnvOK c m env ns mm) (L : LocOK c.b W env ns mm ae) (S : St c m W H s.heap) (hk : ns.lookup (nm x) = some .local) (hd : (nm x == ("__debug__" : Str)) = false)
    (hl : lk x ae = some v) (h : ∀ w, VR c.b W v w → Q w s) : wpAny (model c.prog c.w) A (eval (.Name (nm x) p) env) Q Ex s := by
  obtain ⟨w, h1, h2⟩ := L.loc x v hl hk
  exact wpAny_Name (wpAny_loadName_local X.kind (by unfold Env.kindOf; rw [X.names]; exact hk) (X.ns S) h1 (h w h2)) hd
theorem truthB {b : Bool} {Q : Bool → Shared → Prop} (h : Q b s) : wpAny (model c.prog c.w) A (truthy (.bool b)) Q Ex s := wpAny_truthy_bool h
theorem name_builtin {x : Str} {p : Pos} {w : Value} {mg mb : Str → Option Value} {Q : Value → Shared → Prop} (X : EnvOK c m env ns mm) (S : St c m W H s.heap) (hg : c.h₀.Ns mainGlobals mg) (hb : c.h₀.Ns builtinsNs mb) (hk : ns.lookup x = some .globalImplicit)
    (h1 : mg x = none) (h2 : mb x = some w) (hd : (x == ("__debug__" : Str)) = false) (h : Q w s) : wpAny (model c.prog c.w) A (eval (.Name x p) env) Q Ex s := by
  refine Name_function_global X.kind (by unfold Env.kindOf; rw [X.names]; exact hk) ?_ hd
  exact loadGlobal_builtin (by rw [X.glob]; exact hg.keeps S.fr.keep) h1 (by rw [X.bi]; exact hb.keeps S.fr.keep) h2 h
theorem b1_nd (f : B1) : (b1Name f == ("__debug__" : Str)) = false := by cases f <;> decide
theorem b1_with {f : B1} {p : Pos} {x : Expr} {Q : Value → Shared → Prop} (hx : starEach [x] env = [(false, eval x env)]) (h : wpAny (model c.prog c.w) A (eval x env) (fun v s₁ => wpAny (model c.prog c.w) A (call (idOf f) [v]) Q Ex s₁) Ex s) :
    wpAny (model c.prog c.w) A (callWith p (idOf f) [] (backTo p (starEach [x] env)) []) Q Ex s := by
  rw [hx]
  have h' : wpAny (model c.prog c.w) A (evalArgs (idOf f) true [(false, eval x env)] []) (fun a s₁ => wpAny (model c.prog c.w) A (call (idOf f) ([] ++ a.pos) a.kw) Q Ex s₁) Ex s :=
    evalArgs_plain (spliced_cons (wpAny_mono h (fun _ _ h₁ => spliced_nil h₁) fun _ _ e => e))
  cases f <;> first | exact callWith_builtin rfl h' | exact PyProof.Rows.callWith_type rfl (evalArgs_plain (spliced_cons (wpAny_mono h (fun _ _ h₁ => spliced_nil h₁) fun _ _ e => e)))
end
end Mine
end

section
set_option linter.all false
set_option bootstrap.genMatcherCode false
set_option maxRecDepth 10000
namespace Mine
open PySem PySem.W PySem.Calls PyProof.Rows
theorem pick_upto (items : Array Value) (k : Nat) : slicePick items none (some (k : Int)) none = (items.toList.take k).toArray := by
  have e : sliceBounds none (some (k : Int)) none items.size = (((0 : Nat) : Int), ((min k items.size : Nat) : Int), 1) := by
    have h0 : ¬ ((k : Int) < 0) := by omega
    have e1 : max (0 : Int) (min (k : Int) (items.size : Int)) = ((min k items.size : Nat) : Int) := by omega
    simp [sliceBounds, h0, e1]
  rw [kmk_pick_nat items e]
  congr 1
  simp only [List.drop_zero, Nat.sub_zero]
  by_cases q : k ≤ items.size
  · rw [Nat.min_eq_left q]
  · rw [Nat.min_eq_right (by omega), List.take_of_length_le (by simp), List.take_of_length_le (by simp; omega)]
section
variable {cf : CF} {c : Cx} {A : Around} {env : Env} {m mm : Str → Option Value} {ns : Kd} {W : Wd} {ae : AEnv} {H : HS} {s : Shared} {Ex : Value → Shared → Prop}
theorem VRs.take {b : Heap} {vs : List AV} {ws : List Value} (h : VRs b W vs ws) : ∀ k, VRs b W (vs.take k) (ws.take k) :=
  h.ind (P := fun a c => ∀ k, VRs b W (a.take k) (c.take k)) (fun k => Nat.casesOn k .nil fun _ => .nil) fun h _ ih k => Nat.casesOn k .nil fun k => .cons _ _ _ _ h (ih k)
theorem upto_snd {o : E} {n k : Nat} {x : Expr} {p q r : Pos} (ho : SndE cf ns o x) : SndE cf ns (.upto o n) (.Subscript x (.Slice .none (some (.Constant (.int n) k q)) .none r) p) := by
  intro c A env m mm W ae H s Q Ex G F X L S h
  refine Subscript_ (ho.bind G F X L S h fun rr v W' h' tk' L' S' hv h => ?_)
  refine wpAny_Slice (evalPart_none_step (evalPart_some_step (wpAny_Constant_int (evalPart_none_step ?_))))
  split at h
  · rename_i vs e
    rw [e] at hv
    obtain ⟨hz, h⟩ := h
    cases hv with
    | blist _ ws a hb hs =>
      have hl := hs.length
      have hl' := St.blist (s := { s with heap := h', toks := tk' }) S' G.ok hb
      obtain ⟨F', led', N', B'⟩ := id S'
      refine tail_any (ops := [_, _]) (Heap.IsList.typeIs (s := { s with heap := h'.push _, toks := _ }) (hl'.push _)) list_getitem_lookup (wpAny_getItem_list_slice (s := { s with heap := h'.push _, toks := _ }) (hl'.push _) (Heap.IsSliceOf.new ..) .none (.int _ _) .none (by simp) ?_ (by rw [sizeLine_eq, List.size_toArray]; omega)) (by with_unfolding_all rfl)
      have up : ∀ b o, h'.get? b = some o → (h'.push { cls := .type "slice", data := .fields #[.none, .int (n : Int) tk', .none] }).get? b = some o := fun b o e => Heap.get?_push_of_some _ e
      have S2 := S'.keeps up
      obtain ⟨F2, led2, N2, B2⟩ := S2
      have F3 := F2.push { cls := .type "list", data := .seq (slicePick ws.toArray none (some (n : Int)) none) }
      have N3 := News.push F2 N2 { cls := .type "list", data := .seq (slicePick ws.toArray none (some (n : Int)) none) }
      have hne : ∀ p ∈ led2, p.1 ≠ (h'.push { cls := .type "slice", data := .fields #[.none, .int (n : Int) tk', .none] }).objs.size := fun p hp => Nat.ne_of_lt (Heap.lt_size (N2 p hp).1)
      have Lw := Wd.le_put (a := (h'.push { cls := .type "slice", data := .fields #[.none, .int (n : Int) tk', .none] }).objs.size) (B2.top (hlen rr.2) (Nat.le_refl _))
      have hR : OR c.prog c.w c.b (W'.put (hlen rr.2) (h'.push { cls := .type "slice", data := .fields #[.none, .int (n : Int) tk', .none] }).objs.size) (.list (vs.take n)) (h'.push { cls := .type "slice", data := .fields #[.none, .int (n : Int) tk', .none] }).objs.size
          { cls := .type "list", data := .seq (slicePick ws.toArray none (some (n : Int)) none) } := by
        rw [pick_upto]
        exact .list _ _ _ _ ((hs.take n).mono Lw)
      exact h _ _ _ _ (L'.trans Lw) ⟨F3, _, N3, (St.alloc' F2 N2 B2 _ _ _ _ hne hR F3 N3).2⟩ (.ref _ _ Wd.put_self)
  · exact h.elim
inductive KV : List Nat → List Value → List (Value × Value) → Prop where
  | nil : KV [] [] []
  | cons (k : Nat) (t : Tok) (w : Value) (ks : List Nat) (ws : List Value) (l : List (Value × Value)) (hk : k < nN) (h : KV ks ws l) : KV (k :: ks) (w :: ws) ((.str (nm k) t, w) :: l)
theorem KV.carries {prog : Program} {w : World} {ks : List Nat} {ws : List Value} {l : List (Value × Value)} (h : KV ks ws l) : Carries (PySem.strKind prog w) l (strPairs l) := by
  induction h with
  | nil => exact trivial
  | cons k t w ks ws l hk h ih => exact ⟨strKind_is _ _ _ _, rfl, ih⟩
theorem KV.keys {ks : List Nat} {ws : List Value} {l : List (Value × Value)} (h : KV ks ws l) : (strPairs l).map (·.1) = ks.map nm ∧ ∀ k ∈ ks, k < nN := by
  induction h with
  | nil => exact ⟨rfl, fun _ h => absurd h List.not_mem_nil⟩
  | cons k t w ks ws l hk h ih => exact ⟨congrArg (nm k :: ·) ih.1, fun j hj => (List.mem_cons.mp hj).elim (fun e => e ▸ hk) (ih.2 j)⟩
theorem KV.nodup {ks : List Nat} {ws : List Value} {l : List (Value × Value)} (h : KV ks ws l) (hn : ks.Nodup) : ((strPairs l).map (·.1)).Nodup := by
  rw [h.keys.1]
  have hk := h.keys.2
  clear h
  induction ks with
  | nil => exact .nil
  | cons k ks ih =>
    rw [List.nodup_cons] at hn
    rw [List.map_cons, List.nodup_cons]
    refine ⟨fun hm => ?_, ih hn.2 fun j hj => hk j (List.mem_cons_of_mem _ hj)⟩
    obtain ⟨j, hj, e⟩ := List.mem_map.mp hm
    have := nm_inj (hk j (List.mem_cons_of_mem _ hj)) (hk k List.mem_cons_self) e
    subst this; exact hn.1 hj
theorem valueAt_cons {k j : Nat} {w : Value} {l : List (Str × Value)} (hk : k < nN) (hj : j < nN) : valueAt ((nm k, w) :: l) (nm j) = if k = j then some w else valueAt l (nm j) := by
  unfold valueAt
  rw [List.find?_cons]
  by_cases q : k = j
  · subst q; simp
  · have : ¬ nm k = nm j := fun e => q (nm_inj hk hj e)
    simp [this, q]
theorem lk_cons {k j : Nat} {v : AV} {l : List (Nat × AV)} : lk j ((k, v) :: l) = if k = j then some v else lk j l := by
  by_cases q : k = j
  · rw [if_pos q, q]; exact R.lk_t (Nat.beq_refl j)
  · rw [if_neg q]; exact R.lk_f (R.beq_ne q)
theorem KV.pr {b : Heap} {ks : List Nat} {ws : List Value} {l : List (Value × Value)} (h : KV ks ws l) : ∀ {vs : List AV} {kv : List (Nat × AV)}, zipE ks vs = some kv → VRs b W vs ws → PR b W (fun k => lk k kv) (strPairs l) := by
  induction h with
  | nil =>
    intro vs kv hz hv
    cases vs with
    | cons _ _ => exact nomatch (hz : none = some kv)
    | nil => exact (Option.some.inj hz) ▸ ⟨fun _ h => absurd h List.not_mem_nil, fun k _ => rfl⟩
  | cons k t w ks ws l hk h ih =>
    intro vs' kv hz hv'
    cases vs' with
    | nil => exact nomatch (hz : none = some kv)
    | cons v vs =>
    obtain ⟨_, _, e, hw, hv⟩ := hv'.consI
    cases e
    obtain ⟨kv', e, rfl⟩ := Option.map_eq_some_iff.mp (hz : (zipE ks vs).map ((k, v) :: ·) = some kv)
    refine ⟨fun p hp => (List.mem_cons.mp (hp : p ∈ (nm k, w) :: strPairs l)).elim (fun e => ⟨k, hk, e ▸ rfl⟩) ((ih e hv).1 p), fun j hj => ?_⟩
    rw [show valueAt (strPairs ((.str (nm k) t, w) :: l)) (nm j) = _ from valueAt_cons hk hj]
    dsimp only
    rw [lk_cons]
    by_cases q : k = j
    · rw [if_pos q, if_pos q]
      exact ⟨w, rfl, hw⟩
    · rw [if_neg q, if_neg q]
      exact (ih e hv).2 j hj
theorem pairs_snd {ns : Kd} {as : Es} {es : List Expr} {p : Pos} (hs : SndL cf ns as es) : ∀ {ks : List Nat} {keys : List (Option Expr)}, KeysAre ks keys → keys.length = es.length → ∀ (W : Wd) (H : HS) (s : Shared) (Q : List (Value × Value) → Shared → Prop),
    Glb c → Frm cf c A → EnvOK c m env ns mm → LocOK c.b W env ns mm ae → St c m W H s.heap →
    (evalEs std cf as ae H).All (fun r => ∀ ws l W' h' tk', W.Le W' → St c m W' r.2 h' → VRs c.b W' r.1 ws → KV ks ws l → Q l { s with heap := h', toks := tk' }) →
    wpAny (model c.prog c.w) A (evalPairs (pairTrees keys es env p)) Q Ex s := by
  induction hs with
  | nil =>
    intro ks keys hk
    cases hk with
    | nil => exact fun _ W H s Q G F X L S h => evalPairs_nil (h [] [] W s.heap s.toks (Wd.Le.refl W) S .nil .nil)
    | cons _ _ _ _ _ _ _ _ _ => exact fun e => nomatch e
  | cons a as x es ha hs ih =>
    intro ks keys hk
    cases hk with
    | nil => exact fun e => nomatch e
    | cons k n j q ks keys hk hn hks =>
    intro e W H s Q G F X L S h
    subst hn
    show wpAny _ _ (evalPairs ((eval (.Constant (.str (nm k)) j q) env, do let v ← eval x env; standAt p; pure v) :: pairTrees keys es env p)) _ _ _
    refine evalPairs_cons (Constant_str (wpAny_bind (ha.bind (s := { s with toks := s.toks + 1 }) G F X L S h fun r v W' h' tk' L' S' hv h => wpAny_bind (wpAny_standAt (wpAny_pure ?_)))))
    refine ih hks (Nat.succ.inj e) W' r.2 { s with heap := h', toks := tk' } _ G F X (L.mono L') S' (T.All.mono (fun q' hq ws l W'' h'' tk'' L'' S'' hws hl => ?_) (T.all_bind.mp h))
    exact hq (v :: ws) _ W'' h'' tk'' (L'.trans L'') S'' (.cons _ _ _ _ (hv.mono L'') hws) (.cons k _ v ks ws l hk hl)
theorem pr_nil {b : Heap} {kvs : List (Str × Value)} (hp : PR b W (fun k => lk k []) kvs) : kvs = [] := by
  cases kvs with
  | nil => rfl
  | cons q kvs =>
    obtain ⟨j, hj, e⟩ := hp.1 q List.mem_cons_self
    have := hp.2 j hj
    have e' : valueAt (q :: kvs) (nm j) = some q.2 := by unfold valueAt; rw [List.find?_cons, e]; simp
    have this' : valueAt (q :: kvs) (nm j) = none := this
    rw [e'] at this'; cases this'
theorem dict_snd {as : Es} {es : List Expr} {ks : List Nat} {keys : List (Option Expr)} {p : Pos} (hs : SndL cf ns as es) (hr : RepE ns (.dict ks as) (.Dict keys es p)) : SndE cf ns (.dict ks as) (.Dict keys es p) := by
  intro c A env m mm W ae H s Q Ex G F X L S h
  obtain ⟨F0, led, N, B⟩ := S
  have lo : (s.heap.objs.size == sysModules) = false := F0.notModules (modules_low G.nolim)
  have hD0 : (s.heap.push { cls := .type "dict", data := .dict #[] }).DictOf (PySem.strKind c.prog c.w) s.heap.objs.size [] := Heap.DictOf.new s.heap
  have hd0 : Obj.IsDictOf (PySem.strKind c.prog c.w) { cls := .type "dict", data := .dict #[] } [] := by
    obtain ⟨o, ho, hd⟩ := Heap.dictOf_iff.mp hD0
    rw [Heap.get?_push_size _ rfl] at ho
    exact (Option.some.inj ho) ▸ hd
  have F1 := F0.push { cls := .type "dict", data := .dict #[] }
  have N1 := News.push F0 N { cls := .type "dict", data := .dict #[] }
  have hne : ∀ p ∈ led, p.1 ≠ s.heap.objs.size := fun p hp => Nat.ne_of_lt (Heap.lt_size (N p hp).1)
  obtain ⟨L1, B1⟩ := St.alloc' (x := .rc []) F0 N B s.heap.objs.size { cls := .type "dict", data := .dict #[] } _ hne (.rc [] _ _ [] lo hd0 ⟨fun _ h => (nomatch h), fun k _ => rfl⟩) F1 N1
  have S1 : St c m (W.put (hlen H) s.heap.objs.size) (hnew H (.rc [])) (s.heap.push { cls := .type "dict", data := .dict #[] }) := ⟨F1, _, N1, B1⟩
  have fin : ∀ (r : List AV × HS) (ws : List Value) (l : List (Value × Value)) (W' : Wd) (h' : Heap) (tk' : Nat), ks.Nodup → (W.put (hlen H) s.heap.objs.size).Le W' → St c m W' r.2 h' → VRs c.b W' r.1 ws → KV ks ws l →
      (opt (zipE ks r.1) fun kv => match hget r.2 (hlen H) with | some (.rc []) => .leaf (.ref (hlen H), hset r.2 (hlen H) (.rc kv)) | _ => .stuck).All (PV c m W s Q) →
      h'.DictOf (PySem.strKind c.prog c.w) s.heap.objs.size [] ∧ ∀ h'', h''.DictOf (PySem.strKind c.prog c.w) s.heap.objs.size (merged [] (strPairs l)) → Heap.SameBut s.heap.objs.size h' h'' → ∀ tk, Q (.ref s.heap.objs.size) { s with heap := h'', toks := tk } := by
    intro r ws l W' h' tk' hnd L' S' hws hl h
    obtain ⟨kv, ekv, h⟩ := opt_all h
    split at h
    · rename_i hi
      obtain ⟨a, ob, rest, ha, hR, N2, off, back⟩ := S'.split hi (by simp)
      have ea : a = s.heap.objs.size := Option.some.inj (ha.symm.trans (L'.r _ _ Wd.put_self))
      subst ea
      obtain ⟨kvs, lo2, hd, hp⟩ := hR.rcI
      ·
        have ek : kvs = [] := by
          exact pr_nil hp
        subst ek
        refine ⟨Heap.dictOf_iff.mpr ⟨ob, (N2 _ List.mem_cons_self).1, hd⟩, fun h'' hD hsb tk => ?_⟩
        obtain ⟨o', ho', hd'⟩ := Heap.dictOf_iff.mp hD
        have hm := N2 _ (List.mem_cons_self (a := (s.heap.objs.size, ob)) (l := rest))
        have N2' : News c.h₀ c.L h' ([] ++ (s.heap.objs.size, ob) :: rest) := N2
        have hpr : PR c.b W' (fun k => lk k kv) (merged [] (strPairs l)) := by
          have p0 : PR c.b W' (fun _ => none) ([] : List (Str × Value)) := ⟨fun _ h => (nomatch h), fun k _ => rfl⟩
          refine (p0.merge (hl.pr ekv hws) (hl.nodup hnd)).congr fun k => ?_
          cases lk k kv <;> rfl
        exact h _ W' h'' tk (L1.trans L') (back (.rc kv) o' h'' (fun _ => .rc _ _ _ _ lo2 hd' hpr) (S'.fr.change hsb hm.2.1 hm.2.2) (News.setIn N2' (fun _ h => nomatch h) off hsb ho')) (.ref _ _ (L'.r _ _ Wd.put_self))
    · exact h.elim
  cases hr with
  | dict0 =>
    refine wpAny_Dict_empty ?_
    have h' := T.all_bind.mp h
    have := fin ([], hnew H (.rc [])) [] [] (W.put (hlen H) s.heap.objs.size) (s.heap.push { cls := .type "dict", data := .dict #[] }) s.toks .nil (Wd.Le.refl _) S1 .nil .nil h'
    exact this.2 _ this.1 (Heap.SameBut.refl _ _) s.toks
  | dict _ _ _ _ _ _ hn hl h0 hz hks ha =>
    have hall : keys.all (·.isSome) = true := by
      clear hl h0 hz fin h hn
      induction hks with
      | nil => rfl
      | cons x s k p xs es hx hs h ih => simpa using ih
    refine Dict_made (knd := PySem.strKind c.prog c.w) F0 hall hl h0 hz fun _ => ?_
    refine pairs_snd (ks := ks) hs hks hl (W.put (hlen H) s.heap.objs.size) (hnew H (.rc [])) { s with heap := s.heap.push { cls := .type "dict", data := .dict #[] } } _ G F X (L.mono L1) S1 (T.All.mono (fun r hr ws l W' h' tk' L' S' hws hkv => ?_) (T.all_bind.mp h))
    obtain ⟨k1, k2⟩ := fin r ws l W' h' tk' hn L' S' hws hkv hr
    exact ⟨strPairs l, hkv.carries, k1, fun h'' hD hsb => k2 h'' hD hsb _⟩
end
end Mine
end

section
set_option linter.all false
set_option bootstrap.genMatcherCode false
set_option maxRecDepth 10000
namespace Mine
open PySem PySem.W PySem.Calls PyProof.Rows
theorem dot_notin : ".0" ∉ nameList := by decide +kernel
theorem nth_mem : ∀ {l : List String} {k : Nat}, k < l.length → nthS l k ∈ l
  | [], _, h => by simp at h
  | a :: r, 0, _ => List.mem_cons_self
  | a :: r, k + 1, h => List.mem_cons_of_mem _ (nth_mem (l := r) (by simpa using h))
theorem nm_dot {x : Nat} (hx : x < nN) : nm x ≠ Str.ofString ".0" := fun e => dot_notin (by
  rw [← ofString_inj e]; exact nth_mem (by rw [names_len]; exact hx))
theorem relN_local {ns : Kd} : ∀ {l : Kd} {y : Str}, (relN ns l).lookup y = some .local → l.lookup y = some .local
  | [], y, h => by simp [relN] at h
  | (n, k) :: r, y, h => by
    have ih := @relN_local ns r y
    have h' : List.lookup y ((if (k == NameKind.free && ns.lookup n == some .cell) = true then (n, NameKind.cell) else (n, k)) :: relN ns r) = some .local := h
    by_cases q : (k == NameKind.free && ns.lookup n == some .cell) = true
    · rw [if_pos q] at h'
      rw [List.lookup_cons] at h' ⊢
      by_cases e : (y == n) = true
      · simp only [e] at h'; cases h'
      · have e' : (y == n) = false := by simpa using e
        simp only [e'] at h' ⊢; exact ih h'
    · rw [if_neg q] at h'
      rw [List.lookup_cons] at h' ⊢
      by_cases e : (y == n) = true
      · simp only [e] at h' ⊢; exact h'
      · have e' : (y == n) = false := by simpa using e
        simp only [e'] at h' ⊢; exact ih h'
theorem relN_cell {ns : Kd} : ∀ {l : Kd} {y : Str}, (∀ p ∈ l, p.2 ≠ .cell) → (relN ns l).lookup y = some .cell → l.lookup y = some .free ∧ ns.lookup y = some .cell
  | [], y, _, h => by simp [relN] at h
  | (n, k) :: r, y, hc, h => by
    have ih := @relN_cell ns r y (fun p hp => hc p (List.mem_cons_of_mem _ hp))
    have hk := hc (n, k) List.mem_cons_self
    have h' : List.lookup y ((if (k == NameKind.free && ns.lookup n == some .cell) = true then (n, NameKind.cell) else (n, k)) :: relN ns r) = some .cell := h
    by_cases q : (k == NameKind.free && ns.lookup n == some .cell) = true
    · rw [if_pos q] at h'
      rw [List.lookup_cons] at h' ⊢
      by_cases e : (y == n) = true
      · simp only [e]
        have e1 : y = n := by simpa using e
        rw [Bool.and_eq_true] at q
        have q1 : k = .free := by simpa using q.1
        have q2 : ns.lookup n = some .cell := by simpa using q.2
        exact ⟨by rw [q1], by rw [e1]; exact q2⟩
      · have e' : (y == n) = false := by simpa using e
        simp only [e'] at h' ⊢; exact ih h'
    · rw [if_neg q] at h'
      rw [List.lookup_cons] at h' ⊢
      by_cases e : (y == n) = true
      · simp only [e] at h'; exact absurd (Option.some.inj h') hk
      · have e' : (y == n) = false := by simpa using e
        simp only [e'] at h' ⊢; exact ih h'
theorem lookup_mem {β : Type} : ∀ {l : List (Str × β)} {y : Str} {b : β}, l.lookup y = some b → (y, b) ∈ l
  | [], _, _, h => by simp at h
  | (n, k) :: r, y, b, h => by
    rw [List.lookup_cons] at h
    by_cases e : (y == n) = true
    · simp only [e] at h; cases h
      have : y = n := by simpa using e
      subst this; exact List.mem_cons_self
    · have e' : (y == n) = false := by simpa using e
      simp only [e'] at h; exact List.mem_cons_of_mem _ (lookup_mem h)
theorem clos_aux {env : Env} : ∀ (names : Kd) (acc : List (Str × Addr)), (∀ y ∈ names, y.2 = .free → ∃ a, env.cells.lookup y.1 = some a) →
    ∃ cl, (forIn names acc fun (x : Str × NameKind) (r : List (Str × Addr)) => (do
        if x.2 == .free then do
          let __do_lift ← cellOf env x.1
          pure (ForInStep.yield ((x.1, __do_lift) :: r))
        else pure (ForInStep.yield r) : Sem (ForInStep (List (Str × Addr))))) = pure cl ∧
      (∀ y a, (acc.lookup y = some a → env.cells.lookup y = some a) → cl.lookup y = some a → env.cells.lookup y = some a) ∧
      (∀ y, (acc.lookup y).isSome = true ∨ (y, NameKind.free) ∈ names → (cl.lookup y).isSome = true)
  | [], acc, _ => ⟨acc, by rw [List.forIn_nil], fun y a h => h, fun y h => h.elim id fun h => nomatch h⟩
  | (n, k) :: r, acc, h => by
    rw [List.forIn_cons]
    by_cases hk : (k == NameKind.free) = true
    · have hk' : k = .free := by simpa using hk
      subst hk'
      obtain ⟨a, ha⟩ := h (n, .free) List.mem_cons_self rfl
      obtain ⟨cl, e1, e2, e3⟩ := clos_aux r ((n, a) :: acc) fun y hy => h y (List.mem_cons_of_mem _ hy)
      refine ⟨cl, ?_, fun y b hb hc => e2 y b (fun hl => ?_) hc, fun y hy => e3 y ?_⟩
      · have ec : cellOf env n = pure a := by unfold cellOf; rw [ha]
        simp only [hk, if_true, ec, pure_bind]
        exact e1
      · rw [List.lookup_cons] at hl
        by_cases e : (y == n) = true
        · simp only [e] at hl; cases hl
          have : y = n := by simpa using e
          rw [this]; exact ha
        · have e' : (y == n) = false := by simpa using e
          simp only [e'] at hl; exact hb hl
      · rcases hy with hy | hy
        · left
          rw [List.lookup_cons]
          split <;> first | rfl | exact hy
        · rcases List.mem_cons.mp hy with e | hy
          · left
            have : y = n := congrArg Prod.fst e
            subst this
            rw [List.lookup_cons]; simp
          · exact .inr hy
    · have hk' : (k == NameKind.free) = false := by simpa using hk
      obtain ⟨cl, e1, e2, e3⟩ := clos_aux r acc fun y hy => h y (List.mem_cons_of_mem _ hy)
      refine ⟨cl, ?_, e2, fun y hy => e3 y ?_⟩
      · simp only [hk', Bool.false_eq_true, if_false, pure_bind]
        exact e1
      · rcases hy with hy | hy
        · exact .inl hy
        · rcases List.mem_cons.mp hy with e | hy
          · have : k = .free := (congrArg Prod.snd e).symm
            rw [this] at hk'; cases hk'
          · exact .inr hy
theorem clos_ok {sc : Scope} {env : Env} (h : ∀ y ∈ sc.names, y.2 = .free → ∃ a, env.cells.lookup y.1 = some a) :
    ∃ cl, closureFor sc env = pure cl ∧ ∀ y, sc.names.lookup y = some .free → ∃ a, cl.lookup y = some a ∧ env.cells.lookup y = some a := by
  obtain ⟨cl, e1, e2, e3⟩ := clos_aux (env := env) sc.names [] h
  refine ⟨cl, ?_, fun y hy => ?_⟩
  · unfold closureFor
    exact (congrArg (fun t : Sem (List (Str × Addr)) => t >>= fun r => pure r) e1).trans (by rw [pure_bind])
  · obtain ⟨a, ha⟩ := Option.isSome_iff_exists.mp (e3 y (.inr (lookup_mem hy)))
    exact ⟨a, ha, e2 y a (fun h => by simp at h) ha⟩
structure ScF (ns : Kd) (xs : List Nat) (sc : Scope) : Prop where
  kind : sc.kind = .function
  cell : ∀ y ∈ sc.names, y.2 ≠ .cell
  names : ∀ y ∈ sc.names, y.2 = .local → sc.names.lookup y.1 = some .local
  tgt : ∀ x ∈ xs, sc.names.lookup (nm x) = some .local
  free : ∀ y ∈ sc.names, y.2 = .free → ns.lookup y.1 = some .cell
  only : ∀ y ∈ sc.names, y.2 = .local → y.1 = Str.ofString ".0" ∨ ∃ x ∈ xs, y.1 = nm x
theorem scF {ns : Kd} {xs : List Nat} {sc : Scope} (h : scOk ns xs sc = true) : ScF ns xs sc := by
  unfold scOk at h
  simp only [Bool.and_eq_true] at h
  obtain ⟨⟨⟨⟨⟨h1, h2⟩, h3⟩, h4⟩, h5⟩, h6⟩ := h
  refine ⟨by simpa using h1, fun y hy e => ?_, fun y hy e => ?_, fun x hx => ?_, fun y hy e => ?_, fun y hy e => ?_⟩
  · have := List.all_eq_true.mp h2 y hy
    rw [e] at this; cases this
  · have := List.all_eq_true.mp h3 y hy
    rw [e] at this
    simpa using this
  · simpa using List.all_eq_true.mp h4 x hx
  · have := List.all_eq_true.mp h5 y hy
    rw [e] at this
    simpa using this
  · have := List.all_eq_true.mp h6 y hy
    rw [e] at this
    simp only [bne_self_eq_false, Bool.false_or, Bool.or_eq_true, List.any_eq_true] at this
    rcases this with q | ⟨x, hx, q⟩
    · exact .inl (by simpa using q)
    · exact .inr ⟨x, hx, by simpa using q⟩
section
variable {cf : CF} {c : Cx} {A : Around} {env : Env} {m mm : Str → Option Value} {ns : Kd} {W : Wd} {ae : AEnv} {H : HS} {s : Shared} {Ex : Value → Shared → Prop}
theorem env_comp {c' : Cx} {xs : List Nat} {sc : Scope} {cl : List (Str × Addr)} {C : Addr} {oC : Obj} {m₂ : Str → Option Value} (f : ScF ns xs sc) (X : EnvOK c m env ns mm) (hcl : ∀ y, sc.names.lookup y = some .free → ∃ a, cl.lookup y = some a ∧ env.cells.lookup y = some a)
    (hx : (C, oC) ∈ c'.xs) (hC : LCg.NsObj oC m₂) (m' : Str → Option Value) : EnvOK c' m' (compEnvC sc cl C env) (relN ns sc.names) m₂ := by
  refine ⟨f.kind, ?_, X.glob, X.bi, fun y hy => ?_, .inr ⟨oC, hx, hC⟩⟩
  · show (relabel sc env).names = _
    unfold relabel relN Env.kindOf
    simp only [X.kind, X.names, beq_self_eq_true, Bool.and_true]
  · obtain ⟨h1, h2⟩ := relN_cell f.cell hy
    obtain ⟨a, e, _⟩ := hcl y h1
    exact ⟨a, e⟩
theorem loc_comp {b : Heap} {x : Nat} {u : AV} {v : Value} {sc : Scope} {cl : List (Str × Addr)} {C : Addr} {m₂ : Str → Option Value} (f : ScF ns [x] sc) (hx : x < nN) (X : EnvOK c m env ns mm) (L : LocOK b W env ns mm ae) (hcl : ∀ y, sc.names.lookup y = some .free → ∃ a, cl.lookup y = some a ∧ env.cells.lookup y = some a)
    (hm : m₂ (nm x) = some v) (hv : VR b W u v) : LocOK b W (compEnvC sc cl C env) (relN ns sc.names) m₂ (put x u ae) := by
  refine ⟨fun y w e => ?_, fun y w e hk => ?_, fun y w e hk => ?_⟩
  · rw [lk_put] at e
    by_cases q : y = x
    · rw [q]; exact hx
    · rw [if_neg q] at e; exact L.lt y w e
  · have hy : y < nN := by
      rw [lk_put] at e
      by_cases q : y = x
      · rw [q]; exact hx
      · rw [if_neg q] at e; exact L.lt y w e
    have h1 := relN_local hk
    rcases f.only _ (lookup_mem h1) rfl with q | ⟨z, hz, q⟩
    · exact absurd q (nm_dot hy)
    · rw [List.mem_singleton.mp hz] at q
      have := nm_inj hy hx q
      subst this
      rw [lk_put, if_pos rfl] at e
      cases e
      exact ⟨v, hm, hv⟩
  · obtain ⟨h1, h2⟩ := relN_cell f.cell hk
    have hne : y ≠ x := fun q => by
      rw [q, f.tgt x List.mem_cons_self] at h1; cases h1
    rw [lk_put, if_neg hne] at e
    obtain ⟨i, a, e1, e2, e3⟩ := L.cel y w e h2
    obtain ⟨a', e4, e5⟩ := hcl (nm y) h1
    rw [e3] at e5; cases e5
    exact ⟨i, a, e1, e2, e4⟩
theorem bears_in {c1 : Cx} {I C D : Addr} {oI oC oD : Obj} {news : Led} (B : Bears c1 W H news) (off : LCg.Off3 I C D news) : Bears { c1 with xs := (I, oI) :: (C, oC) :: (D, oD) :: c1.xs } W H ((I, oI) :: (C, oC) :: (D, oD) :: news) := by
  have up : ∀ p ∈ news, p ∈ (I, oI) :: (C, oC) :: (D, oD) :: news := fun p hp => List.mem_cons_of_mem _ (List.mem_cons_of_mem _ (List.mem_cons_of_mem _ hp))
  have o3 := off.mem
  refine ⟨fun i o hi hg => ?_, fun p hp => ⟨up _ (B.tup p hp).1, (B.tup p hp).2⟩, fun p hp => ?_, B.inj, fun i o a hi hg ha p hp => ?_, B.top, fun p hp q hq => ?_⟩
  · obtain ⟨a, ob, h1, h2, h3⟩ := B.obj i o hi hg
    exact ⟨a, ob, h1, up _ h2, h3⟩
  · rcases List.mem_cons.mp hp with rfl | hp
    · exact List.mem_cons_self
    · rcases List.mem_cons.mp hp with rfl | hp
      · exact List.mem_cons_of_mem _ List.mem_cons_self
      · rcases List.mem_cons.mp hp with rfl | hp
        · exact List.mem_cons_of_mem _ (List.mem_cons_of_mem _ List.mem_cons_self)
        · exact up p (B.xs p hp)
  · obtain ⟨a', ob, h1, h2, h3⟩ := B.obj i o hi hg
    rw [ha] at h1; cases h1
    have z := o3 _ h2
    rcases List.mem_cons.mp hp with rfl | hp
    · exact Ne.symm z.1
    · rcases List.mem_cons.mp hp with rfl | hp
      · exact Ne.symm z.2.1
      · rcases List.mem_cons.mp hp with rfl | hp
        · exact Ne.symm z.2.2
        · exact B.off i o a hi hg ha p hp
  · have z := o3 _ (B.tup p hp).1
    rcases List.mem_cons.mp hq with rfl | hq
    · exact Ne.symm z.1
    · rcases List.mem_cons.mp hq with rfl | hq
      · exact Ne.symm z.2.1
      · rcases List.mem_cons.mp hq with rfl | hq
        · exact Ne.symm z.2.2
        · exact B.toff p hp q hq
theorem bears_out {c1 : Cx} {I C D : Addr} {oI oC oD : Obj} {h : Heap} (hx : ∀ p ∈ c1.xs, p.1 ≠ I ∧ p.1 ≠ C ∧ p.1 ≠ D) (S : St { c1 with xs := (I, oI) :: (C, oC) :: (D, oD) :: c1.xs } m W H h) :
    ∃ news, News c1.h₀ c1.L h ((I, oI) :: (C, oC) :: (D, oD) :: news) ∧ LCg.Off3 I C D news ∧ Bears c1 W H news := by
  obtain ⟨F, led, N, B⟩ := S
  have mI : (I, oI) ∈ led := B.xs _ List.mem_cons_self
  have mC : (C, oC) ∈ led := B.xs _ (List.mem_cons_of_mem _ List.mem_cons_self)
  have mD : (D, oD) ∈ led := B.xs _ (List.mem_cons_of_mem _ (List.mem_cons_of_mem _ List.mem_cons_self))
  have keep : ∀ p ∈ led, (p.1 ≠ I ∧ p.1 ≠ C ∧ p.1 ≠ D) → p ∈ led.filter fun p => decide (p.1 ≠ I ∧ p.1 ≠ C ∧ p.1 ≠ D) := fun p hp q => List.mem_filter.mpr ⟨hp, by simpa using q⟩
  have ox : ∀ a, (∀ p ∈ (I, oI) :: (C, oC) :: (D, oD) :: c1.xs, p.1 ≠ a) → a ≠ I ∧ a ≠ C ∧ a ≠ D := fun a h =>
    ⟨Ne.symm (h _ List.mem_cons_self), Ne.symm (h _ (List.mem_cons_of_mem _ List.mem_cons_self)), Ne.symm (h _ (List.mem_cons_of_mem _ (List.mem_cons_of_mem _ List.mem_cons_self)))⟩
  have sub : ∀ p ∈ c1.xs, p ∈ (I, oI) :: (C, oC) :: (D, oD) :: c1.xs := fun p hp => List.mem_cons_of_mem _ (List.mem_cons_of_mem _ (List.mem_cons_of_mem _ hp))
  refine ⟨led.filter fun p => decide (p.1 ≠ I ∧ p.1 ≠ C ∧ p.1 ≠ D), fun p hp => ?_, LCg.Off3.of fun p hp => by simpa using (List.mem_filter.mp hp).2, ⟨fun i o hi hg => ?_, fun p hp => ?_, fun p hp => keep p (B.xs p (sub p hp)) (hx p hp), B.inj, fun i o a hi hg ha p hp => B.off i o a hi hg ha p (sub p hp), B.top, fun p hp q hq => B.toff p hp q (sub q hq)⟩⟩
  · rcases List.mem_cons.mp hp with rfl | hp
    · exact N _ mI
    · rcases List.mem_cons.mp hp with rfl | hp
      · exact N _ mC
      · rcases List.mem_cons.mp hp with rfl | hp
        · exact N _ mD
        · exact N _ (List.mem_filter.mp hp).1
  · obtain ⟨a, ob, h1, h2, h3⟩ := B.obj i o hi hg
    exact ⟨a, ob, h1, keep _ h2 (ox a (B.off i o a hi hg h1)), h3⟩
  · exact ⟨keep p (B.tup p hp).1 (ox p.1 fun q hq => B.toff p hp q hq), (B.tup p hp).2⟩
end
end Mine
end

section
set_option linter.all false
set_option bootstrap.genMatcherCode false
set_option maxRecDepth 10000
namespace Mine
open PySem PySem.W PySem.Calls PyProof.Rows
theorem bears_hide {c : Cx} {W : Wd} {H : HS} {led : Led} (B : Bears c W H led) {i : Nat} {o : AO} (hi : hget H i = some o) (hg : o ≠ .gone) {a : Addr} (ha : W.r i = some a) {ob : Obj} (hm : (a, ob) ∈ led) (hnt : ∀ ws n, ob ≠ tupObj ws n) (hone : ∀ ob', (a, ob') ∈ led → ob' = ob) :
    Bears { c with xs := (a, ob) :: c.xs } W (hset H i .gone) led := by
  have hne : ∀ {j : Nat} {y : AO}, hget (hset H i .gone) j = some y → y ≠ .gone → j ≠ i ∧ hget H j = some y := fun {j y} hj hy => by
    by_cases e : j = i
    · subst e
      exact absurd (hget_hset_at hj) hy
    · exact ⟨e, hget_hset_gone hj e⟩
  refine ⟨fun j y hj hy => B.obj j y (hne hj hy).2 hy, B.tup, fun p hp => ?_, fun j k y z a' hj hy hk hz => B.inj j k y z a' (hne hj hy).2 hy (hne hk hz).2 hz, fun j y a' hj hy hja p hp => ?_, fun j hj => B.top j (by rw [hlen_hset] at hj; exact hj), fun p hp q hq => ?_⟩
  · rcases List.mem_cons.mp hp with rfl | hp
    · exact hm
    · exact B.xs p hp
  · obtain ⟨e, hj'⟩ := hne hj hy
    rcases List.mem_cons.mp hp with rfl | hp
    · intro q
      have q' : a = a' := q
      subst q'
      exact e (B.inj j i y o a hj' hy hi hg hja ha)
    · exact B.off j y a' hj' hy hja p hp
  · rcases List.mem_cons.mp hq with rfl | hq
    · intro e
      have e' : a = p.1 := e
      obtain ⟨h1, ws, n, h2⟩ := B.tup p hp
      have : (a, tupObj ws n) ∈ led := by rw [← h2, e']; exact h1
      exact hnt ws n (hone _ this).symm
    · exact B.toff p hp q hq
theorem bears_show {c : Cx} {W : Wd} {H : HS} {led : Led} {i : Nat} {a : Addr} {ob : Obj} (B : Bears { c with xs := (a, ob) :: c.xs } W H led) (hi : i < hlen H) (hg : ∀ o, hget H i = some o → o = .gone) (ha : W.r i = some a) {x : AO} (hx : x ≠ .gone → OR c.prog c.w c.b W x a ob)
    (hoff : ∀ p ∈ c.xs, p.1 ≠ a) : Bears c W (hset H i x) led := by
  have old : ∀ {j : Nat} {y : AO}, hget (hset H i x) j = some y → j ≠ i → hget H j = some y := fun {j y} hj e => hget_hset_gone hj e
  refine ⟨fun j y hj hy => ?_, B.tup, fun p hp => B.xs p (List.mem_cons_of_mem _ hp), ?_, fun j y a' hj hy hja p hp => ?_, fun j hj => B.top j (by rw [hlen_hset] at hj; exact hj), fun p hp q hq => B.toff p hp q (List.mem_cons_of_mem _ hq)⟩
  · by_cases e : j = i
    · subst e
      cases hget_hset_at hj
      exact ⟨a, ob, ha, B.xs _ List.mem_cons_self, hx hy⟩
    · exact B.obj j y (old hj e) hy
  · intro j k y z a' hj hy hk hz hja hka
    by_cases e : j = i
    · by_cases e' : k = i
      · rw [e, e']
      · subst e
        rw [ha] at hja; cases hja
        exact absurd rfl (B.off k z a (old hk e') hz hka _ List.mem_cons_self)
    · by_cases e' : k = i
      · subst e'
        rw [ha] at hka; cases hka
        exact absurd rfl (B.off j y a (old hj e) hy hja _ List.mem_cons_self)
      · exact B.inj j k y z a' (old hj e) hy (old hk e') hz hja hka
  · by_cases e : j = i
    · subst e
      rw [ha] at hja; cases hja
      exact hoff p hp
    · exact B.off j y a' (old hj e) hy hja p (List.mem_cons_of_mem _ hp)
section
variable {cf : CF} {c : Cx} {A : Around} {env : Env} {m mm : Str → Option Value} {ns : Kd} {ae : AEnv} {sc : Scope} {cl : List (Str × Addr)}
noncomputable abbrev evU (cf : CF) (elt : E) (x : Nat) (ae : AEnv) : AV → HS → T (Option AV × HS) := fun v H => (evalE std cf elt (put x v ae) H).bind fun q => .leaf (some q.1, q.2)
noncomputable abbrev evT (cf : CF) (elt cc : E) (x : Nat) (ae : AEnv) : AV → HS → T (Option AV × HS) := fun v H => (evalT std cf cc (put x v ae) H).bind fun b => br b.1 (fun _ => (evalE std cf elt (put x v ae) b.2).bind fun q => .leaf (some q.1, q.2)) (fun _ => .leaf (none, b.2))
theorem rest_U {elt : E} {x : Nat} {ex : Expr} {s : Shared} {S : Led → Prop} {P : Nat → Value → Prop} {Fin : List Value → Led → Prop} {W0 : Wd} {Post : List AV → HS → Prop} {all : List AV}
    (he : SndE cf (relN ns sc.names) elt ex) (G : Glb c) (F : Frm cf c A) (X : EnvOK c m env ns mm) (L : LocOK c.b W0 env ns mm ae) (f : ScF ns [x] sc) (hx : x < nN) (hcl : ∀ y, sc.names.lookup y = some .free → ∃ a, cl.lookup y = some a ∧ env.cells.lookup y = some a)
    (hS : ∀ news, (∀ p ∈ c.xs, p ∈ news) → S news) (hP : ∀ i v u, P i v → all[i]? = some u → VR c.b W0 u v)
    (hFin : ∀ acc ys H W news, W0.Le W → Post acc H → Bears c W H news → VRs c.b W acc ys → Fin ys news) :
    ∀ (rest : List AV) (i : Nat) (acc : List AV) (ys : List Value) (W : Wd) (H : HS) (news : Led), all.drop i = rest → W0.Le W → Bears c W H news → VRs c.b W acc ys →
      (compL (evU cf elt x ae) rest H).All (fun q => Post (acc ++ q.1) q.2) → LCg.CompRest c.prog c.w A c.h₀ c.L m env ex (nm x) sc cl s S P Fin rest.length i ys news
  | [], i, acc, ys, W, H, news, hd, L0, B, hv, h => LCg.CompRest.zero (hFin acc ys H W news L0 (by have h' : Post (acc ++ []) H := h; rwa [List.append_nil] at h') B hv)
  | u :: rest, i, acc, ys, W, H, news, hd, L0, B, hv, h => LCg.CompRest.succ fun v I oI C oC D m₂ hp tk E' hPv hoC hm₂ F' N' off ne => by
    have hu : all[i]? = some u := by
      have := congrArg (fun l => l[0]?) hd
      simpa using this
    have huv := (hP i v u hPv hu).mono L0
    have B1 := bears_in (oI := oI) (oC := oC) (oD := LCg.lst ys) B off
    have S1 : St { c with xs := (I, oI) :: (C, oC) :: (D, LCg.lst ys) :: c.xs } m W H hp := ⟨F', _, N', B1⟩
    have X1 : EnvOK { c with xs := (I, oI) :: (C, oC) :: (D, LCg.lst ys) :: c.xs } m (compEnvC sc cl C env) (relN ns sc.names) m₂ := env_comp f X hcl (List.mem_cons_of_mem _ List.mem_cons_self) hoC m
    have L1 := loc_comp (C := C) f hx X (L.mono L0) hcl hm₂ huv
    have hxs : ∀ p ∈ c.xs, p.1 ≠ I ∧ p.1 ≠ C ∧ p.1 ≠ D := fun p hp => off.mem p (B.xs p hp)
    refine he.bind (c := { c with xs := (I, oI) :: (C, oC) :: (D, LCg.lst ys) :: c.xs }) (s := { s with heap := hp, toks := tk }) (G.xs _) (F.xs _) X1 L1 S1 (T.all_bind.mp h) fun r y W' h' tk' L' S' hy hr => ?_
    obtain ⟨news', N2, off2, B2⟩ := bears_out hxs S'
    refine ⟨h', tk', news', rfl, S'.fr, N2, off2, hS news' (fun p hp => B2.xs p hp), ?_⟩
    have hr' := T.all_bind.mp (hr : ((compL (evU cf elt x ae) rest r.2).bind _).All _)
    refine rest_U he G F X L f hx hcl hS hP hFin rest (i + 1) (acc ++ [r.1]) (ys ++ [y]) W' r.2 news' (by rw [← List.drop_drop, hd]; rfl) (L0.trans L') B2 ((hv.mono L').append (.cons _ _ _ _ hy .nil)) ?_
    exact T.All.mono (fun q hq => by have hq' : Post (acc ++ r.1 :: q.1) q.2 := hq; simpa using hq') hr'
theorem rest_T {elt cc : E} {x : Nat} {ex ec : Expr} {s : Shared} {S : Led → Prop} {P : Nat → Value → Prop} {Fin : List Value → Led → Prop} {W0 : Wd} {Post : List AV → HS → Prop} {all : List AV}
    (he : SndE cf (relN ns sc.names) elt ex) (ht : SndT cf (relN ns sc.names) cc ec) (G : Glb c) (F : Frm cf c A) (X : EnvOK c m env ns mm) (L : LocOK c.b W0 env ns mm ae) (f : ScF ns [x] sc) (hx : x < nN) (hcl : ∀ y, sc.names.lookup y = some .free → ∃ a, cl.lookup y = some a ∧ env.cells.lookup y = some a)
    (hS : ∀ news, (∀ p ∈ c.xs, p ∈ news) → S news) (hP : ∀ i v u, P i v → all[i]? = some u → VR c.b W0 u v)
    (hFin : ∀ acc ys H W news, W0.Le W → Post acc H → Bears c W H news → VRs c.b W acc ys → Fin ys news) :
    ∀ (rest : List AV) (i : Nat) (acc : List AV) (ys : List Value) (W : Wd) (H : HS) (news : Led), all.drop i = rest → W0.Le W → Bears c W H news → VRs c.b W acc ys →
      (compL (evT cf elt cc x ae) rest H).All (fun q => Post (acc ++ q.1) q.2) → LCt.CompRestT c.prog c.w A c.h₀ c.L m env ec ex (nm x) sc cl s S P Fin rest.length i ys news
  | [], i, acc, ys, W, H, news, hd, L0, B, hv, h => LCt.CompRestT.zero (hFin acc ys H W news L0 (by have h' : Post (acc ++ []) H := h; rwa [List.append_nil] at h') B hv)
  | u :: rest, i, acc, ys, W, H, news, hd, L0, B, hv, h => LCt.CompRestT.succ fun v I oI C oC D m₂ hp tk E' hPv hoC hm₂ F' N' off ne => by
    have hu : all[i]? = some u := by
      have := congrArg (fun l => l[0]?) hd
      simpa using this
    have huv := (hP i v u hPv hu).mono L0
    have B1 := bears_in (oI := oI) (oC := oC) (oD := LCg.lst ys) B off
    have S1 : St { c with xs := (I, oI) :: (C, oC) :: (D, LCg.lst ys) :: c.xs } m W H hp := ⟨F', _, N', B1⟩
    have X1 : EnvOK { c with xs := (I, oI) :: (C, oC) :: (D, LCg.lst ys) :: c.xs } m (compEnvC sc cl C env) (relN ns sc.names) m₂ := env_comp f X hcl (List.mem_cons_of_mem _ List.mem_cons_self) hoC m
    have L1 := loc_comp (C := C) f hx X (L.mono L0) hcl hm₂ huv
    have hxs : ∀ p ∈ c.xs, p.1 ≠ I ∧ p.1 ≠ C ∧ p.1 ≠ D := fun p hp => off.mem p (B.xs p hp)
    have hdr : all.drop (i + 1) = rest := by rw [← List.drop_drop, hd]; rfl
    refine ht.bind (c := { c with xs := (I, oI) :: (C, oC) :: (D, LCg.lst ys) :: c.xs }) (s := { s with heap := hp, toks := tk }) (G.xs _) (F.xs _) X1 L1 S1 (T.all_bind.mp h) fun r W' h' tk' L' S' hr => ?_
    obtain ⟨b, H'⟩ := r
    cases b with
    | true =>
      rw [if_pos rfl]
      refine he.bind (c := { c with xs := (I, oI) :: (C, oC) :: (D, LCg.lst ys) :: c.xs }) (s := { s with heap := h', toks := tk' }) (G.xs _) (F.xs _) X1 (L1.mono L') S' ((br_all hr).1 rfl) fun r y W'' h'' tk'' L'' S'' hy hr => ?_
      obtain ⟨news', N2, off2, B2⟩ := bears_out hxs S''
      refine ⟨h'', tk'', news', rfl, S''.fr, N2, off2, hS news' (fun p hp => B2.xs p hp), ?_⟩
      have hr' := T.all_bind.mp (hr : ((compL (evT cf elt cc x ae) rest r.2).bind _).All _)
      refine rest_T he ht G F X L f hx hcl hS hP hFin rest (i + 1) (acc ++ [r.1]) (ys ++ [y]) W'' r.2 news' hdr (L0.trans (L'.trans L'')) B2 ((hv.mono (L'.trans L'')).append (.cons _ _ _ _ hy .nil)) ?_
      exact T.All.mono (fun q hq => by have hq' : Post (acc ++ r.1 :: q.1) q.2 := hq; simpa using hq') hr'
    | false =>
      rw [if_neg (by simp)]
      obtain ⟨news', N2, off2, B2⟩ := bears_out hxs S'
      refine ⟨h', tk', news', rfl, S'.fr, N2, off2, hS news' (fun p hp => B2.xs p hp), ?_⟩
      have hr' := T.all_bind.mp ((br_all hr).2 rfl : ((compL (evT cf elt cc x ae) rest H').bind _).All _)
      exact rest_T he ht G F X L f hx hcl hS hP hFin rest (i + 1) acc ys W' H' news' hdr (L0.trans L') B2 (hv.mono L') (T.All.mono (fun q hq => hq) hr')
theorem bears_end {W' W'' : Wd} {H : HS} {i n : Nat} {a D : Addr} {vs acc : List AV} {ws ys : List Value} {news : Led} {h : Heap} {m' : Str → Option Value} (ha : W'.r i = some a) (hws : VRs c.b W' vs ws) (hoff : ∀ p ∈ c.xs, p.1 ≠ a) (L0 : W'.Le W'')
    (B : Bears { c with xs := (a, listOf ws.toArray n) :: c.xs } W'' H news) (hv : VRs c.b W'' acc ys) (F' : Fr c.h₀ c.L h m') (N' : News c.h₀ c.L h ((D, LCg.lst ys) :: news)) (o1 : LCg.Off1 D news) :
    W''.Le (W''.put (hlen H) D) ∧ Bears c (W''.put (hlen H) D) (hnew (hset H i (.list vs)) (.list acc)) ((D, LCg.lst ys) :: news) := by
  have ha' := L0.r _ _ ha
  have hi : i < hlen H := by
    rcases Nat.lt_or_ge i (hlen H) with q | q
    · exact q
    · rw [B.top i q] at ha'; cases ha'
  have hg : ∀ o, hget H i = some o → o = .gone := fun o ho => by
    by_cases q : o = .gone
    · exact q
    · exact absurd rfl (B.off i o a ho q ha' _ List.mem_cons_self)
  have B2 := bears_show (x := .list vs) B hi hg ha' (fun _ => .list _ _ _ _ (hws.mono L0)) hoff
  have N2 : News c.h₀ c.L h news := fun p hp => N' p (List.mem_cons_of_mem _ hp)
  have hne : ∀ p ∈ news, p.1 ≠ D := by
    clear N' N2 B B2
    induction news with
    | nil => exact fun _ h => nomatch h
    | cons q r ih =>
      intro p hp
      rcases List.mem_cons.mp hp with rfl | hp
      · exact o1.1
      · exact ih o1.2 p hp
  have Lw := Wd.le_put (a := D) (B2.top (hlen (hset H i (.list vs))) (Nat.le_refl _))
  have z := St.alloc' (x := .list acc) F' N2 B2 D (LCg.lst ys) h hne (.list _ _ _ _ (hv.mono Lw)) F' N'
  rw [hlen_hset] at z
  exact z
theorem bears_end0 {W'' : Wd} {H : HS} {D : Addr} {acc : List AV} {ys : List Value} {news : Led} {h : Heap} {m' : Str → Option Value}
    (B : Bears c W'' H news) (hv : VRs c.b W'' acc ys) (F' : Fr c.h₀ c.L h m') (N' : News c.h₀ c.L h ((D, LCg.lst ys) :: news)) (o1 : LCg.Off1 D news) :
    W''.Le (W''.put (hlen H) D) ∧ Bears c (W''.put (hlen H) D) (hnew H (.list acc)) ((D, LCg.lst ys) :: news) := by
  have N2 : News c.h₀ c.L h news := fun p hp => N' p (List.mem_cons_of_mem _ hp)
  have hne : ∀ p ∈ news, p.1 ≠ D := by
    clear N' N2 B
    induction news with
    | nil => exact fun _ h => nomatch h
    | cons q r ih =>
      intro p hp
      rcases List.mem_cons.mp hp with rfl | hp
      · exact o1.1
      · exact ih o1.2 p hp
  have Lw := Wd.le_put (a := D) (B.top (hlen H) (Nat.le_refl _))
  exact St.alloc' (x := .list acc) F' N2 B D (LCg.lst ys) h hne (.list _ _ _ _ (hv.mono Lw)) F' N'
theorem VRs.idx0 {b : Heap} {W : Wd} {vs : List AV} {ws : List Value} (h : VRs b W vs ws) {i : Nat} {u : AV} {v : Value} : ws[i]? = some v → vs[i]? = some u → VR b W u v :=
  h.ind (P := fun vs ws => ∀ i, ws[i]? = some v → vs[i]? = some u → VR b W u v) (fun _ h _ => nomatch List.getElem?_nil.symm.trans h) (fun h _ ih i => Nat.casesOn i (fun hv hu => Option.some.inj hu ▸ Option.some.inj hv ▸ h) fun i hv hu => ih i hv hu) i
theorem VRs.idx {b : Heap} {W : Wd} {vs : List AV} {ws : List Value} (hs : VRs b W vs ws) {i : Nat} {u : AV} {v : Value} (hv : ws.toArray[i]? = some v) (hu : vs[i]? = some u) : VR b W u v :=
  hs.idx0 (by simpa using hv) hu
theorem src_of {W : Wd} {H : HS} {s : Shared} {r : AV} {v : Value} {vs : List AV} (G : Glb c) (S : St c m W H s.heap) (hv : VR c.b W r v) (hl : listAt H r = some vs) :
    (∃ i a ws n led, r = .ref i ∧ v = .ref a ∧ W.r i = some a ∧ VRs c.b W vs ws ∧ (∀ p ∈ c.xs, p.1 ≠ a) ∧ (a, listOf ws.toArray n) ∈ led ∧ News c.h₀ c.L s.heap led ∧ Bears { c with xs := (a, listOf ws.toArray n) :: c.xs } W (hset H i .gone) led) ∨
    (∃ a ws led, r = .blist vs ∧ v = .ref a ∧ c.h₀.IsList a ws.toArray ∧ VRs c.b W vs ws ∧ News c.h₀ c.L s.heap led ∧ Bears c W H led) := by
  unfold listAt at hl
  split at hl
  · rename_i i
    split at hl
    · rename_i vs' hi
      cases hl
      left
      obtain ⟨a, rfl, ha⟩ := hv.ref_inv
      obtain ⟨F, led, N, B⟩ := S
      obtain ⟨a', ob, ha', hm, hR⟩ := B.obj i _ hi (by simp)
      rw [ha] at ha'; cases ha'
      obtain ⟨ws, n, rfl, hs⟩ := hR.listI
      ·
        refine ⟨i, a, ws, n, led, rfl, rfl, ha, hs, fun p hp => B.off i _ a hi (by simp) ha p hp, hm, N, bears_hide B hi (by simp) ha hm (fun ws' n' e => ?_) fun ob' h => News.same N h hm⟩
        have := congrArg Obj.cls e
        simp at this
    · cases hl
  · rename_i vs'
    cases hl
    right
    cases hv with
    | blist _ ws a hb hs =>
      obtain ⟨F, led, N, B⟩ := S
      refine ⟨a, ws, led, rfl, rfl, ?_, hs, N, B⟩
      obtain ⟨o, ho, r⟩ := hb
      exact ⟨o, G.base _ _ ho, r⟩
  · cases hl
end
end Mine
end

section
set_option linter.all false
set_option bootstrap.genMatcherCode false
set_option maxRecDepth 10000
namespace Mine
open PySem PySem.W PySem.Calls PyProof.Rows
theorem hlen_showV (H : HS) (r : AV) (vs : List AV) : hlen (showV H r vs) = hlen H := by
  cases r <;> first | rfl | exact hlen_hset _ _ _
section
variable {cf : CF} {c : Cx} {A : Around} {env : Env} {m mm : Str → Option Value} {ns : Kd} {ae : AEnv} {sc : Scope} {W : Wd} {H : HS} {s : Shared}
noncomputable def Ended (c : Cx) (W : Wd) (acc : List AV) (ys : List Value) (H2 : HS) (news : Led) : Prop := ∀ D h m', Fr c.h₀ c.L h m' → News c.h₀ c.L h ((D, LCg.lst ys) :: news) → LCg.Off1 D news →
  ∃ W3, W.Le W3 ∧ St c m' W3 (hnew H2 (.list acc)) h ∧ W3.r (hlen H2) = some D
theorem St.scope (f : ScF ns [x] sc) (X : EnvOK c m env ns mm) : ∃ cl, closureFor sc env = pure cl ∧ ∀ y, sc.names.lookup y = some .free → ∃ a, cl.lookup y = some a ∧ env.cells.lookup y = some a :=
  clos_ok fun y hy e => X.cells _ (f.free y hy e)
theorem srcU {elt : E} {x : Nat} {ex : Expr} {cl : List (Str × Addr)} {Fin : Shared → List Value → Led → Prop} {Post : List AV → HS → Prop} {r : AV} {v : Value} {vs : List AV}
    (he : SndE cf (relN ns sc.names) elt ex) (G : Glb c) (F : Frm cf c A) (X : EnvOK c m env ns mm) (L : LocOK c.b W env ns mm ae) (f : ScF ns [x] sc) (hx : x < nN) (hcl : ∀ y, sc.names.lookup y = some .free → ∃ a, cl.lookup y = some a ∧ env.cells.lookup y = some a)
    (S : St c m W H s.heap) (hv : VR c.b W r v) (hl : listAt H r = some vs) (hz : vs.length < 2 ^ 20)
    (h : (compL (evU cf elt x ae) vs (hideV H r)).All (fun q => Post q.1 (showV q.2 r vs))) (hFin : ∀ g acc ys H2 news, Post acc H2 → Ended c W acc ys H2 news → Fin { s with heap := g } ys news) :
    LCg.CompSrc c.prog c.w A c.h₀ c.L m env ex (nm x) sc cl Fin v s := by
  rcases src_of G S hv hl with ⟨i, a, ws, n, led, rfl, rfl, ha, hs, hoff, hm, N, B⟩ | ⟨a, ws, led, rfl, rfl, hb, hs, N, B⟩
  · have hn := hs.length
    refine LCg.CompSrc.ledger (k := n) F.handled S.fr N hm (by rw [sizeLine_eq, List.size_toArray]; omega) fun g => ?_
    rw [List.size_toArray, ← hn]
    exact rest_U (c := { c with xs := (a, listOf ws.toArray n) :: c.xs }) (all := vs) (Post := fun acc H => Post acc (showV H (.ref i) vs)) he (G.xs _) (F.xs _) ⟨X.kind, X.names, X.glob, X.bi, X.cells, X.here.imp id fun ⟨o, h1, h2⟩ => ⟨o, List.mem_cons_of_mem _ h1, h2⟩⟩ L f hx hcl
      (fun news hn => .inr ⟨_, hn _ List.mem_cons_self, rfl, n, rfl⟩) (fun i v u hp hu => hs.idx hp hu)
      (fun acc ys H W' news L0 hp B' hv' => hFin g acc ys _ news hp fun D h m' F' N' o1 => by
        obtain ⟨L3, B3⟩ := bears_end (n := n) ha hs hoff L0 B' hv' F' N' o1
        exact ⟨_, L0.trans L3, ⟨F', _, N', B3⟩, by
          show (W'.put (hlen H) D).r (hlen (hset H i (.list vs))) = some D
          rw [hlen_hset]; exact Wd.put_self⟩)
      vs 0 [] [] W _ led rfl (Wd.Le.refl W) B .nil (T.All.mono (fun q hq => hq) h)
  · have hn := hs.length
    refine LCg.CompSrc.base F.handled S.fr N hb (by rw [sizeLine_eq, List.size_toArray]; omega) fun g => ?_
    rw [List.size_toArray, ← hn]
    exact rest_U (all := vs) (Post := fun acc H => Post acc H) he G F X L f hx hcl
      (fun news hn => .inl hb) (fun i v u hp hu => hs.idx hp hu)
      (fun acc ys H W' news L0 hp B' hv' => hFin g acc ys _ news hp fun D h m' F' N' o1 => by
        obtain ⟨L3, B3⟩ := bears_end0 B' hv' F' N' o1
        exact ⟨_, L0.trans L3, ⟨F', _, N', B3⟩, Wd.put_self⟩)
      vs 0 [] [] W _ led rfl (Wd.Le.refl W) B .nil (T.All.mono (fun q hq => hq) h)
theorem srcT {elt cc : E} {x : Nat} {ex ec : Expr} {cl : List (Str × Addr)} {Fin : Shared → List Value → Led → Prop} {Post : List AV → HS → Prop} {r : AV} {v : Value} {vs : List AV}
    (he : SndE cf (relN ns sc.names) elt ex) (ht : SndT cf (relN ns sc.names) cc ec) (G : Glb c) (F : Frm cf c A) (X : EnvOK c m env ns mm) (L : LocOK c.b W env ns mm ae) (f : ScF ns [x] sc) (hx : x < nN) (hcl : ∀ y, sc.names.lookup y = some .free → ∃ a, cl.lookup y = some a ∧ env.cells.lookup y = some a)
    (S : St c m W H s.heap) (hv : VR c.b W r v) (hl : listAt H r = some vs) (hz : vs.length < 2 ^ 20)
    (h : (compL (evT cf elt cc x ae) vs (hideV H r)).All (fun q => Post q.1 (showV q.2 r vs))) (hFin : ∀ g acc ys H2 news, Post acc H2 → Ended c W acc ys H2 news → Fin { s with heap := g } ys news) :
    LCt.CompSrcT c.prog c.w A c.h₀ c.L m env ec ex (nm x) sc cl Fin v s := by
  rcases src_of G S hv hl with ⟨i, a, ws, n, led, rfl, rfl, ha, hs, hoff, hm, N, B⟩ | ⟨a, ws, led, rfl, rfl, hb, hs, N, B⟩
  · have hn := hs.length
    refine LCt.CompSrcT.ledger (k := n) F.handled S.fr N hm (by rw [sizeLine_eq, List.size_toArray]; omega) fun g => ?_
    rw [List.size_toArray, ← hn]
    exact rest_T (c := { c with xs := (a, listOf ws.toArray n) :: c.xs }) (all := vs) (Post := fun acc H => Post acc (showV H (.ref i) vs)) he ht (G.xs _) (F.xs _) ⟨X.kind, X.names, X.glob, X.bi, X.cells, X.here.imp id fun ⟨o, h1, h2⟩ => ⟨o, List.mem_cons_of_mem _ h1, h2⟩⟩ L f hx hcl
      (fun news hn => .inr ⟨_, hn _ List.mem_cons_self, rfl, n, rfl⟩) (fun i v u hp hu => hs.idx hp hu)
      (fun acc ys H W' news L0 hp B' hv' => hFin g acc ys _ news hp fun D h m' F' N' o1 => by
        obtain ⟨L3, B3⟩ := bears_end (n := n) ha hs hoff L0 B' hv' F' N' o1
        exact ⟨_, L0.trans L3, ⟨F', _, N', B3⟩, by
          show (W'.put (hlen H) D).r (hlen (hset H i (.list vs))) = some D
          rw [hlen_hset]; exact Wd.put_self⟩)
      vs 0 [] [] W _ led rfl (Wd.Le.refl W) B .nil (T.All.mono (fun q hq => hq) h)
  · have hn := hs.length
    refine LCt.CompSrcT.base F.handled S.fr N hb (by rw [sizeLine_eq, List.size_toArray]; omega) fun g => ?_
    rw [List.size_toArray, ← hn]
    exact rest_T (all := vs) (Post := fun acc H => Post acc H) he ht G F X L f hx hcl
      (fun news hn => .inl hb) (fun i v u hp hu => hs.idx hp hu)
      (fun acc ys H W' news L0 hp B' hv' => hFin g acc ys _ news hp fun D h m' F' N' o1 => by
        obtain ⟨L3, B3⟩ := bears_end0 B' hv' F' N' o1
        exact ⟨_, L0.trans L3, ⟨F', _, N', B3⟩, Wd.put_self⟩)
      vs 0 [] [] W _ led rfl (Wd.Le.refl W) B .nil (T.All.mono (fun q hq => hq) h)
theorem upTo_get : ∀ (n i k : Nat) (u : AV), (upTo n i)[k]? = some u → u = .int ((i + k : Nat) : Int)
  | 0, i, k, u, h => by simp [upTo] at h
  | n + 1, i, 0, u, h => by
    have : some (AV.int (i : Int)) = some u := h
    cases this; simp
  | n + 1, i, k + 1, u, h => by
    have := upTo_get n (i + 1) k u (by simpa [upTo] using h)
    rw [this]; congr 2; omega
theorem upTo_len : ∀ (n i : Nat), (upTo n i).length = n
  | 0, _ => rfl
  | n + 1, i => by show (upTo n (i + 1)).length + 1 = n + 1; rw [upTo_len n]
theorem srcR {elt : E} {x : Nat} {ex : Expr} {cl : List (Str × Addr)} {Fin : Shared → List Value → Led → Prop} {Post : List AV → HS → Prop} {ra : Addr} {t u v : Tok} {k : Int}
    (he : SndE cf (relN ns sc.names) elt ex) (G : Glb c) (F : Frm cf c A) (X : EnvOK c m env ns mm) (L : LocOK c.b W env ns mm ae) (f : ScF ns [x] sc) (hx : x < nN) (hcl : ∀ y, sc.names.lookup y = some .free → ∃ a, cl.lookup y = some a ∧ env.cells.lookup y = some a)
    (S : St c m W H s.heap) (hr : IsRange s.heap ra 0 k 1 t u v) (h0 : 0 ≤ k) (hz : k < 2 ^ 20)
    (h : (compL (evU cf elt x ae) (upTo k.toNat 0) H).All (fun q => Post q.1 q.2)) (hFin : ∀ g acc ys H2 news, Post acc H2 → Ended c W acc ys H2 news → Fin { s with heap := g } ys news) :
    LCg.CompSrc c.prog c.w A c.h₀ c.L m env ex (nm x) sc cl Fin (.ref ra) s := by
  obtain ⟨F0, led, N, B⟩ := id S
  have hsize : Builtin.Range.rangeSize 0 k 1 = ((k.toNat : Nat) : Int) := by
    unfold Builtin.Range.rangeSize
    rw [if_pos (by decide)]
    split
    · have : (k - 0 - 1) / 1 = k - 1 := by rw [Int.sub_zero]; exact Int.ediv_one _
      rw [this]; omega
    · omega
  have hsmall : Builtin.Range.small 0 k 1 = true := by
    have fits : ∀ x : Int, -(2 ^ 40) ≤ x → x ≤ 2 ^ 40 → Builtin.Range.rangeFitsLong x = true := fun x h1 h2 => by
      unfold Builtin.Range.rangeFitsLong
      simp only [Bool.and_eq_true, decide_eq_true_eq]
      omega
    unfold Builtin.Range.small
    rw [hsize, fits 0 (by omega) (by omega), fits k (by omega) (by omega), fits 1 (by omega) (by omega), fits (k.toNat : Int) (by omega) (by omega)]
    rw [if_pos (by decide), fits _ (by omega) (by omega)]
    simp
  refine LCg.CompSrc.range (n := k.toNat) F.handled S.fr N hr hsmall hsize (by rw [sizeLine_eq]; omega) fun g => ?_
  have e : k.toNat = (upTo k.toNat 0).length := (upTo_len _ _).symm
  have main := rest_U (s := { s with heap := g }) (S := fun _ => True) (P := fun i v => ∃ t, v = .int (0 + (i : Int)) t) (Fin := Fin { s with heap := g }) (all := upTo k.toNat 0) (Post := fun acc H => Post acc H) he G F X L f hx hcl
      (fun news hn => trivial) (fun i v u ⟨t, hp⟩ hu => by
        subst hp
        have z := upTo_get _ _ _ _ hu
        rw [z, Nat.zero_add, Int.zero_add]; exact .int _ _)
      (fun acc ys H W' news L0 hp B' hv' => hFin g acc ys _ news hp fun D h m' F' N' o1 => by
        obtain ⟨L3, B3⟩ := bears_end0 B' hv' F' N' o1
        exact ⟨_, L0.trans L3, ⟨F', _, N', B3⟩, Wd.put_self⟩)
      (upTo k.toNat 0) 0 [] [] W _ led rfl (Wd.Le.refl W) B .nil (T.All.mono (fun q hq => hq) h)
  rw [upTo_len] at main
  exact main
end
end Mine
end

section
set_option linter.all false
set_option bootstrap.genMatcherCode false
set_option maxRecDepth 10000
namespace Mine
open PySem PySem.W PySem.Calls PyProof.Rows
noncomputable def bindS : List Nat → List Value → (Str → Option Value) → (Str → Option Value)
  | x :: xs, w :: ws, mm => bindS xs ws (fun y => if y = nm x then some w else mm y)
  | _, _, mm => mm
theorem NamesAre.each {xs : List Nat} {es : List Expr} (h : NamesAre xs es) (env : Env) : ∃ ps : List Pos, ps.length = xs.length ∧ (assignEach es env) = (xs.zip ps).map fun z => (false, assign (.Name (nm z.1) z.2) env) := by
  induction h with
  | nil => exact ⟨[], rfl, rfl⟩
  | cons x s p xs es hx hs h ih =>
    obtain ⟨ps, h1, h2⟩ := ih
    subst hs
    refine ⟨p :: ps, by simp [h1], ?_⟩
    show (false, assign (.Name (nm x) p) env) :: assignEach es env = _
    rw [h2]; rfl
theorem NamesAre.lt {xs : List Nat} {es : List Expr} (h : NamesAre xs es) : ∀ x ∈ xs, x < nN := by
  induction h with
  | nil => exact fun _ h => nomatch h
  | cons x s p xs es hx hs h ih => exact fun y hy => (List.mem_cons.mp hy).elim (fun e => by rw [e]; exact hx) (ih y)
section
variable {M : Model} {A : Around} {env : Env} {Ex : Value → Shared → Prop}
theorem names_assign (hp : (env.scope.kind == .class || (env.scope.kind == .module && env.locals != env.globals)) = false) : ∀ (xs : List Nat) (ps : List Pos) (ws : List Value) (mm : Str → Option Value) (s : Shared) (Q : Unit → Shared → Prop), ps.length = xs.length → ws.length = xs.length →
    (∀ x ∈ xs, env.kindOf (nm x) = some .local) → s.heap.Ns env.locals mm →
    (∀ h' tk, h'.Ns env.locals (bindS xs ws mm) → Heap.SameBut env.locals s.heap h' → Q () { s with heap := h', toks := tk }) →
    wpAny M A (assignInOrder ((xs.zip ps).map fun z => assign (.Name (nm z.1) z.2) env) ws) Q Ex s
  | [], _, ws, mm, s, Q, h1, h2, hk, hn, k => assignInOrder_nil (k s.heap s.toks (by cases ws <;> exact hn) (Heap.SameBut.refl _ _))
  | x :: xs, [], _, _, _, _, h1, _, _, _, _ => by simp at h1
  | x :: xs, p :: ps, [], _, _, _, _, h2, _, _, _ => by simp at h2
  | x :: xs, p :: ps, w :: ws, mm, s, Q, h1, h2, hk, hn, k => by
    refine assignInOrder_cons (wpAny_assign_Name (wpAny_storeName_local (hk x List.mem_cons_self) hn (fun h₁ hn₁ hs₁ => ?_) hp))
    exact names_assign hp xs ps ws _ _ Q (by simpa using h1) (by simpa using h2) (fun y hy => hk y (List.mem_cons_of_mem _ hy)) hn₁ fun h' tk hn' hs' => k h' tk hn' (hs₁.trans hs')
end
section
variable {c : Cx} {env : Env} {m mm : Str → Option Value} {ns : Kd} {W : Wd} {ae : AEnv} {b : Heap}
theorem bindS_other : ∀ (xs : List Nat) (ws : List Value) (mm : Str → Option Value) (y : Str), (∀ x ∈ xs, y ≠ nm x) → bindS xs ws mm y = mm y
  | [], _, _, _, _ => by unfold bindS; rfl
  | x :: xs, [], _, _, _ => rfl
  | x :: xs, w :: ws, mm, y, h => by
    show bindS xs ws _ y = _
    rw [bindS_other xs ws _ y fun z hz => h z (List.mem_cons_of_mem _ hz), if_neg (h x List.mem_cons_self)]
theorem lk_bind_other : ∀ (xs : List Nat) (us : List AV) (ae : AEnv) (y : Nat), y ∉ xs → lk y ((xs.zip us).foldl (fun e p => put p.1 p.2 e) ae) = lk y ae
  | [], _, _, _, _ => rfl
  | x :: xs, [], _, _, _ => rfl
  | x :: xs, u :: us, ae, y, h => by
    show lk y ((xs.zip us).foldl (fun e p => put p.1 p.2 e) (put x u ae)) = _
    rw [lk_bind_other xs us _ y fun hy => h (List.mem_cons_of_mem _ hy), lk_put, if_neg fun e => h (by rw [e]; exact List.mem_cons_self)]
theorem bind_at : ∀ {xs : List Nat} {us : List AV} {ws : List Value} (ae : AEnv) (mm : Str → Option Value), us.length = xs.length → VRs b W us ws → xs.Nodup → (∀ x ∈ xs, x < nN) → ∀ y ∈ xs, ∃ u w, lk y ((xs.zip us).foldl (fun e p => put p.1 p.2 e) ae) = some u ∧ bindS xs ws mm (nm y) = some w ∧ VR b W u w
  | [], _, _, _, _, _, _, _, _, y, hy => nomatch hy
  | x :: xs, us', ws', ae, mm, hl, hv, hn, hx, y, hy => by
    rcases hv with _ | ⟨u, w, us, ws, h, hs⟩
    · simp at hl
    rw [List.nodup_cons] at hn
    by_cases q : y ∈ xs
    · exact bind_at (put x u ae) _ (by simpa using hl) hs hn.2 (fun z hz => hx z (List.mem_cons_of_mem _ hz)) y q
    · have e : y = x := (List.mem_cons.mp hy).resolve_right q
      subst e
      refine ⟨u, w, ?_, ?_, h⟩
      · show lk y ((xs.zip us).foldl (fun e p => put p.1 p.2 e) (put y u ae)) = _
        rw [lk_bind_other xs us _ y q, lk_put, if_pos rfl]
      · show bindS xs ws _ (nm y) = _
        rw [bindS_other xs ws _ _ fun z hz e => q (by
          have := nm_inj (hx y List.mem_cons_self) (hx z (List.mem_cons_of_mem _ hz)) e
          rw [this]; exact hz), if_pos rfl]
theorem loc_put {x : Nat} {u : AV} {w : Value} (L : LocOK b W env ns mm ae) (hx : x < nN) (hk : ns.lookup (nm x) = some .local) (h : VR b W u w) : LocOK b W env ns (fun y => if y = nm x then some w else mm y) (put x u ae) := by
  refine ⟨fun y v e => ?_, fun y v e hl => ?_, fun y v e hl => ?_⟩
  · rw [lk_put] at e
    by_cases q : y = x
    · rw [q]; exact hx
    · rw [if_neg q] at e; exact L.lt y v e
  · rw [lk_put] at e
    by_cases q : y = x
    · subst q
      rw [if_pos rfl] at e; cases e
      exact ⟨w, by simp, h⟩
    · rw [if_neg q] at e
      have : ¬ nm y = nm x := fun z => q (nm_inj (L.lt y v e) hx z)
      obtain ⟨w', e1, e2⟩ := L.loc y v e hl
      exact ⟨w', by simp [this, e1], e2⟩
  · rw [lk_put] at e
    by_cases q : y = x
    · subst q; rw [hk] at hl; cases hl
    · rw [if_neg q] at e; exact L.cel y v e hl
theorem loc_binds : ∀ {xs : List Nat} {us : List AV} {ws : List Value} {ae : AEnv} {mm : Str → Option Value}, LocOK b W env ns mm ae → us.length = xs.length → VRs b W us ws → (∀ x ∈ xs, x < nN ∧ ns.lookup (nm x) = some .local) →
    LocOK b W env ns (bindS xs ws mm) ((xs.zip us).foldl (fun e p => put p.1 p.2 e) ae)
  | [], _, ws, _, _, L, _, _, _ => by unfold bindS; exact L
  | x :: xs, us', ws', ae, mm, L, hl, hv, hx => by
    rcases hv with _ | ⟨u, w, us, ws, h, hs⟩
    · simp at hl
    exact loc_binds (xs := xs) (loc_put L (hx x List.mem_cons_self).1 (hx x List.mem_cons_self).2 h) (by simpa using hl) hs fun y hy => hx y (List.mem_cons_of_mem _ hy)
theorem loc_compN {xs : List Nat} {us : List AV} {ws : List Value} {sc : Scope} {cl : List (Str × Addr)} {C : Addr} {m₂ : Str → Option Value} (f : ScF ns xs sc) (hx : ∀ x ∈ xs, x < nN) (hn : xs.Nodup) (X : EnvOK c m env ns mm) (L : LocOK b W env ns mm ae) (hcl : ∀ y, sc.names.lookup y = some .free → ∃ a, cl.lookup y = some a ∧ env.cells.lookup y = some a)
    (hl : us.length = xs.length) (hv : VRs b W us ws) : LocOK b W (compEnvC sc cl C env) (relN ns sc.names) (bindS xs ws m₂) ((xs.zip us).foldl (fun e p => put p.1 p.2 e) ae) := by
  have hlt : ∀ y v, lk y ((xs.zip us).foldl (fun e p => put p.1 p.2 e) ae) = some v → y < nN := fun y v e => by
    by_cases q : y ∈ xs
    · exact hx y q
    · rw [lk_bind_other xs us ae y q] at e; exact L.lt y v e
  refine ⟨hlt, fun y v e hk => ?_, fun y v e hk => ?_⟩
  · have h1 := relN_local hk
    rcases f.only _ (lookup_mem h1) rfl with q | ⟨z, hz, q⟩
    · exact absurd q (nm_dot (hlt y v e))
    · have := nm_inj (hlt y v e) (hx z hz) q
      subst this
      obtain ⟨u, w, e1, e2, e3⟩ := bind_at (b := b) ae m₂ hl hv hn hx y hz
      rw [e] at e1; cases e1
      exact ⟨w, e2, e3⟩
  · obtain ⟨h1, h2⟩ := relN_cell f.cell hk
    have hne : y ∉ xs := fun q => by
      rw [f.tgt y q] at h1; cases h1
    rw [lk_bind_other xs us ae y hne] at e
    obtain ⟨i, a, e1, e2, e3⟩ := L.cel y v e h2
    obtain ⟨a', e4, e5⟩ := hcl (nm y) h1
    rw [e3] at e5; cases e5
    exact ⟨i, a, e1, e2, e4⟩
end
end Mine
end

section
set_option linter.all false
set_option bootstrap.genMatcherCode false
set_option maxRecDepth 10000
set_option maxHeartbeats 1000000
namespace Mine
open PySem PySem.W PySem.Calls PyProof.Rows
section
variable {cf : CF} {c : Cx} {A : Around} {env : Env} {m mm : Str → Option Value} {ns : Kd} {ae : AEnv} {sc : Scope} {W : Wd} {H : HS} {s : Shared} {cl : List (Str × Addr)} {Ex : Value → Shared → Prop}
noncomputable abbrev evN (cf : CF) (elt : E) (xs : List Nat) (ae : AEnv) : AV → HS → T (Option AV × HS) := fun v H => opt (bindXs xs true v ae) fun ae' => (evalE std cf elt ae' H).bind fun q => .leaf (some q.1, q.2)
theorem cps {G : Prop} (h : ∀ C : Prop, (G → C) → C) : G := h G id
theorem bindXs_tup {xs : List Nat} {v : AV} {ae ae' : AEnv} (h : bindXs xs true v ae = some ae') : ∃ us, v = .tup us ∧ us.length = xs.length ∧ ae' = (xs.zip us).foldl (fun e p => put p.1 p.2 e) ae := by
  cases v with
  | tup us =>
    have h' : (if us.length = xs.length then some ((xs.zip us).foldl (fun e p => put p.1 p.2 e) ae) else none) = some ae' := h
    split at h'
    · rename_i e
      cases h'
      exact ⟨us, rfl, e, rfl⟩
    · cases h'
  | _ => nomatch (h : (none : Option AEnv) = some ae')
inductive BN (cf : CF) (elt : E) (xs : List Nat) (ae : AEnv) (c : Cx) (m : Str → Option Value) (W : Wd) (s : Shared) (I D C ax : Addr) (vs : List AV) (ws : List Value) (Post : List AV → HS → Prop) (k : Nat) (s' : Shared) : Prop where
  | mk (h' : Heap) (tk i : Nat) (acc : List AV) (ys : List Value) (m' : Str → Option Value) (W' : Wd) (H' : HS) (news : Led) (e1 : s' = { s with heap := h', toks := tk }) (hi : i ≤ vs.length) (e2 : k = vs.length + 1 - i) (hyl : ys.length = i) (hit : h'.IsListIter I ax i) (F : Fr c.h₀ c.L h' m) (hn : h'.Ns C m')
      (N : News c.h₀ c.L h' ((D, LCg.lst ys) :: news)) (off : LCg.Off3 I C D news) (L : W.Le W') (B : Bears c W' H' news) (hv : VRs c.b W' acc ys) (hall : (compL (evN cf elt xs ae) (vs.drop i) H').All (fun q => Post (acc ++ q.1) q.2)) : BN cf elt xs ae c m W s I D C ax vs ws Post k s'
theorem block_N {elt : E} {xs : List Nat} {ex iter : Expr} {es : List Expr} {tk0 : Nat} {tp pos : Pos} {RR : Value → Addr → Result → Shared → Prop} {Post : List AV → HS → Prop} {vs : List AV} {ws : List Value} {ax : Addr} {led : Led}
    (he : SndE cf (relN ns sc.names) elt ex) (G : Glb c) (F : Frm cf c A) (X : EnvOK c m env ns mm) (L : LocOK c.b W env ns mm ae) (f : ScF ns xs sc) (hna : NamesAre xs es) (hn : xs.Nodup) (hcl : ∀ y, sc.names.lookup y = some .free → ∃ a, cl.lookup y = some a ∧ env.cells.lookup y = some a)
    (hs : VRs c.b W vs ws) (hz : vs.length < 2 ^ 20) (hx : ∀ (h : Heap) (W : Wd) (H : HS) (led : Led), Fr c.h₀ c.L h m → News c.h₀ c.L h led → Bears c W H led → h.IsList ax ws.toArray) (F0 : Fr c.h₀ c.L s.heap m) (N : News c.h₀ c.L s.heap led) (B : Bears c W H led)
    (h : (compL (evN cf elt xs ae) vs H).All (fun q => Post q.1 q.2))
    (hRR : ∀ D C h tk m' acc ys W' H' news, Fr c.h₀ c.L h m → News c.h₀ c.L h ((D, LCg.lst ys) :: news) → LCg.Off1 D news → h.Ns C m' → c.h₀.get? C = none → C ≠ c.L → C ≠ D → (∀ p ∈ news, p.1 ≠ C) → W.Le W' → Bears c W' H' news → VRs c.b W' acc ys → Post acc H' → RR (.ref D) C (.ok .next) { s with heap := h, toks := tk }) :
    wpAny (model c.prog c.w) A (pyIter (.ref ax)) (fun it s₂ => wpAny (model c.prog c.w) A (newList []) (fun acc s₃ => wpAny (model c.prog c.w) A (newFunctionEnv sc env.globals cl [] env.qual none .none (some env)) (fun cenv s₄ =>
      codeAny (model c.prog c.w) A (.compStart (.ListComp ex [⟨.Tuple es tk0 tp, iter, [], 0⟩] sc pos) 0 it acc { cenv with scope := relabel sc env }) (RR acc cenv.locals) s₄) Ex s₃) Ex s₂) Ex s := by
  have hlx : s.heap.IsList ax ws.toArray := hx _ _ _ _ F0 N B
  have hlt0 : ax < s.heap.objs.size := by obtain ⟨_, e, _⟩ := id hlx; exact Heap.lt_size e
  refine wpAny_pyIter_list hlx ?_
  refine wpAny_newObj_type (wpAny_newFunctionEnv f.cell (by intro y hy; simp at hy) (fun h₁ hns₁ hsb₁ => ?_) f.kind)
  dsimp only at hns₁ hsb₁ ⊢
  have hIn : (s.heap.push { cls := .type "list_iterator", data := .fields #[.ref ax, .int 0 0] }).IsListIter s.heap.objs.size ax 0 := ⟨_, Heap.get?_push_size _ rfl, rfl, rfl⟩
  have upI : ∀ b o, s.heap.get? b = some o → (s.heap.push { cls := .type "list_iterator", data := .fields #[.ref ax, .int 0 0] }).get? b = some o := fun b o e => Heap.get?_push_of_some _ e
  have F1 := F0.keeps upI
  have N1 := N.grown upI
  have hsI : (s.heap.push { cls := .type "list_iterator", data := .fields #[.ref ax, .int 0 0] }).objs.size = s.heap.objs.size + 1 := Heap.size_push _ _
  generalize hH1 : s.heap.push { cls := .type "list_iterator", data := .fields #[.ref ax, .int 0 0] } = H1 at hns₁ hsb₁ hIn upI F1 N1 hsI ⊢
  generalize hH2 : H1.push { cls := .type "list", dict := none, data := .seq ([] : List Value).toArray } = H2 at hns₁ hsb₁ ⊢
  generalize hI : s.heap.objs.size = I at *
  have hD : H1.objs.size = I + 1 := hsI
  have hC : H2.objs.size = I + 2 := by rw [← hH2, Heap.size_push, hD]
  have old : ∀ b o, H1.get? b = some o → h₁.get? b = some o := fun b o e => hsb₁.extBut b o (fun q => absurd (Heap.lt_size e) (by rw [q, hC, hD]; exact Nat.not_lt.mpr (Nat.le_succ _))) (Heap.get?_push_of_some _ (hH2 ▸ Heap.get?_push_of_some _ e))
  have hacc : h₁.get? H1.objs.size = some (LCg.lst []) := hsb₁.extBut _ _ (by rw [hC, hD]; exact Nat.ne_of_lt (Nat.lt_succ_self _)) (Heap.get?_push_of_some _ (hH2 ▸ Heap.get?_push_size _ rfl))
  have fresh₀ : ∀ a, I ≤ a → c.h₀.get? a = none := fun a ha => by
    cases e : c.h₀.get? a with
    | none => rfl
    | some o' =>
      have := Heap.lt_size (F0.keep a o' e)
      rw [hI] at this; exact absurd this (Nat.not_lt.mpr ha)
  have hLlt : c.L < I := by rw [← hI]; exact F0.ns.lt
  have lt0 : ∀ p ∈ led, p.1 < I := fun p hp => by rw [← hI]; exact Heap.lt_size (N p hp).1
  have off₀ : LCg.Off3 I H2.objs.size H1.objs.size led := LCg.Off3.of fun p hp => by
    have := lt0 p hp
    exact ⟨Nat.ne_of_lt this, by rw [hC]; exact Nat.ne_of_lt (Nat.lt_succ_of_lt (Nat.lt_succ_of_lt this)), by rw [hD]; exact Nat.ne_of_lt (Nat.lt_succ_of_lt this)⟩
  have hCL : H2.objs.size ≠ c.L := by rw [hC]; exact Nat.ne_of_gt (Nat.lt_succ_of_lt (Nat.lt_succ_of_lt hLlt))
  have hDL : H1.objs.size ≠ c.L := by rw [hD]; exact Nat.ne_of_gt (Nat.lt_succ_of_lt hLlt)
  have hIL : c.L ≠ I := Nat.ne_of_lt hLlt
  have hCI : I ≠ H2.objs.size := by rw [hC]; exact Nat.ne_of_lt (Nat.lt_succ_of_lt (Nat.lt_succ_self _))
  have hDI : I ≠ H1.objs.size := by rw [hD]; exact Nat.ne_of_lt (Nat.lt_succ_self _)
  have hDC : H1.objs.size ≠ H2.objs.size := by rw [hC, hD]; exact Nat.ne_of_lt (Nat.lt_succ_self _)
  have hC₀ : c.h₀.get? H2.objs.size = none := fresh₀ _ (by rw [hC]; exact Nat.le_add_right _ _)
  have hD₀ : c.h₀.get? H1.objs.size = none := fresh₀ _ (by rw [hD]; exact Nat.le_add_right _ _)
  have hI₀ : c.h₀.get? I = none := fresh₀ _ (Nat.le_refl _)
  have hax : ax ≠ I := Nat.ne_of_lt hlt0
  have hlen := hs.length
  have loop : ∀ s₃ : Shared, s₃ = { s with heap := h₁, toks := s.toks + ([] : List (Str × Value)).length } →
      codeAny (model c.prog c.w) A (.compLoop (.ListComp ex [⟨.Tuple es tk0 tp, iter, [], 0⟩] sc pos) 0 (.ref I) (.ref H1.objs.size) (compEnvC sc cl H2.objs.size env))
        (RR (.ref H1.objs.size) H2.objs.size) s₃ := by
    rintro s₃ rfl
    refine LCp.codeAny_compLoop_pair
      (BN cf elt xs ae c m W s I H1.objs.size H2.objs.size ax vs ws Post) ?_ (vs.length + 1)
      ⟨h₁, _, 0, [], [], _, W, H, led, rfl, Nat.zero_le _, rfl, rfl, (hIn.at fun o e => old _ o e), F1.keeps old, hns₁, fun p hp => ?_, off₀, Wd.Le.refl W, B, .nil, h⟩
    · intro k s' hI
      refine cps fun C kk => ?_
      obtain ⟨h', tk, i, acc, ys, m', W', H', news, e1, hi, e2, hyl, hit, F', hn', N', off', L', B', hv', hall⟩ := hI
      refine kk ?_
      clear kk
      subst e1; subst e2
      have o3 := off'.mem
      have hl' : h'.IsList ax ws.toArray := hx _ _ _ _ F' (fun p hp => N' p (List.mem_cons_of_mem _ hp)) B'
      by_cases hlt : i < vs.length
      · refine cps fun C kk => ?_
        have hu : ∃ u, vs[i]? = some u := ⟨vs[i], List.getElem?_eq_getElem hlt⟩
        obtain ⟨u, hu⟩ := hu
        have hw : ∃ v, ws[i]? = some v := ⟨ws[i]'(by omega), List.getElem?_eq_getElem (by omega)⟩
        obtain ⟨v, hw⟩ := hw
        have huv := (hs.idx0 hw hu).mono L'
        have hdrop : vs.drop i = u :: vs.drop (i + 1) := by
          have := List.drop_eq_getElem_cons hlt
          rw [this]; congr 1
          rw [List.getElem?_eq_getElem hlt] at hu; exact Option.some.inj hu
        rw [hdrop] at hall
        have hall1 := T.all_bind.mp hall
        obtain ⟨ae', eb, hall1⟩ := opt_all hall1
        obtain ⟨us, rfl, hul, rfl⟩ := bindXs_tup eb
        refine kk ?_
        clear kk
        refine wpAny_pyNext_list_item hit hl' (x := v) (by simpa using hw) fun h₂ hit₂ hs₂ => ?_
        have hk₂ : ∀ b o, b ∉ [I] → h'.get? b = some o → h₂.get? b = some o := fun b o hb e => hs₂.extBut b o (by simpa using hb) e
        have N₂ : News c.h₀ c.L h₂ ((H1.objs.size, LCg.lst ys) :: news) := LCg.news_but N' hk₂ fun p hp => by
          rcases List.mem_cons.mp hp with rfl | hp
          · exact Ne.symm hDI
          · exact (o3 p hp).1
        obtain ⟨wus, ta, tn, rfl, hmt, hus⟩ := huv.tupI
        ·
          have ht : IsTup h₂ ta wus.toArray := News.isTup N₂ (List.mem_cons_of_mem _ (B'.tup _ hmt).1)
          refine wpAny_letOwnedTupleGo_listiter hit₂ ?_
          obtain ⟨ps, hps, heach⟩ := hna.each (compEnvC sc cl H2.objs.size env)
          have hulen := hus.length
          refine assign_Tuple_tuple F.handled ht (by rw [heach]; simp; omega) (by rw [heach]; simp) fun h₅ hex => ?_
          have he' : ∀ b o, h₂.get? b = some o → h₅.get? b = some o := fun b o e => hex b o (Nat.ne_of_lt (Heap.lt_size e)) e
          rw [heach, List.map_map]
          refine names_assign (env := compEnvC sc cl H2.objs.size env) (by simp [compEnvC, relabel, f.kind]) xs ps wus m' _ _ hps (by omega) (fun x hx => lookup_relabel_local (f.tgt x hx)) ((hn'.at' fun o e => hk₂ _ o (by simpa using Ne.symm hCI) e).at' fun o e => he' _ o e) fun h₃ tk₃ hn₃ hs₃ => ?_
          have old3 : ∀ b o, b ≠ H2.objs.size → h₂.get? b = some o → h₃.get? b = some o := fun b o hb e => hs₃.extBut b o hb (he' b o e)
          have hit₃ : h₃.IsListIter I ax (i + 1) := hit₂.at fun o e => old3 _ o hCI e
          refine cps fun C kk => ?_
          obtain ⟨oI, heI, hcI⟩ := id hit₃
          obtain ⟨oC, heC, hoC⟩ := LCg.ns_obj hn₃
          refine kk ?_
          clear kk
          have F₃ : Fr c.h₀ c.L h₃ m := ((LCg.fr_but F' hk₂ hIL hI₀).keeps he').change hs₃ hCL hC₀
          have N₃ : News c.h₀ c.L h₃ ((I, oI) :: (H2.objs.size, oC) :: (H1.objs.size, LCg.lst ys) :: news) := fun p hp => by
            rcases List.mem_cons.mp hp with rfl | hp
            · exact ⟨heI, Ne.symm hIL, hI₀⟩
            · rcases List.mem_cons.mp hp with rfl | hp
              · exact ⟨heC, hCL, hC₀⟩
              · have z := N₂ p hp
                refine ⟨old3 _ _ ?_ z.1, z.2⟩
                rcases List.mem_cons.mp hp with rfl | hp
                · exact hDC
                · exact (o3 p hp).2.1
          have B3 := bears_in (oI := oI) (oC := oC) (oD := LCg.lst ys) B' off'
          have X3 : EnvOK { c with xs := (I, oI) :: (H2.objs.size, oC) :: (H1.objs.size, LCg.lst ys) :: c.xs } m (compEnvC sc cl H2.objs.size env) (relN ns sc.names) (bindS xs wus m') := env_comp f X hcl (List.mem_cons_of_mem _ List.mem_cons_self) hoC m
          have L3 := loc_compN (C := H2.objs.size) (m₂ := m') f hna.lt hn X (L.mono L') hcl hul hus
          refine he.bind (c := { c with xs := (I, oI) :: (H2.objs.size, oC) :: (H1.objs.size, LCg.lst ys) :: c.xs }) (s := { s with heap := h₃, toks := tk₃ }) (G.xs _) (F.xs _) X3 L3 ⟨F₃, _, N₃, B3⟩ hall1 fun r y W4 h₄ tk₄ L4 S4 hy hr => ?_
          have hxs : ∀ p ∈ c.xs, p.1 ≠ I ∧ p.1 ≠ H2.objs.size ∧ p.1 ≠ H1.objs.size := fun p hp => o3 p (B'.xs p hp)
          obtain ⟨news₄, N₄, off₄, B₄⟩ := bears_out hxs S4
          have zI := (N₄ (I, oI) List.mem_cons_self).1
          have zC := (N₄ (H2.objs.size, oC) (List.mem_cons_of_mem _ List.mem_cons_self)).1
          have zD := (N₄ (H1.objs.size, LCg.lst ys) (List.mem_cons_of_mem _ (List.mem_cons_of_mem _ List.mem_cons_self))).1
          have N₄' : News c.h₀ c.L h₄ news₄ := fun p hp => N₄ p (List.mem_cons_of_mem _ (List.mem_cons_of_mem _ (List.mem_cons_of_mem _ hp)))
          have hit₄ : h₄.IsListIter I ax (i + 1) := ⟨oI, zI, hcI⟩
          refine append_at (hsz := by show ys.toArray.size ≤ sizeLine; rw [List.size_toArray, hyl, sizeLine_eq]; omega) zD fun h₅ hs₅ hD₅ => ?_
          have off4 := off₄.mem
          have hr' := T.all_bind.mp (hr : ((compL (evN cf elt xs ae) (vs.drop (i + 1)) r.2).bind _).All _)
          refine ⟨vs.length + 1 - (i + 1), by omega, h₅, tk₄, i + 1, acc ++ [r.1], ys ++ [y], _, W4, r.2, news₄, rfl, hlt, rfl, by rw [List.length_append, List.length_singleton, hyl], hit₄.at fun o e => hs₅.extBut _ o hDI e, S4.fr.change hs₅ hDL hD₀,
            (hoC.ns zC).sameBut hs₅ (Ne.symm hDC), fun p hp => ?_, off₄, L'.trans L4, B₄, (hv'.mono L4).append (.cons _ _ _ _ hy .nil), T.All.mono (fun q hq => by
              have hq' : Post (acc ++ r.1 :: q.1) q.2 := hq
              simpa using hq') hr'⟩
          rcases List.mem_cons.mp hp with rfl | hp
          · exact ⟨hD₅.trans (congrArg some (LCg.lst_snoc ys y)), hDL, hD₀⟩
          · exact ⟨hs₅.extBut _ _ (off4 p hp).2.2 (N₄' p hp).1, (N₄' p hp).2⟩
      · obtain rfl : i = vs.length := Nat.le_antisymm hi (Nat.not_lt.mp hlt)
        rw [List.drop_length] at hall
        have hp0 : Post (acc ++ []) H' := hall
        rw [List.append_nil] at hp0
        refine wpAny_pyNext_list_end F.handled hit hl' (by simp; omega) fun h₂ hk₂' => ?_
        have hk₂ : ∀ b o, b ∉ [I] → h'.get? b = some o → h₂.get? b = some o := fun b o hb e => hk₂' b o (by simpa using hb) e
        exact hRR _ _ h₂ tk _ acc ys W' H' news (LCg.fr_but F' hk₂ hIL hI₀) (LCg.news_but N' hk₂ fun p hp => by
          rcases List.mem_cons.mp hp with rfl | hp
          · exact Ne.symm hDI
          · exact (o3 p hp).1) off'.one (hn'.at' fun o e => hk₂ _ o (by simpa using Ne.symm hCI) e) hC₀ hCL (Ne.symm hDC) (fun p hp => (o3 p hp).2.1) L' B' hv' hp0
    · rcases List.mem_cons.mp hp with rfl | hp
      · exact ⟨hacc, hDL, hD₀⟩
      · exact ⟨old _ _ (N1 p hp).1, (N1 p hp).2⟩
  refine codeAny_compStart_list (loop _ rfl) ?_
  have hit₁ : h₁.IsListIter I ax 0 := hIn.at fun o e => old _ o e
  have W := Walks.list (prog := c.prog) (w := c.w) (A := A) F.handled I ax hax ws.toArray
  exact W.self 0 _ _ _ ⟨hit₁, Heap.IsList.at hlx (fun o e => old _ o (upI _ o e))⟩ (loop _ rfl)
end
end Mine
end

section
set_option linter.all false
set_option bootstrap.genMatcherCode false
set_option maxRecDepth 10000
set_option maxHeartbeats 1000000
namespace Mine
open PySem PySem.W PySem.Calls PyProof.Rows
section
variable {cf : CF} {c : Cx} {A : Around} {env : Env} {m mm : Str → Option Value} {ns : Kd} {ae : AEnv} {sc : Scope} {W : Wd} {H : HS} {s : Shared} {Ex : Value → Shared → Prop}
theorem EnvOK.xs (X : EnvOK c m env ns mm) (p : Addr × Obj) : EnvOK { c with xs := p :: c.xs } m env ns mm :=
  ⟨X.kind, X.names, X.glob, X.bi, X.cells, X.here.imp id fun ⟨o, h1, h2⟩ => ⟨o, List.mem_cons_of_mem _ h1, h2⟩⟩
theorem fin_E {W' : Wd} {h' : Heap} {tk' : Nat} {Q : Value → Shared → Prop} (L' : W.Le W') : ∀ (g : Heap) (acc : List AV) (ys : List Value) (H2 : HS) (news : Led), PV c m W s Q (.ref (hlen H2), hnew H2 (.list acc)) → Ended c W' acc ys H2 news →
    LCg.FinE c.h₀ c.L m { s with heap := g, toks := tk' } Q ys news := fun g acc ys H2 news hp hE D h tk F' N' o1 => by
  obtain ⟨W3, L3, S3, h3⟩ := hE D h m F' N' o1
  exact hp (.ref D) W3 h tk (L'.trans L3) S3 (.ref _ _ h3)
theorem comp1_snd {elt it : E} {x : Nat} {ex y : Expr} {n : Str} {p pp : Pos} (hsc : scOk ns [x] sc = true) (hx : x < nN) (hn : n = nm x) (hfs : ∀ env v, foldedSetIterable y env v = pure v) (he : SndE cf (relN ns sc.names) elt ex) (hi : SndE cf ns it y) :
    SndE cf ns (.comp elt [x] false it .none .none) (.ListComp ex [⟨.Name n p, y, [], 0⟩] sc pp) := by
  subst hn
  intro c A env m mm W ae H s Q Ex G F X L S h
  have f := scF hsc
  obtain ⟨cl, hclos, hcl⟩ := St.scope f X
  refine LCg.ListComp_U S.fr hclos f.cell f.kind f.names (f.tgt x List.mem_cons_self) (hi.bind G F X L S h fun r v W' h' tk' L' S' hv h => ?_) (hfs env)
  obtain ⟨vs, hl, hz, h⟩ := opt_all h
  refine srcU (s := { s with heap := h', toks := tk' }) (Post := fun acc H2 => PV c m W s Q (.ref (hlen H2), hnew H2 (.list acc))) he G F X (L.mono L') f hx hcl S' hv hl hz (T.All.mono (fun q hq => ?_) (T.all_bind.mp h)) (fin_E (h' := h') L')
  rw [hlen_showV]; exact hq
theorem compIf_snd {elt it cc : E} {x k : Nat} {ex y z : Expr} {n : Str} {p pp : Pos} (hsc : scOk ns [x] sc = true) (hx : x < nN) (hn : n = nm x) (hfs : ∀ env v, foldedSetIterable y env v = pure v) (he : SndE cf (relN ns sc.names) elt ex) (hc : SndT cf (relN ns sc.names) cc z) (hi : SndE cf ns it y) :
    SndE cf ns (.comp elt [x] false it (some k) cc) (.ListComp ex [⟨.Name n p, y, [z], 0⟩] sc pp) := by
  subst hn
  intro c A env m mm W ae H s Q Ex G F X L S h
  have f := scF hsc
  obtain ⟨cl, hclos, hcl⟩ := St.scope f X
  refine LCt.ListComp_T S.fr hclos f.cell f.kind f.names (f.tgt x List.mem_cons_self) (hi.bind G F X L S h fun r v W' h' tk' L' S' hv h => ?_) (hfs env)
  obtain ⟨vs, hl, hz, h⟩ := opt_all h
  refine srcT (s := { s with heap := h', toks := tk' }) (Post := fun acc H2 => PV c m W s Q (.ref (hlen H2), hnew H2 (.list acc))) he hc G F X (L.mono L') f hx hcl S' hv hl hz (T.All.mono (fun q hq => ?_) (T.all_bind.mp h)) (fin_E (h' := h') L')
  rw [hlen_showV]; exact hq
theorem range_src {it : E} {y : Expr} {n : Str} {q r : Pos} {Q : Value → Shared → Prop} {f : AV × HS → T (AV × HS)} {P : AV × HS → Prop} (hi : SndE cf ns it y) (hs : n = Str.ofString "range") (hk : ns.lookup n = some .globalImplicit) (hx : ∀ env, starEach [y] env = [(false, eval y env)])
    (G : Glb c) (F : Frm cf c A) (X : EnvOK c m env ns mm) (L : LocOK c.b W env ns mm ae) (S : St c m W H s.heap) (h : ((evalE std cf it ae H).bind fun p => match p.1 with | .int k => f p | _ => .stuck).All P)
    (k : ∀ (kk : Int) (H' : HS) W' h' tk' ra t u v, W.Le W' → St c m W' H' h' → IsRange h' ra 0 kk 1 t u v → (f (.int kk, H')).All P → Q (.ref ra) { s with heap := h', toks := tk' }) : wpAny (model c.prog c.w) A (eval (.Call (.Name n q) [y] [] r) env) Q Ex s := by
  subst hs
  obtain ⟨mg, mb, g1, g2, g3, g4, g5, g6⟩ := G.top
  refine Call_ (name_builtin X S g1 g2 hk g6.1 g6.2 (by decide) ?_)
  rw [hx env]
  refine PyProof.Rows.callWith_type rfl (evalArgs_plain (spliced_cons (hi.bind G F X L S h fun rr v W' h' tk' L' S' hv h => spliced_nil ?_)))
  split at h
  · rename_i kk e
    rw [e] at hv
    cases hv with
    | int _ t =>
      refine call_range_1 ?_
      refine k kk rr.2 W' _ _ _ _ _ _ L' (S'.keeps fun b o e => Heap.get?_push_of_some _ e) (IsRange.new ..) ?_
      rw [← e]; exact h
  · exact h.elim
theorem compR_snd {elt it : E} {x : Nat} {ex y : Expr} {n n' : Str} {p pp q r : Pos} (hsc : scOk ns [x] sc = true) (hx : x < nN) (hn : n = nm x) (hs : n' = Str.ofString "range") (hk : ns.lookup n' = some .globalImplicit) (hst : ∀ env, starEach [y] env = [(false, eval y env)])
    (hfs : ∀ env v, foldedSetIterable (.Call (.Name n' q) [y] [] r) env v = pure v) (he : SndE cf (relN ns sc.names) elt ex) (hi : SndE cf ns it y) :
    SndE cf ns (.compR elt x it) (.ListComp ex [⟨.Name n p, .Call (.Name n' q) [y] [] r, [], 0⟩] sc pp) := by
  subst hn
  intro c A env m mm W ae H s Q Ex G F X L S h
  have f := scF hsc
  obtain ⟨cl, hclos, hcl⟩ := St.scope f X
  refine LCg.ListComp_U S.fr hclos f.cell f.kind f.names (f.tgt x List.mem_cons_self) ?_ (hfs env)
  refine range_src (f := fun p => match p.1 with | .int k => .ck (0 ≤ k ∧ k < 2 ^ 20) <| (compL (fun v H' => (evalE std cf elt (put x v ae) H').bind fun q => .leaf (some q.1, q.2)) (upTo k.toNat 0) p.2).bind fun q => .leaf (.ref (hlen q.2), hnew q.2 (.list q.1)) | _ => .stuck)
    (P := PV c m W s Q) hi hs hk hst G F X L S (T.all_bind.mpr (T.All.mono (fun z hz => ?_) (T.all_bind.mp h))) fun kk H' W' h' tk' ra t u v L' S' hr h => ?_
  · revert hz
    cases z.1 <;> exact id
  · obtain ⟨⟨h0, hz⟩, h⟩ := h
    exact srcR (s := { s with heap := h', toks := tk' }) (Post := fun acc H2 => PV c m W s Q (.ref (hlen H2), hnew H2 (.list acc))) he G F X (L.mono L') f hx hcl S' hr h0 hz (T.All.mono (fun q hq => hq) (T.all_bind.mp h)) (fin_E (h' := h') L')
theorem compN_snd {elt it : E} {xs : List Nat} {ex y : Expr} {es : List Expr} {k : Nat} {p pp : Pos} (hsc : scOk ns xs sc = true) (hna : NamesAre xs es) (hn : xs.Nodup) (hfs : ∀ env v, foldedSetIterable y env v = pure v) (he : SndE cf (relN ns sc.names) elt ex) (hi : SndE cf ns it y) :
    SndE cf ns (.comp elt xs true it .none .none) (.ListComp ex [⟨.Tuple es k p, y, [], 0⟩] sc pp) := by
  intro c A env m mm W ae H s Q Ex G F X L S h
  have f := scF hsc
  obtain ⟨cl, hclos, hcl⟩ : ∃ cl, closureFor sc env = pure cl ∧ ∀ y, sc.names.lookup y = some .free → ∃ a, cl.lookup y = some a ∧ env.cells.lookup y = some a := clos_ok fun y hy e => X.cells _ (f.free y hy e)
  rw [eval_ListComp]
  refine wpAny_comprehension_free (use := none) rfl (hfs env) hclos f.kind f.names (hi.bind G F X L S h fun r v W' h' tk' L' S' hv h => ?_)
  obtain ⟨vs, hl, hz, h⟩ := opt_all h
  rcases src_of (s := { s with heap := h', toks := tk' }) G S' hv hl with ⟨i, a, ws, n, led, rfl', rfl, ha, hs, hoff, hm, N, B⟩ | ⟨a, ws, led, rfl', rfl, hb, hs, N, B⟩
  · have h1 := T.all_bind.mp h
    rw [rfl'] at h1
    refine block_N (c := { c with xs := (a, listOf ws.toArray n) :: c.xs }) (s := { s with heap := h', toks := tk' }) (Post := fun acc H => PV c m W s Q (.ref (hlen H), hnew (hset H i (.list vs)) (.list acc))) he (G.xs _) (F.xs _) (X.xs _) (L.mono L') f hna hn hcl hs hz (fun h W H led F N B => News.isList N (B.xs _ List.mem_cons_self)) S'.fr N B
      (T.All.mono (fun q hq => hq) h1) fun D C h tk m' acc ys W2 H2 news F' N' o1 hnC hC₀ hCL hCD hnc L2 B2 hv2 hp => ?_
    obtain ⟨L3, B3⟩ := bears_end (n := n) ha hs hoff L2 B2 hv2 F' N' o1
    refine ⟨m', hnC, fun h'' hs'' => ?_⟩
    have F'' := F'.change hs'' hCL hC₀
    have N'' : News c.h₀ c.L h'' ((D, LCg.lst ys) :: news) := fun p hp => by
      refine ⟨hs''.extBut _ _ ?_ (N' p hp).1, (N' p hp).2⟩
      rcases List.mem_cons.mp hp with rfl | hp
      · exact Ne.symm hCD
      · exact hnc p hp
    exact hp (.ref D) _ h'' tk (L'.trans (L2.trans L3)) ⟨F'', _, N'', B3⟩ (.ref _ _ Wd.put_self)
  · have h1 := T.all_bind.mp h
    rw [rfl'] at h1
    refine block_N (s := { s with heap := h', toks := tk' }) (Post := fun acc H => PV c m W s Q (.ref (hlen H), hnew H (.list acc))) he G F X (L.mono L') f hna hn hcl hs hz (fun h W H led F N B => Heap.IsList.at hb fun o e => F.keep _ o e) S'.fr N B
      (T.All.mono (fun q hq => hq) h1) fun D C h tk m' acc ys W2 H2 news F' N' o1 hnC hC₀ hCL hCD hnc L2 B2 hv2 hp => ?_
    obtain ⟨L3, B3⟩ := bears_end0 B2 hv2 F' N' o1
    refine ⟨m', hnC, fun h'' hs'' => ?_⟩
    have F'' := F'.change hs'' hCL hC₀
    have N'' : News c.h₀ c.L h'' ((D, LCg.lst ys) :: news) := fun p hp => by
      refine ⟨hs''.extBut _ _ ?_ (N' p hp).1, (N' p hp).2⟩
      rcases List.mem_cons.mp hp with rfl | hp
      · exact Ne.symm hCD
      · exact hnc p hp
    exact hp (.ref D) _ h'' tk (L'.trans (L2.trans L3)) ⟨F'', _, N'', B3⟩ (.ref _ _ Wd.put_self)
end
end Mine
end

section
set_option linter.all false
set_option bootstrap.genMatcherCode false
set_option maxRecDepth 10000
namespace Mine
open PySem PySem.W PySem.Calls PyProof.Rows
theorem sndB_one {a : E} {x : Expr} {op : BoolOp} {p : Pos} {ns : Kd} {cf : CF} (h1 : SndE cf ns a x) (h2 : SndT cf ns a x) : SndB cf ns op p a [x] := by
  refine ⟨fun c A env m mm W ae H s Q Ex G F X L S h => BoolOp_one (h1 c A env m mm W ae H s Q Ex G F X L S h), fun c A env m mm W ae H s Q Ex whole G F X L S h => ?_⟩
  have k : ∀ Q' : Bool → Shared → Prop, (∀ b s', Q b s' → Q' b s') → wpAny (model c.prog c.w) A (isTrue x env (eval x env)) Q' Ex s := fun Q' hq => wpAny_mono (h2 c A env m mm W ae H s Q Ex G F X L S h) hq fun _ _ e => e
  cases op with
  | And => exact isTrue_and (k _ fun b s' hq => by cases b <;> first | exact hq | exact isTrue_and_nil hq)
  | Or => exact isTrue_or (k _ fun b s' hq => by cases b <;> first | exact hq | exact isTrue_or_nil hq)
theorem PV.done {c : Cx} {m : Str → Option Value} {W : Wd} {H : HS} {s : Shared} {Q : Value → Shared → Prop} {r : AV} (S : St c m W H s.heap) (h : PV c m W s Q (r, H)) {v : Value} {tk : Nat} (hv : VR c.b W r v) : Q v { s with toks := tk } :=
  h v W s.heap tk (Wd.Le.refl W) S hv
theorem PT.done {c : Cx} {m : Str → Option Value} {W : Wd} {H : HS} {s : Shared} {Q : Bool → Shared → Prop} {r : Bool} (S : St c m W H s.heap) (h : PT c m W s Q (r, H)) {tk : Nat} : Q r { s with toks := tk } :=
  h W s.heap tk (Wd.Le.refl W) S
theorem isTrue_of {c : Cx} {A : Around} {env : Env} {e : Expr} {Ex : Value → Shared → Prop} {s : Shared} {Q : Bool → Shared → Prop} (he : isTrue e env (eval e env) = (do let v ← eval e env; standAt e.pos; holding [v] (truthy v)))
    (h : wpAny (model c.prog c.w) A (eval e env) (fun v s₁ => wpAny (model c.prog c.w) A (truthy v) Q Ex s₁) Ex s) : wpAny (model c.prog c.w) A (isTrue e env (eval e env)) Q Ex s := isTrue_plain h he
theorem c_loc {cf : CF} (ns : Kd) (x : Nat) (n : Str) (p : Pos) (hx : x < nN) (hs : n = nm x) (hk : ns.lookup n = some .local) (hd : (n == ("__debug__" : Str)) = false)  : SndE cf ns (.loc x) (.Name n p) ∧ SndT cf ns (.loc x) (.Name n p) :=
  ⟨fun c A env m mm W ae H s Q Ex G F X L S h => by
        subst hs
        obtain ⟨v, e, h⟩ := opt_all h
        exact name_loc X L S hk hd e fun w hw => PV.done S h hw,
   fun c A env m mm W ae H s Q Ex G F X L S h => by
        subst hs
        obtain ⟨v, e, h⟩ := opt_all h
        refine isTrue_of rfl (name_loc X L S hk hd e fun w hw => truth_snd hw ?_)
        exact T.All.mono (fun b hb => PT.done S hb) (T.all_bind.mp h)⟩
theorem c_cel {cf : CF} (ns : Kd) (x : Nat) (n : Str) (p : Pos) (hx : x < nN) (hs : n = nm x) (hk : ns.lookup n = some .cell) (hd : (n == ("__debug__" : Str)) = false)  : SndE cf ns (.cel x) (.Name n p) ∧ SndT cf ns (.cel x) (.Name n p) :=
  ⟨fun c A env m mm W ae H s Q Ex G F X L S h => by
        subst hs
        simp only [eE_loc, eE_cel, eE_glob, eE_int, eE_str, eE_bool, eE_none, eE_bin, eE_cmp, eE_isIn, eE_notIn, eE_isNone, eE_notNone, eE_and, eE_or, eE_not, eE_ife, eE_attr, eE_sub, eE_upto, eE_call, eE_meth, eE_b1, eE_max, eE_tup, eE_list, eE_dict, eE_comp, eE_compR, eE_junk] at h
        split at h
        · rename_i i e
          split at h
          · rename_i v hi
            obtain ⟨i', a, e1, e2, e3⟩ := L.cel x _ e hk
            cases e1
            obtain ⟨w, h1, h2⟩ := S.cell hi e2
            exact wpAny_Name (wpAny_loadName_cell X.kind (by unfold Env.kindOf; rw [X.names]; exact hk) e3 h1 (PV.done S h h2)) hd
          · exact h.elim
        · exact h.elim,
   fun c A env m mm W ae H s Q Ex G F X L S h => h.elim⟩
theorem c_glob {cf : CF} (ns : Kd) (x : Nat) (n : Str) (p : Pos) (hx : x < nN) (hs : n = nm x) (hk : ns.lookup n = some .globalImplicit) (hd : (n == ("__debug__" : Str)) = false)  : SndE cf ns (.glob x) (.Name n p) ∧ SndT cf ns (.glob x) (.Name n p) :=
  ⟨fun c A env m mm W ae H s Q Ex G F X L S h => by
        subst hs
        obtain ⟨v, e, h⟩ := opt_all h
        obtain ⟨mg, mb, g1, g2, g3, g4⟩ := G.top
        obtain ⟨w, h1, h2⟩ := g3 x v e
        refine Name_function_global X.kind (by unfold Env.kindOf; rw [X.names]; exact hk) ?_ hd
        exact loadGlobal_global (by rw [X.glob]; exact g1.keeps S.fr.keep) h1 (PV.done S h (h2 W)),
   fun c A env m mm W ae H s Q Ex G F X L S h => h.elim⟩
theorem c_int {cf : CF} (ns : Kd) (i : Int) (k : Nat) (p : Pos)  : SndE cf ns (.int i) (.Constant (.int i) k p) ∧ SndT cf ns (.int i) (.Constant (.int i) k p) :=
  ⟨fun c A env m mm W ae H s Q Ex G F X L S h => by
        exact wpAny_Constant_int (PV.done S h (.int _ _)),
   fun c A env m mm W ae H s Q Ex G F X L S h => h.elim⟩
theorem c_neg {cf : CF} (ns : Kd) (i : Int) (j : Int) (k : Nat) (p : Pos) (q : Pos) (e : j = -i)  : SndE cf ns (.int j) (.UnaryOp .USub (.Constant (.int i) k p) q) ∧ SndT cf ns (.int j) (.UnaryOp .USub (.Constant (.int i) k p) q) :=
  ⟨fun c A env m mm W ae H s Q Ex G F X L S h => by
        subst e; exact UnaryOp_ (wpAny_Constant_int (PyProof.Rows.neg_int (PV.done S h (.int _ _)))),
   fun c A env m mm W ae H s Q Ex G F X L S h => h.elim⟩
theorem c_str {cf : CF} (ns : Kd) (x : Nat) (n : Str) (k : Nat) (p : Pos) (hx : x < nN) (hs : n = nm x)  : SndE cf ns (.str x) (.Constant (.str n) k p) ∧ SndT cf ns (.str x) (.Constant (.str n) k p) :=
  ⟨fun c A env m mm W ae H s Q Ex G F X L S h => by
        subst hs; exact Constant_str (PV.done S h (.str _ _ hx)),
   fun c A env m mm W ae H s Q Ex G F X L S h => h.elim⟩
theorem c_bool {cf : CF} (ns : Kd) (b : Bool) (k : Nat) (p : Pos)  : SndE cf ns (.bool b) (.Constant (.bool b) k p) ∧ SndT cf ns (.bool b) (.Constant (.bool b) k p) :=
  ⟨fun c A env m mm W ae H s Q Ex G F X L S h => by
        exact Constant_bool (PV.done S h (.bool _)),
   fun c A env m mm W ae H s Q Ex G F X L S h => h.elim⟩
theorem c_none {cf : CF} (ns : Kd) (k : Nat) (p : Pos)  : SndE cf ns .none (.Constant .none k p) ∧ SndT cf ns .none (.Constant .none k p) :=
  ⟨fun c A env m mm W ae H s Q Ex G F X L S h => by
        exact Constant_none (PV.done S h .none),
   fun c A env m mm W ae H s Q Ex G F X L S h => h.elim⟩
theorem c_bin {cf : CF} (ns : Kd) (o : Op) (a : E) (b : E) (x : Expr) (y : Expr) (op : Operator) (p : Pos) (ho : op = opOf o) (ha : RepE ns a x) (hb : RepE ns b y) (ih_ha : SndE cf ns a x ∧ SndT cf ns a x) (ih_hb : SndE cf ns b y ∧ SndT cf ns b y) : SndE cf ns (.bin o a b) (.BinOp x op y p) ∧ SndT cf ns (.bin o a b) (.BinOp x op y p) :=
  ⟨fun c A env m mm W ae H s Q Ex G F X L S h => by
        subst ho
        refine wpAny_BinOp (ih_ha.1.bind G F X L S h fun r v W' h' tk' L' S' hv h => ?_)
        refine ih_hb.1.bind (s := { s with heap := h', toks := tk' }) G F X (L.mono L') S' h fun q u W'' h'' tk'' L'' S'' hu h => ?_
        refine binop_snd (hv.mono L'') hu (T.All.mono (fun z hz x tk hx => ?_) (T.all_bind.mp h))
        exact hz x W'' h'' tk (L'.trans L'') S'' hx,
   fun c A env m mm W ae H s Q Ex G F X L S h => h.elim⟩
theorem c_cmp {cf : CF} (ns : Kd) (o : Cm) (a : E) (b : E) (x : Expr) (y : Expr) (op : CmpOp) (p : Pos) (ho : op = cmOf o) (hm : behindInMarks op y = false) (ha : RepE ns a x) (hb : RepE ns b y) (ih_ha : SndE cf ns a x ∧ SndT cf ns a x) (ih_hb : SndE cf ns b y ∧ SndT cf ns b y) : SndE cf ns (.cmp o a b) (.Compare x [op] [y] p) ∧ SndT cf ns (.cmp o a b) (.Compare x [op] [y] p) :=
  ⟨fun c A env m mm W ae H s Q Ex G F X L S h => by
        subst ho
        refine wpAny_Compare1 (ih_ha.1.bind G F X L S h fun r v W' h' tk' L' S' hv h => ?_) hm
        refine ih_hb.1.bind (s := { s with heap := h', toks := tk' }) G F X (L.mono L') S' h fun q u W'' h'' tk'' L'' S'' hu h => ?_
        refine cmp_snd (hv.mono L'') hu (T.All.mono (fun z hz => ?_) (T.all_bind.mp h))
        exact hz _ W'' h'' tk'' (L'.trans L'') S'' (.bool _),
   fun c A env m mm W ae H s Q Ex G F X L S h => by
        subst ho
        refine wpAny_isTrue_Compare1 (ih_ha.1.bind G F X L S h fun r v W' h' tk' L' S' hv h => ?_) hm
        refine ih_hb.1.bind (s := { s with heap := h', toks := tk' }) G F X (L.mono L') S' h fun q u W'' h'' tk'' L'' S'' hu h => ?_
        refine cmp_snd (hv.mono L'') hu (T.All.mono (fun z hz => truthB ?_) (T.all_bind.mp h))
        exact hz W'' h'' tk'' (L'.trans L'') S''⟩
theorem c_isIn {cf : CF} (ns : Kd) (a : E) (b : E) (x : Expr) (y : Expr) (p : Pos) (hm : behindInMarks .In y = false) (ha : RepE ns a x) (hb : RepE ns b y) (ih_ha : SndE cf ns a x ∧ SndT cf ns a x) (ih_hb : SndE cf ns b y ∧ SndT cf ns b y) : SndE cf ns (.isIn a b) (.Compare x [.In] [y] p) ∧ SndT cf ns (.isIn a b) (.Compare x [.In] [y] p) :=
  ⟨fun c A env m mm W ae H s Q Ex G F X L S h => by
        refine wpAny_Compare1 (ih_ha.1.bind G F X L S h fun r v W' h' tk' L' S' hv h => ?_) hm
        refine ih_hb.1.bind (s := { s with heap := h', toks := tk' }) G F X (L.mono L') S' h fun q u W'' h'' tk'' L'' S'' hu h => ?_
        refine in_snd (s := { s with heap := h'', toks := tk'' }) S'' (hv.mono L'') hu (T.All.mono (fun z hz => ?_) (T.all_bind.mp h))
        exact hz _ W'' h'' tk'' (L'.trans L'') S'' (.bool _),
   fun c A env m mm W ae H s Q Ex G F X L S h => by
        refine wpAny_isTrue_Compare1 (ih_ha.1.bind G F X L S h fun r v W' h' tk' L' S' hv h => ?_) hm
        refine ih_hb.1.bind (s := { s with heap := h', toks := tk' }) G F X (L.mono L') S' h fun q u W'' h'' tk'' L'' S'' hu h => ?_
        refine in_snd (s := { s with heap := h'', toks := tk'' }) S'' (hv.mono L'') hu (T.All.mono (fun z hz => truthB ?_) (T.all_bind.mp h))
        exact hz W'' h'' tk'' (L'.trans L'') S''⟩
theorem c_notIn {cf : CF} (ns : Kd) (a : E) (b : E) (x : Expr) (y : Expr) (p : Pos) (hm : behindInMarks .NotIn y = false) (ha : RepE ns a x) (hb : RepE ns b y) (ih_ha : SndE cf ns a x ∧ SndT cf ns a x) (ih_hb : SndE cf ns b y ∧ SndT cf ns b y) : SndE cf ns (.notIn a b) (.Compare x [.NotIn] [y] p) ∧ SndT cf ns (.notIn a b) (.Compare x [.NotIn] [y] p) :=
  ⟨fun c A env m mm W ae H s Q Ex G F X L S h => by
        refine wpAny_Compare1 (ih_ha.1.bind G F X L S h fun r v W' h' tk' L' S' hv h => ?_) hm
        refine ih_hb.1.bind (s := { s with heap := h', toks := tk' }) G F X (L.mono L') S' h fun q u W'' h'' tk'' L'' S'' hu h => ?_
        refine notin_snd (s := { s with heap := h'', toks := tk'' }) S'' (hv.mono L'') hu (T.All.mono (fun z hz => ?_) (T.all_bind.mp h))
        exact hz _ W'' h'' tk'' (L'.trans L'') S'' (.bool _),
   fun c A env m mm W ae H s Q Ex G F X L S h => by
        refine wpAny_isTrue_Compare1 (ih_ha.1.bind G F X L S h fun r v W' h' tk' L' S' hv h => ?_) hm
        refine ih_hb.1.bind (s := { s with heap := h', toks := tk' }) G F X (L.mono L') S' h fun q u W'' h'' tk'' L'' S'' hu h => ?_
        refine notin_snd (s := { s with heap := h'', toks := tk'' }) S'' (hv.mono L'') hu (T.All.mono (fun z hz => truthB ?_) (T.all_bind.mp h))
        exact hz W'' h'' tk'' (L'.trans L'') S''⟩
theorem c_isNone {cf : CF} (ns : Kd) (a : E) (x : Expr) (k : Nat) (p : Pos) (q : Pos) (ha : RepE ns a x) (ih_ha : SndE cf ns a x ∧ SndT cf ns a x) : SndE cf ns (.isNone a) (.Compare x [.Is] [.Constant .none k q] p) ∧ SndT cf ns (.isNone a) (.Compare x [.Is] [.Constant .none k q] p) :=
  ⟨fun c A env m mm W ae H s Q Ex G F X L S h => by
        refine wpAny_Compare1 (ih_ha.1.bind G F X L S h fun r v W' h' tk' L' S' hv h => Constant_none (isNone_snd hv ?_)) rfl
        exact h _ W' h' tk' L' S' (.bool _),
   fun c A env m mm W ae H s Q Ex G F X L S h => by
        refine wpAny_isTrue_Compare1 (ih_ha.1.bind G F X L S h fun r v W' h' tk' L' S' hv h => Constant_none (isNone_snd hv (truthB ?_))) rfl
        exact h W' h' tk' L' S'⟩
theorem c_notNone {cf : CF} (ns : Kd) (a : E) (x : Expr) (k : Nat) (p : Pos) (q : Pos) (ha : RepE ns a x) (ih_ha : SndE cf ns a x ∧ SndT cf ns a x) : SndE cf ns (.notNone a) (.Compare x [.IsNot] [.Constant .none k q] p) ∧ SndT cf ns (.notNone a) (.Compare x [.IsNot] [.Constant .none k q] p) :=
  ⟨fun c A env m mm W ae H s Q Ex G F X L S h => by
        refine wpAny_Compare1 (ih_ha.1.bind G F X L S h fun r v W' h' tk' L' S' hv h => Constant_none (notNone_snd hv ?_)) rfl
        exact h _ W' h' tk' L' S' (.bool _),
   fun c A env m mm W ae H s Q Ex G F X L S h => by
        refine wpAny_isTrue_Compare1 (ih_ha.1.bind G F X L S h fun r v W' h' tk' L' S' hv h => Constant_none (notNone_snd hv (truthB ?_))) rfl
        exact h W' h' tk' L' S'⟩
theorem c_not {cf : CF} (ns : Kd) (a : E) (x : Expr) (p : Pos) (ha : RepE ns a x) (ih_ha : SndE cf ns a x ∧ SndT cf ns a x) : SndE cf ns (.not a) (.UnaryOp .Not x p) ∧ SndT cf ns (.not a) (.UnaryOp .Not x p) :=
  ⟨fun c A env m mm W ae H s Q Ex G F X L S h => by
        refine UnaryOp_ (ih_ha.1.bind G F X L S h fun r v W' h' tk' L' S' hv h => not_of (truth_snd hv (T.All.mono (fun b' hb' => ?_) (T.all_bind.mp h))))
        exact hb' _ W' h' tk' L' S' (.bool _),
   fun c A env m mm W ae H s Q Ex G F X L S h => by
        exact isTrue_not (ih_ha.2.bind G F X L S h fun r W' h' tk' L' S' h => h W' h' tk' L' S')⟩
theorem c_ife {cf : CF} (ns : Kd) (t : E) (a : E) (b : E) (z : Expr) (x : Expr) (y : Expr) (p : Pos) (ht : RepE ns t z) (ha : RepE ns a x) (hb : RepE ns b y) (ih_ht : SndE cf ns t z ∧ SndT cf ns t z) (ih_ha : SndE cf ns a x ∧ SndT cf ns a x) (ih_hb : SndE cf ns b y ∧ SndT cf ns b y) : SndE cf ns (.ife t a b) (.IfExp z x y p) ∧ SndT cf ns (.ife t a b) (.IfExp z x y p) :=
  ⟨fun c A env m mm W ae H s Q Ex G F X L S h => by
        refine IfExp_ (ih_ht.2.bind G F X L S h fun r W' h' tk' L' S' h => ?_)
        obtain ⟨b', H'⟩ := r
        cases b' with
        | true => exact ih_ha.1 c A env m mm W' ae H' { s with heap := h', toks := tk' } Q Ex G F X (L.mono L') S' (T.All.mono (fun z hz => hz.next L') ((br_all h).1 rfl))
        | false => exact ih_hb.1 c A env m mm W' ae H' { s with heap := h', toks := tk' } Q Ex G F X (L.mono L') S' (T.All.mono (fun z hz => hz.next L') ((br_all h).2 rfl)),
   fun c A env m mm W ae H s Q Ex G F X L S h => h.elim⟩
theorem c_attr {cf : CF} (ns : Kd) (o : E) (a : Nat) (x : Expr) (n : Str) (p : Pos) (hs : n = nm a) (he : ∀ env, eval (.Attribute x n p) env = (do
        let o ← eval x env
        standAt p.atName
        let r ← holding [o] (getAttr o n true)
        letTemporaryGo x o r
        pure r)) (ho : RepE ns o x) (ih_ho : SndE cf ns o x ∧ SndT cf ns o x) : SndE cf ns (.attr o a) (.Attribute x n p) ∧ SndT cf ns (.attr o a) (.Attribute x n p) :=
  ⟨fun c A env m mm W ae H s Q Ex G F X L S h => by
        subst hs
        refine Attribute_any_ (ih_ho.1.bind G F X L S h fun r v W' h' tk' L' S' hv h => ?_) (he env)
        obtain ⟨z, e, h⟩ := opt_all h
        exact getA_snd (s := { s with heap := h', toks := tk' }) S' G.kin G.cls hv e fun u hu => h u W' h' _ L' S' hu,
   fun c A env m mm W ae H s Q Ex G F X L S h => by
        subst hs
        refine isTrue_of rfl (Attribute_any_ (ih_ho.1.bind G F X L S h fun r v W' h' tk' L' S' hv h => ?_) (he env))
        obtain ⟨z, e, h⟩ := opt_all h
        exact getA_snd (s := { s with heap := h', toks := tk' }) S' G.kin G.cls hv e fun u hu => truth_snd hu (T.All.mono (fun b hb => hb W' h' _ L' S') (T.all_bind.mp h))⟩
theorem c_sub {cf : CF} (ns : Kd) (o : E) (i : E) (x : Expr) (y : Expr) (p : Pos) (hs : ∀ v u, subscripted y false v u = operate [v, u] (getItem v u)) (ho : RepE ns o x) (hi : RepE ns i y) (ih_ho : SndE cf ns o x ∧ SndT cf ns o x) (ih_hi : SndE cf ns i y ∧ SndT cf ns i y) : SndE cf ns (.sub o i) (.Subscript x y p) ∧ SndT cf ns (.sub o i) (.Subscript x y p) :=
  ⟨fun c A env m mm W ae H s Q Ex G F X L S h => by
        refine Subscript_ (ih_ho.1.bind G F X L S h fun r v W' h' tk' L' S' hv h => ?_)
        refine ih_hi.1.bind (s := { s with heap := h', toks := tk' }) G F X (L.mono L') S' h fun q u W'' h'' tk'' L'' S'' hu h => ?_
        refine sub_snd (s := { s with heap := h'', toks := tk'' }) S'' G.ok (hv.mono L'') hu (hs _ _) (T.All.mono (fun z hz x tk hx => ?_) (T.all_bind.mp h))
        exact hz x W'' h'' tk (L'.trans L'') S'' hx,
   fun c A env m mm W ae H s Q Ex G F X L S h => h.elim⟩
theorem c_call {cf : CF} (ns : Kd) (f : E) (as : Es) (n : Str) (es : List Expr) (p : Pos) (q : Pos) (hf : RepE ns f (.Name n q)) (ha : RepEs ns as es) (ih_hf : SndE cf ns f (.Name n q) ∧ SndT cf ns f (.Name n q)) (ih_ha : SndEs cf ns as es ∧ SndL cf ns as es) : SndE cf ns (.call f as) (.Call (.Name n q) es [] p) ∧ SndT cf ns (.call f as) (.Call (.Name n q) es [] p) :=
  ⟨fun c A env m mm W ae H s Q Ex G F X L S h => by
        refine Call_ (ih_hf.1.bind G F X L S h fun r v W' h' tk' L' S' hv h => ?_)
        exact call_snd (s := { s with heap := h', toks := tk' }) ih_ha.1 ha G F X (L.mono L') S' hv (T.All.mono (fun z hz => hz.next L') h),
   fun c A env m mm W ae H s Q Ex G F X L S h => by
        refine isTrue_of rfl (Call_ (ih_hf.1.bind G F X L S h fun r v W' h' tk' L' S' hv h => ?_))
        refine call_snd (s := { s with heap := h', toks := tk' }) ih_ha.1 ha G F X (L.mono L') S' hv (T.all_bind.mpr (T.All.mono (fun z hz => T.All.mono (fun z hz v W'' h'' tk'' L'' S'' hv => ?_) (T.all_bind.mp hz)) (T.all_bind.mp h)))
        exact truth_snd hv (T.All.mono (fun b hb => hb W'' h'' tk'' (L'.trans L'') S'') (T.all_bind.mp hz))⟩
theorem c_meth {cf : CF} (ns : Kd) (o : E) (k : Nat) (as : Es) (x : Expr) (n : Str) (es : List Expr) (p : Pos) (q : Pos) (pl : Env → Sem Bool) (hs : n = nm k) (he : ∀ env, eval (.Call (.Attribute x n q) es [] p) env = (do
        let ov ← eval x env
        standAt q.atName
        let (f, first) ← holding [ov] (getMethod ov n (pl env))
        callWith p f first (backTo p (starEach es env)) [])) (ho : RepE ns o x) (ha : RepEs ns as es) (ih_ho : SndE cf ns o x ∧ SndT cf ns o x) (ih_ha : SndEs cf ns as es ∧ SndL cf ns as es) : SndE cf ns (.meth o k as) (.Call (.Attribute x n q) es [] p) ∧ SndT cf ns (.meth o k as) (.Call (.Attribute x n q) es [] p) :=
  ⟨fun c A env m mm W ae H s Q Ex G F X L S h => by
        subst hs
        refine MethodCall_ (ih_ho.1.bind G F X L S h fun r v W' h' tk' L' S' hv h => ?_) (he env)
        exact meth_snd (s := { s with heap := h', toks := tk' }) ih_ha.1 ha G F X (L.mono L') S' hv (T.All.mono (fun z hz => hz.next L') h),
   fun c A env m mm W ae H s Q Ex G F X L S h => by
        subst hs
        refine isTrue_of rfl (MethodCall_ (ih_ho.1.bind G F X L S h fun r v W' h' tk' L' S' hv h => ?_) (he env))
        refine meth_snd (s := { s with heap := h', toks := tk' }) ih_ha.1 ha G F X (L.mono L') S' hv (T.All.mono (fun z hz v W'' h'' tk'' L'' S'' hv => ?_) (T.all_bind.mp h))
        exact truth_snd hv (T.All.mono (fun b hb => hb W'' h'' tk'' (L'.trans L'') S'') (T.all_bind.mp hz))⟩
theorem c_b1 {cf : CF} (ns : Kd) (f : B1) (a : E) (n : Str) (x : Expr) (p : Pos) (q : Pos) (hs : n = b1Name f) (hk : ns.lookup n = some .globalImplicit) (hx : ∀ env, starEach [x] env = [(false, eval x env)]) (ha : RepE ns a x) (ih_ha : SndE cf ns a x ∧ SndT cf ns a x) : SndE cf ns (.b1 f a) (.Call (.Name n q) [x] [] p) ∧ SndT cf ns (.b1 f a) (.Call (.Name n q) [x] [] p) :=
  ⟨fun c A env m mm W ae H s Q Ex G F X L S h => by
        subst hs
        obtain ⟨mg, mb, g1, g2, g3, g4, g5⟩ := G.top
        refine Call_ (name_builtin X S g1 g2 hk (g4 f).1 (g4 f).2 (b1_nd f) (b1_with (hx env) (ih_ha.1.bind G F X L S h fun r v W' h' tk' L' S' hv h => ?_)))
        exact call1_snd (s := { s with heap := h', toks := tk' }) F.handled G.ok S' hv (T.All.mono (fun z hz => hz.next L') h),
   fun c A env m mm W ae H s Q Ex G F X L S h => h.elim⟩
theorem c_max {cf : CF} (ns : Kd) (a : E) (b : E) (n : Str) (x : Expr) (y : Expr) (p : Pos) (q : Pos) (hs : n = Str.ofString "max") (hk : ns.lookup n = some .globalImplicit) (hx : ∀ env, starEach [x, y] env = [(false, eval x env), (false, eval y env)]) (ha : RepE ns a x) (hb : RepE ns b y) (ih_ha : SndE cf ns a x ∧ SndT cf ns a x) (ih_hb : SndE cf ns b y ∧ SndT cf ns b y) : SndE cf ns (.max a b) (.Call (.Name n q) [x, y] [] p) ∧ SndT cf ns (.max a b) (.Call (.Name n q) [x, y] [] p) :=
  ⟨fun c A env m mm W ae H s Q Ex G F X L S h => by
        subst hs
        obtain ⟨mg, mb, g1, g2, g3, g4, g5, g6⟩ := G.top
        refine Call_ (name_builtin X S g1 g2 hk g5.1 g5.2 (by decide) ?_)
        rw [hx env]
        refine callWith_builtin rfl (evalArgs_plain (spliced_cons (ih_ha.1.bind G F X L S h fun r v W' h' tk' L' S' hv h => spliced_cons ?_)))
        refine ih_hb.1.bind (s := { s with heap := h', toks := tk' }) G F X (L.mono L') S' h fun q u W'' h'' tk'' L'' S'' hu h => spliced_nil ?_
        split at h
        · rename_i i j e1 e2
          refine max_snd (s := { s with heap := h'', toks := tk'' }) F.handled S'' (by rw [← e1]; exact hv.mono L'') (by rw [← e2]; exact hu) ?_
          exact fun v W3 h3 tk3 L3 S3 hv => h v W3 h3 tk3 ((L'.trans L'').trans L3) S3 hv
        · exact h.elim,
   fun c A env m mm W ae H s Q Ex G F X L S h => h.elim⟩
theorem c_tup {cf : CF} (ns : Kd) (as : Es) (es : List Expr) (k : Nat) (p : Pos) (hz : es.length < 1000) (ha : RepEs ns as es) (ih_ha : SndEs cf ns as es ∧ SndL cf ns as es) : SndE cf ns (.tup as) (.Tuple es k p) ∧ SndT cf ns (.tup as) (.Tuple es k p) :=
  ⟨fun c A env m mm W ae H s Q Ex G F X L S h => by
        refine PyProof.Rows.Tuple_ (ih_ha.1 c A env m mm W ae H s _ Ex p G F X L S (T.All.mono (fun q hq vs W' h' tk' L' S' hvs hl => ?_) (T.all_bind.mp h)))
        refine newTup_snd (s := { s with heap := h', toks := tk' }) S' hvs (by omega) (PV.next L' hq),
   fun c A env m mm W ae H s Q Ex G F X L S h => h.elim⟩
theorem c_list {cf : CF} (ns : Kd) (as : Es) (es : List Expr) (p : Pos) (hz : es.length < 1000) (ha : RepEs ns as es) (ih_ha : SndEs cf ns as es ∧ SndL cf ns as es) : SndE cf ns (.list as) (.List es p) ∧ SndT cf ns (.list as) (.List es p) :=
  ⟨fun c A env m mm W ae H s Q Ex G F X L S h => by
        refine PyProof.Rows.List_ (ih_ha.1 c A env m mm W ae H s _ Ex p G F X L S (T.All.mono (fun q hq vs W' h' tk' L' S' hvs hl => ?_) (T.all_bind.mp h)))
        refine newList_snd (s := { s with heap := h', toks := tk' }) S' hvs (by omega) (PV.next L' hq),
   fun c A env m mm W ae H s Q Ex G F X L S h => h.elim⟩
theorem e_and {cf : CF} (ns : Kd) (p : Pos) (a b : E) (x y : Expr) (r : List Expr) (ha : RepE ns a x) (hb : RepB ns .And p b (y :: r)) (ih_ha : SndE cf ns a x ∧ SndT cf ns a x) (ih_hb : SndB cf ns .And p b (y :: r)) : SndB cf ns .And p (.and a b) (x :: y :: r) :=
      ⟨fun c A env m mm W ae H s Q Ex G F X L S h => by
        refine BoolOp_and (ih_ha.1.bind G F X L S h fun r' v W' h' tk' L' S' hv h => truth_snd hv (T.All.mono (fun b' hb' => ?_) (T.all_bind.mp h)))
        cases b' with
        | true => exact ((ih_hb).1 c A env m mm W' ae r'.2 { s with heap := h', toks := tk' } Q Ex G F X (L.mono L') S' (T.All.mono (fun z hz => hz.next L') ((br_all hb').1 rfl)))
        | false => exact ((br_all hb').2 rfl : PV c m W s Q r') v W' h' tk' L' S' hv,
       fun c A env m mm W ae H s Q Ex whole G F X L S h => by
        refine isTrue_and (ih_ha.2.bind G F X L S h fun r' W' h' tk' L' S' h => ?_)
        obtain ⟨b', H'⟩ := r'
        cases b' with
        | true => exact ((ih_hb).2 c A env m mm W' ae H' { s with heap := h', toks := tk' } Q Ex _ G F X (L.mono L') S' (T.All.mono (fun z hz => hz.next L') ((br_all h).1 rfl)))
        | false => exact ((br_all h).2 rfl : PT c m W s Q (false, H')) W' h' tk' L' S'⟩
theorem c_and {cf : CF} (ns : Kd) (a : E) (b : E) (x : Expr) (y : Expr) (r : List Expr) (p : Pos) (ha : RepE ns a x) (hb : RepB ns .And p b (y :: r)) (ih_ha : SndE cf ns a x ∧ SndT cf ns a x) (ih_hb : SndB cf ns .And p b (y :: r)) : SndE cf ns (.and a b) (.BoolOp .And (x :: y :: r) p) ∧ SndT cf ns (.and a b) (.BoolOp .And (x :: y :: r) p) :=
  ⟨(e_and ns p a b x y r ha hb ih_ha ih_hb).1, fun c A env m mm W ae H s Q Ex => (e_and ns p a b x y r ha hb ih_ha ih_hb).2 c A env m mm W ae H s Q Ex _⟩
theorem e_or {cf : CF} (ns : Kd) (p : Pos) (a b : E) (x y : Expr) (r : List Expr) (ha : RepE ns a x) (hb : RepB ns .Or p b (y :: r)) (ih_ha : SndE cf ns a x ∧ SndT cf ns a x) (ih_hb : SndB cf ns .Or p b (y :: r)) : SndB cf ns .Or p (.or a b) (x :: y :: r) :=
      ⟨fun c A env m mm W ae H s Q Ex G F X L S h => by
        refine BoolOp_or (ih_ha.1.bind G F X L S h fun r' v W' h' tk' L' S' hv h => truth_snd hv (T.All.mono (fun b' hb' => ?_) (T.all_bind.mp h)))
        cases b' with
        | false => exact ((ih_hb).1 c A env m mm W' ae r'.2 { s with heap := h', toks := tk' } Q Ex G F X (L.mono L') S' (T.All.mono (fun z hz => hz.next L') ((br_all hb').2 rfl)))
        | true => exact ((br_all hb').1 rfl : PV c m W s Q r') v W' h' tk' L' S' hv,
       fun c A env m mm W ae H s Q Ex whole G F X L S h => by
        refine isTrue_or (ih_ha.2.bind G F X L S h fun r' W' h' tk' L' S' h => ?_)
        obtain ⟨b', H'⟩ := r'
        cases b' with
        | false => exact ((ih_hb).2 c A env m mm W' ae H' { s with heap := h', toks := tk' } Q Ex _ G F X (L.mono L') S' (T.All.mono (fun z hz => hz.next L') ((br_all h).2 rfl)))
        | true => exact ((br_all h).1 rfl : PT c m W s Q (true, H')) W' h' tk' L' S'⟩
theorem c_or {cf : CF} (ns : Kd) (a : E) (b : E) (x : Expr) (y : Expr) (r : List Expr) (p : Pos) (ha : RepE ns a x) (hb : RepB ns .Or p b (y :: r)) (ih_ha : SndE cf ns a x ∧ SndT cf ns a x) (ih_hb : SndB cf ns .Or p b (y :: r)) : SndE cf ns (.or a b) (.BoolOp .Or (x :: y :: r) p) ∧ SndT cf ns (.or a b) (.BoolOp .Or (x :: y :: r) p) :=
  ⟨(e_or ns p a b x y r ha hb ih_ha ih_hb).1, fun c A env m mm W ae H s Q Ex => (e_or ns p a b x y r ha hb ih_ha ih_hb).2 c A env m mm W ae H s Q Ex _⟩
theorem c_upto {cf : CF} (ns : Kd) (o : E) (n : Nat) (k : Nat) (x : Expr) (p : Pos) (q : Pos) (r : Pos) (ho : RepE ns o x) (ih_ho : SndE cf ns o x ∧ SndT cf ns o x) : SndE cf ns (.upto o n) (.Subscript x (.Slice .none (some (.Constant (.int n) k q)) .none r) p) ∧ SndT cf ns (.upto o n) (.Subscript x (.Slice .none (some (.Constant (.int n) k q)) .none r) p) :=
  ⟨upto_snd ih_ho.1, fun c A env m mm W ae H s Q Ex G F X L S h => h.elim⟩
theorem c_dict0 {cf : CF} (ns : Kd) (p : Pos)  : SndE cf ns (.dict [] .nil) (.Dict [] [] p) ∧ SndT cf ns (.dict [] .nil) (.Dict [] [] p) :=
  ⟨dict_snd .nil (.dict0 ns p), fun c A env m mm W ae H s Q Ex G F X L S h => h.elim⟩
theorem c_dict {cf : CF} (ns : Kd) (ks : List Nat) (as : Es) (keys : List (Option Expr)) (es : List Expr) (p : Pos) (hn : ks.Nodup) (hl : keys.length = es.length) (h0 : keys ≠ []) (hz : keys.length ≤ 15) (hs : KeysAre ks keys) (ha : RepEs ns as es) (ih_ha : SndEs cf ns as es ∧ SndL cf ns as es) : SndE cf ns (.dict ks as) (.Dict keys es p) ∧ SndT cf ns (.dict ks as) (.Dict keys es p) :=
  ⟨dict_snd ih_ha.2 (.dict ns ks as keys es p hn hl h0 hz hs ha), fun c A env m mm W ae H s Q Ex G F X L S h => h.elim⟩
theorem c_comp {cf : CF} (ns : Kd) (elt : E) (xs : List Nat) (it : E) (sc : Scope) (x : Expr) (y : Expr) (tg : Expr) (p : Pos) (isT : Bool) (hsc : scOk ns xs sc = true) (ht : RepTg xs isT tg) (hfs : ∀ env v, foldedSetIterable y env v = pure v) (he : RepE (relN ns sc.names) elt x) (hi : RepE ns it y) (ih_he : SndE cf (relN ns sc.names) elt x ∧ SndT cf (relN ns sc.names) elt x) (ih_hi : SndE cf ns it y ∧ SndT cf ns it y) : SndE cf ns (.comp elt xs isT it .none .none) (.ListComp x [⟨tg, y, [], 0⟩] sc p) ∧ SndT cf ns (.comp elt xs isT it .none .none) (.ListComp x [⟨tg, y, [], 0⟩] sc p) :=
  ⟨by
    cases ht with
    | one x s p hx hs => exact comp1_snd hsc hx hs hfs ih_he.1 ih_hi.1
    | tup xs es k p hn hs => exact compN_snd hsc hs hn hfs ih_he.1 ih_hi.1, fun c A env m mm W ae H s Q Ex G F X L S h => h.elim⟩
theorem c_compIf {cf : CF} (ns : Kd) (elt : E) (n : Nat) (k : Nat) (it : E) (c : E) (sc : Scope) (x : Expr) (y : Expr) (z : Expr) (tg : Expr) (p : Pos) (hsc : scOk ns [n] sc = true) (ht : RepTg [n] false tg) (hfs : ∀ env v, foldedSetIterable y env v = pure v) (he : RepE (relN ns sc.names) elt x) (hc : RepE (relN ns sc.names) c z) (hi : RepE ns it y) (ih_he : SndE cf (relN ns sc.names) elt x ∧ SndT cf (relN ns sc.names) elt x) (ih_hc : SndE cf (relN ns sc.names) c z ∧ SndT cf (relN ns sc.names) c z) (ih_hi : SndE cf ns it y ∧ SndT cf ns it y) : SndE cf ns (.comp elt [n] false it (some k) c) (.ListComp x [⟨tg, y, [z], 0⟩] sc p) ∧ SndT cf ns (.comp elt [n] false it (some k) c) (.ListComp x [⟨tg, y, [z], 0⟩] sc p) :=
  ⟨by
    cases ht with
    | one x s p hx hs => exact compIf_snd hsc hx hs hfs ih_he.1 ih_hc.2 ih_hi.1, fun c A env m mm W ae H s Q Ex G F X L S h => h.elim⟩
theorem c_compR {cf : CF} (ns : Kd) (elt : E) (n : Nat) (it : E) (sc : Scope) (x : Expr) (y : Expr) (tg : Expr) (s : Str) (p : Pos) (q : Pos) (r : Pos) (hsc : scOk ns [n] sc = true) (ht : RepTg [n] false tg) (hs : s = Str.ofString "range") (hk : ns.lookup s = some .globalImplicit) (hx : ∀ env, starEach [y] env = [(false, eval y env)]) (hfs : ∀ env v, foldedSetIterable (.Call (.Name s q) [y] [] r) env v = pure v) (he : RepE (relN ns sc.names) elt x) (hi : RepE ns it y) (ih_he : SndE cf (relN ns sc.names) elt x ∧ SndT cf (relN ns sc.names) elt x) (ih_hi : SndE cf ns it y ∧ SndT cf ns it y) : SndE cf ns (.compR elt n it) (.ListComp x [⟨tg, .Call (.Name s q) [y] [] r, [], 0⟩] sc p) ∧ SndT cf ns (.compR elt n it) (.ListComp x [⟨tg, .Call (.Name s q) [y] [] r, [], 0⟩] sc p) :=
  ⟨by
    cases ht with
    | one x s p hx' hs' => exact compR_snd hsc hx' hs' hs hk hx hfs ih_he.1 ih_hi.1, fun c A env m mm W ae H s Q Ex G F X L S h => h.elim⟩
theorem c_junk {cf : CF} (ns : Kd) (e : Expr)  : SndE cf ns .junk e ∧ SndT cf ns .junk e :=
  ⟨fun c A env m mm W ae H s Q Ex G F X L S h => h.elim, fun c A env m mm W ae H s Q Ex G F X L S h => h.elim⟩
theorem c_nil {cf : CF} (ns : Kd) : SndEs cf ns .nil [] ∧ SndL cf ns .nil [] :=
  ⟨fun c A env m mm W ae H s Q Ex p G F X L S h => spliced_nil (h [] W s.heap s.toks (Wd.Le.refl W) S .nil rfl), .nil⟩
theorem c_cons {cf : CF} (ns : Kd) (a : E) (as : Es) (x : Expr) (es : List Expr) (he : ∀ env, starEach (x :: es) env = (false, eval x env) :: starEach es env) (ha : RepE ns a x) (hs : RepEs ns as es)
    (ih_ha : SndE cf ns a x ∧ SndT cf ns a x) (ih_hs : SndEs cf ns as es ∧ SndL cf ns as es) : SndEs cf ns (.cons a as) (x :: es) ∧ SndL cf ns (.cons a as) (x :: es) :=
  ⟨fun c A env m mm W ae H s Q Ex p G F X L S h => by
      rw [he env]
      show wpAny _ _ (spliced ((false, eval x env) :: backTo p (starEach es env))) _ _ _
      refine spliced_cons (ih_ha.1.bind G F X L S h fun r v W' h' tk' L' S' hv h => ?_)
      refine ih_hs.1 c A env m mm W' ae r.2 { s with heap := h', toks := tk' } _ Ex p G F X (L.mono L') S' ?_
      refine T.All.mono (fun q hq vs W'' h'' tk'' L'' S'' hvs hl => ?_) (T.all_bind.mp h)
      exact hq (v :: vs) W'' h'' tk'' (L'.trans L'') S'' (.cons _ _ _ _ (hv.mono L'') hvs) (by simp [hl]),
   .cons a as x es ih_ha.1 ih_hs.2⟩
theorem sndR {cf : CF} {ns : Kd} {a : E} {e : Expr} (h : RepE ns a e) : SndE cf ns a e ∧ SndT cf ns a e :=
  RepE.rec (motive_1 := fun ns a e _ => SndE cf ns a e ∧ SndT cf ns a e) (motive_2 := fun ns op p a l _ => SndB cf ns op p a l) (motive_3 := fun ns as es _ => SndEs cf ns as es ∧ SndL cf ns as es)
    c_loc c_cel c_glob c_int c_neg c_str c_bool c_none c_bin c_cmp c_isIn c_notIn c_isNone c_notNone c_and c_or c_not c_ife c_attr c_sub c_upto c_call c_meth c_b1 c_max c_tup c_list c_dict0 c_dict c_comp c_compIf c_compR c_junk
    (fun ns op p a x ha ih => sndB_one ih.1 ih.2) (fun ns p a b x y r ha hb ih1 ih2 => e_and ns p a b x y r ha hb ih1 ih2) (fun ns p a b x y r ha hb ih1 ih2 => e_or ns p a b x y r ha hb ih1 ih2)
    c_nil c_cons h
end Mine
end

section
set_option linter.all false
set_option bootstrap.genMatcherCode false
set_option maxRecDepth 10000
set_option maxHeartbeats 1000000
namespace Mine
open PySem PySem.W PySem.Calls PyProof.Rows
structure EnvF (c : Cx) (env : Env) (ns : Kd) : Prop where
  kind : env.scope.kind = .function
  names : env.scope.names = ns
  glob : env.globals = mainGlobals
  bi : env.builtins = builtinsNs
  cells : ∀ y, ns.lookup y = some .cell → ∃ a, env.cells.lookup y = some a
  locals : env.locals = c.L
theorem EnvF.ok {c : Cx} {env : Env} {ns : Kd} (X : EnvF c env ns) (m : Str → Option Value) : EnvOK c m env ns m := ⟨X.kind, X.names, X.glob, X.bi, X.cells, .inl ⟨X.locals, rfl⟩⟩
theorem EnvF.xs {c : Cx} {env : Env} {ns : Kd} (X : EnvF c env ns) (l : Led) : EnvF { c with xs := l } env ns := ⟨X.kind, X.names, X.glob, X.bi, X.cells, X.locals⟩
theorem EnvF.plain {c : Cx} {env : Env} {ns : Kd} (X : EnvF c env ns) : (env.scope.kind == .class || (env.scope.kind == .module && env.locals != env.globals)) = false := by rw [X.kind]; rfl
theorem EnvF.quiet {c : Cx} {env : Env} {ns : Kd} (X : EnvF c env ns) : interactive env = false := by unfold interactive; rw [X.kind]; rfl
inductive RepTgt : Kd → Tg → Expr → Prop where
  | loc (ns : Kd) (x : Nat) (s : Str) (p : Pos) (hx : x < nN) (hs : s = nm x) (hk : ns.lookup s = some .local) : RepTgt ns (.loc x) (.Name s p)
  | cel (ns : Kd) (x : Nat) (s : Str) (p : Pos) (hx : x < nN) (hs : s = nm x) (hk : ns.lookup s = some .cell) : RepTgt ns (.cel x) (.Name s p)
  | attr (ns : Kd) (o : E) (a : Nat) (x : Expr) (s : Str) (p : Pos) (hs : s = nm a) (ho : RepE ns o x) : RepTgt ns (.attr o a) (.Attribute x s p)
  | sub (ns : Kd) (o i : E) (x y : Expr) (p : Pos) (ho : RepE ns o x) (hi : RepE ns i y) : RepTgt ns (.sub o i) (.Subscript x y p)
inductive RepTgs : Kd → List Tg → List Expr → Prop where
  | nil (ns : Kd) : RepTgs ns [] []
  | cons (ns : Kd) (t : Tg) (ts : List Tg) (x : Expr) (es : List Expr) (he : ∀ env, assignEach (x :: es) env = (false, assign x env) :: assignEach es env) (ht : RepTgt ns t x) (h : RepTgs ns ts es) : RepTgs ns (t :: ts) (x :: es)
noncomputable def envK (ns : List (Str × NameKind)) : Env := { scope := ⟨.function, ns, false, false, []⟩, locals := 0, globals := 0, cells := [] }
theorem sw_env {t : List Expr} {v : Expr} : ∀ {env : Env} {ns}, env.scope.kind = .function → env.scope.names = ns → swappedStores t v env = swappedStores t v (envK ns)
  | ⟨⟨_, _, _, _, _⟩, _, _, _, _, _, _, _, _⟩, _, rfl, rfl => rfl
theorem sw_one {v : Expr} {t : Option Expr} {n : Nat} : ∀ {env : Env} {ns}, env.scope.kind = .function → env.scope.names = ns → swapsWith v t n env = swapsWith v t n (envK ns)
  | ⟨⟨_, _, _, _, _⟩, _, _, _, _, _, _, _, _⟩, _, rfl, rfl => rfl
noncomputable def isC : E → Bool
  | .comp _ _ b _ _ _ => !b
  | .compR _ _ _ => true
  | _ => false
mutual
inductive RepS : Kd → S → Stmt → Prop where
  | assign (ns : Kd) (t : Tg) (e : E) (tg v : Expr) (p : Pos) (ht : RepTgt ns t tg) (hs : ∀ env, swapsWithSole [tg] v p.line env = pure false) (hw : ∀ env, swappedStores [tg] v env = pure none) (he : RepE ns e v) (ha : ∀ env, (assignEach [tg] env).map (·.2) = [assign tg env]) : RepS ns (.assign t e) (.Assign [tg] v p)
  | assignComp (ns : Kd) (y : Nat) (e : E) (s : Str) (v : Expr) (p q : Pos) (hy : y < nN) (hs : s = nm y) (hk : ns.lookup s = some .local) (hsw : swapsWith v (some (.Name s q)) p.line (envK ns) = pure true) (he : RepE ns e v)
      (hc : isC e = true) : RepS ns (.assign (.loc y) e) (.Assign [.Name s q] v p)
  | assignTup (ns : Kd) (ts : List Tg) (e : E) (es : List Expr) (k : Nat) (v : Expr) (p q : Pos) (hs : ∀ env, swapsWithSole [.Tuple es k q] v p.line env = pure false) (hw : swappedStores [.Tuple es k q] v (envK ns) = pure none) (ht : RepTgs ns ts es) (he : RepE ns e v) : RepS ns (.assign (.tup false ts) e) (.Assign [.Tuple es k q] v p)
  | assignSw (ns : Kd) (xs : List Nat) (ts : List Tg) (e : E) (es : List Expr) (k : Nat) (v : Expr) (p q : Pos) (hts : ts = xs.map .loc) (hs : ∀ env, swapsWithSole [.Tuple es k q] v p.line env = pure false) (hw : swappedStores [.Tuple es k q] v (envK ns) = pure (some (xs.map nm)))
      (hx : ∀ x ∈ xs, x < nN ∧ ns.lookup (nm x) = some .local) (he : RepE ns e v) : RepS ns (.assign (.tup true ts) e) (.Assign [.Tuple es k q] v p)
  | augLoc (ns : Kd) (x : Nat) (e : E) (s : Str) (v : Expr) (p q : Pos) (hx : x < nN) (hs : s = nm x) (hk : ns.lookup s = some .local) (he : RepE ns e v) : RepS ns (.augLoc x .add e) (.AugAssign (.Name s q) .Add v p)
  | augAttr (ns : Kd) (b : E) (a : Nat) (e : E) (x v : Expr) (s : Str) (p q : Pos) (hs : s = nm a) (hb : RepE ns b x) (he : RepE ns e v) : RepS ns (.augAttr b a .add e) (.AugAssign (.Attribute x s q) .Add v p)
  | expr (ns : Kd) (e : E) (v : Expr) (p : Pos) (hs : ∀ env, swapsWith v none p.line env = pure false) (he : RepE ns e v) : RepS ns (.expr e) (.Expr v p)
  | ret (ns : Kd) (e : E) (v : Expr) (p : Pos) (he : RepE ns e v) : RepS ns (.ret e) (.Return (some v) p)
  | ife (ns : Kd) (t : E) (a b : Ss) (z : Expr) (l r : List Stmt) (p : Pos) (ht : RepE ns t z) (ha : RepSs ns a l) (hb : RepSs ns b r) : RepS ns (.ife t a b) (.If z l r p)
  | forL (ns : Kd) (xs : List Nat) (isT : Bool) (it : E) (body : Ss) (tg y : Expr) (l : List Stmt) (p : Pos) (hx : ∀ x ∈ xs, x < nN ∧ ns.lookup (nm x) = some .local) (ht : RepTg xs isT tg) (hfs : ∀ env v, foldedSetIterable y env v = pure v) (hi : RepE ns it y) (hb : RepSs ns body l) : RepS ns (.forL xs isT it body) (.For tg y l [] p)
  | forR (ns : Kd) (x : Nat) (n : E) (body : Ss) (s s' : Str) (y : Expr) (l : List Stmt) (p q r u : Pos) (hx : x < nN ∧ ns.lookup (nm x) = some .local) (hs : s = nm x) (hs' : s' = Str.ofString "range") (hk : ns.lookup s' = some .globalImplicit) (hst : ∀ env, starEach [y] env = [(false, eval y env)])
      (hfs : ∀ env v, foldedSetIterable (.Call (.Name s' q) [y] [] r) env v = pure v) (hn : RepE ns n y) (hb : RepSs ns body l) : RepS ns (.forR x n body) (.For (.Name s u) (.Call (.Name s' q) [y] [] r) l [] p)
  | junk (ns : Kd) (s : Stmt) : RepS ns .junk s
inductive RepSs : Kd → Ss → List Stmt → Prop where
  | nil (ns : Kd) : RepSs ns .nil []
  | cons (ns : Kd) (s : S) (ss : Ss) (x : Stmt) (l : List Stmt) (h : RepS ns s x) (hs : RepSs ns ss l) : RepSs ns (.cons s ss) (x :: l)
end
section
variable {cf : CF} {c : Cx} {A : Around} {env : Env} {m : Str → Option Value} {ns : Kd} {ae : AEnv} {W : Wd} {H : HS} {s : Shared} {Ex : Value → Shared → Prop}
noncomputable abbrev PA (c : Cx) (env : Env) (ns : Kd) (W : Wd) (s : Shared) (Q : Unit → Shared → Prop) (r : AEnv × HS) : Prop :=
  ∀ m' W' h' tk', W.Le W' → St c m' W' r.2 h' → LocOK c.b W' env ns m' r.1 → Q () { s with heap := h', toks := tk' }
theorem St.store (S : St c m W H s.heap) {h' : Heap} {m' : Str → Option Value} (hn : h'.Ns c.L m') (hs : Heap.SameBut c.L s.heap h') : St c m' W H h' := by
  obtain ⟨F, led, N, B⟩ := S
  exact ⟨F.set hn hs, led, fun p hp => ⟨(hs.2 p.1 (N p hp).2.1).trans (N p hp).1, (N p hp).2⟩, B⟩
theorem asgP_snd (CO : ∀ e x, RepE ns e x → SndE cf ns e x) {t : Tg} {tg : Expr} {v : AV} {w : Value} {Q : Unit → Shared → Prop} (ht : RepTgt ns t tg) (G : Glb c) (F : Frm cf c A) (X : EnvF c env ns) (L : LocOK c.b W env ns m ae) (S : St c m W H s.heap) (hv : VR c.b W v w)
    (h : (asgP std cf t v ae H).All (PA c env ns W s Q)) : wpAny (model c.prog c.w) A (assign tg env w) Q Ex s := by
  cases ht with
  | loc x n p hx hn hk =>
    subst hn
    refine wpAny_assign_Name (wpAny_storeName_local (by unfold Env.kindOf; rw [X.names]; exact hk) ((X.ok m).ns S) (fun h' hn' hs' => ?_) X.plain)
    rw [X.locals] at hn' hs'
    exact h _ W h' _ (Wd.Le.refl W) (S.store hn' hs') (loc_put L hx hk hv)
  | cel x n p hx hn hk =>
    subst hn
    simp only [asgP] at h
    split at h
    · rename_i i e
      split at h
      · rename_i o hi
        obtain ⟨i', a, e1, e2, e3⟩ := L.cel x _ e hk
        cases e1
        obtain ⟨a', ob, rest, ha, hR, N, off, back⟩ := S.split hi (by simp)
        rw [e2] at ha; cases ha
        have hm := N (a, ob) List.mem_cons_self
        have hcell : ∃ v₀, s.heap.IsCell a v₀ := by
          cases hR with
          | cell0 _ _ hd => exact ⟨_, ob, hm.1, hd⟩
          | cell _ _ _ x hd hv => exact ⟨_, ob, hm.1, hd⟩
        obtain ⟨v₀, hcell⟩ := hcell
        refine wpAny_assign_Name (wpAny_storeName_cell X.kind (by unfold Env.kindOf; rw [X.names]; exact hk) e3 hcell fun h' hc' hs' => ?_)
        obtain ⟨ob', ho', hd'⟩ := hc'
        have N' : News c.h₀ c.L s.heap ([] ++ (a, ob) :: rest) := N
        exact h m W h' s.toks (Wd.Le.refl W) (back (.cell (some v)) ob' h' (fun _ => .cell _ _ _ w hd' hv) (S.fr.change hs' hm.2.1 hm.2.2) (News.setIn N' (fun _ h => nomatch h) off hs' ho')) L
      · exact h.elim
    · exact h.elim
  | attr o a x n p hn ho =>
    subst hn
    rw [assign_Attribute]
    refine wpAny_bind (wpAny_holding ((CO o x ho).bind G F (X.ok m) L S h fun r ov W' h' tk' L' S' hov h => wpAny_bind (wpAny_standAt (wpAny_bind (wpAny_holding ?_)))))
    obtain ⟨H', e, h⟩ := opt_all h
    exact setA_snd (s := { s with heap := h', toks := tk' }) S' G.kin G.cls hov (hv.mono L') e fun W'' h'' tk'' L'' S'' => wpAny_release (h m W'' h'' tk'' (L'.trans L'') S'' (L.mono (L'.trans L'')))
  | sub o i x y p ho hi =>
    rw [assign_Subscript]
    refine wpAny_bind (wpAny_holding ((CO o x ho).bind G F (X.ok m) L S h fun r ov W' h' tk' L' S' hov h => wpAny_bind (wpAny_holding ?_)))
    refine (CO i y hi).bind (s := { s with heap := h', toks := tk' }) G F (X.ok m) (L.mono L') S' h fun q iv W'' h'' tk'' L'' S'' hiv h => wpAny_bind (wpAny_standAt (wpAny_bind (wpAny_holding ?_)))
    refine setS_snd (s := { s with heap := h'', toks := tk'' }) S'' (hov.mono L'') hiv (hv.mono (L'.trans L'')) (T.All.mono (fun H' hH W3 h3 tk3 L3 S3 => wpAny_release ?_) (T.all_bind.mp h))
    exact hH m W3 h3 tk3 ((L'.trans L'').trans L3) S3 (L.mono ((L'.trans L'').trans L3))
theorem asgL_snd (CO : ∀ e x, RepE ns e x → SndE cf ns e x) (G : Glb c) (F : Frm cf c A) (X : EnvF c env ns) : ∀ {ts : List Tg} {es : List Expr} {vs : List AV} {ws : List Value} {m : Str → Option Value} {W : Wd} {ae : AEnv} {H : HS} {s : Shared} {Q : Unit → Shared → Prop}, RepTgs ns ts es → LocOK c.b W env ns m ae → St c m W H s.heap → VRs c.b W vs ws →
    (asgL std cf ts vs ae H).All (PA c env ns W s Q) → wpAny (model c.prog c.w) A (assignInOrder ((assignEach es env).map (·.2)) ws) Q Ex s
  | _, _, _, _, m, W, ae, H, s, Q, .nil _, L, S, .nil, h => assignInOrder_nil (h m W s.heap s.toks (Wd.Le.refl W) S L)
  | _, _, _, _, m, W, ae, H, s, Q, .nil _, L, S, .cons .., h => h.elim
  | _, _, _, _, m, W, ae, H, s, Q, .cons .., L, S, .nil, h => h.elim
  | _, _, _, _, m, W, ae, H, s, Q, .cons _ t ts x es he ht hts, L, S, .cons v w vs ws hv hvs, h => by
    rw [he env]
    refine assignInOrder_cons (asgP_snd CO ht G F X L S hv (T.All.mono (fun r hr m' W' h' tk' L' S' hl => ?_) (T.all_bind.mp h)))
    refine asgL_snd CO G F X (s := { s with heap := h', toks := tk' }) hts hl S' (hvs.mono L') (T.All.mono (fun q hq m'' W'' h'' tk'' L'' S'' hl' => ?_) hr)
    exact hq m'' W'' h'' tk'' (L'.trans L'') S'' hl'
end
end Mine
end

section
set_option linter.all false
set_option bootstrap.genMatcherCode false
set_option maxRecDepth 10000
set_option maxHeartbeats 1000000
namespace Mine
open PySem PySem.W PySem.Calls PyProof.Rows
noncomputable def FlR (b : Heap) (W : Wd) : Fl → Flow → Prop
  | .next, f => f = .next
  | .ret u, f => ∃ v, f = .ret v ∧ VR b W u v
noncomputable abbrev PF (c : Cx) (env : Env) (ns : Kd) (W : Wd) (s : Shared) (Q : Flow → Shared → Prop) (r : Fl × AEnv × HS) : Prop :=
  ∀ f m' W' h' tk', W.Le W' → St c m' W' r.2.2 h' → LocOK c.b W' env ns m' r.2.1 → FlR c.b W' r.1 f → Q f { s with heap := h', toks := tk' }
theorem PF.next {c : Cx} {env : Env} {ns : Kd} {W W' : Wd} {s : Shared} {h' : Heap} {tk' : Nat} {Q : Flow → Shared → Prop} {r : Fl × AEnv × HS} (L : W.Le W') (h : PF c env ns W s Q r) : PF c env ns W' { s with heap := h', toks := tk' } Q r :=
  fun f m' W'' h'' tk'' L' S hl hf => h f m' W'' h'' tk'' (L.trans L') S hl hf
noncomputable def SndS (cf : CF) (ns : Kd) (st : S) (x : Stmt) : Prop := ∀ (c : Cx) (A : Around) (env : Env) (m : Str → Option Value) (W : Wd) (ae : AEnv) (H : HS) (s : Shared) (Q : Flow → Shared → Prop) (E : Value → Shared → Prop),
  Glb c → Frm cf c A → EnvF c env ns → LocOK c.b W env ns m ae → St c m W H s.heap → (execS std cf st ae H).All (PF c env ns W s Q) → wpAny (model c.prog c.w) A (exec x env) Q E s
noncomputable def SndSs (cf : CF) (ns : Kd) (st : Ss) (x : List Stmt) : Prop := ∀ (c : Cx) (A : Around) (env : Env) (m : Str → Option Value) (W : Wd) (ae : AEnv) (H : HS) (s : Shared) (Q : Flow → Shared → Prop) (E : Value → Shared → Prop),
  Glb c → Frm cf c A → EnvF c env ns → LocOK c.b W env ns m ae → St c m W H s.heap → (execB std cf st ae H).All (PF c env ns W s Q) → wpAny (model c.prog c.w) A (execs x env) Q E s
section
variable {cf : CF} {c : Cx} {A : Around} {env : Env} {m : Str → Option Value} {ns : Kd} {ae : AEnv} {W : Wd} {H : HS} {s : Shared} {Ex : Value → Shared → Prop}
theorem tgt_bind {xs : List Nat} {isT : Bool} {tg : Expr} {u : AV} {v : Value} {ae' : AEnv} {Q : Unit → Shared → Prop} (ht : RepTg xs isT tg) (hx : ∀ x ∈ xs, x < nN ∧ ns.lookup (nm x) = some .local) (F : Frm cf c A) (X : EnvF c env ns) (L : LocOK c.b W env ns m ae) (S : St c m W H s.heap) (hv : VR c.b W u v)
    (hb : bindXs xs isT u ae = some ae') (h : ∀ m' h' tk, St c m' W H h' → LocOK c.b W env ns m' ae' → Q () { s with heap := h', toks := tk }) : wpAny (model c.prog c.w) A (assign tg env v) Q Ex s := by
  cases ht with
  | one x n p hx' hn =>
    subst hn
    have e : ae' = put x u ae := by cases hb; rfl
    subst e
    refine wpAny_assign_Name (wpAny_storeName_local (by unfold Env.kindOf; rw [X.names]; exact (hx x List.mem_cons_self).2) ((X.ok m).ns S) (fun h' hn' hs' => ?_) X.plain)
    rw [X.locals] at hn' hs'
    exact h _ h' _ (S.store hn' hs') (loc_put L hx' (hx x List.mem_cons_self).2 hv)
  | tup xs es k p hn hs =>
    have hb' : ∃ us, u = .tup us ∧ us.length = xs.length ∧ ae' = (xs.zip us).foldl (fun e p => put p.1 p.2 e) ae := by
      cases u with
      | tup us =>
        have h' : (if us.length = xs.length then some ((xs.zip us).foldl (fun e p => put p.1 p.2 e) ae) else none) = some ae' := hb
        split at h'
        · rename_i e
          cases h'
          exact ⟨us, rfl, e, rfl⟩
        · cases h'
      | _ => nomatch (hb : (none : Option AEnv) = some ae')
    obtain ⟨us, rfl, hul, rfl⟩ := hb'
    cases hv with
    | tup _ wus ta tn hmt hus =>
      have ht := S.isTup hmt
      obtain ⟨ps, hps, heach⟩ := hs.each env
      have hulen := hus.length
      refine assign_Tuple_tuple F.handled ht (by rw [heach]; simp; omega) (by rw [heach]; simp) fun h₅ hex => ?_
      have he' : ∀ b o, s.heap.get? b = some o → h₅.get? b = some o := fun b o e => hex b o (Nat.ne_of_lt (Heap.lt_size e)) e
      have S5 := S.keeps he'
      rw [heach, List.map_map]
      refine names_assign (env := env) X.plain xs ps wus m { s with heap := h₅ } _ hps (by omega) (fun x hx' => by unfold Env.kindOf; rw [X.names]; exact (hx x hx').2) ((X.ok m).ns S5) fun h₃ tk₃ hn₃ hs₃ => ?_
      rw [X.locals] at hn₃ hs₃
      exact h _ h₃ tk₃ (St.store (s := { s with heap := h₅ }) S5 hn₃ hs₃) (loc_binds L hul hus hx)
inductive LI (cf : CF) (c : Cx) (env : Env) (ns : Kd) (W : Wd) (s : Shared) (body : Ss) (xs : List Nat) (isT : Bool) (I : Addr) (vs : List AV) (St' : Nat → Heap → Prop) (PE : Fl × AEnv × HS → Prop) (k : Nat) (s' : Shared) : Prop where
  | mk (h' : Heap) (tk i : Nat) (m' : Str → Option Value) (W' : Wd) (ae' : AEnv) (H' : HS) (news : Led) (e1 : s' = { s with heap := h', toks := tk }) (hi : i ≤ vs.length) (e2 : k = vs.length + 1 - i) (st : St' i h') (F : Fr c.h₀ c.L h' m') (N : News c.h₀ c.L h' news)
      (off : ∀ p ∈ news, p.1 ≠ I) (L : W.Le W') (B : Bears c W' H' news) (Lc : LocOK c.b W' env ns m' ae') (hall : (forS (fun e h => execB std cf body e h) xs isT (vs.drop i) ae' H').All PE) : LI cf c env ns W s body xs isT I vs St' PE k s'
theorem loop_snd {body : Ss} {l : List Stmt} {xs : List Nat} {isT : Bool} {tg : Expr} {I : Addr} {fp : List Addr} {vs : List AV} {P : Nat → Value → Prop} {St' : Nat → Heap → Prop} {S' : Led → Prop} {R : Result → Shared → Prop} {PE : Fl × AEnv × HS → Prop} {led : Led}
    (hb : SndSs cf ns body l) (ht : RepTg xs isT tg) (hx : ∀ x ∈ xs, x < nN ∧ ns.lookup (nm x) = some .local) (G : Glb c) (F : Frm cf c A) (X : EnvF c env ns)
    (Wk : Walks c.prog c.w A I fp [I] vs.length P St') (hIo : ∀ i h, St' i h → ∃ o, h.get? I = some o)
    (hSt : ∀ i h h' o nw, St' i h → h.get? I = some o → h'.get? I = some o → (∀ b o, c.h₀.get? b = some o → h'.get? b = some o) → News c.h₀ c.L h' nw → S' nw → St' i h') (hS : ∀ nw, (∀ p ∈ c.xs, p ∈ nw) → S' nw) (hP : ∀ i v u, P i v → vs[i]? = some u → VR c.b W u v)
    (hLI : isT = true → ∀ i h, St' i h → ∃ a j, h.IsListIter I a j) (hIL : I ≠ c.L) (hI₀ : c.h₀.get? I = none)
    (L : LocOK c.b W env ns m ae) (F0 : Fr c.h₀ c.L s.heap m) (N : News c.h₀ c.L s.heap led) (off : ∀ p ∈ led, p.1 ≠ I) (B : Bears c W H led) (st : St' 0 s.heap)
    (h : (forS (fun e h => execB std cf body e h) xs isT vs ae H).All PE)
    (hR : ∀ f r m' W' h' tk' led', W.Le W' → Fr c.h₀ c.L h' m' → News c.h₀ c.L h' led' → Bears c W' r.2.2 led' → LocOK c.b W' env ns m' r.2.1 → FlR c.b W' r.1 f → PE r → R (.ok f) { s with heap := h', toks := tk' }) :
    codeAny (model c.prog c.w) A (.forLoop tg (.ref I) l [] env) R s := by
  refine codeAny_forLoop_any (LI cf c env ns W s body xs isT I vs St' PE) ?_ (vs.length + 1)
    ⟨s.heap, s.toks, 0, m, W, ae, H, led, rfl, Nat.zero_le _, rfl, st, F0, N, off, Wd.Le.refl W, B, L, h⟩
  intro k s' hk
  refine cps fun C kk => ?_
  obtain ⟨h', tk, i, m', W', ae', H', news, e1, hi, e2, st', F', N', off', L', B', Lc, hall⟩ := hk
  refine kk ?_
  clear kk
  subst e1; subst e2
  by_cases hlt : i < vs.length
  · have hu : vs[i]? = some vs[i] := List.getElem?_eq_getElem hlt
    have hdrop : vs.drop i = vs[i] :: vs.drop (i + 1) := List.drop_eq_getElem_cons hlt
    rw [hdrop] at hall
    refine Wk.item i _ _ _ hlt st' fun v h₂ tk₂ hPv st₂ hk₂ => ?_
    have huv := (hP i v _ hPv hu).mono L'
    obtain ⟨ae2, eb, hall⟩ := opt_all hall
    obtain ⟨oI, heI⟩ := hIo _ _ st₂
    have F₂ : Fr c.h₀ c.L h₂ m' := LCg.fr_but F' hk₂ (Ne.symm hIL) hI₀
    have N₂ : News c.h₀ c.L h₂ news := LCg.news_but N' hk₂ off'
    have o3 : LCg.Off3 I I I news := LCg.Off3.of fun p hp => ⟨off' p hp, off' p hp, off' p hp⟩
    have N₃ : News c.h₀ c.L h₂ ((I, oI) :: (I, oI) :: (I, oI) :: news) := fun p hp => by
      have z : p = (I, oI) ∨ p ∈ news := by
        rcases List.mem_cons.mp hp with h | hp
        · exact .inl h
        · rcases List.mem_cons.mp hp with h | hp
          · exact .inl h
          · exact (List.mem_cons.mp hp).imp id id
      rcases z with rfl | hp
      · exact ⟨heI, hIL, hI₀⟩
      · exact N₂ p hp
    have B3 := bears_in (oI := oI) (oC := oI) (oD := oI) B' o3
    have S3 : St { c with xs := (I, oI) :: (I, oI) :: (I, oI) :: c.xs } m' W' H' h₂ := ⟨F₂, _, N₃, B3⟩
    have hxs : ∀ p ∈ c.xs, p.1 ≠ I ∧ p.1 ≠ I ∧ p.1 ≠ I := fun p hp => o3.mem p (B'.xs p hp)
    have go : wpAny (model c.prog c.w) A (letOwnedTupleGo tg (.ref I) v) (fun _ s₁ => s₁ = { s with heap := h₂, toks := tk₂ }) (notedBy (model c.prog c.w) A env fun e s' => R (.error e) s') { s with heap := h₂, toks := tk₂ } := by
      cases ht with
      | one x n p hx' hn => exact wpAny_pure rfl
      | tup xs es k p hn hs =>
        obtain ⟨a, j, hli⟩ := hLI rfl _ _ st₂
        obtain ⟨us, eu, _, _⟩ := bindXs_tup eb
        have huv' := huv
        rw [eu] at huv'
        obtain ⟨a', rfl⟩ : ∃ a', v = .ref a' := by cases huv' with | tup _ ws a n h hs => exact ⟨a, rfl⟩
        exact wpAny_letOwnedTupleGo_listiter (s := { s with heap := h₂, toks := tk₂ }) (Q := fun _ s₁ => s₁ = { s with heap := h₂, toks := tk₂ }) hli rfl
    refine wpAny_mono go (fun _ s₁ e => ?_) fun _ _ e => e
    subst e
    refine tgt_bind (c := { c with xs := (I, oI) :: (I, oI) :: (I, oI) :: c.xs }) (s := { s with heap := h₂, toks := tk₂ }) ht hx (F.xs _) (X.xs _) Lc S3 huv eb fun m₃ h₃ tk₃ S4 L4 => ?_
    refine hb { c with xs := (I, oI) :: (I, oI) :: (I, oI) :: c.xs } A env m₃ W' ae2 H' { s with heap := h₃, toks := tk₃ } _ _ (G.xs _) (F.xs _) (X.xs _) L4 S4 (T.All.mono (fun q hq f m5 W5 h5 tk5 L5 S5 Lc5 hf => ?_) (T.all_bind.mp hall))
    obtain ⟨news5, N5, off5, B5⟩ := bears_out hxs S5
    have N5' : News c.h₀ c.L h5 news5 := fun p hp => N5 p (List.mem_cons_of_mem _ (List.mem_cons_of_mem _ (List.mem_cons_of_mem _ hp)))
    obtain ⟨fl, ae5, H5⟩ := q
    cases fl with
    | next =>
      have e : f = .next := hf
      subst e
      have zI := (N5 (I, oI) List.mem_cons_self).1
      exact ⟨vs.length + 1 - (i + 1), by omega, h5, tk5, i + 1, m5, W5, ae5, H5, news5, rfl, hlt, rfl, hSt _ _ _ _ _ st₂ heI zI S5.fr.keep N5' (hS news5 fun p hp => B5.xs p hp), S5.fr, N5', fun p hp => (off5.mem p hp).1, L'.trans L5, B5, Lc5, hq⟩
    | ret u =>
      obtain ⟨v', rfl, hv'⟩ := hf
      exact hR (.ret v') (.ret u, ae5, H5) m5 W5 h5 tk5 news5 (L'.trans L5) S5.fr N5' B5 Lc5 ⟨v', rfl, hv'⟩ hq
  · obtain rfl : i = vs.length := Nat.le_antisymm hi (Nat.not_lt.mp hlt)
    rw [List.drop_length] at hall
    refine Wk.done _ _ _ st' fun h₂ tk₂ hk₂ => wpAny_execs_nil ?_
    exact hR .next (.next, ae', H') m' W' h₂ tk₂ news L' (LCg.fr_but F' hk₂ (Ne.symm hIL) hI₀) (LCg.news_but N' hk₂ off') B' Lc rfl hall
end
end Mine
end

section
set_option linter.all false
set_option bootstrap.genMatcherCode false
set_option maxRecDepth 10000
set_option maxHeartbeats 4000000
namespace Mine
open PySem PySem.W PySem.Calls PyProof.Rows
section
variable {cf : CF} {c : Cx} {A : Around} {env : Env} {m : Str → Option Value} {ns : Kd} {ae : AEnv} {W : Wd} {H : HS} {s : Shared} {Ex : Value → Shared → Prop}
theorem VRs.reverse {b : Heap} : ∀ {vs : List AV} {ws : List Value}, VRs b W vs ws → VRs b W vs.reverse ws.reverse
  | _, _, .nil => .nil
  | _, _, .cons v w vs ws h hs => by
    rw [List.reverse_cons, List.reverse_cons]
    exact hs.reverse.append (.cons _ _ _ _ h .nil)
theorem asgL_locs : ∀ (xs : List Nat) (vs : List AV) (ae : AEnv) (H : HS) {P : AEnv × HS → Prop}, (asgL std cf (xs.map .loc) vs ae H).All P → vs.length = xs.length ∧ P ((xs.zip vs).foldl (fun e p => put p.1 p.2 e) ae, H)
  | [], [], _, _, _, h => ⟨rfl, h⟩
  | [], _ :: _, _, _, _, h => h.elim
  | _ :: _, [], _, _, _, h => h.elim
  | x :: xs, v :: vs, ae, H, P, h => by
    have h' : (asgL std cf (xs.map .loc) vs (put x v ae) H).All P := h
    obtain ⟨h1, h2⟩ := asgL_locs xs vs (put x v ae) H h'
    exact ⟨by simp [h1], h2⟩
theorem bind_names : ∀ (xs : List Nat) (ws : List Value) (m : Str → Option Value) (s : Shared) (Q : Unit → Shared → Prop), ws.length = xs.length → (∀ x ∈ xs, ns.lookup (nm x) = some .local) → EnvF c env ns → s.heap.Ns env.locals m →
    (∀ h' tk, h'.Ns env.locals (bindS xs ws m) → Heap.SameBut env.locals s.heap h' → Q () { s with heap := h', toks := tk }) → wpAny (model c.prog c.w) A (assignInOrder ((xs.map nm).map fun n => bindName env n) ws) Q Ex s
  | [], ws, m, s, Q, h2, hk, X, hn, k => assignInOrder_nil (k s.heap s.toks (by cases ws <;> exact hn) (Heap.SameBut.refl _ _))
  | x :: xs, [], _, _, _, h2, _, _, _, _ => by simp at h2
  | x :: xs, w :: ws, m, s, Q, h2, hk, X, hn, k => by
    refine assignInOrder_cons (wpAny_bindName (wpAny_storeName_local (by unfold Env.kindOf; rw [X.names]; exact hk x List.mem_cons_self) hn (fun h₁ hn₁ hs₁ => ?_) X.plain))
    exact bind_names xs ws _ _ Q (by simpa using h2) (fun y hy => hk y (List.mem_cons_of_mem _ hy)) X hn₁ fun h' tk hn' hs' => k h' tk hn' (hs₁.trans hs')
theorem fin_A {W' : Wd} {h' : Heap} {tk' : Nat} {Q : Flow → Shared → Prop} {y : Nat} (hy : y < nN) (hk : ns.lookup (nm y) = some .local) (L' : W.Le W') (Lc : LocOK c.b W' env ns m ae) : ∀ (g : Heap) (acc : List AV) (ys : List Value) (H2 : HS) (news : Led),
    PF c env ns W s Q (.next, put y (.ref (hlen H2)) ae, hnew H2 (.list acc)) → Ended c W' acc ys H2 news →
    LCg.FinA c.h₀ c.L m { s with heap := g, toks := tk' } (nm y) Q ys news := fun g acc ys H2 news hp hE D h tk F' N' o1 => by
  obtain ⟨W3, L3, S3, h3⟩ := hE D h _ F' N' o1
  exact hp .next _ W3 h tk (L'.trans L3) S3 (loc_put (Lc.mono L3) hy hk (.ref _ _ h3)) rfl
end
section
variable {cf : CF}
theorem aComp (CO : ∀ ns e x, RepE ns e x → SndE cf ns e x) {ns : Kd} {y : Nat} {p q : Pos} (hy : y < nN) (hk : ns.lookup (nm y) = some .local) {elt : E} {xs : List Nat} {it : E} {sc : Scope} {ex yy : Expr} {tg : Expr} {pp : Pos} (hsw : ∀ env : Env, env.scope.kind = .function → env.scope.names = ns → swapsWith (.ListComp ex [⟨tg, yy, [], 0⟩] sc pp) (some (.Name (nm y) q)) p.line env = pure true) (hsc : scOk ns xs sc = true) (htg : RepTg xs false tg) (hfs : ∀ env v, foldedSetIterable yy env v = pure v)
    (hel : RepE (relN ns sc.names) elt ex) (hi : RepE ns it yy) : SndS cf ns (.assign (.loc y) (.comp elt xs false it .none .none)) (.Assign [.Name (nm y) q] (.ListComp ex [⟨tg, yy, [], 0⟩] sc pp) p) := by
  intro c A env m W ae H s Q Ex G F X L S h
  have X' := X.ok m
  have hko : env.kindOf (nm y) = some .local := by unfold Env.kindOf; rw [X.names]; exact hk
  cases htg with
  | one x n p' hx hn =>
    subst hn
    have f := scF hsc
    obtain ⟨cl, hclos, hcl⟩ := St.scope f X'
    refine LCg.Assign_ListComp_U S.fr X.locals (hsw env X.kind X.names) hclos f.cell f.kind f.names (f.tgt x List.mem_cons_self) hko X.plain ((CO _ _ _ hi).bind G F X' L S (T.all_bind.mp h) fun r v W' h' tk' L' S' hv h => ?_) (hfs env)
    obtain ⟨vs, hl, hz, h⟩ := opt_all h
    refine srcU (s := { s with heap := h', toks := tk' }) (Post := fun acc H2 => PF c env ns W s Q (.next, put y (.ref (hlen H2)) ae, hnew H2 (.list acc))) (CO _ _ _ hel) G F X' (L.mono L') f hx hcl S' hv hl hz (T.All.mono (fun q hq => ?_) (T.all_bind.mp h)) (fin_A (h' := h') hy hk L' (L.mono L'))
    have hq' : PF c env ns W s Q (.next, put y (.ref (hlen q.2)) ae, hnew (showV q.2 r.1 vs) (.list q.1)) := hq
    rw [hlen_showV]; exact hq'
theorem aCompIf (CO : ∀ ns e x, RepE ns e x → SndE cf ns e x) (CT : ∀ ns e x, RepE ns e x → SndT cf ns e x) {ns : Kd} {y : Nat} {p q : Pos} (hy : y < nN) (hk : ns.lookup (nm y) = some .local) {elt : E} {n0 k0 : Nat} {it cc : E} {sc : Scope} {ex yy z : Expr} {tg : Expr} {pp : Pos} (hsw : ∀ env : Env, env.scope.kind = .function → env.scope.names = ns → swapsWith (.ListComp ex [⟨tg, yy, [z], 0⟩] sc pp) (some (.Name (nm y) q)) p.line env = pure true) (hsc : scOk ns [n0] sc = true) (htg : RepTg [n0] false tg) (hfs : ∀ env v, foldedSetIterable yy env v = pure v)
    (hel : RepE (relN ns sc.names) elt ex) (hcc : RepE (relN ns sc.names) cc z) (hi : RepE ns it yy) : SndS cf ns (.assign (.loc y) (.comp elt [n0] false it (some k0) cc)) (.Assign [.Name (nm y) q] (.ListComp ex [⟨tg, yy, [z], 0⟩] sc pp) p) := by
  intro c A env m W ae H s Q Ex G F X L S h
  have X' := X.ok m
  have hko : env.kindOf (nm y) = some .local := by unfold Env.kindOf; rw [X.names]; exact hk
  cases htg with
  | one x n p' hx hn =>
    subst hn
    have f := scF hsc
    obtain ⟨cl, hclos, hcl⟩ := St.scope f X'
    refine LCt.Assign_ListComp_T S.fr X.locals (hsw env X.kind X.names) hclos f.cell f.kind f.names (f.tgt n0 List.mem_cons_self) hko X.plain ((CO _ _ _ hi).bind G F X' L S (T.all_bind.mp h) fun r v W' h' tk' L' S' hv h => ?_) (hfs env)
    obtain ⟨vs, hl, hz, h⟩ := opt_all h
    refine srcT (s := { s with heap := h', toks := tk' }) (Post := fun acc H2 => PF c env ns W s Q (.next, put y (.ref (hlen H2)) ae, hnew H2 (.list acc))) (CO _ _ _ hel) (CT _ _ _ hcc) G F X' (L.mono L') f hx hcl S' hv hl hz (T.All.mono (fun q hq => ?_) (T.all_bind.mp h)) (fin_A (h' := h') hy hk L' (L.mono L'))
    have hq' : PF c env ns W s Q (.next, put y (.ref (hlen q.2)) ae, hnew (showV q.2 r.1 vs) (.list q.1)) := hq
    rw [hlen_showV]; exact hq'
theorem aCompR (CO : ∀ ns e x, RepE ns e x → SndE cf ns e x) {ns : Kd} {y : Nat} {p q : Pos} (hy : y < nN) (hk : ns.lookup (nm y) = some .local) {elt : E} {n0 : Nat} {it : E} {sc : Scope} {ex yy : Expr} {tg : Expr} {ss : Str} {pp qq rr : Pos} (hsw : ∀ env : Env, env.scope.kind = .function → env.scope.names = ns → swapsWith (.ListComp ex [⟨tg, .Call (.Name ss qq) [yy] [] rr, [], 0⟩] sc pp) (some (.Name (nm y) q)) p.line env = pure true) (hsc : scOk ns [n0] sc = true) (htg : RepTg [n0] false tg) (hs : ss = Str.ofString "range") (hkr : ns.lookup ss = some .globalImplicit)
    (hst : ∀ env, starEach [yy] env = [(false, eval yy env)]) (hfs : ∀ env v, foldedSetIterable (.Call (.Name ss qq) [yy] [] rr) env v = pure v)
    (hel : RepE (relN ns sc.names) elt ex) (hi : RepE ns it yy) : SndS cf ns (.assign (.loc y) (.compR elt n0 it)) (.Assign [.Name (nm y) q] (.ListComp ex [⟨tg, .Call (.Name ss qq) [yy] [] rr, [], 0⟩] sc pp) p) := by
  intro c A env m W ae H s Q Ex G F X L S h
  have X' := X.ok m
  have hko : env.kindOf (nm y) = some .local := by unfold Env.kindOf; rw [X.names]; exact hk
  cases htg with
  | one x n p' hx hn =>
    subst hn
    have f := scF hsc
    obtain ⟨cl, hclos, hcl⟩ := St.scope f X'
    refine LCg.Assign_ListComp_U S.fr X.locals (hsw env X.kind X.names) hclos f.cell f.kind f.names (f.tgt n0 List.mem_cons_self) hko X.plain ?_ (hfs env)
    refine range_src (f := fun p => match p.1 with | .int k => .ck (0 ≤ k ∧ k < 2 ^ 20) <| (compL (fun v H' => (evalE std cf elt (put n0 v ae) H').bind fun q => .leaf (some q.1, q.2)) (upTo k.toNat 0) p.2).bind fun q => .leaf (.ref (hlen q.2), hnew q.2 (.list q.1)) | _ => .stuck)
      (P := fun r => PF c env ns W s Q (.next, put y r.1 ae, r.2)) (CO _ _ _ hi) hs hkr hst G F X' L S (T.all_bind.mpr (T.All.mono (fun z hz => ?_) (T.all_bind.mp (T.all_bind.mp h)))) fun kk H' W' h' tk' ra t u v L' S' hr h => ?_
    · revert hz
      cases z.1 <;> exact fun h => h
    · obtain ⟨⟨h0, hz⟩, h⟩ := h
      exact srcR (s := { s with heap := h', toks := tk' }) (Post := fun acc H2 => PF c env ns W s Q (.next, put y (.ref (hlen H2)) ae, hnew H2 (.list acc))) (CO _ _ _ hel) G F X' (L.mono L') f hx hcl S' hr h0 hz (T.All.mono (fun q hq => hq) (T.all_bind.mp h)) (fin_A (h' := h') hy hk L' (L.mono L'))
theorem assignComp_snd (CO : ∀ ns e x, RepE ns e x → SndE cf ns e x) (CT : ∀ ns e x, RepE ns e x → SndT cf ns e x) {ns : Kd} {y : Nat} {e : E} {v : Expr} {p q : Pos} (hy : y < nN) (hk : ns.lookup (nm y) = some .local)
    (hsw : ∀ env : Env, env.scope.kind = .function → env.scope.names = ns → swapsWith v (some (.Name (nm y) q)) p.line env = pure true) (he : RepE ns e v)
    (hc : isC e = true) : SndS cf ns (.assign (.loc y) e) (.Assign [.Name (nm y) q] v p) := by
  cases he with
  | comp _ elt xs it sc ex yy tg pp isT hsc htg hfs hel hi =>
    cases isT with
    | false => exact aComp CO hy hk hsw hsc htg hfs hel hi
    | true => exact (Bool.false_ne_true hc).elim
  | compIf _ elt n0 k0 it cc sc ex yy z tg pp hsc htg hfs hel hcc hi => exact aCompIf CO CT hy hk hsw hsc htg hfs hel hcc hi
  | compR _ elt n0 it sc ex yy tg n' pp qq rr hsc htg hs hkr hst hfs hel hi => exact aCompR CO hy hk hsw hsc htg hs hkr hst hfs hel hi
  | _ => exact (Bool.false_ne_true hc).elim
end
end Mine
end

section
set_option linter.all false
set_option bootstrap.genMatcherCode false
set_option maxRecDepth 10000
namespace Mine
open PySem PySem.W PySem.Calls PyProof.Rows
theorem FlR.val {b : Heap} {W : Wd} {u : AV} {v : Value} (h : VR b W u v) : FlR b W (.ret u) (.ret v) := ⟨v, rfl, h⟩
section
variable {cf : CF} {c : Cx} {A : Around} {env : Env} {m : Str → Option Value} {ns : Kd} {ae : AEnv} {W : Wd} {H : HS} {s : Shared} {Ex : Value → Shared → Prop}
theorem fin_loop {W0 : Wd} {Q : Flow → Shared → Prop} {i n : Nat} {a : Addr} {vs : List AV} {ws : List Value} {s0 : Shared} (Lp : W0.Le W) (ha : W.r i = some a) (hws : VRs c.b W vs ws) (hoff : ∀ p ∈ c.xs, p.1 ≠ a) {h0 : Heap} {tk0 : Nat} :
    ∀ f (r : Fl × AEnv × HS) m' W' h' tk' (led' : Led), W.Le W' → Fr c.h₀ c.L h' m' → News c.h₀ c.L h' led' → Bears { c with xs := (a, listOf ws.toArray n) :: c.xs } W' r.2.2 led' → LocOK c.b W' env ns m' r.2.1 → FlR c.b W' r.1 f →
      PF c env ns W0 s0 Q (r.1, r.2.1, showV r.2.2 (.ref i) vs) → Q f { { s0 with heap := h0, toks := tk0 } with heap := h', toks := tk' } := fun f r m' W' h' tk' led' L' F' N' B' Lc hf hp => by
  have ha' := L'.r _ _ ha
  have hi : i < hlen r.2.2 := by
    rcases Nat.lt_or_ge i (hlen r.2.2) with q | q
    · exact q
    · rw [B'.top i q] at ha'; cases ha'
  have hg : ∀ o, hget r.2.2 i = some o → o = .gone := fun o ho => by
    by_cases q : o = .gone
    · exact q
    · exact absurd rfl (B'.off i o a ho q ha' _ List.mem_cons_self)
  have B2 := bears_show (x := .list vs) B' hi hg ha' (fun _ => .list _ _ _ _ (hws.mono L')) hoff
  exact hp f m' W' h' tk' (Lp.trans L') ⟨F', led', N', B2⟩ Lc hf
theorem forL_snd (CO : ∀ ns e x, RepE ns e x → SndE cf ns e x) {xs : List Nat} {isT : Bool} {it : E} {body : Ss} {tg y : Expr} {l : List Stmt} {p : Pos} (hx : ∀ x ∈ xs, x < nN ∧ ns.lookup (nm x) = some .local) (ht : RepTg xs isT tg) (hfs : ∀ env v, foldedSetIterable y env v = pure v) (hi : RepE ns it y) (hb : SndSs cf ns body l) :
    SndS cf ns (.forL xs isT it body) (.For tg y l [] p) := by
  intro c A env m W ae H s Q Ex G F X L S h
  refine wpAny_For ((CO _ _ _ hi).bind G F (X.ok m) L S h fun r v W' h' tk' L' S' hv h => ?_) (hfs env)
  obtain ⟨vs, hl, h⟩ := opt_all h
  have h1 := T.all_bind.mp h
  rcases src_of (s := { s with heap := h', toks := tk' }) G S' hv hl with ⟨i, a, ws, n, led, e1, rfl, ha, hs, hoff, hm, N, B⟩ | ⟨a, ws, led, e1, rfl, hb0, hs, N, B⟩
  · rw [e1] at h1
    have hlx : h'.IsList a ws.toArray := News.isList N hm
    have hlt : a < h'.objs.size := by obtain ⟨_, e, _⟩ := id hlx; exact Heap.lt_size e
    refine wpAny_pyIter_list (s := { s with heap := h', toks := tk' }) hlx ?_
    have up : ∀ b o, h'.get? b = some o → (h'.push { cls := .type "list_iterator", data := .fields #[.ref a, .int 0 0] }).get? b = some o := fun b o e => Heap.get?_push_of_some _ e
    have hn := hs.length
    have Wk := Walks.list (prog := c.prog) (w := c.w) (A := A) F.handled h'.objs.size a (Nat.ne_of_lt hlt) ws.toArray
    have ez : ws.toArray.size = vs.length := by rw [List.size_toArray, hn]
    rw [ez] at Wk
    refine loop_snd (c := { c with xs := (a, listOf ws.toArray n) :: c.xs }) (vs := vs) (s := { s with heap := h'.push { cls := .type "list_iterator", data := .fields #[.ref a, .int 0 0] }, toks := tk' }) (S' := LCg.SrcAt c.h₀ a ws.toArray) (PE := fun r => PF c env ns W s Q (r.1, r.2.1, showV r.2.2 (.ref i) vs))
      hb ht hx (G.xs _) (F.xs _) (X.xs _) Wk (fun i h st => by obtain ⟨o, e, _⟩ := st.1; exact ⟨o, e⟩) LCg.list_st (fun nw hn => .inr ⟨_, hn _ List.mem_cons_self, rfl, n, rfl⟩) (fun i v u hp hu => hs.idx hp hu) (fun _ i h st => ⟨_, _, st.1⟩)
      (Nat.ne_of_gt S'.fr.ns.lt) (next_is_new S'.fr) (L.mono L') (S'.fr.keeps up) (N.grown up) (fun p hp => Nat.ne_of_lt (Heap.lt_size (N p hp).1)) B ⟨⟨_, Heap.get?_push_size _ rfl, rfl, rfl⟩, hlx.push _⟩ (T.All.mono (fun q hq => hq) h1) ?_
    intro f r2 m' W2 h2 tk2 led2 L2 F2 N2 B2 Lc2 hf hp
    exact fin_loop (h0 := h') (tk0 := tk') L' ha hs hoff f r2 m' W2 h2 tk2 led2 L2 F2 N2 B2 Lc2 hf hp
  · rw [e1] at h1
    have hlx : h'.IsList a ws.toArray := Heap.IsList.at hb0 fun o e => S'.fr.keep _ o e
    have hlt : a < h'.objs.size := by obtain ⟨_, e, _⟩ := id hlx; exact Heap.lt_size e
    refine wpAny_pyIter_list (s := { s with heap := h', toks := tk' }) hlx ?_
    have up : ∀ b o, h'.get? b = some o → (h'.push { cls := .type "list_iterator", data := .fields #[.ref a, .int 0 0] }).get? b = some o := fun b o e => Heap.get?_push_of_some _ e
    have hn := hs.length
    have Wk := Walks.list (prog := c.prog) (w := c.w) (A := A) F.handled h'.objs.size a (Nat.ne_of_lt hlt) ws.toArray
    have ez : ws.toArray.size = vs.length := by rw [List.size_toArray, hn]
    rw [ez] at Wk
    refine loop_snd (c := c) (vs := vs) (s := { s with heap := h'.push { cls := .type "list_iterator", data := .fields #[.ref a, .int 0 0] }, toks := tk' }) (S' := LCg.SrcAt c.h₀ a ws.toArray) (PE := fun r => PF c env ns W s Q (r.1, r.2.1, r.2.2))
      hb ht hx G F X Wk (fun i h st => by obtain ⟨o, e, _⟩ := st.1; exact ⟨o, e⟩) LCg.list_st (fun nw hn => .inl hb0) (fun i v u hp hu => hs.idx hp hu) (fun _ i h st => ⟨_, _, st.1⟩)
      (Nat.ne_of_gt S'.fr.ns.lt) (next_is_new S'.fr) (L.mono L') (S'.fr.keeps up) (N.grown up) (fun p hp => Nat.ne_of_lt (Heap.lt_size (N p hp).1)) B ⟨⟨_, Heap.get?_push_size _ rfl, rfl, rfl⟩, hlx.push _⟩ (T.All.mono (fun q hq => hq) h1) ?_
    intro f r2 m' W2 h2 tk2 led2 L2 F2 N2 B2 Lc2 hf hp
    exact hp f m' W2 h2 tk2 (L'.trans L2) ⟨F2, led2, N2, B2⟩ Lc2 hf
theorem forR_snd (CO : ∀ ns e x, RepE ns e x → SndE cf ns e x) {x : Nat} {n : E} {body : Ss} {s' : Str} {y : Expr} {l : List Stmt} {p q r u : Pos} (hx : x < nN ∧ ns.lookup (nm x) = some .local) (hs' : s' = Str.ofString "range") (hk : ns.lookup s' = some .globalImplicit)
    (hst : ∀ env, starEach [y] env = [(false, eval y env)]) (hfs : ∀ env v, foldedSetIterable (.Call (.Name s' q) [y] [] r) env v = pure v) (hn : RepE ns n y) (hb : SndSs cf ns body l) : SndS cf ns (.forR x n body) (.For (.Name (nm x) u) (.Call (.Name s' q) [y] [] r) l [] p) := by
  intro c A env m W ae H s Q Ex G F X L S h
  refine wpAny_For ?_ (hfs env)
  have h0 : ((evalE std cf n ae H).bind fun p => match p.1 with
    | .int k => .ck (0 ≤ k ∧ k < 2 ^ 20) (forS (fun e h => execB std cf body e h) [x] false (upTo k.toNat 0) ae p.2)
    | _ => .stuck).All (PF c env ns W s Q) := h
  subst hs'
  obtain ⟨mg, mb, g1, g2, g3, g4, g5, g6⟩ := G.top
  refine Call_ (name_builtin (X.ok m) S g1 g2 hk g6.1 g6.2 (by decide) ?_)
  rw [hst env]
  refine PyProof.Rows.callWith_type rfl (evalArgs_plain (spliced_cons ((CO _ _ _ hn).bind G F (X.ok m) L S h0 fun rr v W' h' tk' L' S' hv h => spliced_nil ?_)))
  split at h
  · rename_i kk e
    rw [e] at hv
    cases hv with
    | int _ t =>
      obtain ⟨⟨k0, kz⟩, h⟩ := h
      refine call_range_1 ?_
      have hsize : Builtin.Range.rangeSize 0 kk 1 = ((kk.toNat : Nat) : Int) := by
        unfold Builtin.Range.rangeSize
        rw [if_pos (by decide)]
        split
        · have : (kk - 0 - 1) / 1 = kk - 1 := by rw [Int.sub_zero]; exact Int.ediv_one _
          rw [this]; omega
        · omega
      have hsmall : Builtin.Range.small 0 kk 1 = true := by
        have fits : ∀ x : Int, -(2 ^ 40) ≤ x → x ≤ 2 ^ 40 → Builtin.Range.rangeFitsLong x = true := fun x h1 h2 => by
          unfold Builtin.Range.rangeFitsLong
          simp only [Bool.and_eq_true, decide_eq_true_eq]
          omega
        unfold Builtin.Range.small
        rw [hsize, fits 0 (by omega) (by omega), fits kk (by omega) (by omega), fits 1 (by omega) (by omega), fits (kk.toNat : Int) (by omega) (by omega)]
        rw [if_pos (by decide), fits _ (by omega) (by omega)]
        simp
      refine wpAny_pyIter_range (IsRange.new ..) hsmall ?_
      have S2 := St.keeps (h' := h'.push { cls := .type "range", data := .fields #[.int 0 tk', .int kk t, .int 1 (tk' + 1)] }) S' fun b o e => Heap.get?_push_of_some _ e
      obtain ⟨F2, led, N2, B2⟩ := S2
      have hlen : kk.toNat = (upTo kk.toNat 0).length := (upTo_len _ _).symm
      generalize hG : h'.push { cls := .type "range", data := .fields #[.int 0 tk', .int kk t, .int 1 (tk' + 1)] } = Hg at F2 N2 ⊢
      have Wk := LCg.range_walks (prog := c.prog) (w := c.w) (A := A) (I := Hg.objs.size) F.handled 0 kk.toNat
      have Wk' : Walks c.prog c.w A Hg.objs.size [Hg.objs.size] [Hg.objs.size] (upTo kk.toNat 0).length (fun i v => ∃ t, v = .int (0 + (i : Int)) t) (fun i h => IsRangeIter h Hg.objs.size (0 + (i : Nat) * 1) ((kk.toNat : Int) - (i : Nat)) 1) := by rw [upTo_len]; exact Wk
      refine loop_snd (c := c) (vs := upTo kk.toNat 0) (s := { s with heap := Hg.push { cls := .type "range_iterator", data := .fields #[rawInt 0, rawInt (Builtin.Range.rangeSize 0 kk 1), rawInt 1] }, toks := tk' + 1 + 1 }) (S' := fun _ => True) (PE := PF c env ns W s Q)
        hb (RepTg.one x _ u hx.1 rfl) (fun z hz => by rw [List.mem_singleton.mp hz]; exact hx) G F X Wk' (fun i h st => ⟨_, st⟩) LCg.range_st (fun _ _ => trivial)
        (fun i v u ⟨t, hp⟩ hu => by
          subst hp
          have z := upTo_get _ _ _ _ hu
          rw [z, Nat.zero_add, Int.zero_add]; exact .int _ _) (fun e => by cases e) (Nat.ne_of_gt F2.ns.lt) (next_is_new F2) (L.mono L') (F2.keeps fun _ _ e => Heap.get?_push_of_some _ e) (N2.grown fun _ _ e => Heap.get?_push_of_some _ e)
        (fun p hp => Nat.ne_of_lt (Heap.lt_size (N2 p hp).1)) B2 (by show IsRangeIter _ _ _ _ _; rw [hsize]; simpa using Heap.get?_push_size _ rfl) (T.All.mono (fun q hq => hq) h) ?_
      intro f r2 m' W2 h2 tk2 led2 L2 F3 N3 B3 Lc2 hf hp
      exact hp f m' W2 h2 tk2 (L'.trans L2) ⟨F3, led2, N3, B3⟩ Lc2 hf
  · exact h.elim
end
set_option maxHeartbeats 4000000 in
theorem sndSs (cf : CF) (CO : ∀ ns e x, RepE ns e x → SndE cf ns e x) (CT : ∀ ns e x, RepE ns e x → SndT cf ns e x) (st : Ss) (ns : Kd) (x : List Stmt) (hr : RepSs ns st x) : SndSs cf ns st x := by
  refine RepSs.rec (motive_1 := fun st x _ => SndS cf ns st x) (motive_2 := fun st x _ => SndSs cf ns st x) ?_ ?_ ?_ ?_ ?_ ?_ ?_ ?_ ?_ ?_ ?_ ?_ ?_ ?_ hr
  · intro t e tg v p ht hs hw he ha
    intro c A env m W ae H s Q Ex G F X L S h
    refine wpAny_Assign_stores ((CO _ _ _ he).bind G F (X.ok m) L S h fun r v W' h' tk' L' S' hv h => ?_) (hs env) (hw env)
    rw [ha env]
    have h1 : ((asgP std cf t r.1 ae r.2).bind fun q => .leaf (Fl.next, q.1, q.2)).All (PF c env ns W s Q) := by
      cases ht <;> exact h
    refine asgP_snd (s := { s with heap := h', toks := tk' }) (CO ns) ht G F X (L.mono L') S' hv (T.All.mono (fun q hq m' W'' h'' tk'' L'' S'' hl => ?_) (T.all_bind.mp h1))
    exact hq .next m' W'' h'' tk'' (L'.trans L'') S'' hl rfl
  · intro y e n v p q hy hn hk hsw he hc
    subst hn; exact assignComp_snd CO CT hy hk (fun _ k n => (sw_one k n).trans hsw) he hc
  · intro ts e es k v p q hs hw ht he
    intro c A env m W ae H s Q Ex G F X L S h
    refine Assign_Tuple ((CO _ _ _ he).bind G F (X.ok m) L S h fun r v W' h' tk' L' S' hv h => ?_) (hs env) ((sw_env X.kind X.names).trans hw)
    obtain ⟨v0, H0⟩ := r
    cases v0 with
    | tup us =>
      cases hv with
      | tup _ ws a n hm hvs =>
        have ht' := St.isTup (s := { s with heap := h', toks := tk' }) S' hm
        have h0 : ((match Nat.beq ts.length us.length with | true => asgL std cf ts us ae H0 | false => .stuck).bind fun q => .leaf (Fl.next, q.1, q.2)).All (PF c env ns W s Q) := h
        split at h0
        case h_2 => exact h0.elim
        rename_i hbq
        have hlq := Nat.eq_of_beq_eq_true hbq
        have h1 := T.all_bind.mp h0
        obtain ⟨F0, led, N, B⟩ := id S'
        have hlen : ∀ {ts : List Tg} {es : List Expr} {us : List AV} {ae : AEnv} {H : HS} {P : AEnv × HS → Prop}, RepTgs ns ts es → (assignEach es env).length = ts.length ∧ (assignEach es env).findIdx? (·.1) = none := by
          intro ts es us ae H P hts
          induction hts with
          | nil => exact ⟨rfl, rfl⟩
          | cons t ts x es he ht h ih => rw [he env]; exact ⟨by simp [ih.1], by simp [List.findIdx?_cons, ih.2]⟩
        obtain ⟨l1, l2⟩ := hlen (us := us) (ae := ae) (H := H0) (P := fun _ => True) ht
        have hz := hvs.length
        refine unpackN_ (s := { s with heap := h', toks := tk' }) F0 N ht' F.handled (by rw [l1, hlq, hz]; simp) l2 fun h5 F5 N5 => ?_
        refine asgL_snd (CO ns) G F X (s := { s with heap := h5, toks := tk' }) ht (L.mono L') ⟨F5, led, N5, B⟩ hvs (T.All.mono (fun q hq m' W'' h'' tk'' L'' S'' hl => ?_) h1)
        exact hq .next m' W'' h'' tk'' (L'.trans L'') S'' hl rfl
    | _ => exact h.elim
  · intro xs ts e es k v p q hts hs hw hx he
    subst hts
    intro c A env m W ae H s Q Ex G F X L S h
    refine Assign_Tuple_swapped ((CO _ _ _ he).bind G F (X.ok m) L S h fun r v W' h' tk' L' S' hv h => ?_) (hs env) ((sw_env X.kind X.names).trans hw)
    obtain ⟨v0, H0⟩ := r
    cases v0 with
    | tup us =>
      cases hv with
      | tup _ ws a n hm hvs =>
        have ht' := St.isTup (s := { s with heap := h', toks := tk' }) S' hm
        have h0 : ((match Nat.beq (xs.map Tg.loc).length us.length with | true => asgL std cf (xs.map Tg.loc).reverse us.reverse ae H0 | false => .stuck).bind fun q => .leaf (Fl.next, q.1, q.2)).All (PF c env ns W s Q) := h
        split at h0
        case h_2 => exact h0.elim
        have h1 := T.all_bind.mp h0
        rw [← List.map_reverse] at h1
        obtain ⟨e1, h2⟩ := asgL_locs _ _ _ _ h1
        rw [List.length_reverse, List.length_reverse] at e1
        have hvl := hvs.length
        obtain ⟨F0, led, N, B⟩ := id S'
        refine unpackItemsN_ (s := { s with heap := h', toks := tk' }) F0 N ht' F.handled (by simp; omega) fun h5 F5 N5 => ?_
        have S5 : St c m W' H0 h5 := ⟨F5, led, N5, B⟩
        show wpAny _ _ (assignInOrder ((xs.map nm).reverse.map fun n => bindName env n) ws.reverse) _ _ _
        rw [← List.map_reverse]
        refine bind_names (c := c) (ns := ns) xs.reverse ws.reverse m { s with heap := h5, toks := tk' } _ (by simp; omega) (fun x hx' => (hx x (List.mem_reverse.mp hx')).2) X ((X.ok m).ns S5) fun h6 tk6 hn6 hs6 => ?_
        rw [X.locals] at hn6 hs6
        exact h2 .next _ W' h6 tk6 L' (St.store (s := { s with heap := h5 }) S5 hn6 hs6) (loc_binds (L.mono L') (by simp [e1]) hvs.reverse fun x hx' => hx x (List.mem_reverse.mp hx')) rfl
    | _ => exact h.elim
  · intro x e n v p q hx hn hk he
    subst hn
    intro c A env m W ae H s Q Ex G F X L S h
    obtain ⟨u, e1, h⟩ := opt_all h
    obtain ⟨w, hm, hw⟩ := L.loc x u e1 hk
    refine wpAny_AugAssign_Name (wpAny_loadName_local X.kind (by unfold Env.kindOf; rw [X.names]; exact hk) ((X.ok m).ns S) hm ?_)
    refine (CO _ _ _ he).bind G F (X.ok m) L S h fun r v W' h' tk' L' S' hv h => ?_
    refine iadd_snd (hw.mono L') hv (T.All.mono (fun z hz x' tk hx' => ?_) (T.all_bind.mp h))
    refine wpAny_storeName_local (by unfold Env.kindOf; rw [X.names]; exact hk) ((X.ok m).ns S') (fun h2 hn2 hs2 => ?_) X.plain
    rw [X.locals] at hn2 hs2
    exact hz .next _ W' h2 _ L' (St.store (s := { s with heap := h' }) S' hn2 hs2) (loc_put (L.mono L') hx hk hx') rfl
  · intro b a e x v n p q hn hb he
    subst hn
    intro c A env m W ae H s Q Ex G F X L S h
    refine wpAny_AugAssign_AttributeAny ((CO _ _ _ hb).bind G F (X.ok m) L S h fun r ov W' h' tk' L' S' hov h => ?_)
    obtain ⟨u, e1, h⟩ := opt_all h
    refine getA_snd (s := { s with heap := h', toks := tk' }) S' G.kin G.cls hov e1 fun w hw => ?_
    refine (CO _ _ _ he).bind (s := { s with heap := h', toks := tk' + 1 }) G F (X.ok m) (L.mono L') S' h fun q' v W'' h'' tk'' L'' S'' hv h => ?_
    refine iadd_snd (hw.mono L'') hv (T.All.mono (fun z hz x' tk hx' => ?_) (T.all_bind.mp h))
    obtain ⟨H', e2, hz⟩ := opt_all hz
    exact setA_snd (s := { s with heap := h'', toks := tk }) S'' G.kin G.cls (hov.mono L'') hx' e2 fun W3 h3 tk3 L3 S3 => hz .next m W3 h3 tk3 ((L'.trans L'').trans L3) S3 (L.mono ((L'.trans L'').trans L3)) rfl
  · intro e v p hs he
    intro c A env m W ae H s Q Ex G F X L S h
    exact wpAny_Expr_any ((CO _ _ _ he).bind G F (X.ok m) L S h fun r v W' h' tk' L' S' hv h => h .next m W' h' tk' L' S' (L.mono L') rfl) X.quiet (hs env)
  · intro e v p he
    intro c A env m W ae H s Q Ex G F X L S h
    exact wpAny_Return_some ((CO _ _ _ he).bind G F (X.ok m) L S h fun r v W' h' tk' L' S' hv h => h (.ret v) m W' h' tk' L' S' (L.mono L') ⟨v, rfl, hv⟩)
  · intro t a b z l r p ht ha hb iha ihb
    intro c A env m W ae H s Q Ex G F X L S h
    refine wpAny_If ((CT _ _ _ ht).bind G F (X.ok m) L S h fun r W' h' tk' L' S' h => ?_)
    obtain ⟨b', H'⟩ := r
    cases b' with
    | true => exact iha c A env m W' ae H' { s with heap := h', toks := tk' } Q Ex G F X (L.mono L') S' (T.All.mono (fun z hz => hz.next L') ((br_all h).1 rfl))
    | false => exact ihb c A env m W' ae H' { s with heap := h', toks := tk' } Q Ex G F X (L.mono L') S' (T.All.mono (fun z hz => hz.next L') ((br_all h).2 rfl))
  · intro xs isT it body tg y l p hx ht hfs hi hb ihb
    exact forL_snd CO hx ht hfs hi ihb
  · intro x n body n' s' y l p q r u hx hs hs' hk hst hfs hn hb ihb
    subst hs; exact forR_snd CO hx hs' hk hst hfs hn ihb
  · intro st
    exact fun c A env m W ae H s Q Ex G F X L S h => h.elim
  · skip
    intro c A env m W ae H s Q Ex G F X L S h
    exact wpAny_execs_nil (h .next m W s.heap s.toks (Wd.Le.refl W) S L rfl)
  · intro st ss x l h1 h2 ih1 ih2
    intro c A env m W ae H s Q Ex G F X L S h
    refine wpAny_execs_cons (ih1 c A env m W ae H s _ Ex G F X L S (T.All.mono (fun r hr f m' W' h' tk' L' S' hl hf => ?_) (T.all_bind.mp h)))
    obtain ⟨fl, ae', H'⟩ := r
    cases fl with
    | next =>
      have e : f = .next := hf
      subst e
      exact ih2 c A env m' W' ae' H' { s with heap := h', toks := tk' } Q Ex G F X hl S' (T.All.mono (fun z hz => hz.next L') hr)
    | ret u =>
      obtain ⟨v, rfl, hv⟩ := hf
      exact hr (.ret v) m' W' h' tk' L' S' hl ⟨v, rfl, hv⟩
end Mine
end

section
set_option linter.all false
set_option bootstrap.genMatcherCode false
set_option maxRecDepth 10000
set_option maxHeartbeats 1000000
namespace Mine
open PySem PySem.W PySem.Calls PyProof.Rows
inductive FnOk (K : Frag) (f : Nat) (fn : Fn) : Prop where
  | mk (name qual : Str) (params : Arguments) (body : List Stmt) (scope : Scope) (dV kV doc pm cdv ct oc : Value) (an od : Option Addr) (osl : Array (Option Value))
    (ho : K.lookup f = some ⟨oc, od, .func (fnOf name qual params body scope dV kV doc pm an cdv ct), osl⟩) (hcd : codeIn K cdv qual = true) (hrep : RepSs scope.names fn.body body)
    (hbind : ∀ s ws, ws.length = fn.params.length → BindsTo s (fnOf name qual params body scope dV kV doc pm an cdv ct) ⟨ws, []⟩ ((fn.params.map nm).zip ws))
    (hpar : ∀ x ∈ fn.params, x < nN ∧ (scope.names.lookup (nm x) = some .local ∨ scope.names.lookup (nm x) = some .cell)) (hnd : fn.params.Nodup)
    (hcells : (fn.cells = [] ∧ (∀ n, cellsFrom n scope.names [] = []) ∧ ∀ y, scope.names.lookup y ≠ some .cell) ∨ ∃ x, x < nN ∧ fn.cells = [x] ∧ (∀ n, cellsFrom n scope.names [] = [(nm x, n)]) ∧ scope.names.lookup (nm x) = some .cell ∧ ∀ y, scope.names.lookup y = some .cell → y = nm x)
    (hco : scope.isCoroutine = false) (hgen : scope.isGenerator = false) (hkind : scope.kind = .function) : FnOk K f fn
noncomputable def FnAll (K : Frag) : Prop := ∀ f fn, find f fnTab = some fn → FnOk K f fn
structure TabsOK (c : Cx) (mg mb : Str → Option Value) : Prop where
  cls : ClsAll c.K
  fns : FnAll c.K
  fn : ∀ f fn, find f fnTab = some fn → find f clsTab = .none → keepIn c.K (.ref f) = true
  clk : ∀ f fn, find f clsTab = some fn → keepIn c.K (.ref f) = true
  glob : ∀ x v, lk x globTab = some v → ∃ w, mg (nm x) = some w ∧ ∀ W, VR c.b W v w
  bi : ∀ f, mg (b1Name f) = .none ∧ mb (b1Name f) = some (idOf f)
  max : mg (Str.ofString "max") = .none ∧ mb (Str.ofString "max") = some (.builtin "max")
  range : mg (Str.ofString "range") = .none ∧ mb (Str.ofString "range") = some (.type "range")
structure FrmA (n : Nat) (c : Cx) (A : Around) (p : Program) (loose : List Str) (mean : ExcName → Option Value) (mg mb : Str → Option Value) : Prop where
  ex : ∃ (A₀ : Around) (base : Heap) (outer : List Env) (env : Env), Below A₀ base outer c.h₀ ∧ A.frames = some (env :: outer) ∧ env.frame = some c.L ∧ env.scope.kind = .function
  top : Top p loose mean mg mb c.h₀
  kin : c.K.In c.h₀
  base : ∀ a o, c.b.get? a = some o → c.h₀.get? a = some o
  depth : A.depth + 10 * n < recursionLimit
  handled : A.handled = none
  tabs : TabsOK c mg mb
theorem FrmA.glb {n : Nat} {c : Cx} {A : Around} {p : Program} {loose : List Str} {mean : ExcName → Option Value} {mg mb : Str → Option Value} (X : FrmA n c A p loose mean mg mb) : Glb c :=
  ⟨X.base, X.kin, X.tabs.cls, X.tabs.fn, X.tabs.clk, ⟨mg, mb, X.top.g, X.top.b, X.tabs.glob, X.tabs.bi, X.tabs.max, X.tabs.range⟩, X.top.nolimit⟩
theorem CO (cf : CF) : ∀ ns e x, RepE ns e x → SndE cf ns e x := fun ns e x h => (sndR h).1
theorem CT (cf : CF) : ∀ ns e x, RepE ns e x → SndT cf ns e x := fun ns e x h => (sndR h).2
theorem zipE_some : ∀ {xs : List Nat} {vs : List AV} {kv : AEnv}, zipE xs vs = some kv → vs.length = xs.length
  | [], [], _, _ => rfl
  | [], _ :: _, _, h => nomatch h
  | _ :: _, [], _, h => nomatch h
  | x :: xs, v :: vs, kv, h => by
    obtain ⟨kv', e, _⟩ := Option.map_eq_some_iff.mp (h : (zipE xs vs).map ((x, v) :: ·) = some kv)
    simp [zipE_some e]
section
variable {b : Heap} {W : Wd}
theorem bind_params (kindOf : Str → Option NameKind) : ∀ {xs : List Nat} {vs : List AV} {ws : List Value} {kv : AEnv} (m cm : Str → Option Value), zipE xs vs = some kv → VRs b W vs ws → (∀ x ∈ xs, x < nN) → xs.Nodup →
    (∀ y v, lk y kv = some v → y ∈ xs ∧ ∃ w, VR b W v w ∧ (kindOf (nm y) = some .local → bindL kindOf ((xs.map nm).zip ws) m (nm y) = some w) ∧ (kindOf (nm y) = some .cell → bindC kindOf ((xs.map nm).zip ws) cm (nm y) = some w)) ∧
    (∀ y, y < nN → lk y kv = none → bindC kindOf ((xs.map nm).zip ws) cm (nm y) = cm (nm y) ∧ bindL kindOf ((xs.map nm).zip ws) m (nm y) = m (nm y))
  | [], [], ws, kv, m, cm, hz, hv, hx, hn => by
    cases hz
    exact ⟨fun y v h => by simp [lk] at h, fun y _ _ => ⟨rfl, rfl⟩⟩
  | [], _ :: _, _, _, _, _, hz, _, _, _ => nomatch hz
  | _ :: _, [], _, _, _, _, hz, _, _, _ => nomatch hz
  | x :: xs, v :: vs, ws', kv, m, cm, hz, hv, hx, hn => by
    obtain ⟨kv', e, rfl⟩ := Option.map_eq_some_iff.mp (hz : (zipE xs vs).map ((x, v) :: ·) = some kv)
    rcases hv with _ | ⟨_, w, _, ws, h, hs⟩
    rw [List.nodup_cons] at hn
    have hx0 := hx x List.mem_cons_self
    obtain ⟨i1, i2⟩ := bind_params kindOf (if kindOf (nm x) = some .local then fun y => if y = nm x then some w else m y else m) (if kindOf (nm x) = some .local then cm else fun y => if y = nm x then some w else cm y) e hs (fun z hz => hx z (List.mem_cons_of_mem _ hz)) hn.2
    have el : ∀ y, lk y ((x, v) :: kv') = if x = y then some v else lk y kv' := fun y => by
      show (match Nat.beq x y with | true => some v | false => lk y kv') = _
      rw [beq_eq]
      by_cases q : x = y <;> simp [q]
    have none_x : lk x kv' = none := by
      cases e2 : lk x kv' with
      | none => rfl
      | some z => exact absurd (i1 x z e2).1 hn.1
    refine ⟨fun y u hy => ?_, fun y hy hl => ?_⟩
    · rw [el] at hy
      by_cases q : x = y
      · subst q
        rw [if_pos rfl] at hy; cases hy
        obtain ⟨j1, j2⟩ := i2 x hx0 none_x
        refine ⟨List.mem_cons_self, w, h, fun hk => ?_, fun hk => ?_⟩
        · show bindL kindOf ((xs.map nm).zip ws) _ (nm x) = _
          rw [j2]; simp [hk]
        · show bindC kindOf ((xs.map nm).zip ws) _ (nm x) = _
          rw [j1]; simp [hk]
      · rw [if_neg q] at hy
        obtain ⟨k1, w', k2, k3⟩ := i1 y u hy
        exact ⟨List.mem_cons_of_mem _ k1, w', k2, k3⟩
    · rw [el] at hl
      by_cases q : x = y
      · rw [if_pos q] at hl; cases hl
      · rw [if_neg q] at hl
        obtain ⟨j1, j2⟩ := i2 y hy hl
        have hne : ¬ nm y = nm x := fun z => q (nm_inj hy hx0 z).symm
        refine ⟨?_, ?_⟩
        · show bindC kindOf ((xs.map nm).zip ws) _ (nm y) = _
          rw [j1]; split <;> simp [hne]
        · show bindL kindOf ((xs.map nm).zip ws) _ (nm y) = _
          rw [j2]; split <;> simp [hne]
end
theorem Bears.cx {c c' : Cx} {W : Wd} {H : HS} {led : Led} (B : Bears c W H led) (h1 : c'.prog = c.prog) (h2 : c'.w = c.w) (h3 : c'.b = c.b) (h4 : c'.xs = c.xs) : Bears c' W H led := by
  obtain ⟨p, w, K, b, h₀, L, xs⟩ := c
  obtain ⟨p', w', K', b', h₀', L', xs'⟩ := c'
  dsimp only at h1 h2 h3 h4
  subst h1; subst h2; subst h3; subst h4
  exact ⟨B.obj, B.tup, B.xs, B.inj, B.off, B.top, B.toff⟩
theorem calls_ok {p : Program} {loose : List Str} {mean : ExcName → Option Value} {mg mb : Str → Option Value} : ∀ (n : Nat) (c : Cx) (A : Around), FrmA n c A p loose mean mg mb → CallsOK (callN std n) c A := by
  intro n
  induction n with
  | zero => exact fun c A X A' _ _ _ l m W H s f args ws R S hv h => h.elim
  | succ n calls_ok =>
    intro c A X A' e1 e2 e3 l m W H s f args ws R S hv h
    refine cps fun C kk => ?_
    obtain ⟨fn, hf, h⟩ := opt_all (h : (runF std (callN std n) f args H).All _)
    obtain ⟨kv, hz, h⟩ := opt_all h
    obtain ⟨A₀, base, outer, env, B, fr, ef, ek⟩ := X.ex
    obtain ⟨name, qual, params, body, scope, dV, kV, doc, pm, cdv, ct, oc, an, od, osl, ho, hcd, hrep, hbind, hpar, hnd, hcells, hco, hgen, hkind⟩ := X.tabs.fns f fn hf
    obtain ⟨F0, led, N, Be⟩ := S
    refine kk ?_
    clear kk
    have hlws : ws.length = fn.params.length := by rw [← hv.length]; exact zipE_some hz
    have hkinds : (((fn.params.map nm).zip ws).all fun y => scope.names.lookup y.1 == some .local || scope.names.lookup y.1 == some .cell) = true := by
      refine List.all_eq_true.mpr fun y hy => ?_
      obtain ⟨x, hx, e⟩ := List.mem_map.mp (List.of_mem_zip hy).1
      rw [← e]
      rcases (hpar x hx).2 with q | q <;> simp [q]
    have hndc : ((cellsFrom 0 scope.names []).map (·.1)).Nodup := by
      rcases hcells with ⟨_, q, _⟩ | ⟨x, _, _, q, _, _⟩ <;> rw [q] <;> simp
    refine code_defC (A := A') B F0 X.kin N X.top (e1.trans fr) ef ek ho hcd (by have := X.depth; omega) (hbind s ws hlws) hkinds hndc (fun g L' h₁ tk cells FG F' N' hca B' Kg Tg hlt => ?_) hco hgen hkind
    have bp := bind_params (b := c.b) (W := W) (envOfC qual scope L' f cdv).kindOf (fun _ => none) (fun _ => none) hz hv (fun x hx => (hpar x hx).1) hnd
    have run : ∀ (W1 : Wd) (H1 : HS) (ae1 : AEnv) (led1 : Led), W.Le W1 → (execB std (callN std n) fn.body ae1 H1).All (fun q => PV { c with xs := l } m W s (fun v s' => R (.ok (.ret v)) s') (match q.1 with | .ret v => v | .next => .none, q.2.2)) →
        News g L' h₁ led1 → Bears { c with xs := l } W1 H1 led1 →
        LocOK c.b W1 (envOfC qual scope L' f cdv) scope.names (bindL (envOfC qual scope L' f cdv).kindOf ((fn.params.map nm).zip ws) fun _ => none) ae1 → (∀ y, scope.names.lookup y = some .cell → ∃ a, (envOfC qual scope L' f cdv).cells.lookup y = some a) →
        wpAny (model c.prog c.w) (A'.deeper (envOfC qual scope L' f cdv)) (execs body (envOfC qual scope L' f cdv))
          (fun fl s' => LeaveK c.h₀ c.L m g R (match fl with | .ret v => v | _ => .none) s')
          (fun e s' => wpAny (model c.prog c.w) (A'.deeper (envOfC qual scope L' f cdv)) (leaving (envOfC qual scope L' f cdv) e) (fun _ s'' => R (.error e) s'') (fun e' s'' => R (.error e') s'') s')
          { s with heap := h₁, toks := tk } := fun W1 H1 ae1 led1 L1 hall N1 B1 Lc hcl => by
      have X' : FrmA n { c with h₀ := g, L := L', xs := l } (A'.deeper (envOfC qual scope L' f cdv)) p loose mean mg mb :=
        { ex := ⟨A', base, env :: outer, envOfC qual scope L' f cdv, B', Around.frames_deeper (e1.trans fr), rfl, hkind⟩
          top := Tg
          kin := Kg
          base := fun a o e => FG.keep a o (X.base a o e)
          depth := by
            show A'.depth + 1 + 10 * n < recursionLimit
            have := X.depth; omega
          handled := by show A'.handled = none; rw [e3]; exact X.handled
          tabs := ⟨X.tabs.cls, X.tabs.fns, X.tabs.fn, X.tabs.clk, X.tabs.glob, X.tabs.bi, X.tabs.max, X.tabs.range⟩ }
      refine sndSs (callN std n) (CO _) (CT _) fn.body scope.names body hrep { c with h₀ := g, L := L', xs := l } (A'.deeper (envOfC qual scope L' f cdv)) (envOfC qual scope L' f cdv) _ W1 ae1 H1 { s with heap := h₁, toks := tk } _ _
        X'.glb ⟨X'.handled, calls_ok _ _ X'⟩ ⟨hkind, rfl, rfl, rfl, hcl, rfl⟩ Lc ⟨F', led1, N1, B1.cx rfl rfl rfl rfl⟩ (T.All.mono (fun q hq fl m' W' h' tk' L2 S2 Lc2 hfl => ?_) hall)
      obtain ⟨F2, led2, N2, B2⟩ := S2
      refine leaveK_ F2 N2 fun F3 N3 => ?_
      have S3 : St { c with xs := l } m W' q.2.2 h' := ⟨F3, led2, N3, B2.cx rfl rfl rfl rfl⟩
      obtain ⟨fl', ae', H'⟩ := q
      cases fl' with
      | next =>
        have e : fl = .next := hfl
        subst e
        exact hq .none W' h' tk' (L1.trans L2) S3 .none
      | ret u =>
        obtain ⟨v, rfl, hv'⟩ := hfl
        exact hq v W' h' tk' (L1.trans L2) S3 hv'
    have h' := T.all_bind.mp h
    rcases hcells with ⟨c1, c2, c3⟩ | ⟨x, hx, c1, c2, ckx, c3⟩
    · have ec : cells = [] := by
        rw [c2] at hca; cases hca; rfl
      subst ec
      rw [c1] at h'
      refine run W H kv led (Wd.Le.refl W) (T.All.mono (fun q hq => ?_) h') N' Be ⟨fun y v e => (hpar y (bp.1 y v e).1).1, fun y v e hk => ?_, fun y v e hk => absurd hk (c3 _)⟩ (fun y hy => absurd hy (c3 y))
      · have hq' : PV { c with xs := l } m W s (fun v s' => R (.ok (.ret v)) s') (match q.1 with | .ret v => v | .next => .none, q.2.2) := hq
        exact hq'
      · obtain ⟨_, w, k1, k2, _⟩ := bp.1 y v e
        exact ⟨w, k2 hk, k1⟩
    · obtain ⟨o, rfl, hod⟩ : ∃ o, cells = [(L' + 1, o)] ∧ o.data = .cell (bindC (envOfC qual scope L' f cdv).kindOf ((fn.params.map nm).zip ws) (fun _ => none) (nm x)) := by
        rw [c2] at hca
        exact hca.one
      rw [c1] at h'
      have hkx : (envOfC qual scope L' f cdv).kindOf (nm x) = some .cell := by
        show scope.names.lookup (nm x) = some .cell
        exact ckx
      have hne : ∀ p ∈ led, p.1 ≠ L' + 1 := fun p hp => Nat.ne_of_lt (Nat.lt_succ_of_lt (hlt p hp))
      have Lw := Wd.le_put (a := L' + 1) (Be.top (hlen H) (Nat.le_refl _))
      have hR : OR c.prog c.w c.b (W.put (hlen H) (L' + 1)) (.cell (lk x kv)) (L' + 1) o := by
        cases e : lk x kv with
        | none =>
          have := (bp.2 x hx e).1
          rw [this] at hod
          exact .cell0 _ _ hod
        | some v =>
          obtain ⟨_, w, k1, _, k3⟩ := bp.1 x v e
          rw [k3 hkx] at hod
          exact .cell _ _ _ w hod (k1.mono Lw)
      have N1 : News g L' h₁ ((L' + 1, o) :: led) := N'
      have Ng : News g L' h₁ led := fun p hp => N' p (List.mem_cons_of_mem _ hp)
      have Be' : Bears { c with h₀ := g, L := L', xs := l } W H led := Be.cx rfl rfl rfl rfl
      obtain ⟨L1, B1⟩ := St.alloc' (c := { c with h₀ := g, L := L', xs := l }) (x := .cell (lk x kv)) F' Ng Be' (L' + 1) o h₁ hne hR F' N1
      have eenv : (envOfC qual scope L' f cdv).cells = [(nm x, L' + 1)] := c2 (L' + 1)
      refine run (W.put (hlen H) (L' + 1)) (hnew H (.cell (lk x kv))) (put x (.ref (hlen H)) kv) _ L1 (T.All.mono (fun q hq => ?_) h') N1 (B1.cx rfl rfl rfl rfl) ⟨fun y v e => ?_, fun y v e hk => ?_, fun y v e hk => ?_⟩ (fun y hy => ?_)
      · have hq' : PV { c with xs := l } m W s (fun v s' => R (.ok (.ret v)) s') (match q.1 with | .ret v => v | .next => .none, q.2.2) := hq
        exact hq'
      · rw [lk_put] at e
        by_cases q : y = x
        · rw [q]; exact hx
        · rw [if_neg q] at e; exact (hpar y (bp.1 y v e).1).1
      · have hne' : y ≠ x := fun q => by
          rw [q] at hk
          have hkx' : scope.names.lookup (nm x) = some .cell := hkx
          rw [hkx'] at hk; cases hk
        rw [lk_put, if_neg hne'] at e
        obtain ⟨_, w, k1, k2, _⟩ := bp.1 y v e
        exact ⟨w, k2 hk, k1.mono Lw⟩
      · have hyx : nm y = nm x := c3 _ hk
        rw [lk_put] at e
        by_cases q : y = x
        · subst q
          rw [if_pos rfl] at e; cases e
          exact ⟨_, L' + 1, rfl, Wd.put_self, by rw [eenv]; simp⟩
        · rw [if_neg q] at e
          exact absurd (nm_inj (hpar y (bp.1 y v e).1).1 hx hyx) q
      · rw [c3 y hy, eenv]; exact ⟨L' + 1, by simp⟩
end Mine
end

section
set_option linter.all false
open PySem PySem.W PyProof.Rows
set_option Elab.async false
set_option maxRecDepth 100000
set_option maxHeartbeats 0
namespace Mine
noncomputable abbrev pr : Program := PySem.Challenge.rw_pb0525_01.row.toRowW.prog
noncomputable def vw : Program := view pr [0, 2, 4, 5, 6, 7, 8, 9, 10, 11, 13, 14, 15, 16, 17, 18, 19, 20, 21, 23, 24, 25, 26, 27]
theorem thr (t : Thread) : through t = (endAt 0 t).isSome := by
  obtain ⟨cur, code, pos, stack⟩ := t
  cases stack with
  | cons _ _ => rfl
  | nil => cases cur with
    | pure f => cases f <;> rfl
    | _ => rfl
theorem top_of_seg {tb : String → Option Builtin} {p : Program} {w : World} {n₀ : Nat} {ann : Option Value} {f : Flow} {s' : Shared} {c : Code} {q : Pos} (n : Nat) : ∀ {s : Shared} {t : Thread},
    segRun tb p w n₀ ann 0 n s t = some (f, s', c, q) → topRun tb p w n₀ ann n s t = some s' := by
  induction n with
  | zero => exact fun h => nomatch h
  | succ n ih =>
    intro s t h
    unfold segRun at h
    unfold topRun
    rw [thr]
    cases he : endAt 0 t with
    | some g => rw [he] at h; cases h; rfl
    | none =>
      rw [he] at h
      dsimp only [Option.isSome]
      cases hk : stepOk n₀ ann t with
      | false => rw [hk] at h; cases h
      | true =>
        rw [hk] at h
        cases hs : step (denote tb) p w s t with
        | halt o s₂ => rw [hs] at h; cases h
        | go s₂ t₂ => rw [hs] at h; exact ih h
noncomputable def grow : List Obj → BT → Nat → Option BT
  | [], T, _ => some T
  | o :: r, T, n => match ((T.ins n o).get n).isSome with
    | true => grow r (T.ins n o) (n + 1)
    | false => none
theorem grow_abs {l : Life} {T' : BT} (os : List Obj) : ∀ {T : BT} {n : Nat}, grow os T n = some T' → absHeap T' (n + os.length) l = ⟨(absHeap T n l).objs ++ os.toArray, l⟩ := by
  induction os with
  | nil => exact fun {T n} h => by cases h; exact congrArg (Heap.mk · l) (Array.append_empty).symm
  | cons o r ih =>
    intro T n h
    unfold grow at h
    cases e : ((T.ins n o).get n).isSome with
    | false => rw [e] at h; cases h
    | true =>
      rw [e] at h
      have := ih h
      rw [absHeap_ins e] at this
      rw [List.length_cons, Nat.add_comm r.length 1, ← Nat.add_assoc, this]
      show Heap.mk (((absHeap T n l).objs.push o) ++ r.toArray) l = _
      exact congrArg (Heap.mk · l) (by simp)
noncomputable def headT (p q : Program) (loose : List Str) (Xt : Shared → Bool) {α : Type} (Yf : Shared → α) (N : Nat) (w : World) :=
  (fencedOpening treeTable p w N).bind fun s0 => match grow s0.heap.objs.toList .nil 0 with
    | none => none
    | some T => (segRunT treeTable p w s0.heap.objs.size (s0.heap.nsMap mainGlobals "__annotations__") 0 N ⟨T, s0.heap.objs.size, s0.heap.life, s0.gens, s0.drawn, s0.toks, s0.os⟩ (topStub p)).map fun r =>
      (s0.heap.isNs mainGlobals && s0.gens.size == 0, staticsOk (importedModules p.main.body) s0.heap r.2.1.abs.heap && namesBound p r.2.1.abs.heap && gensDone r.2.1.abs && laidKept s0.heap r.2.1.abs.heap,
        openSeen q loose (importedModules p.main.body) Xt true r.2.1.abs, Yf r.2.1.abs)
theorem left_of {p q : Program} {loose : List Str} {Xt : Shared → Bool} {α : Type} {Yf : Shared → α} {Ya : World → α} {N : Nat} (h : ∀ w, headT p q loose Xt Yf N w = some (true, true, openGood q loose, Ya w)) : LeftO p q loose Xt Yf Ya N := by
  intro w
  have h := h w
  unfold headT at h
  obtain ⟨s0, h0, h⟩ := Option.bind_eq_some_iff.mp h
  cases hg : grow s0.heap.objs.toList .nil 0 with
  | none => rw [hg] at h; cases h
  | some T =>
    rw [hg] at h
    obtain ⟨⟨f, s1, c, u⟩, h1, h2⟩ := Option.map_eq_some_iff.mp h
    have e := grow_abs (l := s0.heap.life) _ hg
    have es : (SharedT.mk T s0.heap.objs.size s0.heap.life s0.gens s0.drawn s0.toks s0.os).abs = s0 := by
      show Shared.mk (absHeap T s0.heap.objs.size s0.heap.life) _ _ _ _ = s0
      rw [Nat.zero_add, Array.length_toList] at e
      rw [e]
      obtain ⟨⟨objs, life⟩, gens, drawn, toks, os⟩ := s0
      show Shared.mk ⟨#[] ++ objs.toList.toArray, life⟩ _ _ _ _ = _
      simp
    have h3 := top_of_seg _ (segRun_of h1)
    rw [es] at h3
    obtain ⟨k1, k2⟩ := Prod.mk.inj h2
    obtain ⟨k2, k3⟩ := Prod.mk.inj k2
    obtain ⟨k3, k4⟩ := Prod.mk.inj k3
    have ht : topFrom treeTable p w N s0 = some s1.abs := by
      unfold topFrom
      rw [k1]
      dsimp only
      rw [h3]
      show (match staticsOk (importedModules p.main.body) s0.heap s1.abs.heap && namesBound p s1.abs.heap && gensDone s1.abs && laidKept s0.heap s1.abs.heap with | true => _ | false => _) = _
      rw [k2]
    unfold openEnds
    rw [h0]
    show (topFrom treeTable p w N s0).map _ = _
    rw [ht]
    exact congrArg some (Prod.ext k3 k4)
noncomputable def oLaw := fun h => holds_law (l := PySem.Challenge.rw_pb0525_01) (by decide +kernel) h
noncomputable def oHead := fun (H : Hook) k1 hl hw hc => holds_open (r := PySem.Challenge.rw_pb0525_01.row) (q := vw) (loose := [Str.ofString "FATES"]) (Xt := fun s => xlAt vw [] s && recOk (RowW.records PySem.Challenge.rw_pb0525_01.row.toRowW) s) (XP := XL vw []) (Yf := Hook.obs H) (Ya := Hook.val H) (YP := Hook.says H) (N := 4490) (left_of hl) (Hook.of H) (Hook.keeps H) (fun s e => xl_of s (Bool.and_eq_true_iff.mp e).1) XL.keeps (by rfl) (by rfl) (by rfl) (fun s e => recFacts_of (Bool.and_eq_true_iff.mp e).2) (by rfl) k1 (by decide +kernel) ⟨rfl, rfl, rfl, rfl, rfl, by decide +kernel⟩ hw hc
set_option compiler.extract_closed false
local macro_rules | `(tactic| o_law) => `(tactic| (apply oLaw; intro))
local macro_rules | `(tactic| o_head $H) => `(tactic| (
  apply oHead $H (by assumption)
  · intro w
    unfold headT fencedOpening
    rw [PySem.W.Fast.te10274390034422433532, PySem.W.Fast.te1435165496053646825, PySem.W.Fast.te14289696077712309145, PySem.W.Fast.te10110043849684766642, PySem.W.Fast.te4187177175401517315]
    kernel_rfl))
open_top hd for PySem.Challenge.rw_pb0525_01
end Mine
end

section
set_option linter.all false
set_option bootstrap.genMatcherCode false
namespace Mine
open PySem PySem.W PySem.Calls PyProof.Rows
theorem noCell {ns : Kd} (h : (ns.all fun y => y.2 != .cell) = true) : ∀ y, ns.lookup y ≠ some .cell := fun y e => by
  have := List.all_eq_true.mp h _ (lookup_mem e)
  simp at this
theorem oneCell {ns : Kd} {z : Str} (h : (ns.all fun y => y.2 != .cell || y.1 == z) = true) : ∀ y, ns.lookup y = some .cell → y = z := fun y e => by
  have := List.all_eq_true.mp h _ (lookup_mem e)
  simpa using this
noncomputable def chkG (r : Option (Option Value)) (v : AV) : Bool := match r, v with
  | some (some (.int i _)), .int j => i == j
  | some (some (.str s _)), .str k => decide (k < nN) && s == nm k
  | some (some (.ref a)), .glob b => a == b
  | _, _ => false
theorem chkG_ok {r : Option (Option Value)} {v : AV} (h : chkG r v = true) : ∃ w, r = some (some w) ∧ ∀ (b : Heap) (W : Wd), VR b W v w := by
  unfold chkG at h
  split at h
  · rename_i i t j
    have : i = j := by simpa using h
    subst this
    exact ⟨_, rfl, fun b W => .int _ _⟩
  · rename_i s t k
    rw [Bool.and_eq_true] at h
    have h1 : k < nN := by simpa using h.1
    have h2 : s = nm k := by simpa using h.2
    subst h2
    exact ⟨_, rfl, fun b W => .str _ _ h1⟩
  · rename_i a b
    have : a = b := by simpa using h
    subst this
    exact ⟨_, rfl, fun b W => .glob _⟩
  · cases h
theorem lk_mem : ∀ {l : List (Nat × AV)} {k : Nat} {v : AV}, lk k l = some v → (k, v) ∈ l
  | [], _, _, h => by simp [lk] at h
  | (j, u) :: r, k, v, h => by
    have h' : (match Nat.beq j k with | true => some u | false => lk k r) = some v := h
    rw [beq_eq] at h'
    by_cases q : j = k
    · subst q
      simp at h'
      rw [h']; exact List.mem_cons_self
    · simp [q] at h'
      exact List.mem_cons_of_mem _ (lk_mem h')
theorem find_mem {α : Type} : ∀ {l : List (Nat × α)} {k : Nat} {v : α}, find k l = some v → (k, v) ∈ l
  | [], _, _, h => by simp [find] at h
  | (j, u) :: r, k, v, h => by
    have h' : (match Nat.beq j k with | true => some u | false => find k r) = some v := h
    rw [beq_eq] at h'
    by_cases q : j = k
    · subst q
      simp at h'
      rw [h']; exact List.mem_cons_self
    · simp [q] at h'
      exact List.mem_cons_of_mem _ (find_mem h')
theorem len1 {α : Type} : ∀ {l : List α}, l.length = 1 → ∃ a0, l = [a0]
  | [a0], _ => ⟨a0, rfl⟩
theorem len2 {α : Type} : ∀ {l : List α}, l.length = 2 → ∃ a0 a1, l = [a0, a1]
  | [a0, a1], _ => ⟨a0, a1, rfl⟩
theorem len3 {α : Type} : ∀ {l : List α}, l.length = 3 → ∃ a0 a1 a2, l = [a0, a1, a2]
  | [a0, a1, a2], _ => ⟨a0, a1, a2, rfl⟩
theorem len4 {α : Type} : ∀ {l : List α}, l.length = 4 → ∃ a0 a1 a2 a3, l = [a0, a1, a2, a3]
  | [a0, a1, a2, a3], _ => ⟨a0, a1, a2, a3, rfl⟩
theorem len5 {α : Type} : ∀ {l : List α}, l.length = 5 → ∃ a0 a1 a2 a3 a4, l = [a0, a1, a2, a3, a4]
  | [a0, a1, a2, a3, a4], _ => ⟨a0, a1, a2, a3, a4, rfl⟩
theorem len6 {α : Type} : ∀ {l : List α}, l.length = 6 → ∃ a0 a1 a2 a3 a4 a5, l = [a0, a1, a2, a3, a4, a5]
  | [a0, a1, a2, a3, a4, a5], _ => ⟨a0, a1, a2, a3, a4, a5, rfl⟩
end Mine
end

section
set_option linter.all false
set_option bootstrap.genMatcherCode false
open PySem PySem.W PySem.Calls PyProof.Rows
set_option Elab.async false
set_option maxRecDepth 100000
set_option maxHeartbeats 8000000
namespace Mine
theorem fk_55 (P : Params) : FnOk (hd.heap_1 P) 55 ⟨[47, 26, 48], [], b_Path_init⟩ := by
  refine ⟨_, _, _, _, _, _, _, _, _, _, _, _, _, _, _, rfl, by kernel_rfl, ?rep, ?bind, ?par, by decide, ?cells, rfl, rfl, rfl⟩
  case bind =>
    intro s ws h
    obtain ⟨v0, v1, v2, rfl⟩ := len3 h
    exact BindsTo.of_eq rfl
  case par => decide +kernel
  case cells => exact .inl ⟨rfl, fun n => by kernel_rfl, noCell (by kernel_rfl)⟩
  repeat' first
    | exact RepSs.nil _
    | refine RepSs.cons _ _ _ _ _ ?_ ?_
    | refine RepS.ret _ _ _ _ ?_
    | refine RepS.expr _ _ _ _ (by intro _; rfl) ?_
    | refine RepS.assignComp _ _ _ _ _ _ _ (by decide) (by kernel_rfl) (by kernel_rfl) (by kernel_rfl) ?_ rfl
    | refine RepS.assignTup _ _ _ _ _ _ _ _ (by intro _; rfl) (by kernel_rfl) ?_ ?_
    | refine RepS.assignSw _ [] _ _ _ _ _ _ _ rfl (by intro _; rfl) (by kernel_rfl) (by decide +kernel) ?_
    | refine RepS.assign _ _ _ _ _ _ ?_ (by intro _; rfl) (by intro _; rfl) ?_ (by intro _; rfl)
    | refine RepS.augLoc _ _ _ _ _ _ _ (by decide) (by kernel_rfl) (by kernel_rfl) ?_
    | refine RepS.augAttr _ _ _ _ _ _ _ _ _ (by kernel_rfl) ?_ ?_
    | refine RepS.ife _ _ _ _ _ _ _ _ ?_ ?_ ?_
    | refine RepS.forR _ _ _ _ _ _ _ _ _ _ _ _ ⟨by decide, by kernel_rfl⟩ (by kernel_rfl) (by kernel_rfl) (by kernel_rfl) (by intro _; rfl) (by intro _ _; rfl) ?_ ?_
    | refine RepS.forL _ _ _ _ _ _ _ _ _ (by decide +kernel) ?_ (by intro _ _; rfl) ?_ ?_
    | exact RepS.junk _ _
    | refine RepTgt.loc _ _ _ _ (by decide) (by kernel_rfl) (by kernel_rfl)
    | refine RepTgt.cel _ _ _ _ (by decide) (by kernel_rfl) (by kernel_rfl)
    | refine RepTgt.attr _ _ _ _ _ _ (by kernel_rfl) ?_
    | refine RepTgt.sub _ _ _ _ _ _ ?_ ?_
    | exact RepTgs.nil _
    | refine RepTgs.cons _ _ _ _ _ (by intro _; rfl) ?_ ?_
    | refine RepTg.one _ _ _ (by decide) (by kernel_rfl)
    | refine RepTg.tup _ _ _ _ (by decide) ?_
    | exact NamesAre.nil
    | refine NamesAre.cons _ _ _ _ _ (by decide) (by kernel_rfl) ?_
    | exact KeysAre.nil
    | refine KeysAre.cons _ _ _ _ _ _ (by decide) (by kernel_rfl) ?_
    | refine RepE.loc _ _ _ _ (by decide) (by kernel_rfl) (by kernel_rfl) (by kernel_rfl)
    | refine RepE.cel _ _ _ _ (by decide) (by kernel_rfl) (by kernel_rfl) (by kernel_rfl)
    | refine RepE.glob _ _ _ _ (by decide) (by kernel_rfl) (by kernel_rfl) (by kernel_rfl)
    | exact RepE.int _ _ _ _
    | exact RepE.neg _ _ _ _ _ _ (by kernel_rfl)
    | exact RepE.str _ _ _ _ _ (by decide) (by kernel_rfl)
    | exact RepE.bool _ _ _ _
    | exact RepE.none _ _ _
    | refine RepE.bin _ _ _ _ _ _ _ _ (by kernel_rfl) ?_ ?_
    | refine RepE.cmp _ _ _ _ _ _ _ _ (by kernel_rfl) (by kernel_rfl) ?_ ?_
    | refine RepE.isIn _ _ _ _ _ _ (by kernel_rfl) ?_ ?_
    | refine RepE.notIn _ _ _ _ _ _ (by kernel_rfl) ?_ ?_
    | refine RepE.isNone _ _ _ _ _ _ ?_
    | refine RepE.notNone _ _ _ _ _ _ ?_
    | refine RepE.and _ _ _ _ _ _ _ ?_ ?_
    | refine RepE.or _ _ _ _ _ _ _ ?_ ?_
    | refine RepB.and _ _ _ _ _ _ _ ?_ ?_
    | refine RepB.or _ _ _ _ _ _ _ ?_ ?_
    | refine RepB.one _ _ _ _ _ ?_
    | refine RepE.not _ _ _ _ ?_
    | refine RepE.ife _ _ _ _ _ _ _ _ ?_ ?_ ?_
    | refine RepE.attr _ _ _ _ _ _ (by kernel_rfl) (by intro _; with_unfolding_all rfl) ?_
    | refine RepE.upto _ _ _ _ _ _ _ _ ?_
    | refine RepE.sub _ _ _ _ _ _ (by intro _ _; rfl) ?_ ?_
    | refine RepE.call _ _ _ _ _ _ _ ?_ ?_
    | refine RepE.meth _ _ _ _ _ _ _ _ _ _ (by kernel_rfl) (by intro _; rfl) ?_ ?_
    | refine RepE.b1 _ _ _ _ _ _ _ (by kernel_rfl) (by kernel_rfl) (by intro _; rfl) ?_
    | refine RepE.max _ _ _ _ _ _ _ _ (by kernel_rfl) (by kernel_rfl) (by intro _; rfl) ?_ ?_
    | refine RepE.tup _ _ _ _ _ (by decide) ?_
    | refine RepE.list _ _ _ _ (by decide) ?_
    | exact RepE.dict0 _ _
    | refine RepE.dict _ _ _ _ _ _ (by decide) (by kernel_rfl) (by simp) (by decide) ?_ ?_
    | refine RepE.comp _ _ _ _ _ _ _ _ _ _ (by kernel_rfl) ?_ (by intro _ _; rfl) ?_ ?_
    | refine RepE.compIf _ _ _ _ _ _ _ _ _ _ _ _ (by kernel_rfl) ?_ (by intro _ _; rfl) ?_ ?_ ?_
    | refine RepE.compR _ _ _ _ _ _ _ _ _ _ _ _ (by kernel_rfl) ?_ (by kernel_rfl) (by kernel_rfl) (by intro _; rfl) (by intro _ _; rfl) ?_ ?_
    | exact RepE.junk _ _
    | exact RepEs.nil _
    | refine RepEs.cons _ _ _ _ _ (by intro _; rfl) ?_ ?_
theorem fk_62 (P : Params) : FnOk (hd.heap_1 P) 62 ⟨[47], [], b_Path_is_proven⟩ := by
  refine ⟨_, _, _, _, _, _, _, _, _, _, _, _, _, _, _, rfl, by kernel_rfl, ?rep, ?bind, ?par, by decide, ?cells, rfl, rfl, rfl⟩
  case bind =>
    intro s ws h
    obtain ⟨v0, rfl⟩ := len1 h
    exact BindsTo.of_eq rfl
  case par => decide +kernel
  case cells => exact .inl ⟨rfl, fun n => by kernel_rfl, noCell (by kernel_rfl)⟩
  repeat' first
    | exact RepSs.nil _
    | refine RepSs.cons _ _ _ _ _ ?_ ?_
    | refine RepS.ret _ _ _ _ ?_
    | refine RepS.expr _ _ _ _ (by intro _; rfl) ?_
    | refine RepS.assignComp _ _ _ _ _ _ _ (by decide) (by kernel_rfl) (by kernel_rfl) (by kernel_rfl) ?_ rfl
    | refine RepS.assignTup _ _ _ _ _ _ _ _ (by intro _; rfl) (by kernel_rfl) ?_ ?_
    | refine RepS.assignSw _ [] _ _ _ _ _ _ _ rfl (by intro _; rfl) (by kernel_rfl) (by decide +kernel) ?_
    | refine RepS.assign _ _ _ _ _ _ ?_ (by intro _; rfl) (by intro _; rfl) ?_ (by intro _; rfl)
    | refine RepS.augLoc _ _ _ _ _ _ _ (by decide) (by kernel_rfl) (by kernel_rfl) ?_
    | refine RepS.augAttr _ _ _ _ _ _ _ _ _ (by kernel_rfl) ?_ ?_
    | refine RepS.ife _ _ _ _ _ _ _ _ ?_ ?_ ?_
    | refine RepS.forR _ _ _ _ _ _ _ _ _ _ _ _ ⟨by decide, by kernel_rfl⟩ (by kernel_rfl) (by kernel_rfl) (by kernel_rfl) (by intro _; rfl) (by intro _ _; rfl) ?_ ?_
    | refine RepS.forL _ _ _ _ _ _ _ _ _ (by decide +kernel) ?_ (by intro _ _; rfl) ?_ ?_
    | exact RepS.junk _ _
    | refine RepTgt.loc _ _ _ _ (by decide) (by kernel_rfl) (by kernel_rfl)
    | refine RepTgt.cel _ _ _ _ (by decide) (by kernel_rfl) (by kernel_rfl)
    | refine RepTgt.attr _ _ _ _ _ _ (by kernel_rfl) ?_
    | refine RepTgt.sub _ _ _ _ _ _ ?_ ?_
    | exact RepTgs.nil _
    | refine RepTgs.cons _ _ _ _ _ (by intro _; rfl) ?_ ?_
    | refine RepTg.one _ _ _ (by decide) (by kernel_rfl)
    | refine RepTg.tup _ _ _ _ (by decide) ?_
    | exact NamesAre.nil
    | refine NamesAre.cons _ _ _ _ _ (by decide) (by kernel_rfl) ?_
    | exact KeysAre.nil
    | refine KeysAre.cons _ _ _ _ _ _ (by decide) (by kernel_rfl) ?_
    | refine RepE.loc _ _ _ _ (by decide) (by kernel_rfl) (by kernel_rfl) (by kernel_rfl)
    | refine RepE.cel _ _ _ _ (by decide) (by kernel_rfl) (by kernel_rfl) (by kernel_rfl)
    | refine RepE.glob _ _ _ _ (by decide) (by kernel_rfl) (by kernel_rfl) (by kernel_rfl)
    | exact RepE.int _ _ _ _
    | exact RepE.neg _ _ _ _ _ _ (by kernel_rfl)
    | exact RepE.str _ _ _ _ _ (by decide) (by kernel_rfl)
    | exact RepE.bool _ _ _ _
    | exact RepE.none _ _ _
    | refine RepE.bin _ _ _ _ _ _ _ _ (by kernel_rfl) ?_ ?_
    | refine RepE.cmp _ _ _ _ _ _ _ _ (by kernel_rfl) (by kernel_rfl) ?_ ?_
    | refine RepE.isIn _ _ _ _ _ _ (by kernel_rfl) ?_ ?_
    | refine RepE.notIn _ _ _ _ _ _ (by kernel_rfl) ?_ ?_
    | refine RepE.isNone _ _ _ _ _ _ ?_
    | refine RepE.notNone _ _ _ _ _ _ ?_
    | refine RepE.and _ _ _ _ _ _ _ ?_ ?_
    | refine RepE.or _ _ _ _ _ _ _ ?_ ?_
    | refine RepB.and _ _ _ _ _ _ _ ?_ ?_
    | refine RepB.or _ _ _ _ _ _ _ ?_ ?_
    | refine RepB.one _ _ _ _ _ ?_
    | refine RepE.not _ _ _ _ ?_
    | refine RepE.ife _ _ _ _ _ _ _ _ ?_ ?_ ?_
    | refine RepE.attr _ _ _ _ _ _ (by kernel_rfl) (by intro _; with_unfolding_all rfl) ?_
    | refine RepE.upto _ _ _ _ _ _ _ _ ?_
    | refine RepE.sub _ _ _ _ _ _ (by intro _ _; rfl) ?_ ?_
    | refine RepE.call _ _ _ _ _ _ _ ?_ ?_
    | refine RepE.meth _ _ _ _ _ _ _ _ _ _ (by kernel_rfl) (by intro _; rfl) ?_ ?_
    | refine RepE.b1 _ _ _ _ _ _ _ (by kernel_rfl) (by kernel_rfl) (by intro _; rfl) ?_
    | refine RepE.max _ _ _ _ _ _ _ _ (by kernel_rfl) (by kernel_rfl) (by intro _; rfl) ?_ ?_
    | refine RepE.tup _ _ _ _ _ (by decide) ?_
    | refine RepE.list _ _ _ _ (by decide) ?_
    | exact RepE.dict0 _ _
    | refine RepE.dict _ _ _ _ _ _ (by decide) (by kernel_rfl) (by simp) (by decide) ?_ ?_
    | refine RepE.comp _ _ _ _ _ _ _ _ _ _ (by kernel_rfl) ?_ (by intro _ _; rfl) ?_ ?_
    | refine RepE.compIf _ _ _ _ _ _ _ _ _ _ _ _ (by kernel_rfl) ?_ (by intro _ _; rfl) ?_ ?_ ?_
    | refine RepE.compR _ _ _ _ _ _ _ _ _ _ _ _ (by kernel_rfl) ?_ (by kernel_rfl) (by kernel_rfl) (by intro _; rfl) (by intro _ _; rfl) ?_ ?_
    | exact RepE.junk _ _
    | exact RepEs.nil _
    | refine RepEs.cons _ _ _ _ _ (by intro _; rfl) ?_ ?_
theorem fk_69 (P : Params) : FnOk (hd.heap_1 P) 69 ⟨[47], [], b_Path_room⟩ := by
  refine ⟨_, _, _, _, _, _, _, _, _, _, _, _, _, _, _, rfl, by kernel_rfl, ?rep, ?bind, ?par, by decide, ?cells, rfl, rfl, rfl⟩
  case bind =>
    intro s ws h
    obtain ⟨v0, rfl⟩ := len1 h
    exact BindsTo.of_eq rfl
  case par => decide +kernel
  case cells => exact .inl ⟨rfl, fun n => by kernel_rfl, noCell (by kernel_rfl)⟩
  repeat' first
    | exact RepSs.nil _
    | refine RepSs.cons _ _ _ _ _ ?_ ?_
    | refine RepS.ret _ _ _ _ ?_
    | refine RepS.expr _ _ _ _ (by intro _; rfl) ?_
    | refine RepS.assignComp _ _ _ _ _ _ _ (by decide) (by kernel_rfl) (by kernel_rfl) (by kernel_rfl) ?_ rfl
    | refine RepS.assignTup _ _ _ _ _ _ _ _ (by intro _; rfl) (by kernel_rfl) ?_ ?_
    | refine RepS.assignSw _ [] _ _ _ _ _ _ _ rfl (by intro _; rfl) (by kernel_rfl) (by decide +kernel) ?_
    | refine RepS.assign _ _ _ _ _ _ ?_ (by intro _; rfl) (by intro _; rfl) ?_ (by intro _; rfl)
    | refine RepS.augLoc _ _ _ _ _ _ _ (by decide) (by kernel_rfl) (by kernel_rfl) ?_
    | refine RepS.augAttr _ _ _ _ _ _ _ _ _ (by kernel_rfl) ?_ ?_
    | refine RepS.ife _ _ _ _ _ _ _ _ ?_ ?_ ?_
    | refine RepS.forR _ _ _ _ _ _ _ _ _ _ _ _ ⟨by decide, by kernel_rfl⟩ (by kernel_rfl) (by kernel_rfl) (by kernel_rfl) (by intro _; rfl) (by intro _ _; rfl) ?_ ?_
    | refine RepS.forL _ _ _ _ _ _ _ _ _ (by decide +kernel) ?_ (by intro _ _; rfl) ?_ ?_
    | exact RepS.junk _ _
    | refine RepTgt.loc _ _ _ _ (by decide) (by kernel_rfl) (by kernel_rfl)
    | refine RepTgt.cel _ _ _ _ (by decide) (by kernel_rfl) (by kernel_rfl)
    | refine RepTgt.attr _ _ _ _ _ _ (by kernel_rfl) ?_
    | refine RepTgt.sub _ _ _ _ _ _ ?_ ?_
    | exact RepTgs.nil _
    | refine RepTgs.cons _ _ _ _ _ (by intro _; rfl) ?_ ?_
    | refine RepTg.one _ _ _ (by decide) (by kernel_rfl)
    | refine RepTg.tup _ _ _ _ (by decide) ?_
    | exact NamesAre.nil
    | refine NamesAre.cons _ _ _ _ _ (by decide) (by kernel_rfl) ?_
    | exact KeysAre.nil
    | refine KeysAre.cons _ _ _ _ _ _ (by decide) (by kernel_rfl) ?_
    | refine RepE.loc _ _ _ _ (by decide) (by kernel_rfl) (by kernel_rfl) (by kernel_rfl)
    | refine RepE.cel _ _ _ _ (by decide) (by kernel_rfl) (by kernel_rfl) (by kernel_rfl)
    | refine RepE.glob _ _ _ _ (by decide) (by kernel_rfl) (by kernel_rfl) (by kernel_rfl)
    | exact RepE.int _ _ _ _
    | exact RepE.neg _ _ _ _ _ _ (by kernel_rfl)
    | exact RepE.str _ _ _ _ _ (by decide) (by kernel_rfl)
    | exact RepE.bool _ _ _ _
    | exact RepE.none _ _ _
    | refine RepE.bin _ _ _ _ _ _ _ _ (by kernel_rfl) ?_ ?_
    | refine RepE.cmp _ _ _ _ _ _ _ _ (by kernel_rfl) (by kernel_rfl) ?_ ?_
    | refine RepE.isIn _ _ _ _ _ _ (by kernel_rfl) ?_ ?_
    | refine RepE.notIn _ _ _ _ _ _ (by kernel_rfl) ?_ ?_
    | refine RepE.isNone _ _ _ _ _ _ ?_
    | refine RepE.notNone _ _ _ _ _ _ ?_
    | refine RepE.and _ _ _ _ _ _ _ ?_ ?_
    | refine RepE.or _ _ _ _ _ _ _ ?_ ?_
    | refine RepB.and _ _ _ _ _ _ _ ?_ ?_
    | refine RepB.or _ _ _ _ _ _ _ ?_ ?_
    | refine RepB.one _ _ _ _ _ ?_
    | refine RepE.not _ _ _ _ ?_
    | refine RepE.ife _ _ _ _ _ _ _ _ ?_ ?_ ?_
    | refine RepE.attr _ _ _ _ _ _ (by kernel_rfl) (by intro _; with_unfolding_all rfl) ?_
    | refine RepE.upto _ _ _ _ _ _ _ _ ?_
    | refine RepE.sub _ _ _ _ _ _ (by intro _ _; rfl) ?_ ?_
    | refine RepE.call _ _ _ _ _ _ _ ?_ ?_
    | refine RepE.meth _ _ _ _ _ _ _ _ _ _ (by kernel_rfl) (by intro _; rfl) ?_ ?_
    | refine RepE.b1 _ _ _ _ _ _ _ (by kernel_rfl) (by kernel_rfl) (by intro _; rfl) ?_
    | refine RepE.max _ _ _ _ _ _ _ _ (by kernel_rfl) (by kernel_rfl) (by intro _; rfl) ?_ ?_
    | refine RepE.tup _ _ _ _ _ (by decide) ?_
    | refine RepE.list _ _ _ _ (by decide) ?_
    | exact RepE.dict0 _ _
    | refine RepE.dict _ _ _ _ _ _ (by decide) (by kernel_rfl) (by simp) (by decide) ?_ ?_
    | refine RepE.comp _ _ _ _ _ _ _ _ _ _ (by kernel_rfl) ?_ (by intro _ _; rfl) ?_ ?_
    | refine RepE.compIf _ _ _ _ _ _ _ _ _ _ _ _ (by kernel_rfl) ?_ (by intro _ _; rfl) ?_ ?_ ?_
    | refine RepE.compR _ _ _ _ _ _ _ _ _ _ _ _ (by kernel_rfl) ?_ (by kernel_rfl) (by kernel_rfl) (by intro _; rfl) (by intro _ _; rfl) ?_ ?_
    | exact RepE.junk _ _
    | exact RepEs.nil _
    | refine RepEs.cons _ _ _ _ _ (by intro _; rfl) ?_ ?_
theorem fk_76 (P : Params) : FnOk (hd.heap_1 P) 76 ⟨[47, 53], [], b_Path_may_send⟩ := by
  refine ⟨_, _, _, _, _, _, _, _, _, _, _, _, _, _, _, rfl, by kernel_rfl, ?rep, ?bind, ?par, by decide, ?cells, rfl, rfl, rfl⟩
  case bind =>
    intro s ws h
    obtain ⟨v0, v1, rfl⟩ := len2 h
    exact BindsTo.of_eq rfl
  case par => decide +kernel
  case cells => exact .inl ⟨rfl, fun n => by kernel_rfl, noCell (by kernel_rfl)⟩
  repeat' first
    | exact RepSs.nil _
    | refine RepSs.cons _ _ _ _ _ ?_ ?_
    | refine RepS.ret _ _ _ _ ?_
    | refine RepS.expr _ _ _ _ (by intro _; rfl) ?_
    | refine RepS.assignComp _ _ _ _ _ _ _ (by decide) (by kernel_rfl) (by kernel_rfl) (by kernel_rfl) ?_ rfl
    | refine RepS.assignTup _ _ _ _ _ _ _ _ (by intro _; rfl) (by kernel_rfl) ?_ ?_
    | refine RepS.assignSw _ [] _ _ _ _ _ _ _ rfl (by intro _; rfl) (by kernel_rfl) (by decide +kernel) ?_
    | refine RepS.assign _ _ _ _ _ _ ?_ (by intro _; rfl) (by intro _; rfl) ?_ (by intro _; rfl)
    | refine RepS.augLoc _ _ _ _ _ _ _ (by decide) (by kernel_rfl) (by kernel_rfl) ?_
    | refine RepS.augAttr _ _ _ _ _ _ _ _ _ (by kernel_rfl) ?_ ?_
    | refine RepS.ife _ _ _ _ _ _ _ _ ?_ ?_ ?_
    | refine RepS.forR _ _ _ _ _ _ _ _ _ _ _ _ ⟨by decide, by kernel_rfl⟩ (by kernel_rfl) (by kernel_rfl) (by kernel_rfl) (by intro _; rfl) (by intro _ _; rfl) ?_ ?_
    | refine RepS.forL _ _ _ _ _ _ _ _ _ (by decide +kernel) ?_ (by intro _ _; rfl) ?_ ?_
    | exact RepS.junk _ _
    | refine RepTgt.loc _ _ _ _ (by decide) (by kernel_rfl) (by kernel_rfl)
    | refine RepTgt.cel _ _ _ _ (by decide) (by kernel_rfl) (by kernel_rfl)
    | refine RepTgt.attr _ _ _ _ _ _ (by kernel_rfl) ?_
    | refine RepTgt.sub _ _ _ _ _ _ ?_ ?_
    | exact RepTgs.nil _
    | refine RepTgs.cons _ _ _ _ _ (by intro _; rfl) ?_ ?_
    | refine RepTg.one _ _ _ (by decide) (by kernel_rfl)
    | refine RepTg.tup _ _ _ _ (by decide) ?_
    | exact NamesAre.nil
    | refine NamesAre.cons _ _ _ _ _ (by decide) (by kernel_rfl) ?_
    | exact KeysAre.nil
    | refine KeysAre.cons _ _ _ _ _ _ (by decide) (by kernel_rfl) ?_
    | refine RepE.loc _ _ _ _ (by decide) (by kernel_rfl) (by kernel_rfl) (by kernel_rfl)
    | refine RepE.cel _ _ _ _ (by decide) (by kernel_rfl) (by kernel_rfl) (by kernel_rfl)
    | refine RepE.glob _ _ _ _ (by decide) (by kernel_rfl) (by kernel_rfl) (by kernel_rfl)
    | exact RepE.int _ _ _ _
    | exact RepE.neg _ _ _ _ _ _ (by kernel_rfl)
    | exact RepE.str _ _ _ _ _ (by decide) (by kernel_rfl)
    | exact RepE.bool _ _ _ _
    | exact RepE.none _ _ _
    | refine RepE.bin _ _ _ _ _ _ _ _ (by kernel_rfl) ?_ ?_
    | refine RepE.cmp _ _ _ _ _ _ _ _ (by kernel_rfl) (by kernel_rfl) ?_ ?_
    | refine RepE.isIn _ _ _ _ _ _ (by kernel_rfl) ?_ ?_
    | refine RepE.notIn _ _ _ _ _ _ (by kernel_rfl) ?_ ?_
    | refine RepE.isNone _ _ _ _ _ _ ?_
    | refine RepE.notNone _ _ _ _ _ _ ?_
    | refine RepE.and _ _ _ _ _ _ _ ?_ ?_
    | refine RepE.or _ _ _ _ _ _ _ ?_ ?_
    | refine RepB.and _ _ _ _ _ _ _ ?_ ?_
    | refine RepB.or _ _ _ _ _ _ _ ?_ ?_
    | refine RepB.one _ _ _ _ _ ?_
    | refine RepE.not _ _ _ _ ?_
    | refine RepE.ife _ _ _ _ _ _ _ _ ?_ ?_ ?_
    | refine RepE.attr _ _ _ _ _ _ (by kernel_rfl) (by intro _; with_unfolding_all rfl) ?_
    | refine RepE.upto _ _ _ _ _ _ _ _ ?_
    | refine RepE.sub _ _ _ _ _ _ (by intro _ _; rfl) ?_ ?_
    | refine RepE.call _ _ _ _ _ _ _ ?_ ?_
    | refine RepE.meth _ _ _ _ _ _ _ _ _ _ (by kernel_rfl) (by intro _; rfl) ?_ ?_
    | refine RepE.b1 _ _ _ _ _ _ _ (by kernel_rfl) (by kernel_rfl) (by intro _; rfl) ?_
    | refine RepE.max _ _ _ _ _ _ _ _ (by kernel_rfl) (by kernel_rfl) (by intro _; rfl) ?_ ?_
    | refine RepE.tup _ _ _ _ _ (by decide) ?_
    | refine RepE.list _ _ _ _ (by decide) ?_
    | exact RepE.dict0 _ _
    | refine RepE.dict _ _ _ _ _ _ (by decide) (by kernel_rfl) (by simp) (by decide) ?_ ?_
    | refine RepE.comp _ _ _ _ _ _ _ _ _ _ (by kernel_rfl) ?_ (by intro _ _; rfl) ?_ ?_
    | refine RepE.compIf _ _ _ _ _ _ _ _ _ _ _ _ (by kernel_rfl) ?_ (by intro _ _; rfl) ?_ ?_ ?_
    | refine RepE.compR _ _ _ _ _ _ _ _ _ _ _ _ (by kernel_rfl) ?_ (by kernel_rfl) (by kernel_rfl) (by intro _; rfl) (by intro _ _; rfl) ?_ ?_
    | exact RepE.junk _ _
    | exact RepEs.nil _
    | refine RepEs.cons _ _ _ _ _ (by intro _; rfl) ?_ ?_
theorem fk_83 (P : Params) : FnOk (hd.heap_1 P) 83 ⟨[47, 53], [], b_Path_on_received⟩ := by
  refine ⟨_, _, _, _, _, _, _, _, _, _, _, _, _, _, _, rfl, by kernel_rfl, ?rep, ?bind, ?par, by decide, ?cells, rfl, rfl, rfl⟩
  case bind =>
    intro s ws h
    obtain ⟨v0, v1, rfl⟩ := len2 h
    exact BindsTo.of_eq rfl
  case par => decide +kernel
  case cells => exact .inl ⟨rfl, fun n => by kernel_rfl, noCell (by kernel_rfl)⟩
  repeat' first
    | exact RepSs.nil _
    | refine RepSs.cons _ _ _ _ _ ?_ ?_
    | refine RepS.ret _ _ _ _ ?_
    | refine RepS.expr _ _ _ _ (by intro _; rfl) ?_
    | refine RepS.assignComp _ _ _ _ _ _ _ (by decide) (by kernel_rfl) (by kernel_rfl) (by kernel_rfl) ?_ rfl
    | refine RepS.assignTup _ _ _ _ _ _ _ _ (by intro _; rfl) (by kernel_rfl) ?_ ?_
    | refine RepS.assignSw _ [] _ _ _ _ _ _ _ rfl (by intro _; rfl) (by kernel_rfl) (by decide +kernel) ?_
    | refine RepS.assign _ _ _ _ _ _ ?_ (by intro _; rfl) (by intro _; rfl) ?_ (by intro _; rfl)
    | refine RepS.augLoc _ _ _ _ _ _ _ (by decide) (by kernel_rfl) (by kernel_rfl) ?_
    | refine RepS.augAttr _ _ _ _ _ _ _ _ _ (by kernel_rfl) ?_ ?_
    | refine RepS.ife _ _ _ _ _ _ _ _ ?_ ?_ ?_
    | refine RepS.forR _ _ _ _ _ _ _ _ _ _ _ _ ⟨by decide, by kernel_rfl⟩ (by kernel_rfl) (by kernel_rfl) (by kernel_rfl) (by intro _; rfl) (by intro _ _; rfl) ?_ ?_
    | refine RepS.forL _ _ _ _ _ _ _ _ _ (by decide +kernel) ?_ (by intro _ _; rfl) ?_ ?_
    | exact RepS.junk _ _
    | refine RepTgt.loc _ _ _ _ (by decide) (by kernel_rfl) (by kernel_rfl)
    | refine RepTgt.cel _ _ _ _ (by decide) (by kernel_rfl) (by kernel_rfl)
    | refine RepTgt.attr _ _ _ _ _ _ (by kernel_rfl) ?_
    | refine RepTgt.sub _ _ _ _ _ _ ?_ ?_
    | exact RepTgs.nil _
    | refine RepTgs.cons _ _ _ _ _ (by intro _; rfl) ?_ ?_
    | refine RepTg.one _ _ _ (by decide) (by kernel_rfl)
    | refine RepTg.tup _ _ _ _ (by decide) ?_
    | exact NamesAre.nil
    | refine NamesAre.cons _ _ _ _ _ (by decide) (by kernel_rfl) ?_
    | exact KeysAre.nil
    | refine KeysAre.cons _ _ _ _ _ _ (by decide) (by kernel_rfl) ?_
    | refine RepE.loc _ _ _ _ (by decide) (by kernel_rfl) (by kernel_rfl) (by kernel_rfl)
    | refine RepE.cel _ _ _ _ (by decide) (by kernel_rfl) (by kernel_rfl) (by kernel_rfl)
    | refine RepE.glob _ _ _ _ (by decide) (by kernel_rfl) (by kernel_rfl) (by kernel_rfl)
    | exact RepE.int _ _ _ _
    | exact RepE.neg _ _ _ _ _ _ (by kernel_rfl)
    | exact RepE.str _ _ _ _ _ (by decide) (by kernel_rfl)
    | exact RepE.bool _ _ _ _
    | exact RepE.none _ _ _
    | refine RepE.bin _ _ _ _ _ _ _ _ (by kernel_rfl) ?_ ?_
    | refine RepE.cmp _ _ _ _ _ _ _ _ (by kernel_rfl) (by kernel_rfl) ?_ ?_
    | refine RepE.isIn _ _ _ _ _ _ (by kernel_rfl) ?_ ?_
    | refine RepE.notIn _ _ _ _ _ _ (by kernel_rfl) ?_ ?_
    | refine RepE.isNone _ _ _ _ _ _ ?_
    | refine RepE.notNone _ _ _ _ _ _ ?_
    | refine RepE.and _ _ _ _ _ _ _ ?_ ?_
    | refine RepE.or _ _ _ _ _ _ _ ?_ ?_
    | refine RepB.and _ _ _ _ _ _ _ ?_ ?_
    | refine RepB.or _ _ _ _ _ _ _ ?_ ?_
    | refine RepB.one _ _ _ _ _ ?_
    | refine RepE.not _ _ _ _ ?_
    | refine RepE.ife _ _ _ _ _ _ _ _ ?_ ?_ ?_
    | refine RepE.attr _ _ _ _ _ _ (by kernel_rfl) (by intro _; with_unfolding_all rfl) ?_
    | refine RepE.upto _ _ _ _ _ _ _ _ ?_
    | refine RepE.sub _ _ _ _ _ _ (by intro _ _; rfl) ?_ ?_
    | refine RepE.call _ _ _ _ _ _ _ ?_ ?_
    | refine RepE.meth _ _ _ _ _ _ _ _ _ _ (by kernel_rfl) (by intro _; rfl) ?_ ?_
    | refine RepE.b1 _ _ _ _ _ _ _ (by kernel_rfl) (by kernel_rfl) (by intro _; rfl) ?_
    | refine RepE.max _ _ _ _ _ _ _ _ (by kernel_rfl) (by kernel_rfl) (by intro _; rfl) ?_ ?_
    | refine RepE.tup _ _ _ _ _ (by decide) ?_
    | refine RepE.list _ _ _ _ (by decide) ?_
    | exact RepE.dict0 _ _
    | refine RepE.dict _ _ _ _ _ _ (by decide) (by kernel_rfl) (by simp) (by decide) ?_ ?_
    | refine RepE.comp _ _ _ _ _ _ _ _ _ _ (by kernel_rfl) ?_ (by intro _ _; rfl) ?_ ?_
    | refine RepE.compIf _ _ _ _ _ _ _ _ _ _ _ _ (by kernel_rfl) ?_ (by intro _ _; rfl) ?_ ?_ ?_
    | refine RepE.compR _ _ _ _ _ _ _ _ _ _ _ _ (by kernel_rfl) ?_ (by kernel_rfl) (by kernel_rfl) (by intro _; rfl) (by intro _ _; rfl) ?_ ?_
    | exact RepE.junk _ _
    | exact RepEs.nil _
    | refine RepEs.cons _ _ _ _ _ (by intro _; rfl) ?_ ?_
theorem fk_90 (P : Params) : FnOk (hd.heap_1 P) 90 ⟨[47, 53], [], b_Path_on_sent⟩ := by
  refine ⟨_, _, _, _, _, _, _, _, _, _, _, _, _, _, _, rfl, by kernel_rfl, ?rep, ?bind, ?par, by decide, ?cells, rfl, rfl, rfl⟩
  case bind =>
    intro s ws h
    obtain ⟨v0, v1, rfl⟩ := len2 h
    exact BindsTo.of_eq rfl
  case par => decide +kernel
  case cells => exact .inl ⟨rfl, fun n => by kernel_rfl, noCell (by kernel_rfl)⟩
  repeat' first
    | exact RepSs.nil _
    | refine RepSs.cons _ _ _ _ _ ?_ ?_
    | refine RepS.ret _ _ _ _ ?_
    | refine RepS.expr _ _ _ _ (by intro _; rfl) ?_
    | refine RepS.assignComp _ _ _ _ _ _ _ (by decide) (by kernel_rfl) (by kernel_rfl) (by kernel_rfl) ?_ rfl
    | refine RepS.assignTup _ _ _ _ _ _ _ _ (by intro _; rfl) (by kernel_rfl) ?_ ?_
    | refine RepS.assignSw _ [] _ _ _ _ _ _ _ rfl (by intro _; rfl) (by kernel_rfl) (by decide +kernel) ?_
    | refine RepS.assign _ _ _ _ _ _ ?_ (by intro _; rfl) (by intro _; rfl) ?_ (by intro _; rfl)
    | refine RepS.augLoc _ _ _ _ _ _ _ (by decide) (by kernel_rfl) (by kernel_rfl) ?_
    | refine RepS.augAttr _ _ _ _ _ _ _ _ _ (by kernel_rfl) ?_ ?_
    | refine RepS.ife _ _ _ _ _ _ _ _ ?_ ?_ ?_
    | refine RepS.forR _ _ _ _ _ _ _ _ _ _ _ _ ⟨by decide, by kernel_rfl⟩ (by kernel_rfl) (by kernel_rfl) (by kernel_rfl) (by intro _; rfl) (by intro _ _; rfl) ?_ ?_
    | refine RepS.forL _ _ _ _ _ _ _ _ _ (by decide +kernel) ?_ (by intro _ _; rfl) ?_ ?_
    | exact RepS.junk _ _
    | refine RepTgt.loc _ _ _ _ (by decide) (by kernel_rfl) (by kernel_rfl)
    | refine RepTgt.cel _ _ _ _ (by decide) (by kernel_rfl) (by kernel_rfl)
    | refine RepTgt.attr _ _ _ _ _ _ (by kernel_rfl) ?_
    | refine RepTgt.sub _ _ _ _ _ _ ?_ ?_
    | exact RepTgs.nil _
    | refine RepTgs.cons _ _ _ _ _ (by intro _; rfl) ?_ ?_
    | refine RepTg.one _ _ _ (by decide) (by kernel_rfl)
    | refine RepTg.tup _ _ _ _ (by decide) ?_
    | exact NamesAre.nil
    | refine NamesAre.cons _ _ _ _ _ (by decide) (by kernel_rfl) ?_
    | exact KeysAre.nil
    | refine KeysAre.cons _ _ _ _ _ _ (by decide) (by kernel_rfl) ?_
    | refine RepE.loc _ _ _ _ (by decide) (by kernel_rfl) (by kernel_rfl) (by kernel_rfl)
    | refine RepE.cel _ _ _ _ (by decide) (by kernel_rfl) (by kernel_rfl) (by kernel_rfl)
    | refine RepE.glob _ _ _ _ (by decide) (by kernel_rfl) (by kernel_rfl) (by kernel_rfl)
    | exact RepE.int _ _ _ _
    | exact RepE.neg _ _ _ _ _ _ (by kernel_rfl)
    | exact RepE.str _ _ _ _ _ (by decide) (by kernel_rfl)
    | exact RepE.bool _ _ _ _
    | exact RepE.none _ _ _
    | refine RepE.bin _ _ _ _ _ _ _ _ (by kernel_rfl) ?_ ?_
    | refine RepE.cmp _ _ _ _ _ _ _ _ (by kernel_rfl) (by kernel_rfl) ?_ ?_
    | refine RepE.isIn _ _ _ _ _ _ (by kernel_rfl) ?_ ?_
    | refine RepE.notIn _ _ _ _ _ _ (by kernel_rfl) ?_ ?_
    | refine RepE.isNone _ _ _ _ _ _ ?_
    | refine RepE.notNone _ _ _ _ _ _ ?_
    | refine RepE.and _ _ _ _ _ _ _ ?_ ?_
    | refine RepE.or _ _ _ _ _ _ _ ?_ ?_
    | refine RepB.and _ _ _ _ _ _ _ ?_ ?_
    | refine RepB.or _ _ _ _ _ _ _ ?_ ?_
    | refine RepB.one _ _ _ _ _ ?_
    | refine RepE.not _ _ _ _ ?_
    | refine RepE.ife _ _ _ _ _ _ _ _ ?_ ?_ ?_
    | refine RepE.attr _ _ _ _ _ _ (by kernel_rfl) (by intro _; with_unfolding_all rfl) ?_
    | refine RepE.upto _ _ _ _ _ _ _ _ ?_
    | refine RepE.sub _ _ _ _ _ _ (by intro _ _; rfl) ?_ ?_
    | refine RepE.call _ _ _ _ _ _ _ ?_ ?_
    | refine RepE.meth _ _ _ _ _ _ _ _ _ _ (by kernel_rfl) (by intro _; rfl) ?_ ?_
    | refine RepE.b1 _ _ _ _ _ _ _ (by kernel_rfl) (by kernel_rfl) (by intro _; rfl) ?_
    | refine RepE.max _ _ _ _ _ _ _ _ (by kernel_rfl) (by kernel_rfl) (by intro _; rfl) ?_ ?_
    | refine RepE.tup _ _ _ _ _ (by decide) ?_
    | refine RepE.list _ _ _ _ (by decide) ?_
    | exact RepE.dict0 _ _
    | refine RepE.dict _ _ _ _ _ _ (by decide) (by kernel_rfl) (by simp) (by decide) ?_ ?_
    | refine RepE.comp _ _ _ _ _ _ _ _ _ _ (by kernel_rfl) ?_ (by intro _ _; rfl) ?_ ?_
    | refine RepE.compIf _ _ _ _ _ _ _ _ _ _ _ _ (by kernel_rfl) ?_ (by intro _ _; rfl) ?_ ?_ ?_
    | refine RepE.compR _ _ _ _ _ _ _ _ _ _ _ _ (by kernel_rfl) ?_ (by kernel_rfl) (by kernel_rfl) (by intro _; rfl) (by intro _ _; rfl) ?_ ?_
    | exact RepE.junk _ _
    | exact RepEs.nil _
    | refine RepEs.cons _ _ _ _ _ (by intro _; rfl) ?_ ?_
theorem fk_104 (P : Params) : FnOk (hd.heap_1 P) 104 ⟨[47, 56, 18, 17], [], b_Path_challenge⟩ := by
  refine ⟨_, _, _, _, _, _, _, _, _, _, _, _, _, _, _, rfl, by kernel_rfl, ?rep, ?bind, ?par, by decide, ?cells, rfl, rfl, rfl⟩
  case bind =>
    intro s ws h
    obtain ⟨v0, v1, v2, v3, rfl⟩ := len4 h
    exact BindsTo.of_eq rfl
  case par => decide +kernel
  case cells => exact .inl ⟨rfl, fun n => by kernel_rfl, noCell (by kernel_rfl)⟩
  repeat' first
    | exact RepSs.nil _
    | refine RepSs.cons _ _ _ _ _ ?_ ?_
    | refine RepS.ret _ _ _ _ ?_
    | refine RepS.expr _ _ _ _ (by intro _; rfl) ?_
    | refine RepS.assignComp _ _ _ _ _ _ _ (by decide) (by kernel_rfl) (by kernel_rfl) (by kernel_rfl) ?_ rfl
    | refine RepS.assignTup _ _ _ _ _ _ _ _ (by intro _; rfl) (by kernel_rfl) ?_ ?_
    | refine RepS.assignSw _ [] _ _ _ _ _ _ _ rfl (by intro _; rfl) (by kernel_rfl) (by decide +kernel) ?_
    | refine RepS.assign _ _ _ _ _ _ ?_ (by intro _; rfl) (by intro _; rfl) ?_ (by intro _; rfl)
    | refine RepS.augLoc _ _ _ _ _ _ _ (by decide) (by kernel_rfl) (by kernel_rfl) ?_
    | refine RepS.augAttr _ _ _ _ _ _ _ _ _ (by kernel_rfl) ?_ ?_
    | refine RepS.ife _ _ _ _ _ _ _ _ ?_ ?_ ?_
    | refine RepS.forR _ _ _ _ _ _ _ _ _ _ _ _ ⟨by decide, by kernel_rfl⟩ (by kernel_rfl) (by kernel_rfl) (by kernel_rfl) (by intro _; rfl) (by intro _ _; rfl) ?_ ?_
    | refine RepS.forL _ _ _ _ _ _ _ _ _ (by decide +kernel) ?_ (by intro _ _; rfl) ?_ ?_
    | exact RepS.junk _ _
    | refine RepTgt.loc _ _ _ _ (by decide) (by kernel_rfl) (by kernel_rfl)
    | refine RepTgt.cel _ _ _ _ (by decide) (by kernel_rfl) (by kernel_rfl)
    | refine RepTgt.attr _ _ _ _ _ _ (by kernel_rfl) ?_
    | refine RepTgt.sub _ _ _ _ _ _ ?_ ?_
    | exact RepTgs.nil _
    | refine RepTgs.cons _ _ _ _ _ (by intro _; rfl) ?_ ?_
    | refine RepTg.one _ _ _ (by decide) (by kernel_rfl)
    | refine RepTg.tup _ _ _ _ (by decide) ?_
    | exact NamesAre.nil
    | refine NamesAre.cons _ _ _ _ _ (by decide) (by kernel_rfl) ?_
    | exact KeysAre.nil
    | refine KeysAre.cons _ _ _ _ _ _ (by decide) (by kernel_rfl) ?_
    | refine RepE.loc _ _ _ _ (by decide) (by kernel_rfl) (by kernel_rfl) (by kernel_rfl)
    | refine RepE.cel _ _ _ _ (by decide) (by kernel_rfl) (by kernel_rfl) (by kernel_rfl)
    | refine RepE.glob _ _ _ _ (by decide) (by kernel_rfl) (by kernel_rfl) (by kernel_rfl)
    | exact RepE.int _ _ _ _
    | exact RepE.neg _ _ _ _ _ _ (by kernel_rfl)
    | exact RepE.str _ _ _ _ _ (by decide) (by kernel_rfl)
    | exact RepE.bool _ _ _ _
    | exact RepE.none _ _ _
    | refine RepE.bin _ _ _ _ _ _ _ _ (by kernel_rfl) ?_ ?_
    | refine RepE.cmp _ _ _ _ _ _ _ _ (by kernel_rfl) (by kernel_rfl) ?_ ?_
    | refine RepE.isIn _ _ _ _ _ _ (by kernel_rfl) ?_ ?_
    | refine RepE.notIn _ _ _ _ _ _ (by kernel_rfl) ?_ ?_
    | refine RepE.isNone _ _ _ _ _ _ ?_
    | refine RepE.notNone _ _ _ _ _ _ ?_
    | refine RepE.and _ _ _ _ _ _ _ ?_ ?_
    | refine RepE.or _ _ _ _ _ _ _ ?_ ?_
    | refine RepB.and _ _ _ _ _ _ _ ?_ ?_
    | refine RepB.or _ _ _ _ _ _ _ ?_ ?_
    | refine RepB.one _ _ _ _ _ ?_
    | refine RepE.not _ _ _ _ ?_
    | refine RepE.ife _ _ _ _ _ _ _ _ ?_ ?_ ?_
    | refine RepE.attr _ _ _ _ _ _ (by kernel_rfl) (by intro _; with_unfolding_all rfl) ?_
    | refine RepE.upto _ _ _ _ _ _ _ _ ?_
    | refine RepE.sub _ _ _ _ _ _ (by intro _ _; rfl) ?_ ?_
    | refine RepE.call _ _ _ _ _ _ _ ?_ ?_
    | refine RepE.meth _ _ _ _ _ _ _ _ _ _ (by kernel_rfl) (by intro _; rfl) ?_ ?_
    | refine RepE.b1 _ _ _ _ _ _ _ (by kernel_rfl) (by kernel_rfl) (by intro _; rfl) ?_
    | refine RepE.max _ _ _ _ _ _ _ _ (by kernel_rfl) (by kernel_rfl) (by intro _; rfl) ?_ ?_
    | refine RepE.tup _ _ _ _ _ (by decide) ?_
    | refine RepE.list _ _ _ _ (by decide) ?_
    | exact RepE.dict0 _ _
    | refine RepE.dict _ _ _ _ _ _ (by decide) (by kernel_rfl) (by simp) (by decide) ?_ ?_
    | refine RepE.comp _ _ _ _ _ _ _ _ _ _ (by kernel_rfl) ?_ (by intro _ _; rfl) ?_ ?_
    | refine RepE.compIf _ _ _ _ _ _ _ _ _ _ _ _ (by kernel_rfl) ?_ (by intro _ _; rfl) ?_ ?_ ?_
    | refine RepE.compR _ _ _ _ _ _ _ _ _ _ _ _ (by kernel_rfl) ?_ (by kernel_rfl) (by kernel_rfl) (by intro _; rfl) (by intro _ _; rfl) ?_ ?_
    | exact RepE.junk _ _
    | exact RepEs.nil _
    | refine RepEs.cons _ _ _ _ _ (by intro _; rfl) ?_ ?_
theorem fk_111 (P : Params) : FnOk (hd.heap_1 P) 111 ⟨[47], [], b_Path_fail⟩ := by
  refine ⟨_, _, _, _, _, _, _, _, _, _, _, _, _, _, _, rfl, by kernel_rfl, ?rep, ?bind, ?par, by decide, ?cells, rfl, rfl, rfl⟩
  case bind =>
    intro s ws h
    obtain ⟨v0, rfl⟩ := len1 h
    exact BindsTo.of_eq rfl
  case par => decide +kernel
  case cells => exact .inl ⟨rfl, fun n => by kernel_rfl, noCell (by kernel_rfl)⟩
  repeat' first
    | exact RepSs.nil _
    | refine RepSs.cons _ _ _ _ _ ?_ ?_
    | refine RepS.ret _ _ _ _ ?_
    | refine RepS.expr _ _ _ _ (by intro _; rfl) ?_
    | refine RepS.assignComp _ _ _ _ _ _ _ (by decide) (by kernel_rfl) (by kernel_rfl) (by kernel_rfl) ?_ rfl
    | refine RepS.assignTup _ _ _ _ _ _ _ _ (by intro _; rfl) (by kernel_rfl) ?_ ?_
    | refine RepS.assignSw _ [] _ _ _ _ _ _ _ rfl (by intro _; rfl) (by kernel_rfl) (by decide +kernel) ?_
    | refine RepS.assign _ _ _ _ _ _ ?_ (by intro _; rfl) (by intro _; rfl) ?_ (by intro _; rfl)
    | refine RepS.augLoc _ _ _ _ _ _ _ (by decide) (by kernel_rfl) (by kernel_rfl) ?_
    | refine RepS.augAttr _ _ _ _ _ _ _ _ _ (by kernel_rfl) ?_ ?_
    | refine RepS.ife _ _ _ _ _ _ _ _ ?_ ?_ ?_
    | refine RepS.forR _ _ _ _ _ _ _ _ _ _ _ _ ⟨by decide, by kernel_rfl⟩ (by kernel_rfl) (by kernel_rfl) (by kernel_rfl) (by intro _; rfl) (by intro _ _; rfl) ?_ ?_
    | refine RepS.forL _ _ _ _ _ _ _ _ _ (by decide +kernel) ?_ (by intro _ _; rfl) ?_ ?_
    | exact RepS.junk _ _
    | refine RepTgt.loc _ _ _ _ (by decide) (by kernel_rfl) (by kernel_rfl)
    | refine RepTgt.cel _ _ _ _ (by decide) (by kernel_rfl) (by kernel_rfl)
    | refine RepTgt.attr _ _ _ _ _ _ (by kernel_rfl) ?_
    | refine RepTgt.sub _ _ _ _ _ _ ?_ ?_
    | exact RepTgs.nil _
    | refine RepTgs.cons _ _ _ _ _ (by intro _; rfl) ?_ ?_
    | refine RepTg.one _ _ _ (by decide) (by kernel_rfl)
    | refine RepTg.tup _ _ _ _ (by decide) ?_
    | exact NamesAre.nil
    | refine NamesAre.cons _ _ _ _ _ (by decide) (by kernel_rfl) ?_
    | exact KeysAre.nil
    | refine KeysAre.cons _ _ _ _ _ _ (by decide) (by kernel_rfl) ?_
    | refine RepE.loc _ _ _ _ (by decide) (by kernel_rfl) (by kernel_rfl) (by kernel_rfl)
    | refine RepE.cel _ _ _ _ (by decide) (by kernel_rfl) (by kernel_rfl) (by kernel_rfl)
    | refine RepE.glob _ _ _ _ (by decide) (by kernel_rfl) (by kernel_rfl) (by kernel_rfl)
    | exact RepE.int _ _ _ _
    | exact RepE.neg _ _ _ _ _ _ (by kernel_rfl)
    | exact RepE.str _ _ _ _ _ (by decide) (by kernel_rfl)
    | exact RepE.bool _ _ _ _
    | exact RepE.none _ _ _
    | refine RepE.bin _ _ _ _ _ _ _ _ (by kernel_rfl) ?_ ?_
    | refine RepE.cmp _ _ _ _ _ _ _ _ (by kernel_rfl) (by kernel_rfl) ?_ ?_
    | refine RepE.isIn _ _ _ _ _ _ (by kernel_rfl) ?_ ?_
    | refine RepE.notIn _ _ _ _ _ _ (by kernel_rfl) ?_ ?_
    | refine RepE.isNone _ _ _ _ _ _ ?_
    | refine RepE.notNone _ _ _ _ _ _ ?_
    | refine RepE.and _ _ _ _ _ _ _ ?_ ?_
    | refine RepE.or _ _ _ _ _ _ _ ?_ ?_
    | refine RepB.and _ _ _ _ _ _ _ ?_ ?_
    | refine RepB.or _ _ _ _ _ _ _ ?_ ?_
    | refine RepB.one _ _ _ _ _ ?_
    | refine RepE.not _ _ _ _ ?_
    | refine RepE.ife _ _ _ _ _ _ _ _ ?_ ?_ ?_
    | refine RepE.attr _ _ _ _ _ _ (by kernel_rfl) (by intro _; with_unfolding_all rfl) ?_
    | refine RepE.upto _ _ _ _ _ _ _ _ ?_
    | refine RepE.sub _ _ _ _ _ _ (by intro _ _; rfl) ?_ ?_
    | refine RepE.call _ _ _ _ _ _ _ ?_ ?_
    | refine RepE.meth _ _ _ _ _ _ _ _ _ _ (by kernel_rfl) (by intro _; rfl) ?_ ?_
    | refine RepE.b1 _ _ _ _ _ _ _ (by kernel_rfl) (by kernel_rfl) (by intro _; rfl) ?_
    | refine RepE.max _ _ _ _ _ _ _ _ (by kernel_rfl) (by kernel_rfl) (by intro _; rfl) ?_ ?_
    | refine RepE.tup _ _ _ _ _ (by decide) ?_
    | refine RepE.list _ _ _ _ (by decide) ?_
    | exact RepE.dict0 _ _
    | refine RepE.dict _ _ _ _ _ _ (by decide) (by kernel_rfl) (by simp) (by decide) ?_ ?_
    | refine RepE.comp _ _ _ _ _ _ _ _ _ _ (by kernel_rfl) ?_ (by intro _ _; rfl) ?_ ?_
    | refine RepE.compIf _ _ _ _ _ _ _ _ _ _ _ _ (by kernel_rfl) ?_ (by intro _ _; rfl) ?_ ?_ ?_
    | refine RepE.compR _ _ _ _ _ _ _ _ _ _ _ _ (by kernel_rfl) ?_ (by kernel_rfl) (by kernel_rfl) (by intro _; rfl) (by intro _ _; rfl) ?_ ?_
    | exact RepE.junk _ _
    | exact RepEs.nil _
    | refine RepEs.cons _ _ _ _ _ (by intro _; rfl) ?_ ?_
theorem fk_118 (P : Params) : FnOk (hd.heap_1 P) 118 ⟨[47], [], b_Path_renew⟩ := by
  refine ⟨_, _, _, _, _, _, _, _, _, _, _, _, _, _, _, rfl, by kernel_rfl, ?rep, ?bind, ?par, by decide, ?cells, rfl, rfl, rfl⟩
  case bind =>
    intro s ws h
    obtain ⟨v0, rfl⟩ := len1 h
    exact BindsTo.of_eq rfl
  case par => decide +kernel
  case cells => exact .inl ⟨rfl, fun n => by kernel_rfl, noCell (by kernel_rfl)⟩
  repeat' first
    | exact RepSs.nil _
    | refine RepSs.cons _ _ _ _ _ ?_ ?_
    | refine RepS.ret _ _ _ _ ?_
    | refine RepS.expr _ _ _ _ (by intro _; rfl) ?_
    | refine RepS.assignComp _ _ _ _ _ _ _ (by decide) (by kernel_rfl) (by kernel_rfl) (by kernel_rfl) ?_ rfl
    | refine RepS.assignTup _ _ _ _ _ _ _ _ (by intro _; rfl) (by kernel_rfl) ?_ ?_
    | refine RepS.assignSw _ [] _ _ _ _ _ _ _ rfl (by intro _; rfl) (by kernel_rfl) (by decide +kernel) ?_
    | refine RepS.assign _ _ _ _ _ _ ?_ (by intro _; rfl) (by intro _; rfl) ?_ (by intro _; rfl)
    | refine RepS.augLoc _ _ _ _ _ _ _ (by decide) (by kernel_rfl) (by kernel_rfl) ?_
    | refine RepS.augAttr _ _ _ _ _ _ _ _ _ (by kernel_rfl) ?_ ?_
    | refine RepS.ife _ _ _ _ _ _ _ _ ?_ ?_ ?_
    | refine RepS.forR _ _ _ _ _ _ _ _ _ _ _ _ ⟨by decide, by kernel_rfl⟩ (by kernel_rfl) (by kernel_rfl) (by kernel_rfl) (by intro _; rfl) (by intro _ _; rfl) ?_ ?_
    | refine RepS.forL _ _ _ _ _ _ _ _ _ (by decide +kernel) ?_ (by intro _ _; rfl) ?_ ?_
    | exact RepS.junk _ _
    | refine RepTgt.loc _ _ _ _ (by decide) (by kernel_rfl) (by kernel_rfl)
    | refine RepTgt.cel _ _ _ _ (by decide) (by kernel_rfl) (by kernel_rfl)
    | refine RepTgt.attr _ _ _ _ _ _ (by kernel_rfl) ?_
    | refine RepTgt.sub _ _ _ _ _ _ ?_ ?_
    | exact RepTgs.nil _
    | refine RepTgs.cons _ _ _ _ _ (by intro _; rfl) ?_ ?_
    | refine RepTg.one _ _ _ (by decide) (by kernel_rfl)
    | refine RepTg.tup _ _ _ _ (by decide) ?_
    | exact NamesAre.nil
    | refine NamesAre.cons _ _ _ _ _ (by decide) (by kernel_rfl) ?_
    | exact KeysAre.nil
    | refine KeysAre.cons _ _ _ _ _ _ (by decide) (by kernel_rfl) ?_
    | refine RepE.loc _ _ _ _ (by decide) (by kernel_rfl) (by kernel_rfl) (by kernel_rfl)
    | refine RepE.cel _ _ _ _ (by decide) (by kernel_rfl) (by kernel_rfl) (by kernel_rfl)
    | refine RepE.glob _ _ _ _ (by decide) (by kernel_rfl) (by kernel_rfl) (by kernel_rfl)
    | exact RepE.int _ _ _ _
    | exact RepE.neg _ _ _ _ _ _ (by kernel_rfl)
    | exact RepE.str _ _ _ _ _ (by decide) (by kernel_rfl)
    | exact RepE.bool _ _ _ _
    | exact RepE.none _ _ _
    | refine RepE.bin _ _ _ _ _ _ _ _ (by kernel_rfl) ?_ ?_
    | refine RepE.cmp _ _ _ _ _ _ _ _ (by kernel_rfl) (by kernel_rfl) ?_ ?_
    | refine RepE.isIn _ _ _ _ _ _ (by kernel_rfl) ?_ ?_
    | refine RepE.notIn _ _ _ _ _ _ (by kernel_rfl) ?_ ?_
    | refine RepE.isNone _ _ _ _ _ _ ?_
    | refine RepE.notNone _ _ _ _ _ _ ?_
    | refine RepE.and _ _ _ _ _ _ _ ?_ ?_
    | refine RepE.or _ _ _ _ _ _ _ ?_ ?_
    | refine RepB.and _ _ _ _ _ _ _ ?_ ?_
    | refine RepB.or _ _ _ _ _ _ _ ?_ ?_
    | refine RepB.one _ _ _ _ _ ?_
    | refine RepE.not _ _ _ _ ?_
    | refine RepE.ife _ _ _ _ _ _ _ _ ?_ ?_ ?_
    | refine RepE.attr _ _ _ _ _ _ (by kernel_rfl) (by intro _; with_unfolding_all rfl) ?_
    | refine RepE.upto _ _ _ _ _ _ _ _ ?_
    | refine RepE.sub _ _ _ _ _ _ (by intro _ _; rfl) ?_ ?_
    | refine RepE.call _ _ _ _ _ _ _ ?_ ?_
    | refine RepE.meth _ _ _ _ _ _ _ _ _ _ (by kernel_rfl) (by intro _; rfl) ?_ ?_
    | refine RepE.b1 _ _ _ _ _ _ _ (by kernel_rfl) (by kernel_rfl) (by intro _; rfl) ?_
    | refine RepE.max _ _ _ _ _ _ _ _ (by kernel_rfl) (by kernel_rfl) (by intro _; rfl) ?_ ?_
    | refine RepE.tup _ _ _ _ _ (by decide) ?_
    | refine RepE.list _ _ _ _ (by decide) ?_
    | exact RepE.dict0 _ _
    | refine RepE.dict _ _ _ _ _ _ (by decide) (by kernel_rfl) (by simp) (by decide) ?_ ?_
    | refine RepE.comp _ _ _ _ _ _ _ _ _ _ (by kernel_rfl) ?_ (by intro _ _; rfl) ?_ ?_
    | refine RepE.compIf _ _ _ _ _ _ _ _ _ _ _ _ (by kernel_rfl) ?_ (by intro _ _; rfl) ?_ ?_ ?_
    | refine RepE.compR _ _ _ _ _ _ _ _ _ _ _ _ (by kernel_rfl) ?_ (by kernel_rfl) (by kernel_rfl) (by intro _; rfl) (by intro _ _; rfl) ?_ ?_
    | exact RepE.junk _ _
    | exact RepEs.nil _
    | refine RepEs.cons _ _ _ _ _ (by intro _; rfl) ?_ ?_
theorem fk_139 (P : Params) : FnOk (hd.heap_1 P) 139 ⟨[47, 33, 26, 48, 34], [], b_Paths_init⟩ := by
  refine ⟨_, _, _, _, _, _, _, _, _, _, _, _, _, _, _, rfl, by kernel_rfl, ?rep, ?bind, ?par, by decide, ?cells, rfl, rfl, rfl⟩
  case bind =>
    intro s ws h
    obtain ⟨v0, v1, v2, v3, v4, rfl⟩ := len5 h
    exact BindsTo.of_eq rfl
  case par => decide +kernel
  case cells => exact .inl ⟨rfl, fun n => by kernel_rfl, noCell (by kernel_rfl)⟩
  repeat' first
    | exact RepSs.nil _
    | refine RepSs.cons _ _ _ _ _ ?_ ?_
    | refine RepS.ret _ _ _ _ ?_
    | refine RepS.expr _ _ _ _ (by intro _; rfl) ?_
    | refine RepS.assignComp _ _ _ _ _ _ _ (by decide) (by kernel_rfl) (by kernel_rfl) (by kernel_rfl) ?_ rfl
    | refine RepS.assignTup _ _ _ _ _ _ _ _ (by intro _; rfl) (by kernel_rfl) ?_ ?_
    | refine RepS.assignSw _ [] _ _ _ _ _ _ _ rfl (by intro _; rfl) (by kernel_rfl) (by decide +kernel) ?_
    | refine RepS.assign _ _ _ _ _ _ ?_ (by intro _; rfl) (by intro _; rfl) ?_ (by intro _; rfl)
    | refine RepS.augLoc _ _ _ _ _ _ _ (by decide) (by kernel_rfl) (by kernel_rfl) ?_
    | refine RepS.augAttr _ _ _ _ _ _ _ _ _ (by kernel_rfl) ?_ ?_
    | refine RepS.ife _ _ _ _ _ _ _ _ ?_ ?_ ?_
    | refine RepS.forR _ _ _ _ _ _ _ _ _ _ _ _ ⟨by decide, by kernel_rfl⟩ (by kernel_rfl) (by kernel_rfl) (by kernel_rfl) (by intro _; rfl) (by intro _ _; rfl) ?_ ?_
    | refine RepS.forL _ _ _ _ _ _ _ _ _ (by decide +kernel) ?_ (by intro _ _; rfl) ?_ ?_
    | exact RepS.junk _ _
    | refine RepTgt.loc _ _ _ _ (by decide) (by kernel_rfl) (by kernel_rfl)
    | refine RepTgt.cel _ _ _ _ (by decide) (by kernel_rfl) (by kernel_rfl)
    | refine RepTgt.attr _ _ _ _ _ _ (by kernel_rfl) ?_
    | refine RepTgt.sub _ _ _ _ _ _ ?_ ?_
    | exact RepTgs.nil _
    | refine RepTgs.cons _ _ _ _ _ (by intro _; rfl) ?_ ?_
    | refine RepTg.one _ _ _ (by decide) (by kernel_rfl)
    | refine RepTg.tup _ _ _ _ (by decide) ?_
    | exact NamesAre.nil
    | refine NamesAre.cons _ _ _ _ _ (by decide) (by kernel_rfl) ?_
    | exact KeysAre.nil
    | refine KeysAre.cons _ _ _ _ _ _ (by decide) (by kernel_rfl) ?_
    | refine RepE.loc _ _ _ _ (by decide) (by kernel_rfl) (by kernel_rfl) (by kernel_rfl)
    | refine RepE.cel _ _ _ _ (by decide) (by kernel_rfl) (by kernel_rfl) (by kernel_rfl)
    | refine RepE.glob _ _ _ _ (by decide) (by kernel_rfl) (by kernel_rfl) (by kernel_rfl)
    | exact RepE.int _ _ _ _
    | exact RepE.neg _ _ _ _ _ _ (by kernel_rfl)
    | exact RepE.str _ _ _ _ _ (by decide) (by kernel_rfl)
    | exact RepE.bool _ _ _ _
    | exact RepE.none _ _ _
    | refine RepE.bin _ _ _ _ _ _ _ _ (by kernel_rfl) ?_ ?_
    | refine RepE.cmp _ _ _ _ _ _ _ _ (by kernel_rfl) (by kernel_rfl) ?_ ?_
    | refine RepE.isIn _ _ _ _ _ _ (by kernel_rfl) ?_ ?_
    | refine RepE.notIn _ _ _ _ _ _ (by kernel_rfl) ?_ ?_
    | refine RepE.isNone _ _ _ _ _ _ ?_
    | refine RepE.notNone _ _ _ _ _ _ ?_
    | refine RepE.and _ _ _ _ _ _ _ ?_ ?_
    | refine RepE.or _ _ _ _ _ _ _ ?_ ?_
    | refine RepB.and _ _ _ _ _ _ _ ?_ ?_
    | refine RepB.or _ _ _ _ _ _ _ ?_ ?_
    | refine RepB.one _ _ _ _ _ ?_
    | refine RepE.not _ _ _ _ ?_
    | refine RepE.ife _ _ _ _ _ _ _ _ ?_ ?_ ?_
    | refine RepE.attr _ _ _ _ _ _ (by kernel_rfl) (by intro _; with_unfolding_all rfl) ?_
    | refine RepE.upto _ _ _ _ _ _ _ _ ?_
    | refine RepE.sub _ _ _ _ _ _ (by intro _ _; rfl) ?_ ?_
    | refine RepE.call _ _ _ _ _ _ _ ?_ ?_
    | refine RepE.meth _ _ _ _ _ _ _ _ _ _ (by kernel_rfl) (by intro _; rfl) ?_ ?_
    | refine RepE.b1 _ _ _ _ _ _ _ (by kernel_rfl) (by kernel_rfl) (by intro _; rfl) ?_
    | refine RepE.max _ _ _ _ _ _ _ _ (by kernel_rfl) (by kernel_rfl) (by intro _; rfl) ?_ ?_
    | refine RepE.tup _ _ _ _ _ (by decide) ?_
    | refine RepE.list _ _ _ _ (by decide) ?_
    | exact RepE.dict0 _ _
    | refine RepE.dict _ _ _ _ _ _ (by decide) (by kernel_rfl) (by simp) (by decide) ?_ ?_
    | refine RepE.comp _ _ _ _ _ _ _ _ _ _ (by kernel_rfl) ?_ (by intro _ _; rfl) ?_ ?_
    | refine RepE.compIf _ _ _ _ _ _ _ _ _ _ _ _ (by kernel_rfl) ?_ (by intro _ _; rfl) ?_ ?_ ?_
    | refine RepE.compR _ _ _ _ _ _ _ _ _ _ _ _ (by kernel_rfl) ?_ (by kernel_rfl) (by kernel_rfl) (by intro _; rfl) (by intro _ _; rfl) ?_ ?_
    | exact RepE.junk _ _
    | exact RepEs.nil _
    | refine RepEs.cons _ _ _ _ _ (by intro _; rfl) ?_ ?_
theorem fk_146 (P : Params) : FnOk (hd.heap_1 P) 146 ⟨[47, 26], [], b_Paths_path_of⟩ := by
  refine ⟨_, _, _, _, _, _, _, _, _, _, _, _, _, _, _, rfl, by kernel_rfl, ?rep, ?bind, ?par, by decide, ?cells, rfl, rfl, rfl⟩
  case bind =>
    intro s ws h
    obtain ⟨v0, v1, rfl⟩ := len2 h
    exact BindsTo.of_eq rfl
  case par => decide +kernel
  case cells => exact .inl ⟨rfl, fun n => by kernel_rfl, noCell (by kernel_rfl)⟩
  repeat' first
    | exact RepSs.nil _
    | refine RepSs.cons _ _ _ _ _ ?_ ?_
    | refine RepS.ret _ _ _ _ ?_
    | refine RepS.expr _ _ _ _ (by intro _; rfl) ?_
    | refine RepS.assignComp _ _ _ _ _ _ _ (by decide) (by kernel_rfl) (by kernel_rfl) (by kernel_rfl) ?_ rfl
    | refine RepS.assignTup _ _ _ _ _ _ _ _ (by intro _; rfl) (by kernel_rfl) ?_ ?_
    | refine RepS.assignSw _ [] _ _ _ _ _ _ _ rfl (by intro _; rfl) (by kernel_rfl) (by decide +kernel) ?_
    | refine RepS.assign _ _ _ _ _ _ ?_ (by intro _; rfl) (by intro _; rfl) ?_ (by intro _; rfl)
    | refine RepS.augLoc _ _ _ _ _ _ _ (by decide) (by kernel_rfl) (by kernel_rfl) ?_
    | refine RepS.augAttr _ _ _ _ _ _ _ _ _ (by kernel_rfl) ?_ ?_
    | refine RepS.ife _ _ _ _ _ _ _ _ ?_ ?_ ?_
    | refine RepS.forR _ _ _ _ _ _ _ _ _ _ _ _ ⟨by decide, by kernel_rfl⟩ (by kernel_rfl) (by kernel_rfl) (by kernel_rfl) (by intro _; rfl) (by intro _ _; rfl) ?_ ?_
    | refine RepS.forL _ _ _ _ _ _ _ _ _ (by decide +kernel) ?_ (by intro _ _; rfl) ?_ ?_
    | exact RepS.junk _ _
    | refine RepTgt.loc _ _ _ _ (by decide) (by kernel_rfl) (by kernel_rfl)
    | refine RepTgt.cel _ _ _ _ (by decide) (by kernel_rfl) (by kernel_rfl)
    | refine RepTgt.attr _ _ _ _ _ _ (by kernel_rfl) ?_
    | refine RepTgt.sub _ _ _ _ _ _ ?_ ?_
    | exact RepTgs.nil _
    | refine RepTgs.cons _ _ _ _ _ (by intro _; rfl) ?_ ?_
    | refine RepTg.one _ _ _ (by decide) (by kernel_rfl)
    | refine RepTg.tup _ _ _ _ (by decide) ?_
    | exact NamesAre.nil
    | refine NamesAre.cons _ _ _ _ _ (by decide) (by kernel_rfl) ?_
    | exact KeysAre.nil
    | refine KeysAre.cons _ _ _ _ _ _ (by decide) (by kernel_rfl) ?_
    | refine RepE.loc _ _ _ _ (by decide) (by kernel_rfl) (by kernel_rfl) (by kernel_rfl)
    | refine RepE.cel _ _ _ _ (by decide) (by kernel_rfl) (by kernel_rfl) (by kernel_rfl)
    | refine RepE.glob _ _ _ _ (by decide) (by kernel_rfl) (by kernel_rfl) (by kernel_rfl)
    | exact RepE.int _ _ _ _
    | exact RepE.neg _ _ _ _ _ _ (by kernel_rfl)
    | exact RepE.str _ _ _ _ _ (by decide) (by kernel_rfl)
    | exact RepE.bool _ _ _ _
    | exact RepE.none _ _ _
    | refine RepE.bin _ _ _ _ _ _ _ _ (by kernel_rfl) ?_ ?_
    | refine RepE.cmp _ _ _ _ _ _ _ _ (by kernel_rfl) (by kernel_rfl) ?_ ?_
    | refine RepE.isIn _ _ _ _ _ _ (by kernel_rfl) ?_ ?_
    | refine RepE.notIn _ _ _ _ _ _ (by kernel_rfl) ?_ ?_
    | refine RepE.isNone _ _ _ _ _ _ ?_
    | refine RepE.notNone _ _ _ _ _ _ ?_
    | refine RepE.and _ _ _ _ _ _ _ ?_ ?_
    | refine RepE.or _ _ _ _ _ _ _ ?_ ?_
    | refine RepB.and _ _ _ _ _ _ _ ?_ ?_
    | refine RepB.or _ _ _ _ _ _ _ ?_ ?_
    | refine RepB.one _ _ _ _ _ ?_
    | refine RepE.not _ _ _ _ ?_
    | refine RepE.ife _ _ _ _ _ _ _ _ ?_ ?_ ?_
    | refine RepE.attr _ _ _ _ _ _ (by kernel_rfl) (by intro _; with_unfolding_all rfl) ?_
    | refine RepE.upto _ _ _ _ _ _ _ _ ?_
    | refine RepE.sub _ _ _ _ _ _ (by intro _ _; rfl) ?_ ?_
    | refine RepE.call _ _ _ _ _ _ _ ?_ ?_
    | refine RepE.meth _ _ _ _ _ _ _ _ _ _ (by kernel_rfl) (by intro _; rfl) ?_ ?_
    | refine RepE.b1 _ _ _ _ _ _ _ (by kernel_rfl) (by kernel_rfl) (by intro _; rfl) ?_
    | refine RepE.max _ _ _ _ _ _ _ _ (by kernel_rfl) (by kernel_rfl) (by intro _; rfl) ?_ ?_
    | refine RepE.tup _ _ _ _ _ (by decide) ?_
    | refine RepE.list _ _ _ _ (by decide) ?_
    | exact RepE.dict0 _ _
    | refine RepE.dict _ _ _ _ _ _ (by decide) (by kernel_rfl) (by simp) (by decide) ?_ ?_
    | refine RepE.comp _ _ _ _ _ _ _ _ _ _ (by kernel_rfl) ?_ (by intro _ _; rfl) ?_ ?_
    | refine RepE.compIf _ _ _ _ _ _ _ _ _ _ _ _ (by kernel_rfl) ?_ (by intro _ _; rfl) ?_ ?_ ?_
    | refine RepE.compR _ _ _ _ _ _ _ _ _ _ _ _ (by kernel_rfl) ?_ (by kernel_rfl) (by kernel_rfl) (by intro _; rfl) (by intro _ _; rfl) ?_ ?_
    | exact RepE.junk _ _
    | exact RepEs.nil _
    | refine RepEs.cons _ _ _ _ _ (by intro _; rfl) ?_ ?_
theorem fk_153 (P : Params) : FnOk (hd.heap_1 P) 153 ⟨[47, 26], [], b_Paths_opened⟩ := by
  refine ⟨_, _, _, _, _, _, _, _, _, _, _, _, _, _, _, rfl, by kernel_rfl, ?rep, ?bind, ?par, by decide, ?cells, rfl, rfl, rfl⟩
  case bind =>
    intro s ws h
    obtain ⟨v0, v1, rfl⟩ := len2 h
    exact BindsTo.of_eq rfl
  case par => decide +kernel
  case cells => exact .inl ⟨rfl, fun n => by kernel_rfl, noCell (by kernel_rfl)⟩
  repeat' first
    | exact RepSs.nil _
    | refine RepSs.cons _ _ _ _ _ ?_ ?_
    | refine RepS.ret _ _ _ _ ?_
    | refine RepS.expr _ _ _ _ (by intro _; rfl) ?_
    | refine RepS.assignComp _ _ _ _ _ _ _ (by decide) (by kernel_rfl) (by kernel_rfl) (by kernel_rfl) ?_ rfl
    | refine RepS.assignTup _ _ _ _ _ _ _ _ (by intro _; rfl) (by kernel_rfl) ?_ ?_
    | refine RepS.assignSw _ [] _ _ _ _ _ _ _ rfl (by intro _; rfl) (by kernel_rfl) (by decide +kernel) ?_
    | refine RepS.assign _ _ _ _ _ _ ?_ (by intro _; rfl) (by intro _; rfl) ?_ (by intro _; rfl)
    | refine RepS.augLoc _ _ _ _ _ _ _ (by decide) (by kernel_rfl) (by kernel_rfl) ?_
    | refine RepS.augAttr _ _ _ _ _ _ _ _ _ (by kernel_rfl) ?_ ?_
    | refine RepS.ife _ _ _ _ _ _ _ _ ?_ ?_ ?_
    | refine RepS.forR _ _ _ _ _ _ _ _ _ _ _ _ ⟨by decide, by kernel_rfl⟩ (by kernel_rfl) (by kernel_rfl) (by kernel_rfl) (by intro _; rfl) (by intro _ _; rfl) ?_ ?_
    | refine RepS.forL _ _ _ _ _ _ _ _ _ (by decide +kernel) ?_ (by intro _ _; rfl) ?_ ?_
    | exact RepS.junk _ _
    | refine RepTgt.loc _ _ _ _ (by decide) (by kernel_rfl) (by kernel_rfl)
    | refine RepTgt.cel _ _ _ _ (by decide) (by kernel_rfl) (by kernel_rfl)
    | refine RepTgt.attr _ _ _ _ _ _ (by kernel_rfl) ?_
    | refine RepTgt.sub _ _ _ _ _ _ ?_ ?_
    | exact RepTgs.nil _
    | refine RepTgs.cons _ _ _ _ _ (by intro _; rfl) ?_ ?_
    | refine RepTg.one _ _ _ (by decide) (by kernel_rfl)
    | refine RepTg.tup _ _ _ _ (by decide) ?_
    | exact NamesAre.nil
    | refine NamesAre.cons _ _ _ _ _ (by decide) (by kernel_rfl) ?_
    | exact KeysAre.nil
    | refine KeysAre.cons _ _ _ _ _ _ (by decide) (by kernel_rfl) ?_
    | refine RepE.loc _ _ _ _ (by decide) (by kernel_rfl) (by kernel_rfl) (by kernel_rfl)
    | refine RepE.cel _ _ _ _ (by decide) (by kernel_rfl) (by kernel_rfl) (by kernel_rfl)
    | refine RepE.glob _ _ _ _ (by decide) (by kernel_rfl) (by kernel_rfl) (by kernel_rfl)
    | exact RepE.int _ _ _ _
    | exact RepE.neg _ _ _ _ _ _ (by kernel_rfl)
    | exact RepE.str _ _ _ _ _ (by decide) (by kernel_rfl)
    | exact RepE.bool _ _ _ _
    | exact RepE.none _ _ _
    | refine RepE.bin _ _ _ _ _ _ _ _ (by kernel_rfl) ?_ ?_
    | refine RepE.cmp _ _ _ _ _ _ _ _ (by kernel_rfl) (by kernel_rfl) ?_ ?_
    | refine RepE.isIn _ _ _ _ _ _ (by kernel_rfl) ?_ ?_
    | refine RepE.notIn _ _ _ _ _ _ (by kernel_rfl) ?_ ?_
    | refine RepE.isNone _ _ _ _ _ _ ?_
    | refine RepE.notNone _ _ _ _ _ _ ?_
    | refine RepE.and _ _ _ _ _ _ _ ?_ ?_
    | refine RepE.or _ _ _ _ _ _ _ ?_ ?_
    | refine RepB.and _ _ _ _ _ _ _ ?_ ?_
    | refine RepB.or _ _ _ _ _ _ _ ?_ ?_
    | refine RepB.one _ _ _ _ _ ?_
    | refine RepE.not _ _ _ _ ?_
    | refine RepE.ife _ _ _ _ _ _ _ _ ?_ ?_ ?_
    | refine RepE.attr _ _ _ _ _ _ (by kernel_rfl) (by intro _; with_unfolding_all rfl) ?_
    | refine RepE.upto _ _ _ _ _ _ _ _ ?_
    | refine RepE.sub _ _ _ _ _ _ (by intro _ _; rfl) ?_ ?_
    | refine RepE.call _ _ _ _ _ _ _ ?_ ?_
    | refine RepE.meth _ _ _ _ _ _ _ _ _ _ (by kernel_rfl) (by intro _; rfl) ?_ ?_
    | refine RepE.b1 _ _ _ _ _ _ _ (by kernel_rfl) (by kernel_rfl) (by intro _; rfl) ?_
    | refine RepE.max _ _ _ _ _ _ _ _ (by kernel_rfl) (by kernel_rfl) (by intro _; rfl) ?_ ?_
    | refine RepE.tup _ _ _ _ _ (by decide) ?_
    | refine RepE.list _ _ _ _ (by decide) ?_
    | exact RepE.dict0 _ _
    | refine RepE.dict _ _ _ _ _ _ (by decide) (by kernel_rfl) (by simp) (by decide) ?_ ?_
    | refine RepE.comp _ _ _ _ _ _ _ _ _ _ (by kernel_rfl) ?_ (by intro _ _; rfl) ?_ ?_
    | refine RepE.compIf _ _ _ _ _ _ _ _ _ _ _ _ (by kernel_rfl) ?_ (by intro _ _; rfl) ?_ ?_ ?_
    | refine RepE.compR _ _ _ _ _ _ _ _ _ _ _ _ (by kernel_rfl) ?_ (by kernel_rfl) (by kernel_rfl) (by intro _; rfl) (by intro _ _; rfl) ?_ ?_
    | exact RepE.junk _ _
    | exact RepEs.nil _
    | refine RepEs.cons _ _ _ _ _ (by intro _; rfl) ?_ ?_
theorem fk_160 (P : Params) : FnOk (hd.heap_1 P) 160 ⟨[47, 26, 53], [], b_Paths_on_datagram⟩ := by
  refine ⟨_, _, _, _, _, _, _, _, _, _, _, _, _, _, _, rfl, by kernel_rfl, ?rep, ?bind, ?par, by decide, ?cells, rfl, rfl, rfl⟩
  case bind =>
    intro s ws h
    obtain ⟨v0, v1, v2, rfl⟩ := len3 h
    exact BindsTo.of_eq rfl
  case par => decide +kernel
  case cells => exact .inl ⟨rfl, fun n => by kernel_rfl, noCell (by kernel_rfl)⟩
  repeat' first
    | exact RepSs.nil _
    | refine RepSs.cons _ _ _ _ _ ?_ ?_
    | refine RepS.ret _ _ _ _ ?_
    | refine RepS.expr _ _ _ _ (by intro _; rfl) ?_
    | refine RepS.assignComp _ _ _ _ _ _ _ (by decide) (by kernel_rfl) (by kernel_rfl) (by kernel_rfl) ?_ rfl
    | refine RepS.assignTup _ _ _ _ _ _ _ _ (by intro _; rfl) (by kernel_rfl) ?_ ?_
    | refine RepS.assignSw _ [] _ _ _ _ _ _ _ rfl (by intro _; rfl) (by kernel_rfl) (by decide +kernel) ?_
    | refine RepS.assign _ _ _ _ _ _ ?_ (by intro _; rfl) (by intro _; rfl) ?_ (by intro _; rfl)
    | refine RepS.augLoc _ _ _ _ _ _ _ (by decide) (by kernel_rfl) (by kernel_rfl) ?_
    | refine RepS.augAttr _ _ _ _ _ _ _ _ _ (by kernel_rfl) ?_ ?_
    | refine RepS.ife _ _ _ _ _ _ _ _ ?_ ?_ ?_
    | refine RepS.forR _ _ _ _ _ _ _ _ _ _ _ _ ⟨by decide, by kernel_rfl⟩ (by kernel_rfl) (by kernel_rfl) (by kernel_rfl) (by intro _; rfl) (by intro _ _; rfl) ?_ ?_
    | refine RepS.forL _ _ _ _ _ _ _ _ _ (by decide +kernel) ?_ (by intro _ _; rfl) ?_ ?_
    | exact RepS.junk _ _
    | refine RepTgt.loc _ _ _ _ (by decide) (by kernel_rfl) (by kernel_rfl)
    | refine RepTgt.cel _ _ _ _ (by decide) (by kernel_rfl) (by kernel_rfl)
    | refine RepTgt.attr _ _ _ _ _ _ (by kernel_rfl) ?_
    | refine RepTgt.sub _ _ _ _ _ _ ?_ ?_
    | exact RepTgs.nil _
    | refine RepTgs.cons _ _ _ _ _ (by intro _; rfl) ?_ ?_
    | refine RepTg.one _ _ _ (by decide) (by kernel_rfl)
    | refine RepTg.tup _ _ _ _ (by decide) ?_
    | exact NamesAre.nil
    | refine NamesAre.cons _ _ _ _ _ (by decide) (by kernel_rfl) ?_
    | exact KeysAre.nil
    | refine KeysAre.cons _ _ _ _ _ _ (by decide) (by kernel_rfl) ?_
    | refine RepE.loc _ _ _ _ (by decide) (by kernel_rfl) (by kernel_rfl) (by kernel_rfl)
    | refine RepE.cel _ _ _ _ (by decide) (by kernel_rfl) (by kernel_rfl) (by kernel_rfl)
    | refine RepE.glob _ _ _ _ (by decide) (by kernel_rfl) (by kernel_rfl) (by kernel_rfl)
    | exact RepE.int _ _ _ _
    | exact RepE.neg _ _ _ _ _ _ (by kernel_rfl)
    | exact RepE.str _ _ _ _ _ (by decide) (by kernel_rfl)
    | exact RepE.bool _ _ _ _
    | exact RepE.none _ _ _
    | refine RepE.bin _ _ _ _ _ _ _ _ (by kernel_rfl) ?_ ?_
    | refine RepE.cmp _ _ _ _ _ _ _ _ (by kernel_rfl) (by kernel_rfl) ?_ ?_
    | refine RepE.isIn _ _ _ _ _ _ (by kernel_rfl) ?_ ?_
    | refine RepE.notIn _ _ _ _ _ _ (by kernel_rfl) ?_ ?_
    | refine RepE.isNone _ _ _ _ _ _ ?_
    | refine RepE.notNone _ _ _ _ _ _ ?_
    | refine RepE.and _ _ _ _ _ _ _ ?_ ?_
    | refine RepE.or _ _ _ _ _ _ _ ?_ ?_
    | refine RepB.and _ _ _ _ _ _ _ ?_ ?_
    | refine RepB.or _ _ _ _ _ _ _ ?_ ?_
    | refine RepB.one _ _ _ _ _ ?_
    | refine RepE.not _ _ _ _ ?_
    | refine RepE.ife _ _ _ _ _ _ _ _ ?_ ?_ ?_
    | refine RepE.attr _ _ _ _ _ _ (by kernel_rfl) (by intro _; with_unfolding_all rfl) ?_
    | refine RepE.upto _ _ _ _ _ _ _ _ ?_
    | refine RepE.sub _ _ _ _ _ _ (by intro _ _; rfl) ?_ ?_
    | refine RepE.call _ _ _ _ _ _ _ ?_ ?_
    | refine RepE.meth _ _ _ _ _ _ _ _ _ _ (by kernel_rfl) (by intro _; rfl) ?_ ?_
    | refine RepE.b1 _ _ _ _ _ _ _ (by kernel_rfl) (by kernel_rfl) (by intro _; rfl) ?_
    | refine RepE.max _ _ _ _ _ _ _ _ (by kernel_rfl) (by kernel_rfl) (by intro _; rfl) ?_ ?_
    | refine RepE.tup _ _ _ _ _ (by decide) ?_
    | refine RepE.list _ _ _ _ (by decide) ?_
    | exact RepE.dict0 _ _
    | refine RepE.dict _ _ _ _ _ _ (by decide) (by kernel_rfl) (by simp) (by decide) ?_ ?_
    | refine RepE.comp _ _ _ _ _ _ _ _ _ _ (by kernel_rfl) ?_ (by intro _ _; rfl) ?_ ?_
    | refine RepE.compIf _ _ _ _ _ _ _ _ _ _ _ _ (by kernel_rfl) ?_ (by intro _ _; rfl) ?_ ?_ ?_
    | refine RepE.compR _ _ _ _ _ _ _ _ _ _ _ _ (by kernel_rfl) ?_ (by kernel_rfl) (by kernel_rfl) (by intro _; rfl) (by intro _ _; rfl) ?_ ?_
    | exact RepE.junk _ _
    | exact RepEs.nil _
    | refine RepEs.cons _ _ _ _ _ (by intro _; rfl) ?_ ?_
theorem fk_167 (P : Params) : FnOk (hd.heap_1 P) 167 ⟨[47, 26, 70, 71], [], b_Paths_on_packet⟩ := by
  refine ⟨_, _, _, _, _, _, _, _, _, _, _, _, _, _, _, rfl, by kernel_rfl, ?rep, ?bind, ?par, by decide, ?cells, rfl, rfl, rfl⟩
  case bind =>
    intro s ws h
    obtain ⟨v0, v1, v2, v3, rfl⟩ := len4 h
    exact BindsTo.of_eq rfl
  case par => decide +kernel
  case cells => exact .inl ⟨rfl, fun n => by kernel_rfl, noCell (by kernel_rfl)⟩
  repeat' first
    | exact RepSs.nil _
    | refine RepSs.cons _ _ _ _ _ ?_ ?_
    | refine RepS.ret _ _ _ _ ?_
    | refine RepS.expr _ _ _ _ (by intro _; rfl) ?_
    | refine RepS.assignComp _ _ _ _ _ _ _ (by decide) (by kernel_rfl) (by kernel_rfl) (by kernel_rfl) ?_ rfl
    | refine RepS.assignTup _ _ _ _ _ _ _ _ (by intro _; rfl) (by kernel_rfl) ?_ ?_
    | refine RepS.assignSw _ [] _ _ _ _ _ _ _ rfl (by intro _; rfl) (by kernel_rfl) (by decide +kernel) ?_
    | refine RepS.assign _ _ _ _ _ _ ?_ (by intro _; rfl) (by intro _; rfl) ?_ (by intro _; rfl)
    | refine RepS.augLoc _ _ _ _ _ _ _ (by decide) (by kernel_rfl) (by kernel_rfl) ?_
    | refine RepS.augAttr _ _ _ _ _ _ _ _ _ (by kernel_rfl) ?_ ?_
    | refine RepS.ife _ _ _ _ _ _ _ _ ?_ ?_ ?_
    | refine RepS.forR _ _ _ _ _ _ _ _ _ _ _ _ ⟨by decide, by kernel_rfl⟩ (by kernel_rfl) (by kernel_rfl) (by kernel_rfl) (by intro _; rfl) (by intro _ _; rfl) ?_ ?_
    | refine RepS.forL _ _ _ _ _ _ _ _ _ (by decide +kernel) ?_ (by intro _ _; rfl) ?_ ?_
    | exact RepS.junk _ _
    | refine RepTgt.loc _ _ _ _ (by decide) (by kernel_rfl) (by kernel_rfl)
    | refine RepTgt.cel _ _ _ _ (by decide) (by kernel_rfl) (by kernel_rfl)
    | refine RepTgt.attr _ _ _ _ _ _ (by kernel_rfl) ?_
    | refine RepTgt.sub _ _ _ _ _ _ ?_ ?_
    | exact RepTgs.nil _
    | refine RepTgs.cons _ _ _ _ _ (by intro _; rfl) ?_ ?_
    | refine RepTg.one _ _ _ (by decide) (by kernel_rfl)
    | refine RepTg.tup _ _ _ _ (by decide) ?_
    | exact NamesAre.nil
    | refine NamesAre.cons _ _ _ _ _ (by decide) (by kernel_rfl) ?_
    | exact KeysAre.nil
    | refine KeysAre.cons _ _ _ _ _ _ (by decide) (by kernel_rfl) ?_
    | refine RepE.loc _ _ _ _ (by decide) (by kernel_rfl) (by kernel_rfl) (by kernel_rfl)
    | refine RepE.cel _ _ _ _ (by decide) (by kernel_rfl) (by kernel_rfl) (by kernel_rfl)
    | refine RepE.glob _ _ _ _ (by decide) (by kernel_rfl) (by kernel_rfl) (by kernel_rfl)
    | exact RepE.int _ _ _ _
    | exact RepE.neg _ _ _ _ _ _ (by kernel_rfl)
    | exact RepE.str _ _ _ _ _ (by decide) (by kernel_rfl)
    | exact RepE.bool _ _ _ _
    | exact RepE.none _ _ _
    | refine RepE.bin _ _ _ _ _ _ _ _ (by kernel_rfl) ?_ ?_
    | refine RepE.cmp _ _ _ _ _ _ _ _ (by kernel_rfl) (by kernel_rfl) ?_ ?_
    | refine RepE.isIn _ _ _ _ _ _ (by kernel_rfl) ?_ ?_
    | refine RepE.notIn _ _ _ _ _ _ (by kernel_rfl) ?_ ?_
    | refine RepE.isNone _ _ _ _ _ _ ?_
    | refine RepE.notNone _ _ _ _ _ _ ?_
    | refine RepE.and _ _ _ _ _ _ _ ?_ ?_
    | refine RepE.or _ _ _ _ _ _ _ ?_ ?_
    | refine RepB.and _ _ _ _ _ _ _ ?_ ?_
    | refine RepB.or _ _ _ _ _ _ _ ?_ ?_
    | refine RepB.one _ _ _ _ _ ?_
    | refine RepE.not _ _ _ _ ?_
    | refine RepE.ife _ _ _ _ _ _ _ _ ?_ ?_ ?_
    | refine RepE.attr _ _ _ _ _ _ (by kernel_rfl) (by intro _; with_unfolding_all rfl) ?_
    | refine RepE.upto _ _ _ _ _ _ _ _ ?_
    | refine RepE.sub _ _ _ _ _ _ (by intro _ _; rfl) ?_ ?_
    | refine RepE.call _ _ _ _ _ _ _ ?_ ?_
    | refine RepE.meth _ _ _ _ _ _ _ _ _ _ (by kernel_rfl) (by intro _; rfl) ?_ ?_
    | refine RepE.b1 _ _ _ _ _ _ _ (by kernel_rfl) (by kernel_rfl) (by intro _; rfl) ?_
    | refine RepE.max _ _ _ _ _ _ _ _ (by kernel_rfl) (by kernel_rfl) (by intro _; rfl) ?_ ?_
    | refine RepE.tup _ _ _ _ _ (by decide) ?_
    | refine RepE.list _ _ _ _ (by decide) ?_
    | exact RepE.dict0 _ _
    | refine RepE.dict _ _ _ _ _ _ (by decide) (by kernel_rfl) (by simp) (by decide) ?_ ?_
    | refine RepE.comp _ _ _ _ _ _ _ _ _ _ (by kernel_rfl) ?_ (by intro _ _; rfl) ?_ ?_
    | refine RepE.compIf _ _ _ _ _ _ _ _ _ _ _ _ (by kernel_rfl) ?_ (by intro _ _; rfl) ?_ ?_ ?_
    | refine RepE.compR _ _ _ _ _ _ _ _ _ _ _ _ (by kernel_rfl) ?_ (by kernel_rfl) (by kernel_rfl) (by intro _; rfl) (by intro _ _; rfl) ?_ ?_
    | exact RepE.junk _ _
    | exact RepEs.nil _
    | refine RepEs.cons _ _ _ _ _ (by intro _; rfl) ?_ ?_
theorem fk_195 (P : Params) : FnOk (hd.heap_1 P) 195 ⟨[47], [], b_Paths_wants_challenge⟩ := by
  refine ⟨_, _, _, _, _, _, _, _, _, _, _, _, _, _, _, rfl, by kernel_rfl, ?rep, ?bind, ?par, by decide, ?cells, rfl, rfl, rfl⟩
  case bind =>
    intro s ws h
    obtain ⟨v0, rfl⟩ := len1 h
    exact BindsTo.of_eq rfl
  case par => decide +kernel
  case cells => exact .inl ⟨rfl, fun n => by kernel_rfl, noCell (by kernel_rfl)⟩
  repeat' first
    | exact RepSs.nil _
    | refine RepSs.cons _ _ _ _ _ ?_ ?_
    | refine RepS.ret _ _ _ _ ?_
    | refine RepS.expr _ _ _ _ (by intro _; rfl) ?_
    | refine RepS.assignComp _ _ _ _ _ _ _ (by decide) (by kernel_rfl) (by kernel_rfl) (by kernel_rfl) ?_ rfl
    | refine RepS.assignTup _ _ _ _ _ _ _ _ (by intro _; rfl) (by kernel_rfl) ?_ ?_
    | refine RepS.assignSw _ [] _ _ _ _ _ _ _ rfl (by intro _; rfl) (by kernel_rfl) (by decide +kernel) ?_
    | refine RepS.assign _ _ _ _ _ _ ?_ (by intro _; rfl) (by intro _; rfl) ?_ (by intro _; rfl)
    | refine RepS.augLoc _ _ _ _ _ _ _ (by decide) (by kernel_rfl) (by kernel_rfl) ?_
    | refine RepS.augAttr _ _ _ _ _ _ _ _ _ (by kernel_rfl) ?_ ?_
    | refine RepS.ife _ _ _ _ _ _ _ _ ?_ ?_ ?_
    | refine RepS.forR _ _ _ _ _ _ _ _ _ _ _ _ ⟨by decide, by kernel_rfl⟩ (by kernel_rfl) (by kernel_rfl) (by kernel_rfl) (by intro _; rfl) (by intro _ _; rfl) ?_ ?_
    | refine RepS.forL _ _ _ _ _ _ _ _ _ (by decide +kernel) ?_ (by intro _ _; rfl) ?_ ?_
    | exact RepS.junk _ _
    | refine RepTgt.loc _ _ _ _ (by decide) (by kernel_rfl) (by kernel_rfl)
    | refine RepTgt.cel _ _ _ _ (by decide) (by kernel_rfl) (by kernel_rfl)
    | refine RepTgt.attr _ _ _ _ _ _ (by kernel_rfl) ?_
    | refine RepTgt.sub _ _ _ _ _ _ ?_ ?_
    | exact RepTgs.nil _
    | refine RepTgs.cons _ _ _ _ _ (by intro _; rfl) ?_ ?_
    | refine RepTg.one _ _ _ (by decide) (by kernel_rfl)
    | refine RepTg.tup _ _ _ _ (by decide) ?_
    | exact NamesAre.nil
    | refine NamesAre.cons _ _ _ _ _ (by decide) (by kernel_rfl) ?_
    | exact KeysAre.nil
    | refine KeysAre.cons _ _ _ _ _ _ (by decide) (by kernel_rfl) ?_
    | refine RepE.loc _ _ _ _ (by decide) (by kernel_rfl) (by kernel_rfl) (by kernel_rfl)
    | refine RepE.cel _ _ _ _ (by decide) (by kernel_rfl) (by kernel_rfl) (by kernel_rfl)
    | refine RepE.glob _ _ _ _ (by decide) (by kernel_rfl) (by kernel_rfl) (by kernel_rfl)
    | exact RepE.int _ _ _ _
    | exact RepE.neg _ _ _ _ _ _ (by kernel_rfl)
    | exact RepE.str _ _ _ _ _ (by decide) (by kernel_rfl)
    | exact RepE.bool _ _ _ _
    | exact RepE.none _ _ _
    | refine RepE.bin _ _ _ _ _ _ _ _ (by kernel_rfl) ?_ ?_
    | refine RepE.cmp _ _ _ _ _ _ _ _ (by kernel_rfl) (by kernel_rfl) ?_ ?_
    | refine RepE.isIn _ _ _ _ _ _ (by kernel_rfl) ?_ ?_
    | refine RepE.notIn _ _ _ _ _ _ (by kernel_rfl) ?_ ?_
    | refine RepE.isNone _ _ _ _ _ _ ?_
    | refine RepE.notNone _ _ _ _ _ _ ?_
    | refine RepE.and _ _ _ _ _ _ _ ?_ ?_
    | refine RepE.or _ _ _ _ _ _ _ ?_ ?_
    | refine RepB.and _ _ _ _ _ _ _ ?_ ?_
    | refine RepB.or _ _ _ _ _ _ _ ?_ ?_
    | refine RepB.one _ _ _ _ _ ?_
    | refine RepE.not _ _ _ _ ?_
    | refine RepE.ife _ _ _ _ _ _ _ _ ?_ ?_ ?_
    | refine RepE.attr _ _ _ _ _ _ (by kernel_rfl) (by intro _; with_unfolding_all rfl) ?_
    | refine RepE.upto _ _ _ _ _ _ _ _ ?_
    | refine RepE.sub _ _ _ _ _ _ (by intro _ _; rfl) ?_ ?_
    | refine RepE.call _ _ _ _ _ _ _ ?_ ?_
    | refine RepE.meth _ _ _ _ _ _ _ _ _ _ (by kernel_rfl) (by intro _; rfl) ?_ ?_
    | refine RepE.b1 _ _ _ _ _ _ _ (by kernel_rfl) (by kernel_rfl) (by intro _; rfl) ?_
    | refine RepE.max _ _ _ _ _ _ _ _ (by kernel_rfl) (by kernel_rfl) (by intro _; rfl) ?_ ?_
    | refine RepE.tup _ _ _ _ _ (by decide) ?_
    | refine RepE.list _ _ _ _ (by decide) ?_
    | exact RepE.dict0 _ _
    | refine RepE.dict _ _ _ _ _ _ (by decide) (by kernel_rfl) (by simp) (by decide) ?_ ?_
    | refine RepE.comp _ _ _ _ _ _ _ _ _ _ (by kernel_rfl) ?_ (by intro _ _; rfl) ?_ ?_
    | refine RepE.compIf _ _ _ _ _ _ _ _ _ _ _ _ (by kernel_rfl) ?_ (by intro _ _; rfl) ?_ ?_ ?_
    | refine RepE.compR _ _ _ _ _ _ _ _ _ _ _ _ (by kernel_rfl) ?_ (by kernel_rfl) (by kernel_rfl) (by intro _; rfl) (by intro _ _; rfl) ?_ ?_
    | exact RepE.junk _ _
    | exact RepEs.nil _
    | refine RepEs.cons _ _ _ _ _ (by intro _; rfl) ?_ ?_
theorem fk_214 (P : Params) : FnOk (hd.heap_1 P) 214 ⟨[47], [], b_Paths_next_time⟩ := by
  refine ⟨_, _, _, _, _, _, _, _, _, _, _, _, _, _, _, rfl, by kernel_rfl, ?rep, ?bind, ?par, by decide, ?cells, rfl, rfl, rfl⟩
  case bind =>
    intro s ws h
    obtain ⟨v0, rfl⟩ := len1 h
    exact BindsTo.of_eq rfl
  case par => decide +kernel
  case cells => exact .inl ⟨rfl, fun n => by kernel_rfl, noCell (by kernel_rfl)⟩
  repeat' first
    | exact RepSs.nil _
    | refine RepSs.cons _ _ _ _ _ ?_ ?_
    | refine RepS.ret _ _ _ _ ?_
    | refine RepS.expr _ _ _ _ (by intro _; rfl) ?_
    | refine RepS.assignComp _ _ _ _ _ _ _ (by decide) (by kernel_rfl) (by kernel_rfl) (by kernel_rfl) ?_ rfl
    | refine RepS.assignTup _ _ _ _ _ _ _ _ (by intro _; rfl) (by kernel_rfl) ?_ ?_
    | refine RepS.assignSw _ [] _ _ _ _ _ _ _ rfl (by intro _; rfl) (by kernel_rfl) (by decide +kernel) ?_
    | refine RepS.assign _ _ _ _ _ _ ?_ (by intro _; rfl) (by intro _; rfl) ?_ (by intro _; rfl)
    | refine RepS.augLoc _ _ _ _ _ _ _ (by decide) (by kernel_rfl) (by kernel_rfl) ?_
    | refine RepS.augAttr _ _ _ _ _ _ _ _ _ (by kernel_rfl) ?_ ?_
    | refine RepS.ife _ _ _ _ _ _ _ _ ?_ ?_ ?_
    | refine RepS.forR _ _ _ _ _ _ _ _ _ _ _ _ ⟨by decide, by kernel_rfl⟩ (by kernel_rfl) (by kernel_rfl) (by kernel_rfl) (by intro _; rfl) (by intro _ _; rfl) ?_ ?_
    | refine RepS.forL _ _ _ _ _ _ _ _ _ (by decide +kernel) ?_ (by intro _ _; rfl) ?_ ?_
    | exact RepS.junk _ _
    | refine RepTgt.loc _ _ _ _ (by decide) (by kernel_rfl) (by kernel_rfl)
    | refine RepTgt.cel _ _ _ _ (by decide) (by kernel_rfl) (by kernel_rfl)
    | refine RepTgt.attr _ _ _ _ _ _ (by kernel_rfl) ?_
    | refine RepTgt.sub _ _ _ _ _ _ ?_ ?_
    | exact RepTgs.nil _
    | refine RepTgs.cons _ _ _ _ _ (by intro _; rfl) ?_ ?_
    | refine RepTg.one _ _ _ (by decide) (by kernel_rfl)
    | refine RepTg.tup _ _ _ _ (by decide) ?_
    | exact NamesAre.nil
    | refine NamesAre.cons _ _ _ _ _ (by decide) (by kernel_rfl) ?_
    | exact KeysAre.nil
    | refine KeysAre.cons _ _ _ _ _ _ (by decide) (by kernel_rfl) ?_
    | refine RepE.loc _ _ _ _ (by decide) (by kernel_rfl) (by kernel_rfl) (by kernel_rfl)
    | refine RepE.cel _ _ _ _ (by decide) (by kernel_rfl) (by kernel_rfl) (by kernel_rfl)
    | refine RepE.glob _ _ _ _ (by decide) (by kernel_rfl) (by kernel_rfl) (by kernel_rfl)
    | exact RepE.int _ _ _ _
    | exact RepE.neg _ _ _ _ _ _ (by kernel_rfl)
    | exact RepE.str _ _ _ _ _ (by decide) (by kernel_rfl)
    | exact RepE.bool _ _ _ _
    | exact RepE.none _ _ _
    | refine RepE.bin _ _ _ _ _ _ _ _ (by kernel_rfl) ?_ ?_
    | refine RepE.cmp _ _ _ _ _ _ _ _ (by kernel_rfl) (by kernel_rfl) ?_ ?_
    | refine RepE.isIn _ _ _ _ _ _ (by kernel_rfl) ?_ ?_
    | refine RepE.notIn _ _ _ _ _ _ (by kernel_rfl) ?_ ?_
    | refine RepE.isNone _ _ _ _ _ _ ?_
    | refine RepE.notNone _ _ _ _ _ _ ?_
    | refine RepE.and _ _ _ _ _ _ _ ?_ ?_
    | refine RepE.or _ _ _ _ _ _ _ ?_ ?_
    | refine RepB.and _ _ _ _ _ _ _ ?_ ?_
    | refine RepB.or _ _ _ _ _ _ _ ?_ ?_
    | refine RepB.one _ _ _ _ _ ?_
    | refine RepE.not _ _ _ _ ?_
    | refine RepE.ife _ _ _ _ _ _ _ _ ?_ ?_ ?_
    | refine RepE.attr _ _ _ _ _ _ (by kernel_rfl) (by intro _; with_unfolding_all rfl) ?_
    | refine RepE.upto _ _ _ _ _ _ _ _ ?_
    | refine RepE.sub _ _ _ _ _ _ (by intro _ _; rfl) ?_ ?_
    | refine RepE.call _ _ _ _ _ _ _ ?_ ?_
    | refine RepE.meth _ _ _ _ _ _ _ _ _ _ (by kernel_rfl) (by intro _; rfl) ?_ ?_
    | refine RepE.b1 _ _ _ _ _ _ _ (by kernel_rfl) (by kernel_rfl) (by intro _; rfl) ?_
    | refine RepE.max _ _ _ _ _ _ _ _ (by kernel_rfl) (by kernel_rfl) (by intro _; rfl) ?_ ?_
    | refine RepE.tup _ _ _ _ _ (by decide) ?_
    | refine RepE.list _ _ _ _ (by decide) ?_
    | exact RepE.dict0 _ _
    | refine RepE.dict _ _ _ _ _ _ (by decide) (by kernel_rfl) (by simp) (by decide) ?_ ?_
    | refine RepE.comp _ _ _ _ _ _ _ _ _ _ (by kernel_rfl) ?_ (by intro _ _; rfl) ?_ ?_
    | refine RepE.compIf _ _ _ _ _ _ _ _ _ _ _ _ (by kernel_rfl) ?_ (by intro _ _; rfl) ?_ ?_ ?_
    | refine RepE.compR _ _ _ _ _ _ _ _ _ _ _ _ (by kernel_rfl) ?_ (by kernel_rfl) (by kernel_rfl) (by intro _; rfl) (by intro _ _; rfl) ?_ ?_
    | exact RepE.junk _ _
    | exact RepEs.nil _
    | refine RepEs.cons _ _ _ _ _ (by intro _; rfl) ?_ ?_
theorem fk_221 (P : Params) : FnOk (hd.heap_1 P) 221 ⟨[47, 18], [], b_Paths_on_time⟩ := by
  refine ⟨_, _, _, _, _, _, _, _, _, _, _, _, _, _, _, rfl, by kernel_rfl, ?rep, ?bind, ?par, by decide, ?cells, rfl, rfl, rfl⟩
  case bind =>
    intro s ws h
    obtain ⟨v0, v1, rfl⟩ := len2 h
    exact BindsTo.of_eq rfl
  case par => decide +kernel
  case cells => exact .inl ⟨rfl, fun n => by kernel_rfl, noCell (by kernel_rfl)⟩
  repeat' first
    | exact RepSs.nil _
    | refine RepSs.cons _ _ _ _ _ ?_ ?_
    | refine RepS.ret _ _ _ _ ?_
    | refine RepS.expr _ _ _ _ (by intro _; rfl) ?_
    | refine RepS.assignComp _ _ _ _ _ _ _ (by decide) (by kernel_rfl) (by kernel_rfl) (by kernel_rfl) ?_ rfl
    | refine RepS.assignTup _ _ _ _ _ _ _ _ (by intro _; rfl) (by kernel_rfl) ?_ ?_
    | refine RepS.assignSw _ [] _ _ _ _ _ _ _ rfl (by intro _; rfl) (by kernel_rfl) (by decide +kernel) ?_
    | refine RepS.assign _ _ _ _ _ _ ?_ (by intro _; rfl) (by intro _; rfl) ?_ (by intro _; rfl)
    | refine RepS.augLoc _ _ _ _ _ _ _ (by decide) (by kernel_rfl) (by kernel_rfl) ?_
    | refine RepS.augAttr _ _ _ _ _ _ _ _ _ (by kernel_rfl) ?_ ?_
    | refine RepS.ife _ _ _ _ _ _ _ _ ?_ ?_ ?_
    | refine RepS.forR _ _ _ _ _ _ _ _ _ _ _ _ ⟨by decide, by kernel_rfl⟩ (by kernel_rfl) (by kernel_rfl) (by kernel_rfl) (by intro _; rfl) (by intro _ _; rfl) ?_ ?_
    | refine RepS.forL _ _ _ _ _ _ _ _ _ (by decide +kernel) ?_ (by intro _ _; rfl) ?_ ?_
    | exact RepS.junk _ _
    | refine RepTgt.loc _ _ _ _ (by decide) (by kernel_rfl) (by kernel_rfl)
    | refine RepTgt.cel _ _ _ _ (by decide) (by kernel_rfl) (by kernel_rfl)
    | refine RepTgt.attr _ _ _ _ _ _ (by kernel_rfl) ?_
    | refine RepTgt.sub _ _ _ _ _ _ ?_ ?_
    | exact RepTgs.nil _
    | refine RepTgs.cons _ _ _ _ _ (by intro _; rfl) ?_ ?_
    | refine RepTg.one _ _ _ (by decide) (by kernel_rfl)
    | refine RepTg.tup _ _ _ _ (by decide) ?_
    | exact NamesAre.nil
    | refine NamesAre.cons _ _ _ _ _ (by decide) (by kernel_rfl) ?_
    | exact KeysAre.nil
    | refine KeysAre.cons _ _ _ _ _ _ (by decide) (by kernel_rfl) ?_
    | refine RepE.loc _ _ _ _ (by decide) (by kernel_rfl) (by kernel_rfl) (by kernel_rfl)
    | refine RepE.cel _ _ _ _ (by decide) (by kernel_rfl) (by kernel_rfl) (by kernel_rfl)
    | refine RepE.glob _ _ _ _ (by decide) (by kernel_rfl) (by kernel_rfl) (by kernel_rfl)
    | exact RepE.int _ _ _ _
    | exact RepE.neg _ _ _ _ _ _ (by kernel_rfl)
    | exact RepE.str _ _ _ _ _ (by decide) (by kernel_rfl)
    | exact RepE.bool _ _ _ _
    | exact RepE.none _ _ _
    | refine RepE.bin _ _ _ _ _ _ _ _ (by kernel_rfl) ?_ ?_
    | refine RepE.cmp _ _ _ _ _ _ _ _ (by kernel_rfl) (by kernel_rfl) ?_ ?_
    | refine RepE.isIn _ _ _ _ _ _ (by kernel_rfl) ?_ ?_
    | refine RepE.notIn _ _ _ _ _ _ (by kernel_rfl) ?_ ?_
    | refine RepE.isNone _ _ _ _ _ _ ?_
    | refine RepE.notNone _ _ _ _ _ _ ?_
    | refine RepE.and _ _ _ _ _ _ _ ?_ ?_
    | refine RepE.or _ _ _ _ _ _ _ ?_ ?_
    | refine RepB.and _ _ _ _ _ _ _ ?_ ?_
    | refine RepB.or _ _ _ _ _ _ _ ?_ ?_
    | refine RepB.one _ _ _ _ _ ?_
    | refine RepE.not _ _ _ _ ?_
    | refine RepE.ife _ _ _ _ _ _ _ _ ?_ ?_ ?_
    | refine RepE.attr _ _ _ _ _ _ (by kernel_rfl) (by intro _; with_unfolding_all rfl) ?_
    | refine RepE.upto _ _ _ _ _ _ _ _ ?_
    | refine RepE.sub _ _ _ _ _ _ (by intro _ _; rfl) ?_ ?_
    | refine RepE.call _ _ _ _ _ _ _ ?_ ?_
    | refine RepE.meth _ _ _ _ _ _ _ _ _ _ (by kernel_rfl) (by intro _; rfl) ?_ ?_
    | refine RepE.b1 _ _ _ _ _ _ _ (by kernel_rfl) (by kernel_rfl) (by intro _; rfl) ?_
    | refine RepE.max _ _ _ _ _ _ _ _ (by kernel_rfl) (by kernel_rfl) (by intro _; rfl) ?_ ?_
    | refine RepE.tup _ _ _ _ _ (by decide) ?_
    | refine RepE.list _ _ _ _ (by decide) ?_
    | exact RepE.dict0 _ _
    | refine RepE.dict _ _ _ _ _ _ (by decide) (by kernel_rfl) (by simp) (by decide) ?_ ?_
    | refine RepE.comp _ _ _ _ _ _ _ _ _ _ (by kernel_rfl) ?_ (by intro _ _; rfl) ?_ ?_
    | refine RepE.compIf _ _ _ _ _ _ _ _ _ _ _ _ (by kernel_rfl) ?_ (by intro _ _; rfl) ?_ ?_ ?_
    | refine RepE.compR _ _ _ _ _ _ _ _ _ _ _ _ (by kernel_rfl) ?_ (by kernel_rfl) (by kernel_rfl) (by intro _; rfl) (by intro _ _; rfl) ?_ ?_
    | exact RepE.junk _ _
    | exact RepEs.nil _
    | refine RepEs.cons _ _ _ _ _ (by intro _; rfl) ?_ ?_
theorem fk_235 (P : Params) : FnOk (hd.heap_1 P) 235 ⟨[78, 79], [], b_trial_wait⟩ := by
  refine ⟨_, _, _, _, _, _, _, _, _, _, _, _, _, _, _, rfl, by kernel_rfl, ?rep, ?bind, ?par, by decide, ?cells, rfl, rfl, rfl⟩
  case bind =>
    intro s ws h
    obtain ⟨v0, v1, rfl⟩ := len2 h
    exact BindsTo.of_eq rfl
  case par => decide +kernel
  case cells => exact .inl ⟨rfl, fun n => by kernel_rfl, noCell (by kernel_rfl)⟩
  repeat' first
    | exact RepSs.nil _
    | refine RepSs.cons _ _ _ _ _ ?_ ?_
    | refine RepS.ret _ _ _ _ ?_
    | refine RepS.expr _ _ _ _ (by intro _; rfl) ?_
    | refine RepS.assignComp _ _ _ _ _ _ _ (by decide) (by kernel_rfl) (by kernel_rfl) (by kernel_rfl) ?_ rfl
    | refine RepS.assignTup _ _ _ _ _ _ _ _ (by intro _; rfl) (by kernel_rfl) ?_ ?_
    | refine RepS.assignSw _ [] _ _ _ _ _ _ _ rfl (by intro _; rfl) (by kernel_rfl) (by decide +kernel) ?_
    | refine RepS.assign _ _ _ _ _ _ ?_ (by intro _; rfl) (by intro _; rfl) ?_ (by intro _; rfl)
    | refine RepS.augLoc _ _ _ _ _ _ _ (by decide) (by kernel_rfl) (by kernel_rfl) ?_
    | refine RepS.augAttr _ _ _ _ _ _ _ _ _ (by kernel_rfl) ?_ ?_
    | refine RepS.ife _ _ _ _ _ _ _ _ ?_ ?_ ?_
    | refine RepS.forR _ _ _ _ _ _ _ _ _ _ _ _ ⟨by decide, by kernel_rfl⟩ (by kernel_rfl) (by kernel_rfl) (by kernel_rfl) (by intro _; rfl) (by intro _ _; rfl) ?_ ?_
    | refine RepS.forL _ _ _ _ _ _ _ _ _ (by decide +kernel) ?_ (by intro _ _; rfl) ?_ ?_
    | exact RepS.junk _ _
    | refine RepTgt.loc _ _ _ _ (by decide) (by kernel_rfl) (by kernel_rfl)
    | refine RepTgt.cel _ _ _ _ (by decide) (by kernel_rfl) (by kernel_rfl)
    | refine RepTgt.attr _ _ _ _ _ _ (by kernel_rfl) ?_
    | refine RepTgt.sub _ _ _ _ _ _ ?_ ?_
    | exact RepTgs.nil _
    | refine RepTgs.cons _ _ _ _ _ (by intro _; rfl) ?_ ?_
    | refine RepTg.one _ _ _ (by decide) (by kernel_rfl)
    | refine RepTg.tup _ _ _ _ (by decide) ?_
    | exact NamesAre.nil
    | refine NamesAre.cons _ _ _ _ _ (by decide) (by kernel_rfl) ?_
    | exact KeysAre.nil
    | refine KeysAre.cons _ _ _ _ _ _ (by decide) (by kernel_rfl) ?_
    | refine RepE.loc _ _ _ _ (by decide) (by kernel_rfl) (by kernel_rfl) (by kernel_rfl)
    | refine RepE.cel _ _ _ _ (by decide) (by kernel_rfl) (by kernel_rfl) (by kernel_rfl)
    | refine RepE.glob _ _ _ _ (by decide) (by kernel_rfl) (by kernel_rfl) (by kernel_rfl)
    | exact RepE.int _ _ _ _
    | exact RepE.neg _ _ _ _ _ _ (by kernel_rfl)
    | exact RepE.str _ _ _ _ _ (by decide) (by kernel_rfl)
    | exact RepE.bool _ _ _ _
    | exact RepE.none _ _ _
    | refine RepE.bin _ _ _ _ _ _ _ _ (by kernel_rfl) ?_ ?_
    | refine RepE.cmp _ _ _ _ _ _ _ _ (by kernel_rfl) (by kernel_rfl) ?_ ?_
    | refine RepE.isIn _ _ _ _ _ _ (by kernel_rfl) ?_ ?_
    | refine RepE.notIn _ _ _ _ _ _ (by kernel_rfl) ?_ ?_
    | refine RepE.isNone _ _ _ _ _ _ ?_
    | refine RepE.notNone _ _ _ _ _ _ ?_
    | refine RepE.and _ _ _ _ _ _ _ ?_ ?_
    | refine RepE.or _ _ _ _ _ _ _ ?_ ?_
    | refine RepB.and _ _ _ _ _ _ _ ?_ ?_
    | refine RepB.or _ _ _ _ _ _ _ ?_ ?_
    | refine RepB.one _ _ _ _ _ ?_
    | refine RepE.not _ _ _ _ ?_
    | refine RepE.ife _ _ _ _ _ _ _ _ ?_ ?_ ?_
    | refine RepE.attr _ _ _ _ _ _ (by kernel_rfl) (by intro _; with_unfolding_all rfl) ?_
    | refine RepE.upto _ _ _ _ _ _ _ _ ?_
    | refine RepE.sub _ _ _ _ _ _ (by intro _ _; rfl) ?_ ?_
    | refine RepE.call _ _ _ _ _ _ _ ?_ ?_
    | refine RepE.meth _ _ _ _ _ _ _ _ _ _ (by kernel_rfl) (by intro _; rfl) ?_ ?_
    | refine RepE.b1 _ _ _ _ _ _ _ (by kernel_rfl) (by kernel_rfl) (by intro _; rfl) ?_
    | refine RepE.max _ _ _ _ _ _ _ _ (by kernel_rfl) (by kernel_rfl) (by intro _; rfl) ?_ ?_
    | refine RepE.tup _ _ _ _ _ (by decide) ?_
    | refine RepE.list _ _ _ _ (by decide) ?_
    | exact RepE.dict0 _ _
    | refine RepE.dict _ _ _ _ _ _ (by decide) (by kernel_rfl) (by simp) (by decide) ?_ ?_
    | refine RepE.comp _ _ _ _ _ _ _ _ _ _ (by kernel_rfl) ?_ (by intro _ _; rfl) ?_ ?_
    | refine RepE.compIf _ _ _ _ _ _ _ _ _ _ _ _ (by kernel_rfl) ?_ (by intro _ _; rfl) ?_ ?_ ?_
    | refine RepE.compR _ _ _ _ _ _ _ _ _ _ _ _ (by kernel_rfl) ?_ (by kernel_rfl) (by kernel_rfl) (by intro _; rfl) (by intro _ _; rfl) ?_ ?_
    | exact RepE.junk _ _
    | exact RepEs.nil _
    | refine RepEs.cons _ _ _ _ _ (by intro _; rfl) ?_ ?_
theorem fk_243 (P : Params) : FnOk (hd.heap_1 P) 243 ⟨[80], [], b_fate_of⟩ := by
  refine ⟨_, _, _, _, _, _, _, _, _, _, _, _, _, _, _, rfl, by kernel_rfl, ?rep, ?bind, ?par, by decide, ?cells, rfl, rfl, rfl⟩
  case bind =>
    intro s ws h
    obtain ⟨v0, rfl⟩ := len1 h
    exact BindsTo.of_eq rfl
  case par => decide +kernel
  case cells => exact .inl ⟨rfl, fun n => by kernel_rfl, noCell (by kernel_rfl)⟩
  repeat' first
    | exact RepSs.nil _
    | refine RepSs.cons _ _ _ _ _ ?_ ?_
    | refine RepS.ret _ _ _ _ ?_
    | refine RepS.expr _ _ _ _ (by intro _; rfl) ?_
    | refine RepS.assignComp _ _ _ _ _ _ _ (by decide) (by kernel_rfl) (by kernel_rfl) (by kernel_rfl) ?_ rfl
    | refine RepS.assignTup _ _ _ _ _ _ _ _ (by intro _; rfl) (by kernel_rfl) ?_ ?_
    | refine RepS.assignSw _ [] _ _ _ _ _ _ _ rfl (by intro _; rfl) (by kernel_rfl) (by decide +kernel) ?_
    | refine RepS.assign _ _ _ _ _ _ ?_ (by intro _; rfl) (by intro _; rfl) ?_ (by intro _; rfl)
    | refine RepS.augLoc _ _ _ _ _ _ _ (by decide) (by kernel_rfl) (by kernel_rfl) ?_
    | refine RepS.augAttr _ _ _ _ _ _ _ _ _ (by kernel_rfl) ?_ ?_
    | refine RepS.ife _ _ _ _ _ _ _ _ ?_ ?_ ?_
    | refine RepS.forR _ _ _ _ _ _ _ _ _ _ _ _ ⟨by decide, by kernel_rfl⟩ (by kernel_rfl) (by kernel_rfl) (by kernel_rfl) (by intro _; rfl) (by intro _ _; rfl) ?_ ?_
    | refine RepS.forL _ _ _ _ _ _ _ _ _ (by decide +kernel) ?_ (by intro _ _; rfl) ?_ ?_
    | exact RepS.junk _ _
    | refine RepTgt.loc _ _ _ _ (by decide) (by kernel_rfl) (by kernel_rfl)
    | refine RepTgt.cel _ _ _ _ (by decide) (by kernel_rfl) (by kernel_rfl)
    | refine RepTgt.attr _ _ _ _ _ _ (by kernel_rfl) ?_
    | refine RepTgt.sub _ _ _ _ _ _ ?_ ?_
    | exact RepTgs.nil _
    | refine RepTgs.cons _ _ _ _ _ (by intro _; rfl) ?_ ?_
    | refine RepTg.one _ _ _ (by decide) (by kernel_rfl)
    | refine RepTg.tup _ _ _ _ (by decide) ?_
    | exact NamesAre.nil
    | refine NamesAre.cons _ _ _ _ _ (by decide) (by kernel_rfl) ?_
    | exact KeysAre.nil
    | refine KeysAre.cons _ _ _ _ _ _ (by decide) (by kernel_rfl) ?_
    | refine RepE.loc _ _ _ _ (by decide) (by kernel_rfl) (by kernel_rfl) (by kernel_rfl)
    | refine RepE.cel _ _ _ _ (by decide) (by kernel_rfl) (by kernel_rfl) (by kernel_rfl)
    | refine RepE.glob _ _ _ _ (by decide) (by kernel_rfl) (by kernel_rfl) (by kernel_rfl)
    | exact RepE.int _ _ _ _
    | exact RepE.neg _ _ _ _ _ _ (by kernel_rfl)
    | exact RepE.str _ _ _ _ _ (by decide) (by kernel_rfl)
    | exact RepE.bool _ _ _ _
    | exact RepE.none _ _ _
    | refine RepE.bin _ _ _ _ _ _ _ _ (by kernel_rfl) ?_ ?_
    | refine RepE.cmp _ _ _ _ _ _ _ _ (by kernel_rfl) (by kernel_rfl) ?_ ?_
    | refine RepE.isIn _ _ _ _ _ _ (by kernel_rfl) ?_ ?_
    | refine RepE.notIn _ _ _ _ _ _ (by kernel_rfl) ?_ ?_
    | refine RepE.isNone _ _ _ _ _ _ ?_
    | refine RepE.notNone _ _ _ _ _ _ ?_
    | refine RepE.and _ _ _ _ _ _ _ ?_ ?_
    | refine RepE.or _ _ _ _ _ _ _ ?_ ?_
    | refine RepB.and _ _ _ _ _ _ _ ?_ ?_
    | refine RepB.or _ _ _ _ _ _ _ ?_ ?_
    | refine RepB.one _ _ _ _ _ ?_
    | refine RepE.not _ _ _ _ ?_
    | refine RepE.ife _ _ _ _ _ _ _ _ ?_ ?_ ?_
    | refine RepE.attr _ _ _ _ _ _ (by kernel_rfl) (by intro _; with_unfolding_all rfl) ?_
    | refine RepE.upto _ _ _ _ _ _ _ _ ?_
    | refine RepE.sub _ _ _ _ _ _ (by intro _ _; rfl) ?_ ?_
    | refine RepE.call _ _ _ _ _ _ _ ?_ ?_
    | refine RepE.meth _ _ _ _ _ _ _ _ _ _ (by kernel_rfl) (by intro _; rfl) ?_ ?_
    | refine RepE.b1 _ _ _ _ _ _ _ (by kernel_rfl) (by kernel_rfl) (by intro _; rfl) ?_
    | refine RepE.max _ _ _ _ _ _ _ _ (by kernel_rfl) (by kernel_rfl) (by intro _; rfl) ?_ ?_
    | refine RepE.tup _ _ _ _ _ (by decide) ?_
    | refine RepE.list _ _ _ _ (by decide) ?_
    | exact RepE.dict0 _ _
    | refine RepE.dict _ _ _ _ _ _ (by decide) (by kernel_rfl) (by simp) (by decide) ?_ ?_
    | refine RepE.comp _ _ _ _ _ _ _ _ _ _ (by kernel_rfl) ?_ (by intro _ _; rfl) ?_ ?_
    | refine RepE.compIf _ _ _ _ _ _ _ _ _ _ _ _ (by kernel_rfl) ?_ (by intro _ _; rfl) ?_ ?_ ?_
    | refine RepE.compR _ _ _ _ _ _ _ _ _ _ _ _ (by kernel_rfl) ?_ (by kernel_rfl) (by kernel_rfl) (by intro _; rfl) (by intro _ _; rfl) ?_ ?_
    | exact RepE.junk _ _
    | exact RepEs.nil _
    | refine RepEs.cons _ _ _ _ _ (by intro _; rfl) ?_ ?_
theorem fk_264 (P : Params) : FnOk (hd.heap_1 P) 264 ⟨[47, 40, 41, 42], [], b_Network_init⟩ := by
  refine ⟨_, _, _, _, _, _, _, _, _, _, _, _, _, _, _, rfl, by kernel_rfl, ?rep, ?bind, ?par, by decide, ?cells, rfl, rfl, rfl⟩
  case bind =>
    intro s ws h
    obtain ⟨v0, v1, v2, v3, rfl⟩ := len4 h
    exact BindsTo.of_eq rfl
  case par => decide +kernel
  case cells => exact .inl ⟨rfl, fun n => by kernel_rfl, noCell (by kernel_rfl)⟩
  repeat' first
    | exact RepSs.nil _
    | refine RepSs.cons _ _ _ _ _ ?_ ?_
    | refine RepS.ret _ _ _ _ ?_
    | refine RepS.expr _ _ _ _ (by intro _; rfl) ?_
    | refine RepS.assignComp _ _ _ _ _ _ _ (by decide) (by kernel_rfl) (by kernel_rfl) (by kernel_rfl) ?_ rfl
    | refine RepS.assignTup _ _ _ _ _ _ _ _ (by intro _; rfl) (by kernel_rfl) ?_ ?_
    | refine RepS.assignSw _ [] _ _ _ _ _ _ _ rfl (by intro _; rfl) (by kernel_rfl) (by decide +kernel) ?_
    | refine RepS.assign _ _ _ _ _ _ ?_ (by intro _; rfl) (by intro _; rfl) ?_ (by intro _; rfl)
    | refine RepS.augLoc _ _ _ _ _ _ _ (by decide) (by kernel_rfl) (by kernel_rfl) ?_
    | refine RepS.augAttr _ _ _ _ _ _ _ _ _ (by kernel_rfl) ?_ ?_
    | refine RepS.ife _ _ _ _ _ _ _ _ ?_ ?_ ?_
    | refine RepS.forR _ _ _ _ _ _ _ _ _ _ _ _ ⟨by decide, by kernel_rfl⟩ (by kernel_rfl) (by kernel_rfl) (by kernel_rfl) (by intro _; rfl) (by intro _ _; rfl) ?_ ?_
    | refine RepS.forL _ _ _ _ _ _ _ _ _ (by decide +kernel) ?_ (by intro _ _; rfl) ?_ ?_
    | exact RepS.junk _ _
    | refine RepTgt.loc _ _ _ _ (by decide) (by kernel_rfl) (by kernel_rfl)
    | refine RepTgt.cel _ _ _ _ (by decide) (by kernel_rfl) (by kernel_rfl)
    | refine RepTgt.attr _ _ _ _ _ _ (by kernel_rfl) ?_
    | refine RepTgt.sub _ _ _ _ _ _ ?_ ?_
    | exact RepTgs.nil _
    | refine RepTgs.cons _ _ _ _ _ (by intro _; rfl) ?_ ?_
    | refine RepTg.one _ _ _ (by decide) (by kernel_rfl)
    | refine RepTg.tup _ _ _ _ (by decide) ?_
    | exact NamesAre.nil
    | refine NamesAre.cons _ _ _ _ _ (by decide) (by kernel_rfl) ?_
    | exact KeysAre.nil
    | refine KeysAre.cons _ _ _ _ _ _ (by decide) (by kernel_rfl) ?_
    | refine RepE.loc _ _ _ _ (by decide) (by kernel_rfl) (by kernel_rfl) (by kernel_rfl)
    | refine RepE.cel _ _ _ _ (by decide) (by kernel_rfl) (by kernel_rfl) (by kernel_rfl)
    | refine RepE.glob _ _ _ _ (by decide) (by kernel_rfl) (by kernel_rfl) (by kernel_rfl)
    | exact RepE.int _ _ _ _
    | exact RepE.neg _ _ _ _ _ _ (by kernel_rfl)
    | exact RepE.str _ _ _ _ _ (by decide) (by kernel_rfl)
    | exact RepE.bool _ _ _ _
    | exact RepE.none _ _ _
    | refine RepE.bin _ _ _ _ _ _ _ _ (by kernel_rfl) ?_ ?_
    | refine RepE.cmp _ _ _ _ _ _ _ _ (by kernel_rfl) (by kernel_rfl) ?_ ?_
    | refine RepE.isIn _ _ _ _ _ _ (by kernel_rfl) ?_ ?_
    | refine RepE.notIn _ _ _ _ _ _ (by kernel_rfl) ?_ ?_
    | refine RepE.isNone _ _ _ _ _ _ ?_
    | refine RepE.notNone _ _ _ _ _ _ ?_
    | refine RepE.and _ _ _ _ _ _ _ ?_ ?_
    | refine RepE.or _ _ _ _ _ _ _ ?_ ?_
    | refine RepB.and _ _ _ _ _ _ _ ?_ ?_
    | refine RepB.or _ _ _ _ _ _ _ ?_ ?_
    | refine RepB.one _ _ _ _ _ ?_
    | refine RepE.not _ _ _ _ ?_
    | refine RepE.ife _ _ _ _ _ _ _ _ ?_ ?_ ?_
    | refine RepE.attr _ _ _ _ _ _ (by kernel_rfl) (by intro _; with_unfolding_all rfl) ?_
    | refine RepE.upto _ _ _ _ _ _ _ _ ?_
    | refine RepE.sub _ _ _ _ _ _ (by intro _ _; rfl) ?_ ?_
    | refine RepE.call _ _ _ _ _ _ _ ?_ ?_
    | refine RepE.meth _ _ _ _ _ _ _ _ _ _ (by kernel_rfl) (by intro _; rfl) ?_ ?_
    | refine RepE.b1 _ _ _ _ _ _ _ (by kernel_rfl) (by kernel_rfl) (by intro _; rfl) ?_
    | refine RepE.max _ _ _ _ _ _ _ _ (by kernel_rfl) (by kernel_rfl) (by intro _; rfl) ?_ ?_
    | refine RepE.tup _ _ _ _ _ (by decide) ?_
    | refine RepE.list _ _ _ _ (by decide) ?_
    | exact RepE.dict0 _ _
    | refine RepE.dict _ _ _ _ _ _ (by decide) (by kernel_rfl) (by simp) (by decide) ?_ ?_
    | refine RepE.comp _ _ _ _ _ _ _ _ _ _ (by kernel_rfl) ?_ (by intro _ _; rfl) ?_ ?_
    | refine RepE.compIf _ _ _ _ _ _ _ _ _ _ _ _ (by kernel_rfl) ?_ (by intro _ _; rfl) ?_ ?_ ?_
    | refine RepE.compR _ _ _ _ _ _ _ _ _ _ _ _ (by kernel_rfl) ?_ (by kernel_rfl) (by kernel_rfl) (by intro _; rfl) (by intro _ _; rfl) ?_ ?_
    | exact RepE.junk _ _
    | exact RepEs.nil _
    | refine RepEs.cons _ _ _ _ _ (by intro _; rfl) ?_ ?_
theorem fk_271 (P : Params) : FnOk (hd.heap_1 P) 271 ⟨[47], [], b_Network_next_fate⟩ := by
  refine ⟨_, _, _, _, _, _, _, _, _, _, _, _, _, _, _, rfl, by kernel_rfl, ?rep, ?bind, ?par, by decide, ?cells, rfl, rfl, rfl⟩
  case bind =>
    intro s ws h
    obtain ⟨v0, rfl⟩ := len1 h
    exact BindsTo.of_eq rfl
  case par => decide +kernel
  case cells => exact .inl ⟨rfl, fun n => by kernel_rfl, noCell (by kernel_rfl)⟩
  repeat' first
    | exact RepSs.nil _
    | refine RepSs.cons _ _ _ _ _ ?_ ?_
    | refine RepS.ret _ _ _ _ ?_
    | refine RepS.expr _ _ _ _ (by intro _; rfl) ?_
    | refine RepS.assignComp _ _ _ _ _ _ _ (by decide) (by kernel_rfl) (by kernel_rfl) (by kernel_rfl) ?_ rfl
    | refine RepS.assignTup _ _ _ _ _ _ _ _ (by intro _; rfl) (by kernel_rfl) ?_ ?_
    | refine RepS.assignSw _ [] _ _ _ _ _ _ _ rfl (by intro _; rfl) (by kernel_rfl) (by decide +kernel) ?_
    | refine RepS.assign _ _ _ _ _ _ ?_ (by intro _; rfl) (by intro _; rfl) ?_ (by intro _; rfl)
    | refine RepS.augLoc _ _ _ _ _ _ _ (by decide) (by kernel_rfl) (by kernel_rfl) ?_
    | refine RepS.augAttr _ _ _ _ _ _ _ _ _ (by kernel_rfl) ?_ ?_
    | refine RepS.ife _ _ _ _ _ _ _ _ ?_ ?_ ?_
    | refine RepS.forR _ _ _ _ _ _ _ _ _ _ _ _ ⟨by decide, by kernel_rfl⟩ (by kernel_rfl) (by kernel_rfl) (by kernel_rfl) (by intro _; rfl) (by intro _ _; rfl) ?_ ?_
    | refine RepS.forL _ _ _ _ _ _ _ _ _ (by decide +kernel) ?_ (by intro _ _; rfl) ?_ ?_
    | exact RepS.junk _ _
    | refine RepTgt.loc _ _ _ _ (by decide) (by kernel_rfl) (by kernel_rfl)
    | refine RepTgt.cel _ _ _ _ (by decide) (by kernel_rfl) (by kernel_rfl)
    | refine RepTgt.attr _ _ _ _ _ _ (by kernel_rfl) ?_
    | refine RepTgt.sub _ _ _ _ _ _ ?_ ?_
    | exact RepTgs.nil _
    | refine RepTgs.cons _ _ _ _ _ (by intro _; rfl) ?_ ?_
    | refine RepTg.one _ _ _ (by decide) (by kernel_rfl)
    | refine RepTg.tup _ _ _ _ (by decide) ?_
    | exact NamesAre.nil
    | refine NamesAre.cons _ _ _ _ _ (by decide) (by kernel_rfl) ?_
    | exact KeysAre.nil
    | refine KeysAre.cons _ _ _ _ _ _ (by decide) (by kernel_rfl) ?_
    | refine RepE.loc _ _ _ _ (by decide) (by kernel_rfl) (by kernel_rfl) (by kernel_rfl)
    | refine RepE.cel _ _ _ _ (by decide) (by kernel_rfl) (by kernel_rfl) (by kernel_rfl)
    | refine RepE.glob _ _ _ _ (by decide) (by kernel_rfl) (by kernel_rfl) (by kernel_rfl)
    | exact RepE.int _ _ _ _
    | exact RepE.neg _ _ _ _ _ _ (by kernel_rfl)
    | exact RepE.str _ _ _ _ _ (by decide) (by kernel_rfl)
    | exact RepE.bool _ _ _ _
    | exact RepE.none _ _ _
    | refine RepE.bin _ _ _ _ _ _ _ _ (by kernel_rfl) ?_ ?_
    | refine RepE.cmp _ _ _ _ _ _ _ _ (by kernel_rfl) (by kernel_rfl) ?_ ?_
    | refine RepE.isIn _ _ _ _ _ _ (by kernel_rfl) ?_ ?_
    | refine RepE.notIn _ _ _ _ _ _ (by kernel_rfl) ?_ ?_
    | refine RepE.isNone _ _ _ _ _ _ ?_
    | refine RepE.notNone _ _ _ _ _ _ ?_
    | refine RepE.and _ _ _ _ _ _ _ ?_ ?_
    | refine RepE.or _ _ _ _ _ _ _ ?_ ?_
    | refine RepB.and _ _ _ _ _ _ _ ?_ ?_
    | refine RepB.or _ _ _ _ _ _ _ ?_ ?_
    | refine RepB.one _ _ _ _ _ ?_
    | refine RepE.not _ _ _ _ ?_
    | refine RepE.ife _ _ _ _ _ _ _ _ ?_ ?_ ?_
    | refine RepE.attr _ _ _ _ _ _ (by kernel_rfl) (by intro _; with_unfolding_all rfl) ?_
    | refine RepE.upto _ _ _ _ _ _ _ _ ?_
    | refine RepE.sub _ _ _ _ _ _ (by intro _ _; rfl) ?_ ?_
    | refine RepE.call _ _ _ _ _ _ _ ?_ ?_
    | refine RepE.meth _ _ _ _ _ _ _ _ _ _ (by kernel_rfl) (by intro _; rfl) ?_ ?_
    | refine RepE.b1 _ _ _ _ _ _ _ (by kernel_rfl) (by kernel_rfl) (by intro _; rfl) ?_
    | refine RepE.max _ _ _ _ _ _ _ _ (by kernel_rfl) (by kernel_rfl) (by intro _; rfl) ?_ ?_
    | refine RepE.tup _ _ _ _ _ (by decide) ?_
    | refine RepE.list _ _ _ _ (by decide) ?_
    | exact RepE.dict0 _ _
    | refine RepE.dict _ _ _ _ _ _ (by decide) (by kernel_rfl) (by simp) (by decide) ?_ ?_
    | refine RepE.comp _ _ _ _ _ _ _ _ _ _ (by kernel_rfl) ?_ (by intro _ _; rfl) ?_ ?_
    | refine RepE.compIf _ _ _ _ _ _ _ _ _ _ _ _ (by kernel_rfl) ?_ (by intro _ _; rfl) ?_ ?_ ?_
    | refine RepE.compR _ _ _ _ _ _ _ _ _ _ _ _ (by kernel_rfl) ?_ (by kernel_rfl) (by kernel_rfl) (by intro _; rfl) (by intro _ _; rfl) ?_ ?_
    | exact RepE.junk _ _
    | exact RepEs.nil _
    | refine RepEs.cons _ _ _ _ _ (by intro _; rfl) ?_ ?_
theorem fk_278 (P : Params) : FnOk (hd.heap_1 P) 278 ⟨[47, 90, 89, 65, 88], [], b_Network_put⟩ := by
  refine ⟨_, _, _, _, _, _, _, _, _, _, _, _, _, _, _, rfl, by kernel_rfl, ?rep, ?bind, ?par, by decide, ?cells, rfl, rfl, rfl⟩
  case bind =>
    intro s ws h
    obtain ⟨v0, v1, v2, v3, v4, rfl⟩ := len5 h
    exact BindsTo.of_eq rfl
  case par => decide +kernel
  case cells => exact .inl ⟨rfl, fun n => by kernel_rfl, noCell (by kernel_rfl)⟩
  repeat' first
    | exact RepSs.nil _
    | refine RepSs.cons _ _ _ _ _ ?_ ?_
    | refine RepS.ret _ _ _ _ ?_
    | refine RepS.expr _ _ _ _ (by intro _; rfl) ?_
    | refine RepS.assignComp _ _ _ _ _ _ _ (by decide) (by kernel_rfl) (by kernel_rfl) (by kernel_rfl) ?_ rfl
    | refine RepS.assignTup _ _ _ _ _ _ _ _ (by intro _; rfl) (by kernel_rfl) ?_ ?_
    | refine RepS.assignSw _ [] _ _ _ _ _ _ _ rfl (by intro _; rfl) (by kernel_rfl) (by decide +kernel) ?_
    | refine RepS.assign _ _ _ _ _ _ ?_ (by intro _; rfl) (by intro _; rfl) ?_ (by intro _; rfl)
    | refine RepS.augLoc _ _ _ _ _ _ _ (by decide) (by kernel_rfl) (by kernel_rfl) ?_
    | refine RepS.augAttr _ _ _ _ _ _ _ _ _ (by kernel_rfl) ?_ ?_
    | refine RepS.ife _ _ _ _ _ _ _ _ ?_ ?_ ?_
    | refine RepS.forR _ _ _ _ _ _ _ _ _ _ _ _ ⟨by decide, by kernel_rfl⟩ (by kernel_rfl) (by kernel_rfl) (by kernel_rfl) (by intro _; rfl) (by intro _ _; rfl) ?_ ?_
    | refine RepS.forL _ _ _ _ _ _ _ _ _ (by decide +kernel) ?_ (by intro _ _; rfl) ?_ ?_
    | exact RepS.junk _ _
    | refine RepTgt.loc _ _ _ _ (by decide) (by kernel_rfl) (by kernel_rfl)
    | refine RepTgt.cel _ _ _ _ (by decide) (by kernel_rfl) (by kernel_rfl)
    | refine RepTgt.attr _ _ _ _ _ _ (by kernel_rfl) ?_
    | refine RepTgt.sub _ _ _ _ _ _ ?_ ?_
    | exact RepTgs.nil _
    | refine RepTgs.cons _ _ _ _ _ (by intro _; rfl) ?_ ?_
    | refine RepTg.one _ _ _ (by decide) (by kernel_rfl)
    | refine RepTg.tup _ _ _ _ (by decide) ?_
    | exact NamesAre.nil
    | refine NamesAre.cons _ _ _ _ _ (by decide) (by kernel_rfl) ?_
    | exact KeysAre.nil
    | refine KeysAre.cons _ _ _ _ _ _ (by decide) (by kernel_rfl) ?_
    | refine RepE.loc _ _ _ _ (by decide) (by kernel_rfl) (by kernel_rfl) (by kernel_rfl)
    | refine RepE.cel _ _ _ _ (by decide) (by kernel_rfl) (by kernel_rfl) (by kernel_rfl)
    | refine RepE.glob _ _ _ _ (by decide) (by kernel_rfl) (by kernel_rfl) (by kernel_rfl)
    | exact RepE.int _ _ _ _
    | exact RepE.neg _ _ _ _ _ _ (by kernel_rfl)
    | exact RepE.str _ _ _ _ _ (by decide) (by kernel_rfl)
    | exact RepE.bool _ _ _ _
    | exact RepE.none _ _ _
    | refine RepE.bin _ _ _ _ _ _ _ _ (by kernel_rfl) ?_ ?_
    | refine RepE.cmp _ _ _ _ _ _ _ _ (by kernel_rfl) (by kernel_rfl) ?_ ?_
    | refine RepE.isIn _ _ _ _ _ _ (by kernel_rfl) ?_ ?_
    | refine RepE.notIn _ _ _ _ _ _ (by kernel_rfl) ?_ ?_
    | refine RepE.isNone _ _ _ _ _ _ ?_
    | refine RepE.notNone _ _ _ _ _ _ ?_
    | refine RepE.and _ _ _ _ _ _ _ ?_ ?_
    | refine RepE.or _ _ _ _ _ _ _ ?_ ?_
    | refine RepB.and _ _ _ _ _ _ _ ?_ ?_
    | refine RepB.or _ _ _ _ _ _ _ ?_ ?_
    | refine RepB.one _ _ _ _ _ ?_
    | refine RepE.not _ _ _ _ ?_
    | refine RepE.ife _ _ _ _ _ _ _ _ ?_ ?_ ?_
    | refine RepE.attr _ _ _ _ _ _ (by kernel_rfl) (by intro _; with_unfolding_all rfl) ?_
    | refine RepE.upto _ _ _ _ _ _ _ _ ?_
    | refine RepE.sub _ _ _ _ _ _ (by intro _ _; rfl) ?_ ?_
    | refine RepE.call _ _ _ _ _ _ _ ?_ ?_
    | refine RepE.meth _ _ _ _ _ _ _ _ _ _ (by kernel_rfl) (by intro _; rfl) ?_ ?_
    | refine RepE.b1 _ _ _ _ _ _ _ (by kernel_rfl) (by kernel_rfl) (by intro _; rfl) ?_
    | refine RepE.max _ _ _ _ _ _ _ _ (by kernel_rfl) (by kernel_rfl) (by intro _; rfl) ?_ ?_
    | refine RepE.tup _ _ _ _ _ (by decide) ?_
    | refine RepE.list _ _ _ _ (by decide) ?_
    | exact RepE.dict0 _ _
    | refine RepE.dict _ _ _ _ _ _ (by decide) (by kernel_rfl) (by simp) (by decide) ?_ ?_
    | refine RepE.comp _ _ _ _ _ _ _ _ _ _ (by kernel_rfl) ?_ (by intro _ _; rfl) ?_ ?_
    | refine RepE.compIf _ _ _ _ _ _ _ _ _ _ _ _ (by kernel_rfl) ?_ (by intro _ _; rfl) ?_ ?_ ?_
    | refine RepE.compR _ _ _ _ _ _ _ _ _ _ _ _ (by kernel_rfl) ?_ (by kernel_rfl) (by kernel_rfl) (by intro _; rfl) (by intro _ _; rfl) ?_ ?_
    | exact RepE.junk _ _
    | exact RepEs.nil _
    | refine RepEs.cons _ _ _ _ _ (by intro _; rfl) ?_ ?_
theorem fk_285 (P : Params) : FnOk (hd.heap_1 P) 285 ⟨[47, 18, 89, 65, 88], [], b_Network_carry⟩ := by
  refine ⟨_, _, _, _, _, _, _, _, _, _, _, _, _, _, _, rfl, by kernel_rfl, ?rep, ?bind, ?par, by decide, ?cells, rfl, rfl, rfl⟩
  case bind =>
    intro s ws h
    obtain ⟨v0, v1, v2, v3, v4, rfl⟩ := len5 h
    exact BindsTo.of_eq rfl
  case par => decide +kernel
  case cells => exact .inl ⟨rfl, fun n => by kernel_rfl, noCell (by kernel_rfl)⟩
  repeat' first
    | exact RepSs.nil _
    | refine RepSs.cons _ _ _ _ _ ?_ ?_
    | refine RepS.ret _ _ _ _ ?_
    | refine RepS.expr _ _ _ _ (by intro _; rfl) ?_
    | refine RepS.assignComp _ _ _ _ _ _ _ (by decide) (by kernel_rfl) (by kernel_rfl) (by kernel_rfl) ?_ rfl
    | refine RepS.assignTup _ _ _ _ _ _ _ _ (by intro _; rfl) (by kernel_rfl) ?_ ?_
    | refine RepS.assignSw _ [] _ _ _ _ _ _ _ rfl (by intro _; rfl) (by kernel_rfl) (by decide +kernel) ?_
    | refine RepS.assign _ _ _ _ _ _ ?_ (by intro _; rfl) (by intro _; rfl) ?_ (by intro _; rfl)
    | refine RepS.augLoc _ _ _ _ _ _ _ (by decide) (by kernel_rfl) (by kernel_rfl) ?_
    | refine RepS.augAttr _ _ _ _ _ _ _ _ _ (by kernel_rfl) ?_ ?_
    | refine RepS.ife _ _ _ _ _ _ _ _ ?_ ?_ ?_
    | refine RepS.forR _ _ _ _ _ _ _ _ _ _ _ _ ⟨by decide, by kernel_rfl⟩ (by kernel_rfl) (by kernel_rfl) (by kernel_rfl) (by intro _; rfl) (by intro _ _; rfl) ?_ ?_
    | refine RepS.forL _ _ _ _ _ _ _ _ _ (by decide +kernel) ?_ (by intro _ _; rfl) ?_ ?_
    | exact RepS.junk _ _
    | refine RepTgt.loc _ _ _ _ (by decide) (by kernel_rfl) (by kernel_rfl)
    | refine RepTgt.cel _ _ _ _ (by decide) (by kernel_rfl) (by kernel_rfl)
    | refine RepTgt.attr _ _ _ _ _ _ (by kernel_rfl) ?_
    | refine RepTgt.sub _ _ _ _ _ _ ?_ ?_
    | exact RepTgs.nil _
    | refine RepTgs.cons _ _ _ _ _ (by intro _; rfl) ?_ ?_
    | refine RepTg.one _ _ _ (by decide) (by kernel_rfl)
    | refine RepTg.tup _ _ _ _ (by decide) ?_
    | exact NamesAre.nil
    | refine NamesAre.cons _ _ _ _ _ (by decide) (by kernel_rfl) ?_
    | exact KeysAre.nil
    | refine KeysAre.cons _ _ _ _ _ _ (by decide) (by kernel_rfl) ?_
    | refine RepE.loc _ _ _ _ (by decide) (by kernel_rfl) (by kernel_rfl) (by kernel_rfl)
    | refine RepE.cel _ _ _ _ (by decide) (by kernel_rfl) (by kernel_rfl) (by kernel_rfl)
    | refine RepE.glob _ _ _ _ (by decide) (by kernel_rfl) (by kernel_rfl) (by kernel_rfl)
    | exact RepE.int _ _ _ _
    | exact RepE.neg _ _ _ _ _ _ (by kernel_rfl)
    | exact RepE.str _ _ _ _ _ (by decide) (by kernel_rfl)
    | exact RepE.bool _ _ _ _
    | exact RepE.none _ _ _
    | refine RepE.bin _ _ _ _ _ _ _ _ (by kernel_rfl) ?_ ?_
    | refine RepE.cmp _ _ _ _ _ _ _ _ (by kernel_rfl) (by kernel_rfl) ?_ ?_
    | refine RepE.isIn _ _ _ _ _ _ (by kernel_rfl) ?_ ?_
    | refine RepE.notIn _ _ _ _ _ _ (by kernel_rfl) ?_ ?_
    | refine RepE.isNone _ _ _ _ _ _ ?_
    | refine RepE.notNone _ _ _ _ _ _ ?_
    | refine RepE.and _ _ _ _ _ _ _ ?_ ?_
    | refine RepE.or _ _ _ _ _ _ _ ?_ ?_
    | refine RepB.and _ _ _ _ _ _ _ ?_ ?_
    | refine RepB.or _ _ _ _ _ _ _ ?_ ?_
    | refine RepB.one _ _ _ _ _ ?_
    | refine RepE.not _ _ _ _ ?_
    | refine RepE.ife _ _ _ _ _ _ _ _ ?_ ?_ ?_
    | refine RepE.attr _ _ _ _ _ _ (by kernel_rfl) (by intro _; with_unfolding_all rfl) ?_
    | refine RepE.upto _ _ _ _ _ _ _ _ ?_
    | refine RepE.sub _ _ _ _ _ _ (by intro _ _; rfl) ?_ ?_
    | refine RepE.call _ _ _ _ _ _ _ ?_ ?_
    | refine RepE.meth _ _ _ _ _ _ _ _ _ _ (by kernel_rfl) (by intro _; rfl) ?_ ?_
    | refine RepE.b1 _ _ _ _ _ _ _ (by kernel_rfl) (by kernel_rfl) (by intro _; rfl) ?_
    | refine RepE.max _ _ _ _ _ _ _ _ (by kernel_rfl) (by kernel_rfl) (by intro _; rfl) ?_ ?_
    | refine RepE.tup _ _ _ _ _ (by decide) ?_
    | refine RepE.list _ _ _ _ (by decide) ?_
    | exact RepE.dict0 _ _
    | refine RepE.dict _ _ _ _ _ _ (by decide) (by kernel_rfl) (by simp) (by decide) ?_ ?_
    | refine RepE.comp _ _ _ _ _ _ _ _ _ _ (by kernel_rfl) ?_ (by intro _ _; rfl) ?_ ?_
    | refine RepE.compIf _ _ _ _ _ _ _ _ _ _ _ _ (by kernel_rfl) ?_ (by intro _ _; rfl) ?_ ?_ ?_
    | refine RepE.compR _ _ _ _ _ _ _ _ _ _ _ _ (by kernel_rfl) ?_ (by kernel_rfl) (by kernel_rfl) (by intro _; rfl) (by intro _ _; rfl) ?_ ?_
    | exact RepE.junk _ _
    | exact RepEs.nil _
    | refine RepEs.cons _ _ _ _ _ (by intro _; rfl) ?_ ?_
theorem fk_290 (P : Params) : FnOk (hd.heap_1 P) 290 ⟨[47], [], b_Network_next_time⟩ := by
  refine ⟨_, _, _, _, _, _, _, _, _, _, _, _, _, _, _, rfl, by kernel_rfl, ?rep, ?bind, ?par, by decide, ?cells, rfl, rfl, rfl⟩
  case bind =>
    intro s ws h
    obtain ⟨v0, rfl⟩ := len1 h
    exact BindsTo.of_eq rfl
  case par => decide +kernel
  case cells => exact .inl ⟨rfl, fun n => by kernel_rfl, noCell (by kernel_rfl)⟩
  repeat' first
    | exact RepSs.nil _
    | refine RepSs.cons _ _ _ _ _ ?_ ?_
    | refine RepS.ret _ _ _ _ ?_
    | refine RepS.expr _ _ _ _ (by intro _; rfl) ?_
    | refine RepS.assignComp _ _ _ _ _ _ _ (by decide) (by kernel_rfl) (by kernel_rfl) (by kernel_rfl) ?_ rfl
    | refine RepS.assignTup _ _ _ _ _ _ _ _ (by intro _; rfl) (by kernel_rfl) ?_ ?_
    | refine RepS.assignSw _ [] _ _ _ _ _ _ _ rfl (by intro _; rfl) (by kernel_rfl) (by decide +kernel) ?_
    | refine RepS.assign _ _ _ _ _ _ ?_ (by intro _; rfl) (by intro _; rfl) ?_ (by intro _; rfl)
    | refine RepS.augLoc _ _ _ _ _ _ _ (by decide) (by kernel_rfl) (by kernel_rfl) ?_
    | refine RepS.augAttr _ _ _ _ _ _ _ _ _ (by kernel_rfl) ?_ ?_
    | refine RepS.ife _ _ _ _ _ _ _ _ ?_ ?_ ?_
    | refine RepS.forR _ _ _ _ _ _ _ _ _ _ _ _ ⟨by decide, by kernel_rfl⟩ (by kernel_rfl) (by kernel_rfl) (by kernel_rfl) (by intro _; rfl) (by intro _ _; rfl) ?_ ?_
    | refine RepS.forL _ _ _ _ _ _ _ _ _ (by decide +kernel) ?_ (by intro _ _; rfl) ?_ ?_
    | exact RepS.junk _ _
    | refine RepTgt.loc _ _ _ _ (by decide) (by kernel_rfl) (by kernel_rfl)
    | refine RepTgt.cel _ _ _ _ (by decide) (by kernel_rfl) (by kernel_rfl)
    | refine RepTgt.attr _ _ _ _ _ _ (by kernel_rfl) ?_
    | refine RepTgt.sub _ _ _ _ _ _ ?_ ?_
    | exact RepTgs.nil _
    | refine RepTgs.cons _ _ _ _ _ (by intro _; rfl) ?_ ?_
    | refine RepTg.one _ _ _ (by decide) (by kernel_rfl)
    | refine RepTg.tup _ _ _ _ (by decide) ?_
    | exact NamesAre.nil
    | refine NamesAre.cons _ _ _ _ _ (by decide) (by kernel_rfl) ?_
    | exact KeysAre.nil
    | refine KeysAre.cons _ _ _ _ _ _ (by decide) (by kernel_rfl) ?_
    | refine RepE.loc _ _ _ _ (by decide) (by kernel_rfl) (by kernel_rfl) (by kernel_rfl)
    | refine RepE.cel _ _ _ _ (by decide) (by kernel_rfl) (by kernel_rfl) (by kernel_rfl)
    | refine RepE.glob _ _ _ _ (by decide) (by kernel_rfl) (by kernel_rfl) (by kernel_rfl)
    | exact RepE.int _ _ _ _
    | exact RepE.neg _ _ _ _ _ _ (by kernel_rfl)
    | exact RepE.str _ _ _ _ _ (by decide) (by kernel_rfl)
    | exact RepE.bool _ _ _ _
    | exact RepE.none _ _ _
    | refine RepE.bin _ _ _ _ _ _ _ _ (by kernel_rfl) ?_ ?_
    | refine RepE.cmp _ _ _ _ _ _ _ _ (by kernel_rfl) (by kernel_rfl) ?_ ?_
    | refine RepE.isIn _ _ _ _ _ _ (by kernel_rfl) ?_ ?_
    | refine RepE.notIn _ _ _ _ _ _ (by kernel_rfl) ?_ ?_
    | refine RepE.isNone _ _ _ _ _ _ ?_
    | refine RepE.notNone _ _ _ _ _ _ ?_
    | refine RepE.and _ _ _ _ _ _ _ ?_ ?_
    | refine RepE.or _ _ _ _ _ _ _ ?_ ?_
    | refine RepB.and _ _ _ _ _ _ _ ?_ ?_
    | refine RepB.or _ _ _ _ _ _ _ ?_ ?_
    | refine RepB.one _ _ _ _ _ ?_
    | refine RepE.not _ _ _ _ ?_
    | refine RepE.ife _ _ _ _ _ _ _ _ ?_ ?_ ?_
    | refine RepE.attr _ _ _ _ _ _ (by kernel_rfl) (by intro _; with_unfolding_all rfl) ?_
    | refine RepE.upto _ _ _ _ _ _ _ _ ?_
    | refine RepE.sub _ _ _ _ _ _ (by intro _ _; rfl) ?_ ?_
    | refine RepE.call _ _ _ _ _ _ _ ?_ ?_
    | refine RepE.meth _ _ _ _ _ _ _ _ _ _ (by kernel_rfl) (by intro _; rfl) ?_ ?_
    | refine RepE.b1 _ _ _ _ _ _ _ (by kernel_rfl) (by kernel_rfl) (by intro _; rfl) ?_
    | refine RepE.max _ _ _ _ _ _ _ _ (by kernel_rfl) (by kernel_rfl) (by intro _; rfl) ?_ ?_
    | refine RepE.tup _ _ _ _ _ (by decide) ?_
    | refine RepE.list _ _ _ _ (by decide) ?_
    | exact RepE.dict0 _ _
    | refine RepE.dict _ _ _ _ _ _ (by decide) (by kernel_rfl) (by simp) (by decide) ?_ ?_
    | refine RepE.comp _ _ _ _ _ _ _ _ _ _ (by kernel_rfl) ?_ (by intro _ _; rfl) ?_ ?_
    | refine RepE.compIf _ _ _ _ _ _ _ _ _ _ _ _ (by kernel_rfl) ?_ (by intro _ _; rfl) ?_ ?_ ?_
    | refine RepE.compR _ _ _ _ _ _ _ _ _ _ _ _ (by kernel_rfl) ?_ (by kernel_rfl) (by kernel_rfl) (by intro _; rfl) (by intro _ _; rfl) ?_ ?_
    | exact RepE.junk _ _
    | exact RepEs.nil _
    | refine RepEs.cons _ _ _ _ _ (by intro _; rfl) ?_ ?_
theorem fk_295 (P : Params) : FnOk (hd.heap_1 P) 295 ⟨[47, 18], [18], b_Network_arrived⟩ := by
  refine ⟨_, _, _, _, _, _, _, _, _, _, _, _, _, _, _, rfl, by kernel_rfl, ?rep, ?bind, ?par, by decide, ?cells, rfl, rfl, rfl⟩
  case bind =>
    intro s ws h
    obtain ⟨v0, v1, rfl⟩ := len2 h
    exact BindsTo.of_eq rfl
  case par => decide +kernel
  case cells => exact .inr ⟨18, by decide, rfl, fun n => by kernel_rfl, by kernel_rfl, oneCell (by kernel_rfl)⟩
  repeat' first
    | exact RepSs.nil _
    | refine RepSs.cons _ _ _ _ _ ?_ ?_
    | refine RepS.ret _ _ _ _ ?_
    | refine RepS.expr _ _ _ _ (by intro _; rfl) ?_
    | refine RepS.assignComp _ _ _ _ _ _ _ (by decide) (by kernel_rfl) (by kernel_rfl) (by kernel_rfl) ?_ rfl
    | refine RepS.assignTup _ _ _ _ _ _ _ _ (by intro _; rfl) (by kernel_rfl) ?_ ?_
    | refine RepS.assignSw _ [] _ _ _ _ _ _ _ rfl (by intro _; rfl) (by kernel_rfl) (by decide +kernel) ?_
    | refine RepS.assign _ _ _ _ _ _ ?_ (by intro _; rfl) (by intro _; rfl) ?_ (by intro _; rfl)
    | refine RepS.augLoc _ _ _ _ _ _ _ (by decide) (by kernel_rfl) (by kernel_rfl) ?_
    | refine RepS.augAttr _ _ _ _ _ _ _ _ _ (by kernel_rfl) ?_ ?_
    | refine RepS.ife _ _ _ _ _ _ _ _ ?_ ?_ ?_
    | refine RepS.forR _ _ _ _ _ _ _ _ _ _ _ _ ⟨by decide, by kernel_rfl⟩ (by kernel_rfl) (by kernel_rfl) (by kernel_rfl) (by intro _; rfl) (by intro _ _; rfl) ?_ ?_
    | refine RepS.forL _ _ _ _ _ _ _ _ _ (by decide +kernel) ?_ (by intro _ _; rfl) ?_ ?_
    | exact RepS.junk _ _
    | refine RepTgt.loc _ _ _ _ (by decide) (by kernel_rfl) (by kernel_rfl)
    | refine RepTgt.cel _ _ _ _ (by decide) (by kernel_rfl) (by kernel_rfl)
    | refine RepTgt.attr _ _ _ _ _ _ (by kernel_rfl) ?_
    | refine RepTgt.sub _ _ _ _ _ _ ?_ ?_
    | exact RepTgs.nil _
    | refine RepTgs.cons _ _ _ _ _ (by intro _; rfl) ?_ ?_
    | refine RepTg.one _ _ _ (by decide) (by kernel_rfl)
    | refine RepTg.tup _ _ _ _ (by decide) ?_
    | exact NamesAre.nil
    | refine NamesAre.cons _ _ _ _ _ (by decide) (by kernel_rfl) ?_
    | exact KeysAre.nil
    | refine KeysAre.cons _ _ _ _ _ _ (by decide) (by kernel_rfl) ?_
    | refine RepE.loc _ _ _ _ (by decide) (by kernel_rfl) (by kernel_rfl) (by kernel_rfl)
    | refine RepE.cel _ _ _ _ (by decide) (by kernel_rfl) (by kernel_rfl) (by kernel_rfl)
    | refine RepE.glob _ _ _ _ (by decide) (by kernel_rfl) (by kernel_rfl) (by kernel_rfl)
    | exact RepE.int _ _ _ _
    | exact RepE.neg _ _ _ _ _ _ (by kernel_rfl)
    | exact RepE.str _ _ _ _ _ (by decide) (by kernel_rfl)
    | exact RepE.bool _ _ _ _
    | exact RepE.none _ _ _
    | refine RepE.bin _ _ _ _ _ _ _ _ (by kernel_rfl) ?_ ?_
    | refine RepE.cmp _ _ _ _ _ _ _ _ (by kernel_rfl) (by kernel_rfl) ?_ ?_
    | refine RepE.isIn _ _ _ _ _ _ (by kernel_rfl) ?_ ?_
    | refine RepE.notIn _ _ _ _ _ _ (by kernel_rfl) ?_ ?_
    | refine RepE.isNone _ _ _ _ _ _ ?_
    | refine RepE.notNone _ _ _ _ _ _ ?_
    | refine RepE.and _ _ _ _ _ _ _ ?_ ?_
    | refine RepE.or _ _ _ _ _ _ _ ?_ ?_
    | refine RepB.and _ _ _ _ _ _ _ ?_ ?_
    | refine RepB.or _ _ _ _ _ _ _ ?_ ?_
    | refine RepB.one _ _ _ _ _ ?_
    | refine RepE.not _ _ _ _ ?_
    | refine RepE.ife _ _ _ _ _ _ _ _ ?_ ?_ ?_
    | refine RepE.attr _ _ _ _ _ _ (by kernel_rfl) (by intro _; with_unfolding_all rfl) ?_
    | refine RepE.upto _ _ _ _ _ _ _ _ ?_
    | refine RepE.sub _ _ _ _ _ _ (by intro _ _; rfl) ?_ ?_
    | refine RepE.call _ _ _ _ _ _ _ ?_ ?_
    | refine RepE.meth _ _ _ _ _ _ _ _ _ _ (by kernel_rfl) (by intro _; rfl) ?_ ?_
    | refine RepE.b1 _ _ _ _ _ _ _ (by kernel_rfl) (by kernel_rfl) (by intro _; rfl) ?_
    | refine RepE.max _ _ _ _ _ _ _ _ (by kernel_rfl) (by kernel_rfl) (by intro _; rfl) ?_ ?_
    | refine RepE.tup _ _ _ _ _ (by decide) ?_
    | refine RepE.list _ _ _ _ (by decide) ?_
    | exact RepE.dict0 _ _
    | refine RepE.dict _ _ _ _ _ _ (by decide) (by kernel_rfl) (by simp) (by decide) ?_ ?_
    | refine RepE.comp _ _ _ _ _ _ _ _ _ _ (by kernel_rfl) ?_ (by intro _ _; rfl) ?_ ?_
    | refine RepE.compIf _ _ _ _ _ _ _ _ _ _ _ _ (by kernel_rfl) ?_ (by intro _ _; rfl) ?_ ?_ ?_
    | refine RepE.compR _ _ _ _ _ _ _ _ _ _ _ _ (by kernel_rfl) ?_ (by kernel_rfl) (by kernel_rfl) (by intro _; rfl) (by intro _ _; rfl) ?_ ?_
    | exact RepE.junk _ _
    | exact RepEs.nil _
    | refine RepEs.cons _ _ _ _ _ (by intro _; rfl) ?_ ?_
theorem fk_309 (P : Params) : FnOk (hd.heap_1 P) 309 ⟨[101, 102], [], b_law_draw⟩ := by
  refine ⟨_, _, _, _, _, _, _, _, _, _, _, _, _, _, _, rfl, by kernel_rfl, ?rep, ?bind, ?par, by decide, ?cells, rfl, rfl, rfl⟩
  case bind =>
    intro s ws h
    obtain ⟨v0, v1, rfl⟩ := len2 h
    exact BindsTo.of_eq rfl
  case par => decide +kernel
  case cells => exact .inl ⟨rfl, fun n => by kernel_rfl, noCell (by kernel_rfl)⟩
  repeat' first
    | exact RepSs.nil _
    | refine RepSs.cons _ _ _ _ _ ?_ ?_
    | refine RepS.ret _ _ _ _ ?_
    | refine RepS.expr _ _ _ _ (by intro _; rfl) ?_
    | refine RepS.assignComp _ _ _ _ _ _ _ (by decide) (by kernel_rfl) (by kernel_rfl) (by kernel_rfl) ?_ rfl
    | refine RepS.assignTup _ _ _ _ _ _ _ _ (by intro _; rfl) (by kernel_rfl) ?_ ?_
    | refine RepS.assignSw _ [] _ _ _ _ _ _ _ rfl (by intro _; rfl) (by kernel_rfl) (by decide +kernel) ?_
    | refine RepS.assign _ _ _ _ _ _ ?_ (by intro _; rfl) (by intro _; rfl) ?_ (by intro _; rfl)
    | refine RepS.augLoc _ _ _ _ _ _ _ (by decide) (by kernel_rfl) (by kernel_rfl) ?_
    | refine RepS.augAttr _ _ _ _ _ _ _ _ _ (by kernel_rfl) ?_ ?_
    | refine RepS.ife _ _ _ _ _ _ _ _ ?_ ?_ ?_
    | refine RepS.forR _ _ _ _ _ _ _ _ _ _ _ _ ⟨by decide, by kernel_rfl⟩ (by kernel_rfl) (by kernel_rfl) (by kernel_rfl) (by intro _; rfl) (by intro _ _; rfl) ?_ ?_
    | refine RepS.forL _ _ _ _ _ _ _ _ _ (by decide +kernel) ?_ (by intro _ _; rfl) ?_ ?_
    | exact RepS.junk _ _
    | refine RepTgt.loc _ _ _ _ (by decide) (by kernel_rfl) (by kernel_rfl)
    | refine RepTgt.cel _ _ _ _ (by decide) (by kernel_rfl) (by kernel_rfl)
    | refine RepTgt.attr _ _ _ _ _ _ (by kernel_rfl) ?_
    | refine RepTgt.sub _ _ _ _ _ _ ?_ ?_
    | exact RepTgs.nil _
    | refine RepTgs.cons _ _ _ _ _ (by intro _; rfl) ?_ ?_
    | refine RepTg.one _ _ _ (by decide) (by kernel_rfl)
    | refine RepTg.tup _ _ _ _ (by decide) ?_
    | exact NamesAre.nil
    | refine NamesAre.cons _ _ _ _ _ (by decide) (by kernel_rfl) ?_
    | exact KeysAre.nil
    | refine KeysAre.cons _ _ _ _ _ _ (by decide) (by kernel_rfl) ?_
    | refine RepE.loc _ _ _ _ (by decide) (by kernel_rfl) (by kernel_rfl) (by kernel_rfl)
    | refine RepE.cel _ _ _ _ (by decide) (by kernel_rfl) (by kernel_rfl) (by kernel_rfl)
    | refine RepE.glob _ _ _ _ (by decide) (by kernel_rfl) (by kernel_rfl) (by kernel_rfl)
    | exact RepE.int _ _ _ _
    | exact RepE.neg _ _ _ _ _ _ (by kernel_rfl)
    | exact RepE.str _ _ _ _ _ (by decide) (by kernel_rfl)
    | exact RepE.bool _ _ _ _
    | exact RepE.none _ _ _
    | refine RepE.bin _ _ _ _ _ _ _ _ (by kernel_rfl) ?_ ?_
    | refine RepE.cmp _ _ _ _ _ _ _ _ (by kernel_rfl) (by kernel_rfl) ?_ ?_
    | refine RepE.isIn _ _ _ _ _ _ (by kernel_rfl) ?_ ?_
    | refine RepE.notIn _ _ _ _ _ _ (by kernel_rfl) ?_ ?_
    | refine RepE.isNone _ _ _ _ _ _ ?_
    | refine RepE.notNone _ _ _ _ _ _ ?_
    | refine RepE.and _ _ _ _ _ _ _ ?_ ?_
    | refine RepE.or _ _ _ _ _ _ _ ?_ ?_
    | refine RepB.and _ _ _ _ _ _ _ ?_ ?_
    | refine RepB.or _ _ _ _ _ _ _ ?_ ?_
    | refine RepB.one _ _ _ _ _ ?_
    | refine RepE.not _ _ _ _ ?_
    | refine RepE.ife _ _ _ _ _ _ _ _ ?_ ?_ ?_
    | refine RepE.attr _ _ _ _ _ _ (by kernel_rfl) (by intro _; with_unfolding_all rfl) ?_
    | refine RepE.upto _ _ _ _ _ _ _ _ ?_
    | refine RepE.sub _ _ _ _ _ _ (by intro _ _; rfl) ?_ ?_
    | refine RepE.call _ _ _ _ _ _ _ ?_ ?_
    | refine RepE.meth _ _ _ _ _ _ _ _ _ _ (by kernel_rfl) (by intro _; rfl) ?_ ?_
    | refine RepE.b1 _ _ _ _ _ _ _ (by kernel_rfl) (by kernel_rfl) (by intro _; rfl) ?_
    | refine RepE.max _ _ _ _ _ _ _ _ (by kernel_rfl) (by kernel_rfl) (by intro _; rfl) ?_ ?_
    | refine RepE.tup _ _ _ _ _ (by decide) ?_
    | refine RepE.list _ _ _ _ (by decide) ?_
    | exact RepE.dict0 _ _
    | refine RepE.dict _ _ _ _ _ _ (by decide) (by kernel_rfl) (by simp) (by decide) ?_ ?_
    | refine RepE.comp _ _ _ _ _ _ _ _ _ _ (by kernel_rfl) ?_ (by intro _ _; rfl) ?_ ?_
    | refine RepE.compIf _ _ _ _ _ _ _ _ _ _ _ _ (by kernel_rfl) ?_ (by intro _ _; rfl) ?_ ?_ ?_
    | refine RepE.compR _ _ _ _ _ _ _ _ _ _ _ _ (by kernel_rfl) ?_ (by kernel_rfl) (by kernel_rfl) (by intro _; rfl) (by intro _ _; rfl) ?_ ?_
    | exact RepE.junk _ _
    | exact RepEs.nil _
    | refine RepEs.cons _ _ _ _ _ (by intro _; rfl) ?_ ?_
theorem fk_316 (P : Params) : FnOk (hd.heap_1 P) 316 ⟨[104, 105, 56], [], b_law_gets⟩ := by
  refine ⟨_, _, _, _, _, _, _, _, _, _, _, _, _, _, _, rfl, by kernel_rfl, ?rep, ?bind, ?par, by decide, ?cells, rfl, rfl, rfl⟩
  case bind =>
    intro s ws h
    obtain ⟨v0, v1, v2, rfl⟩ := len3 h
    exact BindsTo.of_eq rfl
  case par => decide +kernel
  case cells => exact .inl ⟨rfl, fun n => by kernel_rfl, noCell (by kernel_rfl)⟩
  repeat' first
    | exact RepSs.nil _
    | refine RepSs.cons _ _ _ _ _ ?_ ?_
    | refine RepS.ret _ _ _ _ ?_
    | refine RepS.expr _ _ _ _ (by intro _; rfl) ?_
    | refine RepS.assignComp _ _ _ _ _ _ _ (by decide) (by kernel_rfl) (by kernel_rfl) (by kernel_rfl) ?_ rfl
    | refine RepS.assignTup _ _ _ _ _ _ _ _ (by intro _; rfl) (by kernel_rfl) ?_ ?_
    | refine RepS.assignSw _ [15, 70, 53] _ _ _ _ _ _ _ rfl (by intro _; rfl) (by kernel_rfl) (by decide +kernel) ?_
    | refine RepS.assign _ _ _ _ _ _ ?_ (by intro _; rfl) (by intro _; rfl) ?_ (by intro _; rfl)
    | refine RepS.augLoc _ _ _ _ _ _ _ (by decide) (by kernel_rfl) (by kernel_rfl) ?_
    | refine RepS.augAttr _ _ _ _ _ _ _ _ _ (by kernel_rfl) ?_ ?_
    | refine RepS.ife _ _ _ _ _ _ _ _ ?_ ?_ ?_
    | refine RepS.forR _ _ _ _ _ _ _ _ _ _ _ _ ⟨by decide, by kernel_rfl⟩ (by kernel_rfl) (by kernel_rfl) (by kernel_rfl) (by intro _; rfl) (by intro _ _; rfl) ?_ ?_
    | refine RepS.forL _ _ _ _ _ _ _ _ _ (by decide +kernel) ?_ (by intro _ _; rfl) ?_ ?_
    | exact RepS.junk _ _
    | refine RepTgt.loc _ _ _ _ (by decide) (by kernel_rfl) (by kernel_rfl)
    | refine RepTgt.cel _ _ _ _ (by decide) (by kernel_rfl) (by kernel_rfl)
    | refine RepTgt.attr _ _ _ _ _ _ (by kernel_rfl) ?_
    | refine RepTgt.sub _ _ _ _ _ _ ?_ ?_
    | exact RepTgs.nil _
    | refine RepTgs.cons _ _ _ _ _ (by intro _; rfl) ?_ ?_
    | refine RepTg.one _ _ _ (by decide) (by kernel_rfl)
    | refine RepTg.tup _ _ _ _ (by decide) ?_
    | exact NamesAre.nil
    | refine NamesAre.cons _ _ _ _ _ (by decide) (by kernel_rfl) ?_
    | exact KeysAre.nil
    | refine KeysAre.cons _ _ _ _ _ _ (by decide) (by kernel_rfl) ?_
    | refine RepE.loc _ _ _ _ (by decide) (by kernel_rfl) (by kernel_rfl) (by kernel_rfl)
    | refine RepE.cel _ _ _ _ (by decide) (by kernel_rfl) (by kernel_rfl) (by kernel_rfl)
    | refine RepE.glob _ _ _ _ (by decide) (by kernel_rfl) (by kernel_rfl) (by kernel_rfl)
    | exact RepE.int _ _ _ _
    | exact RepE.neg _ _ _ _ _ _ (by kernel_rfl)
    | exact RepE.str _ _ _ _ _ (by decide) (by kernel_rfl)
    | exact RepE.bool _ _ _ _
    | exact RepE.none _ _ _
    | refine RepE.bin _ _ _ _ _ _ _ _ (by kernel_rfl) ?_ ?_
    | refine RepE.cmp _ _ _ _ _ _ _ _ (by kernel_rfl) (by kernel_rfl) ?_ ?_
    | refine RepE.isIn _ _ _ _ _ _ (by kernel_rfl) ?_ ?_
    | refine RepE.notIn _ _ _ _ _ _ (by kernel_rfl) ?_ ?_
    | refine RepE.isNone _ _ _ _ _ _ ?_
    | refine RepE.notNone _ _ _ _ _ _ ?_
    | refine RepE.and _ _ _ _ _ _ _ ?_ ?_
    | refine RepE.or _ _ _ _ _ _ _ ?_ ?_
    | refine RepB.and _ _ _ _ _ _ _ ?_ ?_
    | refine RepB.or _ _ _ _ _ _ _ ?_ ?_
    | refine RepB.one _ _ _ _ _ ?_
    | refine RepE.not _ _ _ _ ?_
    | refine RepE.ife _ _ _ _ _ _ _ _ ?_ ?_ ?_
    | refine RepE.attr _ _ _ _ _ _ (by kernel_rfl) (by intro _; with_unfolding_all rfl) ?_
    | refine RepE.upto _ _ _ _ _ _ _ _ ?_
    | refine RepE.sub _ _ _ _ _ _ (by intro _ _; rfl) ?_ ?_
    | refine RepE.call _ _ _ _ _ _ _ ?_ ?_
    | refine RepE.meth _ _ _ _ _ _ _ _ _ _ (by kernel_rfl) (by intro _; rfl) ?_ ?_
    | refine RepE.b1 _ _ _ _ _ _ _ (by kernel_rfl) (by kernel_rfl) (by intro _; rfl) ?_
    | refine RepE.max _ _ _ _ _ _ _ _ (by kernel_rfl) (by kernel_rfl) (by intro _; rfl) ?_ ?_
    | refine RepE.tup _ _ _ _ _ (by decide) ?_
    | refine RepE.list _ _ _ _ (by decide) ?_
    | exact RepE.dict0 _ _
    | refine RepE.dict _ _ _ _ _ _ (by decide) (by kernel_rfl) (by simp) (by decide) ?_ ?_
    | refine RepE.comp _ _ _ _ _ _ _ _ _ _ (by kernel_rfl) ?_ (by intro _ _; rfl) ?_ ?_
    | refine RepE.compIf _ _ _ _ _ _ _ _ _ _ _ _ (by kernel_rfl) ?_ (by intro _ _; rfl) ?_ ?_ ?_
    | refine RepE.compR _ _ _ _ _ _ _ _ _ _ _ _ (by kernel_rfl) ?_ (by kernel_rfl) (by kernel_rfl) (by intro _; rfl) (by intro _ _; rfl) ?_ ?_
    | exact RepE.junk _ _
    | exact RepEs.nil _
    | refine RepEs.cons _ _ _ _ _ (by intro _; rfl) ?_ ?_
theorem fk_323 (P : Params) : FnOk (hd.heap_1 P) 323 ⟨[104, 53], [], b_law_goes⟩ := by
  refine ⟨_, _, _, _, _, _, _, _, _, _, _, _, _, _, _, rfl, by kernel_rfl, ?rep, ?bind, ?par, by decide, ?cells, rfl, rfl, rfl⟩
  case bind =>
    intro s ws h
    obtain ⟨v0, v1, rfl⟩ := len2 h
    exact BindsTo.of_eq rfl
  case par => decide +kernel
  case cells => exact .inl ⟨rfl, fun n => by kernel_rfl, noCell (by kernel_rfl)⟩
  repeat' first
    | exact RepSs.nil _
    | refine RepSs.cons _ _ _ _ _ ?_ ?_
    | refine RepS.ret _ _ _ _ ?_
    | refine RepS.expr _ _ _ _ (by intro _; rfl) ?_
    | refine RepS.assignComp _ _ _ _ _ _ _ (by decide) (by kernel_rfl) (by kernel_rfl) (by kernel_rfl) ?_ rfl
    | refine RepS.assignTup _ _ _ _ _ _ _ _ (by intro _; rfl) (by kernel_rfl) ?_ ?_
    | refine RepS.assignSw _ [] _ _ _ _ _ _ _ rfl (by intro _; rfl) (by kernel_rfl) (by decide +kernel) ?_
    | refine RepS.assign _ _ _ _ _ _ ?_ (by intro _; rfl) (by intro _; rfl) ?_ (by intro _; rfl)
    | refine RepS.augLoc _ _ _ _ _ _ _ (by decide) (by kernel_rfl) (by kernel_rfl) ?_
    | refine RepS.augAttr _ _ _ _ _ _ _ _ _ (by kernel_rfl) ?_ ?_
    | refine RepS.ife _ _ _ _ _ _ _ _ ?_ ?_ ?_
    | refine RepS.forR _ _ _ _ _ _ _ _ _ _ _ _ ⟨by decide, by kernel_rfl⟩ (by kernel_rfl) (by kernel_rfl) (by kernel_rfl) (by intro _; rfl) (by intro _ _; rfl) ?_ ?_
    | refine RepS.forL _ _ _ _ _ _ _ _ _ (by decide +kernel) ?_ (by intro _ _; rfl) ?_ ?_
    | exact RepS.junk _ _
    | refine RepTgt.loc _ _ _ _ (by decide) (by kernel_rfl) (by kernel_rfl)
    | refine RepTgt.cel _ _ _ _ (by decide) (by kernel_rfl) (by kernel_rfl)
    | refine RepTgt.attr _ _ _ _ _ _ (by kernel_rfl) ?_
    | refine RepTgt.sub _ _ _ _ _ _ ?_ ?_
    | exact RepTgs.nil _
    | refine RepTgs.cons _ _ _ _ _ (by intro _; rfl) ?_ ?_
    | refine RepTg.one _ _ _ (by decide) (by kernel_rfl)
    | refine RepTg.tup _ _ _ _ (by decide) ?_
    | exact NamesAre.nil
    | refine NamesAre.cons _ _ _ _ _ (by decide) (by kernel_rfl) ?_
    | exact KeysAre.nil
    | refine KeysAre.cons _ _ _ _ _ _ (by decide) (by kernel_rfl) ?_
    | refine RepE.loc _ _ _ _ (by decide) (by kernel_rfl) (by kernel_rfl) (by kernel_rfl)
    | refine RepE.cel _ _ _ _ (by decide) (by kernel_rfl) (by kernel_rfl) (by kernel_rfl)
    | refine RepE.glob _ _ _ _ (by decide) (by kernel_rfl) (by kernel_rfl) (by kernel_rfl)
    | exact RepE.int _ _ _ _
    | exact RepE.neg _ _ _ _ _ _ (by kernel_rfl)
    | exact RepE.str _ _ _ _ _ (by decide) (by kernel_rfl)
    | exact RepE.bool _ _ _ _
    | exact RepE.none _ _ _
    | refine RepE.bin _ _ _ _ _ _ _ _ (by kernel_rfl) ?_ ?_
    | refine RepE.cmp _ _ _ _ _ _ _ _ (by kernel_rfl) (by kernel_rfl) ?_ ?_
    | refine RepE.isIn _ _ _ _ _ _ (by kernel_rfl) ?_ ?_
    | refine RepE.notIn _ _ _ _ _ _ (by kernel_rfl) ?_ ?_
    | refine RepE.isNone _ _ _ _ _ _ ?_
    | refine RepE.notNone _ _ _ _ _ _ ?_
    | refine RepE.and _ _ _ _ _ _ _ ?_ ?_
    | refine RepE.or _ _ _ _ _ _ _ ?_ ?_
    | refine RepB.and _ _ _ _ _ _ _ ?_ ?_
    | refine RepB.or _ _ _ _ _ _ _ ?_ ?_
    | refine RepB.one _ _ _ _ _ ?_
    | refine RepE.not _ _ _ _ ?_
    | refine RepE.ife _ _ _ _ _ _ _ _ ?_ ?_ ?_
    | refine RepE.attr _ _ _ _ _ _ (by kernel_rfl) (by intro _; with_unfolding_all rfl) ?_
    | refine RepE.upto _ _ _ _ _ _ _ _ ?_
    | refine RepE.sub _ _ _ _ _ _ (by intro _ _; rfl) ?_ ?_
    | refine RepE.call _ _ _ _ _ _ _ ?_ ?_
    | refine RepE.meth _ _ _ _ _ _ _ _ _ _ (by kernel_rfl) (by intro _; rfl) ?_ ?_
    | refine RepE.b1 _ _ _ _ _ _ _ (by kernel_rfl) (by kernel_rfl) (by intro _; rfl) ?_
    | refine RepE.max _ _ _ _ _ _ _ _ (by kernel_rfl) (by kernel_rfl) (by intro _; rfl) ?_ ?_
    | refine RepE.tup _ _ _ _ _ (by decide) ?_
    | refine RepE.list _ _ _ _ (by decide) ?_
    | exact RepE.dict0 _ _
    | refine RepE.dict _ _ _ _ _ _ (by decide) (by kernel_rfl) (by simp) (by decide) ?_ ?_
    | refine RepE.comp _ _ _ _ _ _ _ _ _ _ (by kernel_rfl) ?_ (by intro _ _; rfl) ?_ ?_
    | refine RepE.compIf _ _ _ _ _ _ _ _ _ _ _ _ (by kernel_rfl) ?_ (by intro _ _; rfl) ?_ ?_ ?_
    | refine RepE.compR _ _ _ _ _ _ _ _ _ _ _ _ (by kernel_rfl) ?_ (by kernel_rfl) (by kernel_rfl) (by intro _; rfl) (by intro _ _; rfl) ?_ ?_
    | exact RepE.junk _ _
    | exact RepEs.nil _
    | refine RepEs.cons _ _ _ _ _ (by intro _; rfl) ?_ ?_
theorem fk_330 (P : Params) : FnOk (hd.heap_1 P) 330 ⟨[104, 90], [], b_law_passes⟩ := by
  refine ⟨_, _, _, _, _, _, _, _, _, _, _, _, _, _, _, rfl, by kernel_rfl, ?rep, ?bind, ?par, by decide, ?cells, rfl, rfl, rfl⟩
  case bind =>
    intro s ws h
    obtain ⟨v0, v1, rfl⟩ := len2 h
    exact BindsTo.of_eq rfl
  case par => decide +kernel
  case cells => exact .inl ⟨rfl, fun n => by kernel_rfl, noCell (by kernel_rfl)⟩
  repeat' first
    | exact RepSs.nil _
    | refine RepSs.cons _ _ _ _ _ ?_ ?_
    | refine RepS.ret _ _ _ _ ?_
    | refine RepS.expr _ _ _ _ (by intro _; rfl) ?_
    | refine RepS.assignComp _ _ _ _ _ _ _ (by decide) (by kernel_rfl) (by kernel_rfl) (by kernel_rfl) ?_ rfl
    | refine RepS.assignTup _ _ _ _ _ _ _ _ (by intro _; rfl) (by kernel_rfl) ?_ ?_
    | refine RepS.assignSw _ [0, 110] _ _ _ _ _ _ _ rfl (by intro _; rfl) (by kernel_rfl) (by decide +kernel) ?_
    | refine RepS.assign _ _ _ _ _ _ ?_ (by intro _; rfl) (by intro _; rfl) ?_ (by intro _; rfl)
    | refine RepS.augLoc _ _ _ _ _ _ _ (by decide) (by kernel_rfl) (by kernel_rfl) ?_
    | refine RepS.augAttr _ _ _ _ _ _ _ _ _ (by kernel_rfl) ?_ ?_
    | refine RepS.ife _ _ _ _ _ _ _ _ ?_ ?_ ?_
    | refine RepS.forR _ _ _ _ _ _ _ _ _ _ _ _ ⟨by decide, by kernel_rfl⟩ (by kernel_rfl) (by kernel_rfl) (by kernel_rfl) (by intro _; rfl) (by intro _ _; rfl) ?_ ?_
    | refine RepS.forL _ _ _ _ _ _ _ _ _ (by decide +kernel) ?_ (by intro _ _; rfl) ?_ ?_
    | exact RepS.junk _ _
    | refine RepTgt.loc _ _ _ _ (by decide) (by kernel_rfl) (by kernel_rfl)
    | refine RepTgt.cel _ _ _ _ (by decide) (by kernel_rfl) (by kernel_rfl)
    | refine RepTgt.attr _ _ _ _ _ _ (by kernel_rfl) ?_
    | refine RepTgt.sub _ _ _ _ _ _ ?_ ?_
    | exact RepTgs.nil _
    | refine RepTgs.cons _ _ _ _ _ (by intro _; rfl) ?_ ?_
    | refine RepTg.one _ _ _ (by decide) (by kernel_rfl)
    | refine RepTg.tup _ _ _ _ (by decide) ?_
    | exact NamesAre.nil
    | refine NamesAre.cons _ _ _ _ _ (by decide) (by kernel_rfl) ?_
    | exact KeysAre.nil
    | refine KeysAre.cons _ _ _ _ _ _ (by decide) (by kernel_rfl) ?_
    | refine RepE.loc _ _ _ _ (by decide) (by kernel_rfl) (by kernel_rfl) (by kernel_rfl)
    | refine RepE.cel _ _ _ _ (by decide) (by kernel_rfl) (by kernel_rfl) (by kernel_rfl)
    | refine RepE.glob _ _ _ _ (by decide) (by kernel_rfl) (by kernel_rfl) (by kernel_rfl)
    | exact RepE.int _ _ _ _
    | exact RepE.neg _ _ _ _ _ _ (by kernel_rfl)
    | exact RepE.str _ _ _ _ _ (by decide) (by kernel_rfl)
    | exact RepE.bool _ _ _ _
    | exact RepE.none _ _ _
    | refine RepE.bin _ _ _ _ _ _ _ _ (by kernel_rfl) ?_ ?_
    | refine RepE.cmp _ _ _ _ _ _ _ _ (by kernel_rfl) (by kernel_rfl) ?_ ?_
    | refine RepE.isIn _ _ _ _ _ _ (by kernel_rfl) ?_ ?_
    | refine RepE.notIn _ _ _ _ _ _ (by kernel_rfl) ?_ ?_
    | refine RepE.isNone _ _ _ _ _ _ ?_
    | refine RepE.notNone _ _ _ _ _ _ ?_
    | refine RepE.and _ _ _ _ _ _ _ ?_ ?_
    | refine RepE.or _ _ _ _ _ _ _ ?_ ?_
    | refine RepB.and _ _ _ _ _ _ _ ?_ ?_
    | refine RepB.or _ _ _ _ _ _ _ ?_ ?_
    | refine RepB.one _ _ _ _ _ ?_
    | refine RepE.not _ _ _ _ ?_
    | refine RepE.ife _ _ _ _ _ _ _ _ ?_ ?_ ?_
    | refine RepE.attr _ _ _ _ _ _ (by kernel_rfl) (by intro _; with_unfolding_all rfl) ?_
    | refine RepE.upto _ _ _ _ _ _ _ _ ?_
    | refine RepE.sub _ _ _ _ _ _ (by intro _ _; rfl) ?_ ?_
    | refine RepE.call _ _ _ _ _ _ _ ?_ ?_
    | refine RepE.meth _ _ _ _ _ _ _ _ _ _ (by kernel_rfl) (by intro _; rfl) ?_ ?_
    | refine RepE.b1 _ _ _ _ _ _ _ (by kernel_rfl) (by kernel_rfl) (by intro _; rfl) ?_
    | refine RepE.max _ _ _ _ _ _ _ _ (by kernel_rfl) (by kernel_rfl) (by intro _; rfl) ?_ ?_
    | refine RepE.tup _ _ _ _ _ (by decide) ?_
    | refine RepE.list _ _ _ _ (by decide) ?_
    | exact RepE.dict0 _ _
    | refine RepE.dict _ _ _ _ _ _ (by decide) (by kernel_rfl) (by simp) (by decide) ?_ ?_
    | refine RepE.comp _ _ _ _ _ _ _ _ _ _ (by kernel_rfl) ?_ (by intro _ _; rfl) ?_ ?_
    | refine RepE.compIf _ _ _ _ _ _ _ _ _ _ _ _ (by kernel_rfl) ?_ (by intro _ _; rfl) ?_ ?_ ?_
    | refine RepE.compR _ _ _ _ _ _ _ _ _ _ _ _ (by kernel_rfl) ?_ (by kernel_rfl) (by kernel_rfl) (by intro _; rfl) (by intro _ _; rfl) ?_ ?_
    | exact RepE.junk _ _
    | exact RepEs.nil _
    | refine RepEs.cons _ _ _ _ _ (by intro _; rfl) ?_ ?_
theorem fk_335 (P : Params) : FnOk (hd.heap_1 P) 335 ⟨[112], [101], b_law⟩ := by
  refine ⟨_, _, _, _, _, _, _, _, _, _, _, _, _, _, _, rfl, by kernel_rfl, ?rep, ?bind, ?par, by decide, ?cells, rfl, rfl, rfl⟩
  case bind =>
    intro s ws h
    obtain ⟨v0, rfl⟩ := len1 h
    exact BindsTo.of_eq rfl
  case par => decide +kernel
  case cells => exact .inr ⟨101, by decide, rfl, fun n => by kernel_rfl, by kernel_rfl, oneCell (by kernel_rfl)⟩
  repeat' first
    | exact RepSs.nil _
    | refine RepSs.cons _ _ _ _ _ ?_ ?_
    | refine RepS.ret _ _ _ _ ?_
    | refine RepS.expr _ _ _ _ (by intro _; rfl) ?_
    | refine RepS.assignComp _ _ _ _ _ _ _ (by decide) (by kernel_rfl) (by kernel_rfl) (by kernel_rfl) ?_ rfl
    | refine RepS.assignTup _ _ _ _ _ _ _ _ (by intro _; rfl) (by kernel_rfl) ?_ ?_
    | refine RepS.assignSw _ [113, 110] _ _ _ _ _ _ _ rfl (by intro _; rfl) (by kernel_rfl) (by decide +kernel) ?_
    | refine RepS.assignSw _ [56, 120] _ _ _ _ _ _ _ rfl (by intro _; rfl) (by kernel_rfl) (by decide +kernel) ?_
    | refine RepS.assign _ _ _ _ _ _ ?_ (by intro _; rfl) (by intro _; rfl) ?_ (by intro _; rfl)
    | refine RepS.augLoc _ _ _ _ _ _ _ (by decide) (by kernel_rfl) (by kernel_rfl) ?_
    | refine RepS.augAttr _ _ _ _ _ _ _ _ _ (by kernel_rfl) ?_ ?_
    | refine RepS.ife _ _ _ _ _ _ _ _ ?_ ?_ ?_
    | refine RepS.forR _ _ _ _ _ _ _ _ _ _ _ _ ⟨by decide, by kernel_rfl⟩ (by kernel_rfl) (by kernel_rfl) (by kernel_rfl) (by intro _; rfl) (by intro _ _; rfl) ?_ ?_
    | refine RepS.forL _ _ _ _ _ _ _ _ _ (by decide +kernel) ?_ (by intro _ _; rfl) ?_ ?_
    | exact RepS.junk _ _
    | refine RepTgt.loc _ _ _ _ (by decide) (by kernel_rfl) (by kernel_rfl)
    | refine RepTgt.cel _ _ _ _ (by decide) (by kernel_rfl) (by kernel_rfl)
    | refine RepTgt.attr _ _ _ _ _ _ (by kernel_rfl) ?_
    | refine RepTgt.sub _ _ _ _ _ _ ?_ ?_
    | exact RepTgs.nil _
    | refine RepTgs.cons _ _ _ _ _ (by intro _; rfl) ?_ ?_
    | refine RepTg.one _ _ _ (by decide) (by kernel_rfl)
    | refine RepTg.tup _ _ _ _ (by decide) ?_
    | exact NamesAre.nil
    | refine NamesAre.cons _ _ _ _ _ (by decide) (by kernel_rfl) ?_
    | exact KeysAre.nil
    | refine KeysAre.cons _ _ _ _ _ _ (by decide) (by kernel_rfl) ?_
    | refine RepE.loc _ _ _ _ (by decide) (by kernel_rfl) (by kernel_rfl) (by kernel_rfl)
    | refine RepE.cel _ _ _ _ (by decide) (by kernel_rfl) (by kernel_rfl) (by kernel_rfl)
    | refine RepE.glob _ _ _ _ (by decide) (by kernel_rfl) (by kernel_rfl) (by kernel_rfl)
    | exact RepE.int _ _ _ _
    | exact RepE.neg _ _ _ _ _ _ (by kernel_rfl)
    | exact RepE.str _ _ _ _ _ (by decide) (by kernel_rfl)
    | exact RepE.bool _ _ _ _
    | exact RepE.none _ _ _
    | refine RepE.bin _ _ _ _ _ _ _ _ (by kernel_rfl) ?_ ?_
    | refine RepE.cmp _ _ _ _ _ _ _ _ (by kernel_rfl) (by kernel_rfl) ?_ ?_
    | refine RepE.isIn _ _ _ _ _ _ (by kernel_rfl) ?_ ?_
    | refine RepE.notIn _ _ _ _ _ _ (by kernel_rfl) ?_ ?_
    | refine RepE.isNone _ _ _ _ _ _ ?_
    | refine RepE.notNone _ _ _ _ _ _ ?_
    | refine RepE.and _ _ _ _ _ _ _ ?_ ?_
    | refine RepE.or _ _ _ _ _ _ _ ?_ ?_
    | refine RepB.and _ _ _ _ _ _ _ ?_ ?_
    | refine RepB.or _ _ _ _ _ _ _ ?_ ?_
    | refine RepB.one _ _ _ _ _ ?_
    | refine RepE.not _ _ _ _ ?_
    | refine RepE.ife _ _ _ _ _ _ _ _ ?_ ?_ ?_
    | refine RepE.attr _ _ _ _ _ _ (by kernel_rfl) (by intro _; with_unfolding_all rfl) ?_
    | refine RepE.upto _ _ _ _ _ _ _ _ ?_
    | refine RepE.sub _ _ _ _ _ _ (by intro _ _; rfl) ?_ ?_
    | refine RepE.call _ _ _ _ _ _ _ ?_ ?_
    | refine RepE.meth _ _ _ _ _ _ _ _ _ _ (by kernel_rfl) (by intro _; rfl) ?_ ?_
    | refine RepE.b1 _ _ _ _ _ _ _ (by kernel_rfl) (by kernel_rfl) (by intro _; rfl) ?_
    | refine RepE.max _ _ _ _ _ _ _ _ (by kernel_rfl) (by kernel_rfl) (by intro _; rfl) ?_ ?_
    | refine RepE.tup _ _ _ _ _ (by decide) ?_
    | refine RepE.list _ _ _ _ (by decide) ?_
    | exact RepE.dict0 _ _
    | refine RepE.dict _ _ _ _ _ _ (by decide) (by kernel_rfl) (by simp) (by decide) ?_ ?_
    | refine RepE.comp _ _ _ _ _ _ _ _ _ _ (by kernel_rfl) ?_ (by intro _ _; rfl) ?_ ?_
    | refine RepE.compIf _ _ _ _ _ _ _ _ _ _ _ _ (by kernel_rfl) ?_ (by intro _ _; rfl) ?_ ?_ ?_
    | refine RepE.compR _ _ _ _ _ _ _ _ _ _ _ _ (by kernel_rfl) ?_ (by kernel_rfl) (by kernel_rfl) (by intro _; rfl) (by intro _ _; rfl) ?_ ?_
    | exact RepE.junk _ _
    | exact RepEs.nil _
    | refine RepEs.cons _ _ _ _ _ (by intro _; rfl) ?_ ?_
end Mine
end

section
set_option linter.all false
set_option bootstrap.genMatcherCode false
open PySem PySem.W PySem.Calls PyProof.Rows
set_option Elab.async false
set_option maxRecDepth 100000
set_option maxHeartbeats 8000000
namespace Mine
theorem has_mem : ∀ {l : List Nat} {k : Nat}, has k l = true → k ∈ l
  | [], _, h => by simp [has] at h
  | j :: r, k, h => by
    have h' : (match Nat.beq j k with | true => true | false => has k r) = true := h
    rw [beq_eq] at h'
    by_cases q : j = k
    · rw [q]; exact List.mem_cons_self
    · simp [q] at h'
      exact List.mem_cons_of_mem _ (has_mem h')
noncomputable def chkA (K : Frag) (C : Nat) (l : List Nat) : Bool := l.all fun a => decide (a < nN) && plainGet K C (nm a) && (findIn K (.ref C) (nm a) == some none) && (takerIn K C (nm a) == some none)
noncomputable def chkM (K : Frag) (C : Nat) (l : List (Nat × Nat)) : Bool := l.all fun z => decide (z.1 < nN) && plainGet K C (nm z.1) && (findIn K (.ref C) (nm z.1) == some (some (.ref z.2))) && isFn K (.ref z.2) && keepIn K (.ref z.2)
noncomputable def chkC (K : Frag) (C : Nat) (cl : Cls) : Bool := makesIn K C && (findIn K (.ref C) "__init__" == some (some (.ref cl.init))) && isFn K (.ref cl.init) && keepIn K (.ref C) && (findIn K (.ref C) "__setattr__" == some (some (.builtin "object.__setattr__"))) && plainOver K C && hasDictIn K C && chkA K C cl.attrs && chkM K C cl.meths
theorem chkC_ok {K : Frag} {C : Nat} {cl : Cls} (h : chkC K C cl = true) : ClsOk K C cl := by
  unfold chkC at h
  simp only [Bool.and_eq_true] at h
  obtain ⟨⟨⟨⟨⟨⟨⟨⟨h1, h2⟩, h3⟩, h4⟩, h5⟩, h6⟩, h7⟩, h8⟩, h9⟩ := h
  refine ⟨h1, by simpa using h2, h3, h4, by simpa using h5, h6, h7, fun a ha => ?_, fun m f hm => ?_⟩
  · have := List.all_eq_true.mp h8 a (has_mem ha)
    simp only [Bool.and_eq_true] at this
    obtain ⟨⟨⟨k1, k2⟩, k3⟩, k4⟩ := this
    exact ⟨by simpa using k1, k2, by simpa using k3, by simpa using k4⟩
  · have := List.all_eq_true.mp h9 (m, f) (find_mem hm)
    simp only [Bool.and_eq_true] at this
    obtain ⟨⟨⟨⟨k1, k2⟩, k3⟩, k4⟩, k5⟩ := this
    exact ⟨by simpa using k1, k2, by simpa using k3, k4, k5⟩
set_option profiler true
theorem cls_121 (P : Params) : chkC (hd.heap_1 P) 121 ((find 121 clsTab).getD ⟨0, [], []⟩) = true := by kernel_rfl
theorem cls_224 (P : Params) : chkC (hd.heap_1 P) 224 ((find 224 clsTab).getD ⟨0, [], []⟩) = true := by kernel_rfl
theorem cls_298 (P : Params) : chkC (hd.heap_1 P) 298 ((find 298 clsTab).getD ⟨0, [], []⟩) = true := by kernel_rfl
theorem cls_all (P : Params) : ClsAll (hd.heap_1 P) := fun C cl h => by
  have hm := find_mem h
  have hC : C = 121 ∨ C = 224 ∨ C = 298 := by
    have : (clsTab.all fun z => z.1 == 121 || z.1 == 224 || z.1 == 298) = true := by decide
    have := List.all_eq_true.mp this _ hm
    simpa [or_assoc] using this
  rcases hC with rfl | rfl | rfl
  · have := cls_121 P; rw [h] at this; exact chkC_ok this
  · have := cls_224 P; rw [h] at this; exact chkC_ok this
  · have := cls_298 P; rw [h] at this; exact chkC_ok this
theorem glob_all (P : Params) : (globTab.all fun z => z.1 == 81 || chkG (nsIn (hd.heap_1 P) mainGlobals (nm z.1)) z.2) = true := by kernel_rfl
theorem fn_keep (P : Params) : (fnTab.all fun z => keepIn (hd.heap_1 P) (.ref z.1)) = true := by kernel_rfl
theorem cls_keep (P : Params) : (clsTab.all fun z => keepIn (hd.heap_1 P) (.ref z.1)) = true := by kernel_rfl
theorem bi_none (P : Params) : ([Str.ofString "abs", Str.ofString "len", Str.ofString "min", Str.ofString "int", Str.ofString "list", Str.ofString "bytes", Str.ofString "sorted", Str.ofString "max", Str.ofString "range"].all fun x => nsIn (hd.heap_1 P) mainGlobals x == some none) = true := by kernel_rfl
theorem fates (P : Params) : ∃ (t0 t1 t2 t3 t4 t5 : Tok) (n : Nat) (ob : Obj), nsIn (hd.heap_1 P) mainGlobals (nm 81) = some (some (.ref 236)) ∧ (hd.heap_1 P).lookup 236 = some ob ∧ ob.cls = .type "list" ∧ ob.data = .seq #[.str (nm 6) t0, .str (nm 6) t1, .str (nm 7) t2, .str (nm 8) t3, .str (nm 9) t4, .str (nm 10) t5] n :=
  ⟨_, _, _, _, _, _, _, _, by kernel_rfl, rfl, rfl, rfl⟩
end Mine
end

section
set_option linter.all false
set_option bootstrap.genMatcherCode false
open PySem PySem.W PySem.Calls PyProof.Rows
set_option Elab.async false
set_option maxRecDepth 100000
set_option maxHeartbeats 8000000
namespace Mine
theorem fn_all (P : Params) : FnAll (hd.heap_1 P) := fun f fn h => by
  have hm := find_mem h
  simp only [fnTab, List.mem_cons, Prod.mk.injEq, List.not_mem_nil, or_false] at hm
  rcases hm with ⟨rfl, rfl⟩ | ⟨rfl, rfl⟩ | ⟨rfl, rfl⟩ | ⟨rfl, rfl⟩ | ⟨rfl, rfl⟩ | ⟨rfl, rfl⟩ | ⟨rfl, rfl⟩ | ⟨rfl, rfl⟩ | ⟨rfl, rfl⟩ | ⟨rfl, rfl⟩ | ⟨rfl, rfl⟩ | ⟨rfl, rfl⟩ | ⟨rfl, rfl⟩ | ⟨rfl, rfl⟩ | ⟨rfl, rfl⟩ | ⟨rfl, rfl⟩ | ⟨rfl, rfl⟩ | ⟨rfl, rfl⟩ | ⟨rfl, rfl⟩ | ⟨rfl, rfl⟩ | ⟨rfl, rfl⟩ | ⟨rfl, rfl⟩ | ⟨rfl, rfl⟩ | ⟨rfl, rfl⟩ | ⟨rfl, rfl⟩ | ⟨rfl, rfl⟩ | ⟨rfl, rfl⟩ | ⟨rfl, rfl⟩ | ⟨rfl, rfl⟩ | ⟨rfl, rfl⟩
  · exact fk_55 P
  · exact fk_62 P
  · exact fk_69 P
  · exact fk_76 P
  · exact fk_83 P
  · exact fk_90 P
  · exact fk_104 P
  · exact fk_111 P
  · exact fk_118 P
  · exact fk_139 P
  · exact fk_146 P
  · exact fk_153 P
  · exact fk_160 P
  · exact fk_167 P
  · exact fk_195 P
  · exact fk_214 P
  · exact fk_221 P
  · exact fk_235 P
  · exact fk_243 P
  · exact fk_264 P
  · exact fk_271 P
  · exact fk_278 P
  · exact fk_285 P
  · exact fk_290 P
  · exact fk_295 P
  · exact fk_309 P
  · exact fk_316 P
  · exact fk_323 P
  · exact fk_330 P
  · exact fk_335 P
theorem tabs_ok {P : Params} {c : Cx} {mg mb : Str → Option Value} {h : Heap} (hK : c.K = hd.heap_1 P) (hb : (hd.heap_1 P).In c.b) (X : (hd.heap_1 P).In h) (TG : h.Ns mainGlobals mg) (bi : ∀ x : Str, x ≠ "__name__" → mb x = bootBuiltins x) : TabsOK c mg mb := by
  have none_of : ∀ x, nsIn (hd.heap_1 P) mainGlobals x = some none → mg x = none := fun x e => mg_none_of X TG e
  have nb := List.all_eq_true.mp (bi_none P)
  have nx : ∀ x, x ∈ [Str.ofString "abs", Str.ofString "len", Str.ofString "min", Str.ofString "int", Str.ofString "list", Str.ofString "bytes", Str.ofString "sorted", Str.ofString "max", Str.ofString "range"] → mg x = none := fun x hx => none_of x (by simpa using nb x hx)
  refine ⟨hK ▸ cls_all P, hK ▸ fn_all P, fun f fn hf _ => ?_, fun f fn hf => ?_, fun x v hx => ?_, fun f => ?_, ?_, ?_⟩
  · rw [hK]; exact List.all_eq_true.mp (fn_keep P) _ (find_mem hf)
  · rw [hK]; exact List.all_eq_true.mp (cls_keep P) _ (find_mem hf)
  · have := List.all_eq_true.mp (glob_all P) _ (lk_mem hx)
    simp only [Bool.or_eq_true] at this
    rcases this with q | q
    · have q' : x = 81 := by simpa using q
      subst q'
      have ev : v = .blist [.str 6, .str 6, .str 7, .str 8, .str 9, .str 10] := by
        have : lk 81 globTab = some (.blist [.str 6, .str 6, .str 7, .str 8, .str 9, .str 10]) := rfl
        rw [this] at hx; exact (Option.some.inj hx).symm
      subst ev
      obtain ⟨t0, t1, t2, t3, t4, t5, n, ob, e1, e2, e3, e4⟩ := fates P
      refine ⟨.ref 236, mg_of X TG e1, fun W => .blist _ [.str (nm 6) t0, .str (nm 6) t1, .str (nm 7) t2, .str (nm 8) t3, .str (nm 9) t4, .str (nm 10) t5] _ ⟨ob, hb _ _ e2, e3, n, e4⟩ ?_⟩
      have d : ∀ k, k < 11 → k < nN := fun k h => Nat.lt_of_lt_of_le h (by decide)
      exact .cons _ _ _ _ (.str _ _ (d _ (by decide))) (.cons _ _ _ _ (.str _ _ (d _ (by decide))) (.cons _ _ _ _ (.str _ _ (d _ (by decide))) (.cons _ _ _ _ (.str _ _ (d _ (by decide))) (.cons _ _ _ _ (.str _ _ (d _ (by decide))) (.cons _ _ _ _ (.str _ _ (d _ (by decide))) .nil)))))
    · obtain ⟨w, e, hw⟩ := chkG_ok q
      exact ⟨w, mg_of X TG e, fun W => hw c.b W⟩
  · cases f <;> refine ⟨nx _ (by simp [b1Name]), ?_⟩ <;> rw [bi _ (by decide)]
    · exact PyProof.Rows.Boot.«abs»
    · exact PyProof.Rows.Boot.«len»
    · exact PyProof.Rows.Boot.«min»
    · exact PyProof.Rows.Boot.«int»
    · exact PyProof.Rows.Boot.«list»
    · exact PyProof.Rows.Boot.«bytes»
    · exact PyProof.Rows.Boot.«sorted»
  · refine ⟨nx _ (by simp), ?_⟩
    rw [bi _ (by decide)]; exact PyProof.Rows.Boot.«max»
  · refine ⟨nx _ (by simp), ?_⟩
    rw [bi _ (by decide)]; exact PyProof.Rows.Boot.«range»
end Mine
end

section
set_option linter.all false
open PySem PySem.W PyProof.Rows
set_option Elab.async false
set_option maxRecDepth 100000
set_option maxHeartbeats 8000000
set_option pp.deepTerms false
set_option pp.maxSteps 1500
namespace Mine
set_option compiler.extract_closed false
local macro_rules | `(tactic| k_qdec) => `(tactic| decide +kernel)
theorem VRs_ints {b : Heap} {W : Wd} : ∀ {vs : List Value} {ns : List Int}, IntsAre vs ns → VRs b W (ns.map .int) vs
  | _, _, .nil => .nil
  | _, _, .cons n t h => .cons _ _ _ _ (.int n t) (VRs_ints h)
theorem entry {qual : Str} {scope : Scope} {fa : Addr} {cdv : Value} {body : List Stmt} {w : World} {s1 : Shared} {mg mb : Str → Option Value} {p : Program} {loose : List Str} {mean : ExcName → Option Value} {a3 : Addr} {vs : List Value} {ns : List Int} {h1 : Heap} {tk1 : Nat} {ob : Obj} {m : Str → Option Value}
    (KX : (hd.heap_1 w.params).In s1.heap) (T0 : Top p loose mean mg mb s1.heap) (K0 : Below callerA s1.heap [] s1.heap) (hL : s1.heap.IsList a3 vs.toArray) (hI : IntsAre vs ns) (hz : ns.length ≤ 63)
    (F : Fr s1.heap s1.heap.objs.size h1 m) (N0 : News s1.heap s1.heap.objs.size h1 [(s1.heap.objs.size + 1, ob)]) (hob : ob.data = .cell none) (hm : m (nm 112) = some (.ref a3))
    (hrep : RepSs scope.names b_law body) (hk : scope.kind = .function) (hloc : scope.names.lookup (nm 112) = some .local) (hcel : scope.names.lookup (nm 101) = some .cell) (hone : ∀ y, scope.names.lookup y = some .cell → y = nm 101)
    (hcf : ∀ n, cellsFrom n scope.names [] = [(nm 101, n)]) :
    wpAny (model PySem.Challenge.rw_pb0525_01.row.prog w) (callerA.deeper (envOfC qual scope s1.heap.objs.size fa cdv)) (execs body (envOfC qual scope s1.heap.objs.size fa cdv))
      (fun f s' => ∃ h' tk' m' led, f = Flow.ret (Value.bool true) ∧ s' = { s1 with heap := h', toks := tk' } ∧ Fr s1.heap s1.heap.objs.size h' m' ∧ News s1.heap s1.heap.objs.size h' led) (fun _ _ => False) { s1 with heap := h1, toks := tk1 } := by
  have X : FrmA 12 (Cx.mk PySem.Challenge.rw_pb0525_01.row.prog w (hd.heap_1 w.params) s1.heap s1.heap s1.heap.objs.size []) (callerA.deeper (envOfC qual scope s1.heap.objs.size fa cdv)) p loose mean mg mb :=
    { ex := ⟨callerA, s1.heap, [], envOfC qual scope s1.heap.objs.size fa cdv, K0, rfl, rfl, hk⟩
      top := T0
      kin := KX
      base := fun _ _ e => e
      depth := by
        show callerA.depth + 1 + 10 * 12 < recursionLimit
        decide
      handled := rfl
      tabs := tabs_ok rfl KX KX T0.g T0.builtins }
  have ec : (envOfC qual scope s1.heap.objs.size fa cdv).cells = [(nm 101, s1.heap.objs.size + 1)] := hcf _
  refine sndSs (callN std 12) (CO _) (CT _) b_law scope.names body hrep (Cx.mk PySem.Challenge.rw_pb0525_01.row.prog w (hd.heap_1 w.params) s1.heap s1.heap s1.heap.objs.size []) (callerA.deeper (envOfC qual scope s1.heap.objs.size fa cdv)) (envOfC qual scope s1.heap.objs.size fa cdv) m
    ⟨fun i => if i = 0 then some (s1.heap.objs.size + 1) else none, []⟩ [(112, .blist (ns.map .int)), (101, .ref 0)] [.cell none] { s1 with heap := h1, toks := tk1 } _ _ X.glb ⟨rfl, calls_ok 12 _ _ X⟩ ?envf ?loc ?st ?main
  case envf =>
    refine ⟨hk, rfl, rfl, rfl, fun y hy => ?_, rfl⟩
    rw [hone y hy, ec]
    exact ⟨s1.heap.objs.size + 1, by simp⟩
  case st =>
    refine ⟨F, _, N0, ?_⟩
    have hone : ∀ i o, hget ([AO.cell none] : HS) i = some o → i = 0 ∧ o = .cell none := fun i o h => by
      cases i with
      | zero => cases h; exact ⟨rfl, rfl⟩
      | succ i => cases i <;> cases h
    refine ⟨fun i o hi hg => ?_, (fun p hp => nomatch hp), (fun p hp => nomatch hp), fun i j o o' a hi _ hj _ _ _ => ?_, (fun i o a hi hg ha p hp => nomatch hp), fun i hi => ?_, (fun p hp => nomatch hp)⟩
    · obtain ⟨rfl, rfl⟩ := hone i o hi
      exact ⟨_, ob, rfl, List.mem_cons_self, .cell0 _ _ hob⟩
    · rw [(hone i o hi).1, (hone j o' hj).1]
    · have : ¬ i = 0 := by
        have : 1 ≤ i := hi
        omega
      show (if i = 0 then some (s1.heap.objs.size + 1) else none) = none
      rw [if_neg this]
  case loc =>
    refine ⟨fun x v e => ?_, fun x v e hk' => ?_, fun x v e hk' => ?_⟩
    · have := lk_mem e
      simp only [List.mem_cons, Prod.mk.injEq, List.not_mem_nil, or_false] at this
      rcases this with ⟨rfl, _⟩ | ⟨rfl, _⟩ <;> decide
    · have := lk_mem e
      simp only [List.mem_cons, Prod.mk.injEq, List.not_mem_nil, or_false] at this
      rcases this with ⟨rfl, rfl⟩ | ⟨rfl, rfl⟩
      · exact ⟨.ref a3, hm, .blist _ vs _ hL (VRs_ints hI)⟩
      · rw [hcel] at hk'; cases hk'
    · have := lk_mem e
      simp only [List.mem_cons, Prod.mk.injEq, List.not_mem_nil, or_false] at this
      rcases this with ⟨rfl, rfl⟩ | ⟨rfl, rfl⟩
      · rw [hloc] at hk'; cases hk'
      · exact ⟨0, s1.heap.objs.size + 1, rfl, rfl, by rw [ec]; simp⟩
  case main =>
    refine T.All.mono (fun r hr f m' W' h' tk' L' S' hl hf => ?_) (Mine.R.law_all ns hz)
    obtain ⟨F', led, N', B'⟩ := S'
    have hr' : r.1 = .ret (.bool true) := hr
    rw [hr'] at hf
    obtain ⟨v, rfl, hv⟩ := hf
    cases hv
    exact ⟨h', tk', m', led, rfl, rfl, F', N'⟩
theorem t : PySem.Challenge.rw_pb0525_01.Holds := hd (by
  k_go0
  rename_i w s0 s1 mg mb G Y fa o pm doc ho hg KX X V GL T0 B TE TW a10 a9 M a8 a7 hcd ns hs hlay0 hL1 hr1 hl2 a5 a4 a3 vs a1 hL ra w1 r0 hI hr hc1 hc2 K0 hD h1 tk1 F ob hob N0 X0
  clear hD hcd X0
  refine wpAny_mono (E := fun _ _ => False) (Q := fun f s' => ∃ h' tk' m' led, f = Flow.ret (Value.bool true) ∧ s' = { s1 with heap := h', toks := tk' } ∧ Fr s1.heap s1.heap.objs.size h' m' ∧ News s1.heap s1.heap.objs.size h' led) ?k1 ?k2 ?k3
  case k2 =>
    rintro f s' ⟨h', tk', m', led, rfl, rfl, F', N'⟩
    dsimp only
    wrow_close
  case k3 => exact fun _ _ h => h.elim
  case k1 =>
    refine entry KX T0 K0 hL hI (by omega) F N0 hob (by rfl) ?rep (by rfl) (by kernel_rfl) (by kernel_rfl) (oneCell (by kernel_rfl)) (fun n => by kernel_rfl)
    repeat' first
      | exact RepSs.nil _
      | refine RepSs.cons _ _ _ _ _ ?_ ?_
      | refine RepS.ret _ _ _ _ ?_
      | refine RepS.expr _ _ _ _ (by intro _; rfl) ?_
      | refine RepS.assignComp _ _ _ _ _ _ _ (by decide) (by kernel_rfl) (by kernel_rfl) (by kernel_rfl) ?_ rfl
      | refine RepS.assignTup _ _ _ _ _ _ _ _ (by intro _; rfl) (by kernel_rfl) ?_ ?_
      | refine RepS.assignSw _ [113, 110] _ _ _ _ _ _ _ rfl (by intro _; rfl) (by kernel_rfl) (by decide +kernel) ?_
      | refine RepS.assignSw _ [56, 120] _ _ _ _ _ _ _ rfl (by intro _; rfl) (by kernel_rfl) (by decide +kernel) ?_
      | refine RepS.assign _ _ _ _ _ _ ?_ (by intro _; rfl) (by intro _; rfl) ?_ (by intro _; rfl)
      | refine RepS.augLoc _ _ _ _ _ _ _ (by decide) (by kernel_rfl) (by kernel_rfl) ?_
      | refine RepS.augAttr _ _ _ _ _ _ _ _ _ (by kernel_rfl) ?_ ?_
      | refine RepS.ife _ _ _ _ _ _ _ _ ?_ ?_ ?_
      | refine RepS.forR _ _ _ _ _ _ _ _ _ _ _ _ ⟨by decide, by kernel_rfl⟩ (by kernel_rfl) (by kernel_rfl) (by kernel_rfl) (by intro _; rfl) (by intro _ _; rfl) ?_ ?_
      | refine RepS.forL _ _ _ _ _ _ _ _ _ (by decide +kernel) ?_ (by intro _ _; rfl) ?_ ?_
      | exact RepS.junk _ _
      | refine RepTgt.loc _ _ _ _ (by decide) (by kernel_rfl) (by kernel_rfl)
      | refine RepTgt.cel _ _ _ _ (by decide) (by kernel_rfl) (by kernel_rfl)
      | refine RepTgt.attr _ _ _ _ _ _ (by kernel_rfl) ?_
      | refine RepTgt.sub _ _ _ _ _ _ ?_ ?_
      | exact RepTgs.nil _
      | refine RepTgs.cons _ _ _ _ _ (by intro _; rfl) ?_ ?_
      | refine RepTg.one _ _ _ (by decide) (by kernel_rfl)
      | refine RepTg.tup _ _ _ _ (by decide) ?_
      | exact NamesAre.nil
      | refine NamesAre.cons _ _ _ _ _ (by decide) (by kernel_rfl) ?_
      | exact KeysAre.nil
      | refine KeysAre.cons _ _ _ _ _ _ (by decide) (by kernel_rfl) ?_
      | refine RepE.loc _ _ _ _ (by decide) (by kernel_rfl) (by kernel_rfl) (by kernel_rfl)
      | refine RepE.cel _ _ _ _ (by decide) (by kernel_rfl) (by kernel_rfl) (by kernel_rfl)
      | refine RepE.glob _ _ _ _ (by decide) (by kernel_rfl) (by kernel_rfl) (by kernel_rfl)
      | exact RepE.int _ _ _ _
      | exact RepE.neg _ _ _ _ _ _ (by kernel_rfl)
      | exact RepE.str _ _ _ _ _ (by decide) (by kernel_rfl)
      | exact RepE.bool _ _ _ _
      | exact RepE.none _ _ _
      | refine RepE.bin _ _ _ _ _ _ _ _ (by kernel_rfl) ?_ ?_
      | refine RepE.cmp _ _ _ _ _ _ _ _ (by kernel_rfl) (by kernel_rfl) ?_ ?_
      | refine RepE.isIn _ _ _ _ _ _ (by kernel_rfl) ?_ ?_
      | refine RepE.notIn _ _ _ _ _ _ (by kernel_rfl) ?_ ?_
      | refine RepE.isNone _ _ _ _ _ _ ?_
      | refine RepE.notNone _ _ _ _ _ _ ?_
      | refine RepE.and _ _ _ _ _ _ _ ?_ ?_
      | refine RepE.or _ _ _ _ _ _ _ ?_ ?_
      | refine RepB.and _ _ _ _ _ _ _ ?_ ?_
      | refine RepB.or _ _ _ _ _ _ _ ?_ ?_
      | refine RepB.one _ _ _ _ _ ?_
      | refine RepE.not _ _ _ _ ?_
      | refine RepE.ife _ _ _ _ _ _ _ _ ?_ ?_ ?_
      | refine RepE.attr _ _ _ _ _ _ (by kernel_rfl) (by intro _; with_unfolding_all rfl) ?_
      | refine RepE.upto _ _ _ _ _ _ _ _ ?_
      | refine RepE.sub _ _ _ _ _ _ (by intro _ _; rfl) ?_ ?_
      | refine RepE.call _ _ _ _ _ _ _ ?_ ?_
      | refine RepE.meth _ _ _ _ _ _ _ _ _ _ (by kernel_rfl) (by intro _; rfl) ?_ ?_
      | refine RepE.b1 _ _ _ _ _ _ _ (by kernel_rfl) (by kernel_rfl) (by intro _; rfl) ?_
      | refine RepE.max _ _ _ _ _ _ _ _ (by kernel_rfl) (by kernel_rfl) (by intro _; rfl) ?_ ?_
      | refine RepE.tup _ _ _ _ _ (by decide) ?_
      | refine RepE.list _ _ _ _ (by decide) ?_
      | exact RepE.dict0 _ _
      | refine RepE.dict _ _ _ _ _ _ (by decide) (by kernel_rfl) (by simp) (by decide) ?_ ?_
      | refine RepE.comp _ _ _ _ _ _ _ _ _ _ (by kernel_rfl) ?_ (by intro _ _; rfl) ?_ ?_
      | refine RepE.compIf _ _ _ _ _ _ _ _ _ _ _ _ (by kernel_rfl) ?_ (by intro _ _; rfl) ?_ ?_ ?_
      | refine RepE.compR _ _ _ _ _ _ _ _ _ _ _ _ (by kernel_rfl) ?_ (by kernel_rfl) (by kernel_rfl) (by intro _; rfl) (by intro _ _; rfl) ?_ ?_
      | exact RepE.junk _ _
      | exact RepEs.nil _
      | refine RepEs.cons _ _ _ _ _ (by intro _; rfl) ?_ ?_
  )
end Mine
end

end
theorem PySem.Challenge.cw_pb0525_01_holds : PySem.Challenge.rw_pb0525_01.Holds := by
  exact Mine.t
