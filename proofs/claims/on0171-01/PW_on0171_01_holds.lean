import PyProof.Rows.All
import Wide.All
import OpenK.AllK
import Wide.FinOn
import KE.KSortTup
import Lean
import PySem.Challenge.RW_on0171_01
set_option Elab.async false
set_option linter.unusedVariables false
open List (all_cons all_eq_true all_map all_nil any_cons any_eq_false any_eq_true append_assoc append_nil concat_eq_append cons_append cons_lt_cons_iff drop_drop drop_eq_getElem_cons drop_eq_nil_of_le drop_length drop_nil drop_of_length_le drop_take drop_zero eq_nil_or_concat exists_mem_of_ne_nil ext_getElem? extract_eq_take_drop filterMap_append filterMap_cons filterMap_cons_some filterMap_map filter_append filter_congr filter_cons filter_eq_nil_iff filter_nil filter_sublist find?_cons findIdx?_cons flatMap_append flatMap_cons flatten_append flatten_cons flatten_singleton foldl_append foldl_cons forIn_cons getElem?_append_left getElem?_append_right getElem?_cons_succ getElem?_cons_zero getElem?_drop getElem?_eq_getElem getElem?_eq_none getElem?_map getElem?_range getElem?_replicate getElem?_set getElem?_set_ne getElem?_set_self getElem?_take_eq_none getElem?_take_of_lt getElem_idxOf getElem_mem getElem_of_mem getElem_take getLast?_map idxOf_append idxOf_cons idxOf_lt_length_of_mem length_append length_cons length_drop length_eq_zero_iff length_filter_le length_map length_nil length_pos_of_mem length_range length_replicate length_reverse length_set length_singleton length_take length_take_le lookup_cons map_append map_congr_left map_cons map_eq_nil_iff map_id map_map map_nil map_replicate map_reverse map_set map_take mem_append mem_append_left mem_append_right mem_cons mem_cons_of_mem mem_filter mem_filterMap mem_flatMap mem_iff_getElem mem_map mem_of_getElem? mem_of_mem_drop mem_of_mem_take mem_range mem_range'_1 mem_reverse mem_singleton ne_nil_of_mem nodup_append nodup_cons nodup_iff_pairwise_ne nodup_nil not_mem_nil of_mem_zip pairwise_append pairwise_cons pairwise_iff_getElem pairwise_lt_range pairwise_map pairwise_reverse pairwise_singleton range' range_succ replicate_succ reverse_append reverse_cons reverse_perm reverse_reverse set_append_right set_comm set_cons_succ set_cons_zero set_set size_toArray sum_append sum_cons take_append_drop take_left take_length take_nil take_of_length_le take_sublist take_succ_cons take_succ_eq_append_getElem take_take take_zero zipIdx_cons zip_cons_cons)
open Option (bind_some isNone isNone_iff_eq_none isNone_none isNone_some isSome_iff_exists isSome_none isSome_some map_eq_some_iff map_some)
namespace Mac
universe u v w x y z o
variable {G:Prop}{A:Sort u}{B:Sort v}{C:Sort w}{D:Sort x}{E:Sort y}{F:Sort z}{H:Sort o}
section
variable {p q r s t f g h:Prop}
theorem e2_0(l:p∧q)(k:p→q→G):G:=k l.1 l.2
theorem i2_0(l0:p)(l1:q):p∧q:=⟨l0,l1⟩
theorem e3_0(l:p∧q∧r)(k:p→q→r→G):G:=k l.1 l.2.1 l.2.2
theorem i3_0(l0:p)(l1:q)(l2:r):p∧q∧r:=⟨l0,l1,l2⟩
theorem e4_0(l:p∧q∧r∧s)(k:p→q→r→s→G):G:=k l.1 l.2.1 l.2.2.1 l.2.2.2
theorem i4_0(l0:p)(l1:q)(l2:r)(l3:s):p∧q∧r∧s:=⟨l0,l1,l2,l3⟩
theorem e5_0(l:p∧q∧r∧s∧t)(k:p→q→r→s→t→G):G:=k l.1 l.2.1 l.2.2.1 l.2.2.2.1 l.2.2.2.2
theorem i5_0(l0:p)(l1:q)(l2:r)(l3:s)(l4:t):p∧q∧r∧s∧t:=⟨l0,l1,l2,l3,l4⟩
theorem e6_0(l:p∧q∧r∧s∧t∧f)(k:p→q→r→s→t→f→G):G:=k l.1 l.2.1 l.2.2.1 l.2.2.2.1 l.2.2.2.2.1 l.2.2.2.2.2
theorem i6_0(l0:p)(l1:q)(l2:r)(l3:s)(l4:t)(l5:f):p∧q∧r∧s∧t∧f:=⟨l0,l1,l2,l3,l4,l5⟩
theorem e7_0(l:p∧q∧r∧s∧t∧f∧g)(k:p→q→r→s→t→f→g→G):G:=k l.1 l.2.1 l.2.2.1 l.2.2.2.1 l.2.2.2.2.1 l.2.2.2.2.2.1 l.2.2.2.2.2.2
theorem i7_0(l0:p)(l1:q)(l2:r)(l3:s)(l4:t)(l5:f)(l6:g):p∧q∧r∧s∧t∧f∧g:=⟨l0,l1,l2,l3,l4,l5,l6⟩
theorem e8_0(l:p∧q∧r∧s∧t∧f∧g∧h)(k:p→q→r→s→t→f→g→h→G):G:=k l.1 l.2.1 l.2.2.1 l.2.2.2.1 l.2.2.2.2.1 l.2.2.2.2.2.1 l.2.2.2.2.2.2.1 l.2.2.2.2.2.2.2
theorem i8_0(l0:p)(l1:q)(l2:r)(l3:s)(l4:t)(l5:f)(l6:g)(l7:h):p∧q∧r∧s∧t∧f∧g∧h:=⟨l0,l1,l2,l3,l4,l5,l6,l7⟩
end
section
variable {p q r s t f g:A→Prop}
theorem e2_1(l:∃ a,p a)(k:∀ a,p a→G):G:=l.elim fun a l=>k a l
theorem i2_1(a:A)(l0:p a):∃ a,p a:=⟨a,l0⟩
theorem e3_1(l:∃ a,p a∧q a)(k:∀ a,p a→q a→G):G:=l.elim fun a l=>k a l.1 l.2
theorem i3_1(a:A)(l0:p a)(l1:q a):∃ a,p a∧q a:=⟨a,l0,l1⟩
theorem e4_1(l:∃ a,p a∧q a∧r a)(k:∀ a,p a→q a→r a→G):G:=l.elim fun a l=>k a l.1 l.2.1 l.2.2
theorem i4_1(a:A)(l0:p a)(l1:q a)(l2:r a):∃ a,p a∧q a∧r a:=⟨a,l0,l1,l2⟩
theorem e5_1(l:∃ a,p a∧q a∧r a∧s a)(k:∀ a,p a→q a→r a→s a→G):G:=l.elim fun a l=>k a l.1 l.2.1 l.2.2.1 l.2.2.2
theorem i5_1(a:A)(l0:p a)(l1:q a)(l2:r a)(l3:s a):∃ a,p a∧q a∧r a∧s a:=⟨a,l0,l1,l2,l3⟩
theorem e6_1(l:∃ a,p a∧q a∧r a∧s a∧t a)(k:∀ a,p a→q a→r a→s a→t a→G):G:=l.elim fun a l=>k a l.1 l.2.1 l.2.2.1 l.2.2.2.1 l.2.2.2.2
theorem i6_1(a:A)(l0:p a)(l1:q a)(l2:r a)(l3:s a)(l4:t a):∃ a,p a∧q a∧r a∧s a∧t a:=⟨a,l0,l1,l2,l3,l4⟩
theorem e7_1(l:∃ a,p a∧q a∧r a∧s a∧t a∧f a)(k:∀ a,p a→q a→r a→s a→t a→f a→G):G:=l.elim fun a l=>k a l.1 l.2.1 l.2.2.1 l.2.2.2.1 l.2.2.2.2.1 l.2.2.2.2.2
theorem i7_1(a:A)(l0:p a)(l1:q a)(l2:r a)(l3:s a)(l4:t a)(l5:f a):∃ a,p a∧q a∧r a∧s a∧t a∧f a:=⟨a,l0,l1,l2,l3,l4,l5⟩
theorem e8_1(l:∃ a,p a∧q a∧r a∧s a∧t a∧f a∧g a)(k:∀ a,p a→q a→r a→s a→t a→f a→g a→G):G:=l.elim fun a l=>k a l.1 l.2.1 l.2.2.1 l.2.2.2.1 l.2.2.2.2.1 l.2.2.2.2.2.1 l.2.2.2.2.2.2
theorem i8_1(a:A)(l0:p a)(l1:q a)(l2:r a)(l3:s a)(l4:t a)(l5:f a)(l6:g a):∃ a,p a∧q a∧r a∧s a∧t a∧f a∧g a:=⟨a,l0,l1,l2,l3,l4,l5,l6⟩
end
section
variable {p q r s t f:A→B→Prop}
theorem e3_2(l:∃ a b,p a b)(k:∀ a b,p a b→G):G:=l.elim fun a l=>l.elim fun b l=>k a b l
theorem i3_2(a:A)(b:B)(l0:p a b):∃ a b,p a b:=⟨a,b,l0⟩
theorem e4_2(l:∃ a b,p a b∧q a b)(k:∀ a b,p a b→q a b→G):G:=l.elim fun a l=>l.elim fun b l=>k a b l.1 l.2
theorem i4_2(a:A)(b:B)(l0:p a b)(l1:q a b):∃ a b,p a b∧q a b:=⟨a,b,l0,l1⟩
theorem e5_2(l:∃ a b,p a b∧q a b∧r a b)(k:∀ a b,p a b→q a b→r a b→G):G:=l.elim fun a l=>l.elim fun b l=>k a b l.1 l.2.1 l.2.2
theorem i5_2(a:A)(b:B)(l0:p a b)(l1:q a b)(l2:r a b):∃ a b,p a b∧q a b∧r a b:=⟨a,b,l0,l1,l2⟩
theorem e6_2(l:∃ a b,p a b∧q a b∧r a b∧s a b)(k:∀ a b,p a b→q a b→r a b→s a b→G):G:=l.elim fun a l=>l.elim fun b l=>k a b l.1 l.2.1 l.2.2.1 l.2.2.2
theorem i6_2(a:A)(b:B)(l0:p a b)(l1:q a b)(l2:r a b)(l3:s a b):∃ a b,p a b∧q a b∧r a b∧s a b:=⟨a,b,l0,l1,l2,l3⟩
theorem e7_2(l:∃ a b,p a b∧q a b∧r a b∧s a b∧t a b)(k:∀ a b,p a b→q a b→r a b→s a b→t a b→G):G:=l.elim fun a l=>l.elim fun b l=>k a b l.1 l.2.1 l.2.2.1 l.2.2.2.1 l.2.2.2.2
theorem i7_2(a:A)(b:B)(l0:p a b)(l1:q a b)(l2:r a b)(l3:s a b)(l4:t a b):∃ a b,p a b∧q a b∧r a b∧s a b∧t a b:=⟨a,b,l0,l1,l2,l3,l4⟩
theorem e8_2(l:∃ a b,p a b∧q a b∧r a b∧s a b∧t a b∧f a b)(k:∀ a b,p a b→q a b→r a b→s a b→t a b→f a b→G):G:=l.elim fun a l=>l.elim fun b l=>k a b l.1 l.2.1 l.2.2.1 l.2.2.2.1 l.2.2.2.2.1 l.2.2.2.2.2
theorem i8_2(a:A)(b:B)(l0:p a b)(l1:q a b)(l2:r a b)(l3:s a b)(l4:t a b)(l5:f a b):∃ a b,p a b∧q a b∧r a b∧s a b∧t a b∧f a b:=⟨a,b,l0,l1,l2,l3,l4,l5⟩
end
section
variable {p q r s t:A→B→C→Prop}
theorem e4_3(l:∃ a b c,p a b c)(k:∀ a b c,p a b c→G):G:=l.elim fun a l=>l.elim fun b l=>l.elim fun c l=>k a b c l
theorem i4_3(a:A)(b:B)(c:C)(l0:p a b c):∃ a b c,p a b c:=⟨a,b,c,l0⟩
theorem e5_3(l:∃ a b c,p a b c∧q a b c)(k:∀ a b c,p a b c→q a b c→G):G:=l.elim fun a l=>l.elim fun b l=>l.elim fun c l=>k a b c l.1 l.2
theorem i5_3(a:A)(b:B)(c:C)(l0:p a b c)(l1:q a b c):∃ a b c,p a b c∧q a b c:=⟨a,b,c,l0,l1⟩
theorem e6_3(l:∃ a b c,p a b c∧q a b c∧r a b c)(k:∀ a b c,p a b c→q a b c→r a b c→G):G:=l.elim fun a l=>l.elim fun b l=>l.elim fun c l=>k a b c l.1 l.2.1 l.2.2
theorem i6_3(a:A)(b:B)(c:C)(l0:p a b c)(l1:q a b c)(l2:r a b c):∃ a b c,p a b c∧q a b c∧r a b c:=⟨a,b,c,l0,l1,l2⟩
theorem e7_3(l:∃ a b c,p a b c∧q a b c∧r a b c∧s a b c)(k:∀ a b c,p a b c→q a b c→r a b c→s a b c→G):G:=l.elim fun a l=>l.elim fun b l=>l.elim fun c l=>k a b c l.1 l.2.1 l.2.2.1 l.2.2.2
theorem i7_3(a:A)(b:B)(c:C)(l0:p a b c)(l1:q a b c)(l2:r a b c)(l3:s a b c):∃ a b c,p a b c∧q a b c∧r a b c∧s a b c:=⟨a,b,c,l0,l1,l2,l3⟩
theorem e8_3(l:∃ a b c,p a b c∧q a b c∧r a b c∧s a b c∧t a b c)(k:∀ a b c,p a b c→q a b c→r a b c→s a b c→t a b c→G):G:=l.elim fun a l=>l.elim fun b l=>l.elim fun c l=>k a b c l.1 l.2.1 l.2.2.1 l.2.2.2.1 l.2.2.2.2
theorem i8_3(a:A)(b:B)(c:C)(l0:p a b c)(l1:q a b c)(l2:r a b c)(l3:s a b c)(l4:t a b c):∃ a b c,p a b c∧q a b c∧r a b c∧s a b c∧t a b c:=⟨a,b,c,l0,l1,l2,l3,l4⟩
end
section
variable {p q r s:A→B→C→D→Prop}
theorem e5_4(l:∃ a b c d,p a b c d)(k:∀ a b c d,p a b c d→G):G:=l.elim fun a l=>l.elim fun b l=>l.elim fun c l=>l.elim fun d l=>k a b c d l
theorem i5_4(a:A)(b:B)(c:C)(d:D)(l0:p a b c d):∃ a b c d,p a b c d:=⟨a,b,c,d,l0⟩
theorem e6_4(l:∃ a b c d,p a b c d∧q a b c d)(k:∀ a b c d,p a b c d→q a b c d→G):G:=l.elim fun a l=>l.elim fun b l=>l.elim fun c l=>l.elim fun d l=>k a b c d l.1 l.2
theorem i6_4(a:A)(b:B)(c:C)(d:D)(l0:p a b c d)(l1:q a b c d):∃ a b c d,p a b c d∧q a b c d:=⟨a,b,c,d,l0,l1⟩
theorem e7_4(l:∃ a b c d,p a b c d∧q a b c d∧r a b c d)(k:∀ a b c d,p a b c d→q a b c d→r a b c d→G):G:=l.elim fun a l=>l.elim fun b l=>l.elim fun c l=>l.elim fun d l=>k a b c d l.1 l.2.1 l.2.2
theorem e8_4(l:∃ a b c d,p a b c d∧q a b c d∧r a b c d∧s a b c d)(k:∀ a b c d,p a b c d→q a b c d→r a b c d→s a b c d→G):G:=l.elim fun a l=>l.elim fun b l=>l.elim fun c l=>l.elim fun d l=>k a b c d l.1 l.2.1 l.2.2.1 l.2.2.2
theorem i8_4(a:A)(b:B)(c:C)(d:D)(l0:p a b c d)(l1:q a b c d)(l2:r a b c d)(l3:s a b c d):∃ a b c d,p a b c d∧q a b c d∧r a b c d∧s a b c d:=⟨a,b,c,d,l0,l1,l2,l3⟩
end
section
variable {p q r:A→B→C→D→E→Prop}
theorem e6_5(l:∃ a b c d e,p a b c d e)(k:∀ a b c d e,p a b c d e→G):G:=l.elim fun a l=>l.elim fun b l=>l.elim fun c l=>l.elim fun d l=>l.elim fun e l=>k a b c d e l
theorem i6_5(a:A)(b:B)(c:C)(d:D)(e:E)(l0:p a b c d e):∃ a b c d e,p a b c d e:=⟨a,b,c,d,e,l0⟩
theorem e7_5(l:∃ a b c d e,p a b c d e∧q a b c d e)(k:∀ a b c d e,p a b c d e→q a b c d e→G):G:=l.elim fun a l=>l.elim fun b l=>l.elim fun c l=>l.elim fun d l=>l.elim fun e l=>k a b c d e l.1 l.2
theorem e8_5(l:∃ a b c d e,p a b c d e∧q a b c d e∧r a b c d e)(k:∀ a b c d e,p a b c d e→q a b c d e→r a b c d e→G):G:=l.elim fun a l=>l.elim fun b l=>l.elim fun c l=>l.elim fun d l=>l.elim fun e l=>k a b c d e l.1 l.2.1 l.2.2
theorem i8_5(a:A)(b:B)(c:C)(d:D)(e:E)(l0:p a b c d e)(l1:q a b c d e)(l2:r a b c d e):∃ a b c d e,p a b c d e∧q a b c d e∧r a b c d e:=⟨a,b,c,d,e,l0,l1,l2⟩
end
section
variable {p q:A→B→C→D→E→F→Prop}
theorem e7_6(l:∃ a b c d e i,p a b c d e i)(k:∀ a b c d e i,p a b c d e i→G):G:=l.elim fun a l=>l.elim fun b l=>l.elim fun c l=>l.elim fun d l=>l.elim fun e l=>l.elim fun i l=>k a b c d e i l
theorem e8_6(l:∃ a b c d e i,p a b c d e i∧q a b c d e i)(k:∀ a b c d e i,p a b c d e i→q a b c d e i→G):G:=l.elim fun a l=>l.elim fun b l=>l.elim fun c l=>l.elim fun d l=>l.elim fun e l=>l.elim fun i l=>k a b c d e i l.1 l.2
theorem i8_6(a:A)(b:B)(c:C)(d:D)(e:E)(i:F)(l0:p a b c d e i)(l1:q a b c d e i):∃ a b c d e i,p a b c d e i∧q a b c d e i:=⟨a,b,c,d,e,i,l0,l1⟩
end
section
variable {p:A→B→C→D→E→F→H→Prop}
theorem e8_7(l:∃ a b c d e i j,p a b c d e i j)(k:∀ a b c d e i j,p a b c d e i j→G):G:=l.elim fun a l=>l.elim fun b l=>l.elim fun c l=>l.elim fun d l=>l.elim fun e l=>l.elim fun i l=>l.elim fun j l=>k a b c d e i j l
theorem i8_7(a:A)(b:B)(c:C)(d:D)(e:E)(i:F)(j:H)(l0:p a b c d e i j):∃ a b c d e i j,p a b c d e i j:=⟨a,b,c,d,e,i,j,l0⟩
end
theorem ns{α:Type _}{x:α}{p:Prop}(h:none=some x):p:=nomatch h
theorem sn{α:Type _}{x:α}{p:Prop}(h:some x=none):p:=nomatch h
theorem ft{p:Prop}(h:false=true):p:=nomatch h
theorem tf{p:Prop}(h:true=false):p:=nomatch h
@[elab_as_elim] theorem rwl{α:Sort u}{p:α→Prop}{a b:α}(h:a=b)(k:p b):p a:=h▸k
@[elab_as_elim] theorem rwr{α:Sort u}{p:α→Prop}{a b:α}(h:a=b)(k:p a):p b:=h▸k
@[elab_as_elim] theorem rwi{p:Prop→Prop}{a b:Prop}(h:a↔b)(k:p b):p a:=propext h▸k
@[elab_as_elim] theorem rwj{p:Prop→Prop}{a b:Prop}(h:a↔b)(k:p a):p b:=propext h▸k
theorem a0{x y:Nat}(h:x<y):x≤y:=Nat.le_of_lt h
theorem a2{x y:Nat}(h:x≤y):x<y+1:=Nat.lt_succ_of_le h
theorem a3{x y:Nat}(h:¬y<x):x≤y:=Nat.le_of_not_lt h
theorem a5{x y:Nat}(h:(x:Int)<y):x<y:=Int.ofNat_lt.mp h
theorem a6{x y:Nat}(h:x<y):(x:Int)<y:=Int.ofNat_lt.mpr h
theorem a8{x y:Nat}(h:¬(y:Int)<x):x≤y:=Int.ofNat_le.mp (Int.not_lt.mp h)
theorem a11{x y:Nat}(h:x=y):x≤y:=Nat.le_of_eq h
theorem a12{x y:Nat}(h:y=x):x≤y:=Nat.le_of_eq h.symm
theorem a13{x y z:Nat}(h:x<y):x≤y+z:=Nat.le_trans (Nat.le_of_lt h) (Nat.le_add_right _ _)
theorem a14{x y z:Nat}(h:x<y):x<y+z:=Nat.lt_of_lt_of_le h (Nat.le_add_right _ _)
theorem a15{x y:Nat}(h:¬x=y):¬(x:Int)=y:=fun k=>h (Int.ofNat_inj.mp k)
theorem a16{x y:Nat}(h:x=y):(x:Int)=y:=congrArg _ h
theorem a17{x y:Nat}(h:x<y):0<y:=Nat.lt_of_le_of_lt (Nat.zero_le _) h
theorem a18{x y:Nat}(h:x+1≤y):x<y:=h
theorem a19{x:Nat}(h:0<x):(0:Int)<x:=Int.ofNat_lt.mpr h
theorem a20{x:Nat}(h:x<16777216):(x:Int)≤16777216:=Int.ofNat_le.mpr (Nat.le_of_lt h)
theorem a21{x:Nat}(h:x<16777216):(x:Int)<1073741824:=Int.ofNat_lt.mpr (Nat.lt_of_lt_of_le h (by decide))
theorem a22{x:Nat}(h:¬x=0):¬(x:Int)=0:=fun k=>h (Int.ofNat_inj.mp k)
theorem a23{x:Nat}(h:x=0):(x:Int)=0:=congrArg (Nat.cast:Nat→Int) h
theorem a24{x y:Nat}(h:x≤y):x≤y+1:=Nat.le_succ_of_le h
theorem a25{x y:Nat}(h:x+1≤y):x≤y:=Nat.le_of_lt h
theorem a26{x y:Nat}(h:x+12*y+200≤9900):x+1+64<9900:=Nat.lt_of_lt_of_le (Nat.lt_of_lt_of_le (Nat.add_lt_add_left (by decide:65<200) x) (Nat.add_le_add_right (Nat.le_add_right x (12*y)) 200)) h
theorem a27{x y:Nat}(h:x+12*y+200≤9900):x+64<9900:=Nat.lt_of_lt_of_le (Nat.lt_of_lt_of_le (Nat.add_lt_add_left (by decide:64<200) x) (Nat.add_le_add_right (Nat.le_add_right x (12*y)) 200)) h
theorem a28{x y:Nat}(h:x+12*y+200≤9900):x+1<9900:=Nat.lt_of_lt_of_le (Nat.lt_of_lt_of_le (Nat.add_lt_add_left (by decide:1<200) x) (Nat.add_le_add_right (Nat.le_add_right x (12*y)) 200)) h
theorem a29{x y:Nat}(h:x+64<y):x+1<y:=Nat.lt_of_le_of_lt (Nat.add_le_add_left (by decide) x) h
theorem a30{x y:Nat}(h:x+2*y+2≤900):x<1000:=Nat.lt_of_le_of_lt (Nat.le_trans (Nat.le_trans (Nat.le_add_right x (2*y)) (Nat.le_add_right _ 2)) h) (by decide)
theorem a31{x y:Nat}(h:x+12*(y+1)+200≤9900):x+12*y+200≤9900:=Nat.le_trans (Nat.add_le_add_right (Nat.add_le_add_left (Nat.mul_le_mul_left 12 (Nat.le_succ y)) x) 200) h
theorem a32{x y:Nat}(h:x+2*(y+1)+2≤900):x+2*y+2≤900:=Nat.le_trans (Nat.add_le_add_right (Nat.add_le_add_left (Nat.mul_le_mul_left 2 (Nat.le_succ y)) x) 2) h
theorem b0{x y z:Nat}(h:x≤y)(k:y≤z):x≤z:=Nat.le_trans h k
theorem b1{x y z:Nat}(h:x<y)(k:y≤z):x<z:=Nat.lt_of_lt_of_le h k
theorem b2{x y z:Nat}(h:x≤y)(k:y<z):x<z:=Nat.lt_of_le_of_lt h k
theorem b3{x y z:Nat}(h:x<y)(k:y≤z):x≤z:=Nat.le_trans (Nat.le_of_lt h) k
theorem b4{x y z:Nat}(h:x≤y)(k:y<z):x≤z:=Nat.le_trans h (Nat.le_of_lt k)
theorem b5{x y z:Nat}(h:x<y)(k:y<z):x<z:=Nat.lt_trans h k
theorem b6{x y z:Nat}(h:x<y)(k:z=y):x<z:=k▸h
theorem b7{x y z:Nat}(h:x<y)(k:y=z):x<z:=k▸h
theorem b10{x y z:Nat}(k:z=x)(h:x<y):z<y:=k▸h
theorem b12{x y z:Nat}(k:z=x)(h:x≤y):z≤y:=k▸h
theorem b13{x y z:Nat}(k:x=z)(h:x≤y):z≤y:=k▸h
theorem b15{x y z:Nat}(k:x=z)(h:x<y):z≤y:=k▸Nat.le_of_lt h
theorem b17{x y:Nat}(h:x≤y)(k:¬x=y):x<y:=Nat.lt_of_le_of_ne h k
theorem b18{x y:Nat}(h:x<y+1)(k:¬x=y):x<y:=Nat.lt_of_le_of_ne (Nat.le_of_lt_succ h) k
theorem b19{x y:Nat}(h:x<y+1)(k:¬x<y):x=y:=Nat.le_antisymm (Nat.le_of_lt_succ h) (Nat.le_of_not_lt k)
theorem b20{x y:Nat}(h:x≤y)(k:¬x<y):x=y:=Nat.le_antisymm h (Nat.le_of_not_lt k)
theorem b21{x y:Nat}(h:x≤y)(k:¬(x:Int)<y):x=y:=Nat.le_antisymm h (Int.ofNat_le.mp (Int.not_lt.mp k))
theorem b24{x y z:Nat}(h:x≤y)(k:y≤z):(x:Int)≤z:=Int.ofNat_le.mpr (Nat.le_trans h k)
theorem b25{x y z:Nat}(h:x≤y)(k:y<z):x+1≤z:=Nat.lt_of_le_of_lt h k
theorem b28{x y:Nat}(h:¬x<y)(k:x-y=0):x=y:=Nat.le_antisymm (Nat.le_of_sub_eq_zero k) (Nat.le_of_not_lt h)
theorem b29{x y:Nat}(h:x=y)(k:y≤16777216):(x:Int)<2^63:=Int.lt_of_le_of_lt (Int.ofNat_le.mpr (h▸k)) (by decide)
theorem b30{x y:Nat}(h:x≥y)(k:x-y<1):x=y:=Nat.le_antisymm (Nat.le_of_sub_eq_zero (Nat.lt_one_iff.mp k)) h
theorem c0{x y z w:Nat}(h:x≤y)(k:y≤z)(l:z≤w):x≤w:=Nat.le_trans h (Nat.le_trans k l)
theorem c1{x y z w:Nat}(h:x<y)(k:y≤z)(l:z≤w):x<w:=Nat.lt_of_lt_of_le h (Nat.le_trans k l)
theorem c2{x y z w:Nat}(h:x<y)(k:y≤z)(l:z≤w):x≤w:=Nat.le_trans (Nat.le_of_lt h) (Nat.le_trans k l)
theorem c3{x y z w:Nat}(h:x≤y)(k:y≤z)(l:z<w):x<w:=Nat.lt_of_le_of_lt h (Nat.lt_of_le_of_lt k l)
theorem c4{x y z w:Nat}(h:x=y)(k:y≤z)(l:z≤w):x≤w:=h▸Nat.le_trans k l
theorem z0{x:Nat}:(0:Int)≤x:=Int.natCast_nonneg x
theorem z1{x:Nat}:-(16777216:Int)≤x:=Int.le_trans (by decide) (Int.natCast_nonneg x)
theorem z2{x:Nat}:x<x+1:=Nat.lt_succ_self x
theorem z3{x y:Nat}:x+1+y=x+(y+1):=Nat.add_right_comm x 1 y
theorem z4{x:Nat}:(0:Int)≤(x:Int)+1:=Int.natCast_nonneg (x+1)
theorem z5{x:Nat}:¬(x:Int)=-1:=fun h=>nomatch (show Int.ofNat x=Int.negSucc 0 from h)
end Mac
namespace Mac
set_option compiler.extract_closed false
set_option compiler.reuse false
open Lean
abbrev X:=Syntax
def nd(k:String)(a:Array X):X:=.node .none ((k.splitOn ".").foldl .str `Lean.Parser) a
def N(k:String)(a:Array X):X:=nd ("Tactic."++k) a
def E(k:String)(a:Array X):X:=nd ("Term."++k) a
def A(s:String):X:=.atom .none s
def L(a:Array X):X:=.node .none `null a
def Q(a:Array X):X:=N "tacticSeq" #[N "tacticSeq1Indented" #[L (mkSepArray a (A ";"))]]
def P(a:Array X):X:=N "paren" #[A "(",Q a,A ")"]
def F(a:List X):X:=N "first" #[A "first",L (a.foldl (fun r s=>r.push (.node .none `group #[A "|",Q #[s]])) #[])]
def H:X:=E "hole" #[A "_"]
def G:X:=E "syntheticHole" #[A "?",A "_"]
def I(s:String):X:=mkIdent (.str `Mac s)
def V(s:String):X:=mkIdent (.mkSimple s)
def C(f:X)(a:Array X):X:=E "app" #[f,L a]
def K(k:String)(t:X):X:=N k #[A k,t]
def J(k:String)(t:X):X:=N k #[A (if k=="withReducible" then "with_reducible" else if k=="tacticTry_" then "try" else if k=="failIfSuccess" then "fail_if_success" else "with_reducible_and_instances"),Q #[t]]
def B(t:X):X:=E "paren" #[E "hygienicLParen" #[A "(",.node .none `hygieneInfo #[mkIdent .anonymous]],t,A ")"]
def Y(t:X):X:=E "byTactic" #[A "by",Q #[t]]
def U(a:Array X):X:=E "anonymousCtor" #[A "⟨",L (mkSepArray a (A ",")),A "⟩"]
def O:X:=N "optConfig" #[L #[]]
def W(k:String):X:=N k #[A k,O]
def as:X:=N "assumption" #[A "assumption"]
def fo{β}:Nat→(Nat→β→β)→β→β
|0,_,a=>a
|n+1,f,a=>f n (fo n f a)
def pt(x:X):X:=N "rcasesPatMed" #[L #[x]]
def tp(a:Array X):X:=N "rcasesPat.tuple" #[A "⟨",L (mkSepArray a (A ",")),A "⟩"]
def pr(x:X):X:=N "rcasesPat.paren" #[A "(",x,A ")"]
def lo(x:X):X:=N "rcasesPatLo" #[x,L #[]]
def ro(a:Array X):X:=N "rintro" #[A "rintro",L (a.map fun x=>N "rintroPat.one" #[x]),L #[]]
def bt(p h:X):X:=N "obtain" #[A "obtain",L #[p],L #[],L #[A ":=",L #[h]]]
def isT(x:X):Bool:=x[0].isToken "⟨"&&x[1].getNumArgs>2
def ob(p:Array X)(h:X):X:=
 let n:=p.size
 F ((fo (n-1) (fun d al=>
  let m:=n-d
  if m>8 then al else
  let (r,a):=fo m (fun i (r,a)=>
   let x:=p[i]!
   let t:=V ("ζ"++toString i)
   let r1:=r.push (N "rcasesPat.one" #[t])
   if i+1==m&&d>0 then (r1,a.push (bt (pt (tp (p.extract i n))) t))
   else if x[1].getNumArgs==0&&x[0][0].getNumArgs==1&&isT x[0][0][0] then (r1,a.push (bt x[0] t))
   else (r.push (pr x),a)) (#[],#[])
  fo m (fun k al=>P (#[K "refine" (C (I ("e"++toString m++"_"++toString k)) #[h,G]),J "tacticTry_" (K "clear" (L #[h])),ro r]++a)::al) al)
  []).reverse++[N "rcases" #[A "rcases",L #[N "elimTarget" #[L #[],h]],L #[A "with",lo (pt (pr (lo (pt (tp p)))))]]])
def xr(w:String)(p:Array X):X:=
 let n:=p.size
 let o:=K w (B (U p))
 F ((fo (n-1) (fun d al=>
  let m:=n-d
  if m>8 then al else
  let u:=U (p.extract (m-1) n)
  let r:=if d==0 then p else (p.extract 0 (m-1)).push (if w=="exact" then Y (K w u) else u)
  fo m (fun k al=>
   let s:=fo k (fun _ s=>C (V "Exists") #[E "fun" #[A "fun",E "basicFun" #[L #[H],L #[],A "=>",s]]]) (fo (m-k-1) (fun _ s=>C (V "And") #[H,s]) H)
   P #[J "failIfSuccess" (J "failIfSuccess" (K "show" s)),F [K w (C (I ("i"++toString m++"_"++toString k)) r),o]]::al) al)
  []).reverse++[o])
def rr(r:X):X:=
 let x:=r[1]
 let f:=r[0].getNumArgs==0
 let g(l:String)(a:Array X):X:=J "withReducibleAndInstances" (K "refine" (C (I l) #[if a.isEmpty then x else C x a,G]))
 let l:=if f then "rwl" else "rwr"
 let i:=if f then "rwi" else "rwj"
 F [g l #[],g l #[H],g l #[H,H],g i #[],g i #[H],N "rewriteSeq" #[A "rewrite",O,N "rwRuleSeq" #[A "[",L #[r],A "]"],L #[]]]
def hw(z h:X)(t:Array X):X:=N "tacticHave__" #[A "have",E "letConfig" #[L #[]],E "letDecl" #[E "letIdDecl" #[E "letId" #[z],L #[],L t,A ":=",h]]]
def cs(h:X):X:=
 let k(x:X):X:=N "cases" #[A "cases",L #[N "elimTarget" #[L #[],x]],L #[],L #[]]
 let z:=V (h.getId.toString++"ζ")
 let s:=K "subst" (L #[z])
 F [K "exact" (C (I "ns") #[h]),K "exact" (C (I "sn") #[h]),K "exact" (C (I "ft") #[h]),K "exact" (C (I "tf") #[h]),
  P #[hw z (C (mkIdent `Option.some.inj) #[h]) #[],K "clear" (L #[h]),F [s,k z]],
  P #[hw z h #[E "typeSpec" #[A ":",.node .none (.mkSimple "term_=_") #[H,A "=",H]]],K "clear" (L #[h]),s],k (B h)]
def sm(s:String):X:=J "tacticTry_" (N "simp" #[A "simp",O,L #[],L #[A "only"],L #[A "[",L (mkSepArray ((s.splitOn " ").foldl (fun r x=>r.push (N "simpLemma" #[L #[],L #[],mkIdent x.toName])) #[]) (A ",")),A "]"],L #[]])
def om:X:=
 let g(f:String)(n:Nat)(a:Array X)(al:List X):=fo n (fun i al=>J "withReducible" (K "exact" (if a.isEmpty then I (f++toString i) else C (I (f++toString i)) a))::al) al
 let y:=Y as
 let z:=Y (F [as,W "decide"])
 F (as::(g "c" 8 #[y,y,z] (g "b" 31 #[y,z] (g "a" 33 #[y] (g "z" 6 #[] [])))).reverse++[W "lia",N "omega" #[A "omega",N "optConfig" #[L #[N "configItem" #[N "valConfigItem" #[A "(",V "splitDisjunctions",A ":=",V "true",A ")"]]]]]])

end Mac
open Mac (ns sn ft tf)
local macro_rules (kind:=Lean.Parser.Tactic.rcases)|s=>let m:=s[2][1][0][0];if s[1].getNumArgs==1&&s[1][0][0].getNumArgs==0&&m.getNumArgs==1&&s[2][1][1].getNumArgs==0&&Mac.isT m[0] then pure (Mac.ob m[0][1].getSepArgs s[1][0][1]) else Lean.Macro.throwUnsupported
local macro_rules (kind:=Lean.Parser.Tactic.obtain)|s=>let m:=s[1][0][0];if m.getNumArgs==1&&s[2].getNumArgs==0&&s[3][1].getNumArgs==1&&Mac.isT m[0] then pure (Mac.ob m[0][1].getSepArgs s[3][1][0]) else Lean.Macro.throwUnsupported
local macro_rules (kind:=Lean.Parser.Tactic.rintro)|s=>if s[2].getNumArgs==0&&s[1].getArgs.any (fun p=>Mac.isT p[0]) then pure (Mac.P (s[1].getArgs.foldl (fun a p=>if Mac.isT p[0] then let z:=Mac.V "ζ";(a.push (Mac.K "intro" (Mac.L #[z]))).push (Mac.bt (Mac.pt p[0]) z) else a.push (Mac.ro #[p[0]])) #[])) else Lean.Macro.throwUnsupported
local macro_rules (kind:=Lean.Parser.Tactic.cases)|s=>let h:=s[1][0][1];if s[1].getNumArgs==1&&s[1][0][0].getNumArgs==0&&s[2].getNumArgs==0&&s[3].getNumArgs==0&&h.isIdent then pure (Mac.cs h) else Lean.Macro.throwUnsupported
local macro_rules (kind:=Lean.Parser.Tactic.exact)|s=>if Mac.isT s[1] then pure (Mac.xr "exact" s[1][1].getSepArgs) else Lean.Macro.throwUnsupported
local macro_rules (kind:=Lean.Parser.Tactic.refine)|s=>if Mac.isT s[1] then pure (Mac.xr "refine" s[1][1].getSepArgs) else Lean.Macro.throwUnsupported
local macro_rules (kind:=Lean.Parser.Tactic.rwSeq)|s=>if s[1][0].getNumArgs==0&&s[3].getNumArgs==0 then pure (Mac.P ((s[2][1].getSepArgs.map Mac.rr).push (Mac.J "tacticTry_" (Mac.J "withReducible" (Mac.N "tacticRfl" #[Mac.A "rfl"]))))) else Lean.Macro.throwUnsupported
local macro_rules (kind:=Lean.Parser.Tactic.omega)|s=>if s[1][0].getNumArgs==0 then pure Mac.om else Lean.Macro.throwUnsupported
set_option genSizeOf false
set_option genInjectivity false
noncomputable section
namespace Mac
theorem gsm{α:Type _}{l:List α}{i:Nat}{a:α}(h:l[i]?=some a):∃ h:i<l.length,l[i]=a:=List.getElem?_eq_some_iff.mp h
theorem lmp{α:Type _}{β:Type _}{as:List α}(f:α→β):(as.map f).length=as.length:=List.length_map f
theorem geg{α:Type _}{l:List α}{i:Nat}(h:i<l.length):l[i]?=some l[i]:=List.getElem?_eq_getElem h
theorem gmp{α:Type _}{β:Type _}{f:α→β}{l:List α}{i:Nat}:(l.map f)[i]?=Option.map f l[i]?:=List.getElem?_map
theorem tsg{α:Type _}{l:List α}{i:Nat}(h:i<l.length):l.take (i+1)=l.take i++[l[i]]:=List.take_succ_eq_append_getElem h
theorem mog{α:Type _}{l:List α}{i:Nat}{a:α}(h:l[i]?=some a):a∈l:=List.mem_of_getElem? h
end Mac
open Mac (gsm lmp geg gmp tsg mog)
set_option tactic.hygienic false
namespace MineS
open PySem PySem.W PyProof.Rows
set_option genCtorIdx false in
structure SE where
 prog:Program
 w:World
 A:Around
 E:Value→Shared→Prop
 s:Shared
 κ:SortKind
 f:Keyed→Int
 S:Keyed→Prop
 lt:∀ x y,S x→S y→∀ (E:Value→Shared→Prop) (Q:Bool→Shared→Prop),Q (decide (f x<f y)) s→wpAny (model prog w) A (keyLt' κ x.1 y.1) Q E s
abbrev SM:=StateT SortSt Sem
def SE.W(e:SE){α:Type}(x:SM α)(Q:α→SortSt→Prop)(st:SortSt):Prop:=wpS (model e.prog e.w) e.A e.E e.s x Q st
noncomputable def f0c:Bool→Keyed→Array Keyed→Nat→Nat→Nat→SM (Option Nat):=sortPriv% PySem.Builtin.gallop
noncomputable def g0y(left:Bool)(key:Keyed)(arr:Array Keyed)(base i:Nat):SM (Option Bool):=do
 let x←elem' arr (base+i)
 if left then lt' x key else return (← lt' key x).map (!·)
inductive LQ{β σ:Type} (G:β→Prop) (P:σ→Prop):Option β×σ→Prop
 | fin {g r}:G g→LQ G P (some g,r)
 | go {r}:P r→LQ G P (none,r)
inductive LT{β σ:Type} (G:β→Prop) (P R:σ→Prop):ForInStep (Option β×σ)→Prop
 | fin {g r}:G g→LT G P R (.done (some g,r))
 | brk {r}:P r→LT G P R (.done (none,r))
 | go {r}:R r→LT G P R (.yield (none,r))
section
variable {e:SE}{α β:Type}{Q:α→SortSt→Prop}{st:SortSt}
theorem a0e{a:α}(h:Q a st):e.W (pure a) Q st:=wpS_pure h
theorem g0x{m:SM β}{k:β→SM α}(h:e.W m (fun b st'=>e.W (k b) Q st') st):e.W (m >>= k) Q st:=wpS_bind h
theorem o0p{m:SM α}{Q':α→SortSt→Prop}(h:e.W m Q st)(q:∀ a st',Q a st'→Q' a st'):e.W m Q' st:=wpS_mono h q
theorem b0y{arr:Array Keyed}{i:Nat}{x:Keyed}{k:Keyed→SM α}(hx:arr[i]?=some x)(h:e.W (k x) Q st):e.W (elem' arr i >>= k) Q st:=by
 rw[elem'_eq,hx];exact g0x (a0e h)
theorem n0u{k:SortSt→SM α}(h:e.W (k st) Q st):e.W (MonadState.get >>= k) Q st:=wpS_bind (wpS_get h)
theorem n0v{g:SortSt→SortSt}{k:PUnit→SM α}(h:e.W (k ⟨⟩) Q (g st)):e.W (modify g >>= k) Q st:=wpS_bind (wpS_modify h)
theorem r1t{st':SortSt}{k:PUnit→SM α}(h:e.W (k ⟨⟩) Q st'):e.W (set st' >>= k) Q st:=n0v (g:=fun U=>st') h
theorem o0q{t:String}{k:PUnit→SM α}(h:e.W (k ⟨⟩) Q st):e.W (liftM (PySem.rule t) >>= k) Q st:=wpS_bind (wpS_lift (wpAny_rule ⟨rfl,h⟩))
theorem p1b{x y:Keyed}{k:Option Bool→SM α}(hk:kindOf st=e.κ)(hx:e.S x)(hy:e.S y)(h:e.W (k (some (decide (e.f x<e.f y)))) Q st):e.W (lt' x y >>= k) Q st:=by
 rw[lt'_eq];refine g0x (n0u ?_);rw[hk];exact wpS_bind (wpS_lift (wpAny_attempt (e.lt x y hx hy _ _ ⟨rfl,wpS_pure h⟩)))
theorem r1p{i j:Nat}{x y:Keyed}{k:Option Bool→SM α}(hk:kindOf st=e.κ)(hi:(arrOf st)[i]?=some x)(hj:(arrOf st)[j]?=some y)(hx:e.S x)(hy:e.S y)(h:e.W (k (some (decide (e.f x<e.f y)))) Q st):e.W (ltAt' i j >>= k) Q st:=by
 rw[ltAt'_eq];refine g0x (n0u (b0y hi (b0y hj ?_)));have:=p1b (Q:=fun b st'=>e.W (k b) Q st') (k:=Pure.pure) hk hx hy (a0e h);rw[bind_pure]at this;exact this
theorem d0d{p:Prop}[Decidable p]{t u:SM α}(h1:p→e.W t Q st)(h2:¬p→e.W u Q st):e.W (if p then t else u) Q st:=by
 by_cases z:p
 ·rw[if_pos z];exact h1 z
 ·rw[if_neg z];exact h2 z
theorem e0w{x y:Nat}{t u:SM α}(h1:x=y→e.W t Q st)(h2:x≠y→e.W u Q st):e.W (if (x == y)=true then t else u) Q st:=
 d0d (fun z=>h1 (eq_of_beq z)) fun z=>h2 fun w=>z (w▸beq_self_eq_true x)
theorem s0u{b:Bool}{t u:SM α}(h1:b=true→e.W t Q st)(h2:b=false→e.W u Q st):e.W (if b=true then t else u) Q st:=
 d0d h1 fun z=>h2 (Bool.eq_false_iff.mpr z)
theorem LT.imp{β σ:Type}{G G':β→Prop}{P R P' R':σ→Prop}(g:∀ r,G r→G' r)(p:∀ r,P r→P' r)(q:∀ r,R r→R' r){t:ForInStep (Option β×σ)}(h:LT G P R t):LT G' P' R' t:=by
 cases h with
 | fin h=>exact .fin (g _ h)
 | brk h=>exact .brk (p _ h)
 | go h=>exact .go (q _ h)
theorem n0d{γ σ:Type}{G:γ→SortSt→Prop}{P:σ→SortSt→Prop}{a N:Nat}{body:Nat→Option γ×σ→SM (ForInStep (Option γ×σ))}{s0:σ}{k:Option γ×σ→SM α}(ha:a≤N)(I:Nat→σ→SortSt→Prop)(i:I a s0 st)
  (step:∀ x r st',a≤x→x<N→I x r st'→e.W (body x (none,r)) (fun t st2=>LT (fun g=>G g st2) (fun r=>P r st2) (fun r=>I (x+1) r st2) t) st') (fin:∀ r st',I N r st'→P r st')
  (q1:∀ g r st',G g st'→e.W (k (some g,r)) Q st') (q2:∀ r st',P r st'→e.W (k (none,r)) Q st'):e.W (forIn [a:N] ((none,s0):Option γ×σ) body >>= k) Q st:=by
 refine wpS_bind (wpS_mono (wpS_forRange (fun x c st'=>LQ (fun U=>False) (fun r=>I x r st') c) (Q:=fun c st'=>LQ (fun g=>G g st') (fun r=>P r st') c) ?_ ?_ (.go i)) ?_)
 ·intro x c st' ax hx h;cases h with
  | fin hf=>exact False.elim hf
  | go hi=>
   refine wpS_mono (step x _ st' ax hx hi) fun t st2 z=>?_;cases z with
   | fin g=>exact .fin g
   | brk g=>exact .go g
   | go g=>exact .go g
 ·intro c st' h;cases h with
  | fin hf=>exact False.elim hf
  | go hi=>exact .go (fin _ _ (by rw[Nat.max_eq_right ha]at hi;exact hi))
 ·intro c st' h;cases h with
  | fin g=>exact q1 _ _ _ g
  | go g=>exact q2 _ _ g
theorem q0n{γ σ:Type}{G:γ→Prop}{P:σ→Prop}{a N:Nat}{body:Nat→Option γ×σ→SM (ForInStep (Option γ×σ))}{s0:σ}{k:Option γ×σ→SM α}(ha:a≤N)(J:SortSt→Prop)(I:Nat→σ→Prop)(j:J st)(i:I a s0)
  (step:∀ x r st',a≤x→x<N→J st'→I x r→e.W (body x (none,r)) (fun t st2=>J st2∧LT G P (I (x+1)) t) st') (fin:∀ r,I N r→P r)
  (q1:∀ g r st',J st'→G g→e.W (k (some g,r)) Q st') (q2:∀ r st',J st'→P r→e.W (k (none,r)) Q st'):e.W (forIn [a:N] ((none,s0):Option γ×σ) body >>= k) Q st:=
 n0d (G:=fun g st=>J st∧G g) (P:=fun r st=>J st∧P r) ha (fun x r st=>J st∧I x r) ⟨j,i⟩ (fun x r st' h1 h2 h=>o0p (step x r st' h1 h2 h.1 h.2) fun U U z=>z.2.imp (fun U=>.intro z.1) (fun U=>.intro z.1) fun U=>.intro z.1)
  (fun r U h=>⟨h.1,fin r h.2⟩) (fun g r st' h=>q1 g r st' h.1 h.2) fun r st' h=>q2 r st' h.1 h.2
theorem k0g{γ σ:Type}{G:γ→Prop}{P:σ→Prop}{N:Nat}{body:Nat→Option γ×σ→SM (ForInStep (Option γ×σ))}{s0:σ}{k:Option γ×σ→SM α}(J:SortSt→Prop)(I:Nat→σ→Prop)(j:J st)(i:I 0 s0)
  (step:∀ x r st',x<N→J st'→I x r→e.W (body x (none,r)) (fun t st2=>J st2∧LT G P (I (x+1)) t) st') (fin:∀ r,I N r→P r)
  (q1:∀ g r st',J st'→G g→e.W (k (some g,r)) Q st') (q2:∀ r st',J st'→P r→e.W (k (none,r)) Q st'):e.W (forIn [0:N] ((none,s0):Option γ×σ) body >>= k) Q st:=
 q0n (Nat.zero_le N) J I j i (fun x r st' U=>step x r st') fin q1 q2
end
abbrev G3:=Option (Option Nat)×Nat×Nat
noncomputable def gL(q:Nat→SM (Option Bool))(c:Bool→Bool)(M l o:Nat):SM (ForInStep G3):=
 if o≥M then pure (.done (none,l,o)) else do
  let x←q o
  match x with
  | some y=>if c y=true then pure (.done (none,l,o)) else pure (.yield (none,o,2*o+1))
  | x=>pure (.done (some none,l,o))
noncomputable def gM(q:Nat→SM (Option Bool))(lo hi:Nat):SM (ForInStep G3):=
 if lo≥hi then pure (.done (none,lo,hi)) else do
  let x←q (lo+(hi-lo) / 2)
  match x with
  | some y=>if y=true then pure (.yield (none,lo+(hi-lo) / 2+1,hi)) else pure (.yield (none,lo,lo+(hi-lo) / 2))
  | x=>pure (.done (some none,lo,hi))
noncomputable def gE(q:Nat→SM (Option Bool))(n lo hi:Nat):SM (Option Nat):=do
 let c←forIn [0:n] ((none,lo,hi):G3) fun U c=>gM q c.2.1 c.2.2
 Break.runK c.1 (fun U=>pure (some c.2.2)) fun r=>pure r
noncomputable def gLs(q:Nat→SM (Option Bool))(c:Bool→Bool)(n M:Nat)(k:Nat→Nat→SM (Option Nat)):SM (Option Nat):=do
 let c←forIn [0:n] ((none,0,1):G3) fun U s=>gL q c M s.2.1 s.2.2
 Break.runK c.1 (fun U=>k c.2.1 c.2.2) fun r=>pure r
theorem y0b(left:Bool)(key:Keyed)(arr:Array Keyed)(base n hint:Nat):f0c left key arr base n hint=(do
 let x←g0y left key arr base hint
 match x with
 | some right=>
  if right=true then
   (gLs (fun o=>g0y left key arr base (hint+o)) (fun y=>!y) n (n-hint) fun l o=>gE (g0y left key arr base) n (hint+l+1) (hint+min o (n-hint)))
  else
   gLs (fun o=>g0y left key arr base (hint-o)) (fun y=>y) n (hint+1) fun l o=>gE (g0y left key arr base) n (hint+1-min o (hint+1)) (hint-l)
 | x=>pure none):=rfl
noncomputable def bey(f:Keyed→Int)(left:Bool)(key x:Keyed):Bool:=if left then decide (f x<f key) else !decide (f key<f x)
theorem e1b{f:Keyed→Int}{left:Bool}{key x y:Keyed}(h:f x≤f y)(b:bey f left key y=true):bey f left key x=true:=by
 cases left with
 | true=>exact decide_eq_true (Int.lt_of_le_of_lt h (of_decide_eq_true b))
 | false=>exact(Bool.not_eq_true' _).mpr (decide_eq_false fun z=>of_decide_eq_false ((Bool.not_eq_true' _).mp b) (Int.lt_of_lt_of_le z h))
theorem n1k{l h:Nat}(z:l<h):l≤l+(h-l) / 2∧l+(h-l) / 2<h:=⟨Nat.le_add_right _ _,Nat.add_lt_of_lt_sub' (Nat.div_lt_self (Nat.sub_pos_of_lt z) (Nat.lt_succ_self 1))⟩
section
variable {e:SE}{α:Type}{Q:α→SortSt→Prop}{st:SortSt}
theorem d1l{left:Bool}{key x:Keyed}{arr:Array Keyed}{base i:Nat}{k:Option Bool→SM α}(hk:kindOf st=e.κ)(hkey:e.S key)(hx:arr[base+i]?=some x)(hS:e.S x)(h:e.W (k (some (bey e.f left key x))) Q st):e.W (g0y left key arr base i >>= k) Q st:=by
 unfold g0y;refine g0x (b0y hx ?_);cases left with
 | true=>
  have:=p1b (Q:=fun b st'=>e.W (k b) Q st') (k:=Pure.pure) hk hS hkey (a0e h);rw[bind_pure]at this;exact this
 | false=>exact p1b hk hkey hS (a0e h)
theorem x0a{q:Nat→SM (Option Bool)}{p:Nat→Bool}{c:Bool→Bool}{n M:Nat}{k:Nat→Nat→SM (Option Nat)}{Q:Option Nat→SortSt→Prop}(hq:∀ o,o<M→∀ (k:Option Bool→SM (ForInStep G3)) Q,e.W (k (some (p o))) Q st→e.W (q o >>= k) Q st)(hc:c (p 0)=false)(h0:0<M)(hM:M≤n)
  (h:∀ l o,l<M→c (p l)=false→l<o→(o<M→c (p o)=true)→e.W (k l o) Q st):e.W (gLs q c n M k) Q st:=by
 refine k0g (G:=fun U=>False) (P:=fun r=>r.1<M∧c (p r.1)=false∧r.1<r.2∧(r.2<M→c (p r.2)=true)) (fun st'=>st'=st) (fun x r=>r.1<M∧c (p r.1)=false∧r.1<r.2∧x<r.2) rfl (Mac.i4_0 h0 hc Nat.zero_lt_one Nat.zero_lt_one) ?_
  (fun r h=>(Mac.i4_0 h.1 h.2.1 h.2.2.1 (fun z=>absurd (Nat.lt_of_lt_of_le z hM) (Nat.not_lt_of_ge (Nat.le_of_lt h.2.2.2))))) (fun U U U U h=>False.elim h) fun r st' z hr=>z▸h r.1 r.2 hr.1 hr.2.1 hr.2.2.1 hr.2.2.2
 intro x r st' hx z hr;clear h;subst z;refine d0d (fun z=>a0e ⟨rfl,.brk (Mac.i4_0 hr.1 hr.2.1 hr.2.2.1 (fun y=>absurd y (Nat.not_lt_of_ge z)))⟩) fun z=>hq r.2 (Nat.lt_of_not_ge z) _ _ (s0u (fun y=>a0e ⟨rfl,.brk (Mac.i4_0 hr.1 hr.2.1 hr.2.2.1 (fun U=>y))⟩) fun y=>a0e ⟨rfl,.go (Mac.i4_0 (Nat.lt_of_not_ge z) y ?_ ?_)⟩)
 ·exact Nat.lt_succ_of_le (Nat.le_mul_of_pos_left _ Nat.zero_lt_two)
 ·exact Nat.succ_lt_succ (Nat.lt_of_lt_of_le hr.2.2.2 (Nat.le_mul_of_pos_left _ Nat.zero_lt_two))
theorem x0c{q:Nat→SM (Option Bool)}{p:Nat→Bool}{n lo hi:Nat}{Q:Option Nat→SortSt→Prop}(hq:∀ o,o<n→∀ (k:Option Bool→SM (ForInStep G3)) Q,e.W (k (some (p o))) Q st→e.W (q o >>= k) Q st)(up:∀ i j,i≤j→j<n→p j=true→p i=true)
  (h1:lo≤hi) (h2:hi≤n) (h3:∀ i,i<lo→p i=true) (h4:∀ i,hi≤i→i<n→p i=false) (h:∀ k,k≤n→(∀ i,i<k→p i=true)→(∀ i,k≤i→i<n→p i=false)→Q (some k) st):e.W (gE q n lo hi) Q st:=by
 refine k0g (G:=fun U=>False) (P:=fun r=>r.1=r.2∧r.2≤n∧(∀ i,i<r.1→p i=true)∧(∀ i,r.2≤i→i<n→p i=false)) (fun st'=>st'=st) (fun x r=>(r.1≤r.2∧r.2≤n∧(∀ i,i<r.1→p i=true)∧(∀ i,r.2≤i→i<n→p i=false))∧r.2+x≤n+r.1) rfl ⟨(Mac.i4_0 h1 h2 h3 h4),Nat.le_trans h2 (Nat.le_add_right _ _)⟩ ?_
  (fun r h=>⟨Nat.le_antisymm h.1.1 (Nat.le_of_add_le_add_left (Nat.add_comm n r.2▸h.2)),h.1.2⟩) (fun U U U U h=>False.elim h) fun r st' z hr=>z▸a0e (h r.2 hr.2.1 (hr.1▸hr.2.2.1) hr.2.2.2)
 intro x r st' hx z hr;clear h;subst z;refine d0d (fun z=>a0e ⟨rfl,.brk ⟨Nat.le_antisymm hr.1.1 z,hr.1.2⟩⟩) fun z=>?_;obtain⟨m1,m2⟩:=n1k (Nat.lt_of_not_ge z);generalize r.1+(r.2-r.1) / 2=m at m1 m2 ⊢;have mn:=Nat.lt_of_lt_of_le m2 hr.1.2.1;refine hq m mn _ _ (s0u (fun y=>a0e ⟨rfl,.go ⟨(Mac.i4_0 m2 hr.1.2.1 (fun i hi=>up i m (Nat.le_of_lt_succ hi) mn y) hr.1.2.2.2),?_⟩⟩) fun y=>a0e ⟨rfl,.go ⟨(Mac.i4_0 m1 (Nat.le_of_lt mn) hr.1.2.2.1 (fun i hi hn=>?_)),?_⟩⟩)
 ·exact Nat.succ_le_succ (Nat.le_trans hr.2 (Nat.add_le_add_left m1 n))
 ·cases z:p i with
  | false=>rfl
  | true=>exact absurd (up m i hi hn z) (by rw[y];exact Bool.false_ne_true)
 ·exact Nat.lt_of_lt_of_le (Nat.add_lt_add_right m2 x) hr.2
theorem g1j{left:Bool}{key:Keyed}{arr:Array Keyed}{base n hint:Nat}{g:Nat→Keyed}{Q:Option Nat→SortSt→Prop}(hk:kindOf st=e.κ)(hkey:e.S key)(hg:∀ i,i<n→arr[base+i]?=some (g i)∧e.S (g i))(hh:hint<n)
  (mono:∀ i j,i≤j→j<n→e.f (g i)≤e.f (g j)) (h:∀ k,k≤n→(∀ i,i<k→bey e.f left key (g i)=true)→(∀ i,k≤i→i<n→bey e.f left key (g i)=false)→Q (some k) st):e.W (f0c left key arr base n hint) Q st:=by
 have up:∀ i j,i≤j→j<n→bey e.f left key (g j)=true→bey e.f left key (g i)=true:=fun i j hij hj=>e1b (mono i j hij hj);have dn:∀ i j,i≤j→j<n→bey e.f left key (g i)=false→bey e.f left key (g j)=false:=fun i j hij hj b=>by
  cases z:bey e.f left key (g j) with
  | false=>rfl
  | true=>exact absurd (up i j hij hj z) (by rw[b];exact Bool.false_ne_true)
 rw[y0b];refine d1l hk hkey (hg hint hh).1 (hg hint hh).2 (s0u (fun hb=>?_) fun hb=>?_)
 ·refine x0a (p:=fun o=>bey e.f left key (g (hint+o))) (fun o ho k Q=>d1l hk hkey (hg _ (Nat.add_lt_of_lt_sub' ho)).1 (hg _ (Nat.add_lt_of_lt_sub' ho)).2) (by rw[Nat.add_zero,hb];rfl) (Nat.sub_pos_of_lt hh) (Nat.sub_le n hint) fun l o l1 l2 l3 l4=>?_;have l1':=Nat.add_lt_of_lt_sub' l1;refine x0c (fun o ho k Q=>d1l hk hkey (hg o ho).1 (hg o ho).2) up (Nat.add_lt_add_left (Nat.lt_min.mpr ⟨l3,l1⟩) hint) (Nat.le_trans (Nat.add_le_add_left (Nat.min_le_right _ _) hint) (Nat.le_of_eq (Nat.add_sub_cancel' (Nat.le_of_lt hh)))) (fun i hi=>up i _ (Nat.le_of_lt_succ hi) l1' ((Bool.not_eq_false' ..).mp l2)) (fun i hi hn=>?_) h;rcases Nat.lt_or_ge o (n-hint) with z | z
  ·rw[Nat.min_eq_left (Nat.le_of_lt z)]at hi;exact dn _ i hi hn ((Bool.not_eq_true' ..).mp (l4 z))
  ·rw[Nat.min_eq_right z,Nat.add_sub_cancel' (Nat.le_of_lt hh)]at hi;exact absurd hn (Nat.not_lt_of_ge hi)
 ·refine x0a (p:=fun o=>bey e.f left key (g (hint-o))) (fun o ho k Q=>d1l hk hkey (hg _ (Nat.lt_of_le_of_lt (Nat.sub_le _ _) hh)).1 (hg _ (Nat.lt_of_le_of_lt (Nat.sub_le _ _) hh)).2) (c:=fun y=>y) (by rw[Nat.sub_zero];exact hb) (Nat.succ_pos _) hh fun l o l1 l2 l3 l4=>?_;refine x0c (fun o ho k Q=>d1l hk hkey (hg o ho).1 (hg o ho).2) up ?_ (Nat.le_trans (Nat.sub_le _ _) (Nat.le_of_lt hh)) (fun i hi=>?_) (fun i hi hn=>dn _ i hi hn l2) h
  ·rcases Nat.lt_or_ge o (hint+1) with z | z
   ·rw[Nat.min_eq_left (Nat.le_of_lt z),←Nat.succ_sub_succ hint l];exact Nat.sub_le_sub_left l3 (hint+1)
   ·rw[Nat.min_eq_right z,Nat.sub_self];exact Nat.zero_le _
  ·rcases Nat.lt_or_ge o (hint+1) with z | z
   ·rw[Nat.min_eq_left (Nat.le_of_lt z)]at hi;exact up i _ (Nat.le_sub_of_add_le (Nat.le_of_lt_succ (Nat.add_lt_of_lt_sub hi))) (Nat.lt_of_le_of_lt (Nat.sub_le _ _) hh) (l4 z)
   ·rw[Nat.min_eq_right z,Nat.sub_self]at hi;exact absurd hi (Nat.not_lt_zero _)
end
def SL(f:Keyed→Int)(l:List Keyed):Prop:=l.Pairwise fun x y=>f x≤f y
theorem SL.app{f:Keyed→Int}{l r:List Keyed}:SL f (l++r)↔SL f l∧SL f r∧∀ x∈l,∀ y∈r,f x≤f y:=pairwise_append
structure MI(f:Keyed→Int)(tot out ra rb:List Keyed):Prop where
 p:(out++(ra++rb)).Perm tot
 so:SL f out
 sa:SL f ra
 sb:SL f rb
 la:∀ x∈out,∀ y∈ra,f x≤f y
 lb:∀ x∈out,∀ y∈rb,f x≤f y
section
variable {f:Keyed→Int}{tot out ra rb c:List Keyed}{x y:Keyed}
theorem MI.swap(h:MI f tot out ra rb):MI f tot out rb ra:=⟨(List.Perm.append_left _ List.perm_append_comm).trans h.p,h.so,h.sb,h.sa,h.lb,h.la⟩
theorem MI.takeA(h:MI f tot out (c++ra) rb)(hc:∀ x∈c,∀ y∈rb,f x≤f y):MI f tot (out++c) ra rb:=by
 obtain⟨s1,s2,s3⟩:=SL.app.mp h.sa;refine⟨?_,SL.app.mpr (Mac.i3_0 h.so s1 (fun x hx y hy=>h.la x hx y (mem_append.mpr (.inl hy)))),s2,h.sb,fun x hx y hy=>?_,fun x hx y hy=>?_⟩
 ·have:=h.p;rw[append_assoc]at this;rw[append_assoc];exact this
 ·rcases mem_append.mp hx with hx | hx
  ·exact h.la x hx y (mem_append.mpr (.inr hy))
  ·exact s3 x hx y hy
 ·rcases mem_append.mp hx with hx | hx
  ·exact h.lb x hx y hy
  ·exact hc x hx y hy
theorem MI.takeB(h:MI f tot out ra (c++rb))(hc:∀ x∈c,∀ y∈ra,f x≤f y):MI f tot (out++c) ra rb:=(h.swap.takeA hc).swap
theorem MI.oneA(h:MI f tot out (x::ra) rb)(hc:∀ y∈rb,f x≤f y):MI f tot (out++[x]) ra rb:=MI.takeA (c:=[x]) h fun z hz=>by rw[mem_singleton]at hz;clear h;subst hz;exact hc
theorem MI.oneB(h:MI f tot out ra (x::rb))(hc:∀ y∈ra,f x≤f y):MI f tot (out++[x]) ra rb:=(h.swap.oneA hc).swap
theorem SL.first{l:List Keyed}(h:SL f (x::l)):∀ y∈x::l,f x≤f y:=fun y hy=>by
 rcases mem_cons.mp hy with rfl | hy
 ·exact Int.le_refl _
 ·exact(pairwise_cons.mp h).1 y hy
theorem SL.last{l:List Keyed}(h:SL f (l++[x])):∀ y∈l++[x],f y≤f x:=fun y hy=>by
 rcases mem_append.mp hy with hy | hy
 ·exact(SL.app.mp h).2.2 y hy x (.head _)
 ·rw[mem_singleton.mp hy];exact Int.le_refl _
theorem MI.headA(h:MI f tot out (x::ra) rb):∀ y∈x::ra,f x≤f y:=SL.first h.sa
theorem MI.headB(h:MI f tot out ra (x::rb)):∀ y∈x::rb,f x≤f y:=h.swap.headA
theorem MI.fin(h:MI f tot out ra []):SL f (out++ra)∧(out++ra).Perm tot:=⟨SL.app.mpr ⟨h.so,h.sa,h.la⟩,by have:=h.p;rw[append_nil]at this;exact this⟩
theorem MI.fin'(h:MI f tot out [] rb):SL f (out++rb)∧(out++rb).Perm tot:=h.swap.fin
theorem MI.last(h:MI f tot out [x] rb)(hx:∀ y∈rb,f y≤f x):SL f (out++rb++[x])∧(out++rb++[x]).Perm tot:=
 (MI.takeB (c:=rb) (rb:=[]) (by rw[append_nil];exact h) fun y hy z hz=>by rw[mem_singleton]at hz;clear h;subst hz;exact hx y hy).fin
theorem SL.rev{l:List Keyed}(h:SL (fun x=>-f x) l):SL f l.reverse:=by
 unfold SL at h ⊢;rw[pairwise_reverse];exact h.imp fun {a b} z=>Int.neg_le_neg_iff.mp z
theorem SL.neg{l:List Keyed}(h:SL f l):SL (fun x=>-f x) l.reverse:=by
 unfold SL at h ⊢;rw[pairwise_reverse];exact h.imp fun {a b} z=>Int.neg_le_neg z
end
section
variable {α:Type}{a:Array α}
theorem g0h(i:Nat):(a.extract i a.size).toList=a.toList.drop i:=by
 rw[Array.toList_extract,extract_eq_take_drop,take_of_length_le (by rw[length_drop,Array.length_toList];exact Nat.le_refl _)]
theorem p0j(i j:Nat):(a.extract i j).toList=(a.toList.drop i).take (j-i):=by
 rw[Array.toList_extract,extract_eq_take_drop]
theorem b0g{i:Nat}(h:i<a.size):∃ x,a[i]?=some x∧x∈a.toList∧a.toList.drop i=x::a.toList.drop (i+1):=by
 have h':i<a.toList.length:=by rw[Array.length_toList];exact h
 refine⟨a.toList[i],?_,getElem_mem h',drop_eq_getElem_cons h'⟩;rw[← Array.getElem?_toList];exact geg h'
theorem k0w{i:Nat}{x:α}(h:a[i]?=some x):a.toList.drop i=x::a.toList.drop (i+1):=by
 rw[← Array.getElem?_toList]at h;obtain⟨l,e⟩:=gsm h;rw[← e];exact drop_eq_getElem_cons l
theorem e0l{i:Nat}{x:α}(h:a[i]?=some x):(a.toList.take (i+1)).reverse=x::(a.toList.take i).reverse:=by
 rw[← Array.getElem?_toList]at h;rw[List.take_succ,h,reverse_append];rfl
end
section
variable {e:SE}{α:Type}{Q:α→SortSt→Prop}{st:SortSt}
theorem e0x{left:Bool}{key:Keyed}{arr:Array Keyed}{base n hint:Nat}{seg:List Keyed}{k:Option Nat→SM α}(hk:kindOf st=e.κ)(hkey:e.S key)(hn:base+n≤arr.size)(hS:∀ x∈arr.toList,e.S x)(hh:hint<n)
  (hseg:(arr.toList.drop base).take n=seg) (so:SL e.f seg) (h:∀ i,i≤n→(∀ x∈seg.take i,bey e.f left key x=true)→(∀ x∈seg.drop i,bey e.f left key x=false)→e.W (k (some i)) Q st):e.W (f0c left key arr base n hint >>= k) Q st:=by
 have hlen:seg.length=n:=by rw[← hseg,length_take,length_drop,Array.length_toList,Nat.min_eq_left (Nat.le_sub_of_add_le' hn)]
 have hgd:∀ i (hi:i<seg.length),seg.getD i key=seg[i]:=fun i hi=>by rw[List.getD_eq_getElem?_getD,geg hi,Option.getD_some]
 have hat:∀ i,i<n→arr[base+i]?=some (seg.getD i key):=fun i hi=>by
  have hi':i<seg.length:=hlen.symm▸hi;rw[← Array.getElem?_toList,hgd i hi',←geg hi',←hseg,getElem?_take_of_lt hi,getElem?_drop]
 refine g0x (g1j hk hkey (g:=fun i=>seg.getD i key) (fun i hi=>⟨hat i hi,hS _ ?_⟩) hh (fun i j hij hj=>?_) fun k hkn h1 h2=>h k hkn (fun x hx=>?_) fun x hx=>?_)
 ·have e:=hat i hi;rw[← Array.getElem?_toList]at e;exact mog e
 ·have hj':j<seg.length:=hlen.symm▸hj;rcases Nat.lt_or_eq_of_le hij with l | l
  ·rw[hgd i (Nat.lt_trans l hj'),hgd j hj'];exact pairwise_iff_getElem.mp so i j _ hj' l
  ·exact l▸Int.le_refl _
 ·obtain⟨i,hi,rfl⟩:=mem_iff_getElem.mp hx;rw[length_take]at hi;rw[getElem_take,←hgd i (Nat.lt_of_lt_of_le hi (Nat.min_le_right _ _))];exact h1 i (Nat.lt_of_lt_of_le hi (Nat.min_le_left _ _))
 ·obtain⟨i,hi,rfl⟩:=mem_iff_getElem.mp hx;rw[length_drop]at hi;have hi':=Nat.add_lt_of_lt_sub' hi;rw[List.getElem_drop,←hgd (k+i) hi'];exact h2 (k+i) (Nat.le_add_right _ _) (hlen▸hi')
end
def LK(st st':SortSt):Prop:=kindOf st'=kindOf st∧arrOf st'=arrOf st∧pendingOf st'=pendingOf st∧failedOf st'=failedOf st
theorem LK.refl(st:SortSt):LK st st:=(Mac.i4_0 rfl rfl rfl rfl)
noncomputable abbrev m0r(st:SortSt)(g:Nat):SortSt:=SortSt.mk' (kindOf st) (arrOf st) (pendingOf st) g (failedOf st)
theorem LK.set{st st':SortSt}(h:LK st st')(g:Nat):LK st (m0r st' g):=h
noncomputable def c0x:Nat→SM Unit:=sortPriv% PySem.Builtin.setMinGallop
theorem x0d{e:SE}{α:Type}{Q:α→SortSt→Prop}{st:SortSt}{g:Nat}{k:Unit→SM α}(h:e.W (k ()) Q (m0r st g)):e.W (c0x g >>= k) Q st:=n0v (g:=fun s=>m0r s g) h
theorem t0f{f:Keyed→Int}{key x:Keyed}{left:Bool}(h:bey f left key x=true):f x≤f key:=by
 cases left with
 | true=>exact Int.le_of_lt (of_decide_eq_true h)
 | false=>exact Int.not_lt.mp (of_decide_eq_false ((Bool.not_eq_true' _).mp h))
theorem t0e{f:Keyed→Int}{key x:Keyed}{left:Bool}(h:bey f left key x=false):f key≤f x:=by
 cases left with
 | true=>exact Int.not_lt.mp (of_decide_eq_false h)
 | false=>exact Int.le_of_lt (of_decide_eq_true ((Bool.not_eq_false' ..).mp h))
noncomputable def p0y:Array Keyed→Array Keyed→SM (Array Keyed):=sortPriv% PySem.Builtin.mergeLo
abbrev R1:=Option (Array Keyed)×Array Keyed×Nat×Nat×Nat
abbrev Rr:=Option (Array Keyed)×Array Keyed×Nat×Nat×Nat×Nat
abbrev R2:=Option (Array Keyed)×Array Keyed×Nat×Nat×Nat×Nat×Nat
noncomputable def y0z(a b out:Array Keyed)(ia ib:Nat):Array Keyed:=out++a.extract ia a.size++b.extract ib b.size
noncomputable def l1g(a b out:Array Keyed)(ia ib:Nat):Array Keyed:=out++b.extract ib b.size++a.extract ia a.size
noncomputable def s1h(a b:Array Keyed)(mg bc:Nat)(out:Array Keyed)(ia ib:Nat):SM (ForInStep Rr):=do
 let x←elem' b ib
 if (ib+1 == b.size)=true then pure (.done (some (y0z a b (out.push x) ia (ib+1)),out.push x,ia,ib+1,0,bc+1))
 else if bc+1≥mg then pure (.done (none,out.push x,ia,ib+1,0,bc+1)) else pure (.yield (none,out.push x,ia,ib+1,0,bc+1))
noncomputable def s1g(a b:Array Keyed)(mg ac:Nat)(out:Array Keyed)(ia ib:Nat):SM (ForInStep Rr):=do
 let x←elem' a ia
 if (ia+1+1 == a.size)=true then pure (.done (some (l1g a b (out.push x) (ia+1) ib),out.push x,ia+1,ib,ac+1,0))
 else if ac+1≥mg then pure (.done (none,out.push x,ia+1,ib,ac+1,0)) else pure (.yield (none,out.push x,ia+1,ib,ac+1,0))
noncomputable def loR(a b:Array Keyed)(mg:Nat)(out:Array Keyed)(ia ib ac bc:Nat):SM (ForInStep Rr):=do
 let x←elem' b ib
 let y←elem' a ia
 let z←lt' x y
 match z with
 | some w=>if w=true then s1h a b mg bc out ia ib else s1g a b mg ac out ia ib
 | x=>pure (.done (some (y0z a b out ia ib),out,ia,ib,ac,bc))
noncomputable def loD(a b:Array Keyed)(mg ac bc:Nat)(out:Array Keyed)(ia ib:Nat):SM (ForInStep R2):=do
 let x←elem' a ia
 if (ia+1+1 == a.size)=true then pure (.done (some (l1g a b (out.push x) (ia+1) ib),out.push x,ia+1,ib,mg,ac,bc))
 else if (decide (ac<7)&&decide (bc<7))=true then pure (.done (none,out.push x,ia+1,ib,mg,ac,bc)) else pure (.yield (none,out.push x,ia+1,ib,mg,ac,bc))
noncomputable def loC(a b:Array Keyed)(mg ac bc:Nat)(out:Array Keyed)(ia ib:Nat):SM (ForInStep R2):=do
 let x←elem' b ib
 if (ib+1 == b.size)=true then pure (.done (some (y0z a b (out.push x) ia (ib+1)),out.push x,ia,ib+1,mg,ac,bc))
 else do
  let y←elem' a ia
  let z←f0c true y b (ib+1) (b.size-(ib+1)) 0
  match z with
  | some k=>if k>0 then(if (ib+1+k == b.size)=true then pure (.done (some (y0z a b (out.push x++b.extract (ib+1) (ib+1+k)) ia (ib+1+k)),out.push x++b.extract (ib+1) (ib+1+k),ia,ib+1+k,mg,ac,k)) else loD a b mg ac k (out.push x++b.extract (ib+1) (ib+1+k)) ia (ib+1+k)) else loD a b mg ac k (out.push x) ia (ib+1)
  | w=>pure (.done (some (y0z a b (out.push x) ia (ib+1)),out.push x,ia,ib+1,mg,ac,bc))
noncomputable def loB(a b:Array Keyed)(mg bc:Nat)(ac:Nat)(out:Array Keyed)(ia ib:Nat):SM (ForInStep R2):=do
 c0x mg
 let y←elem' b ib
 let z←f0c false y a ia (a.size-ia) 0
 match z with
 | some k=>if k>0 then(if (ia+k+1 == a.size)=true then pure (.done (some (l1g a b (out++a.extract ia (ia+k)) (ia+k) ib),out++a.extract ia (ia+k),ia+k,ib,mg,k,bc))
   else if (ia+k == a.size)=true then pure (.done (some (y0z a b (out++a.extract ia (ia+k)) (ia+k) ib),out++a.extract ia (ia+k),ia+k,ib,mg,k,bc)) else loC a b mg k bc (out++a.extract ia (ia+k)) (ia+k) ib) else loC a b mg k bc out ia ib
 | w=>pure (.done (some (y0z a b out ia ib),out,ia,ib,mg,ac,bc))
noncomputable def loG(a b:Array Keyed)(out:Array Keyed)(ia ib mg ac bc:Nat):SM (ForInStep R2):=
 if mg>1 then loB a b (mg-1) bc ac out ia ib else loB a b mg bc ac out ia ib
noncomputable def loP(a b:Array Keyed)(N mg:Nat)(out:Array Keyed)(ia ib ac bc:Nat):SM (ForInStep R1):=do
 liftM (PySem.rule "list.sort.gallop")
 let d←forIn [0:N] ((none,out,ia,ib,mg+1,ac,bc):R2) fun U d=>loG a b d.2.1 d.2.2.1 d.2.2.2.1 d.2.2.2.2.1 d.2.2.2.2.2.1 d.2.2.2.2.2.2
 Break.runK d.1 (fun U=>do
  c0x (d.2.2.2.2.1+1)
  pure (.yield (none,d.2.1,d.2.2.1,d.2.2.2.1,d.2.2.2.2.1+1))) fun r=>pure (.done (some r,d.2.1,d.2.2.1,d.2.2.2.1,d.2.2.2.2.1))
noncomputable def loO(a b:Array Keyed)(N:Nat)(out:Array Keyed)(ia ib mg:Nat):SM (ForInStep R1):=do
 let c←forIn [0:N] ((none,out,ia,ib,0,0):Rr) fun U c=>loR a b mg c.2.1 c.2.2.1 c.2.2.2.1 c.2.2.2.2.1 c.2.2.2.2.2
 Break.runK c.1 (fun U=>loP a b N mg c.2.1 c.2.2.1 c.2.2.2.1 c.2.2.2.2.1 c.2.2.2.2.2) fun r=>pure (.done (some r,c.2.1,c.2.2.1,c.2.2.2.1,mg))
theorem u0e(a b:Array Keyed):p0y a b=(do
 liftM (PySem.rule "list.sort.merge-lo")
 let x←elem' b 0
 if (1 == b.size)=true then pure (y0z a b #[x] 0 1) else if (0+1 == a.size)=true then pure (l1g a b #[x] 0 1) else do
  let st←MonadState.get
  let c←forIn [0:a.size+b.size] ((none,#[x],0,1,gallopOf st):R1) fun U c=>loO a b (a.size+b.size) c.2.1 c.2.2.1 c.2.2.2.1 c.2.2.2.2
  Break.runK c.1 (fun U=>liftM (PySem.unsupported "internal:list.sort.merge-bound":Sem (Array Keyed))) fun r=>pure r):=rfl
theorem p0i{α:Type}{a:Array α}{i:Nat}(h:a.size≤i):a.toList.drop i=[]:=drop_eq_nil_of_le (by rw[Array.length_toList];exact h)
def Good(f:Keyed→Int)(tot:List Keyed)(r:Array Keyed):Prop:=SL f r.toList∧r.toList.Perm tot
structure LoC(e:SE)(a b:Array Keyed):Prop where
 ca:∀ x∈a.toList,e.S x
 cb:∀ x∈b.toList,e.S x
 z:∀ z,a[a.size-1]?=some z→∀ y∈b.toList,e.f y≤e.f z
def LM(e:SE)(a b out:Array Keyed)(ia ib:Nat):Prop:=MI e.f (a.toList++b.toList) out.toList (a.toList.drop ia) (b.toList.drop ib)
structure LV(e:SE)(a b:Array Keyed)(n:Nat)(out:Array Keyed)(ia ib:Nat):Prop where
 m:LM e a b out ia ib
 la:ia+1<a.size
 lb:ib<b.size
 n:n≤ia+ib
def LX(e:SE)(a b:Array Keyed)(n:Nat){σ:Type}(r:Array Keyed×Nat×Nat×σ):Prop:=LV e a b n r.1 r.2.1 r.2.2.1
def LW(e:SE)(a b:Array Keyed)(n:Nat)(st0:SortSt){σ:Type}(t:ForInStep (Option (Array Keyed)×Array Keyed×Nat×Nat×σ))(st:SortSt):Prop:=
 LK st0 st∧LT (Good e.f (a.toList++b.toList)) (LX e a b n) (LX e a b n) t
section
variable {e:SE}{a b out:Array Keyed}{ia ib k:Nat}{x:Keyed}
theorem LM.pa(h:LM e a b out ia ib)(hx:a[ia]?=some x)(hl:∀ y∈b.toList.drop ib,e.f x≤e.f y):LM e a b (out.push x) (ia+1) ib:=by
 unfold LM at h ⊢;rw[k0w hx]at h;rw[Array.toList_push];exact h.oneA hl
theorem LM.pb(h:LM e a b out ia ib)(hx:b[ib]?=some x)(hl:∀ y∈a.toList.drop ia,e.f x≤e.f y):LM e a b (out.push x) ia (ib+1):=by
 unfold LM at h ⊢;rw[k0w hx]at h;rw[Array.toList_push];exact h.oneB hl
theorem LM.ha(h:LM e a b out ia ib)(hx:a[ia]?=some x):∀ y∈a.toList.drop ia,e.f x≤e.f y:=by
 unfold LM at h;rw[k0w hx]at h ⊢;exact h.headA
theorem LM.hb(h:LM e a b out ia ib)(hx:b[ib]?=some x):∀ y∈b.toList.drop ib,e.f x≤e.f y:=by
 unfold LM at h;rw[k0w hx]at h ⊢;exact h.headB
theorem i1n(a:Array Keyed)(i k:Nat):(a.extract i (i+k)).toList=(a.toList.drop i).take k:=by rw[p0j,Nat.add_sub_cancel_left]
theorem g1s(a:Array Keyed)(i k:Nat):a.toList.drop i=(a.toList.drop i).take k++a.toList.drop (i+k):=by rw[← drop_drop,take_append_drop]
theorem LM.ca(h:LM e a b out ia ib)(hl:∀ x∈(a.toList.drop ia).take k,∀ y∈b.toList.drop ib,e.f x≤e.f y):LM e a b (out++a.extract ia (ia+k)) (ia+k) ib:=by
 unfold LM at h ⊢;rw[Array.toList_append,i1n];rw[g1s a ia k]at h;exact h.takeA hl
theorem LM.cb(h:LM e a b out ia ib)(hl:∀ x∈(b.toList.drop ib).take k,∀ y∈a.toList.drop ia,e.f x≤e.f y):LM e a b (out++b.extract ib (ib+k)) ia (ib+k):=by
 unfold LM at h ⊢;rw[Array.toList_append,i1n];rw[g1s b ib k]at h;exact h.takeB hl
theorem LM.gb(h:LM e a b out ia ib)(z:b.size≤ib):Good e.f (a.toList++b.toList) (y0z a b out ia ib):=by
 unfold Good y0z;unfold LM at h;rw[Array.toList_append,Array.toList_append,g0h,g0h];rw[p0i z]at h ⊢;rw[append_nil];exact h.fin
theorem LM.ga(h:LM e a b out ia ib)(z:a.size≤ia):Good e.f (a.toList++b.toList) (y0z a b out ia ib):=by
 unfold Good y0z;unfold LM at h;rw[Array.toList_append,Array.toList_append,g0h,g0h];rw[p0i z]at h ⊢;rw[append_nil];exact h.fin'
theorem LM.gl(C:LoC e a b)(h:LM e a b out ia ib)(z:ia+1=a.size):Good e.f (a.toList++b.toList) (l1g a b out ia ib):=by
 unfold Good l1g;unfold LM at h;rw[Array.toList_append,Array.toList_append,g0h,g0h];obtain⟨x,hx,U,hd⟩:=b0g (a:=a) (i:=ia) (Nat.lt_of_lt_of_eq (Nat.lt_succ_self ia) z);rw[hd,p0i (Nat.le_of_eq z.symm)]at h ⊢;exact h.last fun y hy=>C.z x (by rw[← z];exact hx) y (mem_of_mem_drop hy)
end
section
variable {e:SE}{a b:Array Keyed}{st st0:SortSt}{out:Array Keyed}{ia ib n:Nat}(C:LoC e a b)(hκ:kindOf st0=e.κ)(hk:LK st0 st)
include C hk
theorem h1p{mg ac bc:Nat}(v:LV e a b n out ia ib)(hx:∀ x,a[ia]?=some x→∀ y∈b.toList.drop ib,e.f x≤e.f y):e.W (loD a b mg ac bc out ia ib) (LW e a b (n+1) st0) st:=by
 obtain⟨x,hax,U⟩:=b0g (Nat.lt_of_succ_lt v.la);have m:=v.m.pa hax (hx x hax);refine b0y hax (e0w (fun z=>a0e ⟨hk,.fin (m.gl C z)⟩) fun z=>?_);have v2:LV e a b (n+1) (out.push x) (ia+1) ib:=⟨m,Nat.lt_of_le_of_ne v.la z,v.lb,(Nat.succ_add ia ib).symm▸Nat.succ_le_succ v.n⟩;exact d0d (fun U=>a0e ⟨hk,.brk v2⟩) fun U=>a0e ⟨hk,.go v2⟩
theorem l1c{mg ac:Nat}(v:LV e a b n out ia ib)(hx:∀ x,a[ia]?=some x→∀ y∈b.toList.drop ib,e.f x≤e.f y):e.W (s1g a b mg ac out ia ib) (LW e a b (n+1) st0) st:=by
 obtain⟨x,hax,U⟩:=b0g (Nat.lt_of_succ_lt v.la);have m:=v.m.pa hax (hx x hax);refine b0y hax (e0w (fun z=>a0e ⟨hk,.fin (m.gl C z)⟩) fun z=>?_);have v2:LV e a b (n+1) (out.push x) (ia+1) ib:=⟨m,Nat.lt_of_le_of_ne v.la z,v.lb,(Nat.succ_add ia ib).symm▸Nat.succ_le_succ v.n⟩;exact d0d (fun U=>a0e ⟨hk,.brk v2⟩) fun U=>a0e ⟨hk,.go v2⟩
theorem l1d{mg bc:Nat}(v:LV e a b n out ia ib)(hx:∀ x,b[ib]?=some x→∀ y∈a.toList.drop ia,e.f x≤e.f y):e.W (s1h a b mg bc out ia ib) (LW e a b (n+1) st0) st:=by
 obtain⟨x,hbx,U⟩:=b0g v.lb;have m:=v.m.pb hbx (hx x hbx);refine b0y hbx (e0w (fun z=>a0e ⟨hk,.fin (m.gb (Nat.le_of_eq z.symm))⟩) fun z=>?_);have v2:LV e a b (n+1) (out.push x) ia (ib+1):=⟨m,v.la,Nat.lt_of_le_of_ne v.lb z,Nat.succ_le_succ v.n⟩;exact d0d (fun U=>a0e ⟨hk,.brk v2⟩) fun U=>a0e ⟨hk,.go v2⟩
include hκ
theorem p1k{mg ac bc:Nat}(v:LV e a b n out ia ib):e.W (loR a b mg out ia ib ac bc) (LW e a b (n+1) st0) st:=by
 obtain⟨x,hax,hxm,U⟩:=b0g (Nat.lt_of_succ_lt v.la);obtain⟨y,hby,hym,U⟩:=b0g v.lb;refine b0y hby (b0y hax (p1b (hk.1.trans hκ) (C.cb y hym) (C.ca x hxm) (s0u (fun z=>l1d C hk v fun y' hy' u hu=>?_) fun z=>l1c C hk v fun x' hx' u hu=>?_)))
 ·cases hby.symm.trans hy';exact Int.le_trans (Int.le_of_lt (of_decide_eq_true z)) (v.m.ha hax u hu)
 ·cases hax.symm.trans hx';exact Int.le_trans (Int.not_lt.mp (of_decide_eq_false z)) (v.m.hb hby u hu)
theorem h1o{mg ac bc:Nat}(v:LV e a b n out ia ib)(hy:∀ y,b[ib]?=some y→∀ x∈a.toList.drop ia,e.f y≤e.f x):e.W (loC a b mg ac bc out ia ib) (LW e a b (n+1) st0) st:=by
 obtain⟨x,hax,hxm,U⟩:=b0g (Nat.lt_of_succ_lt v.la);obtain⟨y,hby,U⟩:=b0g v.lb;have m:=v.m.pb hby (hy y hby);refine b0y hby (e0w (fun z=>a0e ⟨hk,.fin (m.gb (Nat.le_of_eq z.symm))⟩) fun z=>b0y hax ?_);have lt:=Nat.lt_of_le_of_ne v.lb z;refine e0x (hk.1.trans hκ) (C.ca x hxm) (Nat.le_of_eq (Nat.add_sub_cancel' (Nat.le_of_lt lt))) C.cb (Nat.sub_pos_of_lt lt) (take_of_length_le (by rw[length_drop,Array.length_toList];exact Nat.le_refl _)) m.sb fun k hkn g1 g2=>?_;rw[drop_drop]at g2;have hx3:∀ x',a[ia]?=some x'→∀ y∈b.toList.drop (ib+1+k),e.f x'≤e.f y:=fun x' hx' v hv=>by
  cases hax.symm.trans hx';exact t0e (g2 v hv)
 refine d0d (fun k0=>?_) fun k0=>?_
 ·have m2:=m.cb (k:=k) fun u hu w hw=>Int.le_trans (t0f (g1 u hu)) (m.ha hax w hw);exact e0w (fun z=>a0e ⟨hk,.fin (m2.gb (Nat.le_of_eq z.symm))⟩) fun z=>h1p C hk ⟨m2,v.la,Nat.lt_of_le_of_ne (Nat.add_le_of_le_sub' (Nat.le_of_lt lt) hkn) z,Nat.le_trans v.n (Nat.add_le_add_left (Nat.le_trans (Nat.le_succ _) (Nat.le_add_right _ _)) _)⟩ hx3
 ·clear hkn g1;cases Nat.eq_zero_of_not_pos k0;exact h1p C hk ⟨m,v.la,lt,Nat.le_trans v.n (Nat.le_succ _)⟩ hx3
theorem h1n{mg bc ac:Nat}(v:LV e a b n out ia ib):e.W (loB a b mg bc ac out ia ib) (LW e a b (n+1) st0) st:=by
 obtain⟨y,hby,hym,U⟩:=b0g v.lb;have hk':=hk.set mg;have la:=Nat.lt_of_succ_lt v.la;refine x0d (b0y hby (e0x (hk'.1.trans hκ) (C.cb y hym) (Nat.le_of_eq (Nat.add_sub_cancel' (Nat.le_of_lt la))) C.ca (Nat.sub_pos_of_lt la) (take_of_length_le (by rw[length_drop,Array.length_toList];exact Nat.le_refl _)) v.m.sa fun k hkn g1 g2=>?_));rw[drop_drop]at g2;have hy3:∀ y',b[ib]?=some y'→∀ x∈a.toList.drop (ia+k),e.f y'≤e.f x:=fun y' hy' v hv=>by
  cases hby.symm.trans hy';exact t0e (g2 v hv)
 refine d0d (fun k0=>?_) fun k0=>?_
 ·have m2:=v.m.ca (k:=k) fun u hu w hw=>Int.le_trans (t0f (g1 u hu)) (v.m.hb hby w hw);refine e0w (fun z=>a0e ⟨hk',.fin (m2.gl C z)⟩) fun z=>e0w (fun z=>a0e ⟨hk',.fin (m2.ga (Nat.le_of_eq z.symm))⟩) fun z2=>h1o C hκ hk' ⟨m2,Nat.lt_of_le_of_ne (Nat.lt_of_le_of_ne (Nat.add_le_of_le_sub' (Nat.le_of_lt la) hkn) z2) z,v.lb,Nat.le_trans v.n (Nat.add_le_add_right (Nat.le_add_right _ _) _)⟩ hy3
 ·clear hkn g1;cases Nat.eq_zero_of_not_pos k0;exact h1o C hκ hk' v hy3
theorem p1h{mg bc ac:Nat}(v:LV e a b n out ia ib):e.W (loG a b out ia ib mg ac bc) (LW e a b (n+1) st0) st:=
 d0d (fun U=>h1n C hκ hk v) fun U=>h1n C hκ hk v
end
theorem LV.le{e:SE}{a b out:Array Keyed}{n m ia ib:Nat}(h:n≤m)(v:LV e a b m out ia ib):LV e a b n out ia ib:=⟨v.m,v.la,v.lb,Nat.le_trans h v.n⟩
section
variable {e:SE}{a b:Array Keyed}{st st0:SortSt}{out:Array Keyed}{ia ib n N:Nat}(C:LoC e a b)(hκ:kindOf st0=e.κ)(hN:1≤N)(hk:LK st0 st)
include C hκ hN hk
theorem p1j{mg ac bc:Nat}(v:LV e a b (n+1) out ia ib):e.W (loP a b N mg out ia ib ac bc) (fun t st'=>LK st0 st'∧LT (Good e.f (a.toList++b.toList)) (fun U=>False) (LX e a b (n+1)) t) st:=
 o0q (k0g (G:=Good e.f (a.toList++b.toList)) (P:=LX e a b (n+1)) (LK st0) (fun x=>LX e a b (n+1+x)) hk v
  (fun x r st' U hk h=>o0p (p1h C hκ hk h) fun t st2 q=>⟨q.1,q.2.imp (fun U h=>h) (fun r h=>LV.le (Nat.le_add_right _ (x+1)) h) fun U h=>h⟩)
  (fun r h=>LV.le (Nat.le_add_right _ _) h) (fun g r st' hk h=>a0e ⟨hk,.fin h⟩) fun r st' hk h=>x0d (a0e ⟨hk.set _,.go h⟩))
theorem p1i{mg:Nat}(v:LV e a b n out ia ib):e.W (loO a b N out ia ib mg) (fun t st'=>LK st0 st'∧LT (Good e.f (a.toList++b.toList)) (fun U=>False) (LX e a b (n+1)) t) st:=
 k0g (G:=Good e.f (a.toList++b.toList)) (P:=LX e a b (n+1)) (LK st0) (fun x=>LX e a b (n+x)) hk v
  (fun x r st' U hk h=>o0p (p1k C hκ hk h) fun t st2 q=>⟨q.1,q.2.imp (fun U h=>h) (fun r h=>LV.le (Nat.add_le_add_left (Nat.le_add_left 1 x) n) h) fun U h=>h⟩)
  (fun r h=>LV.le (Nat.add_le_add_left hN n) h) (fun g r st' hk h=>a0e ⟨hk,.fin h⟩) fun r st' hk h=>p1j C hκ hN hk h
end
theorem d1p{e:SE}{a b:Array Keyed}{st0:SortSt}{Q:Array Keyed→SortSt→Prop}(C:LoC e a b)(hκ:kindOf st0=e.κ)(sa:SL e.f a.toList)(sb:SL e.f b.toList)(na:0<a.size)(nb:0<b.size)(hy:∀ y,b[0]?=some y→∀ x∈a.toList,e.f y≤e.f x)
  (q:∀ r st',Good e.f (a.toList++b.toList) r→LK st0 st'→Q r st'):e.W (p0y a b) Q st0:=by
 obtain⟨y,hby,U⟩:=b0g nb;have h0:LM e a b #[] 0 0:=⟨List.Perm.refl _,.nil,sa,sb,fun x hx=>(not_mem_nil hx).elim,fun x hx=>(not_mem_nil hx).elim⟩;have m:=h0.pb hby (hy y hby);rw[u0e];refine o0q (b0y hby (e0w (fun z=>a0e (q _ _ (m.gb (Nat.le_of_eq z.symm)) (LK.refl _))) fun z1=>e0w (fun z=>a0e (q _ _ (m.gl C z) (LK.refl _))) fun z2=>n0u ?_));refine k0g (G:=Good e.f (a.toList++b.toList)) (P:=fun U=>False) (LK st0) (fun x=>LX e a b (x+1)) (LK.refl _) ⟨m,Nat.lt_of_le_of_ne na z2,Nat.lt_of_le_of_ne nb z1,Nat.le_refl 1⟩ (fun x r st' U hk h=>p1i C hκ (Nat.le_trans na (Nat.le_add_right _ _)) hk h) (fun r h=>?_) (fun g r st' hk h=>a0e (q g st' h hk)) fun U U U h=>False.elim h;exact absurd (Nat.le_trans (Nat.le_succ _) h.n) (Nat.not_le_of_gt (Nat.add_lt_add (Nat.lt_of_succ_lt h.la) h.lb))
noncomputable def p0x:Array Keyed→Array Keyed→SM (Array Keyed):=sortPriv% PySem.Builtin.mergeHi
abbrev H1:=Option (Array Keyed)×Nat×Nat×Array Keyed×Nat
abbrev Hr:=Option (Array Keyed)×Nat×Nat×Array Keyed×Nat×Nat
abbrev H2:=Option (Array Keyed)×Nat×Nat×Array Keyed×Nat×Nat×Nat
noncomputable def y0y(a b:Array Keyed)(na nb:Nat)(out:Array Keyed):Array Keyed:=a.extract 0 na++b.extract 0 nb++out.reverse
noncomputable def l1f(a b:Array Keyed)(na nb:Nat)(out:Array Keyed):Array Keyed:=b.extract 0 nb++a.extract 0 na++out.reverse
noncomputable def s1c(a b:Array Keyed)(mg ac:Nat)(na nb:Nat)(out:Array Keyed):SM (ForInStep Hr):=do
 let x←elem' a (na-1)
 if (na-1 == 0)=true then pure (.done (some (y0y a b (na-1) nb (out.push x)),na-1,nb,out.push x,ac+1,0))
 else if ac+1≥mg then pure (.done (none,na-1,nb,out.push x,ac+1,0)) else pure (.yield (none,na-1,nb,out.push x,ac+1,0))
noncomputable def s1d(a b:Array Keyed)(mg bc:Nat)(na nb:Nat)(out:Array Keyed):SM (ForInStep Hr):=do
 let x←elem' b (nb-1)
 if (nb-1 == 1)=true then pure (.done (some (l1f a b na (nb-1) (out.push x)),na,nb-1,out.push x,0,bc+1))
 else if bc+1≥mg then pure (.done (none,na,nb-1,out.push x,0,bc+1)) else pure (.yield (none,na,nb-1,out.push x,0,bc+1))
noncomputable def hiR(a b:Array Keyed)(mg na nb:Nat)(out:Array Keyed)(ac bc:Nat):SM (ForInStep Hr):=do
 let x←elem' b (nb-1)
 let y←elem' a (na-1)
 let z←lt' x y
 match z with
 | some w=>if w=true then s1c a b mg ac na nb out else s1d a b mg bc na nb out
 | x=>pure (.done (some (y0y a b na nb out),na,nb,out,ac,bc))
noncomputable def hiD(a b:Array Keyed)(mg ac bc na nb:Nat)(out:Array Keyed):SM (ForInStep H2):=do
 let x←elem' a (na-1)
 if (na-1 == 0)=true then pure (.done (some (y0y a b (na-1) nb (out.push x)),na-1,nb,out.push x,mg,ac,bc))
 else if (decide (ac<7)&&decide (bc<7))=true then pure (.done (none,na-1,nb,out.push x,mg,ac,bc)) else pure (.yield (none,na-1,nb,out.push x,mg,ac,bc))
noncomputable def hiC(a b:Array Keyed)(mg ac bc na nb:Nat)(out:Array Keyed):SM (ForInStep H2):=do
 let x←elem' b (nb-1)
 if (nb-1 == 1)=true then pure (.done (some (l1f a b na (nb-1) (out.push x)),na,nb-1,out.push x,mg,ac,bc))
 else do
  let y←elem' a (na-1)
  let z←f0c true y b 0 (nb-1) (nb-1-1)
  match z with
  | some k=>if nb-1-k>0 then(if (k == 1)=true then pure (.done (some (l1f a b na k (out.push x++(b.extract k (nb-1)).reverse)),na,k,out.push x++(b.extract k (nb-1)).reverse,mg,ac,nb-1-k))
    else if (k == 0)=true then pure (.done (some (y0y a b na k (out.push x++(b.extract k (nb-1)).reverse)),na,k,out.push x++(b.extract k (nb-1)).reverse,mg,ac,nb-1-k))
    else hiD a b mg ac (nb-1-k) na k (out.push x++(b.extract k (nb-1)).reverse)) else hiD a b mg ac (nb-1-k) na (nb-1) (out.push x)
  | w=>pure (.done (some (y0y a b na (nb-1) (out.push x)),na,nb-1,out.push x,mg,ac,bc))
noncomputable def hiB(a b:Array Keyed)(mg bc ac na nb:Nat)(out:Array Keyed):SM (ForInStep H2):=do
 c0x mg
 let y←elem' b (nb-1)
 let z←f0c false y a 0 na (na-1)
 match z with
 | some k=>if na-k>0 then(if (k == 0)=true then pure (.done (some (y0y a b k nb (out++(a.extract k na).reverse)),k,nb,out++(a.extract k na).reverse,mg,na-k,bc))
   else hiC a b mg (na-k) bc k nb (out++(a.extract k na).reverse)) else hiC a b mg (na-k) bc na nb out
 | w=>pure (.done (some (y0y a b na nb out),na,nb,out,mg,ac,bc))
noncomputable def hiG(a b:Array Keyed)(na nb:Nat)(out:Array Keyed)(mg ac bc:Nat):SM (ForInStep H2):=
 if mg>1 then hiB a b (mg-1) bc ac na nb out else hiB a b mg bc ac na nb out
noncomputable def hiP(a b:Array Keyed)(N mg na nb:Nat)(out:Array Keyed)(ac bc:Nat):SM (ForInStep H1):=do
 liftM (PySem.rule "list.sort.gallop")
 let d←forIn [0:N] ((none,na,nb,out,mg+1,ac,bc):H2) fun U d=>hiG a b d.2.1 d.2.2.1 d.2.2.2.1 d.2.2.2.2.1 d.2.2.2.2.2.1 d.2.2.2.2.2.2
 Break.runK d.1 (fun U=>do
  c0x (d.2.2.2.2.1+1)
  pure (.yield (none,d.2.1,d.2.2.1,d.2.2.2.1,d.2.2.2.2.1+1))) fun r=>pure (.done (some r,d.2.1,d.2.2.1,d.2.2.2.1,d.2.2.2.2.1))
noncomputable def hiO(a b:Array Keyed)(N na nb:Nat)(out:Array Keyed)(mg:Nat):SM (ForInStep H1):=do
 let c←forIn [0:N] ((none,na,nb,out,0,0):Hr) fun U c=>hiR a b mg c.2.1 c.2.2.1 c.2.2.2.1 c.2.2.2.2.1 c.2.2.2.2.2
 Break.runK c.1 (fun U=>hiP a b N mg c.2.1 c.2.2.1 c.2.2.2.1 c.2.2.2.2.1 c.2.2.2.2.2) fun r=>pure (.done (some r,c.2.1,c.2.2.1,c.2.2.2.1,mg))
theorem u0d(a b:Array Keyed):p0x a b=(do
 liftM (PySem.rule "list.sort.merge-hi")
 let x←elem' a (a.size-1)
 if (a.size-1 == 0)=true then pure (y0y a b (a.size-1) b.size #[x]) else if (b.size == 1)=true then pure (l1f a b (a.size-1) b.size #[x]) else do
  let st←MonadState.get
  let c←forIn [0:a.size+b.size] ((none,a.size-1,b.size,#[x],gallopOf st):H1) fun U c=>hiO a b (a.size+b.size) c.2.1 c.2.2.1 c.2.2.2.1 c.2.2.2.2
  Break.runK c.1 (fun U=>liftM (PySem.unsupported "internal:list.sort.merge-bound":Sem (Array Keyed))) fun r=>pure r):=rfl
noncomputable abbrev ng(f:Keyed→Int):Keyed→Int:=fun x=>-f x
theorem g0i{α:Type}{a:Array α}(n:Nat):(a.extract 0 n).toList=a.toList.take n:=by
 rw[p0j,drop_zero,Nat.sub_zero]
structure HiC(e:SE)(a b:Array Keyed):Prop where
 ca:∀ x∈a.toList,e.S x
 cb:∀ x∈b.toList,e.S x
 z:∀ z,b[0]?=some z→∀ y∈a.toList,e.f z≤e.f y
def HM(e:SE)(a b:Array Keyed)(na nb:Nat)(out:Array Keyed):Prop:=MI (ng e.f) (a.toList++b.toList) out.toList (a.toList.take na).reverse (b.toList.take nb).reverse
structure HV(e:SE)(a b:Array Keyed)(n na nb:Nat)(out:Array Keyed):Prop where
 m:HM e a b na nb out
 pa:1≤na
 pb:2≤nb
 la:na≤a.size
 lb:nb≤b.size
 n:na+(nb+n)≤a.size+b.size
def HX(e:SE)(a b:Array Keyed)(n:Nat){σ:Type}(r:Nat×Nat×Array Keyed×σ):Prop:=HV e a b n r.1 r.2.1 r.2.2.1
def HW(e:SE)(a b:Array Keyed)(n:Nat)(st0:SortSt){σ:Type}(t:ForInStep (Option (Array Keyed)×Nat×Nat×Array Keyed×σ))(st:SortSt):Prop:=
 LK st0 st∧LT (Good e.f (a.toList++b.toList)) (HX e a b n) (HX e a b n) t
section
variable {e:SE}{a b out:Array Keyed}{na nb k:Nat}{x:Keyed}
theorem t0v{f:Keyed→Int}{tot l:List Keyed}{r:Array Keyed}(h:SL (ng f) l∧l.Perm tot)(e:r.toList=l.reverse):Good f tot r:=by
 unfold Good;rw[e];exact⟨h.1.rev,(reverse_perm l).trans h.2⟩
theorem HM.pa(h:HM e a b (na+1) nb out)(hx:a[na]?=some x)(hl:∀ y∈b.toList.take nb,e.f y≤e.f x):HM e a b na nb (out.push x):=by
 unfold HM at h ⊢;rw[e0l hx]at h;rw[Array.toList_push];exact h.oneA fun y hy=>Int.neg_le_neg (hl y (mem_reverse.mp hy))
theorem HM.pb(h:HM e a b na (nb+1) out)(hx:b[nb]?=some x)(hl:∀ y∈a.toList.take na,e.f y≤e.f x):HM e a b na nb (out.push x):=by
 unfold HM at h ⊢;rw[e0l hx]at h;rw[Array.toList_push];exact h.oneB fun y hy=>Int.neg_le_neg (hl y (mem_reverse.mp hy))
theorem HM.ha(h:HM e a b (na+1) nb out)(hx:a[na]?=some x):∀ y∈a.toList.take (na+1),e.f y≤e.f x:=fun y hy=>by
 rw[← mem_reverse,e0l hx]at hy;unfold HM at h;rw[e0l hx]at h;exact Int.neg_le_neg_iff.mp (h.headA y hy)
theorem HM.hb(h:HM e a b na (nb+1) out)(hx:b[nb]?=some x):∀ y∈b.toList.take (nb+1),e.f y≤e.f x:=fun y hy=>by
 rw[← mem_reverse,e0l hx]at hy;unfold HM at h;rw[e0l hx]at h;exact Int.neg_le_neg_iff.mp (h.headB y hy)
theorem z0y{k n:Nat}(hk:k≤n):(a.toList.take n).reverse=(a.extract k n).reverse.toList++(a.toList.take k).reverse:=by
 rw[Array.toList_reverse,p0j,←reverse_append,←drop_take];have h1:=take_append_drop k (a.toList.take n);rw[take_take,Nat.min_eq_left hk]at h1;rw[h1]
theorem b1o{k n:Nat}(hx:x∈(a.extract k n).reverse.toList):x∈(a.toList.take n).drop k:=by
 rw[Array.toList_reverse,p0j,mem_reverse,←drop_take]at hx;exact hx
theorem HM.ca(hk:k≤na)(h:HM e a b na nb out)(hl:∀ x∈(a.toList.take na).drop k,∀ y∈b.toList.take nb,e.f y≤e.f x):HM e a b k nb (out++(a.extract k na).reverse):=by
 unfold HM at h ⊢;rw[Array.toList_append];rw[z0y hk]at h;exact h.takeA fun x hx y hy=>Int.neg_le_neg (hl x (b1o hx) y (mem_reverse.mp hy))
theorem HM.cb(hk:k≤nb)(h:HM e a b na nb out)(hl:∀ x∈(b.toList.take nb).drop k,∀ y∈a.toList.take na,e.f y≤e.f x):HM e a b na k (out++(b.extract k nb).reverse):=by
 unfold HM at h ⊢;rw[Array.toList_append];rw[z0y hk]at h;exact h.takeB fun x hx y hy=>Int.neg_le_neg (hl x (b1o hx) y (mem_reverse.mp hy))
theorem HM.sa(h:HM e a b na nb out):SL e.f (a.toList.take na):=by
 have:=(MI.sa h).rev;rw[reverse_reverse]at this;exact this
theorem HM.sb(h:HM e a b na nb out):SL e.f (b.toList.take nb):=by
 have:=(MI.sb h).rev;rw[reverse_reverse]at this;exact this
theorem HM.g0(h:HM e a b na 0 out):Good e.f (a.toList++b.toList) (y0y a b na 0 out):=by
 refine t0v (MI.fin h) ?_;unfold y0y;rw[Array.toList_append,Array.toList_append,g0i,g0i,Array.toList_reverse,take_zero,append_nil,reverse_append,reverse_reverse]
theorem HM.ga(h:HM e a b 0 nb out):Good e.f (a.toList++b.toList) (y0y a b 0 nb out):=by
 refine t0v (MI.fin' h) ?_;unfold y0y;rw[Array.toList_append,Array.toList_append,g0i,g0i,Array.toList_reverse,take_zero,List.nil_append,reverse_append,reverse_reverse]
theorem HM.gf(C:HiC e a b)(h:HM e a b na 1 out)(hb:0<b.size):Good e.f (a.toList++b.toList) (l1f a b na 1 out):=by
 obtain⟨x,hx,U⟩:=b0g hb;have h':=h;unfold HM at h';rw[e0l hx]at h';refine t0v ((MI.swap h').last fun y hy=>Int.neg_le_neg (C.z x hx y (mem_of_mem_take (mem_reverse.mp hy)))) ?_;unfold l1f;have z:b.toList.take 1=[x]:=List.reverse_inj.mp (e0l hx);rw[Array.toList_append,Array.toList_append,g0i,g0i,Array.toList_reverse,reverse_append,reverse_append,reverse_reverse,z,append_assoc];rfl
end
section
variable {e:SE}{a b:Array Keyed}{st st0:SortSt}{out:Array Keyed}{na nb n:Nat}(C:HiC e a b)(hκ:kindOf st0=e.κ)(hk:LK st0 st)
include C hk
theorem h1m{mg ac bc:Nat}(v:HV e a b n na nb out)(hx:∀ x,a[na-1]?=some x→∀ y∈b.toList.take nb,e.f y≤e.f x):e.W (hiD a b mg ac bc na nb out) (HW e a b (n+1) st0) st:=by
 cases na with
 | zero=>exact absurd v.pa (Nat.not_succ_le_zero 0)
 | succ na=>
  obtain⟨x,hax,U⟩:=b0g v.la;have m:=v.m.pa hax (hx x hax);refine b0y hax (e0w (fun z=>a0e ⟨hk,.fin (by clear v hx hax;cases(show na=0 from z);exact m.ga)⟩) fun z=>?_);have v2:HV e a b (n+1) na nb (out.push x):=⟨m,Nat.pos_of_ne_zero z,v.pb,Nat.le_of_lt v.la,v.lb,Nat.le_trans (Nat.le_of_eq (Nat.succ_add na (nb+n)).symm) v.n⟩;exact d0d (fun U=>a0e ⟨hk,.brk v2⟩) fun U=>a0e ⟨hk,.go v2⟩
theorem l1a{mg ac:Nat}(v:HV e a b n na nb out)(hx:∀ x,a[na-1]?=some x→∀ y∈b.toList.take nb,e.f y≤e.f x):e.W (s1c a b mg ac na nb out) (HW e a b (n+1) st0) st:=by
 cases na with
 | zero=>exact absurd v.pa (Nat.not_succ_le_zero 0)
 | succ na=>
  obtain⟨x,hax,U⟩:=b0g v.la;have m:=v.m.pa hax (hx x hax);refine b0y hax (e0w (fun z=>a0e ⟨hk,.fin (by clear v hx hax;cases(show na=0 from z);exact m.ga)⟩) fun z=>?_);have v2:HV e a b (n+1) na nb (out.push x):=⟨m,Nat.pos_of_ne_zero z,v.pb,Nat.le_of_lt v.la,v.lb,Nat.le_trans (Nat.le_of_eq (Nat.succ_add na (nb+n)).symm) v.n⟩;exact d0d (fun U=>a0e ⟨hk,.brk v2⟩) fun U=>a0e ⟨hk,.go v2⟩
theorem l1b{mg bc:Nat}(v:HV e a b n na nb out)(hx:∀ x,b[nb-1]?=some x→∀ y∈a.toList.take na,e.f y≤e.f x):e.W (s1d a b mg bc na nb out) (HW e a b (n+1) st0) st:=by
 cases nb with
 | zero=>exact absurd v.pb (Nat.not_succ_le_zero 1)
 | succ nb=>
  obtain⟨x,hbx,U⟩:=b0g v.lb;have m:=v.m.pb hbx (hx x hbx);refine b0y hbx (e0w (fun z=>a0e ⟨hk,.fin (by clear hx hbx;cases(show nb=1 from z);exact m.gf C (Nat.lt_of_succ_lt v.lb))⟩) fun z=>?_);have v2:HV e a b (n+1) na nb (out.push x):=⟨m,v.pa,Nat.lt_of_le_of_ne (Nat.le_of_succ_le_succ v.pb) (Ne.symm z),v.la,Nat.le_of_lt v.lb,Nat.le_trans (Nat.add_le_add_left (Nat.le_of_eq (Nat.succ_add nb n).symm) na) v.n⟩;exact d0d (fun U=>a0e ⟨hk,.brk v2⟩) fun U=>a0e ⟨hk,.go v2⟩
include hκ
theorem p1g{mg ac bc:Nat}(v:HV e a b n na nb out):e.W (hiR a b mg na nb out ac bc) (HW e a b (n+1) st0) st:=by
 obtain⟨x,hax,hxm,U⟩:=b0g (Nat.lt_of_lt_of_le (Nat.sub_one_lt_of_lt v.pa) v.la);obtain⟨y,hby,hym,U⟩:=b0g (Nat.lt_of_lt_of_le (Nat.sub_one_lt_of_lt v.pb) v.lb);have m:=v.m;refine b0y hby (b0y hax (p1b (hk.1.trans hκ) (C.cb y hym) (C.ca x hxm) (s0u (fun z=>l1a C hk v fun x' hx' u hu=>?_) fun z=>l1b C hk v fun y' hy' u hu=>?_)))
 ·cases hax.symm.trans hx';rw[← Nat.sub_add_cancel (Nat.le_of_succ_le v.pb)]at m hu;exact Int.le_trans (m.hb hby u hu) (Int.le_of_lt (of_decide_eq_true z))
 ·cases hby.symm.trans hy';rw[← Nat.sub_add_cancel v.pa]at m hu;exact Int.le_trans (m.ha hax u hu) (Int.not_lt.mp (of_decide_eq_false z))
theorem h1l{mg ac bc:Nat}(v:HV e a b n na nb out)(hy:∀ y,b[nb-1]?=some y→∀ x∈a.toList.take na,e.f x≤e.f y):e.W (hiC a b mg ac bc na nb out) (HW e a b (n+1) st0) st:=by
 cases nb with
 | zero=>exact absurd v.pb (Nat.not_succ_le_zero 1)
 | succ nb=>
  obtain⟨x,hax,hxm,U⟩:=b0g (Nat.lt_of_lt_of_le (Nat.sub_one_lt_of_lt v.pa) v.la);obtain⟨y,hby,U⟩:=b0g v.lb;have m:=v.m.pb hby (hy y hby);have pb:=Nat.le_of_succ_le_succ v.pb;refine b0y hby (e0w (fun z=>a0e ⟨hk,.fin (by clear hy hby pb;cases(show nb=1 from z);exact m.gf C (Nat.lt_of_succ_lt v.lb))⟩) fun z=>b0y hax ?_);refine e0x (hk.1.trans hκ) (C.ca x hxm) ((Nat.zero_add nb).symm▸Nat.le_of_lt v.lb) C.cb (Nat.sub_one_lt_of_lt pb) rfl m.sb fun k hkn g1 g2=>?_;have hx3:∀ x',a[na-1]?=some x'→∀ y∈b.toList.take k,e.f y≤e.f x':=fun x' hx' v hv=>by
   cases hax.symm.trans hx';exact t0f (g1 v (by rw[take_take,Nat.min_eq_left hkn];exact hv))
  refine d0d (fun k0=>?_) fun k0=>?_
  ·have m2:=m.cb hkn fun u hu w hw=>by
    rw[← Nat.sub_add_cancel v.pa]at m hw;exact Int.le_trans (m.ha hax w hw) (t0e (g2 u hu))
   exact e0w (fun z=>a0e ⟨hk,.fin (by clear hkn g1 g2 hx3 k0;cases z;exact m2.gf C (Nat.lt_of_succ_lt (Nat.lt_of_lt_of_le v.pb v.lb)))⟩) fun z1=>e0w (fun z=>a0e ⟨hk,.fin (by clear hkn g1 g2 hx3 k0 z1;cases z;exact m2.g0)⟩) fun z0=>
    h1m C hk ⟨m2,v.pa,Nat.lt_of_le_of_ne (Nat.pos_of_ne_zero z0) (Ne.symm z1),v.la,Nat.le_trans hkn (Nat.le_of_lt v.lb),Nat.le_trans (Nat.add_le_add_left (Nat.add_le_add_right (Nat.le_succ_of_le hkn) n) na) v.n⟩ hx3
  ·have z2:=Nat.le_antisymm hkn (Nat.le_of_sub_eq_zero (Nat.eq_zero_of_not_pos k0));exact h1m C hk ⟨m,v.pa,Nat.lt_of_le_of_ne pb (Ne.symm z),v.la,Nat.le_of_lt v.lb,Nat.le_trans (Nat.add_le_add_left (Nat.add_le_add_right (Nat.le_succ nb) n) na) v.n⟩ (z2▸hx3)
theorem h1k{mg bc ac:Nat}(v:HV e a b n na nb out):e.W (hiB a b mg bc ac na nb out) (HW e a b (n+1) st0) st:=by
 obtain⟨y,hby,hym,U⟩:=b0g (Nat.lt_of_lt_of_le (Nat.sub_one_lt_of_lt v.pb) v.lb);have hk':=hk.set mg;have m:=v.m;refine x0d (b0y hby (e0x (hk'.1.trans hκ) (C.cb y hym) ((Nat.zero_add na).symm▸v.la) C.ca (Nat.sub_one_lt_of_lt v.pa) rfl m.sa fun k hkn g1 g2=>?_));have hy3:∀ y',b[nb-1]?=some y'→∀ x∈a.toList.take k,e.f x≤e.f y':=fun y' hy' v hv=>by
  cases hby.symm.trans hy';exact t0f (g1 v (by rw[take_take,Nat.min_eq_left hkn];exact hv))
 refine d0d (fun k0=>?_) fun k0=>?_
 ·have m2:=m.ca hkn fun u hu w hw=>by
   rw[← Nat.sub_add_cancel (Nat.le_of_succ_le v.pb)]at m hw;exact Int.le_trans (m.hb hby w hw) (t0e (g2 u hu))
  exact e0w (fun z=>a0e ⟨hk',.fin (by clear hkn g1 g2 hy3 k0;cases z;exact m2.ga)⟩) fun z=>h1l C hκ hk' ⟨m2,Nat.pos_of_ne_zero z,v.pb,Nat.le_trans hkn v.la,v.lb,Nat.le_trans (Nat.add_le_add_right hkn _) v.n⟩ hy3
 ·have z2:=Nat.le_antisymm hkn (Nat.le_of_sub_eq_zero (Nat.eq_zero_of_not_pos k0));exact h1l C hκ hk' v (z2▸hy3)
theorem p1d{mg bc ac:Nat}(v:HV e a b n na nb out):e.W (hiG a b na nb out mg ac bc) (HW e a b (n+1) st0) st:=
 d0d (fun U=>h1k C hκ hk v) fun U=>h1k C hκ hk v
end
theorem HV.le{e:SE}{a b out:Array Keyed}{n m na nb:Nat}(h:n≤m)(v:HV e a b m na nb out):HV e a b n na nb out:=⟨v.m,v.pa,v.pb,v.la,v.lb,Nat.le_trans (Nat.add_le_add_left (Nat.add_le_add_left h nb) na) v.n⟩
section
variable {e:SE}{a b:Array Keyed}{st st0:SortSt}{out:Array Keyed}{na nb n N:Nat}(C:HiC e a b)(hκ:kindOf st0=e.κ)(hN:1≤N)(hk:LK st0 st)
include C hκ hN hk
theorem p1f{mg ac bc:Nat}(v:HV e a b (n+1) na nb out):e.W (hiP a b N mg na nb out ac bc) (fun t st'=>LK st0 st'∧LT (Good e.f (a.toList++b.toList)) (fun U=>False) (HX e a b (n+1)) t) st:=
 o0q (k0g (G:=Good e.f (a.toList++b.toList)) (P:=HX e a b (n+1)) (LK st0) (fun x=>HX e a b (n+1+x)) hk v
  (fun x r st' U hk h=>o0p (p1d C hκ hk h) fun t st2 q=>⟨q.1,q.2.imp (fun U h=>h) (fun r h=>HV.le (Nat.le_add_right _ (x+1)) h) fun U h=>h⟩)
  (fun r h=>HV.le (Nat.le_add_right _ _) h) (fun g r st' hk h=>a0e ⟨hk,.fin h⟩) fun r st' hk h=>x0d (a0e ⟨hk.set _,.go h⟩))
theorem p1e{mg:Nat}(v:HV e a b n na nb out):e.W (hiO a b N na nb out mg) (fun t st'=>LK st0 st'∧LT (Good e.f (a.toList++b.toList)) (fun U=>False) (HX e a b (n+1)) t) st:=
 k0g (G:=Good e.f (a.toList++b.toList)) (P:=HX e a b (n+1)) (LK st0) (fun x=>HX e a b (n+x)) hk v
  (fun x r st' U hk h=>o0p (p1g C hκ hk h) fun t st2 q=>⟨q.1,q.2.imp (fun U h=>h) (fun r h=>HV.le (Nat.add_le_add_left (Nat.le_add_left 1 x) n) h) fun U h=>h⟩)
  (fun r h=>HV.le (Nat.add_le_add_left hN n) h) (fun g r st' hk h=>a0e ⟨hk,.fin h⟩) fun r st' hk h=>p1f C hκ hN hk h
end
theorem d1o{e:SE}{a b:Array Keyed}{st0:SortSt}{Q:Array Keyed→SortSt→Prop}(C:HiC e a b)(hκ:kindOf st0=e.κ)(sa:SL e.f a.toList)(sb:SL e.f b.toList)(na:0<a.size)(nb:0<b.size)(hx:∀ x,a[a.size-1]?=some x→∀ y∈b.toList,e.f y≤e.f x)
  (q:∀ r st',Good e.f (a.toList++b.toList) r→LK st0 st'→Q r st'):e.W (p0x a b) Q st0:=by
 obtain⟨x,hax,U⟩:=b0g (Nat.sub_one_lt_of_lt na);have ta (a:Array Keyed):a.toList.take a.size=a.toList:=take_of_length_le (Nat.le_of_eq Array.length_toList);have h0:HM e a b a.size b.size #[]:=by
  unfold HM;rw[ta,ta];exact⟨(List.Perm.append (reverse_perm a.toList) (reverse_perm b.toList) :),.nil,sa.neg,sb.neg,fun x hx=>(not_mem_nil hx).elim,fun x hx=>(not_mem_nil hx).elim⟩
 have m:HM e a b (a.size-1) b.size #[x]:=by
  have z:=Nat.sub_add_cancel na;generalize a.size-1=n at z hax ⊢;rw[← z]at h0;exact h0.pa hax fun y hy=>hx x (by rw[← z];exact hax) y (mem_of_mem_take hy)
 rw[u0d];refine o0q (b0y hax (e0w (fun z=>a0e (q _ _ (by rw[z]at m ⊢;exact m.ga) (LK.refl _))) fun z1=>e0w (fun z=>a0e (q _ _ (by rw[z]at m ⊢;exact m.gf C nb) (LK.refl _))) fun z2=>n0u ?_));refine k0g (G:=Good e.f (a.toList++b.toList)) (P:=fun U=>False) (LK st0) (fun x=>HX e a b x) (LK.refl _) ⟨m,Nat.pos_of_ne_zero z1,Nat.lt_of_le_of_ne nb (Ne.symm z2),Nat.sub_le _ _,Nat.le_refl _,Nat.add_le_add_right (Nat.sub_le _ _) _⟩ (fun x r st' U hk h=>p1e C hκ (Nat.le_trans na (Nat.le_add_right _ _)) hk h) (fun r h=>?_) (fun g r st' hk h=>a0e (q g st' h hk)) fun U U U h=>False.elim h;exact absurd (Nat.le_trans (Nat.add_le_add_left (Nat.le_add_left _ _) _) h.n) (Nat.not_le_of_gt (Nat.lt_add_of_pos_left h.pa))
abbrev A2:=Option (Option Nat)×Nat
abbrev A3:=Option (Option Nat)×Nat×Nat
noncomputable def s1o(lo n:Nat):SM (ForInStep A2):=do
 let x←ltAt' (lo+n) (lo+n-1)
 match x with
 | some y=>if y=true then pure (.done (none,n)) else pure (.yield (none,n+1))
 | x=>pure (.done (some none,n))
noncomputable def crA(lo nrem n0:Nat)(k:Nat→SM (Option Nat)):SM (Option Nat):=do
 let c←forIn [n0:nrem] ((none,n0):A2) fun U s=>s1o lo s.2
 Break.runK c.1 (fun U=>k c.2) fun r=>pure r
noncomputable def crT(lo nrem n:Nat):SM (Option Nat):=do
 reverseSlice' lo (lo+n)
 crA lo nrem n fun n=>pure (some n)
noncomputable def s1p(lo n q:Nat):SM (ForInStep A3):=do
 let x←ltAt' (lo+n) (lo+n-1)
 match x with
 | some y=>
  if y=true then
   (if q>0 then do
    reverseSlice' (lo+n-(q+1)) (lo+n)
    pure (.yield (none,n+1,0))
   else pure (.yield (none,n+1,0)))
  else do
   let z←ltAt' (lo+n-1) (lo+n)
   match z with
   | some w=>if w=true then pure (.done (none,n,q)) else pure (.yield (none,n+1,q+1))
   | z=>pure (.done (some none,n,q))
 | x=>pure (.done (some none,n,q))
noncomputable def crD(lo nrem n:Nat):SM (Option Nat):=do
 liftM (PySem.rule "list.sort.descending-run")
 let c←forIn [n+1:nrem] ((none,n+1,0):A3) fun U s=>s1p lo s.2.1 s.2.2
 Break.runK c.1 (fun U=>if c.2.2>0 then do
   reverseSlice' (lo+c.2.1-(c.2.2+1)) (lo+c.2.1)
   crT lo nrem c.2.1
  else crT lo nrem c.2.1) fun r=>pure r
theorem p0g(lo nrem:Nat):countRun' lo nrem=crA lo nrem 1 fun n=>
 if (n == nrem)=true then pure (some n) else if n>1 then do
  let x←ltAt' lo (lo+n-1)
  match x with
  | some y=>if y=true then pure (some n) else do
   reverseSlice' lo (lo+n)
   crD lo nrem n
  | x=>pure none
 else crD lo nrem n:=rfl
noncomputable def biM(lo k l r:Nat):SM (ForInStep (Option Bool×Nat×Nat)):=
 if l≥r then pure (.done (none,l,r)) else do
  let x←ltAt' (lo+k) (lo+(l+r) / 2)
  match x with
  | some y=>if y=true then pure (.yield (none,l,(l+r) / 2)) else pure (.yield (none,(l+r) / 2+1,r))
  | x=>pure (.done (some false,l,r))
noncomputable def biO(lo k:Nat):SM (ForInStep (Option Bool×Unit)):=do
 let c←forIn [0:k] ((none,0,k):Option Bool×Nat×Nat) fun U c=>biM lo k c.2.1 c.2.2
 Break.runK c.1 (fun U=>do
  moveDown' (lo+k) (lo+c.2.1)
  pure (.yield (none,()))) fun r=>pure (.done (some r,()))
theorem l0i(lo n ok:Nat):binarySort' lo n ok=(do
 let c←forIn [max ok 1:n] ((none,()):Option Bool×Unit) fun k U=>biO lo k
 Break.runK c.1 (fun U=>pure true) fun r=>pure r):=rfl
noncomputable def KF(f:Keyed→Int)(xs:Array Keyed)(i:Nat):Int:=(xs[i]?.map f).getD 0
theorem t0a{f:Keyed→Int}{xs:Array Keyed}{i:Nat}{p:Keyed}(h:xs[i]?=some p):KF f xs i=f p:=by unfold KF;rw[h];rfl
def SO(lo hi:Nat)(xs ys:Array Keyed):Prop:=∀ i,i<lo∨hi≤i→ys[i]?=xs[i]?
theorem SO.refl(lo hi:Nat)(xs:Array Keyed):SO lo hi xs xs:=fun U U=>rfl
theorem SO.trans{lo hi:Nat}{xs ys zs:Array Keyed}(a:SO lo hi xs ys)(b:SO lo hi ys zs):SO lo hi xs zs:=fun i h=>(b i h).trans (a i h)
def Run(R:Int→Int→Prop)(g:Nat→Int)(lo n:Nat):Prop:=∀ i j,i<j→j<n→R (g (lo+i)) (g (lo+j))
abbrev SI:=Run fun x y=>x≤y
abbrev NI:=Run fun x y=>y≤x
abbrev EI:=Run fun x y=>x=y
section
variable {R:Int→Int→Prop}{g:Nat→Int}{lo n:Nat}{f:Keyed→Int}{xs:Array Keyed}
theorem Run.one:Run R g lo 1:=fun i j h k=>absurd (Nat.lt_of_lt_of_le h (Nat.le_of_lt_succ k)) (Nat.not_lt_zero i)
theorem Run.grow(tr:∀ x y z,R x y→R y z→R x z)(h:Run R g lo (n+1))(l:R (g (lo+n)) (g (lo+(n+1)))):Run R g lo (n+2):=fun i j hij hj=>by
 rcases Nat.lt_succ_iff_lt_or_eq.mp hj with hj | rfl
 ·exact h i j hij hj
 ·clear hj;rcases Nat.lt_succ_iff_lt_or_eq.mp hij with hi | rfl
  ·exact tr _ _ _ (h i n hi (Nat.lt_succ_self n)) l
  ·exact l
theorem Run.to{g':Nat→Int}(e:g'=g)(h:Run R g lo n):Run R g' lo n:=e▸h
theorem m0d{i i':Nat}(hn:i+i'+1=n)(hz:lo+n≤xs.size):(mirror xs lo (lo+n) ((lo+n-lo) / 2))[lo+i]?=xs[lo+i']?:=by
 rw[getElem?_mirror_all hz,if_pos ⟨Nat.le_add_right _ _,Nat.add_lt_add_left (Nat.lt_of_lt_of_eq (Nat.lt_succ_of_le (Nat.le_add_right i i')) hn) lo⟩];clear hz;subst hn;rw[show lo+(lo+(i+i'+1))-1=lo+i'+(lo+i) from ?_,Nat.add_sub_cancel];show lo+(lo+(i+i'))=_;omega
theorem o0f{i:Nat}(hz:lo+n≤xs.size)(h:i<lo∨lo+n≤i):(mirror xs lo (lo+n) ((lo+n-lo) / 2))[i]?=xs[i]?:=by
 rw[getElem?_mirror_all hz,if_neg fun z=>h.elim (fun y=>Nat.not_le_of_gt y z.1) fun y=>Nat.not_le_of_gt z.2 y]
theorem t0l{i:Nat}(h:i<n):∃ i',i+i'+1=n:=by
 obtain⟨k,hk⟩:=Nat.le.dest h;exact⟨k,by rw[← hk,Nat.succ_add]⟩
theorem Run.mirror(hz:lo+n≤xs.size)(h:Run R (KF f xs) lo n):Run (fun x y=>R y x) (KF f (mirror xs lo (lo+n) ((lo+n-lo) / 2))) lo n:=fun i j hij hj=>by
 obtain⟨i',hi'⟩:=t0l (Nat.lt_trans hij hj);obtain⟨j',hj'⟩:=t0l hj;unfold KF;rw[m0d hi' hz,m0d hj' hz];exact h j' i' (by omega) (by omega)
theorem EI.same(hz:lo+n≤xs.size)(h:EI (KF f xs) lo n):KF f (mirror xs lo (lo+n) ((lo+n-lo) / 2))=KF f xs:=funext fun k=>by
 by_cases hk:k<lo∨lo+n≤k
 ·unfold KF;rw[o0f hz hk]
 ·obtain⟨i,rfl⟩:=Nat.le.dest (Nat.le_of_not_lt fun z=>hk (.inl z));have hi:=Nat.lt_of_add_lt_add_left (Nat.lt_of_not_le fun z=>hk (.inr z));obtain⟨i',hi'⟩:=t0l hi;have:=m0d hi' hz;refine(show _=KF f xs (lo+i') from ?_).trans ?_
  ·unfold KF;rw[this]
  ·rcases Nat.lt_trichotomy i i' with z | z | z
   ·exact(h i i' z (hi'▸Nat.lt_succ_of_le (Nat.le_add_left _ _))).symm
   ·rw[z]
   ·exact h i' i z hi
theorem v0j{A B i:Nat}(hs:B<xs.size)(h:A≤B)(hi:i<A):KF f (bubble xs B (B-A)) i=KF f xs i:=by
 unfold KF;rw[getElem?_bubble hs _ (Nat.sub_le _ _),Nat.sub_sub_self h,if_neg (Nat.ne_of_lt hi),if_neg fun z=>Nat.lt_asymm hi z.1]
theorem g1o{A B:Nat}(hs:B<xs.size)(h:A≤B):KF f (bubble xs B (B-A)) A=KF f xs B:=by
 unfold KF;rw[getElem?_bubble hs _ (Nat.sub_le _ _),Nat.sub_sub_self h,if_pos rfl]
theorem g1p{A B i:Nat}(hs:B<xs.size)(h:A≤i)(hi:i<B):KF f (bubble xs B (B-A)) (i+1)=KF f xs i:=by
 unfold KF;rw[getElem?_bubble hs _ (Nat.sub_le _ _),Nat.sub_sub_self (Nat.le_trans h (Nat.le_of_lt hi)),if_neg (Nat.ne_of_gt (Nat.lt_succ_of_le h)),if_pos ⟨Nat.lt_succ_of_le h,Nat.succ_le_of_lt hi⟩];rfl
theorem i1a{A B i:Nat}(hs:B<xs.size)(h:A≤B)(hi:i<A∨B<i):(bubble xs B (B-A))[i]?=xs[i]?:=by
 rw[getElem?_bubble hs _ (Nat.sub_le _ _),Nat.sub_sub_self h,if_neg,if_neg]
 ·exact fun z=>hi.elim (Nat.lt_asymm z.1) (Nat.not_lt_of_ge z.2)
 ·exact fun z=>hi.elim (fun y=>Nat.ne_of_lt y z) fun y=>Nat.not_lt_of_ge h (z▸y)
theorem SI.insert{l k:Nat}(hs:lo+k<xs.size)(hl:l≤k)(h:SI (KF f xs) lo k)(h1:∀ i,i<l→KF f xs (lo+i)≤KF f xs (lo+k))(h2:∀ i,l≤i→i<k→KF f xs (lo+k)≤KF f xs (lo+i)):SI (KF f (bubble xs (lo+k) (lo+k-(lo+l)))) lo (k+1):=fun i j hij hj=>by
 have L:=Nat.add_le_add_left hl lo;rcases Nat.lt_trichotomy j l with z | z | z
 ·rw[v0j hs L (Nat.add_lt_add_left z lo),v0j hs L (Nat.add_lt_add_left (Nat.lt_trans hij z) lo)];exact h i j hij (Nat.lt_of_lt_of_le z hl)
 ·clear hl h2;subst z;rw[g1o hs L,v0j hs L (Nat.add_lt_add_left hij lo)];exact h1 i hij
 ·cases j with
  | zero=>exact absurd z (Nat.not_lt_zero l)
  | succ j=>
   have hj':=Nat.lt_of_succ_lt_succ hj;have z':=Nat.le_of_lt_succ z;rw[← Nat.add_assoc,g1p hs (Nat.add_le_add_left z' lo) (Nat.add_lt_add_left hj' lo)];rcases Nat.lt_trichotomy i l with y | y | y
   ·rw[v0j hs L (Nat.add_lt_add_left y lo)];exact h i j (Nat.lt_of_lt_of_le y z') hj'
   ·clear hl h1 z;subst y;rw[g1o hs L];exact h2 j z' hj'
   ·cases i with
    | zero=>exact absurd y (Nat.not_lt_zero l)
    | succ i=>
     have hi':=Nat.lt_of_succ_lt_succ hij;rw[← Nat.add_assoc,g1p hs (Nat.add_le_add_left (Nat.le_of_lt_succ y) lo) (Nat.add_lt_add_left (Nat.lt_trans hi' hj') lo)];exact h i j hi' hj'
end
structure SB(e:SE)(a₀:Array Keyed)(P:Array (Nat×Nat×Nat))(st:SortSt):Prop where
 perm:(arrOf st).Perm a₀
 kind:kindOf st=e.κ
 failed:failedOf st=none
 pend:pendingOf st=P
structure CR(e:SE)(a₀:Array Keyed)(P:Array (Nat×Nat×Nat))(xs:Array Keyed)(lo n:Nat)(st:SortSt):Prop extends SB e a₀ P st where
 o:SO lo (lo+n) xs (arrOf st)
 le:lo+n≤a₀.size
noncomputable abbrev KA(e:SE)(st:SortSt):Nat→Int:=KF e.f (arrOf st)
section
variable {e:SE}{st:SortSt}{a₀ xs:Array Keyed}{P:Array (Nat×Nat×Nat)}{lo nrem:Nat}
theorem SB.size(h:SB e a₀ P st):(arrOf st).size=a₀.size:=h.perm.size_eq
theorem SB.set(h:SB e a₀ P st){xs:Array Keyed}(p:xs.Perm (arrOf st)):SB e a₀ P (setArr st xs):=⟨p.trans h.perm,h.kind,h.failed,h.pend⟩
theorem SB.get(h:SB e a₀ P st){i:Nat}(hi:i<a₀.size):∃ p,(arrOf st)[i]?=some p∧p∈a₀.toList:=by
 obtain⟨p,hp,hm,U⟩:=b0g (h.size.symm▸hi);exact⟨p,hp,(Array.perm_iff_toList_perm.mp h.perm).mem_iff.mp hm⟩
theorem CR.fit{n:Nat}(h:CR e a₀ P xs lo nrem st)(hn:n≤nrem):lo+n≤(arrOf st).size:=h.size.symm▸Nat.le_trans (Nat.add_le_add_left hn lo) h.le
theorem CR.rev{b n:Nat}(h:CR e a₀ P xs lo nrem st)(h1:lo≤b)(h2:b+n≤lo+nrem):CR e a₀ P xs lo nrem (setArr st (mirror (arrOf st) b (b+n) ((b+n-b) / 2))):=
 ⟨h.toSB.set (mirror_perm ..),h.o.trans fun U hk=>o0f (h.size.symm▸Nat.le_trans h2 h.le) (hk.imp (fun z=>Nat.lt_of_lt_of_le z h1) fun z=>Nat.le_trans h2 z),h.le⟩
variable {α:Type}{Q:α→SortSt→Prop}(hS:∀ x∈a₀.toList,e.S x)
include hS
theorem d1m{i j:Nat}{k:Option Bool→SM α}(hB:SB e a₀ P st)(hi:i<a₀.size)(hj:j<a₀.size)(h1:KA e st i<KA e st j→e.W (k (some true)) Q st)(h2:KA e st j≤KA e st i→e.W (k (some false)) Q st):e.W (ltAt' i j >>= k) Q st:=by
 obtain⟨x,hx,mx⟩:=hB.get hi;obtain⟨y,hy,my⟩:=hB.get hj;unfold KA at h1 h2;rw[t0a hx,t0a hy]at h1 h2;refine r1p hB.kind hx hy (hS x mx) (hS y my) ?_;by_cases z:e.f x<e.f y
 ·rw[decide_eq_true z];exact h1 z
 ·rw[decide_eq_false z];exact h2 (Int.not_lt.mp z)
theorem o1y{n0:Nat}{k:Nat→SM (Option Nat)}{Q:Option Nat→SortSt→Prop}(hB:CR e a₀ P xs lo nrem st)(h1:1≤n0)(h2:n0≤nrem)(hs:SI (KA e st) lo n0)
  (q:∀ n,n0≤n→n≤nrem→SI (KA e st) lo n→(n=nrem∨n<nrem∧KA e st (lo+n)<KA e st (lo+n-1))→e.W (k n) Q st):e.W (crA lo nrem n0 k) Q st:=by
 refine q0n (G:=fun U=>False) (P:=fun n=>n0≤n∧n≤nrem∧SI (KA e st) lo n∧(n=nrem∨n<nrem∧KA e st (lo+n)<KA e st (lo+n-1))) h2 (fun st'=>st'=st) (fun x r=>r=x∧SI (KA e st) lo x) rfl ⟨rfl,hs⟩ ?_ (fun r h=>(Mac.i4_0 (h.1.symm▸h2) (Nat.le_of_eq h.1) (h.1.symm▸h.2) (.inl h.1))) (fun U U U U h=>False.elim h) fun r st' z h=>z▸q r h.1 h.2.1 h.2.2.1 h.2.2.2;intro x r st' x1 x2 z h;obtain⟨rfl,h⟩:=h;clear hs q;subst z;cases r with
 | zero=>exact absurd (Nat.le_trans h1 x1) (Nat.not_succ_le_zero 0)
 | succ r=>
  have l:=Nat.lt_of_lt_of_le (Nat.add_lt_add_left x2 lo) hB.le;exact d1m hS hB.toSB l (Nat.lt_of_succ_lt l) (fun z=>a0e ⟨rfl,.brk (Mac.i4_0 x1 (Nat.le_of_lt x2) h (.inr ⟨x2,z⟩))⟩) fun z=>a0e ⟨rfl,.go ⟨rfl,h.grow (fun U U U=>Int.le_trans) z⟩⟩
variable {Q:Option Nat→SortSt→Prop}(q:∀ m st',CR e a₀ P xs lo nrem st'→1≤m→m≤nrem→SI (KA e st') lo m→Q (some m) st')
include q
theorem p1a{n:Nat}(hB:CR e a₀ P xs lo nrem st)(h1:1≤n)(h2:n≤nrem)(hs:NI (KA e st) lo n):e.W (crT lo nrem n) Q st:=by
 have hB':=hB.rev (Nat.le_refl lo) (Nat.add_le_add_left h2 lo);exact n0v (o1y hS hB' h1 h2 (hs.mirror (hB.fit h2)) fun m g1 g2 g3 U=>a0e (q m _ hB' (Nat.le_trans h1 g1) g2 g3))
def q0t(g:Nat→Int)(lo n q:Nat):Prop:=∃ d,n=d+(q+1)∧EI g (lo+d) (q+1)
omit hS q in
theorem q0t.base{n q:Nat}{d:Nat}(e:n=d+(q+1)):lo+n-(q+1)=lo+d:=by rw[e,←Nat.add_assoc,Nat.add_sub_cancel]
omit hS q in
theorem CR.revT{n q:Nat}(hB:CR e a₀ P xs lo nrem st)(h:n≤nrem)(t:q0t (KA e st) lo n q):CR e a₀ P xs lo nrem (setArr st (mirror (arrOf st) (lo+n-(q+1)) (lo+n) ((lo+n-(lo+n-(q+1))) / 2)))∧KA e (setArr st (mirror (arrOf st) (lo+n-(q+1)) (lo+n) ((lo+n-(lo+n-(q+1))) / 2)))=KA e st:=by
 obtain⟨d,rfl,hE⟩:=t;rw[q0t.base rfl,←Nat.add_assoc];have l:lo+d+(q+1)≤lo+nrem:=Nat.le_trans (Nat.le_of_eq (Nat.add_assoc ..)) (Nat.add_le_add_left h lo);exact⟨hB.rev (Nat.le_add_right _ _) l,EI.same (hB.size.symm▸Nat.le_trans l hB.le) hE⟩
theorem o1z{n:Nat}(hB:CR e a₀ P xs lo nrem st)(h2:n+1≤nrem)(hs:NI (KA e st) lo (n+1)):e.W (crD lo nrem n) Q st:=by
 have tr:∀ x y z:Int,y≤x→z≤y→z≤x:=fun U U U a b=>Int.le_trans b a;refine o0q (n0d (G:=fun U U=>False) (P:=fun r st'=>(CR e a₀ P xs lo nrem st'∧NI (KA e st') lo r.1∧q0t (KA e st') lo r.1 r.2)∧1≤r.1∧r.1≤nrem) h2 (fun x r st'=>r.1=x∧CR e a₀ P xs lo nrem st'∧NI (KA e st') lo r.1∧q0t (KA e st') lo r.1 r.2) ⟨rfl,hB,hs,n,rfl,Run.one⟩ ?_
  (fun r st' h=>(Mac.i3_0 h.2 (h.1.symm▸Nat.le_trans (Nat.le_add_left 1 n) h2) (Nat.le_of_eq h.1))) (fun U U U h=>False.elim h) fun r st' h=>?_)
 ·rintro x ⟨m,q⟩ st' x1 x2 ⟨rfl,hB,hs,ht⟩;cases m with
  | zero=>exact absurd x1 (Nat.not_succ_le_zero n)
  | succ m=>
   have l:=Nat.lt_of_lt_of_le (Nat.add_lt_add_left x2 lo) hB.le;refine d1m hS hB.toSB l (Nat.lt_of_succ_lt l) (fun z=>?_) fun z=>d1m hS hB.toSB (Nat.lt_of_succ_lt l) l (fun U=>a0e (LT.brk (Mac.i3_0 ⟨hB,hs,ht⟩ (Nat.le_add_left 1 m) (Nat.le_of_lt x2)))) fun z2=>?_
   ·have hs2:=hs.grow tr (Int.le_of_lt z);refine d0d (fun U=>d0d (fun U=>n0v (a0e ?_)) fun U=>a0e (LT.go ⟨rfl,hB,hs2,m+1,rfl,Run.one⟩)) fun z=>absurd rfl z;obtain⟨h1,h2⟩:=hB.revT (Nat.le_of_lt x2) ht;exact LT.go ⟨rfl,h1,hs2.to h2,m+1,rfl,Run.one⟩
   ·obtain⟨d,hd,hE⟩:=ht;refine a0e (LT.go ⟨rfl,hB,hs.grow tr z2,d,congrArg Nat.succ hd,hE.grow (fun U U U=>Eq.trans) ?_⟩);rw[Nat.add_assoc,Nat.add_assoc];have hd':m=d+q:=Nat.succ.inj hd;clear x1 x2 hs l hd hE;subst hd';exact Int.le_antisymm z z2
 ·obtain⟨⟨hB,hs,ht⟩,h1,h2⟩:=h;refine d0d (fun U=>n0v ?_) fun U=>p1a hS q hB h1 h2 hs;obtain⟨g1,g2⟩:=hB.revT h2 ht;exact p1a hS q g1 h1 h2 (hs.to g2)
theorem y0t(hB:CR e a₀ P xs lo nrem st)(h2:1≤nrem):e.W (countRun' lo nrem) Q st:=by
 rw[p0g];refine o1y hS hB (Nat.le_refl 1) h2 Run.one fun n g1 g2 g3 g4=>e0w (fun z=>a0e (q n _ hB g1 g2 g3)) fun z=>?_;obtain⟨z1,z2⟩:=g4.resolve_left z;clear g4 z;cases n with
 | zero=>exact absurd g1 (Nat.not_succ_le_zero 0)
 | succ n=>
  have l:=Nat.lt_of_lt_of_le (Nat.add_lt_add_left z1 lo) hB.le;have ln:=Nat.lt_of_succ_lt l;have tr:∀ x y z:Int,y≤x→z≤y→z≤x:=fun U U U a b=>Int.le_trans b a;refine d0d (fun h=>d1m hS hB.toSB (Nat.lt_of_le_of_lt (Nat.le_add_right lo n) ln) ln (fun U=>a0e (q _ _ hB g1 g2 g3)) fun z3=>n0v ?_) fun h=>?_
  ·have hE:EI (KA e st) lo (n+1):=fun i j hij hj=>by
    refine Int.le_antisymm (g3 i j hij hj) (Int.le_trans (b:=KA e st (lo+n)) ?_ (Int.le_trans (b:=KA e st lo) z3 ?_))
    ·rcases Nat.lt_succ_iff_lt_or_eq.mp hj with y | y
     ·exact g3 j n y (Nat.lt_succ_self n)
     ·exact y▸Int.le_refl _
    ·cases i with
     | zero=>exact Int.le_refl _
     | succ i=>exact g3 0 (i+1) (Nat.succ_pos i) (Nat.lt_trans hij hj)
   exact o1z hS q (hB.rev (Nat.le_refl lo) (Nat.add_le_add_left g2 lo)) z1 (Run.to (EI.same (hB.fit g2) hE) (Run.grow tr (fun i j a b=>Int.le_of_eq (hE i j a b).symm) (Int.le_of_lt z2)))
  ·clear l ln;clear g1 g2 g3;cases Nat.eq_zero_of_not_pos fun z=>h (Nat.succ_lt_succ z);exact o1z hS q hB z1 (Run.grow tr Run.one (Int.le_of_lt z2))
omit q
theorem g1i{n ok:Nat}{Q:Bool→SortSt→Prop}(hB:CR e a₀ P xs lo n st)(h1:1≤n)(h2:ok≤n)(hs:SI (KA e st) lo ok)(q:∀ st',CR e a₀ P xs lo n st'→SI (KA e st') lo n→Q true st'):e.W (binarySort' lo n ok) Q st:=by
 rw[l0i];refine n0d (G:=fun U U=>False) (P:=fun U st'=>CR e a₀ P xs lo n st'∧SI (KA e st') lo n) (Nat.max_le.mpr ⟨h2,h1⟩) (fun x U st'=>CR e a₀ P xs lo n st'∧SI (KA e st') lo x) ⟨hB,?_⟩ (fun k U st' k1 k2 h=>?_) (fun U U h=>h) (fun U U U h=>False.elim h) fun U st' h=>a0e (q st' h.1 h.2)
 ·rcases Nat.le_total ok 1 with z | z
  ·rw[Nat.max_eq_right z];exact Run.one
  ·rw[Nat.max_eq_left z];exact hs
 ·obtain⟨hB,hs⟩:=h;have l:=Nat.lt_of_lt_of_le (Nat.add_lt_add_left k2 lo) hB.le;refine q0n (G:=fun U=>False) (P:=fun r=>r.1=r.2∧r.2≤k∧(∀ i,i<r.1→KA e st' (lo+i)≤KA e st' (lo+k))∧∀ i,r.2≤i→i<k→KA e st' (lo+k)≤KA e st' (lo+i)) (Nat.zero_le k) (fun st2=>st2=st')
   (fun x r=>(r.1≤r.2∧r.2≤k∧(∀ i,i<r.1→KA e st' (lo+i)≤KA e st' (lo+k))∧∀ i,r.2≤i→i<k→KA e st' (lo+k)≤KA e st' (lo+i))∧r.2+x≤k+r.1) rfl ⟨(Mac.i4_0 (Nat.zero_le k) (Nat.le_refl k) (fun i h=>absurd h (Nat.not_lt_zero i)) (fun i h1 h2=>absurd h2 (Nat.not_lt_of_ge h1))),Nat.le_refl k⟩ ?_
   (fun r h=>⟨Nat.le_antisymm h.1.1 (Nat.le_of_add_le_add_left (Nat.add_comm k r.2▸h.2)),h.1.2⟩) (fun U U U U h=>False.elim h) fun r st2 z h=>?_
  ·intro x r st2 U hx z hr;subst z;refine d0d (fun z=>a0e ⟨rfl,.brk ⟨Nat.le_antisymm hr.1.1 z,hr.1.2⟩⟩) fun z=>?_;have zz:=Nat.lt_of_not_ge z;have m1:r.1≤(r.1+r.2) / 2:=(Nat.le_div_iff_mul_le Nat.zero_lt_two).mpr ((Nat.mul_two _).symm▸Nat.add_le_add_left (Nat.le_of_lt zz) _);have m2:(r.1+r.2) / 2<r.2:=Nat.div_lt_of_lt_mul ((Nat.two_mul _).symm▸Nat.add_lt_add_right zz _);generalize (r.1+r.2) / 2=m at m1 m2 ⊢;have mn:=Nat.lt_of_lt_of_le m2 hr.1.2.1;refine d1m hS hB.toSB l (Nat.lt_trans (Nat.add_lt_add_left mn lo) l) (fun y=>a0e ⟨rfl,.go ⟨(Mac.i4_0 m1 (Nat.le_of_lt mn) hr.1.2.2.1 (fun i i1 i2=>?_)),Nat.lt_of_lt_of_le (Nat.add_lt_add_right m2 x) hr.2⟩⟩) fun y=>a0e ⟨rfl,.go ⟨(Mac.i4_0 m2 hr.1.2.1 (fun i i1=>?_) hr.1.2.2.2),Nat.succ_le_succ (Nat.le_trans hr.2 (Nat.add_le_add_left m1 k))⟩⟩
   ·rcases Nat.lt_or_eq_of_le i1 with w | w
    ·exact Int.le_trans (Int.le_of_lt y) (hs m i w i2)
    ·exact w▸Int.le_of_lt y
   ·rcases Nat.lt_succ_iff_lt_or_eq.mp i1 with w | w
    ·exact Int.le_trans (hs i m w mn) y
    ·exact w▸y
  ·subst z;obtain⟨h1,h2,h3,h4⟩:=h;have ls:lo+k<(arrOf st2).size:=hB.size.symm▸l;have hl:=h1.symm▸h2;refine n0v (a0e (LT.go ⟨⟨hB.toSB.set (bubble_perm ..),hB.o.trans fun i hi=>i1a ls (Nat.add_le_add_left hl lo) (hi.imp (fun z=>Nat.lt_of_lt_of_le z (Nat.le_add_right _ _)) fun z=>Nat.lt_of_lt_of_le (Nat.add_lt_add_left k2 lo) z),hB.le⟩,SI.insert ls hl hs h3 (h1.symm▸h4)⟩))
end
noncomputable def maG(X:Array Keyed)(sa na sb nb:Nat):SM Bool:=do
 let r←if na≤nb then p0y (X.extract sa sb) (X.extract sb (sb+nb)) else p0x (X.extract sa sb) (X.extract sb (sb+nb))
 modify fun s=>setArr s (r.toList.zipIdx.foldl (fun a (p,j)=>a.setIfInBounds (sa+j) p) (arrOf s))
 let s←MonadState.get
 pure (failedOf s).isNone
noncomputable def maF(X:Array Keyed)(sa na sb nb:Nat):SM Bool:=do
 let y←elem' X (sa+na-1)
 let z←f0c true y X sb nb (nb-1)
 match z with
 | some nb=>if (nb == 0)=true then pure true else maG X sa na sb nb
 | x=>pure false
noncomputable def maE(X:Array Keyed)(sa na sb nb:Nat):SM Bool:=do
 let y←elem' X sb
 let z←f0c false y X sa na 0
 match z with
 | some k=>if (na-k == 0)=true then pure true else maF X (sa+k) (na-k) sb nb
 | x=>pure false
noncomputable def maA(i:Nat)(s:SortSt)(a b:Option (Nat×Nat×Nat)):SM Bool:=
 match (a,b) with
 | (some (sa,na,power),some (sb,nb,_))=>do
  set (setPending s (((pendingOf s).setIfInBounds i (sa,na+nb,power)).eraseIdxIfInBounds (i+1)))
  maE (arrOf s) sa na sb nb
 | x=>liftM (PySem.unsupported "internal:list.sort.pending":Sem Bool)
theorem r0y(i:Nat):mergeAt' i=(do
 let s←MonadState.get
 maA i s (pendingOf s)[i]? (pendingOf s)[i+1]?):=rfl
section
variable {X:Array Keyed}{p A B q:List Keyed}{x y:Keyed}{f:Keyed→Int}
theorem v0e(h:X.toList=p++x::q):X[p.length]?=some x:=by
 rw[← Array.getElem?_toList,h,getElem?_append_right (Nat.le_refl _),Nat.sub_self];rfl
theorem u0r(h:X.toList=p++(A++q)):(X.toList.drop p.length).take A.length=A:=by rw[h,List.drop_left,take_left]
theorem a1n(h:X.toList=p++(A++q)):(X.extract p.length (p.length+A.length)).toList=A:=(i1n ..).trans (u0r h)
theorem a1p(h:X.toList=p++(A++q)):p.length+A.length≤X.size:=by
 rw[← Array.length_toList,h,length_append,length_append];exact Nat.add_le_add_left (Nat.le_add_right _ _) _
theorem y0w(s:Nat):∀ (l M A B:List Keyed) (j:Nat) (xs:Array Keyed),xs.toList=A++(M++B)→M.length=l.length→A.length=s+j→
  ((l.zipIdx j).foldl (fun(a:Array Keyed) (p:Keyed×Nat)=>a.setIfInBounds (s+p.2) p.1) xs).toList=A++(l++B):=fun l=>by
 induction l with
 | nil=>intro M A B j xs h hm ha;rw[length_eq_zero_iff.mp hm]at h;exact h
 | cons p l ih=>
  intro M A B j xs h hm ha;cases M with
  | nil=>cases hm
  | cons m M=>
   rw[zipIdx_cons,foldl_cons,ih M (A++[p]) B (j+1) (xs.setIfInBounds (s+j) p) ?_ (Nat.succ.inj hm) (by rw[length_append,ha];rfl),append_assoc]
   ·rw[Array.toList_setIfInBounds,h,set_append_right _ _ (Nat.le_of_eq ha),ha,Nat.sub_self];rfl
   ·exact append_assoc ..
end
section
variable {e:SE}{st:SortSt}{a₀:Array Keyed}{P:Array (Nat×Nat×Nat)}{p A B q:List Keyed}{x y:Keyed}{Q:Bool→SortSt→Prop}
theorem r1s(hS:∀ u∈(arrOf st).toList,e.S u)(hB:SB e a₀ P st)(hX:(arrOf st).toList=p++((A++[x])++((y::B)++q)))(sA:SL e.f (A++[x]))(sB:SL e.f (y::B))(h1:∀ v∈y::B,e.f v≤e.f x)(h2:∀ u∈A++[x],e.f y≤e.f u)
  (h:∀ r st',SL e.f r→r.Perm ((A++[x])++(y::B))→SB e a₀ P st'→(arrOf st').toList=p++(r++q)→Q true st'):e.W (maG (arrOf st) p.length (A++[x]).length (p.length+(A++[x]).length) (y::B).length) Q st:=by
 have eX:=a1n hX;have eY:=a1n (X:=arrOf st) (p:=p++(A++[x])) (A:=y::B) (q:=q) (hX.trans (append_assoc ..).symm);rw[length_append]at eY;unfold maG;generalize (arrOf st).extract p.length (p.length+(A++[x]).length)=u at eX ⊢;generalize (arrOf st).extract (p.length+(A++[x]).length) _=v at eY ⊢;have hu:∀ z∈u.toList,e.S z:=fun z hz=>hS z (by rw[hX];exact mem_append_right _ (mem_append_left _ (eX▸hz)));have hv:∀ z∈v.toList,e.S z:=fun z hz=>hS z (by rw[hX];exact mem_append_right _ (mem_append_right _ (mem_append_left _ (eY▸hz))));have zu:∀ z,u[u.size-1]?=some z→∀ w∈v.toList,e.f w≤e.f z:=fun z hz=>by
  rw[← Array.length_toList,eX,length_append]at hz;cases(v0e (q:=[]) eX).symm.trans hz;exact eY▸h1
 have zv:∀ z,v[0]?=some z→∀ w∈u.toList,e.f z≤e.f w:=fun z hz=>by
  cases(v0e (p:=[]) eY).symm.trans hz;exact eX▸h2
 have nu:0<u.size:=by rw[← Array.length_toList,eX,length_append];exact Nat.succ_pos _
 have nv:0<v.size:=by rw[← Array.length_toList,eY];exact Nat.succ_pos _
 rw[← eX,←eY]at h;rw[← eX]at sA;rw[← eY]at sB;rw[← eX,←eY]at hX;have fin:∀ r st2,Good e.f (u.toList++v.toList) r→LK st st2→e.W (do
   modify fun s=>setArr s (r.toList.zipIdx.foldl (fun(a:Array Keyed) (z:Keyed×Nat)=>a.setIfInBounds (p.length+z.2) z.1) (arrOf s))
   let s←MonadState.get
   pure (failedOf s).isNone) Q st2:=fun r st2 g k=>by
  have hT:=y0w p.length r.toList (u.toList++v.toList) p q 0 (arrOf st2) (by rw[k.2.1,hX,append_assoc]) g.2.length_eq.symm rfl;refine n0v (n0u (a0e ?_));have hf:(failedOf st2).isNone=true:=by rw[k.2.2.2,hB.failed];rfl
  show Q (failedOf st2).isNone _;rw[hf];refine h r.toList _ g.1 g.2 ⟨?_,k.1.trans hB.kind,k.2.2.2.trans hB.failed,k.2.2.1.trans hB.pend⟩ hT;refine Array.Perm.trans (Array.perm_iff_toList_perm.mpr ?_) hB.perm;refine(List.Perm.of_eq hT).trans ((List.Perm.append_left p (List.Perm.append_right q g.2)).trans (List.Perm.of_eq ?_));rw[hX,append_assoc]
 exact d0d (fun U=>g0x (d1p ⟨hu,hv,zu⟩ hB.kind sA sB nu nv zv fin)) fun U=>g0x (d1o ⟨hu,hv,zv⟩ hB.kind sA sB nu nv zu fin)
theorem r1r(hS:∀ u∈(arrOf st).toList,e.S u)(hB:SB e a₀ P st)(hX:(arrOf st).toList=p++((A++[x])++((y::B)++q)))(sA:SL e.f (A++[x]))(sB:SL e.f (y::B))(h2:∀ u∈A++[x],e.f y≤e.f u)
  (h:∀ r st',SL e.f r→r.Perm ((A++[x])++(y::B))→SB e a₀ P st'→(arrOf st').toList=p++(r++q)→Q true st'):e.W (maF (arrOf st) p.length (A++[x]).length (p.length+(A++[x]).length) (y::B).length) Q st:=by
 have e1:p.length+(A++[x]).length-1=(p++A).length:=by rw[length_append,length_append];rfl
 have hX2:(arrOf st).toList=(p++(A++[x]))++((y::B)++q):=hX.trans (append_assoc ..).symm;have e2:p.length+(A++[x]).length=(p++(A++[x])).length:=length_append.symm;unfold maF;refine b0y (x:=x) (by rw[e1];exact v0e (q:=(y::B)++q) (by rw[hX,append_assoc A,append_assoc p];rfl)) (e0x hB.kind (hS x (by rw[hX];exact mem_append_right _ (mem_append_left _ (mem_append_right _ (.head _))))) (e2▸a1p hX2) hS (Nat.lt_succ_self _) (e2▸u0r hX2) sB fun k hk g3 g4=>?_);have hx:=SL.last sA;cases k with
 | zero=>exact a0e (h _ st (SL.app.mpr (Mac.i3_0 sA sB (fun u hu v hv=>Int.le_trans (hx u hu) (t0e (g4 v hv))))) (List.Perm.refl _) hB (hX.trans (congrArg _ (append_assoc ..).symm)))
 | succ k=>
  have lk:(B.take k).length=k:=by rw[length_take,Nat.min_eq_left (Nat.le_of_succ_le_succ hk)]
  have sp:y::B=(y::B.take k)++B.drop k:=by rw[cons_append,take_append_drop]
  rw[show(y::B).take (k+1)=y::B.take k from rfl]at g3;rw[show(y::B).drop (k+1)=B.drop k from rfl]at g4;rw[sp]at sB;obtain⟨s1,s2,s3⟩:=SL.app.mp sB;have hG:=r1s (B:=B.take k) (q:=B.drop k++q) (Q:=Q) hS hB (by rw[hX,sp,append_assoc (y::B.take k)]) sA s1 (fun v hv=>t0f (g3 v hv)) h2 fun r st' a1 a2 a3 a4=>h (r++B.drop k) st' (SL.app.mpr (Mac.i3_0 a1 s2 (fun u hu v hv=>?_))) (by rw[sp,←append_assoc];exact a2.append_right _) a3 (by rw[a4,append_assoc])
  ·rw[show(y::B.take k).length=k+1 from congrArg Nat.succ lk]at hG;exact d0d (fun z=>nomatch z) fun U=>hG
  ·rcases mem_append.mp (a2.mem_iff.mp hu) with hu | hu
   ·exact Int.le_trans (hx u hu) (t0e (g4 v hv))
   ·exact s3 u hu v hv
theorem r1q(hS:∀ u∈(arrOf st).toList,e.S u)(hB:SB e a₀ P st)(hX:(arrOf st).toList=p++(A++((y::B)++q)))(hA:0<A.length)(sA:SL e.f A)(sB:SL e.f (y::B))
  (h:∀ r st',SL e.f r→r.Perm (A++(y::B))→SB e a₀ P st'→(arrOf st').toList=p++(r++q)→Q true st'):e.W (maE (arrOf st) p.length A.length (p.length+A.length) (y::B).length) Q st:=by
 have hX2:(arrOf st).toList=(p++A)++(y::(B++q)):=hX.trans (append_assoc ..).symm;have e2:p.length+A.length=(p++A).length:=length_append.symm;have yB:=SL.first sB
 refine b0y (e2▸v0e hX2) (e0x hB.kind (hS y (by rw[hX2];exact mem_append_right _ (.head _))) (a1p hX) hS hA (u0r hX) sA fun k hk g1 g2=>?_);refine e0w (fun z=>?_) fun z=>?_
 ·rw[take_of_length_le (Nat.le_of_sub_eq_zero z)]at g1;exact a0e (h _ st (SL.app.mpr (Mac.i3_0 sA sB (fun u hu v hv=>Int.le_trans (t0f (g1 u hu)) (yB v hv)))) (List.Perm.refl _) hB (hX.trans (congrArg _ (append_assoc ..).symm)))
 ·have lk:(A.take k).length=k:=by rw[length_take,Nat.min_eq_left hk]
  have ld:(A.drop k).length=A.length-k:=length_drop;have sp:=take_append_drop k A;generalize A.take k=A1 at *;rcases eq_nil_or_concat (A.drop k) with n | ⟨A2,x,n⟩
  ·rw[n]at ld;exact absurd ld.symm z
  ·rw[concat_eq_append]at n;rw[n]at sp g2 ld;rw[← sp]at sA;obtain⟨s1,s2,s3⟩:=SL.app.mp sA;have lp:(p++A1).length=p.length+k:=by rw[length_append,lk]
   have hF:=r1r (p:=p++A1) (A:=A2) (x:=x) (Q:=Q) hS hB (by rw[hX,←sp,append_assoc A1,append_assoc p]) s2 sB (fun u hu=>t0e (g2 u hu)) fun r st' a1 a2 a3 a4=>h (A1++r) st' (SL.app.mpr (Mac.i3_0 s1 a1 (fun u hu v hv=>?_))) (by rw[← sp,append_assoc A1];exact a2.append_left _) a3 (by rw[a4,append_assoc p,append_assoc A1])
   ·rw[lp,ld,Nat.add_assoc,Nat.add_sub_cancel' hk]at hF;exact hF
   ·rcases mem_append.mp (a2.mem_iff.mp hv) with hv | hv
    ·exact s3 u hu v hv
    ·exact Int.le_trans (t0f (g1 u hu)) (yB v hv)
theorem d1n{pw pw2:Nat}{pre post:List (Nat×Nat×Nat)}(hS:∀ u∈(arrOf st).toList,e.S u)(hB:SB e a₀ P st)(hP:P.toList=pre++(p.length,A.length,pw)::(p.length+A.length,B.length,pw2)::post)(hX:(arrOf st).toList=p++(A++(B++q)))(hA:0<A.length)(hBl:0<B.length)(sA:SL e.f A)(sB:SL e.f B)
  (h:∀ P' r st',P'.toList=pre++(p.length,A.length+B.length,pw)::post→SL e.f r→r.Perm (A++B)→SB e a₀ P' st'→(arrOf st').toList=p++(r++q)→Q true st'):e.W (mergeAt' pre.length) Q st:=by
 cases B with
 | nil=>exact absurd hBl (Nat.not_lt_zero 0)
 | cons y B=>
  have p1:(pendingOf st)[pre.length]?=some (p.length,A.length,pw):=by
   rw[hB.pend,←Array.getElem?_toList,hP,getElem?_append_right (Nat.le_refl _),Nat.sub_self];rfl
  have p2:(pendingOf st)[pre.length+1]?=some (p.length+A.length,(y::B).length,pw2):=by
   rw[hB.pend,←Array.getElem?_toList,hP,getElem?_append_right (Nat.le_add_right _ 1),Nat.add_sub_cancel_left];rfl
  rw[r0y];refine n0u ?_;rw[p1,p2];refine r1t (r1q (st:=setPending st (((pendingOf st).setIfInBounds pre.length (p.length,A.length+(y::B).length,pw)).eraseIdxIfInBounds (pre.length+1))) hS ⟨hB.perm,hB.kind,hB.failed,rfl⟩ hX hA sA sB fun r st'=>h _ r st' ?_);rw[Array.toList_eraseIdxIfInBounds,Array.toList_setIfInBounds,hB.pend,hP,set_append_right _ _ (Nat.le_refl _),Nat.sub_self,set_cons_zero,List.eraseIdx_append_of_length_le (Nat.le_add_right _ 1),Nat.add_sub_cancel_left];rfl
end
abbrev Trp:=Nat×Nat×Nat
noncomputable def k1d(pw:Nat):SM (ForInStep (Option Unit×Unit)):=do
 let s←MonadState.get
 match if (pendingOf s).size>1 then(pendingOf s)[(pendingOf s).size-2]? else none with
 | some (_,_,older)=>
  if older≤pw then pure (.done (none,()))
  else do
   let b←mergeAt' ((pendingOf s).size-2)
   if (!b)=true then pure (.done (some (),())) else pure (.yield (none,()))
 | x=>pure (.done (none,()))
noncomputable def c1x(lo n:Nat):SM (ForInStep (Option Unit×Nat)):=do
 modify fun s=>setPending s ((pendingOf s).push (lo,n,0))
 pure (.yield (none,lo+n))
noncomputable def s1x(size lo n pw:Nat):SM (ForInStep (Option Unit×Nat)):=do
 let c←forIn [0:size] ((none,()):Option Unit×Unit) fun U U=>k1d pw
 Break.runK c.1 (fun U=>do
  modify fun s=>setPending s ((pendingOf s).modify ((pendingOf s).size-1) fun(st,len,_)=>(st,len,pw))
  c1x lo n) fun r=>pure (.done (some r,lo))
noncomputable def srB(size lo n:Nat):SM (ForInStep (Option Unit×Nat)):=do
 let s←MonadState.get
 match (pendingOf s).back? with
 | some (s1,n1,_)=>s1x size lo n (power' size (2*s1+n1) (2*s1+n1+n1+n) size)
 | x=>c1x lo n
noncomputable def srA(size mr lo:Nat):SM (ForInStep (Option Unit×Nat)):=
 if lo≥size then pure (.done (none,lo)) else do
  let x←countRun' lo (size-lo)
  match x with
  | some m=>
   if m<mr then do
    liftM (PySem.rule "list.sort.binary-insertion")
    let b←binarySort' lo (min (size-lo) mr) m
    if (!b)=true then pure (.done (some (),lo)) else srB size lo (min (size-lo) mr)
   else srB size lo m
  | x=>pure (.done (some (),lo))
noncomputable def srI(p:Array Trp):Nat:=
 let i:=p.size-2
 let before:=if i>0 then p[i-1]?.map (·.2.1) else none
 if before.any (·<(p[i+1]?.elim 0 (·.2.1))) then i-1 else i
noncomputable def srE:SM (ForInStep (Option Unit×Unit)):=do
 let s←MonadState.get
 if (pendingOf s).size≤1 then pure (.done (none,())) else do
  let b←mergeAt' (srI (pendingOf s))
  if (!b)=true then pure (.done (some (),())) else pure (.yield (none,()))
theorem q0g:sortRuns'=(do
 let s←MonadState.get
 let c←forIn [0:(arrOf s).size] ((none,0):Option Unit×Nat) fun U c=>srA (arrOf s).size (minRun' (arrOf s).size (arrOf s).size 0) c.2
 Break.runK c.1 (fun U=>do
  let c←forIn [0:(arrOf s).size] ((none,()):Option Unit×Unit) fun U U=>srE
  Break.runK c.1 (fun U=>pure ()) fun r=>pure r) fun r=>pure r):=rfl
inductive Pk(f:Keyed→Int):Nat→List Trp→List (List Keyed)→Prop
 | nil {a}:Pk f a [] []
 | cons {a pw P A R}:0<A.length→SL f A→Pk f (a+A.length) P R→Pk f a ((a,A.length,pw)::P) (A::R)
theorem Pk.push{f:Keyed→Int}{a pw:Nat}{P:List Trp}{R:List (List Keyed)}{A:List Keyed}(h1:0<A.length)(h2:SL f A)(h:Pk f a P R):Pk f a (P++[(a+R.flatten.length,A.length,pw)]) (R++[A]):=by
 induction h with
 | nil=>exact .cons h1 h2 .nil
 | @cons a _ P B R b1 b2 b3 ih=>
  rw[flatten_cons,length_append,←Nat.add_assoc];exact .cons b1 b2 ih
theorem Pk.like{f:Keyed→Int}{a:Nat}{P:List Trp}{R:List (List Keyed)}(h:Pk f a P R):∀ {P':List Trp},(P'.map fun t=>(t.1,t.2.1))=(P.map fun t=>(t.1,t.2.1))→Pk f a P' R:=by
 induction h with
 | nil=>intro P' z;cases map_eq_nil_iff.mp z;exact .nil
 | cons b1 b2 b3 ih=>
  intro P' z;cases P' with
  | nil=>cases z
  | cons t P'=>
   injection z with z1 z2;obtain⟨t1,t2,t3⟩:=t;obtain⟨y1,y2⟩:=Prod.mk.inj z1;dsimp only at y1 y2;clear b3 z1;subst y1;subst y2;exact .cons b1 b2 (ih z2)
theorem Pk.le{f:Keyed→Int}{a:Nat}{P:List Trp}{R:List (List Keyed)}(h:Pk f a P R):P.length≤R.flatten.length:=by
 induction h with
 | nil=>exact Nat.zero_le _
 | cons b1 b2 b3 ih=>
  rw[flatten_cons,length_append,length_cons,Nat.add_comm];exact Nat.add_le_add b1 ih
inductive PkM(f:Keyed→Int) (a i:Nat) (P:List Trp) (R:List (List Keyed)):Prop
 | mk (pre post:List Trp) (pw pw2:Nat) (L T:List (List Keyed)) (A B:List Keyed) (hi:pre.length=i)
  (hP:P=pre++(a+L.flatten.length,A.length,pw)::(a+L.flatten.length+A.length,B.length,pw2)::post) (hR:R=L++A::B::T) (a1:0<A.length) (b1:0<B.length) (a2:SL f A) (b2:SL f B)
  (m:∀ r,r.length=A.length+B.length→SL f r→Pk f a (pre++(a+L.flatten.length,A.length+B.length,pw)::post) (L++r::T))
theorem Pk.at{f:Keyed→Int}{a:Nat}{P:List Trp}{R:List (List Keyed)}(h:Pk f a P R):∀ i,i+1<P.length→PkM f a i P R:=by
 induction h with
 | nil=>intro i hi;cases hi
 | @cons a pw P A R a1 a2 h ih=>
  intro i hi;cases i with
  | zero=>
   clear ih;cases h with
   | nil=>cases Nat.lt_of_succ_lt_succ hi
   | @cons _ pw2 P B R b1 b2 h=>exact⟨[],P,pw,pw2,[],R,A,B,rfl,rfl,rfl,a1,b1,a2,b2,fun r hr sr=>hr▸.cons (hr▸Nat.add_pos_left a1 _) sr (by rw[hr,←Nat.add_assoc];exact h)⟩
  | succ i=>
   obtain⟨pre,post,pw1,pw2,L,T,A',B,hi,hP,hR,z1,z2,z3,z4,m⟩:=ih i (Nat.lt_of_succ_lt_succ hi);have e:a+(A::L).flatten.length=a+A.length+L.flatten.length:=by rw[flatten_cons,length_append,Nat.add_assoc]
   rw[← e]at hP m;exact⟨(a,A.length,pw)::pre,post,pw1,pw2,A::L,T,A',B,congrArg Nat.succ hi,congrArg _ hP,congrArg _ hR,z1,z2,z3,z4,fun r hr sr=>.cons a1 a2 (m r hr sr)⟩
theorem u0f(P:Array Trp)(i pw:Nat):((P.modify i fun x=>match x with | (st,len,_)=>(st,len,pw)).toList.map fun t=>(t.1,t.2.1))=(P.toList.map fun t=>(t.1,t.2.1)):=by
 refine ext_getElem? fun j=>?_;rw[gmp,gmp,Array.getElem?_toList,Array.getElem?_toList,Array.getElem?_modify];by_cases z:i=j
 ·rw[if_pos z];cases P[j]? <;> rfl
 ·rw[if_neg z]
inductive LI(e:SE) (a₀:Array Keyed) (lo:Nat) (rest:List Keyed) (st:SortSt):Prop
 | mk (P:Array Trp) (R:List (List Keyed)):SB e a₀ P st→Pk e.f 0 P.toList R→(arrOf st).toList=R.flatten++rest→R.flatten.length=lo→LI e a₀ lo rest st
theorem n1r{f:Keyed→Int}{X:Array Keyed}{lo n:Nat}(h:SI (KF f X) lo n)(hn:lo+n≤X.size):SL f ((X.toList.drop lo).take n):=by
 unfold SL;rw[pairwise_iff_getElem];intro i j hi hj hij;have lj:j<n:=Nat.lt_of_lt_of_le hj (length_take_le _ _);have g (i:Nat) (hi:i<((X.toList.drop lo).take n).length):KF f X (lo+i)=f ((X.toList.drop lo).take n)[i]:=t0a (by
  rw[← geg hi,getElem?_take_of_lt (Nat.lt_of_lt_of_le hi (length_take_le _ _)),getElem?_drop,Array.getElem?_toList])
 rw[← g i hi,←g j hj];exact h i j hij lj
section
variable {e:SE}{st:SortSt}{a₀:Array Keyed}{lo n:Nat}{rest:List Keyed}(hS:∀ x∈a₀.toList,e.S x)
include hS
theorem x0b{i:Nat}{k:Bool→SM α}{P:Array Trp}{R:List (List Keyed)}{Q:α→SortSt→Prop}(hB:SB e a₀ P st)(hP:Pk e.f 0 P.toList R)(hX:(arrOf st).toList=R.flatten++rest)(hl:R.flatten.length=lo)(hi:i+1<P.size)
  (h:∀ st' P',pendingOf st'=P'→P'.size+1=P.size→LI e a₀ lo rest st'→e.W (k true) Q st'):e.W (mergeAt' i >>= k) Q st:=by
 obtain⟨pre,post,pw,pw2,L,T,A,B,rfl,hP2,rfl,a1,b1,a2,b2,hm⟩:=hP.at i hi;rw[Nat.zero_add]at hP2 hm;rw[flatten_append,flatten_cons,flatten_cons]at hX hl;have hX2:(arrOf st).toList=L.flatten++(A++(B++(T.flatten++rest))):=by
  rw[hX,append_assoc L.flatten,append_assoc A,append_assoc B]
 refine g0x (d1n (fun x hx=>hS x ((Array.perm_iff_toList_perm.mp hB.perm).mem_iff.mp hx)) hB hP2 hX2 a1 b1 a2 b2 fun P' r st' g1 g2 g3 g4 g5=>h st' P' g4.pend ?_ ?_)
 ·rw[← Array.length_toList,←Array.length_toList,g1,hP2,length_append,length_append];rfl
 ·have hr:r.length=A.length+B.length:=g3.length_eq.trans length_append;refine .mk P' _ g4 (g1▸hm r hr g2) ?_ ?_
  ·rw[g5,flatten_append,flatten_cons,append_assoc L.flatten,append_assoc r]
  ·rw[← hl,flatten_append,flatten_cons,length_append,length_append,length_append,length_append,length_append,hr,Nat.add_assoc A.length]
theorem k1x{pw:Nat}(h:LI e a₀ lo rest st):e.W (k1d pw) (fun t st'=>LI e a₀ lo rest st'∧LT (fun U=>False) (fun U=>True) (fun U=>True) t) st:=by
 have h0:=h;obtain⟨P,R,hB,hP,hX,hl⟩:=h;unfold k1d;refine n0u ?_;rw[hB.pend];by_cases h1:P.size>1
 ·rw[if_pos h1];obtain⟨t,ht,U⟩:=b0g (a:=P) (i:=P.size-2) (Nat.sub_lt (Nat.lt_of_succ_lt h1) Nat.two_pos);rw[ht];refine d0d (fun U=>a0e ⟨h0,.brk trivial⟩) fun U=>x0b hS hB hP hX hl (Nat.lt_of_lt_of_eq (Nat.lt_succ_self _) (Nat.sub_add_cancel h1)) fun st' P' U U h=>a0e ⟨h,.go trivial⟩
 ·rw[if_neg h1];exact a0e ⟨h0,.brk trivial⟩
abbrev LJ(e:SE)(a₀:Array Keyed)(lo:Nat)(t:ForInStep (Option Unit×Nat))(st:SortSt):Prop:=
 LT (fun U=>False) (fun m=>m=a₀.size∧∃ rest,LI e a₀ m rest st) (fun m=>lo<m∧m≤a₀.size∧∃ rest,LI e a₀ m rest st) t
theorem x0e{A:List Keyed}(h:LI e a₀ lo (A++rest) st)(h1:0<A.length)(h2:SL e.f A):e.W (c1x lo A.length) (LJ e a₀ lo) st:=by
 obtain⟨P,R,hB,hP,hX,rfl⟩:=h;have hX2:(arrOf st).toList=(R++[A]).flatten++rest:=by rw[hX,flatten_append,flatten_singleton,append_assoc R.flatten]
 have hl:(R++[A]).flatten.length=R.flatten.length+A.length:=by rw[flatten_append,flatten_singleton,length_append]
 have hp:=hP.push (pw:=0) h1 h2;rw[Nat.zero_add,←Array.toList_push,←hB.pend]at hp;refine n0v (a0e (LT.go ⟨Nat.lt_add_of_pos_right h1,?_,rest,.mk _ _ ⟨hB.perm,hB.kind,hB.failed,rfl⟩ hp hX2 hl⟩));rw[← hl,←hB.size,←Array.length_toList,hX2,length_append (bs:=rest)];exact Nat.le_add_right _ _
theorem r1v{A:List Keyed}{size:Nat}(h:LI e a₀ lo (A++rest) st)(h1:0<A.length)(h2:SL e.f A):e.W (srB size lo A.length) (LJ e a₀ lo) st:=by
 refine n0u ?_;cases(pendingOf st).back? with
 | none=>exact x0e hS h h1 h2
 | some t=>
  refine q0n (G:=fun U=>False) (P:=fun U=>True) (Nat.zero_le size) (fun st'=>LI e a₀ lo (A++rest) st') (fun U U=>True) h trivial (fun x U st' U U h U=>k1x hS h) (fun U U=>trivial) (fun U U U U h=>False.elim h) fun U st' h U=>?_;obtain⟨P,R,hB,hP,hX,hl⟩:=h;exact n0v (x0e hS (.mk _ R ⟨hB.perm,hB.kind,hB.failed,rfl⟩ (hP.like (hB.pend▸u0f ..)) hX hl) h1 h2)
omit hS in
theorem CR.cut{P:Array Trp}{xs:Array Keyed}{nrem:Nat}{R:List (List Keyed)}(c:CR e a₀ P xs lo nrem st)(hX:xs.toList=R.flatten++rest)(hl:R.flatten.length=lo):(arrOf st).toList=R.flatten++(arrOf st).toList.drop lo:=by
 have t:(arrOf st).toList.take lo=R.flatten:=by
  rw[← take_left (l₁:=R.flatten) (l₂:=rest),←hX,hl];refine ext_getElem? fun i=>?_;rcases Nat.lt_or_ge i lo with l | l
  ·rw[getElem?_take_of_lt l,getElem?_take_of_lt l,Array.getElem?_toList,Array.getElem?_toList];exact c.o i (.inl l)
  ·rw[getElem?_take_eq_none l,getElem?_take_eq_none l]
 rw[← t,take_append_drop]
theorem p1c{P:Array Trp}{xs:Array Keyed}{nrem:Nat}{R:List (List Keyed)}(c:CR e a₀ P xs lo nrem st)(hP:Pk e.f 0 P.toList R)(hX:xs.toList=R.flatten++rest)(hl:R.flatten.length=lo)(h1:1≤n)(h2:n≤nrem)(hs:SI (KA e st) lo n):e.W (srB a₀.size lo n) (LJ e a₀ lo) st:=by
 have f:=c.fit h2;have lA:(((arrOf st).toList.drop lo).take n).length=n:=by rw[length_take,length_drop,Array.length_toList,Nat.min_eq_left (Nat.le_sub_of_add_le' f)]
 have:=r1v hS (size:=a₀.size) (rest:=((arrOf st).toList.drop lo).drop n) (.mk P R c.toSB hP ((take_append_drop n _).symm▸c.cut hX hl) hl) (lA.symm▸h1) (n1r hs f);rw[lA]at this;exact this
theorem r1u{mr:Nat}(h:LI e a₀ lo rest st)(hl:lo≤a₀.size):e.W (srA a₀.size mr lo) (LJ e a₀ lo) st:=by
 refine d0d (fun z=>a0e (LT.brk ⟨Nat.le_antisymm hl z,rest,h⟩)) fun z=>?_;obtain⟨P,R,hB,hP,hX,hL⟩:=h;have z:=Nat.lt_of_not_ge z;have le:=Nat.le_of_eq (Nat.add_sub_cancel' hl);refine g0x (y0t hS (fun m st2 c m1 m2 s=>?_) ⟨hB,SO.refl _ _ _,le⟩ (Nat.sub_pos_of_lt z));refine d0d (fun y=>o0q (g0x (g1i hS ⟨c.toSB,SO.refl _ _ _,Nat.le_trans (Nat.add_le_add_left (Nat.min_le_left _ _) lo) le⟩ (Nat.le_min.mpr ⟨Nat.sub_pos_of_lt z,Nat.lt_of_le_of_lt (Nat.zero_le m) y⟩) (Nat.le_min.mpr ⟨m2,Nat.le_of_lt y⟩) s fun st3 c3 s3=>?_))) fun U=>p1c hS c hP hX hL m1 m2 s;exact p1c hS c3 hP (c.cut hX hL) hL (Nat.le_min.mpr ⟨Nat.sub_pos_of_lt z,Nat.lt_of_le_of_lt (Nat.zero_le m) y⟩) (Nat.le_refl _) s3
omit hS in
theorem o1a{P:Array Trp}(h:¬P.size≤1):srI P+1<P.size:=by
 have z:=Nat.lt_of_lt_of_eq (Nat.lt_succ_self _) (Nat.sub_add_cancel (Nat.lt_of_not_le h));have y (c:Prop) [Decidable c]:(if c then P.size-2-1 else P.size-2)+1<P.size:=by
  by_cases w:c
  ·rw[if_pos w];exact Nat.lt_of_le_of_lt (Nat.succ_le_succ (Nat.sub_le _ _)) z
  ·rw[if_neg w];exact z
 exact y _
theorem r1w{x:Nat}(h:LI e a₀ lo rest st)(hx:(pendingOf st).size+x≤a₀.size+1):e.W srE (fun t st'=>LT (fun U=>False) (fun U=>LI e a₀ lo rest st'∧(pendingOf st').size≤1) (fun U=>LI e a₀ lo rest st'∧(pendingOf st').size+(x+1)≤a₀.size+1) t) st:=by
 refine n0u (d0d (fun z=>a0e (LT.brk ⟨h,z⟩)) fun z=>?_);obtain⟨P,R,hB,hP,hX,hl⟩:=h;have e:=hB.pend;subst e;refine x0b hS hB hP hX hl (o1a z) fun st' P' e1 e2 h=>a0e (LT.go ⟨h,?_⟩);rw[e1];refine Nat.le_trans (Nat.le_of_eq ?_) hx;rw[← e2,Nat.add_assoc,Nat.add_comm 1]
omit hS in
theorem LI.done(h:LI e a₀ a₀.size rest st)(h1:(pendingOf st).size≤1):SL e.f (arrOf st).toList:=by
 obtain⟨P,R,hB,hP,hX,hl⟩:=h;have hr:rest=[]:=by
  rw[← hB.size,←Array.length_toList,hX,length_append]at hl;exact length_eq_zero_iff.mp (Nat.left_eq_add.mp hl)
 rw[hX,hr,append_nil];rw[hB.pend,←Array.length_toList]at h1;generalize P.toList=L at hP h1;clear hX hl;cases hP with
 | nil=>exact .nil
 | cons a1 a2 a3=>
  cases a3 with
  | nil=>rw[flatten_singleton];exact a2
  | cons=>exact absurd h1 (Nat.not_le_of_gt (Nat.succ_lt_succ (Nat.succ_pos _)))
theorem y0u{Q:Unit→SortSt→Prop}(hB:SB e a₀ #[] st)(q:∀ st',(arrOf st').Perm a₀→failedOf st'=none→SL e.f (arrOf st').toList→Q () st'):e.W sortRuns' Q st:=by
 rw[q0g];refine n0u ?_;rw[hB.size];refine n0d (G:=fun U U=>False) (P:=fun m st'=>m=a₀.size∧∃ rest,LI e a₀ m rest st') (Nat.zero_le _) (fun x m st'=>x≤m∧m≤a₀.size∧∃ rest,LI e a₀ m rest st') ⟨Nat.le_refl 0,Nat.zero_le _,(arrOf st).toList,.mk _ [] hB .nil rfl rfl⟩ ?_ (fun m st' h=>⟨Nat.le_antisymm h.2.1 h.1,h.2.2⟩) (fun U U U h=>False.elim h) fun m st' h=>?_
 ·intro x m st' U U h;obtain⟨h1,h2,rest,h3⟩:=h;exact o0p (r1u hS h3 h2) fun t st2 z=>z.imp (fun U h=>h) (fun U h=>h) fun m2 h=>⟨Nat.lt_of_le_of_lt h1 h.1,h.2⟩
 ·obtain⟨rfl,rest,h⟩:=h;refine n0d (G:=fun U U=>False) (P:=fun U st'=>LI e a₀ a₀.size rest st'∧(pendingOf st').size≤1) (Nat.zero_le _) (fun x U st'=>LI e a₀ a₀.size rest st'∧(pendingOf st').size+x≤a₀.size+1) ⟨h,?_⟩ (fun x U st' U U h=>r1w hS h.1 h.2) (fun U st' h=>⟨h.1,?_⟩) (fun U U U h=>False.elim h) fun U st' h=>a0e ?_
  ·obtain⟨P,R,hB,hP,hX,hl⟩:=h;rw[hB.pend,←Array.length_toList,←hl];exact Nat.le_succ_of_le hP.le
  ·exact Nat.le_of_add_le_add_left (Nat.add_comm (pendingOf st').size _▸h.2)
  ·have d:=LI.done h.1 h.2;obtain⟨⟨P,R,hB,hP,hX,hl⟩,U⟩:=h;exact q st' hB.perm hB.failed d
end
noncomputable def g0t(h:Heap)(a:Addr)(vs:List Value):Heap:=((h.update a (Obj.mapSeq fun U=>#[])).push (seqObj "tuple" vs.toArray 0)).push (seqObj "list" #[] 0)
abbrev p1s(prog:Program)(w:World)(A:Around)(s:Shared)(κ:SortKind)(f:Keyed→Int)(S:Keyed→Prop):Prop:=
 ∀ x y,S x→S y→∀ (E:Value→Shared→Prop) (Q:Bool→Shared→Prop),Q (decide (f x<f y)) s→wpAny (model prog w) A (keyLt' κ x.1 y.1) Q E s
section
variable {prog:Program}{w:World}{A:Around}{E:Value→Shared→Prop}{s:Shared}{κ:SortKind}{f:Keyed→Int}
theorem l0x{a:Addr}{vs:List Value}{o:Obj}{b:Addr}(hb:b≠a)(e:s.heap.get? b=some o):(g0t s.heap a vs).get? b=some o:=by
 unfold g0t;refine Heap.get?_push_of_some _ (Heap.get?_push_of_some _ ?_);rw[Heap.get?_update_ne _ _ _ _ hb];exact e
theorem i0q{a:Addr}{vs:List Value}{n:Nat}{P:PySem.Fin→Shared→Prop}(ho:s.heap.get? a=some (seqObj "list" vs.toArray n))(hl:vs.length≤16777216)
  (hk:2≤vs.length→∀ Q:SortKind→Shared→Prop,Q κ { s with heap:=g0t s.heap a vs }→wpAny (model prog w) A (keyKind' vs.toArray) Q E { s with heap:=g0t s.heap a vs })
  (C:2≤vs.length→p1s prog w A { s with heap:=g0t s.heap a vs } κ f (·∈(pairsOf vs).toList))
  (h:∀ out:Array Keyed,out.Perm (pairsOf vs)→SL f out.toList→P (.done (.ret .none)) { s with heap:=sortedHeap s.heap a vs (out.map (·.2)) }) :
  wpAny (model prog w) A (Builtin.«list.sort» ⟨[.ref a],[]⟩) P E s:=by
 have hz:vs.length≤sizeLine:=by rw[sizeLine_eq];omega
 rw[list_sort_plain];refine wpAny_bind (listItems_at ho rfl ?_);refine wpAny_bind (listUpdate_at ho rfl ?_ (by rw[size_toArray];exact hz) (Nat.zero_le _));obtain⟨e1,ho1⟩:∃ e1,(s.heap.update a (Obj.mapSeq fun U=>(#[]:Array Value))).get? a=some (seqObj "list" #[] e1):=⟨_,get?_update_seq ho (fun U=>#[])⟩;refine wpAny_bind (seqEpoch_at ho1 rfl ?_);refine wpAny_bind (wpAny_newTuple ?_ (by show vs.length≤_;exact hz));refine wpAny_bind (wpAny_newList ?_ (Nat.zero_le _));refine wpAny_holding ?_;have ho6:(g0t s.heap a vs).get? a=some (seqObj "list" #[] e1):=Heap.get?_push_of_some _ (Heap.get?_push_of_some _ ho1);show wpAny (model prog w) A _ P E { s with heap:=g0t s.heap a vs };dsimp only;have hp:(pairsOf vs).size=vs.length:=pairsOf_size vs;by_cases h2:vs.toArray.size<2
 ·have h2':vs.length<2:=by simpa using h2
  rw[if_pos h2,if_pos h2];refine wpAny_bind (wpAny_pure ?_);rw[StateT.run_pure];refine wpAny_bind (wpAny_pure ?_);dsimp only;refine wpAny_bind (seqEpoch_at ho6 rfl ?_);refine wpAny_bind (listUpdate_at ho6 rfl ?_ (Nat.zero_le _) (by rw[Array.size_map];show(pairsOf vs).size≤_;rw[hp];omega));simp only[bne_self_eq_false,Bool.false_eq_true,if_false];refine wpAny_pure (h (pairsOf vs) (Array.Perm.refl _) ?_);have hl2:(pairsOf vs).toList.length<2:=by rw[Array.length_toList,hp];exact h2'
  match hq:(pairsOf vs).toList with
  | []=>exact .nil
  | [x]=>exact pairwise_singleton _ _
  | _::_::_=>rw[hq]at hl2;simp at hl2;omega
 ·have h2':2≤vs.length:=by simpa using h2
  rw[if_neg h2,if_neg h2];refine wpAny_bind (hk h2' _ ?_);refine wpAny_bind (wpAny_mono (y0u (e:=⟨prog,w,A,E,{ s with heap:=g0t s.heap a vs },κ,f,(·∈(pairsOf vs).toList),C h2'⟩) (a₀:=pairsOf vs) (st:=SortSt.mk' κ (vs.toArray.zip vs.toArray) #[] 7 none)
   (Q:=fun U st'=>(arrOf st').Perm (pairsOf vs)∧failedOf st'=none∧SL f (arrOf st').toList)
   (fun x hx=>hx) ⟨Array.Perm.refl _,rfl,rfl,rfl⟩ fun st' a1 a2 a3=>(Mac.i3_0 a1 a2 a3)) ?_ fun U U e=>e)
  rintro⟨⟨⟩,st'⟩ s' ⟨rfl,hpm,hf,hs⟩;dsimp only;refine wpAny_bind (seqEpoch_at ho6 rfl ?_);refine wpAny_bind (listUpdate_at ho6 rfl ?_ (Nat.zero_le _) (by refine Nat.le_trans (Nat.le_of_eq ((Array.size_map ..).trans (hpm.size_eq.trans hp))) ?_;omega));rw[hf];simp only[bne_self_eq_false,Bool.false_eq_true,if_false];exact wpAny_pure (h _ hpm hs)
theorem m0u{a b:Addr}{vs:List Value}{out:Array Value}{o:Obj}(hb:b≠a)(e:s.heap.get? b=some o):(sortedHeap s.heap a vs out).get? b=some o:=by
 unfold sortedHeap;rw[Heap.get?_update_ne _ _ _ _ hb];exact l0x hb e
theorem s0j{a:Addr}{vs:List Value}{out:Array Value}{n:Nat}(ho:s.heap.get? a=some (seqObj "list" vs.toArray n)):∃ e,(sortedHeap s.heap a vs out).get? a=some (seqObj "list" out e):=by
 have ho1:=get?_update_seq ho (fun U=>(#[]:Array Value));have ho2:(g0t s.heap a vs).get? a=some _:=Heap.get?_push_of_some _ (Heap.get?_push_of_some _ ho1);exact⟨_,get?_update_seq ho2 fun U=>out⟩
theorem i1f{vs:List Value}{ns:List Int}(hi:IntsAre vs ns):p1s prog w A s oneType' (fun x=>numOf x.1) (·∈(pairsOf vs).toList):=fun x y hx hy E' Q q=>by
 obtain⟨a,t,ea⟩:=hi.intKeys x hx;obtain⟨b,u,eb⟩:=hi.intKeys y hy;change Q (decide (numOf x.1<numOf y.1)) s at q;rw[ea,eb]at q ⊢;rw[keyLt'_oneType];exact oneLt_int q
theorem c1w{a:Addr}{vs:List Value}{ns:List Int}{n:Nat}{P:PySem.Fin→Shared→Prop}(ho:s.heap.get? a=some (seqObj "list" vs.toArray n))(hi:IntsAre vs ns)(hl:vs.length≤16777216)
  (h:∀ (out:List Value) (ns':List Int),IntsAre out ns'→ns'.Perm ns→ns'.Pairwise (·≤·)→P (.done (.ret .none)) { s with heap:=sortedHeap s.heap a vs out.toArray }) :
  wpAny (model prog w) A (Builtin.«list.sort» ⟨[.ref a],[]⟩) P E s:=by
 refine i0q (κ:=oneType') (f:=fun x=>numOf x.1) ho hl (fun h2 Q q=>?_) (fun U=>i1f hi) fun out hp hs=>?_
 ·match vs,hi,h2 with
  | [],_,h2=>simp at h2
  | [_],_,h2=>simp at h2
  | v₁::v₂::rest,hi,_=>
   rw[keyKind_ints hi];exact wpAny_pure q
 ·have hsz:out.size=(pairsOf vs).size:=hp.size_eq;obtain⟨ns',h1,h2,h3⟩:=sorted_out hi hp (fun i j hij hj=>by
   have hi':i<out.size:=by omega
   have hj':j<out.size:=by omega
   rw[K_eq hi',K_eq hj'];rcases Nat.lt_or_ge i j with l | l
   ·exact pairwise_iff_getElem.mp hs i j (by rw[Array.length_toList];exact hi') (by rw[Array.length_toList];exact hj') l
   ·have:i=j:=by omega
    clear l;subst this;exact Int.le_refl _)
  have:=h _ ns' h1 h2 h3;rw[Array.toArray_toList]at this;exact this
noncomputable def e0j(h:Heap):Value→Int×Int
 | .ref a=>(match h.get? a with
  | some o=>(match o.data with
   | .seq xs _=>(numOf (xs.getD 0 .none),numOf (xs.getD 1 .none))
   | _=>(0,0))
  | none=>(0,0))
 | _=>(0,0)
def IsPair(h:Heap)(v:Value)(p:Int×Int):Prop:=∃ a t u n,v=.ref a∧h.get? a=some (seqObj "tuple" #[.int p.1 t,.int p.2 u] n)
theorem IsPair.of{h:Heap}{v:Value}{p:Int×Int}(i:IsPair h v p):e0j h v=p:=by
 obtain⟨a,t,u,n,rfl,e⟩:=i;unfold e0j;dsimp only;rw[e];rfl
noncomputable abbrev pf(h:Heap):Keyed→Int:=fun x=>(e0j h x.1).1*1000+(e0j h x.1).2
noncomputable abbrev kPairs:SortKind:=tuples' (Value.type "int" != Value.type "tuple")
theorem e1n{h:Heap}{vs:List Value}(hv:∀ v∈vs,∃ p,IsPair h v p∧0≤p.2∧p.2<1000)(hk:∀ b o,(o.cls=.type "tuple")→h.get? b=some o→s.heap.get? b=some o):p1s prog w A s kPairs (pf h) (·∈(pairsOf vs).toList):=fun x y hx hy E' Q q=>by
 rw[pairsOf_toList]at hx hy;obtain⟨p,ip,p1,p2⟩:=hv _ (mem_zip_self hx).2;obtain⟨r,ir,r1,r2⟩:=hv _ (mem_zip_self hy).2;have ep:=ip.of;have er:=ir.of;obtain⟨a,t,u,n,ea,ga⟩:=ip;obtain⟨b,t',u',n',eb,gb⟩:=ir;unfold pf at q;rw[ep,er]at q;rw[ea,eb];have kb:(Value.type "int" != Value.type "tuple")=true:=by rfl
 unfold kPairs;rw[kb];refine kat_lt (hk _ _ rfl ga) rfl (hk _ _ rfl gb) rfl ?_;show KatLex prog w A true _ Q [(.int p.1 t,.int r.1 t'),(.int p.2 u,.int r.2 u')] 0 s;refine kat_cons (wpAny_eqBool_int (kat_go (fun e=>kat_yes (kat_cons (wpAny_eqBool_int (kat_go (fun e'=>kat_yes (kat_nil ?_)) fun e'=>kat_no ?_)))) fun e=>kat_no ?_))
 ·have e1:p.1=r.1:=by simpa using e
  have e2:p.2=r.2:=by simpa using e'
  rw[e1,e2,decide_eq_false (by omega)]at q;exact q
 ·have e1:p.1=r.1:=by simpa using e
  have hd:decide (p.1*1000+p.2<r.1*1000+r.2)=decide (p.2<r.2):=by
   rw[e1,decide_eq_decide];omega
  rw[hd]at q;exact kat_one _ _ (lt_int q)
 ·have e1:p.1≠r.1:=by simpa using e
  have hd:decide (p.1*1000+p.2<r.1*1000+r.2)=decide (p.1<r.1):=by
   rw[decide_eq_decide];omega
  rw[hd]at q;exact oneLt_int q
end
end MineS
namespace Mine
open PySem PySem.W PyProof.Rows
noncomputable abbrev LIM:Nat:=16777216
inductive BOp | add | sub | mul | mod | fdiv | shl | shr | band | bor
inductive COp | eq | ne | lt | gt | ge | is | isnot | inn | notin
inductive Bi | len | sorted | list | tuple | abs | int | sum | dict
inductive Bm | append | extend | get | index
 deriving DecidableEq
inductive ItK | plain | enum | range | vals
 deriving DecidableEq
inductive Tgt | one (i:Nat) | two (i j:Nat)
set_option genInjectivity true in
inductive a0a where
 | none | bool (b:Bool) | int (i:Int) | str (s:Str) | tup (l:List a0a) | ref (a:Addr) | frz (l:List a0a)
set_option genInjectivity true in
inductive j0u where
 | list (l:List a0a)
 | dict (kd:Nat) (kv:List (a0a×a0a)) (ep:Nat)
 | inst (c:Nat) (fs:List a0a)
 | hid (a:Addr)
abbrev MH:=Addr→Option j0u
abbrev Loc:=List (Option a0a)
abbrev a0d:=a0a→MH→Prop
inductive b0u | next | brk | ret (v:a0a)
mutual
inductive a0m
 | var (i:Nat)
 | con (v:a0a)
 | glo (x:Nat)
 | bin (op:BOp) (a b:a0m)
 | neg (a:a0m)
 | cmp (op:COp) (a b:a0m)
 | and (as:a0w)
 | or (as:a0w)
 | not (a:a0m)
 | ite (c a b:a0m)
 | list (as:a0w)
 | tup (as:a0w)
 | edict (kd:Nat)
 | sub (a i:a0m)
 | slcTo (a k:a0m)
 | slc (a lo hi:a0m)
 | attr (a:a0m) (x:Nat)
 | call (f:Nat) (as:a0w)
 | new (c:Nat) (as:a0w)
 | meth (a:a0m) (x:Nat) (as:a0w)
 | bi (b:Bi) (as:a0w)
 | bm (b:Bm) (a:a0m) (as:a0w)
 | comp (elt:a0m) (t:Tgt) (k:ItK) (e:a0m) (ifs:a0w)
inductive a0w
 | nil
 | cons (e:a0m) (r:a0w)
end
mutual
inductive o0r
 | asg (i:Nat) (e:a0m)
 | asgT (is:List Nat) (e:a0m)
 | asgA (o:a0m) (x:Nat) (e:a0m)
 | asgI (o i e:a0m)
 | exp (e:a0m)
 | whil (c:a0m) (b:k0h)
 | forr (t:Tgt) (k:ItK) (e:a0m) (b:k0h)
 | ifs (c:a0m) (a b:k0h)
 | ret (e:a0m)
 | brk
 | rais
inductive k0h
 | nil
 | cons (s:o0r) (r:k0h)
end
set_option genCtorIdx false in
structure c0c where
 np:Nat
 ns:Nat
 dfl:List a0a
 body:k0h
noncomputable def upd(H:MH)(a:Addr)(o:j0u):MH:=fun b=>if b=a then some o else H b
def d0v(o:j0u)(H:MH)(Q:a0d):Prop:=∀ a,H a=none→Q (.ref a) (upd H a o)
def e0f(l:List a0a)(H:MH)(Q:a0d):Prop:=l.length≤LIM∧d0v (.list l) H Q
noncomputable def a0v:Nat→a0a→Bool
 | _,.none=>true
 | _,.int _=>true
 | _,.str x=>PyData.strOk x
 | n+1,.tup l=>l.all (a0v n)
 | n+1,.frz l=>l.all (a0v n)
 | _,_=>false
noncomputable abbrev p0o(x:a0a):Bool:=a0v 8 x
noncomputable abbrev e0d(l:List a0a):Bool:=l.all (a0v 8)
mutual
def s0z(H:MH):a0a→a0a→Prop
 | .none,v=>v=.none
 | .int i,v=>v=.int i
 | .str s,v=>v=.str s
 | .tup ds,v=>∃ l,v=.tup l∧f0q H ds l
 | .frz ds,v=>∃ a l,v=.ref a∧H a=some (.list l)∧f0q H ds l
 | _,_=>False
def f0q(H:MH):List a0a→List a0a→Prop
 | [],l=>l=[]
 | d::ds,l=>∃ v r,l=v::r∧s0z H d v∧f0q H ds r
end
noncomputable def w0p:a0a→Bool
 | .none | .bool _ | .int _ | .str _=>true
 | _=>false
noncomputable def isInt:a0a→Bool
 | .int _=>true
 | _=>false
noncomputable def kindOf:a0a→Nat
 | .int _=>1
 | .str _=>2
 | .tup l=>if l.all isInt then 3 else 0
 | _=>0
open Classical in
noncomputable def c0q(kv:List (a0a×a0a))(k:a0a):Option a0a:=(kv.find? fun p=>decide (p.1=k)).map (·.2)
open Classical in
noncomputable def f0k(kv:List (a0a×a0a))(k v:a0a):List (a0a×a0a):=
 if k∈kv.map (·.1) then kv.map (fun p=>if p.1=k then(p.1,v) else p) else kv++[(k,v)]
open Classical in
noncomputable def g1w(x:a0a)(l:List a0a):Bool:=decide (x∈l)
open Classical in
noncomputable def d1u(x:a0a)(l:List a0a):Option Nat:=l.findIdx? fun y=>decide (y=x)
noncomputable def q0d(n:Nat)(i:Int):Option Nat:=
 if 0≤i then(if i<n then some i.toNat else none) else if -(n:Int)≤i then some (i+n).toNat else none
noncomputable def j1h:List (List Nat):=[[0,1,2,3,4,5],[6,7],[6,8],[6,9,8,10],[0,11,12,13,14,15,16],[17,18,19,20,21,22,23,24,25,26]]
noncomputable def c0u(c:Nat):List Nat:=(j1h[c]?).getD []
noncomputable def l0t(c x:Nat):Nat:=if x∈c0u c then(c0u c).idxOf x else 99
noncomputable def z0j:List Str:=["number","kernel","symbol","items","moves","reductions","grammar","firsts","states","closer","numbers","left","right","level_of","action","line","before","names","terminal_count","rules","levels","expect","start","by_left","offsets","owners","item_count"]
noncomputable def a0o(x:Nat):Str:=(z0j[x]?).getD "?"
def d0c(i:Int):Prop:=i.natAbs<18446744073709551616
def q1p(Q:a0a→Prop)(i j:Int):BOp→Prop
 | .add=>Q (.int (i+j))
 | .sub=>Q (.int (i-j))
 | .mul=>(d0c i∨d0c j)∧Q (.int (i*j))
 | .mod=>j≠0∧Q (.int (i.fmod j))
 | .fdiv=>j≠0∧j.natAbs<1073741824∧Q (.int (i.fdiv j))
 | .shl=>0≤j∧j≤1000000∧d0c i∧Q (.int (i*2 ^ j.toNat))
 | .shr=>0≤j∧Q (.int (i.fdiv (2 ^ j.toNat)))
 | .band=>Q (.int (PySem.Builtin.bitAnd i j))
 | .bor=>Q (.int (PySem.Builtin.bitOr i j))
def m1o(p:Prop):BOp→Prop
 | .add=>p
 | _=>False
def q1o(p:Prop):BOp→Prop
 | .mul=>p
 | _=>False
def p0e(op:BOp):a0a→a0a→MH→a0d→Prop
 | .int i,.int j,H,Q=>q1p (fun v=>Q v H) i j op
 | .tup x,.tup y,H,Q=>m1o (x.length+y.length≤LIM∧Q (.tup (x++y)) H) op
 | .ref a,.ref b,H,Q=>m1o (∃ x y,H a=some (.list x)∧H b=some (.list y)∧e0f (x++y) H Q) op
 | .ref a,.int n,H,Q=>q1o (∃ v,H a=some (.list [v])∧0≤n∧n≤LIM∧d0v (.list (List.replicate n.toNat v)) H Q) op
 | _,_,_,_=>False
inductive o0s(h:Option j0u) (f:List a0a→Prop) (g:Nat→List (a0a×a0a)→Nat→Prop):Prop
 | lst (l:List a0a) (e:h=some (.list l)) (q:f l):o0s h f g
 | dic (kd:Nat) (kv:List (a0a×a0a)) (ep:Nat) (e:h=some (.dict kd kv ep)) (q:g kd kv ep):o0s h f g
open Classical in
inductive EqR(H:MH) (a b:Addr) (Q:Bool→Prop):Prop
 | d1 (kv kw:List (a0a×a0a)) (e1 e2:Nat):H a=some (.dict 1 kv e1)→H b=some (.dict 1 kw e2)→(kv=kw∧e0d (kv.map (·.2))=true∧Q true)∨(kv.length≠kw.length∧Q false)→EqR H a b Q
 | d2 (kv kw:List (a0a×a0a)) (e1 e2:Nat):H a=some (.dict 2 kv e1)→H b=some (.dict 2 kw e2)→(kv=[]∧kw=[]∧Q true)∨(kv.length≠kw.length∧Q false)→EqR H a b Q
 | l (d e:a0a):s0z H d (.ref a)→s0z H e (.ref b)→a0v 9 d=true→a0v 9 e=true→Q (decide (d=e))→EqR H a b Q
def atI(l:List a0a)(i:Int)(Q:a0a→Prop):Prop:=∃ k v,l.length≤LIM∧q0d l.length i=some k∧l[k]?=some v∧Q v
def z0k(v:a0a)(x:Nat)(H:MH)(Q:a0d):Prop:=∃ a c fs w,v=.ref a∧H a=some (.inst c fs)∧fs[l0t c x]?=some w∧Q w H
def methP(M:Nat→Nat→Option Nat)(v:a0a)(x:Nat)(H:MH)(K:Nat→a0a→Prop):Prop:=∃ a c fs f,v=.ref a∧H a=some (.inst c fs)∧M c x=some f∧K f (.ref a)
open Classical in
noncomputable def eqP:a0a→a0a→MH→(Bool→Prop)→Prop
 | .int i,.int j,_,Q=>Q (decide (i=j))
 | .str s,.str t,_,Q=>Q (decide (s=t))
 | .bool b,.bool c,_,Q=>Q (b == c)
 | .ref a,.ref b,H,Q=>EqR H a b Q
 | a,b,_,Q=>p0o a=true∧p0o b=true∧Q (decide (a=b))
noncomputable def inP(x:a0a):a0a→MH→(Bool→Prop)→Prop
 | .tup l,_,Q=>p0o x=true∧e0d l=true∧Q (g1w x l)
 | .ref a,H,Q=>o0s (H a) (fun l=>p0o x=true∧e0d l=true∧Q (g1w x l)) fun kd kv U=>kindOf x=kd∧Q (c0q kv x).isSome
 | _,_,_=>False
noncomputable def j0y(x y:List Int):Bool:=decide (x<y)
def h0w:COp→a0a→a0a→MH→(Bool→Prop)→Prop
 | .eq,a,b,H,Q=>eqP a b H Q
 | .ne,a,b,H,Q=>eqP a b H fun r=>Q (!r)
 | .lt,.int i,.int j,_,Q=>Q (decide (i<j))
 | .gt,.int i,.int j,_,Q=>Q (decide (j<i))
 | .ge,.int i,.int j,_,Q=>Q (decide (j≤i))
 | .lt,.tup x,.tup y,_,Q=>∃ xs ys:List Int,x=xs.map .int∧y=ys.map .int∧Q (j0y xs ys)
 | .is,a,.none,_,Q=>Q (match a with | .none=>true | _=>false)
 | .isnot,a,.none,_,Q=>Q (match a with | .none=>false | _=>true)
 | .inn,x,c,H,Q=>inP x c H Q
 | .notin,x,c,H,Q=>inP x c H fun r=>Q (!r)
 | _,_,_,_,_=>False
noncomputable def d1a:a0a→a0a→MH→(a0a→Prop)→Prop
 | .tup l,y,_,Q=>∃ i,y=.int i∧atI l i Q
 | .ref a,y,H,Q=>o0s (H a) (fun l=>∃ i,y=.int i∧atI l i Q) fun kd kv U=>∃ v,kindOf y=kd∧c0q kv y=some v∧Q v
 | _,_,_,_=>False
noncomputable def h0o(p:Int×Int):a0a:=.tup [.int p.1,.int p.2]
noncomputable def f0r(p q:Int×Int):Bool:=decide (p.1<q.1) || (decide (p.1=q.1)&&decide (p.2<q.2))
noncomputable def w0d(p q:Int×Int):Bool:=!f0r q p
def o0t(ns q:List Int):Prop:=q.Perm ns∧q.Pairwise (·≤·)
def h0x(ps q:List (Int×Int)):Prop:=q.Perm ps∧q.Pairwise fun x y=>w0d x y=true
def m0s(l:List a0a)(H:MH)(Q:a0d):Prop:=
 (∃ ns:List Int,l=ns.map .int∧ns.length≤LIM∧∀ q,o0t ns q→d0v (.list (q.map .int)) H Q)∨
 (∃ ps:List (Int×Int),l=ps.map h0o∧ps.length≤LIM∧(∀ p∈ps,0≤p.2∧p.2<1000)∧∀ q,h0x ps q→d0v (.list (q.map h0o)) H Q)
def biP:Bi→List a0a→MH→a0d→Prop
 | .len,[.tup l],H,Q=>l.length≤LIM∧Q (.int l.length) H
 | .len,[.ref a],H,Q=>o0s (H a) (fun l=>l.length≤LIM∧Q (.int l.length) H) fun kd kv U=>kd≤2∧kv.length≤LIM∧Q (.int kv.length) H
 | .sorted,[.tup l],H,Q=>m0s l H Q
 | .sorted,[.ref a],H,Q=>o0s (H a) (fun l=>m0s l H Q) fun kd kv U=>kd=1∧m0s (kv.map (·.1)) H Q
 | .list,[.tup l],H,Q=>e0f l H Q
 | .list,[.ref a],H,Q=>o0s (H a) (fun l=>e0f l H Q) fun kd kv U=>kd≤2∧e0f (kv.map (·.1)) H Q
 | .tuple,[.ref a],H,Q=>∃ l,H a=some (.list l)∧l.length≤LIM∧Q (.tup l) H
 | .abs,[.int i],H,Q=>Q (.int i.natAbs) H
 | .int,[.int i],H,Q=>Q (.int i) H
 | .int,[.bool b],H,Q=>Q (.int (if b then 1 else 0)) H
 | .sum,[.ref a],H,Q=>∃ ns:List Int,H a=some (.list (ns.map .int))∧Q (.int ns.sum) H
 | .dict,[.ref a],H,Q=>∃ ps:List (Int×Int),H a=some (.list (ps.map h0o))∧ps.length≤LIM∧(ps.map (·.1)).Nodup∧
   ∀ ep,d0v (.dict 1 (ps.map fun p=>(.int p.1,.int p.2)) ep) H Q
 | _,_,_,_=>False
def bmP:Bm→a0a→List a0a→MH→a0d→Prop
 | .append,.ref a,[v],H,Q=>∃ l,H a=some (.list l)∧l.length<LIM∧Q .none (upd H a (.list (l++[v])))
 | .extend,.ref a,[.ref b],H,Q=>∃ l r,a≠b∧H a=some (.list l)∧H b=some (.list r)∧l.length+r.length≤LIM∧Q .none (upd H a (.list (l++r)))
 | .get,.ref a,[k,d],H,Q=>∃ kd kv ep,H a=some (.dict kd kv ep)∧kd≤2∧kindOf k=kd∧Q ((c0q kv k).getD d) H
 | .index,.ref a,[x],H,Q=>∃ l k,H a=some (.list l)∧p0o x=true∧e0d l=true∧l.length≤LIM∧d1u x l=some k∧Q (.int k) H
 | _,_,_,_,_=>False
def bmR:Bm→a0a→MH→Prop
 | .get,.ref a,H=>∃ kd kv ep,H a=some (.dict kd kv ep)
 | _,.ref a,H=>∃ l,H a=some (.list l)
 | _,_,_=>False
noncomputable def g0z:Nat→List a0a→List a0a
 | _,[]=>[]
 | n,x::r=>.tup [.int n,x]::g0z (n+1) r
def g0q:ItK→a0a→MH→(List a0a→(MH→Prop)→Prop)→Prop
 | .plain,.tup l,_,K=>K l fun U=>True
 | .plain,.ref a,H,K=>o0s (H a) (fun l=>K l fun H'=>H' a=some (.list l)) fun kd kv ep=>kd≤2∧K (kv.map (·.1)) fun H'=>H' a=some (.dict kd kv ep)
 | .enum,.ref a,H,K=>∃ l,H a=some (.list l)∧l.length≤LIM∧K (g0z 0 l) fun H'=>H' a=some (.list l)
 | .range,.int n,_,K=>-(LIM:Int)≤n∧n≤LIM∧K ((List.range n.toNat).map fun(i:Nat)=>a0a.int (i:Int)) fun U=>True
 | .vals,.ref a,H,K=>∃ kd kv ep,H a=some (.dict kd kv ep)∧kd≤2∧K (kv.map (·.2)) fun H'=>H' a=some (.dict kd kv ep)
 | _,_,_,_=>False
noncomputable def s0y:Tgt→a0a→Loc→Option Loc
 | .one i,v,m=>if i<m.length then some (m.set i (some v)) else none
 | .two i j,.tup [u,v],m=>if i<m.length∧j<m.length then some ((m.set i (some u)).set j (some v)) else none
 | _,_,_=>none
noncomputable def b0k:List Nat→List a0a→Loc→Option Loc
 | [],[],m=>some m
 | i::is,v::vs,m=>if i<m.length then b0k is vs (m.set i (some v)) else none
 | _,_,_=>none
def r1l(is:List Nat)(v:a0a)(m:Loc)(P:Loc→Prop):Prop:=∃ vs m',v=.tup vs∧b0k is vs m=some m'∧P m'
noncomputable def setField(c x:Nat)(v:a0a)(fs:List a0a):Option (List a0a):=
 let k:=l0t c x
 if k<fs.length then some (fs.set k v) else if k=fs.length then some (fs++[v]) else none
def r1d(w:a0a)(x:Nat)(v:a0a)(H:MH)(P:MH→Prop):Prop:=∃ a c fs fs',w=.ref a∧H a=some (.inst c fs)∧setField c x v fs=some fs'∧P (upd H a (.inst c fs'))
def l1j:a0a→a0a→a0a→MH→(MH→Prop)→Prop
 | .ref a,y,v,H,Q=>o0s (H a) (fun l=>∃ i,y=.int i∧0≤i∧i<l.length∧l.length≤LIM∧Q (upd H a (.list (l.set i.toNat v)))) fun kd kv U=>kindOf y=kd∧kv.length<LIM∧∀ ep,Q (upd H a (.dict kd (f0k kv y v) ep))
 | _,_,_,_,_=>False
def k0i(F:Loc→MH→a0d→Prop)(C:Loc→MH→(Bool→MH→Prop)→Prop)(t:Tgt)(ok:MH→Prop)(m:Loc):List a0a→MH→List a0a→(List a0a→MH→Prop)→Prop
 | [],H,acc,Q=>ok H∧Q acc H
 | x::xs,H,acc,Q=>ok H∧∃ m',s0y t x m=some m'∧C m' H fun b H1=>if b=true then F m' H1 fun v H2=>k0i F C t ok m xs H2 (acc++[v]) Q else k0i F C t ok m xs H1 acc Q
def i1t(B:Loc→MH→(b0u→Loc→MH→Prop)→Prop)(t:Tgt)(ok:MH→Prop):List a0a→Loc→MH→(b0u→Loc→MH→Prop)→Prop
 | [],m,H,Q=>ok H∧Q .next m H
 | x::xs,m,H,Q=>ok H∧∃ m',s0y t x m=some m'∧B m' H fun fl m2 H2=>match fl with
   | .next=>i1t B t ok xs m2 H2 Q
   | .brk=>Q .next m2 H2
   | .ret v=>Q (.ret v) m2 H2
def n0e(C:Loc→MH→(Bool→MH→Prop)→Prop)(B:Loc→MH→(b0u→Loc→MH→Prop)→Prop):Nat→Loc→MH→(b0u→Loc→MH→Prop)→Prop
 | 0,_,_,_=>False
 | n+1,m,H,Q=>C m H fun b H1=>if b=true then B m H1 fun fl m2 H2=>match fl with
   | .next=>n0e C B n m2 H2 Q
   | .brk=>Q .next m2 H2
   | .ret v=>Q (.ret v) m2 H2
  else Q .next m H1
def asB(Q:Bool→MH→Prop):a0d:=fun v H=>match v with | .bool b=>Q b H | _=>False
set_option genCtorIdx false in
structure Gam where
 call:Nat→List a0a→MH→a0d→Prop
 init:Nat→Nat
 meth:Nat→Nat→Option Nat
 glo:Nat→Option a0a
mutual
noncomputable def wpE(Γ:Gam):a0m→Loc→MH→a0d→Prop
 | .var i,m,H,Q=>match m[i]? with | some (some v)=>Q v H | _=>False
 | .con v,_,H,Q=>Q v H
 | .glo x,_,H,Q=>match Γ.glo x with | some v=>Q v H | none=>False
 | .bin op a b,m,H,Q=>wpE Γ a m H fun x H1=>wpE Γ b m H1 fun y H2=>p0e op x y H2 Q
 | .neg a,m,H,Q=>wpE Γ a m H fun x H1=>match x with | .int i=>Q (.int (-i)) H1 | _=>False
 | .cmp op a b,m,H,Q=>wpE Γ a m H fun x H1=>wpE Γ b m H1 fun y H2=>h0w op x y H2 fun r=>Q (.bool r) H2
 | .and as,m,H,Q=>k0v Γ as m H fun b H1=>Q (.bool b) H1
 | .or as,m,H,Q=>h1j Γ as m H fun b H1=>Q (.bool b) H1
 | .not a,m,H,Q=>wpE Γ a m H (asB fun b H1=>Q (.bool (!b)) H1)
 | .ite c a b,m,H,Q=>wpE Γ c m H (asB fun t H1=>if t=true then wpE Γ a m H1 Q else wpE Γ b m H1 Q)
 | .list as,m,H,Q=>wpL Γ as m H fun vs H1=>e0f vs H1 Q
 | .tup as,m,H,Q=>wpL Γ as m H fun vs H1=>vs.length≤LIM∧Q (.tup vs) H1
 | .edict kd,_,H,Q=>(1≤kd∧kd≤3)∧d0v (.dict kd [] 0) H Q
 | .sub a i,m,H,Q=>wpE Γ a m H fun x H1=>wpE Γ i m H1 fun y H2=>d1a x y H2 fun v=>Q v H2
 | .slcTo a k,m,H,Q=>wpE Γ a m H fun x H1=>wpE Γ k m H1 fun y H2=>(match x,y with
   | .frz l,.int k=>0≤k∧k≤LIM∧l.length≤LIM∧e0f (l.take k.toNat) H2 Q
   | .ref a,.int k=>∃ l,H2 a=some (.list l)∧0≤k∧k≤LIM∧l.length≤LIM∧e0f (l.take k.toNat) H2 Q
   | .str s,.int k=>0≤k∧k≤LIM∧s.length≤LIM∧Q (.str ⟨s.cps.extract 0 k.toNat⟩) H2
   | _,_=>False)
 | .slc a lo hi,m,H,Q=>wpE Γ a m H fun x H1=>wpE Γ lo m H1 fun y H2=>wpE Γ hi m H2 fun z H3=>(match x,y,z with
   | .tup l,.int i,.int j=>0≤i∧i≤LIM∧0≤j∧j≤LIM∧l.length≤LIM∧Q (.tup ((l.take j.toNat).drop i.toNat)) H3
   | _,_,_=>False)
 | .attr a x,m,H,Q=>wpE Γ a m H fun v H1=>z0k v x H1 Q
 | .call f as,m,H,Q=>wpL Γ as m H fun vs H1=>Γ.call f vs H1 Q
 | .new c as,m,H,Q=>wpL Γ as m H fun vs H1=>∀ a d,H1 a=none→H1 d=none→a≠d→
   Γ.call (Γ.init c) (.ref a::vs) (upd (upd H1 d (.hid a)) a (.inst c [])) fun r H2=>r=.none∧Q (.ref a) H2
 | .meth a x as,m,H,Q=>wpE Γ a m H fun v H1=>methP Γ.meth v x H1 fun f s=>wpL Γ as m H1 fun vs H2=>Γ.call f (s::vs) H2 Q
 | .bi b as,m,H,Q=>wpL Γ as m H fun vs H1=>biP b vs H1 Q
 | .bm b a as,m,H,Q=>wpE Γ a m H fun v H1=>bmR b v H1∧wpL Γ as m H1 fun vs H2=>bmP b v vs H2 Q
 | .comp elt t k e ifs,m,H,Q=>wpE Γ e m H fun src H1=>g0q k src H1 fun items ok=>items.length≤LIM∧
   k0i (wpE Γ elt) (k0v Γ ifs) t ok m items H1 [] fun acc H2=>d0v (.list acc) H2 Q
noncomputable def wpL(Γ:Gam):a0w→Loc→MH→(List a0a→MH→Prop)→Prop
 | .nil,_,H,Q=>Q [] H
 | .cons e r,m,H,Q=>wpE Γ e m H fun v H1=>wpL Γ r m H1 fun vs H2=>Q (v::vs) H2
noncomputable def k0v(Γ:Gam):a0w→Loc→MH→(Bool→MH→Prop)→Prop
 | .nil,_,H,Q=>Q true H
 | .cons e r,m,H,Q=>wpE Γ e m H (asB fun b H1=>if b=true then k0v Γ r m H1 Q else Q false H1)
noncomputable def h1j(Γ:Gam):a0w→Loc→MH→(Bool→MH→Prop)→Prop
 | .nil,_,H,Q=>Q false H
 | .cons e r,m,H,Q=>wpE Γ e m H (asB fun b H1=>if b=true then Q true H1 else h1j Γ r m H1 Q)
end
mutual
noncomputable def wpS(Γ:Gam):o0r→Loc→MH→(b0u→Loc→MH→Prop)→Prop
 | .asg i e,m,H,Q=>wpE Γ e m H fun v H1=>i<m.length∧Q .next (m.set i (some v)) H1
 | .asgT is e,m,H,Q=>wpE Γ e m H fun v H1=>r1l is v m fun m'=>Q .next m' H1
 | .asgA o x e,m,H,Q=>wpE Γ e m H fun v H1=>wpE Γ o m H1 fun w H2=>r1d w x v H2 fun H'=>Q .next m H'
 | .asgI o i e,m,H,Q=>wpE Γ e m H fun v H1=>wpE Γ o m H1 fun w H2=>wpE Γ i m H2 fun u H3=>l1j w u v H3 fun H4=>Q .next m H4
 | .exp e,m,H,Q=>wpE Γ e m H fun v H1=>w0p v=true∧Q .next m H1
 | .whil c b,m,H,Q=>∃ n,n0e (fun m H Q=>wpE Γ c m H (asB Q)) (wpB Γ b) n m H Q
 | .forr t k e b,m,H,Q=>wpE Γ e m H fun src H1=>g0q k src H1 fun items ok=>i1t (wpB Γ b) t ok items m H1 Q
 | .ifs c a b,m,H,Q=>wpE Γ c m H (asB fun t H1=>if t=true then wpB Γ a m H1 Q else wpB Γ b m H1 Q)
 | .ret e,m,H,Q=>wpE Γ e m H fun v H1=>Q (.ret v) m H1
 | .brk,m,H,Q=>Q .brk m H
 | .rais,_,_,_=>False
noncomputable def wpB(Γ:Gam):k0h→Loc→MH→(b0u→Loc→MH→Prop)→Prop
 | .nil,m,H,Q=>Q .next m H
 | .cons s r,m,H,Q=>wpS Γ s m H fun fl m1 H1=>match fl with
   | .next=>wpB Γ r m1 H1 Q
   | fl=>Q fl m1 H1
end
noncomputable def r0j:c0c:=⟨1,4,[],
 (.cons (.asg 1 (.bi .list (.cons (.var 0) .nil)))
 (.cons (.forr (.one 2) .range (.bi .len (.cons (.var 1) .nil))
 (.cons (.forr (.one 3) .range (.bi .len (.cons (.var 1) .nil))
 (.cons (.ifs (.cmp .eq (.bin .band (.bin .shr (.sub (.var 1) (.var 3)) (.var 2)) (.con (.int 1))) (.con (.int 1)))
 (.cons (.asgI (.var 1) (.var 3) (.bin .bor (.sub (.var 1) (.var 3)) (.sub (.var 1) (.var 2))))
 .nil)
 .nil)
 .nil))
 .nil))
 (.cons (.ret (.var 1))
 .nil)))⟩
noncomputable def m1j:c0c:=⟨1,4,[],
 (.cons (.asg 1 (.list .nil))
 (.cons (.asg 2 (.con (.int 0)))
 (.cons (.asg 3 (.var 0))
 (.cons (.whil (.cmp .gt (.var 3) (.con (.int 0)))
 (.cons (.ifs (.cmp .eq (.bin .band (.var 3) (.con (.int 1))) (.con (.int 1)))
 (.cons (.exp (.bm .append (.var 1) (.cons (.var 2) .nil)))
 .nil)
 .nil)
 (.cons (.asg 3 (.bin .shr (.var 3) (.con (.int 1))))
 (.cons (.asg 2 (.bin .add (.var 2) (.con (.int 1))))
 .nil))))
 (.cons (.ret (.var 1))
 .nil)))))⟩
noncomputable def n0q:c0c:=⟨4,4,[],
 (.cons (.asgA (.var 0) 0 (.var 1))
 (.cons (.asgA (.var 0) 1 (.var 2))
 (.cons (.asgA (.var 0) 2 (.var 3))
 (.cons (.asgA (.var 0) 3 (.list .nil))
 (.cons (.asgA (.var 0) 4 (.edict 1))
 (.cons (.asgA (.var 0) 5 (.list .nil))
 .nil))))))⟩
noncomputable def n0p:c0c:=⟨2,2,[],
 (.cons (.ret (.bm .get (.attr (.var 0) 4) (.cons (.var 1) (.cons (.glo 0) .nil))))
 .nil)⟩
noncomputable def f0b:c0c:=⟨1,1,[],
 (.cons (.ifs (.cmp .eq (.attr (.var 0) 5) (.list .nil))
 (.cons (.ret (.con (.bool true)))
 .nil)
 .nil)
 (.cons (.ret (.and (.cons (.cmp .eq (.bi .len (.cons (.attr (.var 0) 5) .nil)) (.con (.int 1))) (.cons (.cmp .eq (.attr (.var 0) 4) (.edict 1)) .nil))))
 .nil))⟩
noncomputable def p0k:c0c:=⟨2,4,[],
 (.cons (.asgA (.var 0) 6 (.var 1))
 (.cons (.asg 2 (.bin .mul (.list (.cons (.con (.int 0)) .nil)) (.meth (.var 1) 12 .nil)))
 (.cons (.forr (.one 3) .plain (.attr (.var 1) 19)
 (.cons (.ifs (.cmp .gt (.bi .len (.cons (.attr (.var 3) 12) .nil)) (.con (.int 0)))
 (.cons (.asgI (.var 2) (.attr (.var 3) 11) (.bin .bor (.sub (.var 2) (.attr (.var 3) 11)) (.bin .shl (.con (.int 1)) (.sub (.attr (.var 3) 12) (.con (.int 0))))))
 .nil)
 .nil)
 .nil))
 (.cons (.asgA (.var 0) 7 (.call 0 (.cons (.var 2) .nil)))
 .nil))))⟩
noncomputable def l0m:c0c:=⟨2,5,[],
 (.cons (.asg 2 (.con (.int 0)))
 (.cons (.forr (.one 3) .plain (.var 1)
 (.cons (.asg 4 (.meth (.attr (.var 0) 6) 18 (.cons (.var 3) .nil)))
 (.cons (.ifs (.cmp .ge (.var 4) (.con (.int 0)))
 (.cons (.asg 2 (.bin .bor (.bin .bor (.var 2) (.bin .shl (.con (.int 1)) (.var 4))) (.sub (.attr (.var 0) 7) (.var 4))))
 .nil)
 .nil)
 .nil)))
 (.cons (.ret (.var 2))
 .nil)))⟩
noncomputable def n0l:c0c:=⟨2,6,[],
 (.cons (.asg 2 (.list .nil))
 (.cons (.forr (.one 3) .plain (.call 1 (.cons (.meth (.var 0) 2 (.cons (.var 1) .nil)) .nil))
 (.cons (.forr (.one 4) .plain (.meth (.attr (.var 0) 6) 14 (.cons (.var 3) .nil))
 (.cons (.asg 5 (.meth (.attr (.var 0) 6) 15 (.cons (.var 4) (.cons (.con (.int 0)) .nil))))
 (.cons (.ifs (.cmp .notin (.var 5) (.var 1))
 (.cons (.exp (.bm .append (.var 2) (.cons (.var 5) .nil)))
 .nil)
 .nil)
 .nil)))
 .nil))
 (.cons (.ret (.bi .sorted (.cons (.var 2) .nil)))
 .nil)))⟩
noncomputable def n0m:c0c:=⟨2,2,[],
 (.cons (.ret (.bin .add (.bi .sorted (.cons (.var 1) .nil)) (.meth (.var 0) 3 (.cons (.var 1) .nil))))
 .nil)⟩
noncomputable def x0s:c0c:=⟨2,2,[],
 (.cons (.ret (.meth (.var 0) 15 (.cons (.meth (.var 0) 16 (.cons (.var 1) .nil)) (.cons (.bin .add (.meth (.var 0) 17 (.cons (.var 1) .nil)) (.con (.int 1))) .nil))))
 .nil)⟩
noncomputable def k0r:c0c:=⟨2,6,[],
 (.cons (.asg 2 (.edict 1))
 (.cons (.forr (.one 3) .plain (.var 1)
 (.cons (.asg 4 (.meth (.var 0) 18 (.cons (.var 3) .nil)))
 (.cons (.ifs (.cmp .ge (.var 4) (.con (.int 0)))
 (.cons (.ifs (.cmp .notin (.var 4) (.var 2))
 (.cons (.asgI (.var 2) (.var 4) (.list .nil))
 .nil)
 .nil)
 (.cons (.exp (.bm .append (.sub (.var 2) (.var 4)) (.cons (.call 9 (.cons (.var 0) (.cons (.var 3) .nil))) .nil)))
 .nil))
 .nil)
 .nil)))
 (.cons (.asg 5 (.edict 1))
 (.cons (.forr (.one 4) .plain (.bi .sorted (.cons (.var 2) .nil))
 (.cons (.asgI (.var 5) (.var 4) (.bi .tuple (.cons (.bi .sorted (.cons (.sub (.var 2) (.var 4)) .nil)) .nil)))
 .nil))
 (.cons (.ret (.var 5))
 .nil)))))⟩
noncomputable def k0q:c0c:=⟨2,4,[],
 (.cons (.asg 2 (.list .nil))
 (.cons (.forr (.one 3) .plain (.var 1)
 (.cons (.ifs (.and (.cons (.cmp .lt (.meth (.var 0) 18 (.cons (.var 3) .nil)) (.con (.int 0))) (.cons (.cmp .ne (.meth (.var 0) 16 (.cons (.var 3) .nil)) (.con (.int 0))) .nil)))
 (.cons (.exp (.bm .append (.var 2) (.cons (.meth (.var 0) 16 (.cons (.var 3) .nil)) .nil)))
 .nil)
 .nil)
 .nil))
 (.cons (.ret (.bi .sorted (.cons (.var 2) .nil)))
 .nil)))⟩
noncomputable def k0k:c0c:=⟨3,3,[],
 (.cons (.asgA (.var 0) 6 (.var 1))
 (.cons (.asgA (.var 0) 8 (.var 2))
 .nil))⟩
noncomputable def k0j:c0c:=⟨3,3,[],
 (.cons (.ret (.meth (.sub (.attr (.var 0) 8) (.var 1)) 0 (.cons (.var 2) .nil)))
 .nil)⟩
noncomputable def k0m:c0c:=⟨3,5,[],
 (.cons (.asg 3 (.var 1))
 (.cons (.forr (.one 4) .plain (.var 2)
 (.cons (.ifs (.cmp .eq (.var 3) (.glo 0))
 (.cons (.ret (.glo 0))
 .nil)
 .nil)
 (.cons (.asg 3 (.meth (.var 0) 0 (.cons (.var 3) (.cons (.var 4) .nil))))
 .nil)))
 (.cons (.ret (.var 3))
 .nil)))⟩
noncomputable def k0l:c0c:=⟨3,6,[],
 (.cons (.asg 3 (.list (.cons (.var 1) .nil)))
 (.cons (.forr (.one 4) .plain (.var 2)
 (.cons (.asg 5 (.meth (.var 0) 0 (.cons (.sub (.var 3) (.neg (.con (.int 1)))) (.cons (.var 4) .nil))))
 (.cons (.ifs (.cmp .eq (.var 5) (.glo 0))
 (.cons (.ret (.var 3))
 .nil)
 .nil)
 (.cons (.exp (.bm .append (.var 3) (.cons (.var 5) .nil)))
 .nil))))
 (.cons (.ret (.var 3))
 .nil)))⟩
noncomputable def f0a:c0c:=⟨1,1,[],
 (.cons (.ret (.meth (.var 0) 5 (.cons (.con (.int 0)) (.cons (.attr (.sub (.attr (.attr (.var 0) 6) 19) (.con (.int 0))) 12) .nil))))
 .nil)⟩
noncomputable def d0p:c0c:=⟨1,2,[],
 (.cons (.ret (.bi .sum (.cons (.comp (.bi .len (.cons (.attr (.var 1) 4) .nil)) (.one 1) .plain (.attr (.var 0) 8) .nil) .nil)))
 .nil)⟩
noncomputable def n0k:c0c:=⟨2,2,[],
 (.cons (.asgA (.var 0) 6 (.var 1))
 (.cons (.asgA (.var 0) 9 (.new 1 (.cons (.var 1) .nil)))
 (.cons (.asgA (.var 0) 8 (.list .nil))
 (.cons (.asgA (.var 0) 10 (.edict 3))
 .nil))))⟩
noncomputable def h0e:c0c:=⟨3,3,[],
 (.cons (.ifs (.cmp .notin (.var 1) (.attr (.var 0) 10))
 (.cons (.asgI (.attr (.var 0) 10) (.var 1) (.bi .len (.cons (.attr (.var 0) 8) .nil)))
 (.cons (.exp (.bm .append (.attr (.var 0) 8) (.cons (.new 0 (.cons (.bi .len (.cons (.attr (.var 0) 8) .nil)) (.cons (.var 1) (.cons (.var 2) .nil)))) .nil)))
 .nil))
 .nil)
 (.cons (.ret (.sub (.attr (.var 0) 10) (.var 1)))
 .nil))⟩
noncomputable def k0n:c0c:=⟨2,4,[],
 (.cons (.asgA (.var 1) 3 (.meth (.attr (.var 0) 9) 4 (.cons (.attr (.var 1) 1) .nil)))
 (.cons (.asgA (.var 1) 5 (.call 11 (.cons (.attr (.var 0) 6) (.cons (.attr (.var 1) 3) .nil))))
 (.cons (.asg 2 (.call 10 (.cons (.attr (.var 0) 6) (.cons (.attr (.var 1) 3) .nil))))
 (.cons (.forr (.one 3) .plain (.var 2)
 (.cons (.asgI (.attr (.var 1) 4) (.var 3) (.meth (.var 0) 9 (.cons (.sub (.var 2) (.var 3)) (.cons (.var 3) .nil))))
 .nil))
 .nil))))⟩
noncomputable def l0l:c0c:=⟨1,2,[],
 (.cons (.exp (.meth (.var 0) 9 (.cons (.tup (.cons (.meth (.attr (.var 0) 6) 15 (.cons (.con (.int 0)) (.cons (.con (.int 0)) .nil))) .nil)) (.cons (.glo 0) .nil))))
 (.cons (.asg 1 (.con (.int 0)))
 (.cons (.whil (.cmp .lt (.var 1) (.bi .len (.cons (.attr (.var 0) 8) .nil)))
 (.cons (.exp (.meth (.var 0) 10 (.cons (.sub (.attr (.var 0) 8) (.var 1)) .nil)))
 (.cons (.asg 1 (.bin .add (.var 1) (.con (.int 1))))
 .nil)))
 (.cons (.ret (.new 2 (.cons (.attr (.var 0) 6) (.cons (.attr (.var 0) 8) .nil))))
 .nil))))⟩
noncomputable def i1p:c0c:=⟨1,1,[],
 (.cons (.ret (.meth (.new 3 (.cons (.var 0) .nil)) 11 .nil))
 .nil)⟩
noncomputable def n0s:c0c:=⟨1,5,[],
 (.cons (.asg 1 (.comp (.list .nil) (.one 4) .plain (.attr (.var 0) 8) .nil))
 (.cons (.forr (.one 2) .plain (.attr (.var 0) 8)
 (.cons (.forr (.one 3) .plain (.attr (.var 2) 4)
 (.cons (.exp (.bm .append (.sub (.var 1) (.sub (.attr (.var 2) 4) (.var 3))) (.cons (.attr (.var 2) 0) .nil)))
 .nil))
 .nil))
 (.cons (.ret (.var 1))
 .nil)))⟩
noncomputable def l0s:c0c:=⟨3,9,[],
 (.cons (.asg 3 (.call 23 (.cons (.var 0) .nil)))
 (.cons (.asg 4 (.list (.cons (.var 1) .nil)))
 (.cons (.forr (.one 5) .range (.var 2)
 (.cons (.asg 6 (.edict 1))
 (.cons (.forr (.one 7) .plain (.var 4)
 (.cons (.forr (.one 8) .plain (.sub (.var 3) (.var 7))
 (.cons (.asgI (.var 6) (.var 8) (.con (.bool true)))
 .nil))
 .nil))
 (.cons (.asg 4 (.bi .sorted (.cons (.var 6) .nil)))
 .nil))))
 (.cons (.ret (.var 4))
 .nil))))⟩
noncomputable def i0g:c0c:=⟨2,9,[],
 (.cons (.asg 2 (.comp (.con .none) (.one 8) .plain (.attr (.var 0) 8) .nil))
 (.cons (.asgI (.var 2) (.var 1) (.tup .nil))
 (.cons (.asg 3 (.list (.cons (.var 1) .nil)))
 (.cons (.asg 4 (.con (.int 0)))
 (.cons (.whil (.cmp .lt (.var 4) (.bi .len (.cons (.var 3) .nil)))
 (.cons (.asg 5 (.sub (.var 3) (.var 4)))
 (.cons (.asg 6 (.attr (.sub (.attr (.var 0) 8) (.var 5)) 4))
 (.cons (.forr (.one 7) .plain (.var 6)
 (.cons (.ifs (.cmp .is (.sub (.var 2) (.sub (.var 6) (.var 7))) (.con .none))
 (.cons (.asgI (.var 2) (.sub (.var 6) (.var 7)) (.bin .add (.sub (.var 2) (.var 5)) (.tup (.cons (.var 7) .nil))))
 (.cons (.exp (.bm .append (.var 3) (.cons (.sub (.var 6) (.var 7)) .nil)))
 .nil))
 .nil)
 .nil))
 (.cons (.asg 4 (.bin .add (.var 4) (.con (.int 1))))
 .nil)))))
 (.cons (.ret (.var 2))
 .nil))))))⟩
noncomputable def l0r:c0c:=⟨2,2,[],
 (.cons (.ret (.sub (.call 25 (.cons (.var 0) (.cons (.con (.int 0)) .nil))) (.var 1)))
 .nil)⟩
noncomputable def t0o:c0c:=⟨2,2,[],
 (.cons (.ret (.cmp .ne (.meth (.var 0) 5 (.cons (.con (.int 0)) (.cons (.var 1) .nil))) (.glo 0)))
 .nil)⟩
noncomputable def p0l:c0c:=⟨2,3,[],
 (.cons (.asg 2 (.meth (.var 0) 5 (.cons (.con (.int 0)) (.cons (.var 1) .nil))))
 (.cons (.ifs (.cmp .eq (.var 2) (.glo 0))
 (.cons (.ret (.list .nil))
 .nil)
 .nil)
 (.cons (.ret (.bi .sorted (.cons (.attr (.sub (.attr (.var 0) 8) (.var 2)) 3) .nil)))
 .nil)))⟩
noncomputable def h0f:c0c:=⟨1,2,[],
 (.cons (.ret (.comp (.attr (.var 1) 0) (.one 1) .plain (.attr (.var 0) 8) (.cons (.not (.meth (.var 1) 1 .nil)) .nil)))
 .nil)⟩
noncomputable def r0i:c0c:=⟨1,1,[],
 (.cons (.ret (.cmp .eq (.call 29 (.cons (.var 0) .nil)) (.list .nil)))
 .nil)⟩
noncomputable def t0n:c0c:=⟨8,8,[.int (-1),.none,.int 0,.int 0],
 (.cons (.asgA (.var 0) 0 (.var 1))
 (.cons (.asgA (.var 0) 11 (.var 2))
 (.cons (.asgA (.var 0) 12 (.var 3))
 (.cons (.asgA (.var 0) 13 (.var 4))
 (.cons (.asgA (.var 0) 14 (.var 5))
 (.cons (.asgA (.var 0) 15 (.var 6))
 (.cons (.asgA (.var 0) 16 (.var 7))
 .nil)))))))⟩
noncomputable def n0n:c0c:=⟨7,9,[],
 (.cons (.asgA (.var 0) 17 (.var 1))
 (.cons (.asgA (.var 0) 18 (.var 2))
 (.cons (.asgA (.var 0) 19 (.var 3))
 (.cons (.asgA (.var 0) 20 (.var 4))
 (.cons (.asgA (.var 0) 21 (.var 5))
 (.cons (.asgA (.var 0) 22 (.var 6))
 (.cons (.asgA (.var 0) 23 (.comp (.list .nil) (.one 8) .plain (.attr (.var 0) 17) .nil))
 (.cons (.asgA (.var 0) 24 (.list .nil))
 (.cons (.asgA (.var 0) 25 (.list .nil))
 (.cons (.forr (.one 7) .plain (.attr (.var 0) 19)
 (.cons (.exp (.bm .append (.sub (.attr (.var 0) 23) (.attr (.var 7) 11)) (.cons (.attr (.var 7) 0) .nil)))
 (.cons (.exp (.bm .append (.attr (.var 0) 24) (.cons (.bi .len (.cons (.attr (.var 0) 25) .nil)) .nil)))
 (.cons (.exp (.bm .extend (.attr (.var 0) 25) (.cons (.bin .mul (.list (.cons (.attr (.var 7) 0) .nil)) (.bin .add (.bi .len (.cons (.attr (.var 7) 12) .nil)) (.con (.int 1)))) .nil)))
 .nil))))
 (.cons (.asgA (.var 0) 26 (.bi .len (.cons (.attr (.var 0) 25) .nil)))
 .nil)))))))))))⟩
noncomputable def f0t:c0c:=⟨1,1,[],
 (.cons (.ret (.bi .len (.cons (.attr (.var 0) 17) .nil)))
 .nil)⟩
noncomputable def k0p:c0c:=⟨2,2,[],
 (.cons (.ret (.ite (.cmp .inn (.var 1) (.attr (.var 0) 17)) (.bm .index (.attr (.var 0) 17) (.cons (.var 1) .nil)) (.neg (.con (.int 1)))))
 .nil)⟩
noncomputable def i0e:c0c:=⟨2,2,[],
 (.cons (.ret (.bi .list (.cons (.sub (.attr (.var 0) 23) (.var 1)) .nil)))
 .nil)⟩
noncomputable def n0o:c0c:=⟨3,3,[],
 (.cons (.ret (.bin .add (.sub (.attr (.var 0) 24) (.var 1)) (.var 2)))
 .nil)⟩
noncomputable def j0b:c0c:=⟨2,2,[],
 (.cons (.ret (.sub (.attr (.var 0) 25) (.var 1)))
 .nil)⟩
noncomputable def k0o:c0c:=⟨2,2,[],
 (.cons (.ret (.bin .sub (.var 1) (.sub (.attr (.var 0) 24) (.sub (.attr (.var 0) 25) (.var 1)))))
 .nil)⟩
noncomputable def l0n:c0c:=⟨2,4,[],
 (.cons (.asg 2 (.attr (.sub (.attr (.var 0) 19) (.sub (.attr (.var 0) 25) (.var 1))) 12))
 (.cons (.asg 3 (.bin .sub (.var 1) (.sub (.attr (.var 0) 24) (.sub (.attr (.var 0) 25) (.var 1)))))
 (.cons (.ret (.ite (.cmp .lt (.var 3) (.bi .len (.cons (.var 2) .nil))) (.sub (.var 2) (.var 3)) (.neg (.con (.int 1)))))
 .nil)))⟩
noncomputable def l0o:c0c:=⟨2,4,[],
 (.cons (.asg 2 (.neg (.con (.int 1))))
 (.cons (.forr (.one 3) .plain (.var 0)
 (.cons (.ifs (.cmp .lt (.var 3) (.var 1))
 (.cons (.asg 2 (.var 3))
 .nil)
 .nil)
 .nil))
 (.cons (.ret (.var 2))
 .nil)))⟩
noncomputable def l0q:c0c:=⟨2,12,[.none],
 (.cons (.asg 2 (.list .nil))
 (.cons (.forr (.two 3 4) .plain (.var 0)
 (.cons (.ifs (.or (.cons (.cmp .eq (.var 3) (.con (.str (Str.ofString "error")))) (.cons (.cmp .inn (.slcTo (.var 3) (.con (.int 1))) (.tup (.cons (.con (.str (Str.ofString ""))) (.cons (.con (.str (Str.ofString "$"))) (.cons (.con (.str (Str.ofString "'"))) .nil))))) .nil)))
 (.cons .rais
 .nil)
 .nil)
 (.cons (.ifs (.cmp .notin (.var 3) (.var 2))
 (.cons (.exp (.bm .append (.var 2) (.cons (.var 3) .nil)))
 .nil)
 .nil)
 .nil)))
 (.cons (.asg 5 (.ite (.or (.cons (.cmp .isnot (.var 1) (.con .none)) (.cons (.cmp .eq (.var 2) (.list .nil)) .nil))) (.var 1) (.sub (.var 2) (.con (.int 0)))))
 (.cons (.ifs (.cmp .notin (.var 5) (.var 2))
 (.cons .rais
 .nil)
 .nil)
 (.cons (.asg 6 (.bi .list (.cons (.glo 2) .nil)))
 (.cons (.forr (.two 3 4) .plain (.var 0)
 (.cons (.forr (.one 7) .plain (.var 4)
 (.cons (.ifs (.and (.cons (.cmp .notin (.var 7) (.var 2)) (.cons (.cmp .notin (.var 7) (.var 6)) .nil)))
 (.cons (.exp (.bm .append (.var 6) (.cons (.var 7) .nil)))
 .nil)
 .nil)
 .nil))
 .nil))
 (.cons (.asg 8 (.bi .len (.cons (.var 6) .nil)))
 (.cons (.asg 6 (.bin .add (.bin .add (.var 6) (.list (.cons (.con (.str (Str.ofString "$accept"))) .nil))) (.var 2)))
 (.cons (.asg 9 (.list (.cons (.new 4 (.cons (.con (.int 0)) (.cons (.var 8) (.cons (.tup (.cons (.bm .index (.var 6) (.cons (.var 5) .nil)) (.cons (.glo 1) .nil))) (.cons (.glo 1) .nil))))) .nil)))
 (.cons (.forr (.two 3 4) .plain (.var 0)
 (.cons (.asg 10 (.bi .tuple (.cons (.comp (.bm .index (.var 6) (.cons (.var 11) .nil)) (.one 11) .plain (.var 4) .nil) .nil)))
 (.cons (.exp (.bm .append (.var 9) (.cons (.new 4 (.cons (.bi .len (.cons (.var 9) .nil)) (.cons (.bm .index (.var 6) (.cons (.var 3) .nil)) (.cons (.var 10) (.cons (.call 40 (.cons (.var 10) (.cons (.var 8) .nil))) .nil))))) .nil)))
 .nil)))
 (.cons (.ret (.new 5 (.cons (.var 6) (.cons (.var 8) (.cons (.var 9) (.cons (.edict 1) (.cons (.con .none) (.cons (.bm .index (.var 6) (.cons (.var 5) .nil)) .nil))))))))
 .nil)))))))))))⟩
noncomputable def a1o:c0c:=⟨1,3,[],
 (.cons (.asg 1 (.con (.int 19)))
 (.cons (.forr (.one 2) .plain (.slcTo (.var 0) (.con (.int 63)))
 (.cons (.asg 1 (.bin .add (.bin .add (.bin .mul (.var 1) (.con (.int 1031))) (.bin .mul (.con (.int 2)) (.bi .abs (.cons (.bi .int (.cons (.var 2) .nil)) .nil)))) (.bi .int (.cons (.cmp .lt (.var 2) (.con (.int 0))) .nil))))
 .nil))
 (.cons (.ret (.list (.cons (.var 1) (.cons (.con (.int 0)) .nil))))
 .nil)))⟩
noncomputable def x0t:c0c:=⟨2,3,[],
 (.cons (.ifs (.cmp .eq (.sub (.var 0) (.con (.int 0))) (.con (.int 0)))
 (.cons (.asgI (.var 0) (.con (.int 1)) (.bin .add (.sub (.var 0) (.con (.int 1))) (.con (.int 1))))
 (.cons (.asgI (.var 0) (.con (.int 0)) (.bin .add (.bin .mul (.con (.int 1031)) (.sub (.var 0) (.con (.int 1)))) (.con (.int 8009))))
 .nil))
 .nil)
 (.cons (.asg 2 (.bin .mod (.sub (.var 0) (.con (.int 0))) (.var 1)))
 (.cons (.asgI (.var 0) (.con (.int 0)) (.bin .fdiv (.sub (.var 0) (.con (.int 0))) (.var 1)))
 (.cons (.ret (.var 2))
 .nil))))⟩
noncomputable def x0w:c0c:=⟨2,2,[],
 (.cons (.ret (.sub (.var 1) (.call 43 (.cons (.var 0) (.cons (.bi .len (.cons (.var 1) .nil)) .nil)))))
 .nil)⟩
noncomputable def t0r:c0c:=⟨1,7,[],
 (.cons (.asg 1 (.slcTo (.list (.cons (.con (.str (Str.ofString "S"))) (.cons (.con (.str (Str.ofString "T"))) (.cons (.con (.str (Str.ofString "U"))) .nil)))) (.bin .add (.con (.int 1)) (.call 43 (.cons (.var 0) (.cons (.con (.int 3)) .nil))))))
 (.cons (.asg 2 (.comp (.tup (.cons (.var 4) (.cons (.bi .tuple (.cons (.comp (.call 44 (.cons (.var 0) (.cons (.bin .add (.list (.cons (.con (.str (Str.ofString "a"))) (.cons (.con (.str (Str.ofString "b"))) .nil))) (.var 1)) .nil))) (.one 5) .range (.call 43 (.cons (.var 0) (.cons (.con (.int 4)) .nil))) .nil) .nil)) .nil))) (.one 4) .plain (.var 1) .nil))
 (.cons (.forr (.one 3) .range (.call 43 (.cons (.var 0) (.cons (.con (.int 4)) .nil)))
 (.cons (.exp (.bm .append (.var 2) (.cons (.tup (.cons (.call 44 (.cons (.var 0) (.cons (.var 1) .nil))) (.cons (.bi .tuple (.cons (.comp (.call 44 (.cons (.var 0) (.cons (.bin .add (.var 1) (.list (.cons (.con (.str (Str.ofString "a"))) (.cons (.con (.str (Str.ofString "b"))) .nil)))) .nil))) (.one 6) .range (.call 43 (.cons (.var 0) (.cons (.con (.int 3)) .nil))) .nil) .nil)) .nil))) .nil)))
 .nil))
 (.cons (.ret (.var 2))
 .nil))))⟩
noncomputable def x0u:c0c:=⟨2,9,[],
 (.cons (.asgT [2,3] (.tup (.cons (.bi .list (.cons (.var 1) .nil)) (.cons (.con (.int 0)) .nil))))
 (.cons (.whil (.cmp .lt (.var 3) (.bi .len (.cons (.var 2) .nil)))
 (.cons (.asgT [4,5] (.sub (.var 2) (.var 3)))
 (.cons (.ifs (.cmp .lt (.var 5) (.bi .len (.cons (.sub (.sub (.var 0) (.var 4)) (.con (.int 1))) .nil)))
 (.cons (.asg 6 (.sub (.sub (.sub (.var 0) (.var 4)) (.con (.int 1))) (.var 5)))
 (.cons (.asg 2 (.bin .add (.var 2) (.comp (.tup (.cons (.var 7) (.cons (.con (.int 0)) .nil))) (.two 7 8) .enum (.var 0) (.cons (.and (.cons (.cmp .eq (.sub (.var 8) (.con (.int 0))) (.var 6)) (.cons (.cmp .notin (.tup (.cons (.var 7) (.cons (.con (.int 0)) .nil))) (.var 2)) .nil))) .nil))))
 .nil))
 .nil)
 (.cons (.asg 3 (.bin .add (.var 3) (.con (.int 1))))
 .nil))))
 (.cons (.ret (.bi .tuple (.cons (.bi .sorted (.cons (.var 2) .nil)) .nil)))
 .nil)))⟩
noncomputable def x0v:c0c:=⟨3,6,[],
 (.cons (.asg 3 (.comp (.tup (.cons (.var 4) (.cons (.bin .add (.var 5) (.con (.int 1))) .nil))) (.two 4 5) .plain (.var 1) (.cons (.cmp .eq (.slc (.sub (.sub (.var 0) (.var 4)) (.con (.int 1))) (.var 5) (.bin .add (.var 5) (.con (.int 1)))) (.tup (.cons (.var 2) .nil))) .nil)))
 (.cons (.ret (.call 46 (.cons (.var 0) (.cons (.var 3) .nil))))
 .nil))⟩
noncomputable def x0x:c0c:=⟨2,13,[],
 (.cons (.asgT [2,3,4] (.tup (.cons (.list (.cons (.call 46 (.cons (.var 0) (.cons (.list (.cons (.tup (.cons (.con (.int 0)) (.cons (.con (.int 0)) .nil))) .nil)) .nil))) .nil)) (.cons (.list (.cons (.con (.str (Str.ofString ""))) .nil)) (.cons (.list .nil) .nil)))))
 (.cons (.whil (.cmp .lt (.bi .len (.cons (.var 4) .nil)) (.bi .len (.cons (.var 2) .nil)))
 (.cons (.asgT [5,6] (.tup (.cons (.sub (.var 2) (.bi .len (.cons (.var 4) .nil))) (.cons (.edict 2) .nil))))
 (.cons (.asg 7 (.comp (.sub (.sub (.sub (.var 0) (.var 10)) (.con (.int 1))) (.var 11)) (.two 10 11) .plain (.var 5) (.cons (.cmp .lt (.var 11) (.bi .len (.cons (.sub (.sub (.var 0) (.var 10)) (.con (.int 1))) .nil))) .nil)))
 (.cons (.forr (.one 8) .plain (.comp (.var 12) (.one 12) .plain (.var 1) (.cons (.cmp .inn (.var 12) (.var 7)) .nil))
 (.cons (.asg 9 (.call 47 (.cons (.var 0) (.cons (.var 5) (.cons (.var 8) .nil)))))
 (.cons (.ifs (.cmp .notin (.var 9) (.var 2))
 (.cons (.exp (.bm .append (.var 2) (.cons (.var 9) .nil)))
 (.cons (.exp (.bm .append (.var 3) (.cons (.var 8) .nil)))
 .nil))
 .nil)
 (.cons (.asgI (.var 6) (.var 8) (.bm .index (.var 2) (.cons (.var 9) .nil)))
 .nil))))
 (.cons (.exp (.bm .append (.var 4) (.cons (.var 6) .nil)))
 .nil)))))
 (.cons (.ret (.tup (.cons (.var 2) (.cons (.var 3) (.cons (.var 4) .nil)))))
 .nil)))⟩
noncomputable def i0f:c0c:=⟨6,18,[],
 (.cons (.ifs (.cmp .ne (.bi .len (.cons (.attr (.var 1) 8) .nil)) (.bi .len (.cons (.var 3) .nil)))
 (.cons (.ret (.con (.bool false)))
 .nil)
 .nil)
 (.cons (.forr (.two 6 7) .enum (.attr (.var 1) 8)
 (.cons (.asg 8 (.bi .sorted (.cons (.comp (.meth (.var 0) 15 (.cons (.var 11) (.cons (.var 12) .nil))) (.two 11 12) .plain (.sub (.var 3) (.var 6)) .nil) .nil)))
 (.cons (.asg 9 (.comp (.meth (.var 0) 15 (.cons (.var 13) (.cons (.var 14) .nil))) (.two 13 14) .plain (.sub (.var 3) (.var 6)) (.cons (.or (.cons (.cmp .gt (.var 14) (.con (.int 0))) (.cons (.cmp .eq (.var 13) (.con (.int 0))) .nil))) .nil)))
 (.cons (.asg 10 (.comp (.var 15) (.two 15 16) .plain (.sub (.var 3) (.var 6)) (.cons (.and (.cons (.cmp .gt (.var 15) (.con (.int 0))) (.cons (.cmp .eq (.var 16) (.bi .len (.cons (.sub (.sub (.var 2) (.var 15)) (.con (.int 1))) .nil))) .nil))) .nil)))
 (.cons (.ifs (.or (.cons (.cmp .ne (.attr (.var 7) 0) (.var 6)) (.cons (.cmp .ne (.bi .sorted (.cons (.attr (.var 7) 3) .nil)) (.var 8)) (.cons (.cmp .ne (.bi .list (.cons (.attr (.var 7) 1) .nil)) (.bi .sorted (.cons (.var 9) .nil))) (.cons (.cmp .ne (.bi .list (.cons (.attr (.var 7) 5) .nil)) (.var 10)) .nil)))))
 (.cons (.ret (.con (.bool false)))
 .nil)
 .nil)
 (.cons (.ifs (.or (.cons (.cmp .ne (.attr (.var 7) 2) (.meth (.var 0) 13 (.cons (.sub (.var 4) (.var 6)) .nil))) (.cons (.cmp .ne (.attr (.var 7) 4) (.bi .dict (.cons (.comp (.tup (.cons (.meth (.var 0) 13 (.cons (.var 17) .nil)) (.cons (.sub (.sub (.var 5) (.var 6)) (.var 17)) .nil))) (.one 17) .plain (.sub (.var 5) (.var 6)) .nil) .nil))) .nil)))
 (.cons (.ret (.con (.bool false)))
 .nil)
 .nil)
 (.cons (.ifs (.cmp .ne (.bi .list (.cons (.attr (.var 7) 4) .nil)) (.bi .sorted (.cons (.attr (.var 7) 4) .nil)))
 (.cons (.ret (.con (.bool false)))
 .nil)
 .nil)
 .nil)))))))
 (.cons (.ret (.con (.bool true)))
 .nil)))⟩
noncomputable def l0p:c0c:=⟨6,14,[],
 (.cons (.asg 6 (.list (.cons (.var 4) .nil)))
 (.cons (.forr (.one 7) .plain (.var 5)
 (.cons (.ifs (.cmp .notin (.var 7) (.sub (.var 3) (.sub (.var 6) (.neg (.con (.int 1))))))
 (.cons .brk
 .nil)
 .nil)
 (.cons (.exp (.bm .append (.var 6) (.cons (.sub (.sub (.var 3) (.sub (.var 6) (.neg (.con (.int 1))))) (.var 7)) .nil)))
 .nil)))
 (.cons (.asgT [8,9] (.tup (.cons (.comp (.meth (.var 0) 13 (.cons (.var 11) .nil)) (.one 11) .plain (.var 5) .nil) (.cons (.cmp .eq (.bi .len (.cons (.var 6) .nil)) (.bin .add (.bi .len (.cons (.var 5) .nil)) (.con (.int 1)))) .nil))))
 (.cons (.ifs (.or (.cons (.cmp .ne (.meth (.var 1) 6 (.cons (.var 4) (.cons (.var 8) .nil))) (.var 6)) (.cons (.cmp .ne (.meth (.var 1) 5 (.cons (.var 4) (.cons (.var 8) .nil))) (.ite (.var 9) (.sub (.var 6) (.neg (.con (.int 1)))) (.neg (.con (.int 1))))) .nil)))
 (.cons (.ret (.con (.bool false)))
 .nil)
 .nil)
 (.cons (.ifs (.cmp .gt (.var 4) (.con (.int 0)))
 (.cons (.ret (.con (.bool true)))
 .nil)
 .nil)
 (.cons (.asg 10 (.ite (.var 9) (.bi .sorted (.cons (.comp (.meth (.var 0) 15 (.cons (.var 12) (.cons (.var 13) .nil))) (.two 12 13) .plain (.sub (.var 2) (.sub (.var 6) (.neg (.con (.int 1))))) .nil) .nil)) (.list .nil)))
 (.cons (.ret (.and (.cons (.cmp .eq (.call 27 (.cons (.var 1) (.cons (.var 8) .nil))) (.var 9)) (.cons (.cmp .eq (.call 28 (.cons (.var 1) (.cons (.var 8) .nil))) (.var 10)) .nil))))
 .nil)))))))⟩
noncomputable def t0q:c0c:=⟨3,12,[],
 (.cons (.asg 3 (.bin .mul (.list (.cons (.con .none) .nil)) (.bi .len (.cons (.var 0) .nil))))
 (.cons (.asgI (.var 3) (.var 2) (.tup .nil))
 (.cons (.forr (.one 4) .range (.bi .len (.cons (.var 0) .nil))
 (.cons (.asg 5 (.bi .list (.cons (.var 3) .nil)))
 (.cons (.forr (.one 6) .plain (.comp (.var 10) (.two 10 11) .enum (.var 3) (.cons (.and (.cons (.cmp .isnot (.var 11) (.con .none)) (.cons (.cmp .eq (.bi .len (.cons (.var 11) .nil)) (.var 4)) .nil))) .nil))
 (.cons (.forr (.one 7) .plain (.sub (.var 0) (.var 6))
 (.cons (.asgT [8,9] (.tup (.cons (.bin .add (.sub (.var 3) (.var 6)) (.tup (.cons (.bm .index (.var 1) (.cons (.var 7) .nil)) .nil))) (.cons (.sub (.sub (.var 0) (.var 6)) (.var 7)) .nil))))
 (.cons (.ifs (.and (.cons (.cmp .is (.sub (.var 3) (.var 9)) (.con .none)) (.cons (.or (.cons (.cmp .is (.sub (.var 5) (.var 9)) (.con .none)) (.cons (.cmp .lt (.var 8) (.sub (.var 5) (.var 9))) .nil))) .nil)))
 (.cons (.asgI (.var 5) (.var 9) (.var 8))
 .nil)
 .nil)
 .nil)))
 .nil))
 (.cons (.ifs (.cmp .eq (.var 5) (.var 3))
 (.cons .brk
 .nil)
 .nil)
 (.cons (.asg 3 (.var 5))
 .nil)))))
 (.cons (.ret (.var 3))
 .nil))))⟩
noncomputable def t0p:c0c:=⟨3,7,[],
 (.cons (.asg 3 (.list (.cons (.var 1) .nil)))
 (.cons (.forr (.one 4) .range (.var 2)
 (.cons (.asg 3 (.comp (.var 5) (.one 5) .range (.bi .len (.cons (.var 0) .nil)) (.cons (.cmp .ne (.comp (.var 6) (.one 6) .vals (.sub (.var 0) (.var 5)) (.cons (.cmp .inn (.var 6) (.var 3)) .nil)) (.list .nil)) .nil)))
 .nil))
 (.cons (.ret (.var 3))
 .nil)))⟩
noncomputable def n0r:c0c:=⟨1,26,[],
 (.cons (.asg 1 (.call 42 (.cons (.var 0) .nil)))
 (.cons (.asg 2 (.call 45 (.cons (.var 1) .nil)))
 (.cons (.asg 3 (.bin .add (.list (.cons (.tup (.cons (.con (.str (Str.ofString "$accept"))) (.cons (.tup (.cons (.con (.str (Str.ofString "S"))) (.cons (.con (.str (Str.ofString "$end"))) .nil))) .nil))) .nil)) (.var 2)))
 (.cons (.asg 4 (.call 41 (.cons (.comp (.tup (.cons (.var 18) (.cons (.bi .list (.cons (.var 19) .nil)) .nil))) (.two 18 19) .plain (.var 2) .nil) .nil)))
 (.cons (.asg 5 (.call 22 (.cons (.var 4) .nil)))
 (.cons (.asgT [6,7,8] (.call 48 (.cons (.var 3) (.cons (.attr (.var 4) 17) .nil))))
 (.cons (.ifs (.not (.call 49 (.cons (.var 4) (.cons (.var 5) (.cons (.var 3) (.cons (.var 6) (.cons (.var 7) (.cons (.var 8) .nil))))))))
 (.cons (.ret (.con (.bool false)))
 .nil)
 .nil)
 (.cons (.forr (.one 9) .range (.con (.int 3))
 (.cons (.asgT [10,11] (.tup (.cons (.sub (.list (.cons (.con (.int 0)) (.cons (.con (.int 0)) (.cons (.call 43 (.cons (.var 1) (.cons (.bi .len (.cons (.var 6) .nil)) .nil))) .nil)))) (.var 9)) (.cons (.list .nil) .nil))))
 (.cons (.asg 12 (.var 10))
 (.cons (.forr (.one 13) .range (.call 43 (.cons (.var 1) (.cons (.con (.int 8)) .nil)))
 (.cons (.asg 14 (.ite (.and (.cons (.cmp .gt (.call 43 (.cons (.var 1) (.cons (.con (.int 6)) .nil))) (.con (.int 0))) (.cons (.cmp .ge (.var 12) (.con (.int 0))) (.cons (.cmp .ne (.sub (.var 8) (.var 12)) (.edict 2)) .nil)))) (.bi .list (.cons (.sub (.var 8) (.var 12)) .nil)) (.attr (.var 4) 17)))
 (.cons (.exp (.bm .append (.var 11) (.cons (.call 44 (.cons (.var 1) (.cons (.var 14) .nil))) .nil)))
 (.cons (.asg 12 (.bm .get (.sub (.var 8) (.var 12)) (.cons (.sub (.var 11) (.neg (.con (.int 1)))) (.cons (.var 12) .nil))))
 .nil))))
 (.cons (.ifs (.not (.call 50 (.cons (.var 4) (.cons (.var 5) (.cons (.var 6) (.cons (.var 8) (.cons (.var 10) (.cons (.var 11) .nil))))))))
 (.cons (.ret (.con (.bool false)))
 .nil)
 .nil)
 .nil)))))
 (.cons (.asgT [10,15] (.tup (.cons (.call 43 (.cons (.var 1) (.cons (.bi .len (.cons (.var 6) .nil)) .nil))) (.cons (.call 43 (.cons (.var 1) (.cons (.bi .len (.cons (.var 6) .nil)) .nil))) .nil))))
 (.cons (.ifs (.or (.cons (.cmp .ne (.call 25 (.cons (.var 5) (.cons (.var 10) .nil))) (.call 51 (.cons (.var 8) (.cons (.attr (.var 4) 17) (.cons (.var 10) .nil))))) (.cons (.cmp .ne (.call 26 (.cons (.var 5) (.cons (.var 15) .nil))) (.sub (.call 51 (.cons (.var 8) (.cons (.attr (.var 4) 17) (.cons (.con (.int 0)) .nil)))) (.var 15))) .nil)))
 (.cons (.ret (.con (.bool false)))
 .nil)
 .nil)
 (.cons (.asg 16 (.comp (.call 52 (.cons (.var 8) (.cons (.var 20) (.cons (.con (.int 1)) .nil)))) (.one 20) .range (.bi .len (.cons (.var 6) .nil)) .nil))
 (.cons (.ifs (.or (.cons (.cmp .ne (.call 23 (.cons (.var 5) .nil)) (.var 16)) (.cons (.cmp .ne (.comp (.call 24 (.cons (.var 5) (.cons (.var 15) (.cons (.var 21) .nil)))) (.one 21) .range (.con (.int 3)) .nil) (.comp (.call 52 (.cons (.var 8) (.cons (.var 15) (.cons (.var 22) .nil)))) (.one 22) .range (.con (.int 3)) .nil)) .nil)))
 (.cons (.ret (.con (.bool false)))
 .nil)
 .nil)
 (.cons (.ifs (.or (.cons (.cmp .ne (.meth (.var 5) 7 .nil) (.sub (.sub (.var 8) (.sub (.sub (.var 8) (.con (.int 0))) (.con (.str (Str.ofString "S"))))) (.con (.str (Str.ofString "$end"))))) (.cons (.cmp .ne (.meth (.var 5) 8 .nil) (.bi .sum (.cons (.comp (.bi .len (.cons (.var 23) .nil)) (.one 23) .plain (.var 8) .nil) .nil))) .nil)))
 (.cons (.ret (.con (.bool false)))
 .nil)
 .nil)
 (.cons (.asg 17 (.comp (.var 24) (.two 24 25) .enum (.attr (.var 5) 8) (.cons (.or (.cons (.cmp .gt (.bi .len (.cons (.attr (.var 25) 5) .nil)) (.con (.int 1))) (.cons (.and (.cons (.cmp .ne (.attr (.var 25) 5) (.list .nil)) (.cons (.cmp .ne (.sub (.var 8) (.var 24)) (.edict 2)) .nil))) .nil))) .nil)))
 (.cons (.ret (.and (.cons (.cmp .eq (.call 29 (.cons (.var 5) .nil)) (.var 17)) (.cons (.cmp .eq (.call 30 (.cons (.var 5) .nil)) (.cmp .eq (.var 17) (.list .nil))) .nil))))
 .nil)))))))))))))))⟩
noncomputable def i1u:List c0c:=[r0j,m1j,n0q,n0p,f0b,p0k,l0m,n0l,n0m,x0s,k0r,k0q,k0k,k0j,k0m,k0l,f0a,d0p,n0k,h0e,k0n,l0l,i1p,n0s,l0s,i0g,l0r,t0o,p0l,h0f,r0i,t0n,n0n,f0t,k0p,i0e,n0o,j0b,k0o,l0n,l0o,l0q,a1o,x0t,x0w,t0r,x0u,x0v,x0x,i0f,l0p,t0q,t0p,n0r]
noncomputable def i0i(f:Nat):Option c0c:=i1u[f]?
noncomputable def e0h(c:Nat):Nat:=(([2,5,12,18,31,32]:List Nat)[c]?).getD 999
noncomputable def n1j:List ((Nat×Nat)×Nat):=[((0,0),3),((0,1),4),((1,2),6),((1,3),7),((1,4),8),((2,0),13),((2,5),14),((2,6),15),((2,7),16),((2,8),17),((3,9),19),((3,10),20),((3,11),21),((5,12),33),((5,13),34),((5,14),35),((5,15),36),((5,16),37),((5,17),38),((5,18),39)]
noncomputable def i0r(c x:Nat):Option Nat:=n1j.lookup (c,x)
noncomputable def b1p:List Str:=["goto","is_consistent","wanted","added","close","walk","path","final_state","transition_count","number_of","expand","built","symbol_count","number","rules_of","item","rule_of","dot_of","after"]
noncomputable def d0q(x:Nat):Str:=(b1p[x]?).getD "?"
noncomputable def e1m:List Str:=["LrState","Closer","Automaton","Builder","Rule","Grammar"]
noncomputable def p0f(c:Nat):Str:=(e1m[c]?).getD "?"
noncomputable def i1v:List (List (Str×Nat)):=
 ([[("rows",0),("found",1),("middle",2),("one",3)],
 [("mask",0),("found",1),("at",2),("left",3)],
 [("self",0),("number",1),("kernel",2),("symbol",3)],
 [("self",0),("symbol",1)],
 [("self",0)],
 [("self",0),("grammar",1),("rows",2),("rule",3)],
 [("self",0),("kernel",1),("mask",2),("item",3),("symbol",4)],
 [("self",0),("kernel",1),("found",2),("symbol",3),("number",4),("item",5)],
 [("self",0),("kernel",1)],
 [("grammar",0),("item",1)],
 [("grammar",0),("items",1),("found",2),("item",3),("symbol",4),("ordered",5)],
 [("grammar",0),("items",1),("found",2),("item",3)],
 [("self",0),("grammar",1),("states",2)],
 [("self",0),("state",1),("symbol",2)],
 [("self",0),("state",1),("symbols",2),("here",3),("symbol",4)],
 [("self",0),("state",1),("symbols",2),("found",3),("symbol",4),("here",5)],
 [("self",0)],
 [("self",0)]]:List (List (Str×Nat)))++(([[("self",0),("grammar",1)],
 [("self",0),("kernel",1),("symbol",2)],
 [("self",0),("state",1),("behind",2),("symbol",3)],
 [("self",0),("at",1)],
 [("grammar",0)],
 [("automaton",0),("found",1),("state",2),("symbol",3)],
 [("automaton",0),("state",1),("count",2),("back",3),("found",4),("turn",5),("earlier",6),("here",7),("one",8)],
 [("automaton",0),("begin",1),("found",2),("queue",3),("at",4),("here",5),("moves",6),("symbol",7)],
 [("automaton",0),("state",1)],
 [("automaton",0),("symbols",1)],
 [("automaton",0),("symbols",1),("state",2)],
 [("automaton",0)],
 [("automaton",0)],
 [("self",0),("number",1),("left",2),("right",3),("level_of",4),("action",5),("line",6),("before",7)],
 [("self",0),("names",1),("terminal_count",2),("rules",3),("levels",4),("expect",5),("start",6),("rule",7)],
 [("self",0)],
 [("self",0),("name",1)],
 [("self",0),("symbol",1)]]:List (List (Str×Nat)))++(([[("self",0),("rule",1),("dot",2)],
 [("self",0),("item",1)],
 [("self",0),("item",1)],
 [("self",0),("item",1),("right",2),("dot",3)],
 [("right",0),("terminal_count",1),("found",2),("symbol",3)],
 [("pairs",0),("start",1),("lefts",2),("left",3),("parts",4),("begin",5),("names",6),("name",7),("count",8),("rules",9),("right",10)],
 [("script",0),("number",1),("cell",2)],
 [("pen",0),("many",1),("digit",2)],
 [("pen",0),("some",1)],
 [("pen",0),("names",1),("pairs",2),("turn",3)],
 [("rules",0),("items",1),("found",2),("spot",3),("number",4),("dot",5),("name",6)],
 [("rules",0),("items",1),("name",2),("ahead",3)],
 [("rules",0),("names",1),("sets",2),("symbols",3),("moves",4),("items",5),("row",6),("ahead",7),("name",8),("later",9)],
 [("grammar",0),("machine",1),("rules",2),("sets",3),("symbols",4),("moves",5),("spot",6),("state",7),("items",8),("kernel",9),("whole",10)],
 [("grammar",0),("machine",1),("sets",2),("moves",3),("origin",4),("row",5),("way",6),("name",7),("numbers",8),("is_whole",9),("due",10)],
 [("moves",0),("names",1),("origin",2),("found",3),("turn",4),("longer",5),("spot",6),("name",7),("later",8),("goal",9)],
 [("moves",0),("state",1),("count",2),("found",3),("turn",4)],
 [("script",0),("pen",1),("drawn",2),("rules",3),("grammar",4),("machine",5),("sets",6),("symbols",7),("moves",8),("turn",9),("origin",10),("row",11),("spot",12),("many",13),("some",14),("state",15),("heads",16),("mixed",17)]]:List (List (Str×Nat)))))
noncomputable def j0w(f:Nat):List (Str×Nat):=(i1v[f]?).getD []
theorem o0e{α β:Type}[BEq α][LawfulBEq α]:∀ {l:List (α×β)} {k:α} {v:β},l.lookup k=some v→∃ p∈l,p.1=k
 | [],_,_,h=>by cases h
 | (a,b)::l,k,v,h=>by
  rw[lookup_cons]at h;cases e:k == a with
  | true=>exact⟨(a,b),.head _,(beq_iff_eq.mp e).symm⟩
  | false=>
   rw[e]at h;obtain⟨p,hp,q⟩:=o0e h;exact⟨p,.tail _ hp,q⟩
theorem r0z{c x f:Nat}(h:i0r c x=some f):x<19:=by
 obtain⟨p,hp,e⟩:=o0e h;have:=(by decide:∀ p∈n1j,p.1.2<19) p hp;rw[e]at this;exact this
theorem nef{α β:Type _}{f:α→β}{a b:α}{x y:β}(h:f a=x)(g:f b=y)(n:x≠y):a≠b:=fun e=>n (h.symm.trans ((congrArg f e).trans g))
theorem s0p{α:Type}{r:α→α→Prop}{l:List α}(p:l.Pairwise r){i:Nat}{x y:α}(h:l[i]?=some x)(hy:y∈l.take i):r y x:=by
 obtain⟨hi,rfl⟩:=gsm h;obtain⟨j,hj,rfl⟩:=getElem_of_mem hy;rw[length_take]at hj;rw[getElem_take];exact pairwise_iff_getElem.mp p j i _ hi (Nat.lt_of_lt_of_le hj (Nat.min_le_left _ _))
theorem c0o{α:Type}{l:List α}(nd:l.Nodup){i:Nat}{x:α}(h:l[i]?=some x):x∉l.take i:=fun hm=>s0p nd h hm rfl
theorem b1t{α β:Type}{l:List (α×β)}{a a':α}{b:β}(nd:(l.map (·.2)).Nodup)(h:(a,b)∈l)(h':(a',b)∈l):a=a':=by
 induction l with
 | nil=>cases h
 | cons p l ih=>
  rw[map_cons,nodup_cons]at nd;rcases mem_cons.mp h with e | h
  ·rcases mem_cons.mp h' with e' | h'
   ·exact congrArg Prod.fst (e.trans e'.symm)
   ·exact absurd (mem_map.mpr (Mac.i3_1 _ h' (e▸rfl))) nd.1
  ·rcases mem_cons.mp h' with e' | h'
   ·exact absurd (mem_map.mpr (Mac.i3_1 _ h (e'▸rfl))) nd.1
   ·exact ih nd.2 h h'
noncomputable abbrev a0l(vs:List Value)(n:Nat):Obj:={ cls:=.type "tuple",data:=.seq vs.toArray n }
noncomputable abbrev b0n(vs:List Value)(n:Nat):Obj:={ cls:=.type "list",data:=.seq vs.toArray n }
mutual
noncomputable def VR(B h:Heap):a0a→Value→Prop
 | .none,v=>v=.none
 | .bool b,v=>v=.bool b
 | .int i,v=>∃ t,v=.int i t
 | .str s,v=>∃ t,v=.str s t
 | .ref a,v=>v=.ref a
 | .tup l,v=>∃ a vs n,v=.ref a∧h.get? a=some (a0l vs n)∧VRs B h l vs
 | .frz l,v=>∃ a vs n,v=.ref a∧(∃ o,B.get? a=some o∧o.cls=.type "list"∧o.data=.seq vs.toArray n)∧VRs B h l vs
noncomputable def VRs(B h:Heap):List a0a→List Value→Prop
 | [],vs=>vs=[]
 | x::xs,vs=>∃ v r,vs=v::r∧VR B h x v∧VRs B h xs r
end
theorem VR.mkInt{B h:Heap}(i:Int)(t:Tok):VR B h (.int i) (.int i t):=⟨t,rfl⟩
theorem VR.mkStr{B h:Heap}(i:Str)(t:Tok):VR B h (.str i) (.str i t):=⟨t,rfl⟩
theorem VR.mkBool{B h:Heap}(b:Bool):VR B h (.bool b) (.bool b):=rfl
theorem VR.mkNone{B h:Heap}:VR B h .none .none:=rfl
theorem VR.mkRef{B h:Heap}(a:Addr):VR B h (.ref a) (.ref a):=rfl
theorem VR.mkTup{B h:Heap}{a:Addr}{vs:List Value}{n:Nat}{l:List a0a}(e:h.get? a=some (a0l vs n))(r:VRs B h l vs):VR B h (.tup l) (.ref a):=(Mac.i6_3 a vs n rfl e r)
def a0k(h h':Heap):Prop:=∀ a vs n,h.get? a=some (a0l vs n)→h'.get? a=some (a0l vs n)
theorem VR.mono{B h h':Heap}(k:a0k h h'){x:a0a}:∀ {v:Value},VR B h x v→VR B h' x v:=
 a0a.rec (motive_1:=fun x=>∀ {v:Value},VR B h x v→VR B h' x v) (motive_2:=fun l=>∀ {vs:List Value},VRs B h l vs→VRs B h' l vs) (fun h=>h) (fun U U h=>h) (fun U U h=>h) (fun U U h=>h)
  (fun U ih U h=>h.imp fun U h=>h.imp fun U h=>h.imp fun U h=>(Mac.i3_0 h.1 (k _ _ _ h.2.1) (ih h.2.2))) (fun U U h=>h) (fun U ih U h=>h.imp fun U h=>h.imp fun U h=>h.imp fun U h=>(Mac.i3_0 h.1 h.2.1 (ih h.2.2)))
  (fun h=>h) (fun U U i1 i2 U h=>h.imp fun U h=>h.imp fun U h=>(Mac.i3_0 h.1 (i1 h.2.1) (i2 h.2.2))) x
theorem VRs.mono{B h h':Heap}(k:a0k h h'):∀ {l:List a0a} {vs:List Value},VRs B h l vs→VRs B h' l vs:=by
 intro l
 induction l with
 | nil=>exact fun h=>h
 | cons x l ih=>exact fun h=>h.imp fun U h=>h.imp fun U h=>(Mac.i3_0 h.1 (h.2.1.mono k) (ih h.2.2))
theorem VRs.length{B h:Heap}:∀ {l:List a0a} {vs:List Value},VRs B h l vs→vs.length=l.length:=by
 intro l
 induction l with
 | nil=>intro vs e;cases(show vs=[] from e);rfl
 | cons x l ih=>rintro U ⟨v,r,rfl,a,b⟩;exact congrArg Nat.succ (ih b)
theorem VRs.get{B h:Heap}:∀ {l:List a0a} {vs:List Value} {i:Nat} {x:a0a},VRs B h l vs→l[i]?=some x→∃ v,vs[i]?=some v∧VR B h x v:=by
 intro l
 induction l with
 | nil=>intro vs i x e q;cases q
 | cons y l ih=>
  rintro U i x ⟨v,r,rfl,a,b⟩ q;cases i with
  | zero=>exact⟨v,rfl,Option.some.inj q▸a⟩
  | succ i=>exact ih (vs:=r) b q
theorem VRs.append{B h:Heap}:∀ {l l':List a0a} {vs vs':List Value},VRs B h l vs→VRs B h l' vs'→VRs B h (l++l') (vs++vs'):=by
 intro l
 induction l with
 | nil=>intro l' vs vs' e b;cases(show vs=[] from e);exact b
 | cons x l ih=>rintro l' U vs' ⟨v,r,rfl,a,b⟩ c;exact⟨v,_,rfl,a,ih b c⟩
theorem VRs.one{B h:Heap}{x:a0a}{v:Value}(a:VR B h x v):VRs B h [x] [v]:=(Mac.i5_2 v [] rfl a rfl)
theorem VRs.set{B h:Heap}:∀ {l:List a0a} {vs:List Value} {i:Nat} {x:a0a} {v:Value},VRs B h l vs→VR B h x v→VRs B h (l.set i x) (vs.set i v):=by
 intro l
 induction l with
 | nil=>intro vs i x v e U;cases(show vs=[] from e);rfl
 | cons y l ih=>
  rintro U i x v ⟨u,r,rfl,a,b⟩ c;cases i with
  | zero=>exact⟨_,_,rfl,c,b⟩
  | succ i=>exact⟨_,_,rfl,a,ih b c⟩
theorem VRs.take{B h:Heap}:∀ {l:List a0a} {vs:List Value} (k:Nat),VRs B h l vs→VRs B h (l.take k) (vs.take k):=by
 intro l
 induction l with
 | nil=>intro vs k e;cases(show vs=[] from e);rw[take_nil,take_nil];rfl
 | cons y l ih=>
  rintro U k ⟨v,r,rfl,a,b⟩;cases k with
  | zero=>rfl
  | succ k=>exact⟨_,_,rfl,a,ih k b⟩
theorem VRs.drop{B h:Heap}:∀ {l:List a0a} {vs:List Value} (k:Nat),VRs B h l vs→VRs B h (l.drop k) (vs.drop k):=by
 intro l
 induction l with
 | nil=>intro vs k e;cases(show vs=[] from e);rw[drop_nil,drop_nil];rfl
 | cons y l ih=>
  intro vs k r;cases k with
  | zero=>exact r
  | succ k=>obtain⟨v,r,rfl,a,b⟩:=r;exact ih k b
theorem VRs.replicate{B h:Heap}{x:a0a}{v:Value}(a:VR B h x v):∀ n,VRs B h (List.replicate n x) (List.replicate n v)
 | 0=>rfl
 | n+1=>(Mac.i5_2 v _ rfl a (VRs.replicate a n))
theorem VRs.ofFn{B h:Heap}:∀ {l:List a0a} {vs:List Value},vs.length=l.length→(∀ (i:Nat) x v,l[i]?=some x→vs[i]?=some v→VR B h x v)→VRs B h l vs:=by
 intro l
 induction l with
 | nil=>
  intro vs e U;cases vs with
  | nil=>rfl
  | cons=>cases e
 | cons x l ih=>
  intro vs e r;cases vs with
  | nil=>cases e
  | cons v vs=>exact⟨v,vs,rfl,r 0 x v rfl rfl,ih (Nat.succ.inj e) fun i x v p q=>r (i+1) x v p q⟩
theorem VRs.ints{B h:Heap}:∀ {ns:List Int} {vs:List Value},VRs B h (ns.map .int) vs→IntsAre vs ns:=by
 intro ns
 induction ns with
 | nil=>intro vs e;cases(show vs=[] from e);exact .nil
 | cons n ns ih=>rintro U ⟨U,r,rfl,⟨t,rfl⟩,b⟩;exact .cons _ _ (ih b)
theorem VRs.ofInts{B h:Heap}:∀ {ns:List Int} {vs:List Value},IntsAre vs ns→VRs B h (ns.map .int) vs:=by
 intro ns vs h
 induction h with
 | nil=>rfl
 | cons i t b ih=>exact⟨_,_,rfl,⟨t,rfl⟩,ih⟩
section
variable (prog:Program)(w:World)
def g1k(B h:Heap):Nat→a0a×a0a→DictEntry→Prop
 | 1,(.int i,v),e=>e.hash=hashInt i∧(∃ t,e.key=.int i t)∧VR B h v e.val
 | 2,(.str s,v),e=>e.hash=(strKind prog w).hash s∧(∃ t,e.key=.str s t)∧VR B h v e.val
 | 3,(.tup l,v),e=>∃ ns:List Int,l=ns.map .int∧e.hash=tupleKeyHash (intKind prog w) ns∧VR B h (.tup l) e.key∧VR B h v e.val
 | _,_,_=>False
def d0u(B h:Heap)(kd:Nat):List (a0a×a0a)→List DictEntry→Prop
 | [],es=>es=[]
 | p::kv,es=>∃ e r,es=e::r∧g1k prog w B h kd p e∧d0u B h kd kv r
def l0f(B h:Heap):List Nat→List a0a→List DictEntry→Prop
 | _,[],es=>es=[]
 | x::xs,f::fs,es=>∃ e r,es=e::r∧e.hash=PyData.keyHash w.params (a0o x)∧(∃ t,e.key=.str (a0o x) t)∧VR B h f e.val∧l0f B h xs fs r
 | [],_::_,_=>False
def g0p(ca:Nat→Addr)(B:Heap)(H:MH)(h:Heap)(a:Addr):j0u→Prop
 | .list l=>∃ vs n,h.get? a=some (b0n vs n)∧VRs B h l vs
 | .dict kd kv ep=>((a == sysModules)=false∧1≤kd∧kd≤3)∧(kv.map (·.1)).Nodup∧∃ es,h.get? a=some (dictOf es ep)∧d0u prog w B h kd kv es
 | .inst c fs=>c<6∧∃ dx es n,H dx=some (.hid a)∧h.get? a=some (instObj (ca c) dx)∧h.get? dx=some (dictOf es n)∧l0f w B h (c0u c) fs es
 | .hid _=>∃ es n,h.get? a=some (dictOf es n)
structure Ok(ca:Nat→Addr)(X:Addr→Prop)(B:Heap)(H:MH)(h:Heap):Prop where
 base:∀ a o,B.get? a=some o→h.get? a=some o
 sep:∀ a o,B.get? a=some o→H a=none
 objs:∀ a o,H a=some o→g0p prog w ca B H h a o
 glob:∃ o,B.get? 3=some o
 frm:∀ a,X a→H a=none∧B.get? a=none∧∃ o,h.get? a=some o∧∀ vs n,o≠a0l vs n
end
section
variable {prog:Program}{w:World}
theorem g1k.mono{B h h':Heap}(k:a0k h h'){kd:Nat}{p:a0a×a0a}{e:DictEntry}(x:g1k prog w B h kd p e):g1k prog w B h' kd p e:=by
 obtain⟨p1,p2⟩:=p;rcases kd with _ | _ | _ | _ | kd <;> try exact False.elim x
 ·cases p1 <;> first | exact False.elim x | exact⟨x.1,x.2.1,x.2.2.mono k⟩
 ·cases p1 <;> first | exact False.elim x | exact⟨x.1,x.2.1,x.2.2.mono k⟩
 ·cases p1 <;> try exact False.elim x
  obtain⟨ns,a,b,c,d⟩:=x;exact⟨ns,a,b,c.mono k,d.mono k⟩
theorem d0u.mono{B h h':Heap}(k:a0k h h'){kd:Nat}:∀ {kv:List (a0a×a0a)} {es:List DictEntry},d0u prog w B h kd kv es→d0u prog w B h' kd kv es:=by
 intro kv
 induction kv with
 | nil=>exact fun {_} x=>x
 | cons p kv ih=>rintro U ⟨e,r,a,b,c⟩;exact⟨e,r,a,b.mono k,ih c⟩
theorem l0f.mono{B h h':Heap}(k:a0k h h'):∀ {xs:List Nat} {fs:List a0a} {es:List DictEntry},l0f w B h xs fs es→l0f w B h' xs fs es:=by
 intro xs fs
 induction fs generalizing xs with
 | nil=>intro es x;cases xs <;> exact x
 | cons f fs ih=>
  cases xs with
  | nil=>exact fun {_} x=>x
  | cons x xs=>rintro U ⟨e,r,a,b,c,d,f⟩;exact⟨e,r,a,b,c,d.mono k,ih f⟩
theorem l0f.length{B h:Heap}:∀ {xs:List Nat} {fs:List a0a} {es:List DictEntry},l0f w B h xs fs es→es.length=fs.length∧fs.length≤xs.length:=by
 intro xs fs
 induction fs generalizing xs with
 | nil=>intro es x;cases xs <;> (cases(show es=[] from x);exact⟨rfl,Nat.zero_le _⟩)
 | cons f fs ih=>
  cases xs with
  | nil=>intro es x;exact x.elim
  | cons x xs=>
   rintro U ⟨e,r,rfl,b,c,d,f⟩;exact⟨congrArg Nat.succ (ih f).1,Nat.succ_le_succ (ih f).2⟩
structure Tr(X:Addr→Prop)(H:MH)(h:Heap)(H':MH)(h':Heap):Prop where
 keep:∀ a o,h.get? a=some o→H a=none→¬ X a→h'.get? a=some o
 old:∀ a o,h.get? a=some o→H a=none→H' a=none
 xs:∀ a o,X a→H a=none→h.get? a=some o→∃ o',h'.get? a=some o'
structure TrE(L:Addr)(mp:Str→Option Value)(H:MH)(h:Heap)(H':MH)(h':Heap):Prop where
 keep:∀ a o,a≠L→h.get? a=some o→H a=none→h'.get? a=some o
 old:∀ a o,h.get? a=some o→H a=none→H' a=none
 ns:h'.Ns L mp
theorem Tr.refl(X:Addr→Prop)(H:MH)(h:Heap):Tr X H h H h:=⟨fun U U e U U=>e,fun U U U e=>e,fun U o U U e=>⟨o,e⟩⟩
theorem Tr.trans{X:Addr→Prop}{H H1 H2:MH}{h h1 h2:Heap}(a:Tr X H h H1 h1)(b:Tr X H1 h1 H2 h2):Tr X H h H2 h2 where
 keep:=fun p o e f g=>b.keep p o (a.keep p o e f g) (a.old p o e f) g
 old:=fun p o e f=>by
  by_cases g:X p
  ·obtain⟨o',e'⟩:=a.xs p o g f e;exact b.old p o' e' (a.old p o e f)
  ·exact b.old p o (a.keep p o e f g) (a.old p o e f)
 xs:=fun p o g f e=>by obtain⟨o',e'⟩:=a.xs p o g f e;exact b.xs p o' g (a.old p o e f) e'
theorem l0a{h:Heap}{L:Addr}{mp:Str→Option Value}(n:h.Ns L mp):∃ o,h.get? L=some o:=let ⟨o,_,_,e,_⟩:=n;⟨o,e⟩
theorem f1k{h:Heap}{L:Addr}{mp:Str→Option Value}(n:h.Ns L mp)(vs:List Value)(k:Nat):h.get? L≠some (a0l vs k):=by
 obtain⟨o,es,ep,e,d,U⟩:=n;intro q;rw[e]at q;cases q;cases d
theorem TrE.refl{L:Addr}{mp:Str→Option Value}{H:MH}{h:Heap}(n:h.Ns L mp):TrE L mp H h H h:=⟨fun U U U e U=>e,fun U U U e=>e,n⟩
theorem TrE.trans{L:Addr}{mp:Str→Option Value}{H H1 H2:MH}{h h1 h2:Heap}(a:TrE L mp H h H1 h1)(b:TrE L mp H1 h1 H2 h2):TrE L mp H h H2 h2 where
 keep:=fun p o n e f=>b.keep p o n (a.keep p o n e f) (a.old p o e f)
 old:=fun p o e f=>by
  by_cases g:p=L
  ·subst g;obtain⟨o',e'⟩:=l0a a.ns;exact b.old p o' e' (a.old p o e f)
  ·exact b.old p o (a.keep p o g e f) (a.old p o e f)
 ns:=b.ns
theorem TrE.tr{X:Addr→Prop}{L:Addr}{mp:Str→Option Value}{H H1:MH}{h h1:Heap}(a:TrE L mp H h H1 h1)(hL:X L):Tr X H h H1 h1 where
 keep:=fun p o e f g=>a.keep p o (fun q=>g (q▸hL)) e f
 old:=a.old
 xs:=fun p o g f e=>by
  by_cases q:p=L
  ·clear hL;subst q;exact l0a a.ns
  ·exact⟨o,a.keep p o q e f⟩
variable {ca:Nat→Addr}{X:Addr→Prop}{B h h':Heap}{H H':MH}{L:Addr}{mp:Str→Option Value}
theorem Ok.low(x:Ok prog w ca X B H h):3<h.objs.size:=let ⟨_,e⟩:=x.glob;Heap.lt_size (x.base _ _ e)
theorem g0p.mkList{a:Addr}{vs:List Value}{n:Nat}{l:List a0a}(e:h.get? a=some (b0n vs n))(r:VRs B h l vs):g0p prog w ca B H h a (.list l):=(Mac.i4_2 vs n e r)
theorem g0p.frame{b:Addr}{o:j0u}(x:g0p prog w ca B H h b o)(k:a0k h h')(hb:∀ ob,h.get? b=some ob→h'.get? b=some ob)
  (hd:∀ dx ob,H dx=some (.hid b)→h.get? dx=some ob→h'.get? dx=some ob∧H' dx=some (.hid b)):g0p prog w ca B H' h' b o:=by
 cases o with
 | list l=>obtain⟨vs,n,e,r⟩:=x;exact⟨vs,n,hb _ e,r.mono k⟩
 | dict kd kv ep=>obtain⟨s,nd,es,e,r⟩:=x;exact⟨s,nd,es,hb _ e,r.mono k⟩
 | inst c fs=>obtain⟨c6,dx,es,n,q,e,f,r⟩:=x;exact⟨c6,dx,es,n,(hd _ _ q f).2,hb _ e,(hd _ _ q f).1,r.mono k⟩
 | hid c=>obtain⟨es,n,e⟩:=x;exact⟨es,n,hb _ e⟩
theorem g0p.there{b:Addr}{o:j0u}(x:g0p prog w ca B H h b o):∃ ob,h.get? b=some ob∧(∀ vs n,ob≠a0l vs n):=by
 cases o with
 | list l=>obtain⟨vs,n,e,r⟩:=x;exact⟨_,e,fun vs n q=>by have:=congrArg Obj.cls q;simp at this⟩
 | dict kd kv ep=>obtain⟨s,nd,es,e,r⟩:=x;exact⟨_,e,fun vs n q=>by have:=congrArg Obj.cls q;simp at this⟩
 | inst c fs=>obtain⟨c6,dx,es,n,q,e,f,r⟩:=x;exact⟨_,e,fun vs n q=>by have:=congrArg Obj.cls q;simp at this⟩
 | hid c=>obtain⟨es,n,e⟩:=x;exact⟨_,e,fun vs n q=>by have:=congrArg Obj.cls q;simp at this⟩
theorem Ok.tupNo(x:Ok prog w ca X B H h){a:Addr}{vs:List Value}{n:Nat}(e:h.get? a=some (a0l vs n)):H a=none:=by
 cases q:H a with
 | none=>rfl
 | some o=>obtain⟨ob,e',f⟩:=(x.objs _ _ q).there;rw[e]at e';cases e';exact(f _ _ rfl).elim
theorem Ok.frmN(x:Ok prog w ca X B H h){a:Addr}(q:X a)(vs:List Value)(n:Nat):h.get? a≠some (a0l vs n):=fun e=>by
 obtain⟨U,U,o,e',f⟩:=x.frm a q;rw[e]at e';cases e';exact f _ _ rfl
theorem Tr.tups(x:Ok prog w ca X B H h)(t:Tr X H h H' h'):a0k h h':=fun a vs n e=>t.keep a _ e (x.tupNo e) fun q=>x.frmN q vs n e
theorem TrE.tups(x:Ok prog w ca X B H h)(hL:X L)(t:TrE L mp H h H' h'):a0k h h':=fun a vs n e=>t.keep a _ (fun q=>x.frmN hL vs n (q▸e)) e (x.tupNo e)
theorem Ok.fresh(x:Ok prog w ca X B H h){a:Addr}(e:h.get? a=none):H a=none:=by
 cases q:H a with
 | none=>rfl
 | some o=>obtain⟨ob,e',f⟩:=(x.objs _ _ q).there;rw[e]at e';cases e'
theorem Ok.freshB(x:Ok prog w ca X B H h){a:Addr}(e:h.get? a=none):B.get? a=none:=by
 cases q:B.get? a with
 | none=>rfl
 | some o=>rw[x.base _ _ q]at e;cases e
def b0c(L:Addr)(mp:Str→Option Value)(h h':Heap):Prop:=(∀ a o,a≠L→h.get? a=some o→h'.get? a=some o)∧h'.Ns L mp
theorem b0c.of(n:h.Ns L mp)(k:∀ a o,h.get? a=some o→h'.get? a=some o):b0c L mp h h':=⟨fun U U U e=>k _ _ e,n.keeps k⟩
theorem b0c.tups(x:Ok prog w ca X B H h)(hL:X L)(g:b0c L mp h h'):a0k h h':=fun a vs n e=>g.1 a _ (fun q=>x.frmN hL vs n (q▸e)) e
theorem m0g{h:Heap}{L:Addr}{mp:Str→Option Value}(n:h.Ns L mp):∃ o,h.get? L=some o∧∀ vs n,o≠a0l vs n:=by
 obtain⟨o,e⟩:=l0a n;exact⟨o,e,fun vs k q=>f1k n vs k (q▸e)⟩
theorem Ok.frmG(x:Ok prog w ca X B H h)(hL:X L)(g:b0c L mp h h'):∀ a,X a→∃ o,h'.get? a=some o∧∀ vs n,o≠a0l vs n:=fun a xa=>by
 by_cases q:a=L
 ·subst q;exact m0g g.2
 ·obtain⟨U,U,o,e,f⟩:=x.frm a xa;exact⟨o,g.1 _ _ q e,f⟩
theorem Ok.ext(x:Ok prog w ca X B H h)(hL:X L)(g:b0c L mp h h'):Ok prog w ca X B H h' where
 base:=fun a o e=>g.1 _ _ (fun q=>by have:=(x.frm L hL).2.1;rw[← q,e]at this;cases this) (x.base a o e)
 sep:=x.sep
 objs:=fun a o e=>by
  have hne:∀ b ob,H b=some ob→b≠L:=fun b ob e q=>by have:=(x.frm L hL).1;rw[← q,e]at this;cases this
  exact(x.objs a o e).frame (g.tups x hL) (fun ob q=>g.1 _ _ (hne _ _ e) q) fun dx ob p q=>⟨g.1 _ _ (hne _ _ p) q,p⟩
 glob:=x.glob
 frm:=fun a xa=>(Mac.i3_0 ((x.frm a xa).1) ((x.frm a xa).2.1) (x.frmG hL g a xa))
theorem TrE.ext(g:b0c L mp h h'):TrE L mp H h H h':=⟨fun a o n e U=>g.1 a o n e,fun U U U e=>e,g.2⟩
set_option tactic.hygienic true in
theorem Ok.new(x:Ok prog w ca X B H h)(hL:X L)(g:b0c L mp h h'){a:Addr}{o:j0u}(e:h.get? a=none)(r:g0p prog w ca B (upd H a o) h' a o):Ok prog w ca X B (upd H a o) h' where
 base:=(x.ext hL g).base
 sep:=fun b ob q=>by
  unfold upd;split
  ·rename_i c;clear r;subst c;rw[x.freshB e]at q;cases q
  ·exact x.sep b ob q
 objs:=fun b ob q=>by
  have hne:∀ b ob,H b=some ob→b≠L:=fun b ob e q=>by have:=(x.frm L hL).1;rw[← q,e]at this;cases this
  unfold upd at q;split at q
  ·rename_i c;clear e;subst c;cases q;exact r
  ·refine(x.objs b ob q).frame (g.tups x hL) (fun ob' z=>g.1 _ _ (hne _ _ q) z) fun dx ob p q=>⟨g.1 _ _ (hne _ _ p) q,?_⟩;unfold upd;rw[if_neg]
   ·exact p
   ·first | exact nef (e) q (fun e=>by cases e) | exact nef q (e) (fun e=>by cases e)
 glob:=x.glob
 frm:=fun b xb=>by
  refine⟨?_,(x.frm b xb).2.1,((x.ext hL g).frm b xb).2.2⟩;unfold upd;rw[if_neg]
  ·exact(x.frm b xb).1
  ·clear r;rintro rfl;obtain⟨U,U,o,e',U⟩:=x.frm _ xb;rw[e]at e';cases e'
theorem TrE.new(g:b0c L mp h h'){a:Addr}{o:j0u}(e:h.get? a=none):TrE L mp H h (upd H a o) h' where
 keep:=fun a o n e U=>g.1 a o n e
 old:=fun b ob q f=>by
  unfold upd;rw[if_neg]
  ·exact f
  ·first | exact nef (e) q (fun e=>by cases e) | exact nef q (e) (fun e=>by cases e)
 ns:=g.2
theorem a0k.sameBut{a:Addr}(s:Heap.SameBut a h h')(n:∀ vs n,h.get? a≠some (a0l vs n)):a0k h h':=fun b vs m e=>by
 refine(s.2 b ?_).trans e;clear s;rintro rfl;exact n _ _ e
theorem Ok.frmP(x:Ok prog w ca X B H h){a:Addr}{o o':j0u}(q:H a=some o){c:Addr}(hc:H c≠none)(s:Heap.SameBut c h h'):∀ b,X b→upd H a o' b=none∧B.get? b=none∧∃ o,h'.get? b=some o∧∀ vs n,o≠a0l vs n:=fun b xb=>by
 obtain⟨f1,f2,o,f3,f4⟩:=x.frm b xb;refine⟨?_,f2,o,(s.2 b ?_).trans f3,f4⟩
 ·unfold upd;rw[if_neg]
  ·exact f1
  ·first | exact nef (f1) q (fun e=>by cases e) | exact nef q (f1) (fun e=>by cases e)
 ·clear s;rintro rfl;exact hc f1
set_option tactic.hygienic true in
theorem Ok.put(x:Ok prog w ca X B H h){a:Addr}{o o':j0u}(q:H a=some o)(no:∀ b,o≠.hid b)(s:Heap.SameBut a h h')(r:a0k h h'→g0p prog w ca B (upd H a o') h' a o'):Ok prog w ca X B (upd H a o') h':=by
 obtain⟨ob,e,f⟩:=(x.objs _ _ q).there;have k:=a0k.sameBut s fun vs n z=>f _ _ (Option.some.inj (e.symm.trans z));refine⟨fun b ob e'=>(s.2 b ?_).trans (x.base b ob e'),fun b ob e'=>?_,fun b ob e'=>?_,x.glob,x.frmP q (by rw[q];simp) s⟩
 ·first | exact nef (x.sep _ _ e') q (fun e=>by cases e) | exact nef q (x.sep _ _ e') (fun e=>by cases e)
 ·unfold upd;rw[if_neg]
  ·exact x.sep b ob e'
  ·first | exact nef (x.sep _ _ e') q (fun e=>by cases e) | exact nef q (x.sep _ _ e') (fun e=>by cases e)
 ·unfold upd at e';split at e'
  ·rename_i c;clear q s e;subst c;cases e';exact r k
  ·rename_i c;refine(x.objs b ob e').frame k (fun ob q=>(s.2 b c).trans q) fun dx ob p z=>?_;have hne:dx≠a:=by clear s r e;rintro rfl;rw[q]at p;cases p;exact no _ rfl
   exact⟨(s.2 dx hne).trans z,by unfold upd;rw[if_neg hne];exact p⟩
theorem TrE.put(x:Ok prog w ca X B H h)(hL:X L)(n:h.Ns L mp){a:Addr}{o o':j0u}(q:H a=some o)(s:Heap.SameBut a h h'):TrE L mp H h (upd H a o') h' where
 keep:=fun b ob U e f=>(s.2 b (by first | exact nef (f) q (fun e=>by cases e) | exact nef q (f) (fun e=>by cases e))).trans e
 old:=fun b ob e f=>by
  unfold upd;rw[if_neg]
  ·exact f
  ·first | exact nef (f) q (fun e=>by cases e) | exact nef q (f) (fun e=>by cases e)
 ns:=n.sameBut s (by first | exact nef ((x.frm _ hL).1) q (fun e=>by cases e) | exact nef q ((x.frm _ hL).1) (fun e=>by cases e))
noncomputable def d0m(h:Heap)(L:Addr):List (Addr×Obj):=(List.range h.objs.size).filterMap fun a=>if a=L then none else(h.get? a).map fun o=>(a,o)
set_option tactic.hygienic true in
theorem b0d{a:Addr}{o:Obj}:(a,o)∈d0m h L↔h.get? a=some o∧a≠L:=by
 unfold d0m;simp only[mem_filterMap,mem_range];constructor
 ·rintro⟨b,hb,e⟩;split at e
  ·cases e
  ·rename_i n;cases q:h.get? b with
   | none=>rw[q]at e;cases e
   | some ob=>rw[q]at e;clear hb;cases e;exact⟨q,n⟩
 ·rintro⟨e,n⟩;exact⟨a,Heap.lt_size e,by rw[if_neg n,e];rfl⟩
noncomputable abbrev g0b:Heap:={}
theorem o0g(a:Addr):g0b.get? a=none:=by unfold Heap.get?;rfl
theorem k0s(n:h.Ns L mp):Fr g0b L h mp:=⟨n,fun b o e=>(by rw[o0g]at e;cases e),Nat.zero_le _⟩
theorem c0v(h:Heap)(L:Addr):News g0b L h (d0m h L):=fun p q=>by
 obtain⟨a,o⟩:=p;obtain⟨e,n⟩:=b0d.mp q;exact⟨e,n,o0g _⟩
theorem f0d{ns:List (Addr×Obj)}(F:Fr g0b L h' mp)(N:News g0b L h' ns)(s:∀ p∈d0m h L,p∈ns):b0c L mp h h':=
 ⟨fun a o n e=>(N (a,o) (s _ (b0d.mpr ⟨e,n⟩))).1,F.ns⟩
end
set_option genCtorIdx false in
structure Fx where
 prog:Program
 w:World
 ca:Nat→Addr
 B:Heap
 K:Frag
 mg:Str→Option Value
 mb:Str→Option Value
 fa:Nat→Addr
set_option genCtorIdx false in
structure Cx extends Fx where
 X:Addr→Prop
 L:Addr
 mp:Str→Option Value
structure St(C:Cx)(H:MH)(h:Heap):Prop where
 ok:Ok C.prog C.w C.ca C.X C.B H h
 hL:C.X C.L
 ns:h.Ns C.L C.mp
structure d0t(A:Around)(n:Nat):Prop where
 hd:A.handled=none
 dp:A.depth+2*n+2≤900
 un:A.units+12*n+200≤9900
abbrev NoE:Value→Shared→Prop:=fun U U=>False
def Pst(C:Cx)(H:MH)(s:Shared)(Q:a0d):Value→Shared→Prop:=fun v s'=>
 ∃ h' tk H' mv,s'={ s with heap:=h',toks:=tk }∧TrE C.L C.mp H s.heap H' h'∧Ok C.prog C.w C.ca C.X C.B H' h'∧VR C.B h' mv v∧Q mv H'
theorem b0i(h:Heap):h.get? h.objs.size=none:=by
 cases q:h.get? h.objs.size with
 | none=>rfl
 | some o=>exact absurd (Heap.lt_size q) (Nat.lt_irrefl _)
section
variable {C:Cx}{H:MH}{s:Shared}{Q:a0d}{n:Nat}{A:Around}{x y:a0a}{u v:Value}{mv:a0a}
theorem d0t.cl(R:d0t A n):A.units+64<cLine:=by
 have:=R.un;unfold cLine;omega
theorem d0t.cl0(R:d0t A n):A.units<cLine:=Nat.lt_of_le_of_lt (Nat.le_add_right _ _) R.cl
theorem Pst.same(S:St C H s.heap)(r:VR C.B s.heap mv v)(q:Q mv H)(tk:Nat):Pst C H s Q v { s with toks:=tk }:=⟨s.heap,tk,H,mv,rfl,TrE.refl S.ns,S.ok,r,q⟩
theorem Pst.here(S:St C H s.heap)(r:VR C.B s.heap mv v)(q:Q mv H):Pst C H s Q v s:=(Mac.i8_4 s.heap s.toks H mv rfl (TrE.refl S.ns) S.ok ⟨r,q⟩)
theorem Pst.grown(S:St C H s.heap){h':Heap}(g:b0c C.L C.mp s.heap h')(r:VR C.B h' mv v)(q:Q mv H)(tk:Nat):Pst C H s Q v { s with heap:=h',toks:=tk }:=⟨h',tk,H,mv,rfl,TrE.ext g,S.ok.ext S.hL g,r,q⟩
theorem Pst.alloc(S:St C H s.heap){h':Heap}(g:b0c C.L C.mp s.heap h'){a:Addr}{o:j0u}(e:s.heap.get? a=none)(r:g0p C.prog C.w C.ca C.B (upd H a o) h' a o)(q:d0v o H Q)(tk:Nat) :
  Pst C H s Q (.ref a) { s with heap:=h',toks:=tk }:=
 (Mac.i8_4 h' tk (upd H a o) (.ref a) rfl (TrE.new g e) (S.ok.new S.hL g e r) ⟨rfl,q a (S.ok.fresh e)⟩)
theorem Pst.put(S:St C H s.heap){h':Heap}{a:Addr}{o o':j0u}(q:H a=some o)(no:∀ b,o≠.hid b)(sb:Heap.SameBut a s.heap h')
  (r:a0k s.heap h'→g0p C.prog C.w C.ca C.B (upd H a o') h' a o') (rv:a0k s.heap h'→VR C.B h' mv v) (z:Q mv (upd H a o')) (tk:Nat):Pst C H s Q v { s with heap:=h',toks:=tk }:=by
 obtain⟨ob,e,f⟩:=(S.ok.objs _ _ q).there;have k:=a0k.sameBut sb fun vs n z=>f _ _ (Option.some.inj (e.symm.trans z));exact⟨h',tk,upd H a o',mv,rfl,TrE.put S.ok S.hL S.ns q sb,S.ok.put q no sb r,rv k,z⟩
theorem Pst.trans{H1:MH}{s1:Shared}{h1:Heap}{tk:Nat}(e:s1={ s with heap:=h1,toks:=tk })(t:TrE C.L C.mp H s.heap H1 h1){s':Shared}(p:Pst C H1 s1 Q v s'):Pst C H s Q v s':=by
 obtain⟨h2,tk2,H2,mv,e2,t2,o2,r,q⟩:=p;subst e;exact⟨h2,tk2,H2,mv,e2,t.trans t2,o2,r,q⟩
end
noncomputable def l1y:BOp→Operator
 | .add=>.Add | .sub=>.Sub | .mul=>.Mult | .mod=>.Mod | .fdiv=>.FloorDiv | .shl=>.LShift | .shr=>.RShift | .band=>.BitAnd | .bor=>.BitOr
theorem s0e{i j:Int}(h:d0c i∨d0c j):IntMulOk i j:=by
 unfold d0c at h;rcases h with h | h
 ·exact .of_left (intBits_le_64 (by omega) (by omega))
 ·exact .of_right (intBits_le_64 (by omega) (by omega))
section
variable {C:Cx}{H:MH}{s:Shared}{Q:a0d}{n:Nat}{A:Around}{x y:a0a}{u v:Value}
theorem foldl_rep(v:Value):∀ (k:Nat) (acc:Array Value),List.foldl (fun x1 x2=>x1++x2) acc (List.replicate k #[v])=acc++(List.replicate k v).toArray
 | 0,acc=>by simp
 | k+1,acc=>by
  rw[replicate_succ,foldl_cons,foldl_rep v k];apply Array.ext';rw[replicate_succ];simp
theorem q0w(S:St C H s.heap){a b:Addr}(q:p0e .add (.ref a) (.ref b) H Q):wpAny (model C.prog C.w) A (binaryOp .Add (.ref a) (.ref b)) (Pst C H s Q) NoE s:=by
 obtain⟨l,r,e1,e2,hl,q⟩:=q;obtain⟨vs,n1,o1,r1⟩:=S.ok.objs _ _ e1;obtain⟨ws,n2,o2,r2⟩:=S.ok.objs _ _ e2;refine add_lists (k0s S.ns) (c0v s.heap C.L) ⟨_,o1,rfl,_,rfl⟩ ⟨_,o2,rfl,_,rfl⟩ (fun h' F' N'=>?_) ?_
 ·have g:=f0d F' N' fun p z=>.tail _ z;refine Pst.alloc S g (b0i _) (g0p.mkList (vs:=vs++ws) (n:=0) ?_ ?_) q s.toks
  ·exact(N' _ (.head _)).1
  ·exact(r1.append r2).mono (g.tups S.ok S.hL)
 ·rw[r1.length,r2.length,sizeLine_eq];rw[length_append]at hl;exact hl
theorem t0g(S:St C H s.heap){l r:List a0a}(r1:VR C.B s.heap (.tup l) v)(r2:VR C.B s.heap (.tup r) u)(q:p0e .add (.tup l) (.tup r) H Q):wpAny (model C.prog C.w) A (binaryOp .Add v u) (Pst C H s Q) NoE s:=by
 obtain⟨hl,q⟩:=q;obtain⟨a,vs,n1,e1,o1,r1⟩:=r1;obtain⟨b,ws,n2,e2,o2,r2⟩:=r2;subst e1 e2;refine add_tuples (k0s S.ns) (c0v s.heap C.L) ⟨_,o1,rfl,_,rfl⟩ ⟨_,o2,rfl,_,rfl⟩ (fun z=>?_) (fun U z=>?_) (fun U U h' F' N'=>?_) ?_
 ·have e:=r1.length;rw[z]at e;have:l=[]:=length_eq_zero_iff.mp e.symm;clear hl r1;subst this;exact Pst.here S (VR.mkTup o2 r2) q
 ·have e:=r2.length;rw[z]at e;have:r=[]:=length_eq_zero_iff.mp e.symm;clear hl r2;subst this;rw[append_nil]at q;exact Pst.here S (VR.mkTup o1 r1) q
 ·have g:=f0d F' N' fun p z=>.tail _ z;exact Pst.grown S g (VR.mkTup (N' _ (.head _)).1 ((r1.append r2).mono (g.tups S.ok S.hL))) q s.toks
 ·rw[r1.length,r2.length,sizeLine_eq];exact hl
theorem q0x(S:St C H s.heap){a:Addr}{i:Int}{t:Tok}(q:p0e .mul (.ref a) (.int i) H Q):wpAny (model C.prog C.w) A (binaryOp .Mult (.ref a) (.int i t)) (Pst C H s Q) NoE s:=by
 obtain⟨x,e1,h0,h1,q⟩:=q;obtain⟨vs,n1,o1,z,r,e,rx,rn⟩:=S.ok.objs _ _ e1;have:r=[]:=rn;clear rn;subst this e;refine mul_list (k0s S.ns) (c0v s.heap C.L) o1 (by omega) (by unfold LIM at h1;omega) (by simp;unfold LIM at h1;omega) fun h' F' N'=>?_;have g:=f0d F' N' fun p z=>.tail _ z;refine Pst.alloc S g (b0i _) (g0p.mkList (vs:=List.replicate i.toNat z) (n:=0) ?_ ?_) q s.toks
 ·refine(N' _ (.head _)).1.trans ?_;have:List.foldl (fun x1 x2=>x1++x2) #[] (List.replicate i.toNat #[z])=(List.replicate i.toNat z).toArray:=by rw[foldl_rep];simp
  exact congrArg (fun z:Array Value=>some ({ cls:=.type "list",data:=.seq z }:Obj)) this
 ·exact(VRs.replicate rx _).mono (g.tups S.ok S.hL)
theorem z0r(S:St C H s.heap)(r1:VR C.B s.heap x v)(r2:VR C.B s.heap y u){op:BOp}(q:p0e op x y H Q) :
  wpAny (model C.prog C.w) A (binaryOp (l1y op) v u) (Pst C H s Q) NoE s:=by
 cases x <;> first | exact q.elim | (cases y <;> first | exact q.elim | skip)
 ·obtain⟨t,rfl⟩:=r1;obtain⟨t',rfl⟩:=r2;cases op
  ·exact add_int (Pst.same S (VR.mkInt _ _) q _)
  ·exact sub_int (Pst.same S (VR.mkInt _ _) q _)
  ·exact mul_int (Pst.same S (VR.mkInt _ _) q.2 _) (s0e q.1)
  ·exact mod_int' q.1 (Pst.same S (VR.mkInt _ _) q.2 _)
  ·exact floordiv_int q.1 (Pst.same S (VR.mkInt _ _) q.2.2 _) (.inl (PyProof.noPylong_small q.2.1))
  ·exact lshift_int_small q.1 q.2.1 q.2.2.1 (Pst.same S (VR.mkInt _ _) q.2.2.2 _)
  ·exact rshift_int q.1 (Pst.same S (VR.mkInt _ _) q.2 _)
  ·exact and_int (Pst.same S (VR.mkInt _ _) q _)
  ·exact or_int (Pst.same S (VR.mkInt _ _) q _)
 ·cases op <;> first | exact q.elim | exact t0g S r1 r2 q
 ·obtain⟨t,rfl⟩:=r2;rw[show v=.ref _ from r1];cases op <;> first | exact q.elim | exact q0x S q
 ·rw[show v=.ref _ from r1,show u=.ref _ from r2];cases op <;> first | exact q.elim | exact q0w S q
end
mutual
noncomputable def c0n:a0a→Dat
 | .none=>.none
 | .bool _=>.bytes #[]
 | .int i=>.int i
 | .str s=>.str s
 | .ref _=>.bytes #[]
 | .tup l=>.tuple (c0z l)
 | .frz l=>.list (c0z l)
noncomputable def c0z:List a0a→List Dat
 | []=>[]
 | x::r=>c0n x::c0z r
end
theorem l1o{a b:Bool}(h:(a&&b)=true):a=true:=(Bool.and_eq_true a b▸h).1
theorem l1p{a b:Bool}(h:(a&&b)=true):b=true:=(Bool.and_eq_true a b▸h).2
theorem o0n:∀ l:List a0a,c0z l=l.map c0n
 | []=>rfl
 | x::r=>by rw[c0z,map_cons,o0n r]
theorem m0j(n:Nat):∀ (d:a0a),a0v n d=true→kqdOk n (c0n d)=true:=by
 induction n with
 | zero=>intro d h;cases d <;> first | exact h | rfl | exact ft h
 | succ n ih=>
  intro d h;have all:∀ l:List a0a,l.all (a0v n)=true→(c0z l).all (kqdOk n)=true:=by
   intro l
   induction l with
   | nil=>exact fun U=>rfl
   | cons x l il=>exact fun h=>by rw[c0z,all_cons,ih x (l1o h),il (l1p h)];rfl
  cases d <;> first | exact h | rfl | exact ft h | exact all _ h
theorem r0m(k:Nat)(b:Bool):a0v k (.bool b)=false:=by cases k <;> rfl
theorem v0u(k:Nat)(b:Addr):a0v k (.ref b)=false:=by cases k <;> rfl
theorem v0v{k:Nat}{l:List a0a}(h:a0v k (.tup l)=true):∃ j,k=j+1∧l.all (a0v j)=true:=by
 cases k with
 | zero=>cases h
 | succ j=>exact⟨j,rfl,h⟩
theorem v0s{k:Nat}{l:List a0a}(h:a0v k (.frz l)=true):∃ j,k=j+1∧l.all (a0v j)=true:=by
 cases k with
 | zero=>cases h
 | succ j=>exact⟨j,rfl,h⟩
def ofD(f:List Dat→List a0a):Dat→a0a
 | .int i=>.int i
 | .str s=>.str s
 | .tuple l=>.tup (f l)
 | .list l=>.frz (f l)
 | _=>.none
def ofN:Nat→Dat→a0a
 | 0=>ofD fun U=>[]
 | n+1=>ofD (List.map (ofN n))
theorem s0d:∀ (n k:Nat) (d:a0a),a0v n d=true→ofN (n+k) (c0n d)=d:=by
 intro n k
 induction n with
 | zero=>
  intro d h;cases d <;> first | exact ft h | (cases k <;> rfl)
 | succ n ih=>
  have all:∀ l:List a0a,l.all (a0v n)=true→(c0z l).map (ofN (n+k))=l:=by
   intro l
   induction l with
   | nil=>exact fun U=>rfl
   | cons x l il=>exact fun h=>congr (congrArg List.cons (ih x (l1o h))) (il (l1p h))
  rw[Nat.add_right_comm];intro d h;cases d with
  | tup l=>exact congrArg a0a.tup (all l h)
  | frz l=>exact congrArg a0a.frz (all l h)
  | bool b=>exact ft h
  | ref b=>exact ft h
  | _=>rfl
theorem d1e(n k:Nat)(d e:a0a)(hd:a0v n d=true)(he:a0v k e=true)(q:c0n d=c0n e):d=e:=
 (s0d n k d hd).symm.trans ((congrArg (ofN (n+k)) q).trans (Nat.add_comm k n▸s0d k n e he))
section
variable {B h:Heap}{n:Nat}
theorem m0n(ih:∀ (d:a0a) (v:Value),a0v n d=true→VR B h d v→∃ as,Reads h v (kqdP (c0n d)) as):∀ (l:List a0a) (vs:List Value),l.all (a0v n)=true→VRs B h l vs→∃ as,ReadsAll h vs (kqdPs (c0z l)) as:=by
 intro l
 induction l with
 | nil=>
  intro vs U r;rw[show vs=[] from r];exact⟨_,.nil⟩
 | cons x l il=>
  intro vs f r;obtain⟨v,r,e,p,q⟩:=r;subst e;obtain⟨as,i⟩:=ih x v (l1o f) p;obtain⟨bs,j⟩:=il r (l1p f) q;exact⟨_,.cons i j⟩
theorem o0k(b:∀ a o,B.get? a=some o→h.get? a=some o)(ih:∀ j,n=j+1→∀ (d:a0a) (v:Value),a0v j d=true→VR B h d v→∃ as,Reads h v (kqdP (c0n d)) as)(d:a0a)(v:Value)(f:a0v n d=true)(r:VR B h d v):∃ as,Reads h v (kqdP (c0n d)) as:=by
 cases d with
 | none=>rw[show v=Value.none from r];exact⟨_,.none⟩
 | int _=>exact r.elim fun t r=>r▸⟨_,.int _ _⟩
 | str _=>exact r.elim fun t r=>r▸⟨_,.str _ _⟩
 | bool c=>exact ft ((r0m n c).symm.trans f)
 | ref c=>exact ft ((v0u n c).symm.trans f)
 | tup l=>
  obtain⟨j,e0,f⟩:=v0v f;obtain⟨a,vs,k,e,g,r⟩:=r;subst e;obtain⟨as,q⟩:=m0n (ih j e0) l vs f r;exact⟨_,.tuple g rfl rfl q⟩
 | frz l=>
  obtain⟨j,e0,f⟩:=v0s f;obtain⟨a,vs,k,e,g,r⟩:=r;subst e;obtain⟨as,q⟩:=m0n (ih j e0) l vs f r;obtain⟨ob,g1,g2,g3⟩:=g;exact⟨_,.list (b _ _ g1) g2 g3 q⟩
end
theorem c0w{B h:Heap}(b:∀ a o,B.get? a=some o→h.get? a=some o)(n:Nat):∀ (d:a0a) (v:Value),a0v n d=true→VR B h d v→∃ as,Reads h v (kqdP (c0n d)) as:=by
 induction n with
 | zero=>exact o0k b fun U e=>nomatch e
 | succ n ih=>exact o0k b fun U e=>Nat.succ.inj e▸ih
theorem s0g{B h:Heap}(b:∀ a o,B.get? a=some o→h.get? a=some o)(n:Nat):∀ (l:List a0a) (vs:List Value),l.all (a0v n)=true→VRs B h l vs→∃ as,ReadsAll h vs (kqdPs (c0z l)) as:=m0n (c0w b n)
section
variable {prog:Program}{w:World}{ca:Nat→Addr}{X:Addr→Prop}{B h:Heap}{H:MH}
theorem r0g{n:Nat}(ih:∀ (d mv:a0a) (v:Value),a0v n d=true→s0z H d mv→VR B h mv v→∃ as,Reads h v (kqdP (c0n d)) as):∀ (l ms:List a0a) (vs:List Value),l.all (a0v n)=true→f0q H l ms→VRs B h ms vs→∃ as,ReadsAll h vs (kqdPs (c0z l)) as:=by
 intro l
 induction l with
 | nil=>
  intro ms vs U e r;rw[show ms=[] from e]at r;rw[show vs=[] from r];exact⟨_,.nil⟩
 | cons x l il=>
  intro ms vs f r' r;obtain⟨m,ms,e',dx,dl⟩:=r';subst e';obtain⟨v,vs,e,p,q⟩:=r;subst e;obtain⟨as,i⟩:=ih x m v (l1o f) dx p;obtain⟨bs,j⟩:=il ms vs (l1p f) dl q;exact⟨_,.cons i j⟩
theorem r0f(ok:Ok prog w ca X B H h){n:Nat}(ih:∀ j,n=j+1→∀ (d mv:a0a) (v:Value),a0v j d=true→s0z H d mv→VR B h mv v→∃ as,Reads h v (kqdP (c0n d)) as)(d mv:a0a)(v:Value)(f:a0v n d=true)(e:s0z H d mv)(r:VR B h mv v):∃ as,Reads h v (kqdP (c0n d)) as:=by
 cases d with
 | none=>rw[show mv=a0a.none from e]at r;rw[show v=Value.none from r];exact⟨_,.none⟩
 | int i=>rw[show mv=a0a.int i from e]at r;exact r.elim fun t r=>r▸⟨_,.int _ _⟩
 | str i=>rw[show mv=a0a.str i from e]at r;exact r.elim fun t r=>r▸⟨_,.str _ _⟩
 | bool c=>exact ft ((r0m n c).symm.trans f)
 | ref c=>exact ft ((v0u n c).symm.trans f)
 | tup l=>
  obtain⟨j,e0,f⟩:=v0v f;obtain⟨l',e',dr⟩:=e;subst e';obtain⟨a,vs,k,e,g,r⟩:=r;subst e;obtain⟨as,q⟩:=r0g (ih j e0) l l' vs f dr r;exact⟨_,.tuple g rfl rfl q⟩
 | frz l=>
  obtain⟨j,e0,f⟩:=v0s f;obtain⟨a,l',e',g',dr⟩:=e;subst e';rw[show v=Value.ref a from r];obtain⟨vs,k,g,r⟩:=ok.objs _ _ g';obtain⟨as,q⟩:=r0g (ih j e0) l l' vs f dr r;exact⟨_,.list g rfl rfl q⟩
theorem o0j(ok:Ok prog w ca X B H h)(n:Nat):∀ (d mv:a0a) (v:Value),a0v n d=true→s0z H d mv→VR B h mv v→∃ as,Reads h v (kqdP (c0n d)) as:=by
 induction n with
 | zero=>exact r0f ok fun U e=>nomatch e
 | succ n ih=>exact r0f ok fun U e=>Nat.succ.inj e▸ih
end
open Classical in
theorem h0b{n k:Nat}{d e:a0a}(hd:a0v n d=true)(he:a0v k e=true):PyData.eqv (kqdP (c0n d)) (kqdP (c0n e))=decide (d=e):=by
 have q:=kqd_eqv n (c0n d) (c0n e) k (m0j _ _ hd) (m0j _ _ he);by_cases hq:d=e
 ·rw[decide_eq_true hq];exact q.mpr (by rw[hq])
 ·rw[decide_eq_false hq];exact Bool.eq_false_iff.mpr fun x=>hq (d1e n k d e hd he (q.mp x))
theorem d0l{n:Nat}{d:a0a}(hd:a0v n d=true)(hn:n≤64):SeqAt.shaped (kqdP (c0n d))=true:=by
 obtain⟨a,b⟩:=kqd_lay n (c0n d) (m0j _ _ hd);unfold SeqAt.shaped;rw[a,Bool.true_and];exact decide_eq_true (Nat.le_trans b hn)
section
variable {prog:Program}{w:World}{B h:Heap}
theorem d0u.gen{K:Type}[DecidableEq K]{knd:PySem.KeyKind prog w K}{f:K→a0a}{kd:Nat}(hE:∀ k m e,g1k prog w B h kd (k,m) e→∃ i,k=f i∧e.hash=knd.hash i∧knd.is i e.key=true∧VR B h m e.val) :
  ∀ {kv:List (a0a×a0a)} {es:List DictEntry},d0u prog w B h kd kv es→∃ kvs:List (K×Value),kv.map (·.1)=kvs.map (fun p=>f p.1)∧VRs B h (kv.map (·.2)) (kvs.map (·.2))∧Pairs knd es kvs∧∀ e∈es,∃ k,knd.is k e.key=true∧e.hash=knd.hash k:=by
 intro kv
 induction kv with
 | nil=>intro es x;cases(show es=[] from x);exact⟨[],rfl,rfl,.nil,fun U q=>nomatch q⟩
 | cons p kv ih=>
  intro es x;obtain⟨e,r,e0,b,c⟩:=x;subst e0;obtain⟨kvs,h1,h2,h3,h4⟩:=ih c;obtain⟨i,b0,b1,z,b3⟩:=hE p.1 p.2 e b;exact⟨(i,e.val)::kvs,congr (congrArg List.cons b0) h1,(Mac.i5_2 _ _ rfl b3 h2),.cons z rfl h3,List.forall_mem_cons.mpr ⟨(Mac.i3_1 i z b1),h4⟩⟩
theorem t0y{l:List a0a}{ks:List Int}{vs:List Value}(e:l=ks.map .int)(r:VRs B h l vs):ItemsAre (intKind prog w) ks vs:=by
 subst e
 induction ks generalizing vs with
 | nil=>rw[show vs=[] from r];exact .nil
 | cons k ks ih=>
  obtain⟨v,r,e,⟨t,p⟩,q⟩:=r;subst e p;exact .cons (intKind_is prog w k t) (ih q)
set_option tactic.hygienic true in
theorem d0u.tupsV:∀ {kv:List (a0a×a0a)} {es:List DictEntry},d0u prog w B h 3 kv es→∃ xs:List (List Int×Addr×Value),kv.map (·.1)=xs.map (fun p=>a0a.tup (p.1.map .int))∧VRs B h (kv.map (·.2)) (xs.map (·.2.2))∧
   es=xs.map (entryOfKey (tupleKind (intKind prog w)))∧∀ x∈xs,VR B h (.tup (x.1.map .int)) (.ref x.2.1):=by
 intro kv
 induction kv with
 | nil=>intro es x;cases(show es=[] from x);exact⟨[],rfl,rfl,rfl,fun U q=>nomatch q⟩
 | cons p kv ih=>
  obtain⟨k,m⟩:=p;rintro U ⟨e,r,rfl,b,c⟩;cases k <;> try exact False.elim b
  rename_i l;obtain⟨xs,h1,h2,h3,h4⟩:=ih c;obtain⟨ns,rfl,b2,b3,b6⟩:=b;obtain⟨ad,vs,n,e3,b4⟩:=id b3;obtain⟨eh,ek,ev⟩:=e;dsimp only at b2 b3 b6 e3;subst e3;refine⟨(ns,ad,ev)::xs,congrArg (List.cons (a0a.tup (ns.map .int))) h1,(Mac.i5_2 _ _ rfl b6 h2),by rw[map_cons,h3,b2];rfl,fun e' q=>?_⟩;rcases mem_cons.mp q with rfl | q
  ·exact b3
  ·exact h4 _ q
theorem q0l{prog:Program}{w:World}{B h:Heap}{ns:List Int}{v:Value}(r:VR B h (.tup (ns.map .int)) v):∃ a,v=.ref a∧(tupleKind (intKind prog w)).is h ns a:=by
 obtain⟨a,vs,n,e,g,r⟩:=r;exact⟨a,e,_,_,_,g,rfl,rfl,t0y rfl r⟩
theorem j0z{α β:Type}{f:α→β}{l:List α}(hf:∀ a b,f a=f b→a=b):(l.map f).Nodup→l.Nodup:=by
 intro h
 induction l with
 | nil=>exact nodup_nil
 | cons a l ih=>
  rw[map_cons,nodup_cons]at h;rw[nodup_cons];exact⟨fun q=>h.1 (List.mem_map_of_mem q),ih h.2⟩
theorem f0g{a b:List Int}(e:a.map a0a.int=b.map a0a.int):a=b:=by
 induction a generalizing b with
 | nil=>cases b with | nil=>rfl | cons _ _=>simp at e
 | cons x a ih=>
  cases b with
  | nil=>simp at e
  | cons y b=>simp only[map_cons,List.cons.injEq,a0a.int.injEq]at e;rw[e.1,ih e.2]
theorem v0p{K:Type}[DecidableEq K]{knd:PySem.KeyKind prog w K}{f:K→a0a}{kd:Nat}(hf:∀ a b,f a=f b→a=b)(hE:∀ k m e,g1k prog w B h kd (k,m) e→∃ i,k=f i∧e.hash=knd.hash i∧knd.is i e.key=true∧VR B h m e.val)
  {ca:Nat→Addr} {H:MH} {a:Addr} {kv:List (a0a×a0a)} {ep:Nat} (o:g0p prog w ca B H h a (.dict kd kv ep)):∃ kvs:List (K×Value),kv.map (·.1)=kvs.map (fun p=>f p.1)∧VRs B h (kv.map (·.2)) (kvs.map (·.2))∧h.DictAt knd a kvs ep:=by
 obtain⟨s,nd,es,e,r⟩:=o;obtain⟨kvs,h1,h2,h3,h4⟩:=r.gen hE;refine⟨kvs,h1,h2,_,_,e,(Mac.i3_0 rfl rfl rfl),rfl,fun e' q=>h4 e' (List.mem_toArray.mp q),h3,?_⟩;rw[h1]at nd;exact j0z hf (by rw[map_map];exact nd)
theorem c0h{ca:Nat→Addr}{H:MH}{a:Addr}{kv:List (a0a×a0a)}{ep:Nat}:g0p prog w ca B H h a (.dict 1 kv ep)→∃ kvs:List (Int×Value),kv.map (·.1)=kvs.map (fun p=>a0a.int p.1)∧VRs B h (kv.map (·.2)) (kvs.map (·.2))∧h.DictAt (intKind prog w) a kvs ep:=
 v0p (fun a b q=>a0a.int.inj q) fun k m e b=>by
  cases k <;> try exact False.elim b
  obtain⟨b1,⟨t,b2⟩,b3⟩:=b;exact⟨_,rfl,b1,by rw[b2];exact intKind_is prog w _ t,b3⟩
theorem c0t{ca:Nat→Addr}{H:MH}{a:Addr}{kv:List (a0a×a0a)}{ep:Nat}:g0p prog w ca B H h a (.dict 2 kv ep)→∃ kvs:List (Str×Value),kv.map (·.1)=kvs.map (fun p=>a0a.str p.1)∧VRs B h (kv.map (·.2)) (kvs.map (·.2))∧h.DictAt (strKind prog w) a kvs ep:=
 v0p (fun a b q=>a0a.str.inj q) fun k m e b=>by
  cases k <;> try exact False.elim b
  obtain⟨b1,⟨t,b2⟩,b3⟩:=b;exact⟨_,rfl,b1,by rw[b2];exact strKind_is prog w _ t,b3⟩
theorem l0k{ca:Nat→Addr}{H:MH}{a:Addr}{kv:List (a0a×a0a)}{ep:Nat}(o:g0p prog w ca B H h a (.dict 3 kv ep)):∃ xs:List (List Int×Addr×Value),kv.map (·.1)=xs.map (fun p=>a0a.tup (p.1.map .int))∧
  VRs B h (kv.map (·.2)) (xs.map (·.2.2))∧h.DictOfH (tupleKind (intKind prog w)) a xs∧∀ x∈xs,VR B h (.tup (x.1.map .int)) (.ref x.2.1):=by
 obtain⟨s,nd,es,e,r⟩:=o;obtain⟨xs,h1,h2,h3,h4⟩:=r.tupsV;refine⟨xs,h1,h2,(Mac.i8_3 _ _ _ e (Mac.i3_0 rfl rfl rfl) rfl (by simpa using h3) ⟨fun x hx=>?_,?_⟩),h4⟩
 ·obtain⟨a,e,k⟩:=q0l (prog:=prog) (w:=w) (h4 x hx);cases e;exact k
 ·rw[h1]at nd;exact j0z (f:=fun a:List Int=>a0a.tup (a.map .int)) (fun a b q=>f0g (a0a.tup.inj q)) (by rw[map_map];exact nd)
end
theorem DictAt.of{K:Type}[DecidableEq K]{prog:Program}{w:World}{knd:KeyKind prog w K}{h:Heap}{a:Addr}{kvs:List (K×Value)}{ep:Nat}(x:h.DictAt knd a kvs ep):h.DictOf knd a kvs:=by
 obtain⟨o,es,e,r⟩:=x;exact⟨o,es,ep,e,r⟩
section
variable {B h:Heap}
open Classical in
theorem j0e(p:a0a×a0a)(kv:List (a0a×a0a))(k:a0a):c0q (p::kv) k=if p.1=k then some p.2 else c0q kv k:=by
 unfold c0q;rw[find?_cons];by_cases q:p.1=k
 ·simp[q]
 ·simp[q]
theorem d0z{K:Type}[DecidableEq K]{f:K→a0a}(hf:∀ a b,f a=f b→a=b):∀ {kv:List (a0a×a0a)} {kvs:List (K×Value)} (k:K),kv.map (·.1)=kvs.map (fun p=>f p.1)→VRs B h (kv.map (·.2)) (kvs.map (·.2))→
  (c0q kv (f k)=none∧valueAt kvs k=none)∨∃ x v,c0q kv (f k)=some x∧valueAt kvs k=some v∧VR B h x v:=by
 intro kv
 induction kv with
 | nil=>
  intro kvs k e r;clear r;cases kvs with
  | nil=>exact .inl ⟨rfl,rfl⟩
  | cons=>cases e
 | cons p kv ih=>
  intro kvs k e r;cases kvs with
  | nil=>cases e
  | cons q kvs=>
   obtain⟨e0,e⟩:=List.cons.inj e;obtain⟨U,U,e',h1,h2⟩:=r;obtain⟨rfl,rfl⟩:=List.cons.inj e';rw[j0e];by_cases z:q.1=k
   ·subst z;refine .inr (Mac.i5_2 p.2 q.2 (if_pos e0) ?_ h1);simp[valueAt]
   ·rw[if_neg fun y=>z (hf _ _ (e0.symm.trans y)),show valueAt (q::kvs) k=valueAt kvs k by simp[valueAt,z]];exact ih k e h2
end
noncomputable def m1a:COp→CmpOp
 | .eq=>.Eq | .ne=>.NotEq | .lt=>.Lt | .gt=>.Gt | .ge=>.GtE | .is=>.Is | .isnot=>.IsNot | .inn=>.In | .notin=>.NotIn
def e0y(s:Shared)(Q:Bool→Prop):Value→Shared→Prop:=fun r s'=>∃ b tk,r=.bool b∧s'={ s with toks:=tk }∧Q b
section
variable {C:Cx}{H:MH}{s:Shared}{Q:Bool→Prop}{n:Nat}{A:Around}{x y:a0a}{u v:Value}
theorem e0y.here{b:Bool}(q:Q b):e0y s Q (.bool b) s:=(Mac.i5_2 b s.toks rfl rfl q)
theorem e0y.tok{b:Bool}(q:Q b)(tk:Nat):e0y s Q (.bool b) { s with toks:=tk }:=⟨b,tk,rfl,rfl,q⟩
open Classical in
theorem v0q(R:d0t A n){d e:a0a}{as bs:List Addr}(ra:Reads s.heap v (kqdP (c0n d)) as)(rb:Reads s.heap u (kqdP (c0n e)) bs){k j:Nat}(hd:a0v k d=true)(he:a0v j e=true)(hk:k≤64)(hj:j≤64)(q:Q (decide (d=e))) :
  wpAny (model C.prog C.w) A (compareOp .Eq v u) (e0y s Q) NoE s:=
 SeqAt.compareEq_shaped ra rb (d0l hd hk) (d0l he hj) R.cl (by rw[h0b hd he];exact e0y.here q)
open Classical in
theorem w0j(R:d0t A n){d e:a0a}{as bs:List Addr}(ra:Reads s.heap v (kqdP (c0n d)) as)(rb:Reads s.heap u (kqdP (c0n e)) bs){k j:Nat}(hd:a0v k d=true)(he:a0v j e=true)(hk:k≤64)(hj:j≤64)(q:Q (!decide (d=e))) :
  wpAny (model C.prog C.w) A (compareOp .NotEq v u) (e0y s Q) NoE s:=
 SeqAt.compareNe_shaped ra rb (d0l hd hk) (d0l he hj) R.cl (by rw[h0b hd he];exact e0y.here q)
theorem r0r{K:Type}[DecidableEq K]{f:K→a0a}(hf:∀ a b,f a=f b→a=b)(S:St C H s.heap)(R:d0t A n){kv:List (a0a×a0a)}{ka kb:List (K×Value)}(ea:kv.map (·.1)=ka.map fun p=>f p.1)(ra:VRs C.B s.heap (kv.map (·.2)) (ka.map (·.2)))
  (eb:kv.map (·.1)=kb.map fun p=>f p.1) (rb:VRs C.B s.heap (kv.map (·.2)) (kb.map (·.2))) (nd:(kv.map (·.1)).Nodup) (fl:e0d (kv.map (·.2))=true):KeqHits A.in1 s kb ka true:=by
 have key:∀ (kv':List (a0a×a0a)) (ka':List (K×Value)),(∀ p∈kv',p∈kv)→kv'.map (·.1)=ka'.map (fun p=>f p.1)→VRs C.B s.heap (kv'.map (·.2)) (ka'.map (·.2))→KeqHits A.in1 s kb ka' true:=by
  intro kv'
  induction kv' with
  | nil=>
   intro ka' U e r;clear r;cases ka' with
   | nil=>exact .nil
   | cons _ _=>simp at e
  | cons p kv' ih=>
   intro ka' hs e r;cases ka' with
   | nil=>simp at e
   | cons q ka'=>
    obtain⟨k,va⟩:=q;obtain⟨pk,px⟩:=p;simp only[map_cons,List.cons.injEq]at e;obtain⟨v',r',e',h1,h2⟩:=r;simp only[map_cons,List.cons.injEq]at e';obtain⟨e1,e2⟩:=e';subst e1 e2;have hm:(pk,px)∈kv:=hs _ (.head _);have g1:c0q kv (f k)=some px:=by
     rw[← e.1];clear ih h1 h2 hs ra rb ea eb fl
     induction kv with
     | nil=>cases hm
     | cons z kv ih2=>
      rw[j0e];rcases mem_cons.mp hm with z1 | z1
      ·clear nd hm;subst z1;rw[if_pos rfl]
      ·rw[map_cons,nodup_cons]at nd;rw[if_neg,ih2 nd.2 z1];intro z2;exact nd.1 (mem_map.mpr (Mac.i3_1 _ z1 z2.symm))
    rcases d0z hf k eb rb with⟨z,U⟩ | ⟨x,y,z1,z2,z3⟩
    ·rw[g1]at z;cases z
    ·rw[g1]at z1;cases z1;have hfx:a0v 8 px=true:=all_eq_true.mp fl _ (mem_map.mpr (Mac.i3_1 _ hm rfl));obtain⟨as,q1⟩:=c0w S.ok.base 8 px _ hfx h1;obtain⟨bs,q2⟩:=c0w S.ok.base 8 px _ hfx z3;have hat:=keq_at (A:=A) q1 q2 (d0l hfx (by decide)) (d0l hfx (by decide)) (by have:=R.un;unfold cLine;show A.units+1+64<9900;omega);have:PyData.eqv (kqdP (c0n px)) (kqdP (c0n px))=true:=by rw[h0b hfx hfx];simp
     rw[this]at hat;exact .hit z2 hat (ih ka' (fun p hp=>hs p (.tail _ hp)) e.2 h2)
 exact key kv ka (fun U h=>h) ea ra
theorem v0w{K:Type}[DecidableEq K]{ka kb:List (K×Value)}(h:ka.length≠kb.length):ka.length=kb.length→KeqHits A.in1 s kb ka true:=fun e=>(h e).elim
theorem a0j{α β γ:Type}{f:α→γ}{g:β→γ}{l:List α}{r:List β}(e:l.map f=r.map g):l.length=r.length:=by
 have:=congrArg List.length e;simpa using this
theorem e0k{a:Addr}{kd:Nat}{kv:List (a0a×a0a)}{ep:Nat}{prog:Program}{w:World}{ca:Nat→Addr}{B h:Heap}(o:g0p prog w ca B H h a (.dict kd kv ep)):(a == sysModules)=false:=o.1.1
theorem g0k{x:a0a}{kd:Nat}(h:kindOf x=kd)(h1:1≤kd):(kd=1∧∃ i,x=.int i)∨(kd=2∧∃ i,x=.str i)∨(kd=3∧∃ ns:List Int,x=.tup (ns.map .int)):=by
 have no:∀ {p:Prop},0=kd→p:=fun e=>by clear h;subst e;exact absurd h1 (Nat.not_succ_le_zero 0)
 cases x with
 | int i=>exact .inl ⟨h.symm,_,rfl⟩
 | str i=>exact .inr (.inl ⟨h.symm,_,rfl⟩)
 | tup l=>
  by_cases q:l.all isInt=true
  ·refine .inr (.inr ⟨((if_pos q).symm.trans h).symm,?_⟩);clear h h1 no
   induction l with
   | nil=>exact⟨[],rfl⟩
   | cons y l ih=>
    obtain⟨ns,e⟩:=ih (l1p q);cases y with
    | int i=>exact⟨i::ns,congrArg (fun z=>a0a.tup (.int i::z)) (a0a.tup.inj e)⟩
    | _=>exact ft (l1o q)
  ·exact no ((if_neg q).symm.trans h)
 | _=>exact no h
theorem j0f{B h:Heap}:∀ {kv:List (a0a×a0a)} {xs:List (List Int×Addr×Value)} (k:List Int),kv.map (·.1)=xs.map (fun p=>a0a.tup (p.1.map .int))→VRs B h (kv.map (·.2)) (xs.map (·.2.2))→
  (c0q kv (.tup (k.map .int))=none∧atKey xs k=none)∨∃ x p,c0q kv (.tup (k.map .int))=some x∧atKey xs k=some p∧VR B h x p.2
 | [],[],k,_,_=>.inl ⟨rfl,rfl⟩
 | [],_::_,k,e,_=>by simp at e
 | _::_,[],k,e,_=>by simp at e
 | (a,x)::kv,(b,v)::kvs,k,e,r=>by
  simp only[map_cons,List.cons.injEq]at e;obtain⟨v',r',e',p,q⟩:=r;simp only[map_cons,List.cons.injEq]at e';obtain⟨e1,e2⟩:=e';subst e1 e2;rw[j0e];by_cases z:b=k
  ·subst z;refine .inr (Mac.i5_2 x v (by rw[if_pos e.1]) ?_ p);simp[atKey]
  ·have z':¬ a=.tup (k.map .int):=fun q=>z (f0g (a0a.tup.inj (e.1.symm.trans q)));have ih:=j0f k e.2 q;rw[if_neg z'];have:atKey ((b,v)::kvs) k=atKey kvs k:=by simp[atKey,z]
   rw[this];exact ih
noncomputable def nb:Bool→Bool→Bool
 | false,r=>r
 | true,r=>!r
noncomputable def q1x:Bool→CmpOp
 | false=>.Eq
 | true=>.NotEq
noncomputable def s1e:Bool→CmpOp
 | false=>.In
 | true=>.NotIn
open Classical in
set_option tactic.hygienic true in
theorem a1l{n':Bool}(S:St C H s.heap)(R:d0t A n)(r1:VR C.B s.heap x v)(r2:VR C.B s.heap y u){Q':Bool→Prop}(hQ:∀ b,Q' b→Q (nb n' b))(q:eqP x y H Q'):wpAny (model C.prog C.w) A (compareOp (q1x n') v u) (e0y s Q) NoE s:=by
 have gen:(p0o x=true∧p0o y=true∧Q' (decide (x=y)))→wpAny (model C.prog C.w) A (compareOp (q1x n') v u) (e0y s Q) NoE s:=fun q=>by
  obtain⟨f1,f2,q⟩:=q;obtain⟨as,ra⟩:=c0w S.ok.base 8 x _ f1 r1;obtain⟨bs,rb⟩:=c0w S.ok.base 8 y _ f2 r2;cases n'
  ·exact v0q R ra rb f1 f2 (by decide) (by decide) (hQ _ q)
  ·exact w0j R ra rb f1 f2 (by decide) (by decide) (hQ _ q)
 cases x <;> first | exact gen q | (cases y <;> first | exact gen q | skip)
 ·clear gen;obtain rfl:v=.bool _:=r1;obtain rfl:u=.bool _:=r2;cases n'
  ·exact eq_bool (e0y.here (hQ _ q))
  ·exact ne_bool (e0y.here (hQ _ q))
 ·clear gen;obtain⟨t,rfl⟩:=r1;obtain⟨t',rfl⟩:=r2;rename_i i j;replace q:Q' (i == j):=(show decide (i=j)=(i == j) from rfl)▸q;cases n'
  ·exact PyProof.Rows.eq_int (e0y.here (hQ _ q))
  ·exact PyProof.Rows.ne_int (e0y.here (hQ _ q))
 ·clear gen;obtain⟨t,rfl⟩:=r1;obtain⟨t',rfl⟩:=r2;rename_i i j;replace q:Q' (i == j):=(show decide (i=j)=(i == j) by by_cases z:i=j <;> simp[z])▸q;cases n'
  ·exact eq_str (e0y.here (hQ _ q))
  ·exact ne_str (e0y.here (hQ _ q))
 ·rename_i a b;rw[show v=.ref a from r1,show u=.ref b from r2];have dic:∀ {K:Type} [DecidableEq K] (knd:PySem.KeyKind C.prog C.w K) {ka kb:List (K×Value)} {r:Bool},(ka.length=kb.length→KeqHits A.in1 s kb ka r)→(a == sysModules)=false→(b == sysModules)=false→s.heap.DictOf knd a ka→s.heap.DictOf knd b kb→Q' (ka.length == kb.length&&r)→wpAny (model C.prog C.w) A (compareOp (q1x n') (.ref a) (.ref b)) (e0y s Q) NoE s:=by
   intro K U knd ka kb r hits s1 s2 d1 d2 q;clear gen;cases n'
   ·exact keq_eq s1 s2 d1 d2 R.cl0 hits (e0y.here (hQ _ q))
   ·exact keq_ne s1 s2 d1 d2 R.cl0 hits (e0y.here (hQ _ q))
  cases(show EqR H a b Q' from q) with
  | l d e d1 d2 f1 f2 q=>
   obtain⟨as,ra⟩:=o0j S.ok 9 d _ _ f1 d1 (VR.mkRef (B:=C.B) (h:=s.heap) a);obtain⟨bs,rb⟩:=o0j S.ok 9 e _ _ f2 d2 (VR.mkRef (B:=C.B) (h:=s.heap) b);clear gen dic;cases n'
   ·exact v0q R ra rb f1 f2 (by decide) (by decide) (hQ _ q)
   ·exact w0j R ra rb f1 f2 (by decide) (by decide) (hQ _ q)
  | d1 kv kw e1 e2 w1 w2 q=>
   have o1:=S.ok.objs _ _ w1;have o2:=S.ok.objs _ _ w2;obtain⟨ka,a1,a2,a3⟩:=c0h o1;obtain⟨kb,b1,b2,b3⟩:=c0h o2;rcases q with⟨e,f,q⟩ | ⟨e,q⟩
   ·clear w2;subst e;refine dic (intKind C.prog C.w) (fun U=>r0r (fun a b q=>a0a.int.inj q) S R a1 a2 b1 b2 o1.2.1 f) (e0k o1) (e0k o2) (DictAt.of a3) (DictAt.of b3) ?_;rw[← a0j a1,←a0j b1,beq_self_eq_true];exact q
   ·rw[a0j a1,a0j b1]at e;refine dic (intKind C.prog C.w) (v0w e) (e0k o1) (e0k o2) (DictAt.of a3) (DictAt.of b3) ?_;rw[beq_eq_false_iff_ne.mpr e];exact q
  | d2 kv kw e1 e2 w1 w2 q=>
   have o1:=S.ok.objs _ _ w1;have o2:=S.ok.objs _ _ w2;obtain⟨ka,a1,a2,a3⟩:=c0t o1;obtain⟨kb,b1,b2,b3⟩:=c0t o2;rcases q with⟨e,f,q⟩ | ⟨e,q⟩
   ·clear w1 w2;subst e f;refine dic (strKind C.prog C.w) (fun U=>r0r (fun a b q=>a0a.str.inj q) S R a1 a2 b1 b2 o1.2.1 rfl) (e0k o1) (e0k o2) (DictAt.of a3) (DictAt.of b3) ?_;rw[← a0j a1,←a0j b1,beq_self_eq_true];exact q
   ·rw[a0j a1,a0j b1]at e;refine dic (strKind C.prog C.w) (v0w e) (e0k o1) (e0k o2) (DictAt.of a3) (DictAt.of b3) ?_;rw[beq_eq_false_iff_ne.mpr e];exact q
theorem m1h(S:St C H s.heap)(R:d0t A n)(r1:VR C.B s.heap x v)(r2:VR C.B s.heap y u)(q:eqP x y H Q):wpAny (model C.prog C.w) A (compareOp .Eq v u) (e0y s Q) NoE s:=a1l (n':=false) S R r1 r2 (fun U h=>h) q
theorem n1l(S:St C H s.heap)(R:d0t A n)(r1:VR C.B s.heap x v)(r2:VR C.B s.heap y u){Q':Bool→Prop}(hQ:∀ b,Q' b→Q (!b))(q:eqP x y H Q'):wpAny (model C.prog C.w) A (compareOp .NotEq v u) (e0y s Q) NoE s:=a1l (n':=true) S R r1 r2 hQ q
theorem z0g{l:List a0a}{x:a0a}(hl:e0d l=true)(hx:p0o x=true):((kqdPs (c0z l)).any fun y=>PyData.eqv y (kqdP (c0n x)))=g1w x l:=by
 classical
 unfold g1w
 induction l with
 | nil=>simp[c0z,kqdPs]
 | cons y l ih=>
  have hl:(y::l).all (a0v 8)=true:=hl;rw[all_cons,Bool.and_eq_true]at hl;rw[c0z,kqdPs,any_cons,ih hl.2,h0b hl.1 hx];by_cases h1:y=x
  ·clear hx ih;subst h1;simp
  ·have h2:¬ x=y:=fun q=>h1 q.symm;simp[h1,h2]
theorem i0o{l:List a0a}(hl:e0d l=true):PyData.canLayAll0 (kqdPs (c0z l))=true∧PyData.depthAll (kqdPs (c0z l))≤9:=by
 refine kqd_layL fun d q=>?_;rw[o0n]at q;obtain⟨e,h1,h2⟩:=mem_map.mp q;subst h2;exact m0j 8 e (all_eq_true.mp hl _ h1)
theorem i0n{x:a0a}(hx:p0o x=true):(kqdP (c0n x)).canLay0=true∧(kqdP (c0n x)).depth≤8:=kqd_lay 8 _ (m0j _ _ hx)
set_option tactic.hygienic true in
theorem a1y{n':Bool}(S:St C H s.heap)(R:d0t A n)(r1:VR C.B s.heap x v)(r2:VR C.B s.heap y u){Q':Bool→Prop}(hQ:∀ b,Q' b→Q (nb n' b))(q:inP x y H Q'):wpAny (model C.prog C.w) A (compareOp (s1e n') v u) (e0y s Q) NoE s:=by
 have hu:=R.cl;have low:∀ {l:List a0a},p0o x=true→A.units+1+min (PyData.depthAll (kqdPs (c0z l))) (kqdP (c0n x)).depth<cLine:=fun {l} f1=>by
  have h1:=(i0n f1).2;have:=Nat.min_le_right (PyData.depthAll (kqdPs (c0z l))) (kqdP (c0n x)).depth;omega
 cases y <;> try exact q.elim
 ·rename_i l;obtain⟨f1,f2,q⟩:=q;obtain⟨as,ra⟩:=c0w S.ok.base 8 x _ f1 r1;obtain⟨a,vs,k,rfl,g,r2⟩:=r2;obtain⟨bs,rb⟩:=s0g S.ok.base 8 l _ f2 r2;rw[← z0g f2 f1]at q;cases n'
  ·exact SeqAt.in_tuple_reads (.tuple g rfl rfl rb) ra (i0o f2).1 (i0n f1).1 (low f1) (e0y.here (hQ _ q))
  ·exact SeqAt.notIn_tuple_reads (.tuple g rfl rfl rb) ra (i0o f2).1 (i0n f1).1 (low f1) (e0y.here (hQ _ q))
 ·rename_i a;rw[show u=.ref a from r2];cases q with
   | lst l w1 q=>
    obtain⟨f1,f2,q⟩:=q;have o:=S.ok.objs _ _ w1;obtain⟨as,ra⟩:=c0w S.ok.base 8 x _ f1 r1;obtain⟨vs,k,g,r2⟩:=o;obtain⟨bs,rb⟩:=s0g S.ok.base 8 l _ f2 r2;rw[← z0g f2 f1]at q;cases n'
    ·exact SeqAt.in_list_reads (.list g rfl rfl rb) ra (i0o f2).1 (i0n f1).1 (low f1) (e0y.here (hQ _ q))
    ·exact SeqAt.notIn_list_reads (.list g rfl rfl rb) ra (i0o f2).1 (i0n f1).1 (low f1) (e0y.here (hQ _ q))
   | dic kd kv ep w1 q=>
    obtain⟨hk,q⟩:=q;have o:=S.ok.objs _ _ w1;have of:∀ {K:Type} [DecidableEq K] (knd:PySem.KeyKind C.prog C.w K) {k:K} {f:K→Option Value},knd.is k v=true→s.heap.MapOf knd a f→Q' (f k).isSome→wpAny (model C.prog C.w) A (compareOp (s1e n') v (.ref a)) (e0y s Q) NoE s:=by
     intro K U knd k f hk hm q;cases n'
     ·exact wpAny_in_of hk (e0k o) hm (e0y.tok (hQ _ q) _)
     ·exact wpAny_notIn_of hk (e0k o) hm (e0y.tok (hQ _ q) _)
    clear w1 low;rcases g0k hk o.1.2.1 with⟨e,i,e'⟩ | ⟨e,i,e'⟩ | ⟨e,i,e'⟩ <;> subst e e'
    ·obtain⟨t,rfl⟩:=r1;obtain⟨kvs,a1,a2,a3⟩:=c0h o;refine of (intKind C.prog C.w) (intKind_is _ _ i t) (DictAt.of a3).mapOf ?_;rcases d0z (fun a b q=>a0a.int.inj q) i a1 a2 with⟨g1,g2⟩ | ⟨U,U,g1,g2,U⟩
     all_goals (rw[g1]at q;rw[g2];exact q)
    ·obtain⟨t,rfl⟩:=r1;obtain⟨kvs,a1,a2,a3⟩:=c0t o;refine of (strKind C.prog C.w) (strKind_is _ _ i t) (DictAt.of a3).mapOf ?_;rcases d0z (fun a b q=>a0a.str.inj q) i a1 a2 with⟨g1,g2⟩ | ⟨U,U,g1,g2,U⟩
     all_goals (rw[g1]at q;rw[g2];exact q)
    ·clear of;obtain⟨b,rfl,hb⟩:=q0l (prog:=C.prog) (w:=C.w) r1;obtain⟨xs,a1,a2,a3,U⟩:=l0k o;replace q:Q' (atKey xs i).isSome:=by
      rcases j0f i a1 a2 with⟨g1,g2⟩ | ⟨U,U,g1,g2,U⟩
      all_goals (rw[g1]at q;rw[g2];exact q)
     have hr:(tupleKind (intKind C.prog C.w)).room A.in1:=by show A.units+1<cLine;omega
     cases n'
     ·exact wpAny_in_heap hr hb (e0k o) a3 (e0y.tok (hQ _ q) _)
     ·exact wpAny_notIn_heap hr hb (e0k o) a3 (e0y.tok (hQ _ q) _)
theorem b1b{i j:Int}{t t':Tok}{Q':Value→Shared→Prop}(h:Q' (.bool (decide (i<j))) s):wpAny (model C.prog C.w) A (richCompare .Lt (.int i t) (.int j t')) Q' NoE s:=lt_int (Q:=Q') h
theorem q0m{a b:Addr}{vs ws:List Value}{k l:Nat}{xs ys:List Int}{P:PySem.Fin→Shared→Prop}(ha:s.heap.get? a=some (a0l vs k))(hb:s.heap.get? b=some (a0l ws l))(ia:IntsAre vs xs)(ib:IntsAre ws ys)
  (h:P (.done (.ret (.bool (j0y xs ys)))) s):wpAny (model C.prog C.w) A (Builtin.«tuple.__lt__» ⟨[.ref a,.ref b],[]⟩) P NoE s:=by
 show wpAny _ _ (isInstance (.ref b) (.type "tuple") >>= _) _ _ s;refine wpAny_bind (wpAny_isInstance (Mac.i3_1 _ hb rfl) isSubtype_tuple_tuple ?_);refine wpAny_bind (wpAny_tupleItemsOf ha rfl ?_);refine wpAny_bind (wpAny_tupleItemsOf hb rfl ?_);refine wpAny_bind ?_;refine wpAny_forIn_list _
  (fun rest r s'=>r.1=none∧s'=s∧∃ vs' ws' xs' ys',rest=List.zip vs' ws'∧IntsAre vs' xs'∧IntsAre ws' ys'∧j0y xs' ys'=j0y xs ys∧(decide (vs'.length<ws'.length))=(decide (vs.length<ws.length)))
  _ ?_ ?_ _ _ ⟨rfl,rfl,vs,ws,xs,ys,rfl,ia,ib,rfl,rfl⟩
 ·clear ha hb;rintro⟨u,v⟩ rest r s' ⟨hr,rfl,vs',ws',xs',ys',hz,hx',hy',hdec,hlen⟩;cases hx' with
  | nil=>simp at hz
  | cons i t hx''=>
   cases hy' with
   | nil=>simp at hz
   | cons j t' hy''=>
    simp only[zip_cons_cons,List.cons.injEq,Prod.mk.injEq]at hz;obtain⟨⟨rfl,rfl⟩,rfl⟩:=hz;refine wpAny_bind ((intKind C.prog C.w).eqBool (intKind_is _ _ i t) (intKind_is _ _ j t') ?_);by_cases hij:i=j
    ·subst hij;simp only[decide_true,Bool.not_true,Bool.false_eq_true,if_false];refine wpAny_pure ⟨rfl,rfl,_,_,_,_,rfl,hx'',hy'',?_,?_⟩
     ·rw[← hdec];exact decide_eq_decide.mpr List.cons_lt_cons_self.symm
     ·rw[← hlen];simp
    ·simp only[decide_eq_false hij,Bool.not_false,if_true];refine wpAny_bind (wpAny_rule (wpAny_bind (b1b (C:=C) ?_)));refine wpAny_bind (wpAny_pure (wpAny_pure ?_));have e:j0y xs ys=decide (i<j):=hdec.symm.trans (decide_eq_decide.mpr (cons_lt_cons_iff.trans ⟨fun h=>h.resolve_right fun z=>hij z.1,.inl⟩));rw[e]at h;exact wpAny_pure h
 ·clear ha hb;rintro⟨r,u⟩ s' ⟨hr,rfl,vs',ws',xs',ys',hz,hx',hy',hdec,hlen⟩;simp only at hr;subst hr;have e:j0y xs ys=decide (vs.length<ws.length):=by
   rw[← hdec,←hlen];clear hlen hdec;cases hx' with
   | nil=>cases hy' with
    | nil=>rfl
    | cons j t' hy''=>exact(decide_eq_true (List.nil_lt_cons _ _)).trans (decide_eq_true (Nat.succ_pos _)).symm
   | cons i t hx''=>cases hy' with
    | nil=>exact(decide_eq_false (List.not_lt_nil _)).trans (decide_eq_false (Nat.not_lt_zero _)).symm
    | cons j t' hy''=>simp at hz
  rw[e]at h;rw[size_toArray,size_toArray];exact wpAny_pure h
theorem y0g(S:St C H s.heap)(R:d0t A n){xs ys:List Int}(r1:VR C.B s.heap (.tup (xs.map .int)) v)(r2:VR C.B s.heap (.tup (ys.map .int)) u)(q:Q (j0y xs ys)):wpAny (model C.prog C.w) A (compareOp .Lt v u) (e0y s Q) NoE s:=by
 obtain⟨a,vs,k,e,g,r1⟩:=r1;obtain⟨b,ws,l,e',g',r2⟩:=r2;subst e e';show wpAny _ _ (richCompare .Lt (.ref a) (.ref b)) _ _ _;refine wpAny_richCompare_same_room (T:="tuple") ⟨_,g,rfl⟩ (Mac.i3_1 _ g' rfl) PySem.F.slot_tuple_lt (wpAny_call_entry PySem.F.slot_tuple_lt (T:="tuple") ⟨_,g,rfl⟩ PySem.F.entry_tuple_lt ?_ (PySem.F.args_tuple_lt_2 _ _)) R.cl0;exact q0m (C:=C) g g' r1.ints r2.ints (Mac.i4_1 _ rfl (fun x=>nomatch x) (e0y.here q))
theorem w0l{B h:Heap}{x:a0a}(r:VR B h x .none):x=.none:=by
 cases x with
 | none=>rfl
 | bool b=>exact nomatch (show Value.none=.bool b from r)
 | ref b=>exact nomatch (show Value.none=.ref b from r)
 | int i=>exact r.elim fun U r=>nomatch r
 | str i=>exact r.elim fun U r=>nomatch r
 | tup l=>exact r.elim fun U r=>r.elim fun U r=>r.elim fun U r=>nomatch r.1
 | frz l=>exact r.elim fun U r=>r.elim fun U r=>r.elim fun U r=>nomatch r.1
theorem a1b(S:St C H s.heap)(R:d0t A n)(r1:VR C.B s.heap x v)(r2:VR C.B s.heap y u){op:COp}(q:h0w op x y H Q):wpAny (model C.prog C.w) A (compareOp (m1a op) v u) (e0y s Q) NoE s:=by
 cases op
 ·exact m1h S R r1 r2 q
 ·exact n1l S R r1 r2 (fun U h=>h) q
 ·cases x <;> first | exact q.elim | (cases y <;> first | exact q.elim | skip)
  ·obtain⟨t,rfl⟩:=r1;obtain⟨t',rfl⟩:=r2;exact lt_int (e0y.here q)
  ·obtain⟨xs,ys,e1,e2,q⟩:=q;rw[e1]at r1;rw[e2]at r2;exact y0g S R r1 r2 q
 ·cases x <;> first | exact q.elim | (cases y <;> first | exact q.elim | skip)
  obtain⟨t,rfl⟩:=r1;obtain⟨t',rfl⟩:=r2;exact gt_int (e0y.here q)
 ·cases x <;> first | exact q.elim | (cases y <;> first | exact q.elim | skip)
  obtain⟨t,rfl⟩:=r1;obtain⟨t',rfl⟩:=r2;exact P.ge_int (e0y.here q)
 ·cases y <;> first | exact q.elim | skip
  rw[show u=.none from r2];by_cases e:v=.none
  ·subst e;refine is_none_none (e0y.here ?_);cases w0l r1;exact q
  ·refine is_none_ne e (e0y.here ?_);cases x <;> first | exact q | exact absurd r1 e
 ·cases y <;> first | exact q.elim | skip
  rw[show u=.none from r2];refine isNot_none (e0y.here ?_);by_cases e:v=.none
  ·subst e;cases w0l r1;exact q
  ·have e':(v == Value.none)=false:=by simpa using e
   rw[e'];cases x <;> first | exact q | exact absurd r1 e
 ·exact a1y (n':=false) S R r1 r2 (fun U h=>h) q
 ·exact a1y (n':=true) S R r1 r2 (fun U h=>h) q
end
def d1s(C:Cx)(s:Shared)(Q:a0a→Prop):Value→Shared→Prop:=fun r s'=>∃ mv tk,s'={ s with toks:=tk }∧VR C.B s.heap mv r∧Q mv
theorem d1s.here{C:Cx}{s:Shared}{Q:a0a→Prop}{mv:a0a}{v:Value}(r:VR C.B s.heap mv v)(q:Q mv):d1s C s Q v s:=(Mac.i5_2 mv s.toks rfl r q)
theorem d1s.tok{C:Cx}{s:Shared}{Q:a0a→Prop}{mv:a0a}{v:Value}(r:VR C.B s.heap mv v)(q:Q mv)(tk:Nat):d1s C s Q v { s with toks:=tk }:=⟨mv,tk,rfl,r,q⟩
theorem i0t{n:Nat}{i:Int}{k:Nat}(h:q0d n i=some k):(0≤i∧k=i.toNat∧i<n)∨(i<0∧-(n:Int)≤i∧k=(i+n).toNat):=by
 unfold q0d at h;split at h
 ·split at h
  ·cases h;exact .inl (Mac.i3_0 (by assumption) rfl (by assumption))
  ·cases h
 ·split at h
  ·cases h;exact .inr (Mac.i3_0 (by omega) (by assumption) rfl)
  ·cases h
section
variable {C:Cx}{H:MH}{s:Shared}{n:Nat}{A:Around}{x y:a0a}{u v:Value}
theorem k0t{a:Addr}{vs:List Value}{k0:Nat}{i:Int}{t:Tok}{k:Nat}{z:Value}{Q:Value→Shared→Prop}(g:s.heap.get? a=some (b0n vs k0))(hl:vs.length≤LIM)(hk:q0d vs.length i=some k)(hz:vs[k]?=some z)(q:Q z s) :
  wpAny (model C.prog C.w) A (getItem (.ref a) (.int i t)) Q NoE s:=by
 unfold LIM at hl;rcases i0t hk with⟨h0,e,h1⟩ | ⟨h0,h1,e⟩
 ·clear hk;subst e;exact wpAny_getItem_list (items:=vs.toArray) ⟨_,g,rfl,_,rfl⟩ h0 (by omega) (by simpa using hz) q
 ·clear hk;subst e;exact wpAny_getItem_list_neg (items:=vs.toArray) ⟨_,g,rfl,_,rfl⟩ h0 (by simpa using h1) (by omega) (by simpa using hz) q
theorem l0v{a:Addr}{vs:List Value}{k0:Nat}{i:Int}{t:Tok}{k:Nat}{z:Value}{Q:Value→Shared→Prop}(g:s.heap.get? a=some (a0l vs k0))(hl:vs.length≤LIM)(hk:q0d vs.length i=some k)(hz:vs[k]?=some z)(q:Q z s) :
  wpAny (model C.prog C.w) A (getItem (.ref a) (.int i t)) Q NoE s:=by
 unfold LIM at hl;refine getItem_tuple (items:=vs.toArray) (j:=k) ⟨_,g,rfl,_,rfl⟩ ?_ ?_ ?_ (by simpa using hz) q
 ·rcases i0t hk with⟨h0,e,h1⟩ | ⟨h0,h1,e⟩ <;> omega
 ·rcases i0t hk with⟨h0,e,h1⟩ | ⟨h0,h1,e⟩ <;> omega
 ·rw[size_toArray];rcases i0t hk with⟨h0,e,h1⟩ | ⟨h0,h1,e⟩
  ·clear hk hz;subst e;exact seqIndex_of h0 h1
  ·clear hk hz;subst e;exact seqIndex_neg h0 h1
set_option tactic.hygienic true in
theorem k1f(S:St C H s.heap)(R:d0t A n)(r1:VR C.B s.heap x v)(r2:VR C.B s.heap y u){Q:a0a→Prop}(q:d1a x y H Q){value slice:Expr}(hs:∀ o i,subscripted slice false o i=operate [o,i] (getItem o i)) :
  wpAny (model C.prog C.w) A (subscriptTail value slice v u) (d1s C s Q) NoE s:=by
 have hu:=R.cl;cases x <;> try exact q.elim
 ·rename_i l;obtain⟨i,e,k,z,hlim,hk,hz,q⟩:=q;subst e;obtain⟨a,vs,n,e,g,r⟩:=r1;obtain⟨t,rfl⟩:=r2;subst e;obtain⟨w,hw,rw'⟩:=r.get hz;exact tail_any (T:="tuple") (Mac.i3_1 _ g rfl) slot_tuple_getitem.lookup (l0v g (by rw[r.length];exact hlim) (by rw[r.length];exact hk) hw (d1s.here rw' q)) (hs _ _)
 ·cases r1;rename_i a;cases q with
  | lst l w1 q=>
   obtain⟨i,e,k,z,hlim,hk,hz,q⟩:=q;subst e;obtain⟨vs,n,g,r⟩:=S.ok.objs _ _ w1;obtain⟨t,rfl⟩:=r2;obtain⟨w,hw,rw'⟩:=r.get hz;exact tail_any (T:="list") (Mac.i3_1 _ g rfl) slot_list_getitem.lookup (k0t g (by rw[r.length];exact hlim) (by rw[r.length];exact hk) hw (d1s.here rw' q)) (hs _ _)
  | dic kd kv ep w1 q=>
   obtain⟨z,hk,hv,q⟩:=q;have o:=S.ok.objs _ _ w1;have hT:s.TypeIs (.ref a) "dict":=by obtain⟨U,U,es,g,U⟩:=o;exact⟨_,g,rfl⟩
   refine tail_any (T:="dict") hT slot_dict_getitem.lookup ?_ (hs _ _);clear hT;clear w1;rcases g0k hk o.1.2.1 with⟨e,i,e'⟩ | ⟨e,i,e'⟩ | ⟨e,i,e'⟩ <;> subst e e'
   ·obtain⟨t,rfl⟩:=r2;obtain⟨kvs,a1,a2,a3⟩:=c0h o;rcases d0z (fun a b q=>a0a.int.inj q) i a1 a2 with⟨g1,g2⟩ | ⟨U,U,g1,g2,g3⟩
    ·exact ns (g1.symm.trans hv)
    ·cases g1.symm.trans hv;exact wpAny_getItem_of (knd:=intKind C.prog C.w) (intKind_is _ _ i t) (DictAt.of a3).mapOf g2 (d1s.tok g3 q _)
   ·obtain⟨t,rfl⟩:=r2;obtain⟨kvs,a1,a2,a3⟩:=c0t o;rcases d0z (fun a b q=>a0a.str.inj q) i a1 a2 with⟨g1,g2⟩ | ⟨U,U,g1,g2,g3⟩
    ·exact ns (g1.symm.trans hv)
    ·cases g1.symm.trans hv;exact wpAny_getItem_of (knd:=strKind C.prog C.w) (strKind_is _ _ i t) (DictAt.of a3).mapOf g2 (d1s.tok g3 q _)
   ·obtain⟨b,rfl,hb⟩:=q0l (prog:=C.prog) (w:=C.w) r2;obtain⟨xs,a1,a2,a3,U⟩:=l0k o;rcases j0f i a1 a2 with⟨g1,g2⟩ | ⟨U,U,g1,g2,g3⟩
    ·exact ns (g1.symm.trans hv)
    ·cases g1.symm.trans hv;exact wpAny_getItem_heap (knd:=tupleKind (intKind C.prog C.w)) (by show A.units+1<cLine;omega) hb a3 g2 (d1s.tok g3 q _)
theorem k0d{i:Int}{t:Tok}{Q:Option Int→Shared→Prop}(h:Q (some i) s):wpAny (model C.prog C.w) A (Builtin.Slice.slicePartIndex (.int i t)) Q NoE s:=slicePart_int h
theorem x0h{a b n:Int}(ha:0≤a)(hb:0≤b):Builtin.Slice.sliceAdjust (some a) (some b) 1 n=(min a n,min b n):=by
 unfold Builtin.Slice.sliceAdjust;have h1:¬ ((1:Int)<0):=by decide
 have h2:¬ (a<0):=Int.not_lt.mpr ha;have h3:¬ (b<0):=Int.not_lt.mpr hb;simp only[h1,h2,h3,if_false]
theorem o0i(p q:Nat):Builtin.Slice.slicePlaces (p:Int) (q:Int) 1=q-p:=by
 unfold Builtin.Slice.slicePlaces;rw[if_pos (by decide),Int.ediv_one,Int.sub_add_cancel];by_cases h:(p:Int)<q
 ·rw[if_pos h,Int.toNat_sub]
 ·rw[if_neg h,Nat.sub_eq_zero_of_le (Int.ofNat_le.mp (Int.not_lt.mp h))];rfl
theorem m0c(a n:Nat):min (a:Int) (n:Int)=((min a n:Nat):Int):=by
 rcases Nat.le_total a n with h | h
 ·rw[Nat.min_eq_left h,Int.min_eq_left (Int.ofNat_le.mpr h)]
 ·rw[Nat.min_eq_right h,Int.min_eq_right (Int.ofNat_le.mpr h)]
theorem g1a(vs:List Value)(a b:Nat) :
  ((List.range (Builtin.Slice.slicePlaces (min (a:Int) vs.length) (min (b:Int) vs.length) 1)).filterMap fun(k:Nat)=>vs.toArray[(min (a:Int) (vs.length:Int)+(k:Int)*1).toNat]?).toArray=((vs.take b).drop a).toArray:=by
 rw[m0c,m0c,o0i];have e2:(fun(k:Nat)=>vs.toArray[(((min a vs.length:Nat):Int)+(k:Int)*1).toNat]?)=fun k=>vs.toArray[min a vs.length+k]?:=by
  funext k
  rw[Int.mul_one];rfl
 rw[e2];have:=pick_run vs.toArray (min a vs.length) (min b vs.length-min a vs.length);rw[filterMap_map]at this;have e3:((fun x=>vs.toArray[x]?)∘fun x=>min a vs.length+x)=fun k=>vs.toArray[min a vs.length+k]?:=rfl;rw[e3]at this;rw[this]
 congr 1
 show(vs.drop (min a vs.length)).take (min b vs.length-min a vs.length)=(vs.take b).drop a;rw[drop_take];rcases Nat.le_total a vs.length with h | h
 ·rw[Nat.min_eq_left h];rcases Nat.le_total b vs.length with h2 | h2
  ·rw[Nat.min_eq_left h2]
  ·rw[Nat.min_eq_right h2,take_of_length_le (by rw[length_drop];exact Nat.le_refl _),take_of_length_le (by rw[length_drop];exact Nat.sub_le_sub_right h2 a)]
 ·rw[Nat.min_eq_right h,drop_of_length_le (Nat.le_refl _),drop_of_length_le h,take_nil,take_nil]
theorem u0x{vs:List Value}{a b:Nat}(hc:(min (a:Int) (vs.length:Int) == 0&&(1:Int) == 1&&Builtin.Slice.slicePlaces (min (a:Int) vs.length) (min (b:Int) vs.length) 1 == vs.toArray.size)=true):(vs.take b).drop a=vs:=by
 rw[Bool.and_eq_true,Bool.and_eq_true,beq_iff_eq,beq_iff_eq,m0c,m0c,o0i,size_toArray]at hc;obtain⟨⟨c1,U⟩,c2⟩:=hc;have c1':min a vs.length=0:=Int.ofNat_eq_zero.mp c1;rw[c1',Nat.sub_zero]at c2;have c3:min b vs.length=vs.length:=beq_iff_eq.mp c2;have hb:vs.length≤b:=by rw[← c3];exact Nat.min_le_left ..
 rw[take_of_length_le hb];rcases Nat.le_total a vs.length with h | h
 ·rw[Nat.min_eq_left h]at c1';rw[c1',drop_zero]
 ·rw[Nat.min_eq_right h]at c1';rw[length_eq_zero_iff.mp c1',drop_nil]
theorem d1g{a:Addr}{sl:Addr}{vs:List Value}{k0:Nat}{i j:Int}{t t':Tok}{Q:Value→Shared→Prop}(g:s.heap.get? a=some (a0l vs k0))(hsl:s.heap.IsSliceOf sl (.int i t) (.int j t') .none)(hi:0≤i)(hj:0≤j)(hl:vs.length≤LIM)
  (h1:(vs.take j.toNat).drop i.toNat=vs→Q (.ref a) s) (h2:Q (.ref s.heap.objs.size) { s with heap:=s.heap.push (a0l ((vs.take j.toNat).drop i.toNat) 0) }):wpAny (model C.prog C.w) A (getItem (.ref a) (.ref sl)) Q NoE s:=by
 have ht:IsTup s.heap a vs.toArray:=⟨_,g,rfl,_,rfl⟩;obtain⟨os,hos,hcs,hds⟩:=id hsl;have hTs:s.TypeIs (.ref sl) "slice":=(Mac.i3_1 os hos hcs);have hok:sizeOk (.seq ((vs.take j.toNat).drop i.toNat).toArray):=by
  show((vs.take j.toNat).drop i.toNat).toArray.size≤sizeLine;rw[size_toArray,length_drop,length_take,sizeLine_eq];exact Nat.le_trans (Nat.sub_le _ _) (Nat.le_trans (Nat.min_le_right _ _) hl)
 unfold getItem
 try with_reducible refine wpAny_holding ?_
 refine wpAny_bind (wpAny_sequenceKey ht.typeIs (by decide) ?_);refine wpAny_bind (wpAny_callSpecial?_slot (name:=Str.ofString "__getitem__") ht.typeIs slot_tuple_getitem
  (wpAny_call_entry slot_tuple_getitem ht.typeIs entry_tuple_getitem ?_ (args_tuple_getitem _ _)))
 show wpAny _ _ (Builtin.Tuple.tupleItemsOf (.ref a) >>= _) _ _ s;refine wpAny_bind (tupleItemsOf_ ht ?_);refine wpAny_bind (wpAny_typeOf hTs ?_);rw[if_pos (by decide)];refine wpAny_bind ?_;refine wpAny_bind (wpAny_bind (wpAny_field hos hds (x:=.int i t) rfl (wpAny_bind (wpAny_field hos hds (x:=.int j t') rfl (wpAny_bind (wpAny_field hos hds (x:=.none) rfl (wpAny_pure ?_)))))));refine wpAny_bind (slicePart_none ?_);rw[if_neg (by decide)];refine wpAny_bind (k0d (wpAny_bind (k0d (wpAny_bind (wpAny_pure ?_)))));show wpAny _ _ (match Builtin.Slice.sliceAdjust (some i) (some j) 1 (vs.toArray.size:Int) with | (lo,hi)=>pure (lo,(1:Int),Builtin.Slice.slicePlaces lo hi 1)) _ _ s
 rw[x0h hi hj,size_toArray];refine wpAny_pure ?_;clear hsl hds;obtain⟨i,rfl⟩:=Int.eq_ofNat_of_zero_le hi;obtain⟨j,rfl⟩:=Int.eq_ofNat_of_zero_le hj;have hp:=g1a vs i j;show wpAny _ _ (if (min (i:Int) (vs.length:Int) == 0&&(1:Int) == 1&&Builtin.Slice.slicePlaces (min (i:Int) vs.length) (min (j:Int) vs.length) 1 == vs.toArray.size)=true then _ else _) _ _ s
 by_cases hc:(min (i:Int) (vs.length:Int) == 0&&(1:Int) == 1&&Builtin.Slice.slicePlaces (min (i:Int) vs.length) (min (j:Int) vs.length) 1 == vs.toArray.size)=true
 ·rw[if_pos hc];have q:=h1 (u0x hc);refine wpAny_bind ?_;exact wpAny_bind (wpAny_typeOf ht.typeIs (wpAny_pure (wpAny_bind (wpAny_rule (wpAny_pure (Mac.i3_1 _ rfl (wpAny_pure q)))))))
 ·rw[if_neg hc,hp]
  first
   | exact wpAny_bind (m:=Builtin.Tuple.tupleExact _) (wpAny_newObj_type (wpAny_pure (Mac.i3_1 _ rfl (wpAny_pure h2))) hok)
   | exact wpAny_bind (m:=Builtin.Tuple.tupleExact _) (wpAny_newObj_type (wpAny_bind (wpAny_pure (wpAny_pure ⟨_,rfl,wpAny_pure h2⟩))) hok)
   | exact wpAny_bind (wpAny_bind (m:=Builtin.Tuple.tupleExact _) (wpAny_newObj_type (wpAny_pure (wpAny_pure ⟨_,rfl,wpAny_pure h2⟩)) hok))
   | exact wpAny_bind (wpAny_bind (m:=Builtin.Tuple.tupleExact _) (wpAny_newObj_type (wpAny_pure ⟨_,rfl,wpAny_pure h2⟩) hok))
end
set_option genCtorIdx false in
structure Sc where
 kinds:List (Str×NameKind)
 loc:List (Str×Nat)
structure f0u(C:Cx)(env:Env)(σ:Sc)(m:Loc)(h:Heap):Prop where
 hk:env.scope.kind=.function
 hn:env.scope.names=σ.kinds
 hL:env.locals=C.L
 hg:env.globals=mainGlobals
 hb:env.builtins=builtinsNs
 var:∀ x i mv,σ.loc.lookup x=some i→m[i]?=some (some mv)→∃ v,VR C.B h mv v∧
  ((σ.kinds.lookup x=some .local∧C.mp x=some v)∨(∃ c,σ.kinds.lookup x=some .cell∧env.cells.lookup x=some c∧h.IsCell c (some v)))
 cel:∀ x c,env.cells.lookup x=some c→C.X c∧c≠C.L∧∃ v,h.IsCell c v
 dis:∀ x y c,env.cells.lookup x=some c→env.cells.lookup y=some c→x=y
 has:∀ x,σ.kinds.lookup x=some .cell→∃ c,env.cells.lookup x=some c
noncomputable def e1z:List Str:=["NONE","END","OWN_TERMINALS"]
noncomputable def p0r(x:Nat):Str:=(e1z[x]?).getD "?"
noncomputable def i1y:List a0a:=[.int (-1),.int 0,.tup [.str "$end",.str "error",.str "$undefined"]]
noncomputable def i0j(x:Nat):Option a0a:=i1y[x]?
theorem q1l:i0j 0=some (.int (-1)):=rfl
theorem q1m:i0j 1=some (.int 0):=rfl
theorem q1n:i0j 2=some (.tup [.str "$end",.str "error",.str "$undefined"]):=rfl
theorem m1q:e0h 0=2:=rfl
theorem m1r:e0h 1=5:=rfl
theorem m1s:e0h 2=12:=rfl
theorem m1t:e0h 3=18:=rfl
theorem m1u:e0h 4=31:=rfl
theorem m1v:e0h 5=32:=rfl
noncomputable def f1x:List (Nat×Str):=[(0,"transitive"),(1,"bits"),(9,"advanced"),(10,"kernels_behind"),(11,"complete_rules"),(22,"build"),(23,"predecessors"),(24,"states_before"),(25,"paths_in_breadth"),(26,"shortest_path"),(27,"is_viable"),(28,"valid_items"),(29,"inadequate_states"),(30,"is_lr_zero"),(40,"last_terminal"),(41,"plain_grammar"),(42,"_law_pen"),(43,"_law_draw"),(44,"_law_pick"),(45,"_law_pairs"),(46,"_law_free"),(47,"_law_over"),(48,"_law_sets"),(49,"_law_states_right"),(50,"_law_row_right"),(51,"_law_least"),(52,"_law_ahead"),(53,"law")]
noncomputable def q0j(f:Nat):Str:=(f1x.lookup f).getD "?"
noncomputable def u0z:List Nat:=[0,1,9,10,11,22,23,24,25,26,27,28,29,30,40,41,42,43,44,45,46,47,48,49,50,51,52,53]
structure b0z(F:Fx):Prop where
 g:F.B.Ns mainGlobals F.mg
 b:F.B.Ns builtinsNs F.mb
 lim:F.B.NoLimit
 bi:∀ x:Str,x≠"__name__"→F.mb x=bootBuiltins x
 KB:F.K.In F.B
 glo:∀ x v,i0j x=some v→∃ u,nsIn F.K mainGlobals (p0r x)=some (some u)∧VR F.B F.B v u
 fn:∀ f∈u0z,nsIn F.K mainGlobals (q0j f)=some (some (.ref (F.fa f)))∧keepIn F.K (.ref (F.fa f))=true
 cls:∀ c,c<6→nsIn F.K mainGlobals (p0f c)=some (some (.ref (F.ca c)))∧keepIn F.K (.ref (F.ca c))=true∧makesIn F.K (F.ca c)=true∧hasDictIn F.K (F.ca c)=true∧
  findIn F.K (.ref (F.ca c)) "__setattr__"=some (some (.builtin "object.__setattr__"))∧plainOver F.K (F.ca c)=true∧
  findIn F.K (.ref (F.ca c)) "__init__"=some (some (.ref (F.fa (e0h c))))∧isFn F.K (.ref (F.fa (e0h c)))=true
 att:∀ c,c<6→∀ x∈c0u c,plainGet F.K (F.ca c) (a0o x)=true∧(∃ o,findIn F.K (.ref (F.ca c)) (a0o x)=some o∧noGet F.K o=true)∧takerIn F.K (F.ca c) (a0o x)=some none
 met:∀ c x f,c<6→i0r c x=some f→plainGet F.K (F.ca c) (d0q x)=true∧findIn F.K (.ref (F.ca c)) (d0q x)=some (some (.ref (F.fa f)))∧isFn F.K (.ref (F.fa f))=true∧keepIn F.K (.ref (F.fa f))=true
 bnone:∀ x∈(["len","sorted","list","tuple","abs","int","sum","dict","range","enumerate"]:List Str),nsIn F.K mainGlobals x=some none
section
variable {C:Cx}{H H':MH}{s:Shared}{h':Heap}{n:Nat}{A:Around}{env:Env}{σ:Sc}{m:Loc}
theorem f0u.keep(e:f0u C env σ m s.heap)(S:St C H s.heap)(t:TrE C.L C.mp H s.heap H' h'):f0u C env σ m h':=by
 have kc:∀ x c v,env.cells.lookup x=some c→s.heap.IsCell c v→h'.IsCell c v:=fun x c v q ⟨o,g,d⟩=>by
  obtain⟨a,b,U⟩:=e.cel x c q;exact⟨o,t.keep c o b g (S.ok.frm c a).1,d⟩
 refine⟨e.hk,e.hn,e.hL,e.hg,e.hb,fun x i mv q w=>?_,fun x c q=>?_,e.dis,e.has⟩
 ·obtain⟨v,r,z⟩:=e.var x i mv q w;refine⟨v,r.mono (t.tups S.ok S.hL),?_⟩;rcases z with z | ⟨c,z1,z2,z3⟩
  ·exact .inl z
  ·exact .inr (Mac.i4_1 c z1 z2 (kc _ _ _ z2 z3))
 ·obtain⟨a,b,v,z⟩:=e.cel x c q;exact⟨a,b,v,kc _ _ _ q z⟩
theorem f1h(S:St C H s.heap)(e:f0u C env σ m s.heap){x:Str}{i:Nat}{mv:a0a}(hx:σ.loc.lookup x=some i)(hm:m[i]?=some (some mv)){Q:a0d}(q:Q mv H) :
  wpAny (model C.prog C.w) A (loadName env x) (Pst C H s Q) NoE s:=by
 obtain⟨v,r,z⟩:=e.var x i mv hx hm;rcases z with⟨z1,z2⟩ | ⟨c,z1,z2,z3⟩
 ·exact wpAny_loadName_local e.hk (by unfold Env.kindOf;rw[e.hn];exact z1) (by rw[e.hL];exact S.ns) z2 (Pst.here S r q)
 ·exact wpAny_loadName_cell e.hk (by unfold Env.kindOf;rw[e.hn];exact z1) z2 z3 (Pst.here S r q)
theorem p0s(T:b0z C.toFx)(S:St C H s.heap)(e:f0u C env σ m s.heap){x:Str}{pos:Pos}{v:Value}{Q:Value→Shared→Prop}(hx:σ.kinds.lookup x=some .globalImplicit)(hd:(x == ("__debug__":Str))=false)
  (hv:nsIn C.K mainGlobals x=some (some v)) (q:Q v s):wpAny (model C.prog C.w) A (eval (.Name x pos) env) Q NoE s:=
 Calls.Name_function_global e.hk (by unfold Env.kindOf;rw[e.hn];exact hx) (Calls.loadGlobal_global (mg:=C.mg) (by rw[e.hg];exact T.g.keeps S.ok.base) (mg_of T.KB T.g hv) q) hd
theorem l0w(T:b0z C.toFx)(S:St C H s.heap)(e:f0u C env σ m s.heap){x:Str}{pos:Pos}{v:Value}{Q:Value→Shared→Prop}(hx:σ.kinds.lookup x=some .globalImplicit)(hd:(x == ("__debug__":Str))=false)
  (hv:nsIn C.K mainGlobals x=some none) (hb:bootBuiltins x=some v) (hn:x≠"__name__") (q:Q v s):wpAny (model C.prog C.w) A (eval (.Name x pos) env) Q NoE s:=
 Calls.Name_function_global e.hk (by unfold Env.kindOf;rw[e.hn];exact hx) (Calls.loadGlobal_builtin (mg:=C.mg) (mb:=C.mb) (by rw[e.hg];exact T.g.keeps S.ok.base) (mg_none_of T.KB T.g hv)
  (by rw[e.hb];exact T.b.keeps S.ok.base) ((T.bi x hn).trans hb) q) hd
theorem j1q(S:St C H s.heap){v:Value}{x:a0a}(r:VR C.B s.heap x v){Q:a0d}(q:match (generalizing:=false) x with | .int i=>Q (.int (-i)) H | _=>False) :
  wpAny (model C.prog C.w) A (unaryOp .USub v) (Pst C H s Q) NoE s:=by
 cases x <;> try exact q.elim
 obtain⟨t,rfl⟩:=r;exact P.neg_int (Pst.same S (VR.mkInt _ _) q _)
theorem u0i(S:St C H s.heap){vs:List Value}{l:List a0a}(r:VRs C.B s.heap l vs){Q:a0d}(q:e0f l H Q):wpAny (model C.prog C.w) A (newList vs) (Pst C H s Q) NoE s:=by
 obtain⟨hl,q⟩:=q;refine wpAny_newObj_type ?_ (by show vs.toArray.size≤sizeLine;rw[size_toArray,r.length,sizeLine_eq];exact hl);have g:b0c C.L C.mp s.heap (s.heap.push (b0n vs 0)):=b0c.of S.ns fun a o e=>Heap.get?_push_of_some _ e;exact Pst.alloc S g (b0i _) (g0p.mkList (Heap.get?_push_size _ rfl) (r.mono (g.tups S.ok S.hL))) q s.toks
theorem s0c(S:St C H s.heap){vs:List Value}{l:List a0a}(r:VRs C.B s.heap l vs){Q:a0d}(hl:l.length≤LIM)(q:Q (.tup l) H):wpAny (model C.prog C.w) A (newTuple vs) (Pst C H s Q) NoE s:=by
 have g:b0c C.L C.mp s.heap (s.heap.push (a0l vs 0)):=b0c.of S.ns fun a o e=>Heap.get?_push_of_some _ e;exact wpAny_newTuple (Pst.grown S g (VR.mkTup (Heap.get?_push_size _ rfl) (r.mono (g.tups S.ok S.hL))) q s.toks) (by rw[r.length,sizeLine_eq];exact hl)
theorem u0h(S:St C H s.heap){kd:Nat}{pos:Pos}(hkd:1≤kd∧kd≤3){Q:a0d}(q:d0v (.dict kd [] 0) H Q):wpAny (model C.prog C.w) A (eval (.Dict [] [] pos) env) (Pst C H s Q) NoE s:=by
 have g:b0c C.L C.mp s.heap (s.heap.push (dictOf [] 0)):=b0c.of S.ns fun a o e=>Heap.get?_push_of_some _ e;refine wpAny_Dict_empty ?_;refine Pst.alloc (o:=.dict kd [] 0) S g (b0i _) ⟨⟨?_,hkd⟩,nodup_nil,[],Heap.get?_push_size _ rfl,rfl⟩ q s.toks;have:=S.ok.low;exact beq_eq_false_iff_ne.mpr fun z=>by have:sysModules<s.heap.objs.size:=Nat.lt_of_le_of_lt (by decide) this;rw[z]at this;exact absurd this (Nat.lt_irrefl _)
end
def d1w(C:Cx)(H:MH)(s:Shared)(Q:MH→Prop):Unit→Shared→Prop:=fun U s'=>
 ∃ h' tk H',s'={ s with heap:=h',toks:=tk }∧TrE C.L C.mp H s.heap H' h'∧Ok C.prog C.w C.ca C.X C.B H' h'∧Q H'
theorem u0b:∀ c<6,(c0u c).length≤10:=by decide
theorem n1a:∀ c<6,∀ x∈c0u c,l0t c x<(c0u c).length:=by decide
theorem v0r(c:Nat)(hc:c<6)(x:Nat)(_h:l0t c x≤(c0u c).length)(h:l0t c x<(c0u c).length):(c0u c)[l0t c x]?=some x:=by
 have hl:=u0b c hc;by_cases hx:x∈c0u c
 ·have e:l0t c x=(c0u c).idxOf x:=if_pos hx;rw[e];have h':=idxOf_lt_length_of_mem hx;rw[geg h',getElem_idxOf]
 ·have e:l0t c x=99:=if_neg hx;rw[e]at h;exact absurd (Nat.lt_of_lt_of_le h hl) (by decide)
theorem e0i:∀ c,c<6→((c0u c).map a0o).Nodup:=by decide +kernel
section
variable {prog:Program}{w:World}{B h:Heap}
theorem f0z(x y:Str)(t:Tok):(Value.str x t).isStr y=(x == y):=rfl
theorem l0f.find:∀ {xs:List Nat} {fs:List a0a} {es:List DictEntry},l0f w B h xs fs es→(xs.map a0o).Nodup→∀ {k:Nat} {f:a0a} {x:Nat},fs[k]?=some f→xs[k]?=some x→
  ∃ e,es.find? (·.key.isStr (a0o x))=some e∧VR B h f e.val:=by
 intro xs
 induction xs with
 | nil=>intro fs es U U k f x U hx;cases hx
 | cons x0 xs ih=>
  intro fs es r nd k f x hf hx;cases fs with
  | nil=>cases hf
  | cons f0 fs=>
   obtain⟨e,r,rfl,b,⟨t,c⟩,d,g⟩:=r;rw[map_cons,nodup_cons]at nd;cases k with
   | zero=>
    obtain rfl:f0=f:=Option.some.inj hf;obtain rfl:x0=x:=Option.some.inj hx;exact⟨e,by rw[find?_cons,c,f0z,beq_self_eq_true],d⟩
   | succ k=>
    obtain⟨e',h1,h2⟩:=ih g nd.2 hf hx;refine⟨e',?_,h2⟩;have ne:(a0o x0 == a0o x)=false:=beq_eq_false_iff_ne.mpr fun q=>nd.1 (mem_map.mpr (Mac.i3_1 x (mog hx) q.symm));rw[find?_cons,c,f0z,ne];exact h1
theorem l0f.noFind:∀ {xs:List Nat} {fs:List a0a} {es:List DictEntry} {y:Str},l0f w B h xs fs es→y∉(xs.take fs.length).map a0o→es.find? (·.key.isStr y)=none∧es.any (·.refKey)=false:=by
 intro xs fs
 induction fs generalizing xs with
 | nil=>intro es y a U;cases xs <;> (cases(show es=[] from a);exact⟨rfl,rfl⟩)
 | cons f0 fs ih=>
  cases xs with
  | nil=>intro es y r;exact r.elim
  | cons x0 xs=>
   rintro U y ⟨e,r,rfl,b,⟨t,c⟩,d,g⟩ nd;rw[length_cons,take_succ_cons,map_cons,mem_cons,not_or]at nd;obtain⟨h1,h2⟩:=ih g nd.2;refine⟨?_,?_⟩
   ·have ne:(a0o x0 == y)=false:=beq_eq_false_iff_ne.mpr fun q=>nd.1 q.symm;rw[find?_cons,c,f0z,ne];exact h1
   ·rw[any_cons,h2];simp[DictEntry.refKey,c]
end
section
variable {C:Cx}{H H':MH}{s:Shared}{h':Heap}{n:Nat}{A:Around}
theorem St.K(S:St C H s.heap)(T:b0z C.toFx):C.K.In s.heap:=fun a o e=>S.ok.base _ _ (T.KB a o e)
theorem t0x{a dx:Addr}{c:Nat}{es:List DictEntry}{n:Nat}(g:s.heap.get? a=some (instObj (C.ca c) dx))(d:s.heap.get? dx=some (dictOf es n)) :
  W.InstAt s.heap a (instObj (C.ca c) dx) (C.ca c) (some (dictOf es n)):=⟨g,rfl,rfl,d⟩
theorem d1z(T:b0z C.toFx)(S:St C H s.heap){a:Addr}{c x:Nat}{fs:List a0a}{w:a0a}{ex:Bool}(q1:H a=some (.inst c fs))(q2:fs[l0t c x]?=some w){Q:a0d}(q:Q w H) :
  wpAny (model C.prog C.w) A (getAttr (.ref a) (a0o x) ex) (Pst C H s Q) NoE s:=by
 obtain⟨c6,dx,es,n,h1,h2,h3,h4⟩:=S.ok.objs _ _ q1;have hlt:l0t c x<fs.length:=(gsm q2).1;have hle:=(h4.length).2;have hx:=v0r c c6 x (by omega) (by omega);obtain⟨e,g1,g2⟩:=l0f.find h4 (e0i c c6) q2 hx;obtain⟨p1,⟨o,p2,p3⟩,p4⟩:=T.att c c6 x (mog hx);obtain⟨U,U,U,hd,U⟩:=T.cls c c6;have hv:handedIn e.val=true:=by clear q2 q;cases w <;> (try (obtain⟨t,g2⟩:=g2)) <;> (try (rw[show e.val=_ from g2];rfl)) <;> (obtain⟨U,U,g2,U⟩:=g2;rw[g2];rfl)
 have X:=S.K T;refine get_value X (t0x h2 h3) (plainGet_of p1).1 (findObj_own hd p2 p3 (v:=e.val) ?_) hv (Pst.same S g2 q _);show getL (a0o x) es=_;unfold getL;rw[g1]
set_option tactic.hygienic true in
theorem o0w{h:Heap}{L a:Addr}{o:Obj}(e:h.get? a=some o)(n:a≠L):∃ pre post,d0m h L=pre++(a,o)::post∧(∀ p∈pre,p.1≠a)∧∀ p∈post,p.1≠a:=by
 have key:∀ (l:List Nat),l.Nodup→(a,o)∈(l.filterMap fun a=>if a=L then none else(h.get? a).map fun o=>(a,o))→
   ∃ pre post,(l.filterMap fun a=>if a=L then none else(h.get? a).map fun o=>(a,o))=pre++(a,o)::post∧(∀ p∈pre,p.1≠a)∧∀ p∈post,p.1≠a:=by
  intro l
  induction l with
  | nil=>intro U z;simp at z
  | cons b l ih=>
   intro nd z;rw[nodup_cons]at nd;have fst_mem:∀ p∈(l.filterMap fun a=>if a=L then none else(h.get? a).map fun o=>(a,o)),p.1∈l:=by
    intro p hp;obtain⟨c,hc,hq⟩:=mem_filterMap.mp hp;split at hq
    ·cases hq
    ·cases q:h.get? c with
     | none=>rw[q]at hq;cases hq
     | some ob=>rw[q]at hq;clear hp;cases hq;exact hc
   rw[filterMap_cons]at z ⊢;by_cases hb:b=a
   ·clear ih;subst hb;rw[if_neg n,e];refine⟨[],_,rfl,(fun U x=>nomatch x),fun p hp q=>?_⟩;exact nd.1 (q▸fst_mem p hp)
   ·have go:(a,o)∈(l.filterMap fun a=>if a=L then none else(h.get? a).map fun o=>(a,o)):=by
     split at z
     ·exact z
     ·rename_i p hp;rcases mem_cons.mp z with z | z
      ·exfalso;split at hp
       ·cases hp
       ·cases q:h.get? b with
        | none=>rw[q]at hp;cases hp
        | some ob=>rw[q]at hp;cases hp;clear q;cases z;exact hb rfl
      ·exact z
    obtain⟨pre,post,e1,e2,e3⟩:=ih nd.2 go;split
    ·exact⟨pre,post,e1,e2,e3⟩
    ·rename_i p hp;refine⟨p::pre,post,by rw[e1];rfl,fun x hx=>?_,e3⟩;rcases mem_cons.mp hx with hx | hx
     ·subst hx;split at hp
      ·cases hp
      ·cases q:h.get? b with
       | none=>rw[q]at hp;cases hp
       | some ob=>rw[q]at hp;clear hx;cases hp;exact hb
     ·exact e2 x hx
 exact key _ List.nodup_range (b0d.mpr ⟨e,n⟩)
theorem f1i{h h':Heap}{L a:Addr}{mp:Str→Option Value}{o o':Obj}{pre post:List (Addr×Obj)}(e:d0m h L=pre++(a,o)::post)(F:Fr g0b L h' mp)(N:News g0b L h' (pre++(a,o')::post)) :
  (∀ b ob,b≠a→b≠L→h.get? b=some ob→h'.get? b=some ob)∧h'.get? a=some o'∧h'.Ns L mp:=by
 refine⟨fun b ob n1 n2 g=>?_,(N (a,o') (by simp)).1,F.ns⟩;have:(b,ob)∈pre++(a,o)::post:=e▸b0d.mpr ⟨g,n2⟩;have:(b,ob)∈pre++(a,o')::post:=by
  rcases mem_append.mp this with z | z
  ·exact mem_append_left _ z
  ·rcases mem_cons.mp z with z | z
   ·clear n2 g this;cases z;exact(n1 rfl).elim
   ·exact mem_append_right _ (.tail _ z)
 exact(N _ this).1
theorem l0f.nil{w:World}{B h:Heap}:∀ xs:List Nat,l0f w B h xs [] []
 | []=>rfl
 | _::_=>rfl
theorem l0f.put{w:World}{B h:Heap}:∀ {xs:List Nat} {fs:List a0a} {es:List DictEntry} {k:Nat} {x:Nat} {v:Value} {f:a0a} {t:Tok},l0f w B h xs fs es→(xs.map a0o).Nodup→xs[k]?=some x→k≤fs.length→VR B h f v→
  l0f w B h xs (if k<fs.length then fs.set k f else fs++[f]) (putL (a0o x) (PyData.keyHash w.params (a0o x)) (.str (a0o x) t) v es):=by
 intro xs
 induction xs with
 | nil=>intro fs es k x v f t U U hx;cases hx
 | cons x0 xs ih=>
  intro fs es k x v f t r nd hx hk hv;cases fs with
  | nil=>
   cases(show es=[] from r);cases Nat.le_zero.mp hk;obtain rfl:x0=x:=Option.some.inj hx;exact⟨_,[],rfl,rfl,⟨t,rfl⟩,hv,l0f.nil _⟩
  | cons f0 fs=>
   obtain⟨e,r,rfl,b,⟨t',c⟩,d,g⟩:=r;rw[map_cons,nodup_cons]at nd;cases k with
   | zero=>
    obtain rfl:x0=x:=Option.some.inj hx;rw[if_pos (Nat.succ_pos _),set_cons_zero,putL,c,f0z,if_pos (beq_self_eq_true _)];exact⟨_,_,rfl,b,⟨t',rfl⟩,hv,g⟩
   | succ k=>
    rw[putL,c,f0z,if_neg fun q=>nd.1 (mem_map.mpr (Mac.i3_1 x (mog hx) ((eq_of_beq q).symm)))];have e2:(if k+1<(f0::fs).length then(f0::fs).set (k+1) f else(f0::fs)++[f])=f0::(if k<fs.length then fs.set k f else fs++[f]):=by
     by_cases q:k<fs.length
     ·exact(if_pos (Nat.succ_lt_succ q)).trans (congrArg (f0::·) (if_pos q).symm)
     ·exact(if_neg fun z=>q (Nat.lt_of_succ_lt_succ z)).trans (congrArg (f0::·) (if_neg q).symm)
    rw[e2];exact⟨e,_,rfl,b,⟨t',c⟩,d,ih g nd.2 hx (Nat.le_of_succ_le_succ hk) hv⟩
theorem m0m(name:Str)(hs:Int)(key v:Value):∀ es:List DictEntry,(putL name hs key v es).length≤es.length+1
 | []=>Nat.le_refl _
 | e::r=>by
  unfold putL;split
  ·simp
  ·rw[length_cons,length_cons];exact Nat.succ_le_succ (m0m name hs key v r)
set_option tactic.hygienic true in
theorem u0s(T:b0z C.toFx)(S:St C H s.heap){a:Addr}{c x:Nat}{fs fs':List a0a}{mv:a0a}{v:Value}(q1:H a=some (.inst c fs))(q2:setField c x mv fs=some fs')(hx0:x∈c0u c)(r:VR C.B s.heap mv v){Q:MH→Prop}(q:Q (upd H a (.inst c fs'))) :
  wpAny (model C.prog C.w) A (setAttr (.ref a) (a0o x) v) (d1w C H s Q) NoE s:=by
 obtain⟨c6,dx,es,n,h1,h2,h3,h4⟩:=S.ok.objs _ _ q1;have hle:=(h4.length).2;have hel:=(h4.length).1;have hk:l0t c x≤fs.length∧fs'=(if l0t c x<fs.length then fs.set (l0t c x) mv else fs++[mv]):=by
  unfold setField at q2;dsimp only at q2;split at q2
  ·rename_i z;clear q;cases q2;exact⟨Nat.le_of_lt z,by rw[if_pos z]⟩
  ·rename_i z;split at q2
   ·rename_i z2;clear q;cases q2;exact⟨Nat.le_of_eq z2,by rw[if_neg z]⟩
   ·cases q2
 have hlay:l0t c x<(c0u c).length:=n1a c c6 x hx0;have hx:=v0r c c6 x (Nat.le_of_lt hlay) hlay;obtain⟨p1,⟨o,p2,p3⟩,p4⟩:=T.att c c6 x hx0;obtain⟨U,U,U,hd,hset,hpl,U⟩:=T.cls c c6;have X:=S.K T;have hdL:dx≠C.L:=fun z=>by have:=(S.ok.frm _ S.hL).1;rw[← z,h1]at this;cases this
 obtain⟨pre,post,e1,e2,e3⟩:=o0w h3 hdL;have F:=k0s S.ns;have N:=c0v s.heap C.L;rw[e1]at N;have I:=t0x (C:=C) (c:=c) h2 h3;have hl:(getL (a0o x) es).isSome=true:=by
  unfold getL;by_cases z:l0t c x<fs.length
  ·obtain⟨e,g1,U⟩:=l0f.find h4 (e0i c c6) (geg z) hx;rw[g1];rfl
  ·have z2:l0t c x=fs.length:=Nat.le_antisymm ‹_∧_›.1 (Nat.le_of_not_lt z);obtain⟨g1,g2⟩:=l0f.noFind (y:=a0o x) h4 (by rw[← z2,map_take];exact c0o (e0i c c6) (by rw[gmp,hx];rfl));rw[g1];dsimp only;rw[g2];rfl
 have hl7:=u0b c c6;refine set_plain X I hset ?_;refine osa_dict (s:={ s with toks:=s.toks+1 }) F N X I rfl hpl p4 hd hl e2 e3 (putName_dict _ _ _ _ _ _) rfl
  (Nat.le_trans (m0m _ _ _ _ _) (by omega)) fun h' F' N'=>?_
 obtain⟨g1,g2,g3⟩:=f1i e1 F' N';refine⟨h',s.toks+1+1,upd H a (.inst c fs'),rfl,?_,?_,q⟩
 ·refine⟨fun b ob n1 gb hb=>g1 b ob ?_ n1 gb,fun b ob gb hb=>?_,g3⟩
  ·first | exact nef (h1) hb (fun e=>by cases e) | exact nef hb (h1) (fun e=>by cases e)
  ·unfold upd;rw[if_neg]
   ·exact hb
   ·first | exact nef (q1) hb (fun e=>by cases e) | exact nef hb (q1) (fun e=>by cases e)
 ·have kt:a0k s.heap h':=fun b vs k gb=>g1 b _ (by clear h1 h2 hdL e1 e2 e3 I N' g1 g2;rintro rfl;have q:=congrArg (Option.map Obj.cls) (h3.symm.trans gb);simp at q) (fun z=>S.ok.frmN (a:=b) (z▸S.hL) vs k gb) gb;have keep:∀ b ob,b≠dx→b≠C.L→s.heap.get? b=some ob→h'.get? b=some ob:=g1;have haL:∀ b o,H b=some o→b≠C.L:=fun b o z q=>by have:=(S.ok.frm _ S.hL).1;rw[← q,z]at this;cases this
  refine⟨fun b ob e'=>?_,fun b ob e'=>?_,fun b ob e'=>?_,S.ok.glob,fun b xb=>?_⟩
  ·refine keep b ob ?_ ?_ (S.ok.base b ob e')
   ·first | exact nef (S.ok.sep _ _ e') h1 (fun e=>by cases e) | exact nef h1 (S.ok.sep _ _ e') (fun e=>by cases e)
   ·rintro rfl;rw[(S.ok.frm _ S.hL).2.1]at e';cases e'
  ·unfold upd;rw[if_neg]
   ·exact S.ok.sep b ob e'
   ·first | exact nef (S.ok.sep _ _ e') q1 (fun e=>by cases e) | exact nef q1 (S.ok.sep _ _ e') (fun e=>by cases e)
  ·have hadx:a≠dx:=by first | exact nef (q1) h1 (fun e=>by cases e) | exact nef h1 (q1) (fun e=>by cases e)
   have hUdx:upd H a (.inst c fs') dx=some (.hid a):=by unfold upd;rw[if_neg (Ne.symm hadx)];exact h1
   unfold upd at e';split at e'
   ·rename_i z;clear q h1 I;subst z;cases e';refine⟨c6,dx,_,_,hUdx,keep _ _ hadx (haL _ _ q1) h2,g2,?_⟩;rw[hk.2];exact(l0f.put h4 (e0i c c6) hx hk.1 r).mono kt
   ·rename_i z;by_cases hb:b=dx
    ·clear h2 h3 hdL e1 e2 e3 I N' g1 keep hadx hUdx;subst hb;rw[h1]at e';cases e';exact⟨_,_,g2⟩
    ·refine(S.ok.objs b ob e').frame kt (fun o' z'=>keep b o' hb (haL _ _ e') z') fun dx' o' p z'=>?_;have hne:dx'≠dx:=by clear h2 h3 hdL e1 e2 e3 I N' g1 g2 keep hadx hUdx hb;rintro rfl;rw[h1]at p;cases p;exact z rfl
     have hne':dx'≠a:=by first | exact nef (q1) p (fun e=>by cases e) | exact nef p (q1) (fun e=>by cases e)
     exact⟨keep dx' o' hne (haL _ _ p) z',by unfold upd;rw[if_neg hne'];exact p⟩
  ·obtain⟨f1,f2,o,f3,f4⟩:=S.ok.frm b xb;refine⟨?_,f2,?_⟩
   ·unfold upd;rw[if_neg]
    ·exact f1
    ·first | exact nef (f1) q1 (fun e=>by cases e) | exact nef q1 (f1) (fun e=>by cases e)
   ·by_cases z:b=C.L
    ·clear xb f1 f2 f3;subst z;exact m0g g3
    ·exact⟨o,keep b o (by first | exact nef (f1) h1 (fun e=>by cases e) | exact nef h1 (f1) (fun e=>by cases e)) z f3,f4⟩
end
section
variable {prog:Program}{w:World}{B h:Heap}
theorem d0u.ofG{K:Type}[DecidableEq K]{knd:PySem.KeyKind prog w K}{f:K→a0a}{kd:Nat}(hE:∀ k x (e:DictEntry),knd.is k e.key=true→e.hash=knd.hash k→VR B h x e.val→g1k prog w B h kd (f k,x) e) :
  ∀ {kv:List (a0a×a0a)} {es:List DictEntry} {kvs:List (K×Value)},kv.map (·.1)=kvs.map (fun p=>f p.1)→VRs B h (kv.map (·.2)) (kvs.map (·.2))→Pairs knd es kvs→(∀ e∈es,∃ k,knd.is k e.key=true∧e.hash=knd.hash k)→d0u prog w B h kd kv es:=by
 intro kv
 induction kv with
 | nil=>
  intro es kvs e U p U;cases p with
  | nil=>rfl
  | cons=>cases e
 | cons q kv ih=>
  intro es kvs e r p hk;cases p with
  | nil=>cases e
  | @cons en p es kvs h1 h2 h3=>
   obtain⟨e3,e4⟩:=List.cons.inj e;obtain⟨v,r,e',a,b⟩:=r;obtain⟨e1,e2⟩:=List.cons.inj e';clear e';subst e2;obtain⟨k',q1,q2⟩:=hk en (.head _);rw[KeyKind.is_eq_decide h1 k']at q1;have e5:=of_decide_eq_true q1;subst e5;have z:=hE p.1 q.2 en h1 q2 (by rw[h2,show p.2=v from e1];exact a);rw[← show q.1=f p.1 from e3]at z;exact⟨en,es,rfl,z,ih e4 b h3 fun e' he'=>hk e' (.tail _ he')⟩
theorem d0u.of1{kv:List (a0a×a0a)}{es:List DictEntry}{kvs:List (Int×Value)}:kv.map (·.1)=kvs.map (fun p=>a0a.int p.1)→VRs B h (kv.map (·.2)) (kvs.map (·.2))→Pairs (intKind prog w) es kvs→
  (∀ e∈es,∃ k,(intKind prog w).is k e.key=true∧e.hash=(intKind prog w).hash k)→d0u prog w B h 1 kv es:=d0u.ofG (f:=a0a.int) (kd:=1) fun k x e q1 q2 a=>(Mac.i3_0 q2 (Value.isInt_shape q1) a)
theorem d0u.of2{kv:List (a0a×a0a)}{es:List DictEntry}{kvs:List (Str×Value)}:kv.map (·.1)=kvs.map (fun p=>a0a.str p.1)→VRs B h (kv.map (·.2)) (kvs.map (·.2))→Pairs (strKind prog w) es kvs→
  (∀ e∈es,∃ k,(strKind prog w).is k e.key=true∧e.hash=(strKind prog w).hash k)→d0u prog w B h 2 kv es:=d0u.ofG (f:=a0a.str) (kd:=2) fun k x e q1 q2 a=>(Mac.i3_0 q2 (Value.isStrOf_shape q1) a)
theorem d0u.of3:∀ {kv:List (a0a×a0a)} {xs:List (List Int×Addr×Value)},kv.map (·.1)=xs.map (fun p=>a0a.tup (p.1.map .int))→VRs B h (kv.map (·.2)) (xs.map (·.2.2))→
  (∀ x∈xs,VR B h (.tup (x.1.map .int)) (.ref x.2.1))→d0u prog w B h 3 kv (xs.map (entryOfKey (tupleKind (intKind prog w)))):=by
 intro kv
 induction kv with
 | nil=>
  intro xs e U U;cases xs with
  | nil=>rfl
  | cons=>cases e
 | cons q kv ih=>
  intro xs e r hk;cases xs with
  | nil=>cases e
  | cons p xs=>
   obtain⟨e3,e4⟩:=List.cons.inj e;obtain⟨v,r,e',a,b⟩:=r;obtain⟨e1,e2⟩:=List.cons.inj e';clear e';subst e2;have z:g1k prog w B h 3 (a0a.tup (p.1.map .int),q.2) (entryOfKey (tupleKind (intKind prog w)) p):=Mac.i5_1 p.1 rfl rfl (hk p (.head _)) (by rw[show(entryOfKey (tupleKind (intKind prog w)) p).val=v from e1];exact a);rw[← show q.1=a0a.tup (p.1.map .int) from e3]at z;exact⟨_,_,rfl,z,ih e4 b fun x hx=>hk x (.tail _ hx)⟩
theorem t0d{K V:Type}[DecidableEq K](kvs:List (K×V))(k:K):(kvs.any fun p=>decide (p.1=k))=true↔k∈kvs.map (·.1):=by
 rw[any_eq_true,mem_map];constructor
 ·rintro⟨p,hp,hq⟩;exact⟨p,hp,of_decide_eq_true hq⟩
 ·rintro⟨p,hp,hq⟩;exact⟨p,hp,decide_eq_true hq⟩
theorem p0w{K V W:Type}{f:K→a0a}(hf:∀ a b,f a=f b→a=b){kv:List (a0a×W)}{kvs:List (K×V)}(e:kv.map (·.1)=kvs.map (fun p=>f p.1))(k:K):f k∈kv.map (·.1)↔k∈kvs.map (·.1):=by
 rw[e,mem_map,mem_map];constructor
 ·rintro⟨p,hp,hq⟩;exact⟨p,hp,hf _ _ hq⟩
 ·rintro⟨p,hp,hq⟩;exact⟨p,hp,by rw[hq]⟩
theorem c1l{K V:Type}[DecidableEq K]{f:K→a0a}(hf:∀ a b,f a=f b→a=b){x:a0a}{v:Value}(rv:VR B h x v)(k:K)(g:K×V→Value)(pu:K×V→K×V)(hp1:∀ q,(pu q).1=q.1)(hp2:∀ q,q.1=k→g (pu q)=v)(hp3:∀ q,q.1≠k→g (pu q)=g q) :
  ∀ {kv:List (a0a×a0a)} {kvs:List (K×V)},kv.map (·.1)=kvs.map (fun p=>f p.1)→VRs B h (kv.map (·.2)) (kvs.map g)→
  ∀ dec:∀ p:a0a×a0a,Decidable (p.1=f k),((kv.map fun p=>@ite _ (p.1=f k) (dec p) (p.1,x) p).map (·.1)=(kvs.map pu).map (fun p=>f p.1))∧VRs B h ((kv.map fun p=>@ite _ (p.1=f k) (dec p) (p.1,x) p).map (·.2)) ((kvs.map pu).map g):=by
 intro kv
 induction kv with
 | nil=>
  intro kvs e U U;cases kvs with
  | nil=>exact⟨rfl,rfl⟩
  | cons=>cases e
 | cons p kv ih=>
  intro kvs e r dec;cases kvs with
  | nil=>cases e
  | cons q kvs=>
   obtain⟨e3,e4⟩:=List.cons.inj e;obtain⟨v',r,e',a,b⟩:=r;obtain⟨e1,e2⟩:=List.cons.inj e';clear e e';subst e1 e2;obtain⟨i1,i2⟩:=ih e4 b dec;by_cases z:q.1=k
   ·have c:p.1=f k:=e3.trans (congrArg f z);refine⟨congr (congrArg List.cons ?_) i1,_,_,congrArg (fun z=>z::_) (hp2 q z),?_,i2⟩
    ·show(if p.1=f k then(p.1,x) else p).1=f (pu q).1
     rw[if_pos c,hp1];exact e3
    ·show VR B h (if p.1=f k then(p.1,x) else p).2 v
     rw[if_pos c];exact rv
   ·have c:¬ p.1=f k:=fun y=>z (hf _ _ (e3.symm.trans y));refine⟨congr (congrArg List.cons ?_) i1,_,_,congrArg (fun z=>z::_) (hp3 q z),?_,i2⟩
    ·show(if p.1=f k then(p.1,x) else p).1=f (pu q).1
     rw[if_neg c,hp1];exact e3
    ·show VR B h (if p.1=f k then(p.1,x) else p).2 (g q)
     rw[if_neg c];exact a
theorem c1m{K:Type}[DecidableEq K]{f:K→a0a}(hf:∀ a b,f a=f b→a=b){x:a0a}{v:Value}(rv:VR B h x v)(k:K){kv:List (a0a×a0a)}{kvs:List (K×Value)}(e:kv.map (·.1)=kvs.map (fun p=>f p.1))(r:VRs B h (kv.map (·.2)) (kvs.map (·.2))) :
  (f0k kv (f k) x).map (·.1)=(stored kvs k v).map (fun p=>f p.1)∧VRs B h ((f0k kv (f k) x).map (·.2)) ((stored kvs k v).map (·.2)):=by
 unfold f0k stored;by_cases c:k∈kvs.map (·.1)
 ·rw[if_pos ((p0w hf e k).mpr c),if_pos ((t0d kvs k).mpr c)];exact c1l hf rv k (·.2) (fun kv=>if kv.1=k then(kv.1,v) else kv) (fun q=>by split <;> rfl) (fun q z=>by simp only[if_pos z]) (fun q z=>by simp only[if_neg z]) e r _
 ·rw[if_neg (fun z=>c ((p0w hf e k).mp z)),if_neg (fun z=>c ((t0d kvs k).mp z))];refine⟨by simp[e],?_⟩;rw[map_append,map_append];exact r.append (VRs.one rv)
open Classical in
set_option tactic.hygienic true in
theorem h0p{kv:List (a0a×a0a)}{k x:a0a}(nd:(kv.map (·.1)).Nodup):((f0k kv k x).map (·.1)).Nodup:=by
 unfold f0k;split
 ·rw[map_map];have e:kv.map ((fun p=>p.1)∘fun p=>if p.1=k then(p.1,x) else p)=kv.map (·.1):=by
   apply map_congr_left;intro p U;show(if p.1=k then(p.1,x) else p).1=p.1
   split <;> rfl
  rw[e];exact nd
 ·rename_i c;rw[map_append,nodup_append];refine⟨nd,by simp,?_⟩;intro a ha b hb;simp only[map_cons,map_nil,mem_singleton]at hb;subst hb;rintro rfl;exact c ha
theorem s0n{xs:List (List Int×Addr×Value)}{k:List Int}{a:Addr}{v:Value}{P:List Int→Addr→Prop}(h1:∀ x∈xs,P x.1 x.2.1)(h2:P k a):∀ x∈storedH xs k a v,P x.1 x.2.1:=by
 intro x hx;cases c:atKey xs k with
 | none=>
  rw[storedH_new c]at hx;rcases mem_append.mp hx with hx | hx
  ·exact h1 x hx
  ·rw[mem_singleton]at hx;subst hx;exact h2
 | some p=>
  rw[storedH_old c]at hx;obtain⟨y,hy,rfl⟩:=mem_map.mp hx;unfold putAt;split <;> exact h1 y hy
theorem q0v{xs:List (List Int×Addr×Value)}{k:List Int}:(atKey xs k).isSome=true↔k∈xs.map (·.1):=by
 unfold atKey;rw[Option.isSome_map,List.find?_isSome,mem_map];constructor
 ·rintro⟨p,hp,hq⟩;exact⟨p,hp,by simpa using hq⟩
 ·rintro⟨p,hp,hq⟩;exact⟨p,hp,by simpa using hq⟩
theorem o0o(a b:List Int)(e:a0a.tup (a.map .int)=a0a.tup (b.map .int)):a=b:=f0g (a0a.tup.inj e)
theorem f1p{x:a0a}{v:Value}(rv:VR B h x v)(k:List Int)(a:Addr){kv:List (a0a×a0a)}{xs:List (List Int×Addr×Value)}(e:kv.map (·.1)=xs.map (fun p=>a0a.tup (p.1.map .int)))(r:VRs B h (kv.map (·.2)) (xs.map (·.2.2))) :
  (f0k kv (.tup (k.map .int)) x).map (·.1)=(storedH xs k a v).map (fun p=>a0a.tup (p.1.map .int))∧VRs B h ((f0k kv (.tup (k.map .int)) x).map (·.2)) ((storedH xs k a v).map (·.2.2)):=by
 have hm:=p0w (f:=fun l:List Int=>a0a.tup (l.map .int)) o0o e k;unfold f0k;cases c:atKey xs k with
 | none=>
  have hn:k∉xs.map (·.1):=fun z=>by have:=q0v.mpr z;rw[c]at this;cases this
  rw[storedH_new c,if_neg (fun z=>hn (hm.mp z))];refine⟨by simp[e],?_⟩;rw[map_append,map_append];exact r.append (VRs.one rv)
 | some p0=>
  have hn:k∈xs.map (·.1):=q0v.mp (by rw[c];rfl);rw[storedH_old c,if_pos (hm.mpr hn)];exact c1l (f:=fun l:List Int=>a0a.tup (l.map .int)) o0o rv k (·.2.2) (putAt k v) (fun q=>by unfold putAt;split <;> rfl) (fun q z=>by unfold putAt;rw[if_pos z]) (fun q z=>by unfold putAt;rw[if_neg z]) e r _
end
section
variable {C:Cx}{H H':MH}{s:Shared}{h':Heap}{n:Nat}{A:Around}
theorem d1w.put(S:St C H s.heap){a:Addr}{o o':j0u}{Q:MH→Prop}(q:H a=some o)(no:∀ b,o≠.hid b)(sb:Heap.SameBut a s.heap h')
  (r:a0k s.heap h'→g0p C.prog C.w C.ca C.B (upd H a o') h' a o') (z:Q (upd H a o')) (tk:Nat):d1w C H s Q () { s with heap:=h',toks:=tk }:=
 (Mac.i7_3 h' tk (upd H a o') rfl (TrE.put S.ok S.hL S.ns q sb) (S.ok.put q no sb r) z)
theorem g0g{o:Obj}{es:Array DictEntry}{ep:Nat}(x:o.ExactDict)(d:o.data=.dict es ep):o=dictOf es.toList ep:=by
 obtain⟨c,dd,dt,sl⟩:=o;obtain⟨x1,x2,x3⟩:=x;dsimp only at x1 x2 x3 d;subst x1 x2 x3 d;rfl
set_option tactic.hygienic true in
theorem u0t(S:St C H s.heap)(R:d0t A n){x y z:a0a}{u v w:Value}(r1:VR C.B s.heap x u)(r2:VR C.B s.heap y v)(r3:VR C.B s.heap z w){Q:MH→Prop}(q:l1j x y z H Q) :
  wpAny (model C.prog C.w) A (setItem u v w) (d1w C H s Q) NoE s:=by
 cases x <;> try exact q.elim
 rename_i a;rw[show u=.ref a from r1];cases q with
  | lst l ho q=>
   obtain⟨i,e,q0,q1,q2,q3⟩:=q;subst e;obtain⟨t,rfl⟩:=r2;obtain⟨vs,n,g,r⟩:=S.ok.objs _ _ ho;have hlen:=r.length;unfold LIM at q2;refine ki_setAt (items:=vs.toArray) (n:=n) g q0 (by omega) (by rw[size_toArray];omega) ?_;refine d1w.put S ho (fun U e=>nomatch e) (Heap.SameBut.update ..) (fun kt=>?_) q3 s.toks;have e:vs.toArray.setIfInBounds i.toNat w=(vs.set i.toNat w).toArray:=by apply Array.toList_inj.mp;simp
   have g2:=get?_update_seq (c:="list") (xs:=vs.toArray) (n:=n) g (·.setIfInBounds i.toNat w);rw[e]at g2;exact g0p.mkList g2 ((r.set r3).mono kt)
  | dic kd kv ep ho q=>
   obtain⟨hk,hl,q⟩:=q;have o:=S.ok.objs _ _ ho;have hs:=e0k o;have nd:=o.2.1;unfold LIM at hl;rcases g0k hk o.1.2.1 with⟨e,i,e'⟩ | ⟨e,i,e'⟩ | ⟨e,i,e'⟩ <;> subst e e'
   ·obtain⟨t,rfl⟩:=r2;obtain⟨kvs,a1,a2,a3⟩:=c0h o;have hl2:=a0j a1;refine wpAny_setItem_pairs (knd:=intKind C.prog C.w) (intKind_is _ _ i t) (DictAt.of a3) (fun h' d sb=>?_) (by rw[sizeLine_eq];omega);obtain⟨ob,es,ep',g1,g2,g3,g4,g5,g6⟩:=d;refine d1w.put (o':=.dict 1 (f0k kv (.int i) z) ep') S ho (fun U e=>nomatch e) sb (fun kt=>?_) (q ep') _;obtain⟨b1,b2⟩:=c1m (f:=a0a.int) (fun a b q=>a0a.int.inj q) r3 i a1 a2;exact⟨(Mac.i3_0 hs (by decide) (by decide)),h0p nd,es.toList,g1.trans (congrArg some (g0g g2 g3)),d0u.of1 b1 (b2.mono kt) g5 fun e he=>g4 e (by simpa using he)⟩
   ·obtain⟨t,rfl⟩:=r2;obtain⟨kvs,a1,a2,a3⟩:=c0t o;have hl2:=a0j a1;refine wpAny_setItem_pairs (knd:=strKind C.prog C.w) (strKind_is _ _ i t) (DictAt.of a3) (fun h' d sb=>?_) (by rw[sizeLine_eq];omega);obtain⟨ob,es,ep',g1,g2,g3,g4,g5,g6⟩:=d;refine d1w.put (o':=.dict 2 (f0k kv (.str i) z) ep') S ho (fun U e=>nomatch e) sb (fun kt=>?_) (q ep') _;obtain⟨b1,b2⟩:=c1m (f:=a0a.str) (fun a b q=>a0a.str.inj q) r3 i a1 a2;exact⟨(Mac.i3_0 hs (by decide) (by decide)),h0p nd,es.toList,g1.trans (congrArg some (g0g g2 g3)),d0u.of2 b1 (b2.mono kt) g5 fun e he=>g4 e (by simpa using he)⟩
   ·obtain⟨b,rfl,hb⟩:=q0l (prog:=C.prog) (w:=C.w) r2;obtain⟨xs,a1,a2,a3,a4⟩:=l0k o;have hl2:=a0j a1;have hu:=R.cl;refine wpAny_setItem_heap (knd:=tupleKind (intKind C.prog C.w)) (by show A.units+1<cLine;omega) hb a3 (fun h' d sb=>?_) (by rw[sizeLine_eq];omega);obtain⟨ob,es,ep',g1,g2,g3,g4,g5,g6⟩:=d;refine d1w.put (o':=.dict 3 (f0k kv (.tup (i.map .int)) z) ep') S ho (fun U e=>nomatch e) sb (fun kt=>?_) (q ep') _;obtain⟨b1,b2⟩:=f1p r3 i b a1 a2;refine⟨(Mac.i3_0 hs (by decide) (by decide)),h0p nd,es.toList,g1.trans (congrArg some (g0g g2 g3)),?_⟩;rw[g4];exact d0u.of3 b1 (b2.mono kt) (s0n (P:=fun l c=>VR C.B h' (.tup (l.map .int)) (.ref c)) (fun x hx=>(a4 x hx).mono kt) (r2.mono kt))
end
section
variable {prog:Program}{w:World}{A:Around}{E:Value→Shared→Prop}{s:Shared}
theorem y0e{D:Addr}{vs:List Value}{ns:List Int}{c:Nat}{Q:Value→Shared→Prop}(g:s.heap.get? D=some (b0n vs c))(hi:IntsAre vs ns)(hl:vs.length≤LIM)
  (h:∀ out ns' h' e,IntsAre out ns'→o0t ns ns'→(∀ b o,b≠D→s.heap.get? b=some o→h'.get? b=some o)→h'.get? D=some (b0n out e)→Q .none { s with heap:=h' }) :
  wpAny (model prog w) A (call (.builtin "list.sort") [.ref D]) Q E s:=by
 refine wpAny_call_entry slot_list_sort (Mac.i3_1 _ g rfl) entry_list_sort (MineS.c1w (n:=c) g hi hl fun out ns' h1 h2 h3=>(Mac.i3_1 .none rfl ?_)) (args_list_sort _);obtain⟨e,he⟩:=MineS.s0j (s:=s) (out:=out.toArray) g;exact h out ns' _ e h1 ⟨h2,h3⟩ (fun b o hb q=>MineS.m0u hb q) he
theorem u0m{B h:Heap}{p:Int×Int}{v:Value}(r:VR B h (h0o p) v):MineS.IsPair h v p:=by
 obtain⟨a,us,n,rfl,g,v1,r1,rfl,⟨t,rfl⟩,v2,r2,rfl,⟨u,rfl⟩,e⟩:=r;cases(show r2=[] from e);exact⟨a,t,u,n,rfl,g⟩
theorem w0n{B h:Heap}:∀ {ps:List (Int×Int)} {vs:List Value},VRs B h (ps.map h0o) vs→vs.map (MineS.e0j h)=ps∧∀ v∈vs,∃ p∈ps,VR B h (h0o p) v
 | [],vs,r=>by cases(show vs=[] from r);exact⟨rfl,fun v hv=>by simp at hv⟩
 | p::ps,vs,⟨v,r,e,a,b⟩=>by
  subst e;obtain⟨h1,h2⟩:=w0n b;refine⟨by rw[map_cons,(u0m a).of,h1],fun u hu=>?_⟩;rcases mem_cons.mp hu with rfl | hu
  ·exact⟨p,.head _,a⟩
  ·obtain⟨q,hq,z⟩:=h2 u hu;exact⟨q,.tail _ hq,z⟩
theorem h1i{B h:Heap}:∀ {vs:List Value},(∀ v∈vs,∃ p,VR B h (h0o p) v)→VRs B h ((vs.map (MineS.e0j h)).map h0o) vs
 | [],_=>rfl
 | v::vs,z=>by
  obtain⟨p,hp⟩:=z v (.head _);refine⟨v,vs,rfl,?_,h1i fun u hu=>z u (.tail _ hu)⟩;rw[(u0m hp).of];exact hp
theorem r0l{h h':Heap}:∀ {vs:List Value},(∀ v∈vs,∃ p,MineS.IsPair h v p)→(∀ b o,o.cls=.type "tuple"→h.get? b=some o→h'.get? b=some o)→∃ fs:List Value,KatTups h' vs fs∧fs.length=vs.length∧∀ f∈fs,∃ i t,f=.int i t
 | [],_,_=>(Mac.i4_1 [] trivial rfl (fun f hf=>by simp at hf))
 | v::vs,z,hk=>by
  obtain⟨fs,h1,h2,h3⟩:=r0l (vs:=vs) (fun u hu=>z u (.tail _ hu)) hk;obtain⟨p,a,t,u,n,rfl,g⟩:=z v (.head _);refine⟨.int p.1 t::fs,KatTups.cons (hk _ _ rfl g) rfl rfl rfl h1,by simp[h2],fun f hf=>?_⟩;rcases mem_cons.mp hf with rfl | hf
  ·exact⟨_,_,rfl⟩
  ·exact h3 f hf
theorem u0c{B:Heap}{D:Addr}{vs:List Value}{ps:List (Int×Int)}{c:Nat}{Q:Value→Shared→Prop}(g:s.heap.get? D=some (b0n vs c))(hi:VRs B s.heap (ps.map h0o) vs)(hl:vs.length≤LIM)(hp:∀ p∈ps,0≤p.2∧p.2<1000)(hu:A.units+64<cLine)
  (h:∀ out ps' h' e,VRs B s.heap (ps'.map h0o) out→h0x ps ps'→(∀ b o,b≠D→s.heap.get? b=some o→h'.get? b=some o)→h'.get? D=some (b0n out e)→Q .none { s with heap:=h' }) :
  wpAny (model prog w) A (call (.builtin "list.sort") [.ref D]) Q E s:=by
 obtain⟨hm,hvr⟩:=w0n hi;have hv:∀ v∈vs,∃ p,MineS.IsPair s.heap v p∧0≤p.2∧p.2<1000:=fun v z=>by
  obtain⟨p,hpp,r⟩:=hvr v z;exact⟨p,u0m r,hp p hpp⟩
 have hk:∀ (b:Addr) (o:Obj),o.cls=.type "tuple"→s.heap.get? b=some o→(MineS.g0t s.heap D vs).get? b=some o:=fun b o ho q=>by
  refine MineS.l0x ?_ q;clear h;rintro rfl;rw[g]at q;cases q;injection ho with ho;exact absurd ho (by decide)
 refine wpAny_call_entry slot_list_sort (Mac.i3_1 _ g rfl) entry_list_sort (MineS.i0q (n:=c) (κ:=MineS.kPairs) (f:=MineS.pf s.heap) g hl (fun h2 Q' q=>?_) (fun U=>MineS.e1n hv hk) fun out hpm hs=>(Mac.i3_1 .none rfl ?_)) (args_list_sort _)
 ·obtain⟨fs,f1,f2,f3⟩:=r0l (fun v z=>(hv v z).imp fun U z=>z.1) hk;exact kat_kind (T:=.type "int") f1 (by omega) (fun v hvf=>by
   obtain⟨i,t,rfl⟩:=f3 v hvf;exact Looks.of_pure rfl) rfl q
 ·have hl':out.toList.Perm (vs.zip vs):=by rw[← pairsOf_toList];exact Array.perm_iff_toList_perm.mp hpm
  have hd:∀ x∈out.toList,x.1=x.2∧x.1∈vs:=fun x hx=>mem_zip_self (hl'.mem_iff.mp hx);have e1:out.map (·.2)=(out.toList.map (·.2)).toArray:=by
   apply Array.toList_inj.mp;rw[Array.toList_map]
  have hpv:(out.toList.map (·.2)).Perm vs:=by
   have:=hl'.map (·.2);rw[List.map_snd_zip (Nat.le_refl _)]at this;exact this
  rw[e1];obtain⟨e,he⟩:=MineS.s0j (s:=s) (out:=(out.toList.map (·.2)).toArray) g;refine h (out.toList.map (·.2)) ((out.toList.map (·.2)).map (MineS.e0j s.heap)) _ e (h1i fun v z=>?_) ⟨?_,?_⟩ (fun b o hb q=>MineS.m0u hb q) he
  ·obtain⟨p,U,r⟩:=hvr v (hpv.mem_iff.mp z);exact⟨p,r⟩
  ·have:=hpv.map (MineS.e0j s.heap);rw[hm]at this;exact this
  ·rw[map_map,pairwise_map];refine List.Pairwise.imp_of_mem (fun {x y} hx hy z=>?_) hs;obtain⟨dx,mx⟩:=hd x hx;obtain⟨dy,my⟩:=hd y hy;obtain⟨p,ip,p1,p2⟩:=hv _ mx;obtain⟨r,ir,r1,r2⟩:=hv _ my;have z':(MineS.e0j s.heap x.1).1*1000+(MineS.e0j s.heap x.1).2≤(MineS.e0j s.heap y.1).1*1000+(MineS.e0j s.heap y.1).2:=z;show w0d (MineS.e0j s.heap x.2) (MineS.e0j s.heap y.2)=true;rw[← dx,←dy];rw[ip.of,ir.of]at z' ⊢;unfold w0d f0r;have a1:¬ r.1<p.1:=by omega
   have a2:¬ (r.1=p.1∧r.2<p.2):=by omega
   rw[decide_eq_false a1];by_cases h1:r.1=p.1
   ·have a3:¬ r.2<p.2:=fun z=>a2 ⟨h1,z⟩;rw[decide_eq_false a3];simp
   ·rw[decide_eq_false h1];rfl
end
theorem VR.inj{B h:Heap}(b:∀ a o,B.get? a=some o→h.get? a=some o):∀ (n k:Nat) (d e:a0a) (v:Value),a0v n d=true→a0v k e=true→VR B h d v→VR B h e v→d=e:=fun n k d e v hd he r q=>by
 classical
 obtain⟨as,ra⟩:=c0w b n d v hd r;obtain⟨bs,rb⟩:=c0w b k e v he q;have z:=h0b hd he;rw[← (ra.unique _ _ rb).1,h0b hd hd,decide_eq_true rfl]at z;exact of_decide_eq_true z.symm
section
variable {C:Cx}{H H':MH}{s:Shared}{h':Heap}{n:Nat}{A:Around}
theorem b0x{l:Addr}{vs:List Value}{k:Nat}{h:Heap}(g:h.get? l=some (b0n vs k)):h.IsList l vs.toArray:=⟨_,g,rfl,_,rfl⟩
theorem r0q{D:Addr}{o:Obj}(F:Fr g0b C.L h' C.mp)(N:News g0b C.L h' ((D,o)::d0m s.heap C.L)):b0c C.L C.mp s.heap h':=f0d F N fun p z=>.tail _ z
theorem r0o{D:Addr}(S:St C H s.heap)(hD:∀ q∈d0m s.heap C.L,q.1<D)(hd:D≠C.L):s.heap.get? D=none:=by
 cases q:s.heap.get? D with
 | none=>rfl
 | some o=>exact absurd (hD _ (b0d.mpr ⟨q,hd⟩)) (Nat.lt_irrefl _)
theorem k0z(S:St C H s.heap){D:Addr}{vs:List Value}{l:List a0a}{c:Nat}{Q:a0d}{tk:Nat}(F:Fr g0b C.L h' C.mp)(N:News g0b C.L h' ((D,W.listOf vs.toArray c)::d0m s.heap C.L))(hD:∀ q∈d0m s.heap C.L,q.1<D)
  (r:VRs C.B s.heap l vs) (q:d0v (.list l) H Q):Pst C H s Q (.ref D) { s with heap:=h',toks:=tk }:=by
 have g:=r0q (s:=s) F N;have n1:=N _ (.head _);exact Pst.alloc S g (r0o S hD n1.2.1) (g0p.mkList n1.1 (r.mono (g.tups S.ok S.hL))) q tk
theorem t0z{K:Type}[DecidableEq K]{prog:Program}{w:World}{B h:Heap}{knd:PySem.KeyKind prog w K}{f:K→a0a}(hf:∀ k v,knd.is k v=true→VR B h (f k) v){kv:List (a0a×a0a)}{kvs:List (K×Value)}(e:kv.map (·.1)=kvs.map (fun p=>f p.1))
  {vs:List Value} (hl:vs.length=kvs.length) (hv:∀ (j:Nat) v,vs[j]?=some v→∃ k x,kvs[j]?=some (k,x)∧knd.is k v=true):VRs B h (kv.map (·.1)) vs:=by
 have hlen:kv.length=kvs.length:=a0j e;refine VRs.ofFn (by rw[hl,lmp,hlen]) fun i x v hx hv'=>?_;obtain⟨k,y,h1,h2⟩:=hv i v hv';rw[e,gmp,h1]at hx;simp only[map_some,Option.some.injEq]at hx;rw[← hx];exact hf k v h2
theorem b1a{prog:Program}{w:World}{B h:Heap}(k:Int)(v:Value)(q:(intKind prog w).is k v=true):VR B h (.int k) v:=by
 have q:v.isInt k=true:=q;cases v <;> simp[Value.isInt]at q;subst q;exact⟨_,rfl⟩
theorem h1e{prog:Program}{w:World}{B h:Heap}(k:Str)(v:Value)(q:(strKind prog w).is k v=true):VR B h (.str k) v:=by
 have q:v.isStrOf k=true:=q;cases v <;> simp[Value.isStrOf]at q;subst q;exact⟨_,rfl⟩
set_option tactic.hygienic true in
theorem f1g(S:St C H s.heap)(R:d0t A n){x:a0a}{v:Value}(r:VR C.B s.heap x v){Q:a0d}(q:biP .list [x] H Q):wpAny (model C.prog C.w) A (call (.type "list") [v]) (Pst C H s Q) NoE s:=by
 unfold biP at q;cases x <;> try exact q.elim
 case tup l=>
  obtain⟨a,vs,k,rfl,g,r⟩:=r;obtain⟨hl,q⟩:=q;have hm:(a,a0l vs k)∈d0m s.heap C.L:=b0d.mpr ⟨g,fun z=>S.ok.frmN (a:=a) (z▸S.hL) vs k g⟩;refine kup_listOfT (k0s S.ns) (c0v s.heap C.L) hm (zs:=vs) (by simp) (fun D c h' F N hD=>?_) (by show vs.length≤sizeLine;rw[r.length,sizeLine_eq];exact hl);exact k0z S F N hD r q
 case ref a=>
  rw[show v=.ref a from r];cases q with
   | lst l ho q=>
    obtain⟨hl,q⟩:=q;obtain⟨vs,k,g,r⟩:=S.ok.objs _ _ ho;have hm:(a,b0n vs k)∈d0m s.heap C.L:=b0d.mpr ⟨g,fun z=>by have:=(S.ok.frm _ S.hL).1;rw[← z,ho]at this;cases this⟩;refine kup_listOf (k0s S.ns) (c0v s.heap C.L) hm (zs:=vs) (by simp) (fun D c h' F N hD=>?_) (by show vs.length≤sizeLine;rw[r.length,sizeLine_eq];exact hl);exact k0z S F N hD r q
   | dic kd kv ep ho q=>
    obtain⟨hkd,hl,q⟩:=q;rw[lmp]at hl;have o:=S.ok.objs _ _ ho;have nd:=o.2.1;obtain⟨h1,h2,h3⟩:=o.1;have:kd=1∨kd=2:=by omega
    clear ho hkd h2 h3;rcases this with rfl | rfl
    ·obtain⟨kvs,a1,a2,a3⟩:=c0h o;have e:=a0j a1;refine kdl_N (kdl_dict (knd:=intKind C.prog C.w) h1) R.hd (k0s S.ns) (c0v s.heap C.L) a3 (by rw[← e,sizeLine_eq];exact hl) fun D c h' tk vs F N hD hv hp=>?_;exact k0z S F N hD (t0z (f:=a0a.int) b1a a1 hv hp) q
    ·obtain⟨kvs,a1,a2,a3⟩:=c0t o;have e:=a0j a1;refine kdl_N (kdl_dict (knd:=strKind C.prog C.w) h1) R.hd (k0s S.ns) (c0v s.heap C.L) a3 (by rw[← e,sizeLine_eq];exact hl) fun D c h' tk vs F N hD hv hp=>?_;exact k0z S F N hD (t0z (f:=a0a.str) h1e a1 hv hp) q
set_option tactic.hygienic true in
theorem j1j(S:St C H s.heap)(R:d0t A n){x:a0a}{v:Value}(r:VR C.B s.heap x v){Q:a0d}(q:biP .len [x] H Q):wpAny (model C.prog C.w) A (call (.builtin "len") [v]) (Pst C H s Q) NoE s:=by
 unfold biP at q;cases x <;> try exact q.elim
 case tup l=>
  obtain⟨a,vs,k,rfl,g,r⟩:=r;obtain⟨hl,q⟩:=q;unfold LIM at hl;have e:=r.length;refine len_tuple (items:=vs.toArray) ⟨_,g,rfl,_,rfl⟩ (by rw[size_toArray];omega) ?_;rw[size_toArray,e];exact Pst.same S (VR.mkInt _ _) q _
 case ref a=>
  rw[show v=.ref a from r];cases q with
   | lst l ho q=>
    obtain⟨hl,q⟩:=q;obtain⟨vs,k,g,r⟩:=S.ok.objs _ _ ho;have e:=r.length;refine Calls.call_len_list (b0x g) (by rw[size_toArray];omega) ?_;rw[size_toArray,e];exact Pst.same S (VR.mkInt _ _) q _
   | dic kd kv ep ho q=>
    obtain⟨hkd,hl,q⟩:=q;unfold LIM at hl;have o:=S.ok.objs _ _ ho;obtain⟨h1,h2,h3⟩:=o.1;have:kd=1∨kd=2:=by omega
    clear ho hkd h2 h3;rcases this with rfl | rfl
    ·obtain⟨kvs,a1,a2,a3⟩:=c0h o;have e:=a0j a1;refine call_len_dict (knd:=intKind C.prog C.w) h1 (DictAt.of a3) (by omega) ?_;rw[← e];exact Pst.same S (VR.mkInt _ _) q _
    ·obtain⟨kvs,a1,a2,a3⟩:=c0t o;have e:=a0j a1;refine call_len_dict (knd:=strKind C.prog C.w) h1 (DictAt.of a3) (by omega) ?_;rw[← e];exact Pst.same S (VR.mkInt _ _) q _
set_option tactic.hygienic true in
theorem d1h(S:St C H s.heap)(R:d0t A n){x:a0a}{v:Value}(r:VR C.B s.heap x v){Q:a0d}(q:biP .tuple [x] H Q):wpAny (model C.prog C.w) A (call (.type "tuple") [v]) (Pst C H s Q) NoE s:=by
 cases x <;> try exact q.elim
 case ref a=>
  rw[show v=.ref a from r];obtain⟨l,ho,hl,q⟩:=q;obtain⟨vs,k,g,r⟩:=S.ok.objs _ _ ho;refine call_tuple_list (b0x g) (fun h1 k1=>?_) (by rw[size_toArray,r.length,sizeLine_eq];exact hl);have g2:b0c C.L C.mp s.heap (h1.push (a0l vs 0)):=b0c.of S.ns fun a o e=>Heap.get?_push_of_some _ (k1 _ _ e);exact Pst.grown S g2 (VR.mkTup (Heap.get?_push_size _ rfl) (r.mono (g2.tups S.ok S.hL))) q s.toks
set_option tactic.hygienic true in
theorem k1g(S:St C H s.heap)(R:d0t A n){x:a0a}{v:Value}(r:VR C.B s.heap x v){Q:a0d}(q:biP .sum [x] H Q):wpAny (model C.prog C.w) A (call (.builtin "sum") [v]) (Pst C H s Q) NoE s:=by
 cases x <;> try exact q.elim
 case ref a=>
  rw[show v=.ref a from r];obtain⟨ns,ho,q⟩:=q;obtain⟨vs,k,g,r⟩:=S.ok.objs _ _ ho;refine LSm.sum_ints (k0s S.ns) (c0v s.heap C.L) R.hd (b0x g) r.ints fun h' tk t' F N=>?_;exact Pst.grown S (f0d F N fun p z=>z) (VR.mkInt _ _) q tk
set_option tactic.hygienic true in
theorem h1s(S:St C H s.heap)(R:d0t A n){x:a0a}{v:Value}(r:VR C.B s.heap x v){Q:a0d}(q:biP .abs [x] H Q):wpAny (model C.prog C.w) A (call (.builtin "abs") [v]) (Pst C H s Q) NoE s:=by
 cases x <;> try exact q.elim
 case int i=>
  obtain⟨t,rfl⟩:=r;refine call_abs_int fun u tk=>?_;have e:(if i<0 then -i else i)=(i.natAbs:Int):=by split <;> omega
  rw[e];exact Pst.same S (VR.mkInt _ _) q _
set_option tactic.hygienic true in
theorem j1b(S:St C H s.heap)(R:d0t A n){x:a0a}{v:Value}(r:VR C.B s.heap x v){Q:a0d}(q:biP .int [x] H Q):wpAny (model C.prog C.w) A (call (.type "int") [v]) (Pst C H s Q) NoE s:=by
 cases x <;> try exact q.elim
 case int i=>obtain⟨t,rfl⟩:=r;exact call_int_int (Pst.here S (VR.mkInt _ _) q)
 case bool b=>rw[show v=.bool b from r];exact call_int_bool (Pst.same S (VR.mkInt _ _) q _)
theorem s0k(S:St C H s.heap){l:Addr}{vs:List Value}{Q:Value→Shared→Prop}{o:Obj}{T:String}{k:Nat}(hT:T = "list"∨T = "tuple")(g:s.heap.get? l=some o)(hc:o.cls=.type T)(hd:o.data=.seq vs.toArray k)(hl:vs.length≤LIM)
  (h:∀ D h',b0c C.L C.mp s.heap h'→h'.get? D=some (b0n vs 0)→s.heap.get? D=none→wpAny (model C.prog C.w) A.in1 (call (.builtin "list.sort") [.ref D]) (fun U s'=>Q (.ref D) s') NoE { s with heap:=h' }) :
  wpAny (model C.prog C.w) A (call (.builtin "sorted") [.ref l]) Q NoE s:=by
 refine Calls.call_function_entry kind_sorted plain_sorted entry_sorted (args_sorted1 _) ?_;unfold Builtin.«sorted»;refine wpAny_bind (m:=checkCount "sorted" 1 1 _) (wpAny_pure ?_);refine wpAny_bind (wpAny_collect_seq l hT g hc hd (fun h1 k1=>?_) (by rw[size_toArray,sizeLine_eq];exact hl));refine wpAny_bind (wpAny_newList ?_ (by rw[sizeLine_eq];exact hl));have k2:∀ b o,s.heap.get? b=some o→(h1.push (b0n vs 0)).get? b=some o:=fun b o e=>Heap.get?_push_of_some _ (k1 _ _ e);refine wpAny_bind (wpAny_holding ?_);refine wpAny_mono (h h1.objs.size (h1.push (b0n vs 0)) (b0c.of S.ns k2) (Heap.get?_push_size _ rfl) ?_) (fun v s' q=>wpAny_pure (Mac.i3_1 _ rfl q)) fun U U e=>e;cases q:s.heap.get? h1.objs.size with
 | none=>rfl
 | some o=>exact absurd (Heap.lt_size (k1 _ _ q)) (Nat.lt_irrefl _)
theorem j0s(S:St C H s.heap)(R:d0t A n){D:Addr}{vs:List Value}{l:List a0a}{tk:Nat}(g:b0c C.L C.mp s.heap h')(e:h'.get? D=some (b0n vs 0))(f:s.heap.get? D=none)(r:VRs C.B s.heap l vs){Q:a0d}(q:m0s l H Q)(hl:l.length≤LIM) :
  wpAny (model C.prog C.w) A.in1 (call (.builtin "list.sort") [.ref D]) (fun U s'=>Pst C H s Q (.ref D) s') NoE { s with heap:=h',toks:=tk }:=by
 have hlen:=r.length;have kt:=g.tups S.ok S.hL;have hDL:D≠C.L:=fun z=>by obtain⟨o,g0⟩:=l0a S.ns;rw[← z,f]at g0;cases g0
 have fin:∀ out l' h2 c,VRs C.B h' l' out→(∀ b o,b≠D→h'.get? b=some o→h2.get? b=some o)→h2.get? D=some (b0n out c)→d0v (.list l') H Q→Pst C H s Q (.ref D) { s with heap:=h2,toks:=tk }:=by
  intro out l' h2 c r2 k2 e2 q2;have g2:b0c C.L C.mp s.heap h2:=by
   refine⟨fun a o na ea=>?_,?_⟩
   ·refine k2 a o ?_ (g.1 a o na ea);clear e hDL k2 e2;rintro rfl;rw[f]at ea;cases ea
   ·obtain⟨o,es,ep,x1,x2⟩:=g.2;exact⟨o,es,ep,k2 _ _ (Ne.symm hDL) x1,x2⟩
  have kt2:a0k h' h2:=fun a vs' n' ea=>k2 a _ (by clear f hDL k2 e2;rintro rfl;rw[e]at ea;have:=congrArg (Option.map Obj.cls) ea;simp at this) ea;exact Pst.alloc S g2 f (g0p.mkList e2 (r2.mono kt2)) q2 tk
 rcases q with⟨ns,rfl,h1,q⟩ | ⟨ps,rfl,h1,h2,q⟩
 ·refine y0e (s:={ s with heap:=h',toks:=tk }) e r.ints (by rw[hlen];exact hl) fun out ns' h2 c i1 i2 i3 i4=>?_;exact fin out (ns'.map .int) h2 c (VRs.ofInts i1) i3 i4 (q ns' i2)
 ·refine u0c (B:=C.B) (s:={ s with heap:=h',toks:=tk }) e (r.mono kt) (by rw[hlen];exact hl) h2 (by have:=R.un;rw[units_in1];unfold cLine;omega) fun out ns' h2 c i1 i2 i3 i4=>?_;exact fin out (ns'.map h0o) h2 c i1 i3 i4 (q ns' i2)
theorem m0t{l:List a0a}{Q:a0d}(q:m0s l H Q):l.length≤LIM:=by
 rcases q with⟨ns,rfl,h1,q⟩ | ⟨ps,rfl,h1,h2,q⟩ <;> simpa using h1
set_option tactic.hygienic true in
theorem y0m(S:St C H s.heap)(R:d0t A n){x:a0a}{v:Value}(r:VR C.B s.heap x v){Q:a0d}(q:biP .sorted [x] H Q):wpAny (model C.prog C.w) A (call (.builtin "sorted") [v]) (Pst C H s Q) NoE s:=by
 unfold biP at q;cases x <;> try exact q.elim
 case tup l=>
  obtain⟨a,vs,k,rfl,g,r⟩:=r;have hl:=m0t q;exact s0k S (.inr rfl) g rfl rfl (by rw[r.length];exact hl) fun D h' g' e f=>j0s S R g' e f r q hl
 case ref a=>
  rw[show v=.ref a from r];cases q with
   | lst l ho q=>
    have hl:=m0t q;obtain⟨vs,k,g,r⟩:=S.ok.objs _ _ ho;exact s0k S (.inl rfl) g rfl rfl (by rw[r.length];exact hl) fun D h' g' e f=>j0s S R g' e f r q hl
   | dic kd kv ep ho q=>
     obtain⟨e,q⟩:=q;subst e;have hl:=m0t q;have hl':=hl;rw[lmp]at hl';have o:=S.ok.objs _ _ ho;obtain⟨kvs,a1,a2,a3⟩:=c0h o;have e:=a0j a1;refine kdu_sorted (kdl_dict (knd:=intKind C.prog C.w) o.1.1) R.hd (k0s S.ns) (c0v s.heap C.L) a3 (by rw[← e,sizeLine_eq];exact hl') fun D h' tk vs F N hD hv hp=>?_;have n1:=N _ (.head _);exact j0s S R (r0q F N) n1.1 (r0o S hD n1.2.1) (t0z (f:=a0a.int) b1a a1 hv hp) q hl
end
section
variable {C:Cx}{H H':MH}{s:Shared}{h':Heap}{n:Nat}{A:Around}
noncomputable def p1v:Bm→String
 | .append=>"list.append" | .extend=>"list.extend" | .get=>"dict.get" | .index=>"list.index"
noncomputable def g1m:Bm→Str
 | .append=>"append" | .extend=>"extend" | .get=>"get" | .index=>"index"
set_option tactic.hygienic true in
theorem x0j(S:St C H s.heap)(R:d0t A n){x y:a0a}{u v:Value}(r1:VR C.B s.heap x u)(r2:VR C.B s.heap y v){Q:a0d}(q:bmP .append x [y] H Q) :
  wpAny (model C.prog C.w) A (call (.builtin "list.append") [u,v]) (Pst C H s Q) NoE s:=by
 unfold bmP at q;cases x <;> try exact q.elim
 rename_i a;rw[show u=.ref a from r1];obtain⟨l,ho,hl,q⟩:=q;obtain⟨vs,k,g,r⟩:=S.ok.objs _ _ ho;refine append_at (its:=vs.toArray) g (fun h' sb e=>?_) (by rw[size_toArray,r.length,sizeLine_eq];unfold LIM at hl;omega);refine Pst.put S ho (fun U z=>nomatch z) sb (fun kt=>g0p.mkList (vs:=vs++[v]) (n:=k+1) ?_ ((r.append (VRs.one r2)).mono kt)) (fun U=>VR.mkNone) q s.toks;rw[e];simp
set_option tactic.hygienic true in
theorem x0r(S:St C H s.heap)(R:d0t A n){x y:a0a}{u v:Value}(r1:VR C.B s.heap x u)(r2:VR C.B s.heap y v){Q:a0d}(q:bmP .extend x [y] H Q) :
  wpAny (model C.prog C.w) A (call (.builtin "list.extend") [u,v]) (Pst C H s Q) NoE s:=by
 unfold bmP at q;cases x <;> try exact q.elim
 cases y <;> try exact q.elim
 rename_i a b;rw[show u=.ref a from r1,show v=.ref b from r2];obtain⟨l,r',hab,ho,ho2,hl,q⟩:=q;unfold LIM at hl;obtain⟨vs,k,g,r⟩:=S.ok.objs _ _ ho;obtain⟨ws,k2,g2,r2⟩:=S.ok.objs _ _ ho2;have e1:=r.length;have e2:=r2.length;have hz:vs.toArray.size+ws.toArray.size≤sizeLine:=by rw[size_toArray,size_toArray,sizeLine_eq];omega
 refine call_meets PySem.F.slot_list_extend (Mac.i3_1 _ g rfl) PySem.F.entry_list_extend (PySem.F.args_list_extend_2 _ _)
  (AutoSeq1.list_extend_list_list_0 a vs.toArray k b ws.toArray k2 (extend_door hz) (Nat.le_trans (Nat.le_add_right _ _) hz) (by omega)) (Mac.i3_0 g g2 ?_)
 have e:=get?_update_seq (c:="list") g (·++ws.toArray);have e3:vs.toArray++ws.toArray=(vs++ws).toArray:=by simp
 rw[e3]at e;exact Pst.put S ho (fun U z=>nomatch z) (Heap.SameBut.update ..) (fun kt=>g0p.mkList (vs:=vs++ws) e ((r.append r2).mono kt)) (fun U=>VR.mkNone) q s.toks
theorem l0j{K:Type}[DecidableEq K]{prog:Program}{w:World}{knd:PySem.KeyKind prog w K}{h:Heap}{a:Addr}{kvs:List (K×Value)}{ep:Nat}(d:h.DictAt knd a kvs ep):∃ o,h.get? a=some o∧Obj.IsDictOf knd o kvs:=by
 obtain⟨o,es,g,r⟩:=d;exact⟨o,g,es,ep,r⟩
set_option tactic.hygienic true in
theorem i1x(S:St C H s.heap)(R:d0t A n){x y z:a0a}{u v t:Value}(r1:VR C.B s.heap x u)(r2:VR C.B s.heap y v)(r3:VR C.B s.heap z t){Q:a0d}(q:bmP .get x [y,z] H Q) :
  wpAny (model C.prog C.w) A (call (.builtin "dict.get") [u,v,t]) (Pst C H s Q) NoE s:=by
 unfold bmP at q;cases x <;> try exact q.elim
 rename_i a;rw[show u=.ref a from r1];obtain⟨kd,kv,ep,ho,hkd,hk,q⟩:=q;have o:=S.ok.objs _ _ ho;have hs:=e0k o;have haL:a≠C.L:=by clear r1 o hs;rintro rfl;have:=(S.ok.frm _ S.hL).1;rw[ho]at this;cases this
 clear ho;rcases g0k hk o.1.2.1 with⟨e,i,e'⟩ | ⟨e,i,e'⟩ | ⟨e,i,e'⟩ <;> subst e e'
 ·obtain⟨tk,rfl⟩:=r2;obtain⟨kvs,a1,a2,a3⟩:=c0h o;obtain⟨ob,g,d⟩:=l0j a3;refine kdg_get2 (c0v s.heap C.L) (b0d.mpr ⟨g,haL⟩) d hs (intKind_is _ _ i tk) _ rfl ?_;rcases d0z (fun a b q=>a0a.int.inj q) i a1 a2 with⟨g1,g2⟩ | ⟨U,U,g1,g2,g3⟩
  ·rw[g1]at q;rw[g2];exact Pst.same S r3 q _
  ·rw[g1]at q;rw[g2];exact Pst.same S g3 q _
 ·obtain⟨tk,rfl⟩:=r2;obtain⟨kvs,a1,a2,a3⟩:=c0t o;obtain⟨ob,g,d⟩:=l0j a3;refine kdg_get2 (c0v s.heap C.L) (b0d.mpr ⟨g,haL⟩) d hs (strKind_is _ _ i tk) _ rfl ?_;rcases d0z (fun a b q=>a0a.str.inj q) i a1 a2 with⟨g1,g2⟩ | ⟨U,U,g1,g2,g3⟩
  ·rw[g1]at q;rw[g2];exact Pst.same S r3 q _
  ·rw[g1]at q;rw[g2];exact Pst.same S g3 q _
 ·omega
open Classical in
set_option tactic.hygienic true in
theorem a1x(S:St C H s.heap)(R:d0t A n){x y:a0a}{u v:Value}(r1:VR C.B s.heap x u)(r2:VR C.B s.heap y v){Q:a0d}(q:bmP .index x [y] H Q) :
  wpAny (model C.prog C.w) A (call (.builtin "list.index") [u,v]) (Pst C H s Q) NoE s:=by
 unfold bmP at q;cases x <;> try exact q.elim
 rename_i a;rw[show u=.ref a from r1];obtain⟨l,k,ho,f1,f2,hl,hi,q⟩:=q;unfold LIM at hl;obtain⟨vs,k0,g,r⟩:=S.ok.objs _ _ ho;have e1:=r.length;unfold d1u at hi;obtain⟨hk,hp,hb⟩:=List.findIdx?_eq_some_iff_getElem.mp hi;have hat:∀ (i:Nat) (h1:i<l.length) (h2:i<vs.length),VR C.B s.heap l[i] vs[i]:=fun i h1 h2=>by
  obtain⟨w,g1,g2⟩:=r.get (geg h1);rw[geg h2]at g1;cases g1;exact g2
 have hfl:∀ (i:Nat) (h1:i<l.length),a0v 8 l[i]=true:=fun i h1=>all_eq_true.mp f2 _ (getElem_mem h1);refine call_meets PySem.F.slot_list_index (Mac.i3_1 _ g rfl) PySem.F.entry_list_index (PySem.F.args_list_index_2 _ _)
  (SeqAt.list_indexAt a vs.toArray k0 none #[] v (fun z=>decide (VR C.B s.heap y z)) k (by rw[size_toArray];omega) (by omega) ?_ ?_) (Mac.i3_0 g (fun z hz=>?_) ?_)
 ·have:=hat k hk (by omega);rw[of_decide_eq_true hp]at this;exact decide_eq_true (by simpa using this)
 ·intro m hm hlt;rw[size_toArray]at hm;have hm':m<l.length:=by omega
  refine decide_eq_false fun z=>?_;have:=VR.inj S.ok.base 8 8 _ _ _ (hfl m hm') f1 (hat m hm' hm) (by simpa using z);exact hb m hlt (decide_eq_true this)
 ·obtain⟨i,hi',rfl⟩:=getElem_of_mem (show z∈vs by simpa using hz);have hm':i<l.length:=by omega
  have h1:=hat i hm' hi';obtain⟨as,q1⟩:=c0w S.ok.base 8 _ _ (hfl i hm') h1;obtain⟨bs,q2⟩:=c0w S.ok.base 8 y _ f1 r2;have hh:=keq_at (A:=A) q1 q2 (d0l (hfl i hm') (by decide)) (d0l f1 (by decide)) (by have:=R.un;rw[units_in1];unfold cLine;omega);rw[h0b (hfl i hm') f1]at hh;have:(decide (l[i]=y))=decide (VR C.B s.heap y vs[i]):=by
   by_cases z:l[i]=y
   ·rw[decide_eq_true z,decide_eq_true (z▸h1)]
   ·rw[decide_eq_false z,decide_eq_false fun w=>z (VR.inj S.ok.base 8 8 _ _ _ (hfl i hm') f1 h1 w)]
  rw[this]at hh;exact hh
 ·exact Pst.same S (VR.mkInt _ _) q _
theorem b1h:typeLookup (.type "list") "keys"=pure none:=am_miss_of_fast (by kernel_rfl)
theorem n1n{a:Addr}{xs:Array Value}{k:Nat}{Q:Option Value→Shared→Prop}{E:Value→Shared→Prop}{prog:Program}{w:World}(hx:s.heap.get? a=some { cls:=.type "list",data:=.seq xs k })(hA:A.handled=none)
  (h:∀ h' tk,(∀ b o,s.heap.get? b=some o→h'.get? b=some o)→Q none { s with heap:=h',toks:=tk }):wpAny (model prog w) A (getAttr? (.ref a) "keys") Q E s:=by
 obtain⟨hp,g,d,tk,os⟩:=s;have hT:∀ tk',(⟨hp,g,d,tk',os⟩:Shared).TypeIs (.ref a) "list":=fun U=>(Mac.i3_1 _ hx rfl);have f1:=sub_AttributeError;have f3:=PySem.F.slot_list_getattribute.lookup;have f4:=PySem.F.slot_list_getattribute.bind (.ref a);have f5:=am_list_getattr_none;have hmiss:=b1h;have hname:(["__module__","__name__","__qualname__","__doc__","__annotations__"]:List Str).contains ("keys":Str)=false:=by decide +kernel
 unfold getAttr? getAttrBy? getAttrBy
 repeat (any_goals (first | assumption | exact hT _ | ((with_reducible show wpAny _ _ (call (Value.builtin "list.__getattribute__") _ _) _ _ _);refine call_meets PySem.F.slot_list_getattribute (hT _) am_entry_list_getattribute (PySem.F.args_list_getattribute_2 _ _) (meets_getattribute_miss_list a xs k #[] "keys" _ hmiss hname (by decide +kernel)) (Mac.i3_0 hx hA (fun h' tk' e hx'=>?_))) | wp_step))
 obtain⟨ob,vs',he,hc,U,U⟩:=hx'.of.there;show wpAny _ _ (getattributeRaised _ _ _ _ _ _ _) _ _ _;have hTe:(⟨h',g,d,tk',os⟩:Shared).TypeIs (.ref e) "AttributeError":=(Mac.i3_1 ob he hc);unfold getattributeRaised hookBehind;refine wpAny_bind (wpAny_isInstance hTe f1 ?_);rw[if_pos rfl];have hoff:onTheHeap (Value.type "list")=false:=by decide
 rw[hoff];simp only[Bool.false_eq_true,if_false];refine wpAny_bind (wpAny_of_eq f5 ?_);unfold hookOrError;unfold attributeErrorLeaves;simp only[Bool.not_false,if_true];refine wpAny_throw ?_;refine wpAny_bind (wpAny_isInstance hTe f1 ?_);rw[if_pos rfl];exact wpAny_pure (h _ _ hx'.of.keeps)
theorem s0t:entryFor table "dict.update.loop"=some Builtin.«dict.update.loop»:=entryFor_of_tree (by kernel_rfl)
theorem i0x:plainId "dict.update.loop"=true:=by decide +kernel
def z0d(h:Heap)(vs:List Value)(kvs:List (Int×Value)):Prop:=
 vs.length=kvs.length∧∀ (i:Nat) v k x,vs[i]?=some v→kvs[i]?=some (k,x)→∃ a t n,v=.ref a∧h.get? a=some (a0l [.int k t,x] n)
theorem s0o{kvs:List (Int×Value)}{k:Int}{v:Value}(h:k∉kvs.map (·.1)):stored kvs k v=kvs++[(k,v)]:=by
 unfold stored;rw[if_neg];intro z;exact h ((t0d kvs k).mp z)
theorem g1c{prog:Program}{w:World}{A:Around}{R:Result→Shared→Prop}(hh:A.handled=none){d it l:Addr}{vs:List Value}{k0:Nat}{kvs:List (Int×Value)}(nd:(kvs.map (·.1)).Nodup)(hl:vs.length≤LIM)(hdl:d≠l)(hdi:d≠it)(hil:it≠l) :
  ∀ (j i:Nat) (s:Shared),kvs.length-i=j→i≤kvs.length→s.heap.IsListIter it l i→s.heap.get? l=some (b0n vs k0)→z0d s.heap vs kvs→(∀ a x n,s.heap.get? a=some (a0l x n)→a≠d∧a≠it)→s.heap.DictOf (intKind prog w) d (kvs.take i)→
   (∀ h' tk,h'.DictOf (intKind prog w) d kvs→(∀ b o,b≠d→b≠it→s.heap.get? b=some o→h'.get? b=some o)→R (.ok (.ret .none)) { s with heap:=h',toks:=tk })→
   codeAny (model prog w) A (.builtin "dict.update.loop" ⟨[.ref d,.ref it,rawInt i,.none],[]⟩) R s:=by
 intro j
 induction j with
 | zero=>
  intro i s hj hi hit hL hP hT hD k;have hi':i=kvs.length:=Nat.le_antisymm hi (Nat.le_of_sub_eq_zero hj);clear hj hi;subst hi';refine codeAny_builtin s0t ?_;unfold Builtin.«dict.update.loop»;refine wpAny_bind (wpAny_pyNext_list_end (A:=A.under _) ?_ hit ⟨_,hL,rfl,_,rfl⟩ ?_ fun h' hx=>?_)
  ·rw[Around.under_plainId i0x _];exact hh
  ·have:=hP.1;simp[this]
  ·dsimp only;refine wpAny_bind (m:=Builtin.Dict.addKeywords d []) (wpAny_pure ?_);refine wpAny_pure ?_;rw[take_length]at hD;refine k h' s.toks (hD.extBut hx hdi) fun b o U hb e=>hx b o hb e
 | succ j ih=>
  intro i s hj hi hit hL hP hT hD k;have hi1:i<kvs.length:=Nat.lt_of_sub_pos (hj▸Nat.succ_pos j);have hi2:i<vs.length:=by rw[hP.1];exact hi1
  refine codeAny_builtin s0t ?_;rw[Around.under_plainId i0x _];unfold Builtin.«dict.update.loop»;obtain⟨a,t,n,ea,ga⟩:=hP.2 i vs[i] kvs[i].1 kvs[i].2 (geg hi2) (geg hi1);have hTa:=hT _ _ _ ga;refine wpAny_bind (wpAny_pyNext_list_item (A:=A.in1) hit ⟨_,hL,rfl,_,rfl⟩ (x:=vs[i]) (by simp[hi2]) fun h1 hit1 hs1=>?_);dsimp only;rw[ea];have ga1:h1.get? a=some (a0l [.int kvs[i].1 t,kvs[i].2] n):=(hs1.2 a hTa.2).trans ga;have hD1:=hD.sameBut hs1 hdi;have hnk:kvs[i].1∉(kvs.take i).map (·.1):=by
   rw[map_take];exact c0o nd (by rw[gmp,geg hi1];rfl)
  refine wpAny_bind (wpAny_holding (wpAny_bind (wpAny_tryCatch ?_)));unfold Builtin.Dict.pairItems;refine wpAny_bind (wpAny_typeOf (T:="tuple") (Mac.i3_1 _ ga1 rfl) ?_);rw[if_pos (by decide)];refine wpAny_bind (wpAny_seqItems ga1 rfl (wpAny_pure ?_));dsimp only[Option.getD];refine wpAny_holding ?_;refine wpAny_dictSet_pairs (knd:=intKind prog w) (intKind_is _ _ _ _) hD1 (fun h2 hd2 hs2=>?_) (by rw[length_take,sizeLine_eq];have:=hP.1;unfold LIM at hl;omega);rw[s0o hnk]at hd2;have etake:kvs.take i++[(kvs[i].1,kvs[i].2)]=kvs.take (i+1):=(List.take_append_getElem hi1);rw[etake]at hd2;refine wpAny_pure ?_;refine⟨plainId_quiet i0x _,?_⟩;have hc:((i:Int)+1)=((i+1:Nat):Int):=by push_cast;rfl
  show codeAny _ _ (.builtin "dict.update.loop" ⟨[.ref d,.ref it,rawInt ((i:Int)+1),.none],[]⟩) _ _;rw[hc];have up:∀ b,b≠d→b≠it→h2.get? b=s.heap.get? b:=fun b n1 n2=>(hs2.2 b n1).trans (hs1.2 b n2);have tb:∀ b x m,h2.get? b=some (a0l x m)→b≠d∧b≠it:=by
   intro b x m gb;constructor
   ·clear hdl hdi ih hT hD k hTa hD1 hs2 up;rintro rfl;obtain⟨ob,es,ep,g1,g2,U⟩:=hd2;rw[g1]at gb;cases gb;have:=g2.1;simp at this
   ·clear hil ih hit hT k hTa hs1 up;rintro rfl;obtain⟨oi,g1,g2,U⟩:=hit1;rw[hs2.2 b (Ne.symm hdi),g1]at gb;cases gb;simp at g2
  refine ih (i+1) _ (by rw[Nat.sub_succ,hj];rfl) hi1 ?_ ?_ ?_ tb hd2 fun h' tk hd' hk'=>?_
  ·obtain⟨oi,g1,g2⟩:=hit1;exact⟨oi,(hs2.2 it (Ne.symm hdi)).trans g1,g2⟩
  ·exact(up l (Ne.symm hdl) (Ne.symm hil)).trans hL
  ·refine⟨hP.1,fun i' v k' x' e1 e2=>?_⟩;obtain⟨a',t',n',e3,e4⟩:=hP.2 i' v k' x' e1 e2;have:=hT _ _ _ e4;exact⟨a',t',n',e3,(up a' this.1 this.2).trans e4⟩
  ·exact k h' tk hd' fun b o n1 n2 e=>hk' b o n1 n2 ((up b n1 n2).trans e)
set_option tactic.hygienic true in
theorem e1s(S:St C H s.heap)(R:d0t A n){x:a0a}{v:Value}(r:VR C.B s.heap x v){Q:a0d}(q:biP .dict [x] H Q):wpAny (model C.prog C.w) A (call (.type "dict") [v]) (Pst C H s Q) NoE s:=by
 unfold biP at q;cases x <;> try exact q.elim
 rename_i a;rw[show v=.ref a from r];obtain⟨ps,ho,hl,nd,q⟩:=q;obtain⟨vs,k0,g,r⟩:=S.ok.objs _ _ ho;have hlen:=r.length;rw[lmp]at hlen;have hP:∃ kvs:List (Int×Value),ps.map (fun p=>a0a.int p.1)=kvs.map (fun p=>a0a.int p.1)∧VRs C.B s.heap (ps.map fun p=>a0a.int p.2) (kvs.map (·.2))∧z0d s.heap vs kvs:=by
  clear ho nd q g hl hlen
  induction ps generalizing vs with
  | nil=>rw[show vs=[] from r];exact⟨[],rfl,rfl,rfl,fun i v k x e=>by simp at e⟩
  | cons p ps ih=>
   obtain⟨v,r',rfl,⟨a',us,n',e1,g1,r1⟩,r2⟩:=r;obtain⟨u1,w1,rfl,⟨t1,rfl⟩,u2,w2,rfl,⟨t2,rfl⟩,r3⟩:=r1;rw[show w2=[] from r3]at g1;obtain⟨kvs,h1,h2,h3,h4⟩:=ih _ r2;refine⟨(p.1,.int p.2 t2)::kvs,by rw[map_cons,map_cons,h1],(Mac.i5_2 _ _ rfl ⟨t2,rfl⟩ h2),by simp[h3],?_⟩;intro i v k x e2 e3;cases i with
   | zero=>
    simp only[getElem?_cons_zero,Option.some.injEq]at e2 e3;cases e3;subst e2;exact⟨a',t1,n',e1,g1⟩
   | succ i=>
    simp only[getElem?_cons_succ]at e2 e3;exact h4 i v k x e2 e3
 obtain⟨kvs,k1,k2,k3⟩:=hP;have kk:kvs.map (·.1)=ps.map (·.1):=by
  have:(kvs.map (·.1)).map a0a.int=(ps.map (·.1)).map a0a.int:=by rw[map_map,map_map];exact k1.symm
  exact f0g this
 refine callType_codes (Q₁:=fun obj s₁=>obj=.ref s.heap.objs.size∧s₁={ s with heap:=s.heap.push { cls:=.type "dict",data:=.dict #[] } }) PySem.F.kt_called_dict (PySem.F.kt_typeCall_dict_1 _) PySem.F.entry_dict_init (kt_code_dict_new _ ⟨rfl,rfl⟩) ?_;rintro obj s₁ ⟨rfl,rfl⟩;have hnew:(s.heap.push { cls:=.type "dict",data:=.dict #[] }).DictOf (intKind C.prog C.w) s.heap.objs.size []:=Heap.DictOf.new s.heap;have gp:(s.heap.push { cls:=.type "dict",data:=.dict #[] }).get? a=some (b0n vs k0):=Heap.get?_push_of_some _ g;refine⟨hnew.typeIs,PySem.F.args_dict_init_2 _ _,?_⟩;unfold Builtin.«dict.__init__»;refine wpAny_bind ?_;unfold Builtin.Dict.selfAndRest;refine wpAny_bind (wpAny_notOrdered_dict hnew.typeIs ?_);show wpAny _ _ (pure (s.heap.objs.size,[Value.ref a])) _ _ _;refine wpAny_pure ?_;show wpAny _ _ (Builtin.Dict.updateFrom "dict.__init__" s.heap.objs.size (.ref a) [] .none) _ _ _;unfold Builtin.Dict.updateFrom;refine wpAny_bind (wpAny_typeOf (T:="list") (Mac.i3_1 _ gp rfl) ?_);rw[if_pos (by decide)];refine wpAny_bind (n1n gp (show A.in1.in1.handled=none from R.hd) fun h1 tk1 hk1=>?_);rw[if_pos (show(Option.none:Option Value).isNone=true from rfl)];refine wpAny_bind (wpAny_rule (wpAny_bind ?_));have g1:h1.get? a=some (b0n vs k0):=hk1 _ _ gp;refine wpAny_pyIter_list (b0x g1) ?_;refine wpAny_pure ⟨plainId_quiet i0x _,?_⟩;have hsz:s.heap.objs.size<h1.objs.size:=by
  have:(s.heap.push { cls:=.type "dict",data:=.dict #[] }).get? s.heap.objs.size=some { cls:=.type "dict",data:=.dict #[] }:=Heap.get?_push_size _ rfl;exact Heap.lt_size (hk1 _ _ this)
 have up:∀ b o,s.heap.get? b=some o→(h1.push { cls:=.type "list_iterator",data:=.fields #[.ref a,.int 0 0] }).get? b=some o:=fun b o e=>Heap.get?_push_of_some _ (hk1 _ _ (Heap.get?_push_of_some _ e));have hda:s.heap.objs.size≠a:=fun z=>by rw[← z,b0i]at g;cases g
 refine g1c (A:=A.in1) (kvs:=kvs) (l:=a) (it:=h1.objs.size) (vs:=vs) (k0:=k0) (show A.in1.handled=none from R.hd) (by rw[kk];exact nd) (by unfold LIM;unfold LIM at hl;omega) hda (Nat.ne_of_lt hsz) (Nat.ne_of_gt (Heap.lt_size g1)) kvs.length 0 { s with heap:=h1.push { cls:=.type "list_iterator",data:=.fields #[.ref a,.int 0 0] },toks:=tk1 } rfl (Nat.zero_le _)
  (Mac.i4_1 _ (Heap.get?_push_size _ rfl) rfl rfl) (up _ _ g) ⟨k3.1,fun i v k x e1 e2=>?_⟩ (fun b x m e=>?_) ?_ fun h' tk hd' hk'=>?_
 ·obtain⟨a',t',n',e3,e4⟩:=k3.2 i v k x e1 e2;exact⟨a',t',n',e3,up _ _ e4⟩
 ·refine⟨?_,?_⟩
  ·rintro rfl;have:(h1.push { cls:=.type "list_iterator",data:=.fields #[.ref a,.int 0 0] }).get? s.heap.objs.size=some { cls:=.type "dict",data:=.dict #[] }:=Heap.get?_push_of_some _ (hk1 _ _ (Heap.get?_push_size _ rfl));rw[this]at e;have:=congrArg (Option.map Obj.cls) e;simp at this
  ·rintro rfl;have:(h1.push { cls:=.type "list_iterator",data:=.fields #[.ref a,.int 0 0] }).get? h1.objs.size=some { cls:=.type "list_iterator",data:=.fields #[.ref a,.int 0 0] }:=Heap.get?_push_size _ rfl;rw[this]at e;have:=congrArg (Option.map Obj.cls) e;simp at this
 ·rw[take_zero];exact hnew.keep fun b o e=>Heap.get?_push_of_some _ (hk1 _ _ e)
 ·refine⟨rfl,?_⟩;have gr:b0c C.L C.mp s.heap h':=b0c.of S.ns fun b o e=>hk' b o (fun z=>by rw[z,b0i]at e;cases e) (fun z=>by
   have:=Heap.lt_size e;have:=Heap.lt_size (hk1 _ _ (Heap.get?_push_of_some _ e));rw[z]at this;exact absurd this (Nat.lt_irrefl _)) (up _ _ e)
  obtain⟨ob,es,ep',x1,x2,x3,x4,x5,x6⟩:=hd';refine Pst.alloc (o:=.dict 1 (ps.map fun p=>(.int p.1,.int p.2)) ep') S gr (b0i _) ⟨(Mac.i3_0 ?_ (by decide) (by decide)),?_,es.toList,x1.trans (congrArg some (g0g x2 x3)),?_⟩ (q ep') tk
  ·have:=S.ok.low;exact beq_eq_false_iff_ne.mpr fun z=>by have:sysModules<s.heap.objs.size:=Nat.lt_of_le_of_lt (by decide) this;rw[z]at this;exact absurd this (Nat.lt_irrefl _)
  ·have:(ps.map fun p=>(a0a.int p.1,a0a.int p.2)).map (·.1)=(ps.map (·.1)).map a0a.int:=by rw[map_map,map_map];rfl
   rw[this];exact List.Pairwise.map a0a.int (fun a b h z=>h (a0a.int.inj z)) nd
  ·refine d0u.of1 (kvs:=kvs) ?_ ?_ x5 fun e he=>x4 e (by simpa using he)
   ·rw[map_map];exact k1
   ·rw[map_map];exact k2.mono (gr.tups S.ok S.hL)
end
def Off(W:Addr→Prop)(h h':Heap):Prop:=∀ a o,¬ W a→h.get? a=some o→h'.get? a=some o
structure z0c(F:Fx)(okH:MH→Prop)(items:List a0a)(tgt:Expr)(it:Value)(W:Addr→Prop)(St:Nat→Heap→Prop):Prop where
 frame:∀ i h h',St i h→(∀ a o,(W a∨∃ vs n,o=a0l vs n)→h.get? a=some o→h'.get? a=some o)→St i h'
 there:∀ i h,St i h→∀ a,W a→∃ o,h.get? a=some o∧∀ vs n,o≠a0l vs n
 next:∀ (i:Nat) (X:Addr→Prop) (H:MH) (s:Shared) (A:Around) (x:a0a),A.handled=none→St i s.heap→Ok F.prog F.w F.ca X F.B H s.heap→okH H→items[i]?=some x→
  wpAny (model F.prog F.w) A (pyNext it) (fun r s1=>∃ v,r=some v∧wpAny (model F.prog F.w) A (letOwnedTupleGo tgt it v)
   (fun U s'=>∃ h' tk,s'={ s with heap:=h',toks:=tk }∧Off W s.heap h'∧St (i+1) h'∧VR F.B h' x v) NoE s1) NoE s
 done:∀ (X:Addr→Prop) (H:MH) (s:Shared) (A:Around),A.handled=none→St items.length s.heap→Ok F.prog F.w F.ca X F.B H s.heap→okH H→
  wpAny (model F.prog F.w) A (pyNext it) (fun r s'=>r=none∧∃ h' tk,s'={ s with heap:=h',toks:=tk }∧Off W s.heap h') NoE s
 self:∀ (i:Nat) (s:Shared) (A:Around) (E:Value→Shared→Prop) (Q:Value→Shared→Prop),St i s.heap→Q it s→wpAny (model F.prog F.w) A (pyIter it) Q E s
def p1m(t:Expr):Prop:=∃ a b c,t=.Tuple a b c
def g0s(t:Expr):Prop:=(∃ a b,t=.Name a b)∨p1m t
noncomputable def c1d:List String:=["enumerate","zip","dict_itemiterator","dict_reverseitemiterator","odict_iterator","itertools.zip_longest","itertools.pairwise"]
set_option tactic.hygienic true in
theorem e0a{prog:Program}{w:World}{A:Around}{E:Value→Shared→Prop}{s:Shared}{tgt:Expr}{I:Addr}{v:Value}{o:Obj}{T:String}{Q:Unit→Shared→Prop}(ht:g0s tgt)(g:s.heap.get? I=some o)(hc:o.cls=.type T)(hT:c1d.contains T=false)(q:Q () s) :
  wpAny (model prog w) A (letOwnedTupleGo tgt (.ref I) v) Q E s:=by
 rcases ht with⟨U,U,rfl⟩ | ⟨U,U,U,rfl⟩
 ·exact wpAny_pure q
 ·unfold letOwnedTupleGo;cases v <;> try exact wpAny_pure q
  rename_i b;refine wpAny_bind (wpAny_load g ?_);rw[hc];cases o.data <;> try exact wpAny_pure q
  rename_i vs;dsimp only;rw[if_neg]
  ·exact wpAny_pure q
  ·intro z;have:(c1d.contains T&&(vs[0]? == some (rawInt b)))=true:=z;rw[hT,Bool.false_and]at this;cases this
theorem c0j{I:Addr}{h h':Heap}(s:Heap.SameBut I h h'):Off (·=I) h h':=fun a o n e=>(s.2 a n).trans e
theorem m0i{I:Addr}{h h':Heap}(s:Heap.ExtBut I h h'):Off (·=I) h h':=fun a o n e=>s a o n e
theorem Off.tups{W:Addr→Prop}{h h':Heap}(o:Off W h h')(n:∀ a,W a→∀ vs k,h.get? a≠some (a0l vs k)):a0k h h':=fun a vs k e=>o a _ (fun w=>n a w vs k e) e
section
variable {F:Fx}{tgt:Expr}
theorem b1f(ht:g0s tgt){a I:Addr}{l:List a0a}(hne:a≠I){okH:MH→Prop}(hok:∀ H,okH H→H a=some (.list l)) :
  z0c F okH l tgt (.ref I) (·=I) (fun i h=>h.IsListIter I a i) where
 frame:=fun i h h' ⟨o,g,r⟩ k=>(Mac.i3_1 o (k _ _ (.inl rfl) g) r)
 there:=fun i h ⟨o,g,c,d⟩ b hb=>by
  clear hne;subst hb;refine⟨o,g,fun vs n z=>?_⟩;clear c g;subst z;cases d
 next:=fun i X H s A x hh st ok q hi=>by
  obtain⟨vs,k,g,r⟩:=ok.objs _ _ (hok H q);obtain⟨v,hv,rv⟩:=r.get hi;have nt:∀ b,b=I→∀ us k,s.heap.get? b≠some (a0l us k):=fun b hb us k e=>by
   obtain⟨o,g',c,d⟩:=st;rw[← hb,e]at g';clear c;cases g';cases d
  refine wpAny_pyNext_list_item st (b0x g) (x:=v) (by simpa using hv) fun h' st' sb=>(Mac.i3_1 v rfl ?_);obtain⟨o,g',c,d⟩:=id st';exact e0a ht g' c (by decide) (Mac.i6_2 h' s.toks rfl (c0j sb) st' (rv.mono ((c0j sb).tups nt)))
 done:=fun X H s A hh st ok q=>by
  obtain⟨vs,k,g,r⟩:=ok.objs _ _ (hok H q);exact wpAny_pyNext_list_end hh st (b0x g) (by simp[r.length]) fun h' e=>⟨rfl,h',s.toks,rfl,m0i e⟩
 self:=fun i s A E Q st q=>wpAny_pyIter_listiter st q
theorem f1b(ht:g0s tgt){a I:Addr}{l:List a0a}{vs:List Value}{k:Nat}(hne:a≠I){okH:MH→Prop} :
  z0c F okH l tgt (.ref I) (·=I) (fun i h=>h.IsTupleIter I a i∧h.get? a=some (a0l vs k)∧VRs F.B h l vs) where
 frame:=fun i h h' ⟨⟨o,g,r⟩,g2,rl⟩ kp=>(Mac.i3_0 ⟨o,kp _ _ (.inl rfl) g,r⟩ (kp _ _ (.inr ⟨_,_,rfl⟩) g2) (rl.mono fun a us n e=>kp _ _ (.inr ⟨_,_,rfl⟩) e))
 there:=fun i h ⟨⟨o,g,c,d⟩,_⟩ b hb=>by
  clear hne;subst hb;refine⟨o,g,fun vs n z=>?_⟩;clear c g;subst z;cases d
 next:=fun i X H s A x hh ⟨st,g,rl⟩ ok q hi=>by
  obtain⟨v,hv,rv⟩:=rl.get hi;have nt:∀ b,b=I→∀ us k,s.heap.get? b≠some (a0l us k):=fun b hb us k e=>by
   obtain⟨o,g',c,d⟩:=st;rw[← hb,e]at g';clear c;cases g';cases d
  refine wpAny_pyNext_tuple_item st (items:=vs.toArray) ⟨_,g,rfl,_,rfl⟩ (x:=v) (by simpa using hv) fun h' st' sb=>(Mac.i3_1 v rfl ?_);obtain⟨o,g',c,d⟩:=id st';have kt:=(c0j sb).tups nt;exact e0a ht g' c (by decide) (Mac.i6_2 h' s.toks rfl (c0j sb) ⟨st',kt _ _ _ g,rl.mono kt⟩ (rv.mono kt))
 done:=fun X H s A hh ⟨st,g,rl⟩ ok q=>wpAny_pyNext_tuple_end hh st (items:=vs.toArray) ⟨_,g,rfl,_,rfl⟩ (by simp[rl.length]) fun h' e=>⟨rfl,h',s.toks,rfl,m0i e⟩
 self:=fun i s A E Q st q=>wpAny_pyIter_tupleiter st.1 q
theorem y0d(ht:g0s tgt){I:Addr}{n:Nat}{okH:MH→Prop} :
  z0c F okH ((List.range n).map fun i:Nat=>a0a.int (i:Int)) tgt (.ref I) (·=I) (fun i h=>IsRangeIter h I (i:Int) ((n:Int)-i) 1) where
 frame:=fun i h h' st k=>k _ _ (.inl rfl) st
 there:=fun i h st b hb=>by
  subst hb;refine⟨_,st,fun vs n z=>?_⟩;have:=congrArg Obj.cls z;simp at this
 next:=fun i X H s A x hh st ok q hi=>by
  have hin:i<n:=by
   have:=(gsm hi).1;simpa using this
  have hx:x=.int (i:Int):=by
   rw[gmp,getElem?_range hin]at hi;simpa using hi.symm
  clear hi;subst hx;refine wpAny_pyNext_range_item st (by omega) fun h' st' sb=>(Mac.i3_1 _ rfl ?_);have g':=st';have e1:(i:Int)+1=((i+1:Nat):Int):=by push_cast;rfl
  have e2:(n:Int)-i-1=(n:Int)-((i+1:Nat):Int):=by push_cast;omega
  rw[e1,e2]at st';exact e0a ht (T:="range_iterator") g' rfl (by decide) (Mac.i6_2 h' (s.toks+1) rfl (c0j sb) st' (VR.mkInt _ _))
 done:=fun X H s A hh st ok q=>by
  rw[lmp,length_range]at st;exact wpAny_pyNext_range_end hh st (by omega) fun h' e=>⟨rfl,h',s.toks,rfl,m0i e⟩
 self:=fun i s A E Q st q=>wpAny_pyIter_rangeiter st q
theorem r0t{K:Type}[DecidableEq K]{knd:PySem.KeyKind F.prog F.w K}{f:K→a0a}(hf:∀ h k v,knd.is k v=true→VR F.B h (f k) v)(ht:g0s tgt){d I:Addr}{kd:Nat}{kv:List (a0a×a0a)}{ep:Nat}{okH:MH→Prop}(hok:∀ H,okH H→H d=some (.dict kd kv ep))
  (hat:∀ H h,g0p F.prog F.w F.ca F.B H h d (.dict kd kv ep)→∃ kvs:List (K×Value),kv.map (·.1)=kvs.map (fun p=>f p.1)∧VRs F.B h (kv.map (·.2)) (kvs.map (·.2))∧h.DictAt knd d kvs ep) :
  z0c F okH (kv.map (·.1)) tgt (.ref I) (·=I) (fun i h=>h.IsKeyIter I d i kv.length ep) where
 frame:=fun i h h' ⟨o,g,r⟩ k=>(Mac.i3_1 o (k _ _ (.inl rfl) g) r)
 there:=fun i h ⟨o,g,c,d⟩ b hb=>by
  subst hb;refine⟨o,g,fun vs n z=>?_⟩;clear c g;subst z;cases d
 next:=fun i X H s A x hh st ok q hi=>by
  obtain⟨kvs,a1,a2,a3⟩:=hat _ _ (ok.objs _ _ (hok H q));have hlen:=a0j a1;rw[a1,gmp]at hi;obtain⟨p,hp,rfl⟩:=map_eq_some_iff.mp hi;rw[hlen]at st;refine wpAny_pyNext_dict_item st a3 hp fun key h' hk st' sb=>(Mac.i3_1 key rfl ?_);obtain⟨o,g',c,d⟩:=id st';rw[← hlen]at st';exact e0a ht g' c (by decide) (Mac.i6_2 h' s.toks rfl (c0j sb) st' (hf _ _ _ hk))
 done:=fun X H s A hh st ok q=>by
  obtain⟨kvs,a1,a2,a3⟩:=hat _ _ (ok.objs _ _ (hok H q));have hlen:=a0j a1;rw[lmp,hlen]at st;exact wpAny_pyNext_dict_end hh st a3 (by simp) fun h' e=>⟨rfl,h',s.toks,rfl,m0i e⟩
 self:=fun i s A E Q st q=>wpAny_pyIter_keyiter st q
theorem b1g{K:Type}[DecidableEq K]{knd:PySem.KeyKind F.prog F.w K}{f:K→a0a}(ht:g0s tgt){d I:Addr}{kd:Nat}{kv:List (a0a×a0a)}{ep:Nat}{okH:MH→Prop}(hok:∀ H,okH H→H d=some (.dict kd kv ep))
  (hat:∀ H h,g0p F.prog F.w F.ca F.B H h d (.dict kd kv ep)→∃ kvs:List (K×Value),kv.map (·.1)=kvs.map (fun p=>f p.1)∧VRs F.B h (kv.map (·.2)) (kvs.map (·.2))∧h.DictAt knd d kvs ep) :
  z0c F okH (kv.map (·.2)) tgt (.ref I) (·=I) (fun i h=>h.IsValIter I d i kv.length ep) where
 frame:=fun i h h' ⟨o,g,r⟩ k=>(Mac.i3_1 o (k _ _ (.inl rfl) g) r)
 there:=fun i h ⟨o,g,c,d⟩ b hb=>by
  subst hb;refine⟨o,g,fun vs n z=>?_⟩;clear c g;subst z;cases d
 next:=fun i X H s A x hh st ok q hi=>by
  obtain⟨kvs,a1,a2,a3⟩:=hat _ _ (ok.objs _ _ (hok H q));have hlen:=a0j a1;have nt:∀ b,b=I→∀ us k,s.heap.get? b≠some (a0l us k):=fun b hb us k e=>by
   obtain⟨o,g',c,d⟩:=st;rw[← hb,e]at g';clear c;cases g';cases d
  obtain⟨v,hv,rv⟩:=a2.get hi;rw[gmp]at hv;obtain⟨p,hp,rfl⟩:=map_eq_some_iff.mp hv;rw[hlen]at st;refine wpAny_pyNext_values_item (k:=p.1) st a3 hp fun h' st' sb=>(Mac.i3_1 p.2 rfl ?_);obtain⟨o,g',c,d⟩:=id st';rw[← hlen]at st';exact e0a ht g' c (by decide) (Mac.i6_2 h' s.toks rfl (c0j sb) st' (rv.mono ((c0j sb).tups nt)))
 done:=fun X H s A hh st ok q=>by
  obtain⟨kvs,a1,a2,a3⟩:=hat _ _ (ok.objs _ _ (hok H q));have hlen:=a0j a1;rw[lmp,hlen]at st;exact wpAny_pyNext_values_end hh st a3 (by simp) fun h' e=>⟨rfl,h',s.toks,rfl,m0i e⟩
 self:=fun i s A E Q st q=>wpAny_pyIter_valiter st q
theorem r0h:∀ (l:List a0a) (n i:Nat) (x:a0a),(g0z n l)[i]?=some x→∃ y,l[i]?=some y∧x=.tup [.int ((n+i:Nat):Int),y]
 | [],n,i,x,h=>by simp[g0z]at h
 | y::l,n,0,x,h=>by
  simp only[g0z,getElem?_cons_zero,Option.some.injEq]at h;exact⟨y,rfl,h.symm⟩
 | y::l,n,i+1,x,h=>by
  simp only[g0z,getElem?_cons_succ]at h ⊢;obtain⟨z,h1,h2⟩:=r0h l (n+1) i x h;exact⟨z,h1,by rw[h2];congr 3;omega⟩
theorem j0v:∀ (l:List a0a) (n:Nat),(g0z n l).length=l.length
 | [],_=>rfl
 | y::l,n=>by rw[g0z,length_cons,length_cons,j0v l]
theorem b1e(ht:p1m tgt){a e I:Addr}{l:List a0a}(hae:a≠e)(haI:a≠I)(heI:e≠I){okH:MH→Prop}(hok:∀ H,okH H→H a=some (.list l)) :
  z0c F okH (g0z 0 l) tgt (.ref e) (fun b=>b=e∨b=I) (fun i h=>(∃ old,IsEnum h e I (i:Int) old)∧h.IsListIter I a i) where
 frame:=fun i h h' ⟨⟨old,g1⟩,⟨o,g,r⟩⟩ k=>⟨⟨old,k _ _ (.inl (.inl rfl)) g1⟩,(Mac.i3_1 o (k _ _ (.inl (.inr rfl)) g) r)⟩
 there:=fun i h ⟨⟨old,g1⟩,⟨o,g,c,d⟩⟩ b hb=>by
  rcases hb with hb | hb
  ·clear hae heI;subst hb;exact⟨_,g1,fun vs n z=>by have:=congrArg Obj.cls z;simp at this⟩
  ·clear haI heI g1;subst hb;refine⟨o,g,fun vs n z=>?_⟩;clear c g;subst z;cases d
 next:=fun i X H s A x hh ⟨⟨old,g1⟩,st⟩ ok q hi=>by
  obtain⟨vs,k,g,r⟩:=ok.objs _ _ (hok H q);obtain⟨y,hy,rfl⟩:=r0h _ _ _ _ hi;obtain⟨v,hv,rv⟩:=r.get hy;have nt:∀ b,(b=e∨b=I)→∀ us k,s.heap.get? b≠some (a0l us k):=fun b hb us k z=>by
   rcases hb with hb | hb
   ·have g1':s.heap.get? e=some _:=g1;rw[← hb,z]at g1';have:=congrArg (Option.map Obj.cls) g1';simp at this
   ·obtain⟨o,g',c,d⟩:=st;rw[← hb,z]at g';clear c;cases g';cases d
  refine wpAny_pyNext_enum_item g1 st (b0x g) (x:=v) (by simpa using hv) heI fun h' eo st' gt hs' kp=>(Mac.i3_1 _ rfl ?_);obtain⟨U,U,U,rfl⟩:=ht;refine wpAny_letOwnedTupleGo_enum eo fun h2 e2 sb2=>?_;have hsz:s.heap.objs.size≠e:=fun z=>by have g1':s.heap.get? e=some _:=g1;rw[← z,b0i]at g1';cases g1'
  have off:Off (fun b=>b=e∨b=I) s.heap h2:=fun b o nb eb=>(sb2.2 b fun z=>nb (.inl z)).trans (kp b o (fun z=>nb (.inl z)) (fun z=>nb (.inr z)) eb);refine⟨h2,s.toks+1,rfl,off,⟨⟨v,by rw[show((i+1:Nat):Int)=(i:Int)+1 by push_cast;rfl];exact e2⟩,?_⟩,?_⟩
  ·obtain⟨o,g',r'⟩:=st';exact⟨o,(sb2.2 I (Ne.symm heI)).trans g',r'⟩
  ·refine VR.mkTup (vs:=[.int (i:Int) s.toks,v]) (n:=0) ((sb2.2 _ hsz).trans gt) ⟨_,_,rfl,⟨s.toks,by simp⟩,_,_,rfl,rv.mono (off.tups nt),rfl⟩
 done:=fun X H s A hh ⟨⟨old,g1⟩,st⟩ ok q=>by
  obtain⟨vs,k,g,r⟩:=ok.objs _ _ (hok H q);rw[j0v]at g1 st;exact wpAny_pyNext_enum_end hh g1 st (b0x g) (by simp[r.length]) fun h' z=>⟨rfl,h',s.toks,rfl,fun b o nb eb=>z b o (fun w=>nb (.inr w)) eb⟩
 self:=fun i s A E Q st q=>by
  obtain⟨⟨old,g1⟩,U⟩:=st;exact wpAny_pyIter_enum g1 q
end
noncomputable def e1d(F:c0c)(vs:List a0a):Option Loc:=
 if vs.length≤F.np∧F.np≤vs.length+F.dfl.length∧F.np≤F.ns then
  some (((vs++F.dfl.drop (vs.length+F.dfl.length-F.np)).map some)++List.replicate (F.ns-F.np) none)
 else none
noncomputable def gam(c:Nat→List a0a→MH→a0d→Prop):Gam:=⟨c,e0h,i0r,i0j⟩
def u0o(Q:a0d):b0u→Loc→MH→Prop:=fun fl U H=>match fl with
 | .ret v=>Q v H
 | .next=>Q .none H
 | .brk=>False
noncomputable def a0f:Nat→Nat→List a0a→MH→a0d→Prop
 | 0=>fun U U U U=>False
 | n+1=>fun f vs H Q=>∃ F m0,i0i f=some F∧e1d F vs=some m0∧wpB (gam (a0f n)) F.body m0 H (u0o Q)
abbrev l1n:=List Expr×Str×Nat×Scope×Comprehension
noncomputable def n0c(l:List Expr):l1n:=(l,"",0,default,⟨default,default,[],0⟩)
noncomputable def d1k:Expr→l1n
 | .BinOp l _ r _=>n0c [l,r]
 | .UnaryOp _ e _=>n0c [e]
 | .Compare l _ rs _=>n0c (l::rs)
 | .BoolOp _ es _=>n0c es
 | .IfExp c a b _=>n0c [c,a,b]
 | .List es _=>n0c es
 | .Tuple es k _=>(es,"",k,default,⟨default,default,[],0⟩)
 | .Constant _ k _=>([],"",k,default,⟨default,default,[],0⟩)
 | .Name x _=>([],x,0,default,⟨default,default,[],0⟩)
 | .Subscript a i _=>n0c [a,i]
 | .Slice lo hi _ _=>n0c (lo.toList++hi.toList)
 | .Attribute e _ _=>n0c [e]
 | .Call f es _ _=>n0c (f::es)
 | .ListComp el (g::_) sc _=>([el],"",0,sc,g)
 | _=>n0c []
noncomputable def d0j(x:Expr):List Expr:=(d1k x).1
noncomputable def kid(x:Expr)(i:Nat):Expr:=(d0j x).getD i default
noncomputable def v0d(x:Expr):List Expr:=(d0j x).tail
noncomputable def e0o(x:Expr):Str:=(d1k x).2.1
noncomputable def f1l(x:Expr):Nat:=(d1k x).2.2.1
noncomputable def s0h(x:Expr):Scope:=(d1k x).2.2.2.1
noncomputable def y0x(x:Expr):Comprehension:=(d1k x).2.2.2.2
noncomputable def a1e:a0a→Const
 | .none=>.none
 | .bool b=>.bool b
 | .int i=>.int i
 | .str s=>.str s
 | _=>default
noncomputable def n0g:Tgt→Expr→Expr
 | .one _,x=>.Name (e0o x) x.pos
 | .two _ _,x=>.Tuple [.Name (e0o (kid x 0)) (kid x 0).pos,.Name (e0o (kid x 1)) (kid x 1).pos] (f1l x) x.pos
noncomputable def n0t:Tgt→Expr→List (Str×Nat)
 | .one i,x=>[(e0o x,i)]
 | .two i j,x=>[(e0o (kid x 0),i),(e0o (kid x 1),j)]
noncomputable def y0s:Tgt→Expr→Bool
 | .one _,_=>true
 | .two i j,x=>!(e0o (kid x 0) == e0o (kid x 1))&&decide (i≠j)
noncomputable def g1t(f:Expr→Expr):ItK→Expr→Expr
 | .plain,x=>f x
 | .enum,x=>.Call (.Name "enumerate" (kid x 0).pos) [f (kid x 1)] [] x.pos
 | .range,x=>.Call (.Name "range" (kid x 0).pos) [f (kid x 1)] [] x.pos
 | .vals,x=>.Call (.Attribute (f (kid (kid x 0) 0)) "values" (kid x 0).pos) [] [] x.pos
noncomputable def v0g:Bi→Str
 | .len=>"len" | .sorted=>"sorted" | .list=>"list" | .tuple=>"tuple" | .abs=>"abs" | .int=>"int" | .sum=>"sum" | .dict=>"dict"
noncomputable def e1c:Bi→Value
 | .len=>.builtin "len" | .sorted=>.builtin "sorted" | .list=>.type "list" | .tuple=>.type "tuple" | .abs=>.builtin "abs" | .int=>.type "int" | .sum=>.builtin "sum" | .dict=>.type "dict"
mutual
noncomputable def c0a:a0m→Expr→Expr
 | .var _,x=>.Name (e0o x) x.pos
 | .con v,x=>.Constant (a1e v) (f1l x) x.pos
 | .glo g,x=>.Name (p0r g) x.pos
 | .bin op a b,x=>.BinOp (c0a a (kid x 0)) (l1y op) (c0a b (kid x 1)) x.pos
 | .neg a,x=>.UnaryOp .USub (c0a a (kid x 0)) x.pos
 | .cmp op a b,x=>.Compare (c0a a (kid x 0)) [m1a op] [c0a b (kid x 1)] x.pos
 | .and as,x=>.BoolOp .And (d0e as (d0j x)) x.pos
 | .or as,x=>.BoolOp .Or (d0e as (d0j x)) x.pos
 | .not a,x=>.UnaryOp .Not (c0a a (kid x 0)) x.pos
 | .ite c a b,x=>.IfExp (c0a c (kid x 0)) (c0a a (kid x 1)) (c0a b (kid x 2)) x.pos
 | .list as,x=>.List (d0e as (d0j x)) x.pos
 | .tup as,x=>.Tuple (d0e as (d0j x)) (f1l x) x.pos
 | .edict _,x=>.Dict [] [] x.pos
 | .sub a i,x=>.Subscript (c0a a (kid x 0)) (c0a i (kid x 1)) x.pos
 | .slcTo a k,x=>.Subscript (c0a a (kid x 0)) (.Slice none (some (c0a k (kid (kid x 1) 0))) none (kid x 1).pos) x.pos
 | .slc a lo hi,x=>.Subscript (c0a a (kid x 0)) (.Slice (some (c0a lo (kid (kid x 1) 0))) (some (c0a hi (kid (kid x 1) 1))) none (kid x 1).pos) x.pos
 | .attr a k,x=>.Attribute (c0a a (kid x 0)) (a0o k) x.pos
 | .call f as,x=>.Call (.Name (q0j f) (kid x 0).pos) (d0e as (v0d x)) [] x.pos
 | .new c as,x=>.Call (.Name (p0f c) (kid x 0).pos) (d0e as (v0d x)) [] x.pos
 | .meth a k as,x=>.Call (.Attribute (c0a a (kid (kid x 0) 0)) (d0q k) (kid x 0).pos) (d0e as (v0d x)) [] x.pos
 | .bi b as,x=>.Call (.Name (v0g b) (kid x 0).pos) (d0e as (v0d x)) [] x.pos
 | .bm b a as,x=>.Call (.Attribute (c0a a (kid (kid x 0) 0)) (g1m b) (kid x 0).pos) (d0e as (v0d x)) [] x.pos
 | .comp elt t k e ifs,x=>.ListComp (c0a elt (kid x 0)) [⟨n0g t (y0x x).target,g1t (c0a e) k (y0x x).iter,d0e ifs (y0x x).ifs,0⟩] (s0h x) x.pos
noncomputable def d0e:a0w→List Expr→List Expr
 | .nil,_=>[]
 | .cons e r,xs=>c0a e (xs.headD default)::d0e r xs.tail
end
noncomputable def g1f:Stmt→Expr×Expr×List Stmt×List Stmt
 | .Assign (t::_) v _=>(t,v,[],[])
 | .For t v b _ _=>(t,v,b,[])
 | .Expr v _=>(default,v,[],[])
 | .While c b _ _=>(default,c,b,[])
 | .If c a b _=>(default,c,a,b)
 | .Return (some v) _=>(default,v,[],[])
 | _=>(default,default,[],[])
noncomputable def b0f(x:Stmt):Expr:=(g1f x).1
noncomputable def h0v(x:Stmt):Expr:=(g1f x).2.1
noncomputable def i0a(x:Stmt):List Stmt:=(g1f x).2.2.1
noncomputable def m1g(x:Stmt):List Stmt:=(g1f x).2.2.2
noncomputable def q0p:List Nat→List Expr→List Expr
 | [],_=>[]
 | _::is,xs=>.Name (e0o (xs.headD default)) (xs.headD default).pos::q0p is xs.tail
noncomputable def d1v:List Nat→List Expr→List Str
 | [],_=>[]
 | _::is,xs=>e0o (xs.headD default)::d1v is xs.tail
mutual
noncomputable def q1j:o0r→Stmt→Stmt
 | .asg _ e,x=>.Assign [.Name (e0o (b0f x)) (b0f x).pos] (c0a e (h0v x)) x.pos
 | .asgT is e,x=>.Assign [.Tuple (q0p is (d0j (b0f x))) (f1l (b0f x)) (b0f x).pos] (c0a e (h0v x)) x.pos
 | .asgA o k e,x=>.Assign [.Attribute (c0a o (kid (b0f x) 0)) (a0o k) (b0f x).pos] (c0a e (h0v x)) x.pos
 | .asgI o i e,x=>.Assign [.Subscript (c0a o (kid (b0f x) 0)) (c0a i (kid (b0f x) 1)) (b0f x).pos] (c0a e (h0v x)) x.pos
 | .exp e,x=>.Expr (c0a e (h0v x)) x.pos
 | .whil c b,x=>.While (c0a c (h0v x)) (a1k b (i0a x)) [] x.pos
 | .forr t k e b,x=>.For (n0g t (b0f x)) (g1t (c0a e) k (h0v x)) (a1k b (i0a x)) [] x.pos
 | .ifs c a b,x=>.If (c0a c (h0v x)) (a1k a (i0a x)) (a1k b (m1g x)) x.pos
 | .ret e,x=>.Return (some (c0a e (h0v x))) x.pos
 | .brk,x=>.Break x.pos
 | .rais,x=>x
noncomputable def a1k:k0h→List Stmt→List Stmt
 | .nil,_=>[]
 | .cons s r,xs=>q1j s (xs.headD default)::a1k r xs.tail
end
noncomputable def s0i:a0w→Bool
 | .nil=>false
 | _=>true
noncomputable def u0j:a0m→Bool
 | .comp ..=>false
 | _=>true
noncomputable def g0m:a0m→Bool
 | .call _ as=>s0i as
 | .new _ as=>s0i as
 | .bi _ as=>s0i as
 | _=>true
noncomputable def globK(σ:Sc)(x:Str):Bool:=σ.kinds.lookup x == some .globalImplicit&&!(x == ("__debug__":Str))
noncomputable def d0f(kinds:List (Str×NameKind))(names:List (Str×NameKind)):List (Str×NameKind):=
 names.map fun p=>if p.2 == NameKind.free&&kinds.lookup p.1 == some .cell then(p.1,.cell) else p
noncomputable def d0w(σ:Sc)(names:List (Str×NameKind))(ts:List (Str×Nat)):Sc:=
 let k:=d0f σ.kinds names
 ⟨k,ts++σ.loc.filter fun p=>k.lookup p.1 == some .cell⟩
noncomputable def l1m(l:List (Str×Nat)):Bool:=l.all fun p=>l.all fun q=>(p.1 == q.1) == (p.2 == q.2)
noncomputable def k0f(b:Bool)(σ:Sc)(x:Str):Bool:=σ.kinds.lookup x == some .local || (b&&σ.kinds.lookup x == some .cell)
noncomputable abbrev s0m(σ:Sc)(x:Str):Bool:=k0f true σ x
noncomputable def v0m(σ:Sc)(scope:Scope)(ts:List (Str×Nat)):Bool:=
 decide (scope.kind=.function)&&scope.names.all (fun p=>p.2 != NameKind.cell)&&scope.names.all (fun p=>!(p.2 == NameKind.local) || scope.names.lookup p.1 == some .local)&&
 scope.names.all (fun p=>!(p.2 == NameKind.free) || σ.kinds.lookup p.1 == some .cell)&&ts.all (fun p=>(d0w σ scope.names ts).loc.lookup p.1 == some p.2&&k0f false (d0w σ scope.names ts) p.1)&&l1m (d0w σ scope.names ts).loc
noncomputable def few(es:List Expr):Bool:=decide (es.length<20)
noncomputable def m1w:Tgt→Bool
 | .two _ _=>true
 | _=>false
noncomputable def b1i(x:Expr):Bool:=(kid x 0).pos.endLine == x.pos.line
noncomputable def p1n(σ:Sc)(f:Expr→Bool)(e:a0m)(t:Tgt):ItK→Expr→Bool
 | .plain,x=>f x
 | .enum,x=>(globK σ "enumerate"&&m1w t)&&f (kid x 1)
 | .range,x=>globK σ "range"&&f (kid x 1)
 | .vals,x=>(g0m e&&b1i x)&&f (kid (kid x 0) 0)
mutual
noncomputable def e0q(σ:Sc):a0m→Expr→Bool
 | .var i,x=>σ.loc.lookup (e0o x) == some i&&!(e0o x == ("__debug__":Str))
 | .con v,_=>w0p v
 | .glo g,_=>globK σ (p0r g)
 | .bin _ a b,x=>e0q σ a (kid x 0)&&e0q σ b (kid x 1)
 | .neg a,x=>e0q σ a (kid x 0)
 | .cmp _ a b,x=>e0q σ a (kid x 0)&&e0q σ b (kid x 1)
 | .and as,x=>s0i as&&s0x σ as (d0j x)
 | .or as,x=>s0i as&&s0x σ as (d0j x)
 | .not a,x=>e0q σ a (kid x 0)
 | .ite c a b,x=>e0q σ c (kid x 0)&&(e0q σ a (kid x 1)&&e0q σ b (kid x 2))
 | .list as,x=>s0x σ as (d0j x)
 | .tup as,x=>s0x σ as (d0j x)
 | .edict _,_=>true
 | .sub a i,x=>e0q σ a (kid x 0)&&e0q σ i (kid x 1)
 | .slcTo a k,x=>e0q σ a (kid x 0)&&e0q σ k (kid (kid x 1) 0)
 | .slc a lo hi,x=>e0q σ a (kid x 0)&&(e0q σ lo (kid (kid x 1) 0)&&e0q σ hi (kid (kid x 1) 1))
 | .attr a _,x=>g0m a&&e0q σ a (kid x 0)
 | .call f as,x=>(decide (f∈u0z)&&globK σ (q0j f))&&s0x σ as (v0d x)
 | .new c as,x=>(decide (c<6)&&globK σ (p0f c))&&s0x σ as (v0d x)
 | .meth a _ as,x=>((g0m a&&b1i x)&&few (d0e as (v0d x)))&&(e0q σ a (kid (kid x 0) 0)&&s0x σ as (v0d x))
 | .bi b as,x=>globK σ (v0g b)&&s0x σ as (v0d x)
 | .bm _ a as,x=>((g0m a&&b1i x)&&few (d0e as (v0d x)))&&(e0q σ a (kid (kid x 0) 0)&&s0x σ as (v0d x))
 | .comp elt t k e ifs,x=>((y0s t (y0x x).target&&v0m σ (s0h x) (n0t t (y0x x).target))&&p1n σ (e0q σ e) e t k (y0x x).iter)&&
   (e0q (d0w σ (s0h x).names (n0t t (y0x x).target)) elt (kid x 0)&&s0x (d0w σ (s0h x).names (n0t t (y0x x).target)) ifs (y0x x).ifs)
noncomputable def s0x(σ:Sc):a0w→List Expr→Bool
 | .nil,_=>true
 | .cons e r,xs=>e0q σ e (xs.headD default)&&s0x σ r xs.tail
end
noncomputable def w0v:Expr→Bool
 | .Tuple vs _ _=>!(vs.all (foldedForSure 8))&&!(vs.all (constantsAlone 8))
 | _=>true
mutual
noncomputable def r1z(σ:Sc):o0r→Stmt→Bool
 | .asg i e,x=>(σ.loc.lookup (e0o (b0f x)) == some i&&s0m σ (e0o (b0f x)))&&e0q σ e (h0v x)
 | .asgT is e,x=>((((d1v is (d0j (b0f x))).map (fun y=>σ.loc.lookup y) == is.map some)&&(d1v is (d0j (b0f x))).all (s0m σ))&&(decide (d1v is (d0j (b0f x))).Nodup&&w0v (c0a e (h0v x))))&&e0q σ e (h0v x)
 | .asgA o _ e,x=>e0q σ o (kid (b0f x) 0)&&e0q σ e (h0v x)
 | .asgI o i e,x=>e0q σ o (kid (b0f x) 0)&&(e0q σ i (kid (b0f x) 1)&&e0q σ e (h0v x))
 | .exp e,x=>u0j e&&e0q σ e (h0v x)
 | .whil c b,x=>e0q σ c (h0v x)&&x0p σ b (i0a x)
 | .forr t k e b,x=>(y0s t (b0f x)&&(n0t t (b0f x)).all (fun p=>σ.loc.lookup p.1 == some p.2&&s0m σ p.1))&&(p1n σ (e0q σ e) e t k (h0v x)&&x0p σ b (i0a x))
 | .ifs c a b,x=>e0q σ c (h0v x)&&(x0p σ a (i0a x)&&x0p σ b (m1g x))
 | .ret e,x=>e0q σ e (h0v x)
 | .brk,_=>true
 | .rais,_=>true
noncomputable def x0p(σ:Sc):k0h→List Stmt→Bool
 | .nil,_=>true
 | .cons s r,xs=>r1z σ s (xs.headD default)&&x0p σ r xs.tail
end
theorem an1{a b:Bool}(h:(a&&b)=true):a=true:=(Bool.and_eq_true a b▸h).1
theorem an2{a b:Bool}(h:(a&&b)=true):b=true:=(Bool.and_eq_true a b▸h).2
section
variable {env:Env}{x:Expr}
theorem o0c{k:ItK}{e:a0m}(v:Value):foldedSetIterable (g1t (c0a e) k x) env v=pure v:=by
 cases k <;> first | rfl | (cases e <;> rfl)
theorem m0b(e:a0m)(op:CmpOp):behindInMarks op (c0a e x)=false:=by cases e <;> rfl
theorem u0w(e:a0m)(o i:Value):subscripted (c0a e x) false o i=operate [o,i] (getItem o i):=by cases e <;> rfl
set_option tactic.hygienic true in
theorem f0n{e:a0m}{attr:Str}{whole:Sem Value}(h:g0m e=true):attributeBase (c0a e x) attr env whole=whole:=by
 cases e <;> first | rfl | (rename_i as;cases as <;> first | rfl | cases h)
theorem m0x{e:a0m}(h:u0j e=true)(t:Option Expr)(l:Nat):swapsWith (c0a e x) t l env=pure false:=by
 cases e <;> first | rfl | cases h
theorem l0e(as:a0w)(xs:List Expr):starEach (d0e as xs) env=match as with
  | .nil=>[]
  | .cons e r=>(false,eval (c0a e (xs.headD default)) env)::starEach (d0e r xs.tail) env:=by
 cases as with
 | nil=>rfl
 | cons e r=>cases e <;> rfl
theorem h0z(pos:Pos):∀ (as:a0w) (xs:List Expr),(backTo pos (starEach (d0e as xs) env)).any (·.1)=false
 | .nil,_=>rfl
 | .cons e r,xs=>by
  rw[l0e];exact h0z pos r xs.tail
theorem t0s(pos:Pos)(as:a0w)(xs:List Expr)(h:few (d0e as xs)=true):((backTo pos (starEach (d0e as xs) env)).all (fun x=>!x.1)&&(backToKw pos (keywordEach [] env)).all (fun x=>x.1.isSome)&&decide ((d0e as xs).length+([]:List Keyword).length+(if ([]:List Keyword).isEmpty then 0 else 1)<30))=true:=by
 have h2:=of_decide_eq_true h;have a1:(backTo pos (starEach (d0e as xs) env)).all (fun x=>!x.1)=true:=by
  have:=h0z (env:=env) pos as xs;rw[any_eq_false]at this;rw[all_eq_true];intro x hx;simpa using this x hx
 have h3:(d0e as xs).length+([]:List Keyword).length+(if ([]:List Keyword).isEmpty then 0 else 1)<30:=Nat.lt_trans h2 (by decide)
 rw[a1,decide_eq_true h3];rfl
end
section
variable {prog:Program}{w:World}{ca:Nat→Addr}{X:Addr→Prop}{B h h':Heap}{H H':MH}
theorem Ok.off(x:Ok prog w ca X B H h){W:Addr→Prop}(o:Off W h h')(hW:∀ a,W a→H a=none∧B.get? a=none∧∀ vs n,h.get? a≠some (a0l vs n))(hX:∀ a,W a→X a→∃ o,h'.get? a=some o∧∀ vs n,o≠a0l vs n):Ok prog w ca X B H h':=by
 have kt:a0k h h':=fun a vs k e=>o a _ (fun z=>(hW a z).2.2 vs k e) e;refine⟨fun a ob e=>o a ob (fun z=>by have:=(hW a z).2.1;rw[e]at this;cases this) (x.base a ob e),x.sep,fun a ob e=>?_,x.glob,fun a xa=>?_⟩
 ·have nH:∀ b ob,H b=some ob→¬ W b:=fun b ob e z=>by have:=(hW b z).1;rw[e]at this;cases this
  exact(x.objs a ob e).frame kt (fun o' q=>o _ _ (nH _ _ e) q) fun dx o' p q=>⟨o _ _ (nH _ _ p) q,p⟩
 ·obtain⟨f1,f2,ob,f3,f4⟩:=x.frm a xa;refine⟨f1,f2,?_⟩;by_cases z:W a
  ·exact hX a z xa
  ·exact⟨ob,o a ob z f3,f4⟩
set_option tactic.hygienic true in
theorem Ok.adopt(x:Ok prog w ca X B H h){D:Addr}{us:List Value}{c:Nat}{l:List a0a}(g:h.get? D=some (b0n us c))(hH:H D=none)(hB:B.get? D=none)(hX:¬ X D)(r:VRs B h l us):Ok prog w ca X B (upd H D (.list l)) h:=by
 refine⟨x.base,fun a ob e=>?_,fun a ob e=>?_,x.glob,fun a xa=>?_⟩
 ·unfold upd;rw[if_neg]
  ·exact x.sep a ob e
  ·first | exact nef (hB) e (fun e=>by cases e) | exact nef e (hB) (fun e=>by cases e)
 ·unfold upd at e;split at e
  ·rename_i z;clear hH hB hX;subst z;cases e;exact g0p.mkList g r
  ·refine(x.objs a ob e).frame (fun U U U q=>q) (fun U q=>q) fun dx o' p q=>⟨q,?_⟩;unfold upd;rw[if_neg]
   ·exact p
   ·first | exact nef (hH) p (fun e=>by cases e) | exact nef p (hH) (fun e=>by cases e)
 ·obtain⟨f1,f2,f3⟩:=x.frm a xa;refine⟨?_,f2,f3⟩;unfold upd;rw[if_neg]
  ·exact f1
  ·clear g hH hB;rintro rfl;exact hX xa
theorem Ok.wider(x:Ok prog w ca X B H h){X':Addr→Prop}(hX:∀ a,X' a→H a=none∧B.get? a=none∧∃ o,h.get? a=some o∧∀ vs n,o≠a0l vs n):Ok prog w ca X' B H h:=⟨x.base,x.sep,x.objs,x.glob,hX⟩
end
def p1t(B h:Heap):b0u→Flow→Prop
 | .next,f=>f=.next
 | .brk,f=>f=.brk
 | .ret mv,f=>∃ v,f=.ret v∧VR B h mv v
def q0s(C:Cx)(env:Env)(σ:Sc)(H:MH)(s:Shared)(Q:b0u→Loc→MH→Prop):Flow→Shared→Prop:=fun fl s'=>
 ∃ h' tk H' mp' m' mfl,s'={ s with heap:=h',toks:=tk }∧Tr C.X H s.heap H' h'∧St { C with mp:=mp' } H' h'∧f0u { C with mp:=mp' } env σ m' h'∧p1t C.B h' mfl fl∧Q mfl m' H'
def inj(σ:Sc):Prop:=∀ x y i,σ.loc.lookup x=some i→σ.loc.lookup y=some i→x=y
section
variable {C:Cx}{H H':MH}{s:Shared}{h':Heap}{n:Nat}{A:Around}{env:Env}{σ:Sc}{m:Loc}
def WrP(C:Cx)(b:Bool):Addr→Prop:=fun a=>a=C.L∨(C.X a∧b=true)
theorem WrP.x{b:Bool}(S:St C H s.heap){a:Addr}(x:¬ C.X a):¬ WrP C b a:=fun z=>z.elim (fun z=>x (z▸S.hL)) fun z=>x z.1
theorem WrP.off{b:Bool}(S:St C H s.heap){h1 h2:Heap}(o:Off (WrP C b) h1 h2):Off C.X h1 h2:=fun a ob n e=>o a ob (WrP.x S n) e
theorem e0u{b:Bool}(S:St C H s.heap)(e:f0u C env σ m s.heap)(hi:inj σ){x:Str}{i:Nat}(hx:σ.loc.lookup x=some i)(hk:k0f b σ x=true)(him:i<m.length){mv:a0a}{v:Value}(r:VR C.B s.heap mv v){Q:Unit→Shared→Prop}
  (q:∀ mp' h' tk,St { C with mp:=mp' } H h'→f0u { C with mp:=mp' } env σ (m.set i (some mv)) h'→Off (WrP C b) s.heap h'→Q () { s with heap:=h',toks:=tk }) :
  wpAny (model C.prog C.w) A (storeName env x v) Q NoE s:=by
 unfold k0f at hk;rw[Bool.or_eq_true,Bool.and_eq_true,beq_iff_eq,beq_iff_eq]at hk;have hkf:(env.scope.kind == .class || (env.scope.kind == .module&&env.locals != env.globals))=false:=by rw[e.hk];rfl
 have hset:∀ y j mv',σ.loc.lookup y=some j→(m.set i (some mv))[j]?=some (some mv')→(y=x∧mv'=mv)∨(y≠x∧j≠i∧m[j]?=some (some mv')):=by
  intro y j mv' hy hj;by_cases z:j=i
  ·clear q;subst z;have:=hi y x j hy hx;clear hx;subst this;rw[getElem?_set_self him]at hj;cases hj;exact .inl ⟨rfl,rfl⟩
  ·rw[getElem?_set_ne (Ne.symm z)]at hj;exact .inr (Mac.i3_0 (fun w=>z (by rw[w,hx]at hy;exact(Option.some.inj hy).symm)) z hj)
 rcases hk with hk | ⟨hb,hk⟩
 ·refine wpAny_storeName_local (m:=C.mp) (by unfold Env.kindOf;rw[e.hn];exact hk) (by rw[e.hL];exact S.ns) (fun h' hn sb=>?_) hkf;rw[e.hL]at hn sb;have off':Off (WrP C b) s.heap h':=fun a o na ea=>(sb.2 a fun z=>na (.inl z)).trans ea;have off:=WrP.off S off';have okk:=S.ok.off (h':=h') (W:=(·=C.L)) (fun a o na ea=>(sb.2 a na).trans ea) (fun a ha=>by subst ha;exact⟨(S.ok.frm _ S.hL).1,(S.ok.frm _ S.hL).2.1,fun vs k=>S.ok.frmN S.hL vs k⟩) fun a ha xa=>by clear xa;subst ha;exact m0g hn
  have kt:a0k s.heap h':=fun a vs k ea=>off a _ (fun z=>S.ok.frmN z vs k ea) ea;have kc:∀ y c u,env.cells.lookup y=some c→s.heap.IsCell c u→h'.IsCell c u:=fun y c u hc ⟨o,g,d⟩=>(Mac.i3_1 o ((sb.2 c (e.cel y c hc).2.1).trans g) d);refine q (fun y=>if y=x then some v else C.mp y) h' _ ⟨okk,S.hL,hn⟩ ⟨e.hk,e.hn,e.hL,e.hg,e.hb,fun y j mv' hy hj=>?_,fun y c hc=>?_,e.dis,e.has⟩ off'
  ·clear hx q;rcases hset y j mv' hy hj with⟨rfl,rfl⟩ | ⟨h1,h2,h3⟩
   ·exact⟨v,r.mono kt,.inl ⟨hk,by simp⟩⟩
   ·obtain⟨u,r',z⟩:=e.var y j mv' hy h3;refine⟨u,r'.mono kt,?_⟩;rcases z with⟨z1,z2⟩ | ⟨c,z1,z2,z3⟩
    ·exact .inl ⟨z1,by simp[h1,z2]⟩
    ·exact .inr (Mac.i4_1 c z1 z2 (kc _ _ _ z2 z3))
  ·obtain⟨a,b,u,z⟩:=e.cel y c hc;exact⟨a,b,u,kc _ _ _ hc z⟩
 ·obtain⟨c,hc⟩:=e.has x hk;obtain⟨c1,c2,u0,c3⟩:=e.cel x c hc;refine wpAny_storeName_cell e.hk (by unfold Env.kindOf;rw[e.hn];exact hk) hc c3 fun h' cell sb=>?_;have off':Off (WrP C b) s.heap h':=fun a o na ea=>(sb.2 a fun z=>na (.inr (z▸⟨c1,hb⟩))).trans ea;have off:=WrP.off S off';have hcell:∃ o,h'.get? c=some o∧∀ vs k,o≠a0l vs k:=by
   obtain⟨o,g,d⟩:=cell;exact⟨o,g,fun vs k z=>by clear g;subst z;cases d⟩
  have okk:=S.ok.off (h':=h') (W:=(·=c)) (fun a o na ea=>(sb.2 a na).trans ea) (fun a ha=>by clear hc c2 c3 cell sb hcell;subst ha;exact⟨(S.ok.frm _ c1).1,(S.ok.frm _ c1).2.1,fun vs k=>S.ok.frmN c1 vs k⟩) fun a ha xa=>by clear hc c1 c2 c3 cell sb;subst ha;exact hcell
  have kt:a0k s.heap h':=fun a vs k ea=>off a _ (fun z=>S.ok.frmN z vs k ea) ea;have kc:∀ y c' u,env.cells.lookup y=some c'→y≠x→s.heap.IsCell c' u→h'.IsCell c' u:=fun y c' u hc' ny ⟨o,g,d⟩=>(Mac.i3_1 o ((sb.2 c' fun z=>ny (e.dis y x c (z▸hc') hc)).trans g) d);refine q C.mp h' s.toks ⟨okk,S.hL,S.ns.sameBut sb (Ne.symm c2)⟩ ⟨e.hk,e.hn,e.hL,e.hg,e.hb,fun y j mv' hy hj=>?_,fun y c' hc'=>?_,e.dis,e.has⟩ off'
  ·clear hx q;rcases hset y j mv' hy hj with⟨rfl,rfl⟩ | ⟨h1,h2,h3⟩
   ·exact⟨v,r.mono kt,.inr (Mac.i4_1 c hk hc cell)⟩
   ·obtain⟨u,r',z⟩:=e.var y j mv' hy h3;refine⟨u,r'.mono kt,?_⟩;rcases z with z | ⟨c',z1,z2,z3⟩
    ·exact .inl z
    ·exact .inr (Mac.i4_1 c' z1 z2 (kc _ _ _ z2 h1 z3))
  ·by_cases z:y=x
   ·clear hx hset hk kc;subst z;rw[hc]at hc';cases hc';exact⟨c1,c2,_,cell⟩
   ·obtain⟨a,b,u,z'⟩:=e.cel y c' hc';exact⟨a,b,u,kc _ _ _ hc' z z'⟩
theorem Off.trans{W:Addr→Prop}{h1 h2 h3:Heap}(a:Off W h1 h2)(b:Off W h2 h3):Off W h1 h3:=fun x o n e=>b x o n (a x o n e)
theorem Off.refl(W:Addr→Prop)(h:Heap):Off W h h:=fun U U U e=>e
theorem Off.tup(S:St C H s.heap)(o:Off C.X s.heap h'):a0k s.heap h':=fun a vs k ea=>o a _ (fun z=>S.ok.frmN z vs k ea) ea
def g1l(b:Bool)(C:Cx)(env:Env)(σ:Sc)(m':Loc)(H:MH)(s:Shared)(Q:Unit→Shared→Prop):Prop:=
 ∀ mp' h' tk,St { C with mp:=mp' } H h'→f0u { C with mp:=mp' } env σ m' h'→Off (WrP C b) s.heap h'→Q () { s with heap:=h',toks:=tk }
def h0y(prog:Program)(w:World)(env:Env):List Str→List (Value→Sem Unit)→Prop
 | [],[]=>True
 | x::xs,f::fs=>(∀ (A:Around) (s:Shared) (v:Value) (Q:Unit→Shared→Prop),wpAny (model prog w) A (storeName env x v) Q NoE s→wpAny (model prog w) A (f v) Q NoE s)∧h0y prog w env xs fs
 | _,_=>False
theorem m0w(prog:Program)(w:World)(env:Env):∀ xs:List Str,h0y prog w env xs (xs.map fun x=>bindName env x)
 | []=>trivial
 | _::xs=>⟨fun U U U U h=>wpAny_bindName h,m0w prog w env xs⟩
theorem s0a{b:Bool}:∀ (xs:List Str) (is:List Nat) (mvs:List a0a) (vs:List Value) (C:Cx) (m m':Loc) (s:Shared) (H:MH) (A:Around) (Q:Unit→Shared→Prop) (st:List (Value→Sem Unit)),h0y C.prog C.w env xs st→St C H s.heap→f0u C env σ m s.heap→inj σ→
  (xs.map fun x=>σ.loc.lookup x)=is.map some→xs.all (k0f b σ)=true→VRs C.B s.heap mvs vs→b0k is mvs m=some m'→g1l b C env σ m' H s Q→
  wpAny (model C.prog C.w) A (assignInOrder st vs) Q NoE s:=by
 intro xs
 induction xs with
 | nil=>
  intro is mvs vs C m m' s H A Q st hst S e hi hl hk r hs q;cases is with
  | cons=>cases hl
  | nil=>
  cases mvs with
  | cons=>cases hs
  | nil=>
  cases st with
  | cons=>exact hst.elim
  | nil=>
  rw[show _=[] from r];cases hs;exact wpAny_pure (q C.mp s.heap s.toks S e (Off.refl _ _))
 | cons x xs ih=>
  intro is mvs vs C m m' s H A Q st hst S e hi hl hk r hs q;cases is with
  | nil=>cases hl
  | cons i is=>
  cases mvs with
  | nil=>cases hs
  | cons mv mvs=>
  cases st with
  | nil=>exact hst.elim
  | cons f fs=>
  obtain⟨v,vs,e1,r1,r2⟩:=r;subst e1;have hs:(if i<m.length then b0k is mvs (m.set i (some mv)) else none)=some m':=hs
  by_cases him:i<m.length
  ·rw[if_pos him]at hs;refine assignInOrder_cons (hst.1 _ _ _ _ (e0u S e hi (List.cons.inj hl).1 (an1 (all_cons.symm.trans hk)) him r1 fun mp' h' tk S' e' off=>?_));have kt:=Off.tup S (WrP.off S off);exact ih is mvs vs { C with mp:=mp' } _ m' { s with heap:=h',toks:=tk } H A Q fs hst.2 S' e' hi (List.cons.inj hl).2 (an2 (all_cons.symm.trans hk)) (r2.mono kt) hs fun mp2 h2 tk2 S2 e2 off2=>q mp2 h2 tk2 S2 e2 (off.trans off2)
  ·rw[if_neg him]at hs;cases hs
end
def l0g{α β:Type}(C:Cx)(H:MH)(s:Shared)(rel:Heap→β→α→Prop)(Q:β→MH→Prop):α→Shared→Prop:=fun a s'=>
 ∃ h' tk H' b,s'={ s with heap:=h',toks:=tk }∧TrE C.L C.mp H s.heap H' h'∧Ok C.prog C.w C.ca C.X C.B H' h'∧rel h' b a∧Q b H'
abbrev z0a:Heap→Bool→Bool→Prop:=fun U b a=>a=b
section
variable {α β γ δ:Type}{C:Cx}{H H':MH}{s:Shared}{h':Heap}{n:Nat}{A:Around}{env:Env}{σ:Sc}{m:Loc}
theorem l0g.trans{rel:Heap→β→α→Prop}{Q:β→MH→Prop}{H1:MH}{s1:Shared}{h1:Heap}{tk:Nat}(e:s1={ s with heap:=h1,toks:=tk })(t:TrE C.L C.mp H s.heap H1 h1){a:α}{s':Shared}(p:l0g C H1 s1 rel Q a s'):l0g C H s rel Q a s':=by
 obtain⟨h2,tk2,H2,mv,e2,t2,o2,r,q⟩:=p;subst e;exact⟨h2,tk2,H2,mv,e2,t.trans t2,o2,r,q⟩
theorem l0g.mono{rel:Heap→β→α→Prop}{Q Q':β→MH→Prop}{a:α}{s':Shared}(p:l0g C H s rel Q a s')(k:∀ b H',Q b H'→Q' b H'):l0g C H s rel Q' a s':=by
 obtain⟨h2,tk2,H2,mv,e2,t2,o2,r,q⟩:=p;exact⟨h2,tk2,H2,mv,e2,t2,o2,r,k _ _ q⟩
theorem q1w{M:Model}{t:Sem α}{rel:Heap→β→α→Prop}{Q1:β→MH→Prop}{P:α→Shared→Prop}(S:St C H s.heap)(h1:wpAny M A t (l0g C H s rel Q1) NoE s)
  (h2:∀ a h' tk H1 b,St C H1 h'→TrE C.L C.mp H s.heap H1 h'→rel h' b a→Q1 b H1→P a { s with heap:=h',toks:=tk }):wpAny M A t P NoE s:=by
 refine wpAny_mono h1 (fun a s1 p=>?_) fun U U e=>e;obtain⟨h',tk,H1,b,e,t1,o1,r,q⟩:=p;subst e;exact h2 a h' tk H1 b ⟨o1,S.hL,t1.ns⟩ t1 r q
theorem St.same(S:St C H s.heap){rel:Heap→β→α→Prop}{Q:β→MH→Prop}{a:α}{b:β}(r:rel s.heap b a)(q:Q b H)(tk:Nat):l0g C H s rel Q a { s with toks:=tk }:=⟨s.heap,tk,H,b,rfl,TrE.refl S.ns,S.ok,r,q⟩
theorem St.tup(S:St C H s.heap){H1:MH}(t:TrE C.L C.mp H s.heap H1 h'):a0k s.heap h':=t.tups S.ok S.hL
set_option tactic.hygienic true in
theorem w0z{i j:Nat}{x:a0a}{m m':Loc}(h:s0y (.two i j) x m=some m'):∃ u w,x=.tup [u,w]∧i<m.length∧j<m.length∧m'=(m.set i (some u)).set j (some w):=by
 cases x <;> try exact ns h
 rename_i l;rcases l with _ | ⟨u,_ | ⟨w,_ | _⟩⟩ <;> try exact ns h
 replace h:(if i<m.length∧j<m.length then some ((m.set i (some u)).set j (some w)) else none)=some m':=h
 by_cases z:i<m.length∧j<m.length
 ·rw[if_pos z]at h;exact⟨u,w,rfl,z.1,z.2,(Option.some.inj h).symm⟩
 ·rw[if_neg z]at h;exact ns h
theorem w0y{i:Nat}{x:a0a}{m m':Loc}(h:s0y (.one i) x m=some m'):i<m.length∧m'=m.set i (some x):=by
 replace h:(if i<m.length then some (m.set i (some x)) else none)=some m':=h
 by_cases z:i<m.length
 ·rw[if_pos z]at h;exact⟨z,(Option.some.inj h).symm⟩
 ·rw[if_neg z]at h;exact ns h
theorem n0a{t:Tgt}{x:Expr}:g0s (n0g t x):=by
 cases t
 ·exact .inl ⟨_,_,rfl⟩
 ·exact .inr ⟨_,_,_,rfl⟩
theorem d1d{b:Bool}(R:d0t A n){t:Tgt}{x0:Expr}(S:St C H s.heap)(e:f0u C env σ m s.heap)(hi:inj σ)(hts:∀ p∈n0t t x0,σ.loc.lookup p.1=some p.2∧k0f b σ p.1=true){x:a0a}{v:Value}
  (r:VR C.B s.heap x v) {m':Loc} (hs:s0y t x m=some m') {Q:Unit→Shared→Prop} (q:g1l b C env σ m' H s Q):wpAny (model C.prog C.w) A (assign (n0g t x0) env v) Q NoE s:=by
 cases t with
 | one i=>
  obtain⟨h1,h2⟩:=hts _ (.head _);obtain⟨him,rfl⟩:=w0y hs;exact PyProof.Rows.assign_Name (e0u S e hi h1 h2 him r q)
 | two i j=>
  obtain⟨a1,a2⟩:=hts _ (.head _);obtain⟨b1,b2⟩:=hts _ (.tail _ (.head _));obtain⟨u,w,rfl,him,hjm,rfl⟩:=w0z hs;obtain⟨a,vs,k0,rfl,g,v1,r',rfl,ru,v2,r'',rfl,rw',hr⟩:=r;rw[show r''=[] from hr]at g;refine PyProof.Rows.assign_Tuple_tuple (items:=#[v1,v2]) R.hd ⟨_,g,rfl,_,rfl⟩ rfl rfl fun h1 ext=>?_;have gr:b0c C.L C.mp s.heap h1:=b0c.of S.ns fun b o eb=>ext b o (fun z=>by rw[z,b0i]at eb;cases eb) eb;have S1:St C H h1:=⟨S.ok.ext S.hL gr,S.hL,gr.2⟩;have e1:f0u C env σ m h1:=e.keep S (TrE.ext gr);have kt:=gr.tups S.ok S.hL;have hoff:Off (WrP C b) s.heap h1:=fun b o nb eb=>gr.1 b o (fun z=>nb (.inl z)) eb;show wpAny (model C.prog C.w) A (assignInOrder [assign (.Name _ _) env,assign (.Name _ _) env] [v1,v2]) _ _ _;refine assignInOrder_cons (PyProof.Rows.assign_Name (e0u (s:={ s with heap:=h1 }) S1 e1 hi a1 a2 him (ru.mono kt) fun mp2 h2 tk2 S2 e2 off2=>?_));have kt2:=Off.tup S1 (WrP.off (C:=C) (s:={ s with heap:=h1 }) S1 off2);refine assignInOrder_cons (PyProof.Rows.assign_Name (e0u (C:={ C with mp:=mp2 }) (s:={ s with heap:=h2,toks:=tk2 }) S2 e2 hi b1 b2 (by rw[length_set];exact hjm) ((rw'.mono kt).mono kt2) fun mp3 h3 tk3 S3 e3 off3=>?_));exact assignInOrder_nil (q mp3 h3 tk3 S3 e3 (hoff.trans (off2.trans off3)))
end
def ItP(C:Cx)(tg:Expr)(H:MH)(s:Shared)(K:List a0a→(MH→Prop)→MH→Prop):Value→Shared→Prop:=fun it s'=>
 ∃ h' tk H1 W It items okH,s'={ s with heap:=h',toks:=tk }∧TrE C.L C.mp H s.heap H1 h'∧Ok C.prog C.w C.ca C.X C.B H1 h'∧(∀ a,W a→(∀ o,s.heap.get? a=some o→H a=none→False)∧H1 a=none∧C.B.get? a=none∧¬ C.X a)∧
  z0c C.toFx okH items tg it W It∧It 0 h'∧K items okH H1
section
variable {C:Cx}{H H':MH}{s:Shared}{h':Heap}{n:Nat}{A:Around}{env:Env}{σ:Sc}{m:Loc}{tg:Expr}
theorem ItP.trans{K:List a0a→(MH→Prop)→MH→Prop}{H1:MH}{h1:Heap}{tk:Nat}(S:St C H s.heap)(t:TrE C.L C.mp H s.heap H1 h1){a:Value}{s':Shared}(p:ItP C tg H1 { s with heap:=h1,toks:=tk } K a s'):ItP C tg H s K a s':=by
 obtain⟨h2,tk2,H2,W,It,items,okH,e2,t2,o2,hw,it,st,k⟩:=p;refine⟨h2,tk2,H2,W,It,items,okH,e2,t.trans t2,o2,fun a w=>?_,it,st,k⟩;obtain⟨w1,w2,w3,w4⟩:=hw a w;refine⟨fun o q q2=>?_,w2,w3,w4⟩;by_cases z:a=C.L
 ·exact w4 (z▸S.hL)
 ·exact w1 o (t.keep a o z q q2) (t.old a o q q2)
theorem b0w(S:St C H s.heap){a:Addr}(e:s.heap.get? a=none):H a=none∧C.B.get? a=none∧¬ C.X a:=by
 refine⟨S.ok.fresh e,S.ok.freshB e,fun x=>?_⟩;obtain⟨U,U,o,g,U⟩:=S.ok.frm a x;rw[e]at g;cases g
theorem l0z(S:St C H s.heap){K:List a0a→(MH→Prop)→MH→Prop}{W:Addr→Prop}{It:Nat→Heap→Prop}{items:List a0a}{okH:MH→Prop}{it:Value}{tk:Nat}(k:∀ a o,s.heap.get? a=some o→h'.get? a=some o)
  (hw:∀ a,W a→s.heap.get? a=none) (i:z0c C.toFx okH items tg it W It) (st:It 0 h') (q:K items okH H):ItP C tg H s K it { s with heap:=h',toks:=tk }:=by
 have g:b0c C.L C.mp s.heap h':=b0c.of S.ns k;exact⟨h',tk,H,W,It,items,okH,rfl,TrE.ext g,S.ok.ext S.hL g,fun a w=>⟨(fun o q U=>by rw[hw a w]at q;cases q),b0w S (hw a w)⟩,i,st,q⟩
set_option tactic.hygienic true in
theorem c1g(S:St C H s.heap)(ht:g0s tg){x:a0a}{v:Value}(r:VR C.B s.heap x v){K:List a0a→(MH→Prop)→MH→Prop}(q:g0q .plain x H fun l ok=>K l ok H) :
  wpAny (model C.prog C.w) A (pyIter v) (ItP C tg H s K) NoE s:=by
 unfold g0q at q;cases x <;> try exact q.elim
 case tup l=>
  obtain⟨a,vs,k,rfl,g,r⟩:=r;have hne:a≠s.heap.objs.size:=fun z=>by rw[z,b0i]at g;cases g
  refine wpAny_pyIter_tuple (items:=vs.toArray) ⟨_,g,rfl,_,rfl⟩ ?_;have kp:∀ b o,s.heap.get? b=some o→(s.heap.push { cls:=.type "tuple_iterator",data:=.fields #[.ref a,.int 0 0] }).get? b=some o:=fun b o e=>Heap.get?_push_of_some _ e;exact l0z S kp (fun b w=>by rw[w];exact b0i _) (f1b (k:=k) (vs:=vs) ht hne) (Mac.i3_0 (Mac.i4_1 _ (Heap.get?_push_size _ rfl) rfl rfl) (kp _ _ g) (r.mono fun b us c e=>kp _ _ e)) q
 case ref a=>
  rw[show v=.ref a from r];cases q with
   | lst l ho q=>
    obtain⟨vs,k,g,r⟩:=S.ok.objs _ _ ho;have hne:a≠s.heap.objs.size:=fun z=>by rw[z,b0i]at g;cases g
    refine wpAny_pyIter_list (b0x g) ?_;exact l0z S (fun b o e=>Heap.get?_push_of_some _ e) (fun b w=>by rw[w];exact b0i _) (b1f ht hne fun H z=>z) (Mac.i4_1 _ (Heap.get?_push_size _ rfl) rfl rfl) q
   | dic kd kv ep ho q=>
    obtain⟨hkd,q⟩:=q;have o:=S.ok.objs _ _ ho;obtain⟨h1,h2,h3⟩:=o.1;have:kd=1∨kd=2:=by omega
    clear ho hkd h2 h3;rcases this with rfl | rfl
    ·obtain⟨kvs,a1,a2,a3⟩:=c0h o;have hl:=a0j a1;refine wpAny_pyIter_dict (knd:=intKind C.prog C.w) h1 a3 ?_;rw[← hl];exact l0z S (fun b o e=>Heap.get?_push_of_some _ e) (fun b w=>by rw[w];exact b0i _) (r0t (knd:=intKind C.prog C.w) (f:=a0a.int) (fun h k v=>b1a k v) ht (fun H z=>z) fun H h o=>c0h o) ⟨_,Heap.get?_push_size _ rfl,rfl,rfl⟩ q
    ·obtain⟨kvs,a1,a2,a3⟩:=c0t o;have hl:=a0j a1;refine wpAny_pyIter_dict (knd:=strKind C.prog C.w) h1 a3 ?_;rw[← hl];exact l0z S (fun b o e=>Heap.get?_push_of_some _ e) (fun b w=>by rw[w];exact b0i _) (r0t (knd:=strKind C.prog C.w) (f:=a0a.str) (fun h k v=>h1e k v) ht (fun H z=>z) fun H h o=>c0t o) ⟨_,Heap.get?_push_size _ rfl,rfl,rfl⟩ q
set_option tactic.hygienic true in
theorem e1t(S:St C H s.heap)(ht:p1m tg){x:a0a}{v:Value}(r:VR C.B s.heap x v){K:List a0a→(MH→Prop)→MH→Prop}(q:g0q .enum x H fun l ok=>K l ok H) :
  wpAny (model C.prog C.w) A (call (.type "enumerate") [v]) (fun xv s1=>wpAny (model C.prog C.w) A (pyIter xv) (ItP C tg H s K) NoE s1) NoE s:=by
 cases x <;> try exact q.elim
 case ref a=>
  rw[show v=.ref a from r];obtain⟨l,ho,hl,q⟩:=q;obtain⟨vs,k,g,r⟩:=S.ok.objs _ _ ho;have h1:a≠s.heap.objs.size:=Nat.ne_of_lt (Heap.lt_size g);have h2:a≠s.heap.objs.size+1:=Nat.ne_of_lt (Nat.lt_succ_of_lt (Heap.lt_size g));refine call_enumerate_list (b0x g) fun h' e1 e2 e3 kp=>wpAny_pyIter_enum e1 ?_;refine l0z S kp (fun b w=>?_) (b1e ht h2 h1 (Nat.succ_ne_self _) fun H z=>z) ⟨⟨_,e1⟩,e2⟩ q;cases z:s.heap.get? b with
  | none=>rfl
  | some o=>
   have hlt:=Heap.lt_size z;rcases w with w | w
   ·rw[w]at hlt;exact absurd hlt (Nat.not_lt.mpr (Nat.le_succ _))
   ·rw[w]at hlt;exact absurd hlt (Nat.lt_irrefl _)
set_option tactic.hygienic true in
theorem c1o(S:St C H s.heap)(ht:g0s tg){x:a0a}{v:Value}(r:VR C.B s.heap x v){K:List a0a→(MH→Prop)→MH→Prop}(q:g0q .range x H fun l ok=>K l ok H) :
  wpAny (model C.prog C.w) A (call (.type "range") [v]) (fun xv s1=>wpAny (model C.prog C.w) A (pyIter xv) (ItP C tg H s K) NoE s1) NoE s:=by
 cases x <;> try exact q.elim
 case int i=>
  obtain⟨t,rfl⟩:=r;obtain⟨hl0,hl,q⟩:=q;refine call_range_1 ?_;generalize ho:({ cls:=.type "range",data:=.fields #[.int 0 s.toks,.int i t,.int 1 (s.toks+1)] }:Obj)=ob;have gr:IsRange (s.heap.push ob) s.heap.objs.size 0 i 1 s.toks t (s.toks+1):=by subst ho;exact Heap.get?_push_size _ rfl
  have hsz:Builtin.Range.rangeSize 0 i 1=((i.toNat:Nat):Int):=by
   unfold Builtin.Range.rangeSize;rw[if_pos (by omega)];split
   ·rw[Int.ediv_one];omega
   ·omega
  refine wpAny_pyIter_range gr ?_ ?_
  ·unfold Builtin.Range.small Builtin.Range.rangeFitsLong;rw[hsz];rw[if_pos (by decide)];simp only[Bool.and_eq_true,Bool.or_eq_true,decide_eq_true_eq,beq_iff_eq];omega
  ·rw[hsz];have kp:∀ b o,s.heap.get? b=some o→((s.heap.push ob).push { cls:=.type "range_iterator",data:=.fields #[rawInt 0,rawInt ((i.toNat:Nat):Int),rawInt 1] }).get? b=some o:=fun b o e=>Heap.get?_push_of_some _ (Heap.get?_push_of_some _ e);refine l0z S kp (fun b w=>?_) (y0d (n:=i.toNat) ht) ?_ q
   ·rw[w];cases z:s.heap.get? (s.heap.push ob).objs.size with
    | none=>rfl
    | some o=>exact absurd (Heap.lt_size (Heap.get?_push_of_some ob z)) (Nat.lt_irrefl _)
   ·show IsRangeIter _ _ ((0:Nat):Int) _ _;have:((i.toNat:Nat):Int)-((0:Nat):Int)=((i.toNat:Nat):Int):=by omega
    rw[this];exact Heap.get?_push_size _ rfl
set_option tactic.hygienic true in
theorem g1e(S:St C H s.heap)(ht:g0s tg){x:a0a}{v:Value}(r:VR C.B s.heap x v){K:List a0a→(MH→Prop)→MH→Prop}(q:g0q .vals x H fun l ok=>K l ok H) :
  wpAny (model C.prog C.w) A (call (.builtin "dict.values") [v]) (fun xv s1=>wpAny (model C.prog C.w) A (pyIter xv) (ItP C tg H s K) NoE s1) NoE s:=by
 unfold g0q at q;cases x <;> try exact q.elim
 case ref a=>
  rw[show v=.ref a from r];obtain⟨kd,kv,ep,ho,hkd,q⟩:=q;have o:=S.ok.objs _ _ ho;obtain⟨h1,h2,h3⟩:=o.1;have haL:a≠C.L:=by clear r q o h1;rintro rfl;have:=(S.ok.frm _ S.hL).1;rw[ho]at this;cases this
  have fin:∀ {K':Type} [DecidableEq K'] (knd:PySem.KeyKind C.prog C.w K') (f:K'→a0a) (hat:∀ H h,g0p C.prog C.w C.ca C.B H h a (.dict kd kv ep)→∃ kvs:List (K'×Value),kv.map (·.1)=kvs.map (fun p=>f p.1)∧VRs C.B h (kv.map (·.2)) (kvs.map (·.2))∧h.DictAt knd a kvs ep),
    wpAny (model C.prog C.w) A (call (.builtin "dict.values") [.ref a]) (fun xv s1=>wpAny (model C.prog C.w) A (pyIter xv) (ItP C tg H s K) NoE s1) NoE s:=by
   intro K' U knd f hat;obtain⟨kvs,a1,a2,a3⟩:=hat _ _ o;have hl:=a0j a1;obtain⟨od,g,d⟩:=l0j a3;refine kta_callValues (k0s S.ns) (c0v s.heap C.L) (b0d.mpr ⟨g,haL⟩) d h1 fun h' hv F N=>?_;have g1:b0c C.L C.mp s.heap h':=f0d F N fun p z=>z;have S1:St C H h':=⟨S.ok.ext S.hL g1,S.hL,g1.2⟩;obtain⟨kvs',b1,b2,b3⟩:=hat _ _ (S1.ok.objs _ _ ho);have hl':=a0j b1;refine wpAny_pyIter_values hv b3 ?_;rw[← hl'];have:=l0z (C:=C) (tg:=tg) (s:={ s with heap:=h' }) (h':=h'.push { cls:=.type "dict_valueiterator",data:=.fields #[.ref a,.int 0 0,.int kv.length 0,.int ep 0] }) (tk:=s.toks) S1 (fun b o e=>Heap.get?_push_of_some _ e) (fun b w=>by rw[w];exact b0i _) (b1g (knd:=knd) (f:=f) ht (fun H z=>z) hat) (Mac.i4_1 _ (Heap.get?_push_size _ rfl) rfl rfl) q;exact ItP.trans S (TrE.ext g1) this
  have:kd=1∨kd=2:=by omega
  clear ho hkd q o h2 h3;rcases this with rfl | rfl
  ·exact fin (intKind C.prog C.w) a0a.int fun H h o=>c0h o
  ·exact fin (strKind C.prog C.w) a0a.str fun H h o=>c0t o
end
noncomputable def clr:Tgt→Loc→Loc
 | .one i,m=>m.set i none
 | .two i j,m=>(m.set i none).set j none
set_option tactic.hygienic true in
theorem w0x{t:Tgt}{x0:Expr}(h:y0s t x0=true)(x:a0a)(m:Loc):s0y t x (clr t m)=s0y t x m:=by
 cases t with
 | one i=>
  show(if i<(m.set i none).length then some ((m.set i none).set i (some x)) else none)=_
  rw[length_set,set_set];rfl
 | two i j=>
  have hij:i≠j:=of_decide_eq_true (an2 h);cases x <;> try rfl
  rename_i l;rcases l with _ | ⟨u,_ | ⟨w,_ | _⟩⟩ <;> try rfl
  show(if i<((m.set i none).set j none).length∧j<((m.set i none).set j none).length then some ((((m.set i none).set j none).set i (some u)).set j (some w)) else none)=_
  rw[length_set,length_set,set_comm _ _ hij.symm,set_set,set_set];rfl
theorem e1k{t:Tgt}{x0:Expr}(m:Loc):∀ p∈n0t t x0,∀ v,(clr t m)[p.2]?≠some (some v):=by
 have no:∀ (l:Loc) (i:Nat) (v:a0a),(l.set i none)[i]?≠some (some v):=fun l i v e=>by
  rw[getElem?_set,if_pos rfl]at e;split at e <;> cases e
 cases t with
 | one i=>
  intro p hp v e;rw[show p=_ from mem_singleton.mp hp]at e;exact no _ _ _ e
 | two i j=>
  intro p hp v e;rcases mem_cons.mp hp with h | h
  ·rw[h]at e;by_cases z:j=i
   ·exact no (m.set i none) i v (z▸e)
   ·exact no m i v ((getElem?_set_ne z).symm.trans e)
  ·rw[show p=_ from mem_singleton.mp h]at e;exact no _ _ _ e
theorem e1l{t:Tgt}{m:Loc}{i:Nat}{v:a0a}(e:(clr t m)[i]?=some (some v)):m[i]?=some (some v):=by
 cases t with
 | one j=>
  simp only[clr]at e;rw[getElem?_set]at e;split at e
  ·split at e <;> cases e
  ·exact e
 | two j k=>
  simp only[clr]at e;rw[getElem?_set,getElem?_set]at e;split at e
  ·split at e <;> cases e
  ·split at e
   ·split at e <;> cases e
   ·exact e
theorem d1f{t:Tgt}{x:a0a}{m m':Loc}(h:s0y t x m=some m'){i:Nat}{v:a0a}(e:(clr t m)[i]?=some (some v)):m'[i]?=some (some v):=by
 cases t with
 | one j=>
  obtain⟨a,rfl⟩:=w0y h;simp only[clr]at e;rw[getElem?_set]at e ⊢;by_cases z:j=i
  ·rw[if_pos z]at e;split at e <;> cases e
  ·rw[if_neg z]at e ⊢;exact e
 | two j k=>
  obtain⟨u,w,rfl,a,b,rfl⟩:=w0z h;simp only[clr]at e;rw[getElem?_set,getElem?_set]at e ⊢;by_cases z:k=i
  ·rw[if_pos z]at e;split at e <;> cases e
  ·rw[if_neg z]at e ⊢;by_cases z:j=i
   ·rw[if_pos z]at e;split at e <;> cases e
   ·rw[if_neg z]at e ⊢;exact e
theorem l0u{α β:Type}(f:α→β→Sem (ForInStep β))(g:α→β→β):∀ (l:List α),(∀ x∈l,∀ b,f x b=pure (.yield (g x b)))→∀ b,forIn l b f=(pure (l.foldl (fun b x=>g x b) b):Sem β)
 | [],_,b=>rfl
 | x::l,h,b=>by
  rw[forIn_cons,h x (.head _) b];exact l0u f g l (fun y hy=>h y (.tail _ hy)) _
noncomputable def d1t(cells:List (Str×Addr))(p:Str×NameKind)(cs:List (Str×Addr)):List (Str×Addr):=if p.2 == .free then(p.1,(cells.lookup p.1).getD 0)::cs else cs
set_option tactic.hygienic true in
theorem r0d(cells:List (Str×Addr)):∀ (names:List (Str×NameKind)) (cs:List (Str×Addr)),(∀ p∈names,p.2=.free→∃ c,cells.lookup p.1=some c)→(∀ x c,cs.lookup x=some c→cells.lookup x=some c)→
  (∀ x c,(names.foldl (fun b p=>d1t cells p b) cs).lookup x=some c→cells.lookup x=some c)∧(∀ x,((∃ c,cs.lookup x=some c)∨(x,NameKind.free)∈names)→∃ c,(names.foldl (fun b p=>d1t cells p b) cs).lookup x=some c)
 | [],cs,_,h=>⟨h,fun x hx=>hx.elim id fun z=>by cases z⟩
 | p::names,cs,hc,h=>by
  have hcs:∀ x c,(d1t cells p cs).lookup x=some c→cells.lookup x=some c:=by
   intro x c e;unfold d1t at e;split at e
   ·rename_i hf;rw[lookup_cons]at e;split at e
    ·rename_i hx;rw[beq_iff_eq]at hx;obtain⟨c',hc'⟩:=hc p (.head _) (by simpa using hf);cases e;rw[hx,hc'];rfl
    ·exact h _ _ e
   ·exact h _ _ e
  obtain⟨a,b⟩:=r0d cells names (d1t cells p cs) (fun q hq=>hc q (.tail _ hq)) hcs;refine⟨a,fun x hx=>b x ?_⟩;rcases hx with⟨c,hx⟩ | hx
  ·refine .inl ?_;unfold d1t;split
   ·rw[lookup_cons];split
    ·exact⟨_,rfl⟩
    ·exact⟨c,hx⟩
   ·exact⟨c,hx⟩
  ·rcases mem_cons.mp hx with e | hx
   ·refine .inl ?_;clear hc hcs a b hx;subst e;unfold d1t;rw[if_pos (beq_iff_eq.mpr rfl),lookup_cons];simp
   ·exact .inr hx
theorem t0k{scope:Scope}{env:Env}(h:∀ p∈scope.names,p.2=.free→∃ c,env.cells.lookup p.1=some c) :
  ∃ cl,closureFor scope env=pure cl∧(∀ x c,cl.lookup x=some c→env.cells.lookup x=some c)∧(∀ x,(x,NameKind.free)∈scope.names→∃ c,cl.lookup x=some c):=by
 refine⟨scope.names.foldl (fun b p=>d1t env.cells p b) [],?_,?_⟩
 ·unfold closureFor;show(forIn scope.names [] _ >>= _)=_;rw[l0u _ (d1t env.cells) scope.names]
  ·rfl
  ·rintro⟨name,kind⟩ hp b;unfold d1t;cases hk:kind == NameKind.free with
   | false=>simp only[Bool.false_eq_true,if_false,hk]
   | true=>
    obtain⟨c,hc⟩:=h _ hp (by simpa using hk);simp only[hk,if_true];unfold cellOf;dsimp only at hc;rw[hc];rfl
 ·obtain⟨a,b⟩:=r0d env.cells scope.names [] h (fun x c e=>by cases e);exact⟨a,fun x hx=>b x (.inr hx)⟩
section
variable {C:Cx}{H H':MH}{s:Shared}{h h':Heap}{n:Nat}{A:Around}{env:Env}{σ:Sc}{m:Loc}
theorem f0u.off(e:f0u C env σ m h)(kt:a0k h h')(kx:∀ a o,C.X a→a≠C.L→h.get? a=some o→h'.get? a=some o):f0u C env σ m h':=by
 have kc:∀ x c v,env.cells.lookup x=some c→h.IsCell c v→h'.IsCell c v:=fun x c v q ⟨o,g,d⟩=>by
  obtain⟨a,b,U⟩:=e.cel x c q;exact⟨o,kx c o a b g,d⟩
 refine⟨e.hk,e.hn,e.hL,e.hg,e.hb,fun x i mv q w=>?_,fun x c q=>?_,e.dis,e.has⟩
 ·obtain⟨v,r,z⟩:=e.var x i mv q w;refine⟨v,r.mono kt,?_⟩;rcases z with z | ⟨c,z1,z2,z3⟩
  ·exact .inl z
  ·exact .inr (Mac.i4_1 c z1 z2 (kc _ _ _ z2 z3))
 ·obtain⟨a,b,v,z⟩:=e.cel x c q;exact⟨a,b,v,kc _ _ _ q z⟩
theorem f0u.less{m2:Loc}(e:f0u C env σ m h)(k:∀ (i:Nat) v,m2[i]?=some (some v)→m[i]?=some (some v)):f0u C env σ m2 h:=
 ⟨e.hk,e.hn,e.hL,e.hg,e.hb,fun x i mv q w=>e.var x i mv q (k _ _ w),e.cel,e.dis,e.has⟩
theorem St.off(S:St C H h){W:Addr→Prop}(o:Off W h h')(hW:∀ a,W a→H a=none∧C.B.get? a=none∧¬ C.X a)(ht:∀ a,W a→∃ o,h.get? a=some o∧∀ vs n,o≠a0l vs n):St C H h':=by
 refine⟨S.ok.off o (fun a w=>(Mac.i3_0 ((hW a w).1) ((hW a w).2.1) (fun vs k e=>?_))) fun a w x=>absurd x (hW a w).2.2,S.hL,S.ns.at' fun ob e=>o _ _ (fun w=>(hW _ w).2.2 S.hL) e⟩;obtain⟨ob,e',z⟩:=ht a w;rw[e]at e';cases e';exact z _ _ rfl
noncomputable def d0i(C:Cx)(Cad:Addr)(mp:Str→Option Value):Cx:={ C with X:=fun a=>C.X a∨a=Cad,L:=Cad,mp:=mp }
structure LS(C:Cx)(s0:Heap)(H0:MH)(W:Addr→Prop)(D Cad:Addr)(cenv:Env)(σ:Sc)(H:MH)(h:Heap)(acc:List a0a)(mp:Str→Option Value)(m:Loc):Prop where
 S:St (d0i C Cad mp) H h
 e:f0u (d0i C Cad mp) cenv σ m h
 d:∃ us c,h.get? D=some (b0n us c)∧VRs C.B h acc us
 hD:H D=none
 hW:∀ a,W a→H a=none
 tW:∀ a,W a→∃ o,h.get? a=some o∧∀ vs n,o≠a0l vs n
 keep:∀ a o,¬ W a→s0.get? a=some o→H0 a=none→h.get? a=some o
 old:∀ a o,s0.get? a=some o→H0 a=none→H a=none
structure l1e(C:Cx)(s0:Heap)(H0:MH)(W:Addr→Prop)(D Cad:Addr):Prop where
 dW:¬ W D
 cW:¬ W Cad
 dC:D≠Cad
 fD:s0.get? D=none
 fC:s0.get? Cad=none
 xD:¬ C.X D
 bD:C.B.get? D=none
 W':∀ a,W a→H0 a=none∧C.B.get? a=none∧¬ C.X a
variable {s0:Heap}{H0:MH}{W:Addr→Prop}{D Cad:Addr}{cenv:Env}{acc:List a0a}{mp mp':Str→Option Value}{m':Loc}
theorem LS.less(x:LS C s0 H0 W D Cad cenv σ H h acc mp m)(k:∀ (i:Nat) v,m'[i]?=some (some v)→m[i]?=some (some v)):LS C s0 H0 W D Cad cenv σ H h acc mp m':=⟨x.S,x.e.less k,x.d,x.hD,x.hW,x.tW,x.keep,x.old⟩
theorem LS.tr(x:LS C s0 H0 W D Cad cenv σ H h acc mp m)(f:l1e C s0 H0 W D Cad)(ok:Ok C.prog C.w C.ca (d0i C Cad mp).X C.B H' h')(t:TrE Cad mp H h H' h'):LS C s0 H0 W D Cad cenv σ H' h' acc mp m:=by
 obtain⟨us,c,g,r⟩:=x.d;have hX:(d0i C Cad mp).X Cad:=.inr rfl;have kt:=t.tups x.S.ok hX;refine⟨⟨ok,hX,t.ns⟩,?_,(Mac.i4_2 us c (t.keep D _ f.dC g x.hD) (r.mono kt)),t.old D _ g x.hD,fun a w=>?_,fun a w=>?_,fun a o nw e e0=>?_,fun a o e e0=>?_⟩
 ·exact f0u.keep (s:={ heap:=h,toks:=0 }) x.e x.S t
 ·obtain⟨o,q,U⟩:=x.tW a w;exact t.old a o q (x.hW a w)
 ·obtain⟨o,q,z⟩:=x.tW a w;exact⟨o,t.keep a o (fun z=>f.cW (z▸w)) q (x.hW a w),z⟩
 ·exact t.keep a o (fun z=>by clear x ok t hX;subst z;rw[f.fC]at e;cases e) (x.keep a o nw e e0) (x.old a o e e0)
 ·by_cases w:W a
  ·obtain⟨o,q,U⟩:=x.tW a w;exact t.old a o q (x.hW a w)
  ·exact t.old a o (x.keep a o w e e0) (x.old a o e e0)
theorem LS.off(x:LS C s0 H0 W D Cad cenv σ H h acc mp m)(f:l1e C s0 H0 W D Cad)(o:Off W h h')(tW:∀ a,W a→∃ o,h'.get? a=some o∧∀ vs n,o≠a0l vs n):LS C s0 H0 W D Cad cenv σ H h' acc mp m:=by
 obtain⟨us,c,g,r⟩:=x.d;have hW:∀ a,W a→H a=none∧(d0i C Cad mp).B.get? a=none∧¬ (d0i C Cad mp).X a:=fun a w=>(Mac.i3_0 (x.hW a w) ((f.W' a w).2.1) (fun z=>z.elim (f.W' a w).2.2 fun z=>f.cW (z▸w)));have kt:a0k h h':=fun a vs k e=>o a _ (fun w=>by obtain⟨ob,q,z⟩:=x.tW a w;rw[e]at q;cases q;exact z _ _ rfl) e;refine⟨x.S.off o hW x.tW,x.e.off kt fun a ob xa U e=>o a ob (fun w=>(hW a w).2.2 xa) e,(Mac.i4_2 us c (o D _ f.dW g) (r.mono kt)),x.hD,x.hW,tW,fun a ob nw e e0=>o a ob nw (x.keep a ob nw e e0),x.old⟩
theorem LS.store(x:LS C s0 H0 W D Cad cenv σ H h acc mp m)(f:l1e C s0 H0 W D Cad)(S':St (d0i C Cad mp') H h')(e':f0u (d0i C Cad mp') cenv σ m' h')(o:Off (·=Cad) h h'):LS C s0 H0 W D Cad cenv σ H h' acc mp' m':=by
 obtain⟨us,c,g,r⟩:=x.d;have kt:a0k h h':=fun a vs k e=>o a _ (fun z=>by clear f S' e' o;subst z;exact x.S.ok.frmN x.S.hL vs k e) e;refine⟨S',e',(Mac.i4_2 us c (o D _ f.dC g) (r.mono kt)),x.hD,x.hW,fun a w=>?_,fun a ob nw e e0=>?_,x.old⟩
 ·obtain⟨ob,q,z⟩:=x.tW a w;exact⟨ob,o a _ (fun z=>f.cW (z▸w)) q,z⟩
 ·exact o a ob (fun w=>by clear x S' e' o;subst w;rw[f.fC]at e;cases e) (x.keep a ob nw e e0)
theorem LS.app(x:LS C s0 H0 W D Cad cenv σ H h acc mp m)(f:l1e C s0 H0 W D Cad){us':List Value}{c:Nat}{l':List a0a}(g:h'.get? D=some (b0n us' c))(sb:Heap.SameBut D h h')(r:VRs C.B h l' us'):LS C s0 H0 W D Cad cenv σ H h' l' mp m:=by
 have o:Off (·=D) h h':=c0j sb;have nt:∀ a,a=D→∃ o,h.get? a=some o∧∀ vs n,o≠a0l vs n:=by
  clear f g sb o;rintro a rfl;obtain⟨us,c,g,r⟩:=x.d;exact⟨_,g,fun vs n z=>by have:=congrArg Obj.cls z;injection this with h;exact absurd h (by decide)⟩
 have xD:¬ (d0i C Cad mp).X D:=fun z=>z.elim f.xD f.dC;have kt:a0k h h':=fun a vs k e=>o a _ (fun w=>by obtain⟨ob,q,z⟩:=nt a w;rw[e]at q;cases q;exact z _ _ rfl) e;refine⟨x.S.off o (fun a w=>by clear g sb o nt;subst w;exact⟨x.hD,f.bD,xD⟩) nt,x.e.off kt fun a ob xa U e=>o a ob (fun w=>by clear x f g sb o nt;subst w;exact xD xa) e,(Mac.i4_2 us' c g (r.mono kt)),x.hD,x.hW,fun a w=>?_,fun a ob nw e e0=>?_,x.old⟩
 ·obtain⟨ob,q,z⟩:=x.tW a w;exact⟨ob,o a _ (fun z=>f.dW (z▸w)) q,z⟩
 ·exact o a ob (fun w=>by clear x g sb o nt xD;subst w;rw[f.fD]at e;cases e) (x.keep a ob nw e e0)
end
set_option tactic.hygienic true in
theorem d0b{β:Type}:∀ {l:List (Str×β)} {x:Str} {v:β},l.lookup x=some v→(x,v)∈l
 | [],_,_,h=>by cases h
 | (y,w)::l,x,v,h=>by
  rw[lookup_cons]at h;split at h
  ·rename_i z;cases h;rw[beq_iff_eq]at z;rw[z];exact .head _
  ·exact .tail _ (d0b h)
theorem o0d{β:Type}:∀ {l r:List (Str×β)} {x:Str},(l++r).lookup x=(l.lookup x).or (r.lookup x)
 | [],_,_=>rfl
 | (y,w)::l,r,x=>by
  rw[cons_append,lookup_cons,lookup_cons];split
  ·rfl
  ·exact o0d
set_option tactic.hygienic true in
theorem f0f{β:Type}(p:Str→Bool):∀ {l:List (Str×β)} {x:Str} {v:β},(l.filter fun q=>p q.1).lookup x=some v→p x=true∧l.lookup x=some v
 | [],_,_,h=>by cases h
 | (y,w)::l,x,v,h=>by
  rw[filter_cons]at h;split at h
  ·rename_i hp;rw[lookup_cons]at h ⊢;split at h
   ·rename_i z;rw[beq_iff_eq]at z;subst z;exact⟨hp,h⟩
   ·exact f0f p h
  ·rename_i hp;obtain⟨a,b⟩:=f0f p h;refine⟨a,?_⟩;rw[lookup_cons];split
   ·rename_i z;rw[beq_iff_eq]at z;subst z;exact absurd a hp
   ·exact b
theorem g0w(kinds:List (Str×NameKind)):∀ (names:List (Str×NameKind)) (x:Str),(d0f kinds names).lookup x=(names.lookup x).map fun k=>if k == NameKind.free&&kinds.lookup x == some .cell then .cell else k
 | [],_=>rfl
 | (y,k)::l,x=>by
  have ih:=g0w kinds l x;have e:d0f kinds ((y,k)::l)=(y,if k == NameKind.free&&kinds.lookup y == some .cell then .cell else k)::d0f kinds l:=by
   unfold d0f;rw[map_cons];dsimp only;split <;> rfl
  rw[e,lookup_cons,lookup_cons];by_cases z:x=y
  ·clear e;subst z;rw[beq_self_eq_true];rfl
  ·have zb:(x == y)=false:=beq_eq_false_iff_ne.mpr z;rw[zb];exact ih
theorem g1b{σ:Sc}(h:l1m σ.loc=true):inj σ:=fun x y i hx hy=>by
 unfold l1m at h;rw[all_eq_true]at h;have:=h _ (d0b hx);rw[all_eq_true]at this;have:=this _ (d0b hy);dsimp only at this;rw[beq_self_eq_true]at this;simpa using this
structure z0b(σ:Sc)(scope:Scope)(ts:List (Str×Nat)):Prop where
 kind:scope.kind=.function
 ncell:∀ y∈scope.names,y.2≠.cell
 nloc:∀ y∈scope.names,y.2=.local→scope.names.lookup y.1=some .local
 nfree:∀ y∈scope.names,y.2=.free→σ.kinds.lookup y.1=some .cell
 tsok:∀ p∈ts,(d0w σ scope.names ts).loc.lookup p.1=some p.2∧k0f false (d0w σ scope.names ts) p.1=true
 inj:inj (d0w σ scope.names ts)
theorem z0b.of{σ:Sc}{scope:Scope}{ts:List (Str×Nat)}(h:v0m σ scope ts=true):z0b σ scope ts:=by
 unfold v0m at h;simp only[Bool.and_eq_true,decide_eq_true_eq,all_eq_true,Bool.or_eq_true,Bool.not_eq_true',beq_iff_eq,bne_iff_ne]at h;obtain⟨⟨⟨⟨⟨a,b⟩,c⟩,d⟩,e⟩,f⟩:=h;refine⟨a,b,fun y hy z=>?_,fun y hy z=>?_,e,g1b f⟩
 ·rcases c y hy with h | h
  ·rw[z]at h;cases h
  ·exact h
 ·rcases d y hy with h | h
  ·rw[z]at h;cases h
  ·exact h
section
variable {C:Cx}{H H':MH}{s:Shared}{h h':Heap}{n:Nat}{A:Around}{env:Env}{σ:Sc}{m:Loc}
set_option tactic.hygienic true in
theorem e1q{scope:Scope}{t:Tgt}{x0:Expr}{cl:List (Str×Addr)}{Cad:Addr}{mp:Str→Option Value}(e:f0u C env σ m h)(f:z0b σ scope (n0t t x0))
  (c1:∀ x c,cl.lookup x=some c→env.cells.lookup x=some c) (c2:∀ x,(x,NameKind.free)∈scope.names→∃ c,cl.lookup x=some c) (fr:h.get? Cad=none) (kp:∀ a o,h.get? a=some o→h'.get? a=some o) :
  f0u (d0i C Cad mp) (compEnvC scope cl Cad env) (d0w σ scope.names (n0t t x0)) (clr t m) h':=by
 have kt:a0k h h':=fun a vs k q=>kp _ _ q;have hk:(relabel scope env).names=d0f σ.kinds scope.names:=by
  unfold relabel d0f;dsimp only;apply map_congr_left;rintro⟨x,k⟩ U;dsimp only;rw[show env.kindOf x=σ.kinds.lookup x by unfold Env.kindOf;rw[e.hn],e.hk];simp
 have cellK:∀ x,(d0f σ.kinds scope.names).lookup x=some .cell→(x,NameKind.free)∈scope.names∧σ.kinds.lookup x=some .cell:=by
  intro x hx;rw[g0w]at hx;cases q:scope.names.lookup x with
  | none=>rw[q]at hx;cases hx
  | some k=>
   rw[q]at hx;simp only[map_some,Option.some.injEq]at hx;split at hx
   ·rename_i hc;simp only[Bool.and_eq_true,beq_iff_eq]at hc;rw[hc.1]at q;exact⟨d0b q,hc.2⟩
   ·subst hx;exact absurd rfl (f.ncell _ (d0b q))
 have kc:∀ x c v,env.cells.lookup x=some c→h.IsCell c v→h'.IsCell c v:=fun x c v q ⟨o,g,d⟩=>(Mac.i3_1 o (kp _ _ g) d);refine⟨f.kind,hk,rfl,e.hg,e.hb,fun x i mv q w=>?_,fun x c q=>?_,fun x y c q1 q2=>e.dis x y c (c1 _ _ q1) (c1 _ _ q2),fun x hx=>c2 x (cellK x hx).1⟩
 ·change ((n0t t x0)++σ.loc.filter fun p=>(d0f σ.kinds scope.names).lookup p.1 == some .cell).lookup x=some i at q;rw[o0d]at q;cases z:(n0t t x0).lookup x with
  | some j=>
   rw[z]at q;cases q;exact absurd w (e1k m _ (d0b z) mv)
  | none=>
   rw[z]at q;obtain⟨q1,q2⟩:=f0f (fun x=>(d0f σ.kinds scope.names).lookup x == some .cell) q;rw[beq_iff_eq]at q1;obtain⟨k1,k2⟩:=cellK x q1;obtain⟨v,r,z⟩:=e.var x i mv q2 (e1l w);refine⟨v,r.mono kt,?_⟩;rcases z with⟨z,U⟩ | ⟨c,z1,z2,z3⟩
   ·rw[k2]at z;cases z
   ·obtain⟨c',hc'⟩:=c2 x k1;have:=c1 x c' hc';rw[z2]at this;cases this;exact .inr (Mac.i4_1 c q1 hc' (kc _ _ _ z2 z3))
 ·obtain⟨a,b,v,z⟩:=e.cel x c (c1 _ _ q);refine⟨.inl a,fun y=>?_,v,kc _ _ _ (c1 _ _ q) z⟩;obtain⟨o,g,U⟩:=z;rw[show c=Cad from y,fr]at g;cases g
end
noncomputable abbrev w0w(cs:List Expr)(env:Env):Sem Bool:=forIn cs true fun c r=>if r=true then do let ok←isTrue c env (eval c env);pure (ForInStep.yield ok) else pure (ForInStep.yield r)
theorem a1d{prog:Program}{w:World}{A:Around}{R:Result→Shared→Prop}{elt tg iter:Expr}{cs:List Expr}{scope:Scope}{pos:Pos}{it acc:Value}{env:Env}(I:Nat→Shared→Prop)(P2 P5:Nat→Value→Shared→Prop)(P3 P4:Nat→Shared→Prop)
  (h1:∀ n s,I n s→wpAny (model prog w) A (pyNext it) (fun r s1=>match r with
   | none=>R (.ok .next) s1
   | some v=>wpAny (model prog w) A (letOwnedTupleGo tg it v) (fun U s'=>P2 n v s') NoE s1) NoE s)
  (h3:∀ n v s,P2 n v s→wpAny (model prog w) A (assign tg env v) (fun U s'=>P3 n s') NoE s)
  (h4:∀ n s,P3 n s→wpAny (model prog w) A (w0w cs env) (fun b s'=>(b=true→P4 n s')∧(b=false→∃ m,m<n∧I m s')) NoE s)
  (h5:∀ n s,P4 n s→wpAny (model prog w) A (eval elt env) (P5 n) NoE s)
  (h6:∀ n x s,P5 n x s→wpAny (model prog w) A (call (.builtin "list.append") [acc,x]) (fun U s'=>∃ m,m<n∧I m s') NoE s) (n:Nat) (s:Shared) (h:I n s) :
  codeAny (model prog w) A (.compLoop (.ListComp elt [⟨tg,iter,cs,0⟩] scope pos) 0 it acc env) R s:=by
 refine codeAny_loop rfl I (fun n s hI=>?_) n h;show wpAny _ A ((compTurn (.ListComp elt [⟨tg,iter,cs,0⟩] scope pos) 0 it acc env).onRaise (fun x=>do noteFrame x env;theTreesLotGoes x)) _ _ s
 refine wpAny_noted ?_;rw[compTurn_list];refine wpAny_bind (wpAny_standAt (wpAny_bind (wpAny_mono (h1 n s hI) (fun r s1 q=>?_) fun U U e=>e.elim)));cases r with
 | none=>exact wpAny_pure q
 | some v=>
  refine wpAny_bind (wpAny_mono q (fun U s2 q=>wpAny_bind (wpAny_mono (h3 n v s2 q) (fun U s3 q=>wpAny_bind (wpAny_mono (h4 n s3 q) (fun b s4 q=>?_) fun U U e=>e.elim)) fun U U e=>e.elim)) fun U U e=>e.elim);cases b with
  | false=>exact wpAny_pure ⟨rfl,q.2 rfl⟩
  | true=>exact wpAny_bind (wpAny_bind (wpAny_mono (h5 n s4 (q.1 rfl)) (fun x s5 q=>wpAny_bind (wpAny_mono (h6 n x s5 q) (fun U s6 q=>wpAny_pure (wpAny_pure ⟨rfl,q⟩)) fun U U e=>e.elim)) fun U U e=>e.elim))
set_option genCtorIdx false in
structure CK where
 C:Cx
 s:Shared
 H:MH
 W:Addr→Prop
 D:Addr
 Cad:Addr
 cenv:Env
 σ:Sc
 m:Loc
 t:Tgt
 It:Nat→Heap→Prop
 items:List a0a
 okH:MH→Prop
 Q:List a0a→MH→Prop
 F:Loc→MH→a0d→Prop
 T:Loc→MH→(Bool→MH→Prop)→Prop
namespace CK
variable (K:CK)
abbrev LS(H:MH)(h:Heap)(acc:List a0a)(mp:Str→Option Value)(m:Loc):Prop:=Mine.LS K.C K.s.heap K.H K.W K.D K.Cad K.cenv K.σ H h acc mp m
def rest(i:Nat)(acc:List a0a)(H:MH):Prop:=k0i K.F K.T K.t K.okH K.m (K.items.drop i) H acc K.Q
def aft(i:Nat)(acc:List a0a)(m:Loc)(b:Bool)(H:MH):Prop:=if b=true then K.F m H fun v H2=>K.rest (i+1) (acc++[v]) H2 else K.rest (i+1) acc H
inductive In(n:Nat):Shared→Prop
 | mk (i:Nat) (H:MH) (h:Heap) (tk:Nat) (acc:List a0a) (mp:Str→Option Value):n=K.items.length-i→i≤K.items.length→K.LS H h acc mp (clr K.t K.m)→K.It i h→acc.length≤i→K.rest i acc H→In n { K.s with heap:=h,toks:=tk }
inductive Mid(E:Nat→List a0a→MH→Heap→Loc→Prop) (n:Nat):Shared→Prop
 | mk (i:Nat) (H:MH) (h:Heap) (tk:Nat) (acc:List a0a) (mp:Str→Option Value) (m:Loc):n=K.items.length-i→i<K.items.length→K.LS H h acc mp m→K.It (i+1) h→acc.length≤i→(∀ (i:Nat) v,(clr K.t K.m)[i]?=some (some v)→m[i]?=some (some v))→E i acc H h m→Mid E n { K.s with heap:=h,toks:=tk }
structure Ok(A:Around)(n:Nat)(elt x0:Expr)(cs:List Expr)(itv:Value):Prop where
 R:d0t A n
 fx:l1e K.C K.s.heap K.H K.W K.D K.Cad
 ht:y0s K.t x0=true
 I:z0c K.C.toFx K.okH K.items (n0g K.t x0) itv K.W K.It
 len:K.items.length≤LIM
 inj:inj K.σ
 ts:∀ p∈n0t K.t x0,K.σ.loc.lookup p.1=some p.2∧k0f false K.σ p.1=true
 hF:∀ mp m H s Q,St (d0i K.C K.Cad mp) H s.heap→f0u (d0i K.C K.Cad mp) K.cenv K.σ m s.heap→K.F m H Q→wpAny (model K.C.prog K.C.w) A (eval elt K.cenv) (Pst (d0i K.C K.Cad mp) H s Q) NoE s
 hT:∀ mp m H s Q,St (d0i K.C K.Cad mp) H s.heap→f0u (d0i K.C K.Cad mp) K.cenv K.σ m s.heap→K.T m H Q→wpAny (model K.C.prog K.C.w) A (w0w cs K.cenv) (l0g (d0i K.C K.Cad mp) H s z0a Q) NoE s
variable {K}{A:Around}{n:Nat}{elt x0:Expr}{cs:List Expr}{itv:Value}{i:Nat}{h h':Heap}{H H':MH}{acc:List a0a}{mp:Str→Option Value}{m:Loc}
theorem Ok.it(O:K.Ok A n elt x0 cs itv){W':Addr→Prop}(st:K.It i h)(o:Off W' h h')(nw:∀ a,K.W a→¬ W' a)(kt:a0k h h'):K.It i h':=O.I.frame _ _ _ st fun a o' w e=>by
 rcases w with w | ⟨vs,k,rfl⟩
 ·exact o a _ (nw a w) e
 ·exact kt _ _ _ e
theorem Ok.itT(O:K.Ok A n elt x0 cs itv)(st:K.It i h)(L:K.LS H h acc mp m)(t:TrE K.Cad mp H h H' h'):K.It i h':=O.I.frame _ _ _ st fun a o' w e=>by
 rcases w with w | ⟨vs,k,rfl⟩
 ·exact t.keep a _ (fun z=>O.fx.cW (z▸w)) e (L.hW a w)
 ·exact t.tups L.S.ok L.S.hL _ _ _ e
theorem loop(O:K.Ok A n elt x0 cs itv){iter:Expr}{scope:Scope}{pos:Pos}{R:Result→Shared→Prop}
  (hR:∀ H h h2 tk acc mp,K.LS H h acc mp (clr K.t K.m)→Off K.W h h2→K.Q acc H→R (.ok .next) { K.s with heap:=h2,toks:=tk }) {j:Nat} {s:Shared} (h:K.In j s) :
  codeAny (model K.C.prog K.C.w) A (.compLoop (.ListComp elt [⟨n0g K.t x0,iter,cs,0⟩] scope pos) 0 itv (.ref K.D) K.cenv) R s:=by
 refine a1d K.In (fun n v=>K.Mid (fun i acc H h m=>m=clr K.t K.m∧∃ x m',VR K.C.B h x v∧s0y K.t x m=some m'∧K.T m' H (K.aft i acc m')) n)
  (fun n v=>K.Mid (fun i acc H h m=>∃ x,VR K.C.B h x v∧K.rest (i+1) (acc++[x]) H) n) (K.Mid fun i acc H h m=>K.T m H (K.aft i acc m)) (K.Mid fun i acc H h m=>K.F m H fun v H2=>K.rest (i+1) (acc++[v]) H2) ?_ ?_ ?_ ?_ ?_ j s h
 ·intro n s hI;obtain⟨i,H,h,tk,acc,mp,rfl,hi,L,sti,ha,q⟩:=hI;unfold rest at q;by_cases z:i=K.items.length
  ·clear hi ha;subst z;rw[drop_length]at q;refine wpAny_mono (O.I.done _ H { K.s with heap:=h,toks:=tk } A O.R.hd sti L.S.ok q.1) (fun r s1 p=>?_) fun U U e=>e.elim;obtain⟨rfl,h2,tk2,rfl,off⟩:=p;exact hR H h h2 tk2 acc mp L off q.2
  ·have hlt:i<K.items.length:=Nat.lt_of_le_of_ne hi z;rw[drop_eq_getElem_cons hlt]at q;obtain⟨ok,m',hm,q⟩:=q;rw[← w0x O.ht]at hm;refine wpAny_mono (O.I.next i _ H { K.s with heap:=h,toks:=tk } A K.items[i] O.R.hd sti L.S.ok ok (geg hlt)) (fun r s1 p=>?_) fun U U e=>e.elim
   obtain⟨v,rfl,hw⟩:=p;refine wpAny_mono hw (fun U s2 p=>?_) fun U U e=>e.elim;obtain⟨h2,tk2,rfl,off,st2,rv⟩:=p;exact .mk i H h2 tk2 acc mp _ rfl hlt (L.off O.fx off (O.I.there (i+1) h2 st2)) st2 ha (fun U U e=>e) ⟨rfl,_,m',rv,hm,q⟩
 ·intro n v s hI;obtain⟨i,H,h,tk,acc,mp,m,rfl,hi,L,sti,ha,kp,rfl,x,m',rv,hm,q⟩:=hI;refine d1d (b:=false) (C:=d0i K.C K.Cad mp) (s:={ K.s with heap:=h,toks:=tk }) O.R L.S L.e O.inj O.ts rv hm fun mp' h3 tk3 S3 e3 off3=>?_;have off3':Off (·=K.Cad) h h3:=fun a o na ea=>off3 a o (fun z=>z.elim na fun z=>by cases z.2) ea;exact .mk i H h3 tk3 acc mp' m' rfl hi (L.store O.fx S3 e3 off3') (O.it sti off3' (fun a w z=>O.fx.cW (z▸w)) fun a vs k e=>off3' a _ (fun z=>L.S.ok.frmN L.S.hL vs k (z▸e)) e) ha (fun U U e=>d1f (w0x O.ht _ K.m▸hm) e) q
 ·intro n s hI;obtain⟨i,H,h,tk,acc,mp,m,rfl,hi,L,sti,ha,kp,q⟩:=hI;refine wpAny_mono (O.hT mp m H _ _ L.S L.e q) (fun b s4 p=>?_) fun U U e=>e.elim;obtain⟨h4,tk4,H4,b',rfl,t4,o4,rfl,q4⟩:=p;have L4:=L.tr O.fx o4 t4;have st4:=O.itT sti L t4;exact⟨fun z=>.mk i H4 h4 tk4 acc mp m rfl hi L4 st4 ha kp (by unfold aft at q4;rw[if_pos z]at q4;exact q4),
   fun z=>(Mac.i3_1 _ (Nat.sub_succ_lt_self _ _ hi) (.mk (i+1) H4 h4 tk4 acc mp rfl hi (L4.less kp) st4 (Nat.le_succ_of_le ha) (by unfold aft at q4;rw[if_neg (by rw[z];decide)]at q4;exact q4)))⟩
 ·intro n s hI;obtain⟨i,H,h,tk,acc,mp,m,rfl,hi,L,sti,ha,kp,q⟩:=hI;refine wpAny_mono (O.hF mp m H _ _ L.S L.e q) (fun x s5 p=>?_) fun U U e=>e.elim;obtain⟨h5,tk5,H5,mv,rfl,t5,o5,rx,q5⟩:=p;exact .mk i H5 h5 tk5 acc mp m rfl hi (L.tr O.fx o5 t5) (O.itT sti L t5) ha kp (Mac.i3_1 mv rx q5)
 ·intro n x s hI;obtain⟨i,H,h,tk,acc,mp,m,rfl,hi,L,sti,ha,kp,mv,rx,q⟩:=hI;obtain⟨us,c,g,rl⟩:=L.d;refine wpAny_list_append_plain (l:=K.D) (items:=us.toArray) (x:=x) ⟨c,g⟩ (fun h6 p sb=>?_) ?_
  ·obtain⟨c6,g6⟩:=p;have g6':h6.get? K.D=some (b0n (us++[x]) c6):=by rw[g6];simp
   exact⟨_,Nat.sub_succ_lt_self _ _ hi,.mk (i+1) H h6 _ (acc++[mv]) mp rfl hi ((L.app O.fx g6' sb (rl.append (VRs.one rx))).less kp) (O.it sti (c0j sb) (fun a w z=>O.fx.dW (z▸w)) fun a vs k e=>c0j sb a _ (fun z=>by subst z;rw[g]at e;injection e with e;have:=congrArg Obj.cls e;injection this with h;exact absurd h (by decide)) e)
    (by rw[length_append];exact Nat.succ_le_succ ha) q⟩
  ·rw[size_toArray,rl.length,sizeLine_eq];exact Nat.le_of_lt (Nat.lt_of_le_of_lt ha (Nat.lt_of_lt_of_le hi O.len))
end CK
section
variable {C:Cx}{H:MH}{s:Shared}{n:Nat}{A:Around}{env:Env}{σ:Sc}{m:Loc}
theorem a1c(R:d0t A n){elt it x0:Expr}{scope:Scope}{pos:Pos}{cs:List Expr}{t:Tgt}{cl:List (Str×Addr)}{F:Loc→MH→a0d→Prop}{Cc:Loc→MH→(Bool→MH→Prop)→Prop}
  {W:Addr→Prop} {It:Nat→Heap→Prop} {items:List a0a} {okH:MH→Prop} {itv:Value} {Q':List a0a→MH→Prop} {RR:Value→Addr→Result→Shared→Prop}
  (S:St C H s.heap) (e:f0u C env σ m s.heap) (f:z0b σ scope (n0t t x0)) (ht:y0s t x0=true)
  (c1:∀ x c,cl.lookup x=some c→env.cells.lookup x=some c) (c2:∀ x,(x,NameKind.free)∈scope.names→∃ c,cl.lookup x=some c)
  (I:z0c C.toFx okH items (n0g t x0) itv W It) (st:It 0 s.heap) (hW:∀ a,W a→H a=none∧C.B.get? a=none∧¬ C.X a) (hlen:items.length≤LIM) (q:k0i F Cc t okH m items H [] Q')
  (hF:∀ Cad mp m' H s Q,St (d0i C Cad mp) H s.heap→f0u (d0i C Cad mp) (compEnvC scope cl Cad env) (d0w σ scope.names (n0t t x0)) m' s.heap→F m' H Q→wpAny (model C.prog C.w) A (eval elt (compEnvC scope cl Cad env)) (Pst (d0i C Cad mp) H s Q) NoE s)
  (hT:∀ Cad mp m' H s Q,St (d0i C Cad mp) H s.heap→f0u (d0i C Cad mp) (compEnvC scope cl Cad env) (d0w σ scope.names (n0t t x0)) m' s.heap→Cc m' H Q→wpAny (model C.prog C.w) A (w0w cs (compEnvC scope cl Cad env)) (l0g (d0i C Cad mp) H s z0a Q) NoE s)
  (hRR:∀ D Cad h' tk H' acc us c mp',s.heap.get? D=none→s.heap.get? Cad=none→D≠Cad→h'.Ns Cad mp'→h'.get? D=some (b0n us c)→VRs C.B h' acc us→Ok C.prog C.w C.ca C.X C.B H' h'→
   (∀ a o,¬ W a→s.heap.get? a=some o→H a=none→h'.get? a=some o)→(∀ a o,s.heap.get? a=some o→H a=none→H' a=none)→H' D=none→H' Cad=none→Q' acc H'→RR (.ref D) Cad (.ok .next) { s with heap:=h',toks:=tk }) :
  wpAny (model C.prog C.w) A (newList []) (fun acc s₃=>wpAny (model C.prog C.w) A (newFunctionEnv scope env.globals cl [] env.qual none .none (some env)) (fun cenv s₄=>
   codeAny (model C.prog C.w) A (.compStart (.ListComp elt [⟨(n0g t x0),it,cs,0⟩] scope pos) 0 itv acc { cenv with scope:=relabel scope env }) (RR acc cenv.locals) s₄) NoE s₃) NoE s:=by
 refine wpAny_newObj_type (wpAny_newFunctionEnv f.ncell (by intro y hy;simp at hy) (fun h1 hns hsb=>?_) f.kind);dsimp only at hns hsb ⊢;generalize hH2:s.heap.push { cls:=.type "list",dict:=none,data:=.seq ([]:List Value).toArray }=H2 at hns hsb ⊢;have hC:H2.objs.size=s.heap.objs.size+1:=by rw[← hH2,Heap.size_push]
 have hDC:s.heap.objs.size≠H2.objs.size:=by rw[hC];exact Nat.ne_of_lt (Nat.lt_succ_self _)
 have fresh:∀ a,s.heap.objs.size≤a→s.heap.get? a=none:=fun a ha=>by
  cases e:s.heap.get? a with
  | none=>rfl
  | some o'=>exact absurd (Heap.lt_size e) (Nat.not_lt.mpr ha)
 have below:∀ b o,s.heap.get? b=some o→b≠H2.objs.size:=fun b o hb=>by have:=Heap.lt_size hb;rw[hC];exact Nat.ne_of_lt (Nat.lt_succ_of_lt this)
 have old:∀ b o,s.heap.get? b=some o→h1.get? b=some o:=fun b o e=>hsb.extBut b o (below b o e) (Heap.get?_push_of_some _ (hH2▸Heap.get?_push_of_some _ e));have hacc:h1.get? s.heap.objs.size=some (b0n [] 0):=hsb.extBut _ _ hDC (Heap.get?_push_of_some _ (hH2▸Heap.get?_push_size _ rfl));generalize hCad:H2.objs.size=Cad at hns hsb hDC below hC ⊢;generalize hD0:s.heap.objs.size=D at hDC hacc hC ⊢;have fD:s.heap.get? D=none:=fresh D (Nat.le_of_eq hD0);have fC:s.heap.get? Cad=none:=fresh Cad (by rw[hC,hD0];exact Nat.le_succ _);have thW:∀ a,W a→∃ o,s.heap.get? a=some o∧∀ vs n,o≠a0l vs n:=I.there 0 _ st;have nW:∀ a,s.heap.get? a=none→¬ W a:=fun a ha w=>by obtain⟨o,q,U⟩:=thW a w;rw[ha]at q;cases q
 have xf:∀ a,s.heap.get? a=none→¬ C.X a:=fun a ha=>(b0w S ha).2.2;have fx:l1e C s.heap H W D Cad:=⟨nW D fD,nW Cad fC,hDC,fD,fC,xf D fD,(b0w S fD).2.1,hW⟩;have gr:b0c C.L C.mp s.heap h1:=b0c.of S.ns old;have ok1:=S.ok.ext S.hL gr;have L0:LS C s.heap H W D Cad (compEnvC scope cl Cad env) (d0w σ scope.names (n0t t x0)) H h1 [] (fun x=>([]:List (Str×Value)).reverse.lookup x) (clr t m):=by
  refine⟨⟨ok1.wider fun a xa=>?_,.inr rfl,hns⟩,e1q e f c1 c2 fC old,(Mac.i4_2 [] 0 hacc rfl),(b0w S fD).1,fun a w=>(hW a w).1,fun a w=>?_,fun a o U q U=>old a o q,fun a o U q=>q⟩
  ·rcases xa with xa | xa
   ·exact ok1.frm a xa
   ·clear hsb below hDC hC fx;subst xa;exact⟨(b0w S fC).1,(b0w S fC).2.1,m0g hns⟩
  ·obtain⟨o,q,z⟩:=thW a w;exact⟨o,old _ _ q,z⟩
 have st0:It 0 h1:=I.frame _ _ _ st fun a o U q=>old a o q;have O:CK.Ok ⟨C,s,H,W,D,Cad,compEnvC scope cl Cad env,d0w σ scope.names (n0t t x0),m,t,It,items,okH,Q',F,Cc⟩ A n elt x0 cs itv:=⟨R,fx,ht,I,hlen,f.inj,f.tsok,hF Cad,hT Cad⟩;have loop:codeAny (model C.prog C.w) A (.compLoop (.ListComp elt [⟨(n0g t x0),it,cs,0⟩] scope pos) 0 itv (.ref D) (compEnvC scope cl Cad env)) (RR (.ref D) Cad) { s with heap:=h1,toks:=s.toks+([]:List (Str×Value)).length }:=by
  refine CK.loop O (fun Hi h h2 tk2 acc mp L off q=>?_) (.mk 0 H h1 _ [] _ rfl (Nat.zero_le _) L0 st0 (Nat.le_refl _) q);obtain⟨us,c,g,rl⟩:=L.d;have S2:=L.S.off (C:=d0i C Cad mp) off (fun a w=>(Mac.i3_0 (L.hW a w) ((hW a w).2.1) (fun z=>z.elim (hW a w).2.2 fun z=>fx.cW (z▸w)))) L.tW;have kt:a0k h h2:=fun a vs k e=>off a _ (fun w=>by obtain⟨ob,q,z⟩:=L.tW a w;rw[e]at q;cases q;exact z _ _ rfl) e;exact hRR D Cad h2 tk2 Hi acc us c mp fD fC hDC S2.ns (off D _ fx.dW g) (rl.mono kt) (S2.ok.wider fun a xa=>S2.ok.frm a (.inl xa)) (fun a o nw e e0=>off a o nw (L.keep a o nw e e0)) L.old L.hD (S2.ok.frm Cad (.inr rfl)).1 q
 exact codeAny_compStart_list loop (I.self 0 _ _ _ _ st0 loop)
end
section
variable {prog:Program}{w:World}{ca:Nat→Addr}{X:Addr→Prop}{B h h':Heap}{H H':MH}{L:Addr}{mp:Str→Option Value}
theorem Ok.new2(x:Ok prog w ca X B H h)(hL:X L)(g:b0c L mp h h'){a d:Addr}{o1 o2:j0u}(ed:h.get? d=none)(ea:h.get? a=none)(hne:a≠d)
  (r1:g0p prog w ca B (upd (upd H d o1) a o2) h' d o1) (r2:g0p prog w ca B (upd (upd H d o1) a o2) h' a o2):Ok prog w ca X B (upd (upd H d o1) a o2) h' where
 base:=(x.ext hL g).base
 sep:=fun b ob q=>by
  have h1:b≠a:=by first | exact nef (x.freshB ea) q (fun e=>by cases e) | exact nef q (x.freshB ea) (fun e=>by cases e)
  have h2:b≠d:=by first | exact nef (x.freshB ed) q (fun e=>by cases e) | exact nef q (x.freshB ed) (fun e=>by cases e)
  unfold upd;rw[if_neg h1,if_neg h2];exact x.sep b ob q
 objs:=fun b ob q=>by
  have hL':∀ b ob,H b=some ob→b≠L:=fun b ob e q=>by have:=(x.frm L hL).1;rw[← q,e]at this;cases this
  by_cases h1:b=a
  ·clear ea hne r1;subst h1;unfold upd at q;rw[if_pos rfl]at q;cases q;exact r2
  ·by_cases h2:b=d
   ·clear ed hne r2;subst h2;unfold upd at q;rw[if_neg h1,if_pos rfl]at q;cases q;exact r1
   ·have q':H b=some ob:=by unfold upd at q;rw[if_neg h1,if_neg h2]at q;exact q
    refine(x.objs b ob q').frame (g.tups x hL) (fun ob' z=>g.1 _ _ (hL' _ _ q') z) fun dx ob p z=>⟨g.1 _ _ (hL' _ _ p) z,?_⟩;unfold upd;rw[if_neg,if_neg]
    ·exact p
    ·first | exact nef (ed) z (fun e=>by cases e) | exact nef z (ed) (fun e=>by cases e)
    ·clear hne r1 r2 q h1;rintro rfl;rw[ea]at z;cases z
 glob:=x.glob
 frm:=fun b xb=>by
  obtain⟨f1,f2,o,f3,f4⟩:=x.frm b xb;refine⟨?_,f2,((x.ext hL g).frm b xb).2.2⟩;unfold upd;rw[if_neg,if_neg]
  ·exact f1
  ·first | exact nef (ed) f3 (fun e=>by cases e) | exact nef f3 (ed) (fun e=>by cases e)
  ·clear hne r1 r2;rintro rfl;rw[ea]at f3;cases f3
theorem TrE.new2(g:b0c L mp h h'){a d:Addr}{o1 o2:j0u}(ed:h.get? d=none)(ea:h.get? a=none):TrE L mp H h (upd (upd H d o1) a o2) h' where
 keep:=fun a o n e U=>g.1 a o n e
 old:=fun b ob q f=>by
  unfold upd;rw[if_neg,if_neg]
  ·exact f
  ·first | exact nef (ed) q (fun e=>by cases e) | exact nef q (ed) (fun e=>by cases e)
  ·rintro rfl;rw[ea]at q;cases q
 ns:=g.2
end
def b0b(F:Fx)(c:Nat→List a0a→MH→a0d→Prop)(n:Nat):Prop:=∀ (C:Cx),C.toFx=F→∀ (f:Nat) (vs:List a0a) (us:List Value) (H:MH) (s:Shared) (A:Around) (Q:a0d) (R:Result→Shared→Prop),
 d0t A n→St C H s.heap→VRs C.B s.heap vs us→c f vs H Q→(∀ v s',Pst C H s Q v s'→R (.ok (.ret v)) s')→codeAny (model C.prog C.w) A (.call (.ref (C.fa f)) ⟨us,[]⟩) R s
section
variable {C:Cx}{H H':MH}{s:Shared}{h':Heap}{n:Nat}{A:Around}{env:Env}{σ:Sc}{m:Loc}{c:Nat→List a0a→MH→a0d→Prop}
theorem v0k(K:b0b C.toFx c n)(R:d0t A n)(S:St C H s.heap){f:Nat}{vs:List a0a}{us:List Value}(r:VRs C.B s.heap vs us){Q:a0d}(q:c f vs H Q):wpAny (model C.prog C.w) A (call (.ref (C.fa f)) us) (Pst C H s Q) NoE s:=
 wpAny_call (K C rfl f vs us H s A Q _ R S r q fun U U p=>p)
theorem d0t.down(R:d0t A (n+1)):d0t A n:=⟨R.hd,by have:=R.dp;omega,by have:=R.un;omega⟩
theorem d0t.made(R:d0t A (n+1))(C:Addr)(rest:List Value):d0t (A.under (.builtin "type.__call__" ⟨.ref C::rest,[]⟩)) n:=by
 have h1:(Code.builtin "type.__call__" ⟨.ref C::rest,[]⟩).weight=1:=rfl;have h2:(Code.builtin "type.__call__" ⟨.ref C::rest,[]⟩).cUnits=1:=rfl;refine⟨R.hd,?_,?_⟩
 ·show A.depth+(Code.builtin "type.__call__" ⟨.ref C::rest,[]⟩).weight+2*n+2≤900;have:=R.dp;omega
 ·show A.units+(Code.builtin "type.__call__" ⟨.ref C::rest,[]⟩).cUnits+12*n+200≤9900;have:=R.un;omega
theorem j1r(T:b0z C.toFx)(K:b0b C.toFx c n)(R:d0t A (n+1))(S:St C H s.heap){k:Nat}(hk:k<6){vs:List a0a}{us:List Value}(r:VRs C.B s.heap vs us){Q:a0d}
  (q:∀ a d,H a=none→H d=none→a≠d→c (e0h k) (.ref a::vs) (upd (upd H d (.hid a)) a (.inst k [])) fun r H2=>r=.none∧Q (.ref a) H2) :
  wpAny (model C.prog C.w) A (call (.ref (C.ca k)) us) (Pst C H s Q) NoE s:=by
 obtain⟨U,U,hm,U,U,U,hi,hf⟩:=T.cls k hk;refine wpAny_call (make_K (k0s S.ns) (c0v s.heap C.L) (S.K T) hm hi (beq_iff_eq.mp hf) fun x dx h' F N hn hlt=>?_);have g:b0c C.L C.mp s.heap h':=f0d F N fun p z=>.tail _ (.tail _ z);have gx:h'.get? x=some (instObj (C.ca k) dx):=(N _ (.head _)).1;have gd:h'.get? dx=some emptyDict:=(N _ (.tail _ (.head _))).1;have hnone:∀ b,dx≤b→b≠C.L→s.heap.get? b=none:=fun b hb hbl=>by
  cases e:s.heap.get? b with
  | none=>rfl
  | some o=>exact absurd (hn _ (b0d.mpr ⟨e,hbl⟩)) (Nat.not_lt.mpr hb)
 have hxL:x≠C.L:=by
  clear N hlt;rintro rfl;obtain⟨o,U,U,e,d,U⟩:=g.2;rw[gx]at e;cases e;cases d
 have hdL:dx≠C.L:=by
  clear hn hlt gx gd hnone;rintro rfl;exact(N _ (.tail _ (.head _))).2.1 rfl
 have ed:=hnone dx (Nat.le_refl _) hdL;have ea:=hnone x (Nat.le_of_lt hlt) hxL;have hne:x≠dx:=Nat.ne_of_gt hlt;have ok2:Ok C.prog C.w C.ca C.X C.B (upd (upd H dx (.hid x)) x (.inst k [])) h':=by
  refine S.ok.new2 S.hL g ed ea hne (Mac.i3_2 [] 0 gd) ⟨hk,dx,[],0,?_,gx,gd,l0f.nil _⟩;unfold upd;rw[if_neg (Ne.symm hne),if_pos rfl]
 have t2:TrE C.L C.mp H s.heap (upd (upd H dx (.hid x)) x (.inst k [])) h':=TrE.new2 g ed ea;refine K C rfl (e0h k) (.ref x::vs) (.ref x::us) (upd (upd H dx (.hid x)) x (.inst k [])) { s with heap:=h' } _ _ _ (R.made _ _) ⟨ok2,S.hL,g.2⟩ ⟨_,_,rfl,rfl,r.mono (t2.tups S.ok S.hL)⟩
  (q x dx (S.ok.fresh ea) (S.ok.fresh ed) hne) fun v s' p=>?_
 obtain⟨h2,tk2,H2,mv,e2,t3,o3,rv,rfl,q2⟩:=p;refine⟨rv,h2,tk2,H2,.ref x,?_,t2.trans t3,o3,rfl,q2⟩;rw[e2]
end
theorem k1e(x:Str)(k:Nat):Builtin.Str.strSliceIndices none (some (k:Int)) 1 x.length=List.range (min k x.length):=by
 unfold Builtin.Str.strSliceIndices;dsimp only;have h0:¬ ((k:Int)<0):=Int.not_lt.mpr (Int.natCast_nonneg k);rw[if_pos (by decide),if_neg h0,if_pos (by decide)];have e:max (0:Int) (min (k:Int) (x.length:Int))=((min k x.length:Nat):Int):=by rw[m0c];exact Int.max_eq_right (Int.natCast_nonneg _)
 rw[e];have:=sliceRange_one 0 (min k x.length);rw[show((0:Nat):Int)=0 from rfl]at this;rw[this,Nat.sub_zero];simp
theorem f1w(x:Str)(k:Nat):(((List.range (min k x.length)).filterMap (x.cps[·]?)).toArray)=x.cps.extract 0 k:=by
 apply Array.ext';rw[Array.toList_extract];have:∀ (l:List Nat) (k:Nat),(List.range (min k l.length)).filterMap (fun i=>l[i]?)=l.take k:=by
  intro l
  induction l with
  | nil=>intro k;simp
  | cons a l ih=>
   intro k;cases k with
   | zero=>simp
   | succ k=>
    rw[length_cons,Nat.succ_min_succ,List.range_succ_eq_map,filterMap_cons,filterMap_map];simp only[getElem?_cons_zero,take_succ_cons]
    congr 1
    exact ih k
 have:=this x.cps.toList k;simpa [Str.length] using this
section
variable {C:Cx}{H H':MH}{s:Shared}{h':Heap}{n:Nat}{A:Around}{env:Env}{σ:Sc}{m:Loc}
theorem f0m{M:Model}{prog:Program}{w:World}{E:Value→Shared→Prop}{value slice:Expr}{o i:Value}{T id:String}{Q:Value→Shared→Prop}(hT:s.TypeIs o T)
  (hl:typeLookup (.type T) "__getitem__"=pure (some (.builtin id))) (h:wpAny (model prog w) A (getItem o i) Q E s)
  (hs:subscripted slice false o i=operate [i,o] (getItem o i)) :
  wpAny (model prog w) A (subscriptTail value slice o i) Q E s:=by
 refine wpAny_bind ?_;rw[getitemInPython_of_ne hT.not_modules];refine wpAny_bind (wpAny_specialOf hT hl ?_);have fin:wpAny (model prog w) A (subscripted slice false o i) (fun r s₃=>wpAny (model prog w) A (letTemporaryGo value o r >>= fun U=>pure r) Q E s₃) E s:=by
  rw[hs];exact wpAny_operating (wpAny_mono h (fun r s₃ h₃=>wpAny_bind (wpAny_letTemporaryGo (wpAny_pure h₃))) fun U U x=>x)
 first
  | exact wpAny_pure (wpAny_bind fin)
  | exact wpAny_bind (wpAny_pure (wpAny_bind fin))
  | exact wpAny_bind fin
theorem k0e(S:St C H s.heap){a:Addr}{vs:List Value}{l:List a0a}(g:s.heap.IsList a vs.toArray)(r:VRs C.B s.heap l vs){k:Int}{t:Tok}(h0:0≤k)(hl:l.length≤LIM){Q:a0d}(q:e0f (l.take k.toNat) H Q){value:Expr}{y:Expr}{p:Pos} :
  wpAny (model C.prog C.w) A (subscriptTail value (.Slice none (some y) none p) (.ref a) (.ref s.heap.objs.size)) (Pst C H s Q) NoE { s with heap:=s.heap.push { cls:=.type "slice",data:=.fields #[.none,.int k t,.none] } }:=by
 obtain⟨U,q⟩:=q;have il:(s.heap.push { cls:=.type "slice",data:=.fields #[.none,.int k t,.none] }).IsList a vs.toArray:=g.at fun o e=>Heap.get?_push_of_some _ e;refine f0m (M:=model C.prog C.w) il.typeIs list_getitem_lookup (wpAny_getItem_list_slice (lo:=none) (hi:=some k) (st:=none) il (Heap.IsSliceOf.new ..) .none (.int _ _) .none (by simp) ?_ ?_) (by with_unfolding_all rfl)
 ·have ek:k=((k.toNat:Nat):Int):=by omega
  have e:slicePick vs.toArray none (some k) none=(vs.take k.toNat).toArray:=by
   have:=slicePick_upto' vs.toArray k.toNat;rw[← ek]at this;exact this
  rw[e];have g2:b0c C.L C.mp s.heap ((s.heap.push { cls:=.type "slice",data:=.fields #[.none,.int k t,.none] }).push (b0n (vs.take k.toNat) 0)):=b0c.of S.ns fun b o eb=>Heap.get?_push_of_some _ (Heap.get?_push_of_some _ eb);refine Pst.alloc S g2 ?_ (g0p.mkList (Heap.get?_push_size _ rfl) ((r.take _).mono (g2.tups S.ok S.hL))) q s.toks;cases z:s.heap.get? (s.heap.push { cls:=.type "slice",data:=.fields #[.none,.int k t,.none] }).objs.size with
  | none=>rfl
  | some o=>exact absurd (Heap.lt_size (Heap.get?_push_of_some _ z)) (Nat.lt_irrefl _)
 ·show vs.toArray.size≤sizeLine;rw[size_toArray,r.length,sizeLine_eq];exact hl
set_option tactic.hygienic true in
theorem u0v(S:St C H s.heap){x:Str}{k:Int}{t t':Tok}(h0:0≤k)(h1:k≤LIM){Q:a0d}(q:Q (.str ⟨x.cps.extract 0 k.toNat⟩) H){value:Expr}{y:Expr}{p:Pos} :
  wpAny (model C.prog C.w) A (subscriptTail value (.Slice none (some y) none p) (.str x t) (.ref s.heap.objs.size)) (Pst C H s Q) NoE { s with heap:=s.heap.push { cls:=.type "slice",data:=.fields #[.none,.int k t',.none] } }:=by
 have g2:b0c C.L C.mp s.heap (s.heap.push { cls:=.type "slice",data:=.fields #[.none,.int k t',.none] }):=b0c.of S.ns fun b o eb=>Heap.get?_push_of_some _ eb;refine f0m (M:=model C.prog C.w) (typeIs_str _ x t) F.slot_str_getitem.lookup (wpAny_getItem_str_slice (l:=none) (u:=some (k,t')) (st:=none) (Mac.i4_1 _ (Heap.get?_push_size _ rfl) rfl rfl) rfl ?_) (by with_unfolding_all rfl);have ek:k=((k.toNat:Nat):Int):=by omega
 have e:slicePicked x none (some (k,t')) none=List.range (min k.toNat x.length):=by
  rw[ek];exact k1e x k.toNat
 unfold sliceMade;rw[e];split
 ·rename_i c;simp only[Bool.and_eq_true,beq_iff_eq,length_range]at c;refine Pst.grown S g2 (mv:=.str x) (VR.mkStr _ _) ?_ _;have:(⟨x.cps.extract 0 k.toNat⟩:Str)=x:=by
   clear q e;cases x with
   | mk cps=>
    congr 1
    have:cps.size≤k.toNat:=by
     have h2:=c.2;unfold Str.length at h2;dsimp only at h2;omega
    rw[Array.extract_eq_self_of_le this]
  rw[this]at q;exact q
 ·rw[f1w];refine⟨?_,Pst.grown S g2 (mv:=.str ⟨x.cps.extract 0 k.toNat⟩) (VR.mkStr _ _) q _⟩;rw[sizeLine_eq];show(x.cps.extract 0 k.toNat).size≤_;rw[Array.size_extract];omega
theorem c1u(S:St C H s.heap){l:List a0a}{v:Value}(r:VR C.B s.heap (.tup l) v){i j:Int}{t t':Tok}(hi:0≤i)(hj:0≤j)(hl:l.length≤LIM){Q:a0d}(q:Q (.tup ((l.take j.toNat).drop i.toNat)) H){value y z:Expr}{p:Pos} :
  wpAny (model C.prog C.w) A (subscriptTail value (.Slice (some y) (some z) none p) v (.ref s.heap.objs.size)) (Pst C H s Q) NoE { s with heap:=s.heap.push { cls:=.type "slice",data:=.fields #[.int i t,.int j t',.none] } }:=by
 obtain⟨a,vs,k0,rfl,g,r⟩:=r;have g1:(s.heap.push { cls:=.type "slice",data:=.fields #[.int i t,.int j t',.none] }).get? a=some (a0l vs k0):=Heap.get?_push_of_some _ g;have hT:Shared.TypeIs { s with heap:=s.heap.push { cls:=.type "slice",data:=.fields #[.int i t,.int j t',.none] } } (.ref a) "tuple":=⟨_,g1,rfl⟩;have g2:b0c C.L C.mp s.heap (s.heap.push { cls:=.type "slice",data:=.fields #[.int i t,.int j t',.none] }):=b0c.of S.ns fun b o eb=>Heap.get?_push_of_some _ eb;have S2:St C H (s.heap.push { cls:=.type "slice",data:=.fields #[.int i t,.int j t',.none] }):=⟨S.ok.ext S.hL g2,S.hL,g2.2⟩;have r2:=r.mono (g2.tups S.ok S.hL);refine f0m (M:=model C.prog C.w) hT slot_tuple_getitem.lookup (d1g g1 (Mac.i4_1 _ (Heap.get?_push_size _ rfl) rfl rfl) hi hj (by rw[r.length];exact hl) (fun e=>?_) ?_) (by with_unfolding_all rfl)
 ·refine Pst.grown S g2 (VR.mkTup g1 ?_) q _;rw[← e];exact(r2.take _).drop _
 ·have g3:b0c C.L C.mp s.heap ((s.heap.push { cls:=.type "slice",data:=.fields #[.int i t,.int j t',.none] }).push (a0l ((vs.take j.toNat).drop i.toNat) 0)):=b0c.of S.ns fun b o eb=>Heap.get?_push_of_some _ (Heap.get?_push_of_some _ eb);exact Pst.grown S g3 (VR.mkTup (Heap.get?_push_size _ rfl) (((r.take _).drop _).mono (g3.tups S.ok S.hL))) q _
end
structure Now(C:Cx)(A:Around)(n:Nat)(env:Env)(σ:Sc)(m:Loc)(H:MH)(s:Shared):Prop where
 R:d0t A (n+1)
 S:St C H s.heap
 e:f0u C env σ m s.heap
section
variable {α β γ δ:Type}{C:Cx}{H H1:MH}{s:Shared}{h1:Heap}{n:Nat}{A:Around}{env:Env}{σ:Sc}{m:Loc}{c:Nat→List a0a→MH→a0d→Prop}
theorem Now.go(N:Now C A n env σ m H s)(t:TrE C.L C.mp H s.heap H1 h1)(S1:St C H1 h1)(tk:Nat):Now C A n env σ m H1 { s with heap:=h1,toks:=tk }:=⟨N.R,S1,N.e.keep N.S t⟩
theorem b0a{M:Model}{t:Sem α}{rel:Heap→β→α→Prop}{Q1:β→MH→Prop}{P:α→Shared→Prop}(N:Now C A n env σ m H s)(h:wpAny M A t (l0g C H s rel Q1) NoE s)
  (h2:∀ a h' tk H1 b,Now C A n env σ m H1 { s with heap:=h',toks:=tk }→TrE C.L C.mp H s.heap H1 h'→rel h' b a→Q1 b H1→P a { s with heap:=h',toks:=tk }):wpAny M A t P NoE s:=
 q1w N.S h fun a h' tk H1 b S1 t r q=>h2 a h' tk H1 b (N.go t S1 tk) t r q
theorem f0w{M:Model}{x:Sem α}{rel:Heap→β→α→Prop}{Q:β→MH→Prop}{tk:Nat}(t:TrE C.L C.mp H s.heap H1 h1)(h:wpAny M A x (l0g C H1 { s with heap:=h1,toks:=tk } rel Q) NoE { s with heap:=h1,toks:=tk }) :
  wpAny M A x (l0g C H s rel Q) NoE { s with heap:=h1,toks:=tk }:=wpAny_mono h (fun U U p=>l0g.trans rfl t p) fun U U e=>e
theorem p0b{Q:Bool→MH→Prop}{B h:Heap}{mv:a0a}{v:Value}(r:VR B h mv v)(q:asB Q mv H):∃ b,v=.bool b∧mv=.bool b∧Q b H:=by
 cases mv <;> try exact q.elim
 exact⟨_,r,rfl,q⟩
def c0f(F:Fx)(c:Nat→List a0a→MH→a0d→Prop)(n:Nat)(e:a0m):Prop:=∀ (C:Cx),C.toFx=F→∀ (A:Around) (env:Env) (σ:Sc) (m:Loc) (H:MH) (s:Shared) (Q:a0d) (x:Expr),
 Now C A n env σ m H s→e0q σ e x=true→wpE (gam c) e m H Q→wpAny (model C.prog C.w) A (eval (c0a e x) env) (Pst C H s Q) NoE s
def n0w(F:Fx)(c:Nat→List a0a→MH→a0d→Prop)(n:Nat)(e:a0m):Prop:=∀ (C:Cx),C.toFx=F→∀ (A:Around) (env:Env) (σ:Sc) (m:Loc) (H:MH) (s:Shared) (Q:Bool→MH→Prop) (x:Expr),
 Now C A n env σ m H s→e0q σ e x=true→wpE (gam c) e m H (asB Q)→wpAny (model C.prog C.w) A (isTrue (c0a e x) env (eval (c0a e x) env)) (l0g C H s z0a Q) NoE s
def i0z(P:a0m→Prop):a0w→Prop
 | .nil=>True
 | .cons e r=>P e∧i0z P r
theorem e0g{F:Fx}:∀ (as:a0w),i0z (c0f F c n) as→∀ (C:Cx),C.toFx=F→∀ (A:Around) (env:Env) (σ:Sc) (m:Loc) (H:MH) (s:Shared) (Q:List a0a→MH→Prop) (xs:List Expr) (pos:Pos),
  Now C A n env σ m H s→s0x σ as xs=true→wpL (gam c) as m H Q→wpAny (model C.prog C.w) A (spliced (backTo pos (starEach (d0e as xs) env))) (l0g C H s (VRs C.B) Q) NoE s
 | .nil,_,C,hF,A,env,σ,m,H,s,Q,xs,pos,N,hc,q=>spliced_none (N.S.same (rel:=VRs C.B) (b:=[]) rfl q s.toks)
 | .cons e r,ih,C,hF,A,env,σ,m,H,s,Q,xs,pos,N,hc,q=>by
  refine spliced_more (b0a N (ih.1 C hF A env σ m H s _ _ N (an1 hc) q) fun a h' tk H1 b N1 t r1 q1=>?_) (l0e (.cons e r) xs);refine wpAny_mono (e0g r ih.2 C hF A env σ m H1 _ _ xs.tail pos N1 (an2 hc) q1) (fun vs s2 p=>?_) fun U U e=>e;obtain⟨h2,tk2,H2,bs,e2,t2,o2,r2,q2⟩:=p;exact⟨h2,tk2,H2,b::bs,e2,t.trans t2,o2,(Mac.i5_2 a vs rfl (r1.mono (N1.S.tup t2)) r2),q2⟩
theorem e0z{M:Model}{E:Value→Shared→Prop}{f:Value}{Q:Args→Shared→Prop}{pos:Pos}{as:a0w}{xs:List Expr}(h:wpAny M A (spliced (backTo pos (starEach (d0e as xs) env))) (fun vs s'=>Q ⟨vs,[]⟩ s') E s) :
  wpAny M A (evalArgs f true (backTo pos (starEach (d0e as xs) env)) []) Q E s:=by
 cases as with
 | nil=>
  unfold evalArgs;show wpAny M A (spliced [] >>= _) Q E s;refine wpAny_bind (wpAny_mono h (fun vs s' h'=>?_) fun U U x=>x)
  first
   | (refine wpAny_bind (wpAny_pure ?_);refine wpAny_holding ?_;exact wpAny_bind (wpAny_pure (wpAny_bind (wpAny_pure (wpAny_pure h')))))
   | (refine wpAny_holding ?_;exact wpAny_bind (wpAny_pure (wpAny_bind (wpAny_pure (wpAny_pure h')))))
 | cons e r=>
  rw[l0e]at h ⊢;exact Calls.evalArgs_plain h
end
section
variable {C:Cx}{H H1:MH}{s:Shared}{h1:Heap}{n:Nat}{A:Around}{env:Env}{σ:Sc}{m:Loc}{c:Nat→List a0a→MH→a0d→Prop}{F:Fx}{as:a0w}{xs:List Expr}{pos:Pos}{first:List Value}{P:Value→Shared→Prop}
theorem i1c{f:Value}(hk:keepIn C.K f=true)(h:wpAny (model C.prog C.w) A (spliced (backTo pos (starEach (d0e as xs) env))) (fun vs s1=>C.K.In s1.heap∧wpAny (model C.prog C.w) A (call f (first++vs)) P NoE s1) NoE s) :
  wpAny (model C.prog C.w) A (callWith pos f first (backTo pos (starEach (d0e as xs) env)) []) P NoE s:=
 callWith_of (by rw[h0z pos as xs];rfl) (keeps_K hk) (e0z h)
theorem i1b{id:String}(h:wpAny (model C.prog C.w) A (spliced (backTo pos (starEach (d0e as xs) env))) (fun vs s1=>wpAny (model C.prog C.w) A (call (.builtin id) (first++vs)) P NoE s1) NoE s) :
  wpAny (model C.prog C.w) A (callWith pos (.builtin id) first (backTo pos (starEach (d0e as xs) env)) []) P NoE s:=
 Calls.callWith_builtin (h0z pos as xs) (e0z h)
theorem l1z{id:String}(h:wpAny (model C.prog C.w) A (spliced (backTo pos (starEach (d0e as xs) env))) (fun vs s1=>wpAny (model C.prog C.w) A (call (.type id) (first++vs)) P NoE s1) NoE s) :
  wpAny (model C.prog C.w) A (callWith pos (.type id) first (backTo pos (starEach (d0e as xs) env)) []) P NoE s:=
 PyProof.Rows.callWith_type (h0z pos as xs) (e0z h)
theorem g0j{x:Str}(h:globK σ x=true):σ.kinds.lookup x=some .globalImplicit∧(x == ("__debug__":Str))=false:=⟨beq_iff_eq.mp (an1 h),(Bool.not_eq_true' _).mp (an2 h)⟩
theorem a1f(S:St C H s.heap){v:a0a}{k:Nat}(h:w0p v=true){Q:a0d}(q:Q v H):wpAny (model C.prog C.w) A (eval (.Constant (a1e v) k pos) env) (Pst C H s Q) NoE s:=by
 cases v with
 | none=>intro U U U;exact Pst.here S VR.mkNone q
 | bool b=>intro U U U;exact Pst.here S (VR.mkBool _) q
 | int i=>exact wpAny_Constant_int (Pst.same S (VR.mkInt _ _) q _)
 | str x=>exact Calls.Constant_str (Pst.same S (VR.mkStr _ _) q _)
 | _=>exact ft h
theorem q1i{i:Nat}:c0f F c n (.var i):=fun C hF A env σ m H s Q x N hc q=>by
 show wpAny _ A (eval (.Name _ _) env) _ _ s;rw[PySem.eval_Name (hd:=(Bool.not_eq_true' _).mp (an2 hc))];replace q:(match m[i]? with | some (some v)=>Q v H | _=>False):=q
 cases hv:m[i]? with
 | none=>rw[hv]at q;exact q.elim
 | some o=>
  rw[hv]at q;cases o with
  | none=>exact q.elim
  | some v=>exact wpAny_bind (wpAny_standAt (f1h N.S N.e (beq_iff_eq.mp (an1 hc)) hv q))
theorem p1z{v:a0a}:c0f F c n (.con v):=fun C hF A env σ m H s Q x N hc q=>a1f N.S hc q
theorem q1a(T:b0z F){g:Nat}:c0f F c n (.glo g):=fun C hF A env σ m H s Q x N hc q=>by
 subst hF;obtain⟨h1,h2⟩:=g0j hc;replace q:(match i0j g with | some v=>Q v H | none=>False):=q
 cases hv:i0j g with
 | none=>rw[hv]at q;exact q.elim
 | some v=>
  rw[hv]at q;obtain⟨u,g1,g2⟩:=T.glo g v hv;refine p0s T N.S N.e h1 h2 g1 (Pst.here N.S ?_ q);exact g2.mono fun a vs k e=>N.S.ok.base _ _ e
theorem p1x{op:BOp}{a b:a0m}(i1:c0f F c n a)(i2:c0f F c n b):c0f F c n (.bin op a b):=fun C hF A env σ m H s Q x N hc q=>
 wpAny_BinOp (b0a N (i1 C hF A env σ m H s _ _ N (an1 hc) q) fun u h1' tk1 H1 x1 N1 t1 r1 q1=>b0a N1 (i2 C hF A env σ m H1 _ _ _ N1 (an2 hc) q1) fun w h2' tk2 H2 x2 N2 t2 r2 q2=>
  f0w (tk:=tk2) (t1.trans t2) (z0r N2.S (r1.mono (N1.S.tup t2)) r2 q2))
theorem q1c{a:a0m}(i1:c0f F c n a):c0f F c n (.neg a):=fun C hF A env σ m H s Q x N hc q=>
 wpAny_UnaryOp (b0a N (i1 C hF A env σ m H s _ _ N hc q) fun u h1' tk1 H1 x1 N1 t1 r1 q1=>f0w (tk:=tk1) t1 (j1q N1.S r1 q1))
theorem p1y{op:COp}{a b:a0m}(i1:c0f F c n a)(i2:c0f F c n b):c0f F c n (.cmp op a b):=fun C hF A env σ m H s Q x N hc q=>
 wpAny_Compare1 (b0a N (i1 C hF A env σ m H s _ _ N (an1 hc) q) fun u h1' tk1 H1 x1 N1 t1 r1 q1=>b0a N1 (i2 C hF A env σ m H1 _ _ _ N1 (an2 hc) q1) fun w h2' tk2 H2 x2 N2 t2 r2 q2=>
  wpAny_mono (a1b N2.S N2.R (r1.mono (N1.S.tup t2)) r2 q2) (fun v s' p=>by
   obtain⟨b,tk,rfl,rfl,q3⟩:=p;exact(Pst.same N2.S (VR.mkBool b) q3 tk).trans rfl (t1.trans t2)) fun U U e=>e) (m0b b _)
theorem r1g{op:COp}{a b:a0m}(i1:c0f F c n a)(i2:c0f F c n b):n0w F c n (.cmp op a b):=fun C hF A env σ m H s Q x N hc q=>
 wpAny_isTrue_Compare1 (b0a N (i1 C hF A env σ m H s _ _ N (an1 hc) q) fun u h1' tk1 H1 x1 N1 t1 r1 q1=>b0a N1 (i2 C hF A env σ m H1 _ _ _ N1 (an2 hc) q1) fun w h2' tk2 H2 x2 N2 t2 r2 q2=>
  wpAny_mono (a1b N2.S N2.R (r1.mono (N1.S.tup t2)) r2 q2) (fun v s' p=>by
   obtain⟨b,tk,rfl,rfl,q3⟩:=p;exact wpAny_truthy_bool ((N2.S.same (rel:=z0a) (b:=b) rfl q3 tk).trans rfl (t1.trans t2))) fun U U e=>e) (m0b b _)
theorem q1e{a:a0m}(i1:c0f F c n a):c0f F c n (.not a):=fun C hF A env σ m H s Q x N hc q=>by
 refine wpAny_UnaryOp (b0a N (i1 C hF A env σ m H s _ _ N hc q) fun u h1' tk1 H1 x1 N1 t1 r1 q1=>?_);obtain⟨b,rfl,rfl,q2⟩:=p0b r1 q1;exact not_value (wpAny_truthy_bool ((Pst.same N1.S (VR.mkBool (!b)) q2 tk1).trans rfl t1))
theorem r1i{a:a0m}(i1:n0w F c n a):n0w F c n (.not a):=fun C hF A env σ m H s Q x N hc q=>by
 refine wpAny_isTrue_Not (b0a N (i1 C hF A env σ m H s _ _ N hc q) fun u h1' tk1 H1 x1 N1 t1 r1 q1=>?_);rw[show u=x1 from r1];exact(N1.S.same (rel:=z0a) (b:=!x1) rfl q1 tk1).trans rfl t1
theorem q1b{t a b:a0m}(i0:n0w F c n t)(i1:c0f F c n a)(i2:c0f F c n b):c0f F c n (.ite t a b):=fun C hF A env σ m H s Q x N hc q=>by
 refine wpAny_IfExp (b0a N (i0 C hF A env σ m H s _ _ N (an1 hc) q) fun u h1' tk1 H1 x1 N1 t1 r1 q1=>?_);rw[show u=x1 from r1];clear r1;cases x1 with
 | true=>exact f0w (tk:=tk1) t1 (i1 C hF A env σ m H1 _ _ _ N1 (an1 (an2 hc)) q1)
 | false=>exact f0w (tk:=tk1) t1 (i2 C hF A env σ m H1 _ _ _ N1 (an2 (an2 hc)) q1)
theorem r1h{t a b:a0m}(i0:n0w F c n t)(i1:n0w F c n a)(i2:n0w F c n b):n0w F c n (.ite t a b):=fun C hF A env σ m H s Q x N hc q=>by
 show wpAny _ A (isTrue (.IfExp _ _ _ _) env _) _ _ s;rw[arm_isTrue_IfExp];refine wpAny_bind (b0a N (i0 C hF A env σ m H s _ _ N (an1 hc) q) fun u h1' tk1 H1 x1 N1 t1 r1 q1=>?_);rw[show u=x1 from r1];clear r1;cases x1 with
 | true=>exact f0w (tk:=tk1) t1 (i1 C hF A env σ m H1 _ _ _ N1 (an1 (an2 hc)) q1)
 | false=>exact f0w (tk:=tk1) t1 (i2 C hF A env σ m H1 _ _ _ N1 (an2 (an2 hc)) q1)
theorem m1e{as:a0w}(ia:i0z (c0f F c n) as):c0f F c n (.list as):=fun C hF A env σ m H s Q x N hc q=>
 List_ (b0a N (e0g as ia C hF A env σ m H s _ _ x.pos N hc q) fun us h1' tk1 H1 vs N1 t1 r1 q1=>f0w (tk:=tk1) t1 (u0i N1.S r1 q1))
theorem q1h{as:a0w}(ia:i0z (c0f F c n) as):c0f F c n (.tup as):=fun C hF A env σ m H s Q x N hc q=>
 Tuple_ (b0a N (e0g as ia C hF A env σ m H s _ _ x.pos N hc q) fun us h1' tk1 H1 vs N1 t1 r1 q1=>f0w (tk:=tk1) t1 (s0c N1.S r1 q1.1 q1.2))
theorem i1l{kd:Nat}:c0f F c n (.edict kd):=fun C hF A env σ m H s Q x N hc q=>u0h N.S q.1 q.2
theorem q1g{a i:a0m}(i1:c0f F c n a)(i2:c0f F c n i):c0f F c n (.sub a i):=fun C hF A env σ m H s Q x N hc q=>
 Subscript_ (b0a N (i1 C hF A env σ m H s _ _ N (an1 hc) q) fun u h1' tk1 H1 x1 N1 t1 r1 q1=>b0a N1 (i2 C hF A env σ m H1 _ _ _ N1 (an2 hc) q1) fun w h2' tk2 H2 x2 N2 t2 r2 q2=>
  wpAny_mono (k1f N2.S N2.R (r1.mono (N1.S.tup t2)) r2 q2 (u0w i)) (fun v s' p=>by
   obtain⟨mv,tk,rfl,r3,q3⟩:=p;exact(Pst.same N2.S r3 q3 tk).trans rfl (t1.trans t2)) fun U U e=>e)
theorem i1m{a k:a0m}(i1:c0f F c n a)(i2:c0f F c n k):c0f F c n (.slcTo a k):=fun C hF A env σ m H s Q x N hc q=>by
 refine Subscript_ (b0a N (i1 C hF A env σ m H s _ _ N (an1 hc) q) fun u h1' tk1 H1 x1 N1 t1 r1 q1=>wpAny_Slice (wpAny_pure (b0a N1 (i2 C hF A env σ m H1 _ _ _ N1 (an2 hc) q1) fun w h2' tk2 H2 x2 N2 t2 r2 q2=>wpAny_pure ?_)));refine wpAny_mono ?_ (fun U U p=>l0g.trans (tk:=tk2) rfl (t1.trans t2) p) fun U U e=>e;have r1':=r1.mono (N1.S.tup t2);clear r1 q1;cases x1 <;> first | exact q2.elim | (cases x2 <;> first | exact q2.elim | skip)
 ·obtain⟨h0,hk,hl,q3⟩:=q2;obtain⟨tt,rfl⟩:=r2;obtain⟨t',rfl⟩:=r1';exact u0v (s:={ s with heap:=h2',toks:=tk2 }) N2.S h0 hk q3
 ·obtain⟨l,hl0,h0,hk,hl,q3⟩:=q2;obtain⟨tt,rfl⟩:=r2;obtain⟨vs,k0,g,rl⟩:=N2.S.ok.objs _ _ hl0;rw[show u=.ref _ from r1'];exact k0e (s:={ s with heap:=h2',toks:=tk2 }) N2.S (b0x g) rl h0 hl q3
 ·obtain⟨h0,hk,hl,q3⟩:=q2;obtain⟨tt,rfl⟩:=r2;obtain⟨b,vs,k0,rfl,g,rl⟩:=r1';obtain⟨ob,g1,g2,g3⟩:=g;exact k0e (s:={ s with heap:=h2',toks:=tk2 }) N2.S ⟨ob,N2.S.ok.base _ _ g1,g2,_,g3⟩ rl h0 hl q3
theorem q1f{a b k:a0m}(i1:c0f F c n a)(i2:c0f F c n b)(i3:c0f F c n k):c0f F c n (.slc a b k):=fun C hF A env σ m H s Q x N hc q=>by
 refine Subscript_ (b0a N (i1 C hF A env σ m H s _ _ N (an1 hc) q) fun u h1' tk1 H1 x1 N1 t1 r1 q1=>wpAny_Slice (b0a N1 (i2 C hF A env σ m H1 _ _ _ N1 (an1 (an2 hc)) q1) fun w h2' tk2 H2 x2 N2 t2 r2 q2=>
  b0a N2 (i3 C hF A env σ m H2 _ _ _ N2 (an2 (an2 hc)) q2) fun v h3' tk3 H3 x3 N3 t3 r3 q3=>wpAny_pure ?_))
 refine wpAny_mono ?_ (fun U U p=>l0g.trans (tk:=tk3) rfl (t1.trans (t2.trans t3)) p) fun U U e=>e;have r1':=(r1.mono (N1.S.tup t2)).mono (N2.S.tup t3);have r2':=r2.mono (N2.S.tup t3);clear r1 q1 q2 r2;cases x1 <;> first | exact q3.elim | (cases x2 <;> first | exact q3.elim | (cases x3 <;> first | exact q3.elim | skip))
 obtain⟨ha,U,hb,U,hl,q4⟩:=q3;obtain⟨tt,rfl⟩:=r2';obtain⟨tt',rfl⟩:=r3;exact c1u (s:={ s with heap:=h3',toks:=tk3 }) N3.S r1' ha hb hl q4
theorem m1b(T:b0z F){a:a0m}{k:Nat}(i1:c0f F c n a):c0f F c n (.attr a k):=fun C hF A env σ m H s Q x N hc q=>by
 subst hF;refine Attribute_any_ (b0a N (i1 C rfl A env σ m H s _ _ N (an2 hc) q) fun u h1' tk1 H1 x1 N1 t1 r1 q1=>?_) (by rw[arm_eval_Attribute,f0n (an1 hc)]);obtain⟨b,cc,fs,wv,e,hb,hw,q1⟩:=q1;subst e;rw[show u=.ref b from r1];exact f0w (tk:=tk1) t1 (d1z T N1.S hb hw q1)
end
noncomputable def m0l:a0m→Bool
 | .not _ | .and _ | .or _ | .ite .. | .cmp ..=>false
 | _=>true
theorem isTrue_plain{e:a0m}{x:Expr}(h:m0l e=true)(env:Env)(whole:Sem Value):isTrue (c0a e x) env whole=(do let v←whole;standAt (c0a e x).pos;holding [v] (truthy v)):=by
 cases e <;> first | rfl | exact ft h
noncomputable def c1z:BoolOp→Bool
 | .And=>false
 | .Or=>true
noncomputable def p1r(Γ:Gam):BoolOp→a0w→Loc→MH→(Bool→MH→Prop)→Prop
 | .And=>k0v Γ
 | .Or=>h1j Γ
noncomputable def boK(Γ:Gam)(r:a0w)(m:Loc)(Q:Bool→MH→Prop):BoolOp→Bool→MH→Prop
 | .And,b,H1=>if b=true then k0v Γ r m H1 Q else Q false H1
 | .Or,b,H1=>if b=true then Q true H1 else h1j Γ r m H1 Q
theorem z0u{Γ:Gam}{op:BoolOp}{e:a0m}{r:a0w}{m:Loc}{H:MH}{Q:Bool→MH→Prop}(q:p1r Γ op (.cons e r) m H Q):wpE Γ e m H (asB (boK Γ r m Q op)):=by cases op <;> exact q
theorem e1f{Γ:Gam}{op:BoolOp}{r:a0w}{m:Loc}{H:MH}{Q:Bool→MH→Prop}(q:boK Γ r m Q op (c1z op) H):Q (c1z op) H:=by cases op <;> exact q
theorem l1x{Γ:Gam}{op:BoolOp}{r:a0w}{m:Loc}{H:MH}{Q:Bool→MH→Prop}(q:boK Γ r m Q op (!c1z op) H):p1r Γ op r m H Q:=by cases op <;> exact q
section
variable {C:Cx}{H H1:MH}{s:Shared}{h1:Heap}{n:Nat}{A:Around}{env:Env}{σ:Sc}{m:Loc}{c:Nat→List a0a→MH→a0d→Prop}{F:Fx}{pos:Pos}{P:Value→Shared→Prop}{op:BoolOp}
theorem k1i{e:a0m}(i1:c0f F c n e)(hp:m0l e=true):n0w F c n e:=fun C hF A env σ m H s Q x N hc q=>by
 rw[isTrue_plain hp];refine wpAny_bind (b0a N (i1 C hF A env σ m H s _ _ N hc q) fun u h1' tk1 H1 x1 N1 t1 r1 q1=>wpAny_bind (wpAny_standAt (wpAny_holding ?_)));obtain⟨b,rfl,rfl,q2⟩:=p0b r1 q1;exact wpAny_truthy_bool ((N1.S.same (rel:=z0a) (b:=b) rfl q2 tk1).trans rfl t1)
theorem t0i{M:Model}{E:Value→Shared→Prop}{x y:Sem Value}{ys:List (Sem Value)}(h:wpAny M A x (fun v s1=>wpAny M A (truthy v) (fun t s2=>(t=c1z op→P v s2)∧(t=!c1z op→wpAny M A (boolOp pos op (y::ys)) P E s2)) E s1) E s):wpAny M A (boolOp pos op (x::y::ys)) P E s:=by
 show wpAny M A (x >>= fun v=>standAt pos >>= fun U=>holding [v] (truthy v) >>= fun t=>match op,t with
  | .And,false | .Or,true=>pure v
  | _,_=>boolOp pos op (y::ys)) _ _ _
 refine wpAny_bind (wpAny_mono h (fun v s1 h1=>wpAny_bind (wpAny_standAt (wpAny_bind (wpAny_holding (wpAny_mono h1 (fun t s2 h2=>?_) fun U U e=>e))))) fun U U e=>e);clear h h1;cases op <;> cases t <;> first | exact wpAny_pure (h2.1 rfl) | exact h2.2 rfl
theorem a1j{as:a0w}{xs:List Expr}(h:s0i as=true):∃ y ys,evalEach (d0e as xs) env=y::ys:=by
 cases as with
 | nil=>exact ft h
 | cons e r=>exact⟨_,_,rfl⟩
set_option tactic.hygienic true in
theorem z0v:∀ (as:a0w),i0z (c0f F c n) as→∀ (C:Cx),C.toFx=F→∀ (A:Around) (env:Env) (σ:Sc) (m:Loc) (H:MH) (s:Shared) (Q:Bool→MH→Prop) (xs:List Expr),
  Now C A n env σ m H s→s0x σ as xs=true→s0i as=true→p1r (gam c) op as m H Q→wpAny (model C.prog C.w) A (boolOp pos op (evalEach (d0e as xs) env)) (Pst C H s (asB Q)) NoE s
 | .nil,_,C,hF,A,env,σ,m,H,s,Q,xs,N,hc,hs,q=>ft hs
 | .cons e r,ih,C,hF,A,env,σ,m,H,s,Q,xs,N,hc,hs,q=>by
  replace q:=z0u q;cases hr:s0i r with
  | false=>
   clear hs;cases r with
   | cons=>exact tf hr
   | nil=>
    refine wpAny_mono (ih.1 C hF A env σ m H s _ _ N (an1 hc) q) (fun U U p=>l0g.mono p fun b H' q'=>?_) fun U U e=>e;cases b <;> try exact q'.elim
    rename_i b;clear q p;cases op <;> cases b <;> exact q'
  | true=>
   obtain⟨y,ys,hy⟩:=a1j (env:=env) (xs:=xs.tail) hr;show wpAny _ A (boolOp pos op (eval (c0a e (xs.headD default)) env::evalEach (d0e r xs.tail) env)) _ _ _;rw[hy];refine t0i (b0a N (ih.1 C hF A env σ m H s _ _ N (an1 hc) q) fun a h' tk H1 b N1 t r1 q1=>?_);obtain⟨b,rfl,rfl,q2⟩:=p0b r1 q1;refine wpAny_truthy_bool (And.intro (fun z=>?_) fun z=>?_)
   ·clear q1 r1;subst z;exact(Pst.same N1.S (VR.mkBool _) (e1f q2) tk).trans rfl t
   ·clear q1 r1;subst z;rw[← hy];exact f0w (tk:=tk) t (z0v r ih.2 C hF A env σ m H1 _ _ xs.tail N1 (an2 hc) hr (l1x q2))
theorem t0h:∀ (as:a0w),i0z (n0w F c n) as→∀ (C:Cx),C.toFx=F→∀ (A:Around) (env:Env) (σ:Sc) (m:Loc) (H:MH) (s:Shared) (Q:Bool→MH→Prop) (xs:List Expr),
  Now C A n env σ m H s→s0x σ as xs=true→p1r (gam c) op as m H Q→wpAny (model C.prog C.w) A (allTrue op (d0e as xs) env) (l0g C H s z0a Q) NoE s
 | .nil,_,C,hF,A,env,σ,m,H,s,Q,xs,N,hc,q=>by
  cases op <;> exact wpAny_pure (N.S.same (rel:=z0a) (b:=_) rfl q s.toks)
 | .cons e r,ih,C,hF,A,env,σ,m,H,s,Q,xs,N,hc,q=>by
  show wpAny _ A (allTrue op (c0a e (xs.headD default)::d0e r xs.tail) env) _ _ _;rw[arm_allTrue_cons];refine wpAny_bind (b0a N (ih.1 C hF A env σ m H s _ _ N (an1 hc) (z0u q)) fun a h' tk H1 b N1 t r1 q1=>?_);rw[show a=b from r1];have go:=fun q=>f0w (tk:=tk) t (t0h r ih.2 C hF A env σ m H1 _ Q xs.tail N1 (an2 hc) q);clear q r1;cases op <;> cases b <;> first | exact wpAny_pure ((N1.S.same (rel:=z0a) (Q:=Q) (b:=_) rfl q1 tk).trans rfl t) | exact go q1
theorem m0z:∀ (cs:List Expr) (env:Env),forIn cs false (fun c r=>if r=true then do let ok←isTrue c env (eval c env);pure (ForInStep.yield ok) else pure (ForInStep.yield r))=(pure false:Sem Bool)
 | [],_=>rfl
 | c::cs,env=>by
  rw[forIn_cons];exact m0z cs env
theorem s0r:∀ (as:a0w),i0z (n0w F c n) as→∀ (C:Cx),C.toFx=F→∀ (A:Around) (env:Env) (σ:Sc) (m:Loc) (H:MH) (s:Shared) (Q:Bool→MH→Prop) (xs:List Expr),
  Now C A n env σ m H s→s0x σ as xs=true→k0v (gam c) as m H Q→wpAny (model C.prog C.w) A (w0w (d0e as xs) env) (l0g C H s z0a Q) NoE s
 | .nil,_,C,hF,A,env,σ,m,H,s,Q,xs,N,hc,q=>wpAny_tests_nil (N.S.same (rel:=z0a) (b:=true) rfl q s.toks)
 | .cons e r,ih,C,hF,A,env,σ,m,H,s,Q,xs,N,hc,q=>by
  show wpAny _ A (forIn (c0a e (xs.headD default)::d0e r xs.tail) true _) _ _ _;rw[forIn_cons,if_pos rfl];refine wpAny_bind (wpAny_bind (b0a N (ih.1 C hF A env σ m H s _ _ N (an1 hc) q) fun a h' tk H1 b N1 t r1 q1=>wpAny_pure ?_));rw[show a=b from r1];clear r1;cases b with
  | false=>
   dsimp only;rw[m0z];exact wpAny_pure ((N1.S.same (rel:=z0a) (b:=false) rfl q1 tk).trans rfl t)
  | true=>exact f0w (tk:=tk) t (s0r r ih.2 C hF A env σ m H1 _ _ xs.tail N1 (an2 hc) q1)
theorem z0i{b:a0a}{H':MH}{Q:a0d}(q:asB (fun r H2=>Q (.bool r) H2) b H'):Q b H':=by
 cases b <;> first | exact q.elim | exact q
theorem p1w{as:a0w}(ia:i0z (c0f F c n) as):c0f F c n (.and as):=fun C hF A env σ m H s Q x N hc q=>
 wpAny_mono (z0v (op:=.And) as ia C hF A env σ m H s _ _ N (an2 hc) (an1 hc) q) (fun U U p=>l0g.mono p fun b H' q'=>z0i q') fun U U e=>e
theorem s1s{as:a0w}(ia:i0z (c0f F c n) as):c0f F c n (.or as):=fun C hF A env σ m H s Q x N hc q=>
 wpAny_mono (z0v (op:=.Or) as ia C hF A env σ m H s _ _ N (an2 hc) (an1 hc) q) (fun U U p=>l0g.mono p fun b H' q'=>z0i q') fun U U e=>e
theorem r1f{as:a0w}(ia:i0z (n0w F c n) as):n0w F c n (.and as):=fun C hF A env σ m H s Q x N hc q=>t0h (op:=.And) as ia C hF A env σ m H s _ _ N (an2 hc) q
theorem s1z{as:a0w}(ia:i0z (n0w F c n) as):n0w F c n (.or as):=fun C hF A env σ m H s Q x N hc q=>t0h (op:=.Or) as ia C hF A env σ m H s _ _ N (an2 hc) q
end
theorem h1z(b:Bi):bootBuiltins (v0g b)=some (e1c b):=by cases b <;> decide +kernel
theorem boot_range:bootBuiltins "range"=some (.type "range"):=by decide +kernel
theorem z0w:bootBuiltins "enumerate"=some (.type "enumerate"):=by decide +kernel
theorem h1y(b:Bm):PlainAttrs (if b=.get then "dict" else "list")∧Slot (if b=.get then "dict" else "list") (g1m b) (p1v b)∧typeOf (.builtin (p1v b))=pure (.type "method_descriptor"):=by
 cases b
 ·exact⟨F.plainAttrs_list,F.slot_list_append,F.type_list_append⟩
 ·exact⟨F.plainAttrs_list,F.slot_list_extend,F.type_list_extend⟩
 ·exact⟨F.plainAttrs_dict,F.slot_dict_get,F.type_dict_get⟩
 ·exact⟨F.plainAttrs_list,F.slot_list_index,F.type_list_index⟩
theorem n0b:PlainAttrs "dict"∧Slot "dict" "values" "dict.values"∧typeOf (.builtin "dict.values")=pure (.type "method_descriptor"):=(Mac.i3_0 F.plainAttrs_dict F.slot_dict_values F.type_dict_values)
theorem f1e:∀ c<6,∀ x<19,i0r c x≠none→d0q x∉(c0u c).map a0o:=by decide +kernel
section
variable {C:Cx}{H H1:MH}{s:Shared}{h1:Heap}{n:Nat}{A:Around}{env:Env}{σ:Sc}{m:Loc}{c:Nat→List a0a→MH→a0d→Prop}{F:Fx}{as:a0w}{xs:List Expr}{pos:Pos}{first:List Value}{P:Value→Shared→Prop}
theorem VRs.one_inv{B h:Heap}{x:a0a}{us:List Value}(r:VRs B h [x] us):∃ v,us=[v]∧VR B h x v:=by
 obtain⟨v,r',rfl,rv,hr⟩:=r;rw[show r'=[] from hr];exact⟨v,rfl,rv⟩
theorem VRs.two_inv{B h:Heap}{x y:a0a}{us:List Value}(r:VRs B h [x,y] us):∃ v w,us=[v,w]∧VR B h x v∧VR B h y w:=by
 obtain⟨v,r',rfl,rv,hr⟩:=r;obtain⟨w,rfl,rw'⟩:=VRs.one_inv hr;exact⟨v,w,rfl,rv,rw'⟩
theorem l1v(S:St C H s.heap)(R:d0t A n){b:Bi}{vs:List a0a}{us:List Value}(r:VRs C.B s.heap vs us){Q:a0d}(q:biP b vs H Q):wpAny (model C.prog C.w) A (call (e1c b) us) (Pst C H s Q) NoE s:=by
 rcases vs with _ | ⟨x,_ | ⟨y,l⟩⟩
 ·cases b <;> exact q.elim
 ·obtain⟨v,rfl,rv⟩:=VRs.one_inv r;cases b
  ·exact j1j S R rv q
  ·exact y0m S R rv q
  ·exact f1g S R rv q
  ·exact d1h S R rv q
  ·exact h1s S R rv q
  ·exact j1b S R rv q
  ·exact k1g S R rv q
  ·exact e1s S R rv q
 ·clear r;cases b <;> cases x <;> exact q.elim
theorem l1w(S:St C H s.heap)(R:d0t A n){b:Bm}{x:a0a}{v:Value}(rx:VR C.B s.heap x v){vs:List a0a}{us:List Value}(r:VRs C.B s.heap vs us){Q:a0d}(q:bmP b x vs H Q):wpAny (model C.prog C.w) A (call (.builtin (p1v b)) ([v]++us)) (Pst C H s Q) NoE s:=by
 cases x <;> first | (cases b <;> exact q.elim) | skip
 rcases vs with _ | ⟨y,_ | ⟨z,_ | ⟨w,l⟩⟩⟩
 ·cases b <;> exact q.elim
 ·obtain⟨w,rfl,rw'⟩:=VRs.one_inv r;cases b
  ·exact x0j S R rx rw' q
  ·exact x0r S R rx rw' q
  ·exact q.elim
  ·exact a1x S R rx rw' q
 ·cases b
  ·exact q.elim
  ·clear r;cases y <;> exact q.elim
  ·obtain⟨w,t,rfl,r1,r2⟩:=VRs.two_inv r;exact i1x S R rx r1 r2 q
  ·exact q.elim
 ·clear r;cases b <;> first | exact q.elim | (cases y <;> exact q.elim)
theorem h1x(S:St C H s.heap){b:Bm}{x:a0a}{v:Value}(rx:VR C.B s.heap x v)(q:bmR b x H):∃ a o,v=.ref a∧s.heap.get? a=some o∧o.cls=.type (if b=.get then "dict" else "list")∧o.dict=none:=by
 cases x <;> first | (cases b <;> exact q.elim) | skip
 cases b
 case get=>
  obtain⟨kd,kv,ep,hb⟩:=q;obtain⟨U,U,es,g,U⟩:=S.ok.objs _ _ hb;exact⟨_,_,rx,g,rfl,rfl⟩
 all_goals
  obtain⟨l,hb⟩:=q;obtain⟨vs,k,g,U⟩:=S.ok.objs _ _ hb;exact⟨_,_,rx,g,rfl,rfl⟩
theorem y0h{e:a0m}{y:Expr}{name:Str}{apos pos:Pos}{E:Value→Shared→Prop}{Q:Value→Shared→Prop}{M:Model}(hb:g0m e=true)(hfew:few (d0e as xs)=true)(hline:(apos.endLine == pos.line)=true)
  (h:wpAny M A (eval (c0a e y) env) (fun ov s1=>∀ pl,wpAny M A (getMethod ov name pl) (fun fx s2=>wpAny M A (callWith pos fx.1 fx.2 (backTo pos (starEach (d0e as xs) env)) []) Q E s2) E s1) E s) :
  wpAny M A (eval (.Call (.Attribute (c0a e y) name apos) (d0e as xs) [] pos) env) Q E s:=by
 rw[arm_eval_Call,f0n hb];refine wpAny_bind (wpAny_mono h (fun ov s₁ h₁=>?_) fun U U e=>e);refine wpAny_bind (wpAny_standAt ?_);have hform:methodCallForm ((d0e as xs).length+([]:List Keyword).length) (backTo pos (starEach (d0e as xs) env)) (backToKw pos (keywordEach [] env))=true:=t0s pos as xs hfew;have hpos:methodCallPos true (c0a e y) env apos pos=pure pos:=by unfold methodCallPos;simp[hline]
 unfold methodCall;rw[hform];refine wpAny_bind (wpAny_holding (wpAny_mono (h₁ _) (fun fx s2 h2=>?_) fun U U e=>e));obtain⟨f,first⟩:=fx
 exact wpAny_bind (wpAny_of_eq hpos h2)
theorem m1c(T:b0z F)(K:b0b F c n){f:Nat}{as:a0w}(ia:i0z (c0f F c n) as):c0f F c n (.call f as):=fun C hF A env σ m H s Q x N hc q=>by
 subst hF;obtain⟨g1,g2⟩:=g0j (an2 (an1 hc));obtain⟨f1,f2⟩:=T.fn f (of_decide_eq_true (an1 (an1 hc)));refine wpAny_Call_NameR (p0s T N.S N.e g1 g2 f1 (i1c f2 (b0a N (e0g as ia C rfl A env σ m H s _ _ _ N (an2 hc) q) fun us h1' tk1 H1 vs N1 t1 r1 q1=>⟨N1.S.K T,f0w (tk:=tk1) t1 ?_⟩)));exact v0k K N1.R.down N1.S r1 q1
theorem q1d(T:b0z F)(K:b0b F c n){k:Nat}{as:a0w}(ia:i0z (c0f F c n) as):c0f F c n (.new k as):=fun C hF A env σ m H s Q x N hc q=>by
 subst hF;obtain⟨g1,g2⟩:=g0j (an2 (an1 hc));have hk:=of_decide_eq_true (an1 (an1 hc));obtain⟨f1,f2,U⟩:=T.cls k hk;refine wpAny_Call_NameR (p0s T N.S N.e g1 g2 f1 (i1c f2 (b0a N (e0g as ia C rfl A env σ m H s _ _ _ N (an2 hc) q) fun us h1' tk1 H1 vs N1 t1 r1 q1=>⟨N1.S.K T,f0w (tk:=tk1) t1 ?_⟩)));exact j1r T K N1.R N1.S hk r1 q1
theorem s1q(T:b0z F){b:Bi}{as:a0w}(ia:i0z (c0f F c n) as):c0f F c n (.bi b as):=fun C hF A env σ m H s Q x N hc q=>by
 subst hF;obtain⟨g1,g2⟩:=g0j (an1 hc);have hn:nsIn C.K mainGlobals (v0g b)=some none:=T.bnone _ (by clear hc q g1 g2;cases b <;> decide);refine wpAny_Call_NameR (l0w T N.S N.e g1 g2 hn (h1z b) (by clear hc q g1 g2 hn;cases b <;> decide) ?_);have key:∀ P':Value→Shared→Prop,wpAny (model C.prog C.w) A (spliced (backTo x.pos (starEach (d0e as (v0d x)) env))) (fun vs s1=>wpAny (model C.prog C.w) A (call (e1c b) ([]++vs)) P' NoE s1) NoE s→wpAny (model C.prog C.w) A (callWith x.pos (e1c b) [] (backTo x.pos (starEach (d0e as (v0d x)) env)) []) P' NoE s:=by
  intro P' h;clear hc q g1 g2 hn;cases b <;> first | exact i1b h | exact l1z h
 exact key _ (b0a N (e0g as ia C rfl A env σ m H s _ _ _ N (an2 hc) q) fun us h1' tk1 H1 vs N1 t1 r1 q1=>f0w (tk:=tk1) t1 (l1v N1.S N1.R r1 q1))
theorem s1r{b:Bm}{a:a0m}{as:a0w}(i1:c0f F c n a)(ia:i0z (c0f F c n) as):c0f F c n (.bm b a as):=fun C hF A env σ m H s Q x N hc q=>by
 obtain⟨b1,b2,b3⟩:=h1y b;refine wpAny_Call_method_lateS (f0n (an1 (an1 (an1 hc)))) (t0s x.pos as _ (an2 (an1 hc))) (an2 (an1 (an1 hc))) (b0a N (i1 C hF A env σ m H s _ _ N (an1 (an2 hc)) q) fun u h1' tk1 H1 x1 N1 t1 r1 q1=>?_);obtain⟨p,o,rfl,g,ho,hd⟩:=h1x N1.S r1 q1.1;refine⟨_,_,b1,b2,b3,(Mac.i3_1 _ g ho),fun a' e=>?_,i1b (b0a N1 (e0g as ia C hF A env σ m H1 _ _ _ _ N1 (an2 (an2 hc)) q1.2) fun us h2' tk2 H2 vs N2 t2 r2 q2=>f0w (tk:=tk2) (t1.trans t2) (l1w N2.S N2.R (r1.mono (N1.S.tup t2)) r2 q2))⟩;cases e;exact⟨_,g,hd⟩
theorem m1f(T:b0z F)(K:b0b F c n){a:a0m}{k:Nat}{as:a0w}(i1:c0f F c n a)(ia:i0z (c0f F c n) as):c0f F c n (.meth a k as):=fun C hF A env σ m H s Q x N hc q=>by
 subst hF;refine y0h (an1 (an1 (an1 hc))) (an2 (an1 hc)) (an2 (an1 (an1 hc))) (b0a N (i1 C rfl A env σ m H s _ _ N (an1 (an2 hc)) q) fun u h1' tk1 H1 x1 N1 t1 r1 q1 pl=>?_);obtain⟨b,cc,fs,f,e,hb,hf,q1⟩:=q1;subst e;have hf:i0r cc k=some f:=hf;rw[show u=.ref b from r1];obtain⟨c6,dx,des,k0,d1,d2,d3,d4⟩:=N1.S.ok.objs _ _ hb;obtain⟨m1,m2,m3,m4⟩:=T.met cc k f c6 hf;have hl:getL (d0q k) des=some none:=by
  have hni:=f1e cc c6 k (r0z hf) (by rw[hf];simp);obtain⟨z1,z2⟩:=l0f.noFind d4 (y:=d0q k) fun z=>hni (List.map_subset _ (List.take_subset _ _) z);unfold getL;rw[z1,z2];rfl
 refine method_fn (N1.S.K T) (t0x d2 d3) (plainGet_of m1).1 (plainGet_of m1).2 m2 (beq_iff_eq.mp m3) (by show(lookIn (d0q k) (dictOf des k0)).map _=_;rw[lookIn_dict,hl];rfl) ?_;exact i1c m4 (b0a N1 (e0g as ia C rfl A env σ m H1 _ _ _ _ N1 (an2 (an2 hc)) q1) fun us h2' tk2 H2 vs N2 t2 r2 q2=>⟨N2.S.K T,f0w (tk:=tk2) (t1.trans t2) (v0k (us:=.ref b::us) K N2.R.down N2.S (by exact⟨_,_,rfl,rfl,r2⟩) q2)⟩)
end
section
variable {C:Cx}{H H1:MH}{s:Shared}{h1:Heap}{n:Nat}{A:Around}{env:Env}{σ:Sc}{m:Loc}{c:Nat→List a0a→MH→a0d→Prop}{F:Fx}{pos:Pos}{first:List Value}{P:Value→Shared→Prop}
theorem k1j{t:Tgt}{x0:Expr}(h:m1w t=true):p1m (n0g t x0):=by
 cases t
 ·exact ft h
 ·exact⟨_,_,_,rfl⟩
theorem g1v(T:b0z C.toFx){k:ItK}{e:a0m}{t:Tgt}{x0 x:Expr}(ie:c0f C.toFx c n e)(N:Now C A n env σ m H s)(hc:p1n σ (e0q σ e) e t k x=true){K:List a0a→(MH→Prop)→MH→Prop}
  (q:wpE (gam c) e m H fun src H1=>g0q k src H1 fun items ok=>K items ok H1):wpAny (model C.prog C.w) A (eval (g1t (c0a e) k x) env) (fun xv s1=>wpAny (model C.prog C.w) A (pyIter xv) (ItP C (n0g t x0) H s K) NoE s1) NoE s:=by
 have tr:∀ {H1:MH} {h':Heap} {tk:Nat} {t1:Sem Value},TrE C.L C.mp H s.heap H1 h'→wpAny (model C.prog C.w) A t1 (fun xv s1=>wpAny (model C.prog C.w) A (pyIter xv) (ItP C (n0g t x0) H1 { s with heap:=h',toks:=tk } K) NoE s1) NoE { s with heap:=h',toks:=tk }→
   wpAny (model C.prog C.w) A t1 (fun xv s1=>wpAny (model C.prog C.w) A (pyIter xv) (ItP C (n0g t x0) H s K) NoE s1) NoE { s with heap:=h',toks:=tk }:=fun t h=>wpAny_mono h (fun U U h=>wpAny_mono h (fun U U p=>ItP.trans N.S t p) fun U U e=>e) fun U U e=>e
 have one:∀ {y:Expr} {p':Pos} {T':String},e0q σ e y=true→(∀ u h' tk H1 x1,Now C A n env σ m H1 { s with heap:=h',toks:=tk }→TrE C.L C.mp H s.heap H1 h'→VR C.B h' x1 u→g0q k x1 H1 (fun items ok=>K items ok H1)→
   wpAny (model C.prog C.w) A (call (.type T') [u]) (fun xv s1=>wpAny (model C.prog C.w) A (pyIter xv) (ItP C (n0g t x0) H s K) NoE s1) NoE { s with heap:=h',toks:=tk })→
   wpAny (model C.prog C.w) A (callWith p' (.type T') [] (backTo p' (starEach (d0e (.cons e .nil) [y]) env)) []) (fun xv s1=>wpAny (model C.prog C.w) A (pyIter xv) (ItP C (n0g t x0) H s K) NoE s1) NoE s:=by
  intro y p' T' h2 h;refine l1z (spliced_more (b0a N (ie C rfl A env σ m H s _ y N h2 q) fun u h' tk H1 x1 N1 t r1 q1=>spliced_none ?_) (l0e (.cons e .nil) [y]));exact h u h' tk H1 x1 N1 t r1 q1
 cases k
 ·exact b0a N (ie C rfl A env σ m H s _ x N hc q) fun u h' tk H1 x1 N1 t r1 q1=>wpAny_mono (c1g N1.S n0a r1 q1) (fun U U p=>ItP.trans N.S t p) fun U U e=>e
 ·obtain⟨g1,g2⟩:=g0j (an1 (an1 hc));exact wpAny_Call_NameR (l0w T N.S N.e g1 g2 (T.bnone _ (by decide)) z0w (by decide) (one (an2 hc) fun u h' tk H1 x1 N1 t r1 q1=>tr t (e1t N1.S (k1j (an2 (an1 hc))) r1 q1)))
 ·obtain⟨g1,g2⟩:=g0j (an1 hc);exact wpAny_Call_NameR (l0w T N.S N.e g1 g2 (T.bnone _ (by decide)) boot_range (by decide) (one (an2 hc) fun u h' tk H1 x1 N1 t r1 q1=>tr t (c1o N1.S n0a r1 q1)))
 ·refine wpAny_Call_method_lateS (f0n (an1 (an1 hc))) (t0s x.pos .nil [] rfl) (an2 (an1 hc)) (b0a N (ie C rfl A env σ m H s _ _ N (an2 hc) q) fun u h' tk H1 x1 N1 t r1 q1=>?_);have hd:∃ a es ep,u=.ref a∧h'.get? a=some (dictOf es ep):=by
   cases x1 <;> try exact q1.elim
   obtain⟨kd,kv,ep,ho,U⟩:=q1;obtain⟨U,U,es,g,U⟩:=N1.S.ok.objs _ _ ho;exact⟨_,es,ep,r1,g⟩
  obtain⟨a,des,ep,rfl,g⟩:=hd;refine⟨_,_,n0b.1,n0b.2.1,n0b.2.2,⟨_,g,rfl⟩,fun a' e=>?_,i1b (as:=.nil) (xs:=[]) (spliced_none (tr t (g1e N1.S n0a r1 q1)))⟩;cases e;exact⟨_,g,rfl⟩
theorem e1p(S:St C H s.heap){H1 H2:MH}{h1 h2:Heap}{W:Addr→Prop}(t:TrE C.L C.mp H s.heap H1 h1)(S1:St C H1 h1)(hw:∀ a,W a→(∀ o,s.heap.get? a=some o→H a=none→False)∧H1 a=none∧C.B.get? a=none∧¬ C.X a)
  {D:Addr} {acc:List a0a} {us:List Value} {cn:Nat} (fD:h1.get? D=none) (g:h2.get? D=some (b0n us cn)) (r:VRs C.B h2 acc us) (ok:Ok C.prog C.w C.ca C.X C.B H2 h2)
  (keep:∀ a o,¬ W a→h1.get? a=some o→H1 a=none→h2.get? a=some o) (old:∀ a o,h1.get? a=some o→H1 a=none→H2 a=none) (hD:H2 D=none) :
  TrE C.L C.mp H s.heap (upd H2 D (.list acc)) h2∧St C (upd H2 D (.list acc)) h2:=by
 have fd:=b0w (s:={ heap:=h1 }) S1 (a:=D) fD;have nsL:h2.Ns C.L C.mp:=S1.ns.at' fun o e=>keep _ _ (fun w=>(hw _ w).2.2.2 S1.hL) e (S1.ok.frm _ S1.hL).1;refine⟨⟨fun a o n e e0=>?_,fun a o e e0=>?_,nsL⟩,ok.adopt g hD fd.2.1 fd.2.2 r,S.hL,nsL⟩
 ·exact keep a o (fun w=>(hw a w).1 o e e0) (t.keep a o n e e0) (t.old a o e e0)
 ·unfold upd;by_cases z:a=C.L
  ·clear e e0;subst z;rw[if_neg]
   ·exact(ok.frm _ S.hL).1
   ·clear fD g hD;rintro rfl;exact fd.2.2 S.hL
  ·have e1:=t.keep a o z e e0;rw[if_neg]
   ·exact old a o e1 (t.old a o e e0)
   ·first | exact nef (fD) e1 (fun e=>by cases e) | exact nef e1 (fD) (fun e=>by cases e)
theorem r0v{H:MH}{h h':Heap}(S:St C H h){Cad:Addr}(fc:¬ C.X Cad)(hC:H Cad=none)(bC:C.B.get? Cad=none)(n:∃ o,h.get? Cad=some o∧∀ vs k,o≠a0l vs k)(sb:Heap.SameBut Cad h h'):St C H h'∧a0k h h':=by
 have o:=c0j sb;refine⟨S.off o (fun a w=>by clear n sb o;subst w;exact⟨hC,bC,fc⟩) fun a w=>by clear fc hC bC sb o;subst w;exact n,fun a vs k e=>o a _ (fun w=>?_) e⟩;clear fc hC bC sb o;subst w;obtain⟨ob,e',z⟩:=n;rw[e]at e';cases e';exact z _ _ rfl
theorem v0o(T:b0z C.toFx){elt:a0m}{t:Tgt}{k:ItK}{e:a0m}{ifs:a0w}(ie:c0f C.toFx c n e)(iel:c0f C.toFx c n elt)(ii:i0z (n0w C.toFx c n) ifs)(N:Now C A n env σ m H s)
  {x0 xe xi:Expr} {xf:List Expr} {scope:Scope} {p:Pos} (ht:y0s t x0=true) (h1:v0m σ scope (n0t t x0)=true) (h2:p1n σ (e0q σ e) e t k xi=true) (h3:e0q (d0w σ scope.names (n0t t x0)) elt xe=true) (h4:s0x (d0w σ scope.names (n0t t x0)) ifs xf=true)
  {Q:a0d} (q:wpE (gam c) (.comp elt t k e ifs) m H Q) {use:Option (Value→Sem Unit)} {P:Value→Shared→Prop}
  (fin:∀ D Cad H2 h2 tk2 mp',St C H2 h2→TrE C.L C.mp H s.heap H2 h2→Q (.ref D) H2→h2.Ns Cad mp'→¬ C.X Cad→H2 Cad=none→C.B.get? Cad=none→(∀ a o,s.heap.get? a=some o→H a=none→a≠Cad)→compPost (model C.prog C.w) A NoE use P (.ref D) Cad (.ok .next) { s with heap:=h2,toks:=tk2 }) :
  wpAny (model C.prog C.w) A (comprehension (.ListComp (c0a elt xe) [⟨n0g t x0,g1t (c0a e) k xi,d0e ifs xf,0⟩] scope p) scope env (firstIterPos [⟨n0g t x0,g1t (c0a e) k xi,d0e ifs xf,0⟩] p) (newList []) false (eval (g1t (c0a e) k xi) env) use) P NoE s:=by
 have f:=z0b.of h1;obtain⟨cl,hcl,c1,c2⟩:=t0k (scope:=scope) (env:=env) fun y hy hf=>N.e.has _ (f.nfree y hy hf);refine wpAny_comprehension_free rfl o0c hcl f.kind f.nloc (wpAny_mono (g1v T (x0:=x0) (K:=fun items ok H1=>items.length≤LIM∧k0i (wpE (gam c) elt) (k0v (gam c) ifs) t ok m items H1 [] fun acc H2=>d0v (.list acc) H2 Q) ie N h2 q) (fun xv s1 hp=>
  wpAny_mono hp (fun itv s2 hq=>?_) fun U U e=>e) fun U U e=>e)
 obtain⟨h',tk,H1,W,It,items,okH,e2,t1,o1,hw,I,st,hl,q⟩:=hq;subst e2;have N1:=N.go t1 ⟨o1,N.S.hL,t1.ns⟩ tk;refine a1c (s:={ s with heap:=h',toks:=tk }) N1.R N1.S N1.e f ht c1 c2 I st (fun a w=>(hw a w).2) hl q (fun Cad mp m' H s Q S e q=>?_) (fun Cad mp m' H s Q S e q=>?_) ?_
 ·exact iel (d0i C Cad mp) rfl A _ _ m' H s Q xe ⟨N.R,S,e⟩ h3 q
 ·exact s0r ifs ii (d0i C Cad mp) rfl A _ _ m' H s Q xf ⟨N.R,S,e⟩ h4 q
 ·intro D Cad h2 tk2 H2 acc us cn mp' fD fC hDC ns g rl ok keep old hD hCad q2;obtain⟨t3,S3⟩:=e1p N.S t1 N1.S hw fD g rl ok keep old hD;have fc:=b0w (s:={ s with heap:=h',toks:=tk }) N1.S (a:=Cad) fC;refine fin D Cad _ h2 tk2 mp' S3 t3 (q2 D hD) ns fc.2.2 ?_ fc.2.1 fun a o ea e0=>?_
  ·unfold upd;rw[if_neg (Ne.symm hDC)];exact hCad
  ·clear hDC ns hCad;rintro rfl;by_cases z:a=C.L
   ·clear ea e0 fC;subst z;exact fc.2.2 N.S.hL
   ·have:=t1.keep a o z ea e0;rw[show h'.get? a=none from fC]at this;cases this
theorem m1d(T:b0z F){elt:a0m}{t:Tgt}{k:ItK}{e:a0m}{ifs:a0w}(ie:c0f F c n e)(iel:c0f F c n elt)(ii:i0z (n0w F c n) ifs):c0f F c n (.comp elt t k e ifs):=fun C hF A env σ m H s Q x N hc q=>by
 subst hF;show wpAny _ A (eval (.ListComp _ _ _ _) env) _ _ s;rw[eval_ListComp];refine v0o T ie iel ii N (an1 (an1 (an1 hc))) (an2 (an1 (an1 hc))) (an2 (an1 hc)) (an1 (an2 hc)) (an2 (an2 hc)) q fun D Cad H2 h2 tk2 mp' S3 t3 q3 ns f1 f2 f3 f4=>?_;refine⟨mp',ns,fun h'' sb=>?_⟩;obtain⟨S4,kt⟩:=r0v S3 f1 f2 f3 (m0g ns) sb;refine⟨h'',tk2,H2,.ref D,rfl,⟨fun a o nl e e0=>(sb.2 a (f4 a o e e0)).trans (t3.keep a o nl e e0),t3.old,S4.ns⟩,S4.ok,rfl,q3⟩
end
section
variable {n:Nat}{c:Nat→List a0a→MH→a0d→Prop}{F:Fx}
theorem i0z.left{P Q:a0m→Prop}:∀ {as:a0w},i0z (fun e=>P e∧Q e) as→i0z P as
 | .nil,_=>trivial
 | .cons _ _,h=>⟨h.1.1,i0z.left h.2⟩
theorem i0z.right{P Q:a0m→Prop}:∀ {as:a0w},i0z (fun e=>P e∧Q e) as→i0z Q as
 | .nil,_=>trivial
 | .cons _ _,h=>⟨h.1.2,i0z.right h.2⟩
theorem q0o{e:a0m}(h:c0f F c n e)(hp:m0l e=true):c0f F c n e∧n0w F c n e:=⟨h,k1i h hp⟩
mutual
theorem b0l(T:b0z F)(K:b0b F c n):∀ e,c0f F c n e∧n0w F c n e
 | .var i=>q0o q1i rfl
 | .con v=>q0o p1z rfl
 | .glo x=>q0o (q1a T) rfl
 | .bin op a b=>q0o (p1x (b0l T K a).1 (b0l T K b).1) rfl
 | .neg a=>q0o (q1c (b0l T K a).1) rfl
 | .cmp op a b=>⟨p1y (b0l T K a).1 (b0l T K b).1,r1g (b0l T K a).1 (b0l T K b).1⟩
 | .and as=>⟨p1w (i0u T K as).left,r1f (i0u T K as).right⟩
 | .or as=>⟨s1s (i0u T K as).left,s1z (i0u T K as).right⟩
 | .not a=>⟨q1e (b0l T K a).1,r1i (b0l T K a).2⟩
 | .ite t a b=>⟨q1b (b0l T K t).2 (b0l T K a).1 (b0l T K b).1,r1h (b0l T K t).2 (b0l T K a).2 (b0l T K b).2⟩
 | .list as=>q0o (m1e (i0u T K as).left) rfl
 | .tup as=>q0o (q1h (i0u T K as).left) rfl
 | .edict kd=>q0o i1l rfl
 | .sub a i=>q0o (q1g (b0l T K a).1 (b0l T K i).1) rfl
 | .slcTo a k=>q0o (i1m (b0l T K a).1 (b0l T K k).1) rfl
 | .slc a lo hi=>q0o (q1f (b0l T K a).1 (b0l T K lo).1 (b0l T K hi).1) rfl
 | .attr a k=>q0o (m1b T (b0l T K a).1) rfl
 | .call f as=>q0o (m1c T K (i0u T K as).left) rfl
 | .new k as=>q0o (q1d T K (i0u T K as).left) rfl
 | .meth a k as=>q0o (m1f T K (b0l T K a).1 (i0u T K as).left) rfl
 | .bi b as=>q0o (s1q T (i0u T K as).left) rfl
 | .bm b a as=>q0o (s1r (b0l T K a).1 (i0u T K as).left) rfl
 | .comp elt t k e ifs=>q0o (m1d T (b0l T K e).1 (b0l T K elt).1 (i0u T K ifs).right) rfl
theorem i0u(T:b0z F)(K:b0b F c n):∀ as,i0z (fun e=>c0f F c n e∧n0w F c n e) as
 | .nil=>trivial
 | .cons e r=>⟨b0l T K e,i0u T K r⟩
end
end
theorem y0p{prog:Program}{w:World}{env:Env}(is:List Nat):∀ xs:List Expr,h0y prog w env (d1v is xs) ((assignEach (q0p is xs) env).map (·.2))∧(assignEach (q0p is xs) env).length=(d1v is xs).length∧(assignEach (q0p is xs) env).findIdx? (·.1)=none:=by
 induction is with
 | nil=>exact fun U=>(Mac.i3_0 trivial rfl rfl)
 | cons i is ih=>
  intro xs;obtain⟨a,b,c⟩:=ih xs.tail;refine⟨And.intro (fun A s v Q h=>PyProof.Rows.assign_Name h) a,congrArg (·+1) b,?_⟩;show((false,assign (.Name _ _) env)::assignEach (q0p is xs.tail) env).findIdx? (·.1)=none;rw[findIdx?_cons,c];rfl
theorem m0q:∀ (is:List Nat) (vs:List a0a) (i:Nat) (v:a0a) (m:Loc),is.length=vs.length→b0k (is++[i]) (vs++[v]) m=(b0k is vs m).bind fun m1=>if i<m1.length then some (m1.set i (some v)) else none
 | [],[],i,v,m,_=>by simp[b0k]
 | [],_::_,_,_,_,h=>by cases h
 | _::_,[],_,_,_,h=>by cases h
 | j::is,u::vs,i,v,m,h=>by
  simp only[cons_append,b0k];split
  ·exact m0q is vs i v _ (Nat.succ.inj h)
  ·rfl
theorem j0r:∀ (is:List Nat) (vs:List a0a) (m m':Loc),b0k is vs m=some m'→m'.length=m.length
 | [],[],m,m',h=>by simp only[b0k,Option.some.injEq]at h;rw[h]
 | [],_::_,_,_,h=>by simp[b0k]at h
 | _::_,[],_,_,h=>by simp[b0k]at h
 | j::is,u::vs,m,m',h=>by
  simp only[b0k]at h;split at h
  ·rw[j0r is vs _ m' h,length_set]
  ·cases h
theorem m0p:∀ (is:List Nat) (vs:List a0a) (i:Nat) (v:a0a) (m:Loc),i∉is→b0k is vs (m.set i (some v))=(b0k is vs m).map fun m1=>m1.set i (some v)
 | [],[],i,v,m,_=>by simp[b0k]
 | [],_::_,_,_,_,_=>by simp[b0k]
 | _::_,[],_,_,_,_=>by simp[b0k]
 | j::is,u::vs,i,v,m,h=>by
  simp only[b0k,length_set];have hij:i≠j:=fun z=>h (z▸.head _);split
  ·rw[set_comm _ _ hij,m0p is vs i v _ fun z=>h (.tail _ z)]
  ·rfl
theorem o0m:∀ (is:List Nat) (vs:List a0a) (m:Loc),is.length=vs.length→is.Nodup→b0k is.reverse vs.reverse m=b0k is vs m
 | [],[],_,_,_=>rfl
 | [],_::_,_,h,_=>by cases h
 | _::_,[],_,h,_=>by cases h
 | i::is,v::vs,m,h,hn=>by
  rw[nodup_cons]at hn;have hl:is.length=vs.length:=Nat.succ.inj h;rw[reverse_cons,reverse_cons,m0q _ _ _ _ _ (by rw[length_reverse,length_reverse,hl]),o0m is vs m hl hn.2];simp only[b0k];by_cases c:i<m.length
  ·rw[if_pos c,m0p is vs i v m hn.1];cases hs:b0k is vs m with
   | none=>rfl
   | some m1=>
    rw[bind_some,map_some,if_pos];rw[j0r is vs m m1 hs];exact c
  ·rw[if_neg c];cases hs:b0k is vs m with
   | none=>rfl
   | some m1=>
    rw[bind_some,if_neg];rw[j0r is vs m m1 hs];exact c
theorem h0s:∀ (is:List Nat) (vs:List a0a) (m m':Loc),b0k is vs m=some m'→is.length=vs.length
 | [],[],_,_,_=>rfl
 | [],_::_,_,_,h=>by simp[b0k]at h
 | _::_,[],_,_,h=>by simp[b0k]at h
 | j::is,u::vs,m,m',h=>by
  simp only[b0k]at h;split at h
  ·rw[length_cons,length_cons,h0s is vs _ m' h]
  ·cases h
theorem w0k{σ:Sc}(hi:inj σ):∀ (ns:List Str) (is:List Nat),(ns.map fun x=>σ.loc.lookup x)=is.map some→ns.Nodup→is.Nodup
 | [],[],_,_=>nodup_nil
 | [],_::_,h,_=>by simp at h
 | _::_,[],h,_=>by simp at h
 | x::ns,i::is,h,hn=>by
  simp only[map_cons,List.cons.injEq]at h;rw[nodup_cons]at hn ⊢;refine⟨fun hm=>hn.1 ?_,w0k hi ns is h.2 hn.2⟩;have:some i∈is.map some:=mem_map.mpr (Mac.i3_1 i hm rfl);rw[← h.2]at this;obtain⟨y,hy,he⟩:=mem_map.mp this;have:=hi x y i h.1 he;rw[this];exact hy
theorem VRs.reverse{B h:Heap}:∀ {l:List a0a} {vs:List Value},VRs B h l vs→VRs B h l.reverse vs.reverse
 | [],_,e=>by rw[show _=[] from e];exact(rfl:([]:List Value)=[])
 | _::l,_,⟨v,r,e,a,b⟩=>by subst e;rw[reverse_cons,reverse_cons];exact(VRs.reverse b).append (VRs.one a)
def x0g(F:Fx)(c:Nat→List a0a→MH→a0d→Prop)(n:Nat)(st:o0r):Prop:=∀ (C:Cx),C.toFx=F→∀ (A:Around) (env:Env) (σ:Sc) (m:Loc) (H:MH) (s:Shared) (Q:b0u→Loc→MH→Prop) (x:Stmt),
 Now C A n env σ m H s→inj σ→r1z σ st x=true→wpS (gam c) st m H Q→wpAny (model C.prog C.w) A (exec (q1j st x) env) (q0s C env σ H s Q) NoE s
def z0e(F:Fx)(c:Nat→List a0a→MH→a0d→Prop)(n:Nat)(b:k0h):Prop:=∀ (C:Cx),C.toFx=F→∀ (A:Around) (env:Env) (σ:Sc) (m:Loc) (H:MH) (s:Shared) (Q:b0u→Loc→MH→Prop) (xs:List Stmt),
 Now C A n env σ m H s→inj σ→x0p σ b xs=true→wpB (gam c) b m H Q→wpAny (model C.prog C.w) A (execs (a1k b xs) env) (q0s C env σ H s Q) NoE s
section
variable {C:Cx}{H H1:MH}{s:Shared}{h1:Heap}{n:Nat}{A:Around}{env:Env}{σ:Sc}{m:Loc}{c:Nat→List a0a→MH→a0d→Prop}{F:Fx}
theorem q0s.trans{Q:b0u→Loc→MH→Prop}{mp1:Str→Option Value}{tk:Nat}(t:Tr C.X H s.heap H1 h1){f:Flow}{s':Shared}(p:q0s { C with mp:=mp1 } env σ H1 { s with heap:=h1,toks:=tk } Q f s'):q0s C env σ H s Q f s':=by
 obtain⟨h2,tk2,H2,mp2,m2,mfl,e2,t2,S2,e',r,q⟩:=p;exact⟨h2,tk2,H2,mp2,m2,mfl,e2,t.trans t2,S2,e',r,q⟩
theorem Tr.ofOff(S:St C H s.heap)(o:Off C.X s.heap h1)(xs:∀ a,C.X a→∃ ob,h1.get? a=some ob):Tr C.X H s.heap H h1:=⟨fun a ob e U nx=>o a ob nx e,fun U U U e=>e,fun a ob x U U=>xs a x⟩
theorem St.xs{C:Cx}{H:MH}{h:Heap}(S:St C H h):∀ a,C.X a→∃ ob,h.get? a=some ob:=fun a x=>let ⟨_,_,o,g,_⟩:=S.ok.frm a x;⟨o,g⟩
theorem sto{b:Bool}{Q:b0u→Loc→MH→Prop}{m':Loc}{mp':Str→Option Value}{h2:Heap}{tk:Nat}(S:St C H s.heap)(t:TrE C.L C.mp H s.heap H1 h1)(S1:St C H1 h1)(S2:St { C with mp:=mp' } H1 h2)(e:f0u { C with mp:=mp' } env σ m' h2)(off:Off (WrP C b) h1 h2)(q:Q .next m' H1) :
  q0s C env σ H s Q .next { s with heap:=h2,toks:=tk }:=
 (Mac.i8_6 h2 tk H1 mp' m' .next rfl (Mac.i5_0 ((t.tr S.hL).trans (Tr.ofOff (s:={ s with heap:=h1 }) S1 (WrP.off (s:={ s with heap:=h1 }) S1 off) fun a x=>S2.xs a x)) S2 e rfl q))
theorem s1k{Q:b0u→Loc→MH→Prop}{tk:Nat}(N:Now C A n env σ m H s)(t:TrE C.L C.mp H s.heap H1 h1)(ok:Ok C.prog C.w C.ca C.X C.B H1 h1)(q:Q .next m H1) :
  q0s C env σ H s Q .next { s with heap:=h1,toks:=tk }:=
 (Mac.i8_6 h1 tk H1 C.mp m .next rfl (Mac.i5_0 (t.tr N.S.hL) ⟨ok,N.S.hL,t.ns⟩ (N.e.keep N.S t) rfl q))
theorem i1g(e:a0m):u0j e=true∨∃ el t k e' ifs,e=.comp el t k e' ifs:=by
 cases e <;> first | exact .inl rfl | exact .inr (Mac.i6_5 _ _ _ _ _ rfl)
theorem y0r(el:Expr)(g:List Comprehension)(sc:Scope)(pp:Pos)(x:Str)(p:Pos)(l:Nat):swapsWith (.ListComp el g sc pp) (some (.Name x p)) l env=pure false∨swapsWith (.ListComp el g sc pp) (some (.Name x p)) l env=pure true:=by
 generalize hb:(env.blockKind == .function&&env.kindOf x == some .local&&p.line == (Expr.ListComp el g sc pp).pos.line&&!(sc.names.any fun(n,k)=>n == x&&(k == .local || k == .cell)))=b;have e:swapsWith (.ListComp el g sc pp) (some (.Name x p)) l env=pure b:=by rw[← hb];rfl
 cases b
 ·exact .inl e
 ·exact .inr e
theorem h0u{e:a0m}{x t:Expr}{l:Nat}(h:∀ el g sc p,swapsWith (.ListComp el g sc p) (some t) l env=pure false):swapsWith (c0a e x) (some t) l env=pure false:=by
 cases e <;> first | rfl | exact h _ _ _ _
theorem q1y(T:b0z F)(K:b0b F c n){i:Nat}{e:a0m}:x0g F c n (.asg i e):=fun C hF A env σ m H s Q x N hi hc q=>by
 subst hF;have h1:=beq_iff_eq.mp (an1 (an1 hc));have h2:=an2 (an1 hc);have plain:swapsWith (c0a e (h0v x)) (some (.Name (e0o (b0f x)) (b0f x).pos)) x.pos.line env=pure false→wpAny (model C.prog C.w) A (exec (q1j (.asg i e) x) env) (q0s C env σ H s Q) NoE s:=fun hs=>by
  refine wpAny_Assign_Name (b0a N ((b0l T K e).1 C rfl A env σ m H s _ _ N (an2 hc) q) fun u h' tk H1 mv N1 t r q1=>?_) hs;exact e0u N1.S N1.e hi h1 h2 q1.1 r fun mp' h2 tk2 S2 e2 off=>sto N.S t N1.S S2 e2 off q1.2
 rcases i1g e with hp | ⟨el,t,k,e',ifs,rfl⟩
 ·exact plain (m0x hp _ _)
 ·have h3:=an2 hc;rcases y0r (env:=env) (c0a el (kid (h0v x) 0)) [⟨n0g t (y0x (h0v x)).target,g1t (c0a e') k (y0x (h0v x)).iter,d0e ifs (y0x (h0v x)).ifs,0⟩] (s0h (h0v x)) (h0v x).pos (e0o (b0f x)) (b0f x).pos x.pos.line with hs | hs
  ·exact plain hs
  ·show wpAny _ A (exec (.Assign [.Name _ _] (.ListComp _ _ _ _) _) env) _ _ s;rw[exec_Assign_Name_used _ _ _ _ hs];refine wpAny_bind (wpAny_standAt (wpAny_bind ?_));refine wpAny_bind (wpAny_mono (v0o T (b0l T K e').1 (b0l T K el).1 (i0u T K ifs).right N (an1 (an1 (an1 h3))) (an2 (an1 (an1 h3))) (an2 (an1 h3)) (an1 (an2 h3)) (an2 (an2 h3)) q (use:=some (assign (.Name (e0o (b0f x)) (b0f x).pos) env)) (P:=fun U s'=>q0s C env σ H s Q .next s') ?_) (fun U s' hq=>wpAny_pure (wpAny_pure hq)) fun U U e=>e)
   intro D Cad H2 h2' tk2 mp' S3 t3 q3 ns f1 f2 f3 f4;have e3:f0u C env σ m h2':=N.e.keep N.S t3;refine PyProof.Rows.assign_Name (e0u (s:={ s with heap:=h2',toks:=tk2 }) (b:=true) S3 e3 hi h1 h2 q3.1 (VR.mkRef D) fun mp2 h3 tk3 S4 e4 off=>?_);have nW:¬ WrP C true Cad:=fun z=>z.elim (fun z=>f1 (z▸N.S.hL)) fun z=>f1 z.1;have ns3:h3.Ns Cad mp':=ns.at' fun o eo=>off _ _ nW eo;refine⟨mp',ns3,fun h'' sb=>?_⟩;obtain⟨S5,kt⟩:=r0v S4 f1 f2 f3 (m0g ns3) sb;have off':=WrP.off (s:={ s with heap:=h2' }) S3 off;refine⟨h'',tk3,H2,mp2,_,.next,rfl,⟨fun a o ea e0 nx=>?_,t3.old,fun a o xa e0 ea=>S5.xs a xa⟩,S5,e4.off kt fun a o xa U ea=>(sb.2 a fun z=>f1 (z▸xa)).trans ea,rfl,q3.2⟩
   exact(sb.2 a (f4 a o ea e0)).trans (off' a o nx (t3.keep a o (fun z=>nx (z▸N.S.hL)) ea e0))
theorem r0k{f:Expr→Option Str}(hf:∀ x p,f (.Name x p)=none∨f (.Name x p)=some x)(is:List Nat):∀ xs:List Expr,((q0p is xs).filterMap f).length=(q0p is xs).length→(q0p is xs).filterMap f=d1v is xs:=by
 induction is with
 | nil=>exact fun U U=>rfl
 | cons i is ih=>
  intro xs hl;replace hl:((Expr.Name (e0o (xs.headD default)) (xs.headD default).pos::q0p is xs.tail).filterMap f).length=(q0p is xs.tail).length+1:=hl;rcases hf (e0o (xs.headD default)) (xs.headD default).pos with hz | hz
  ·rw[List.filterMap_cons_none hz]at hl;exact absurd (hl▸List.length_filterMap_le f (q0p is xs.tail)) (Nat.not_succ_le_self _)
  ·rw[filterMap_cons_some hz]at hl;exact(filterMap_cons_some hz).trans (congrArg (_::·) (ih xs.tail (Nat.succ.inj hl)))
set_option tactic.hygienic true in
theorem y0q{is:List Nat}{xs:List Expr}{k:Nat}{p:Pos}{e:a0m}{x:Expr}(hs:w0v (c0a e x)=true):swappedStores [.Tuple (q0p is xs) k p] (c0a e x) env=pure none∨swappedStores [.Tuple (q0p is xs) k p] (c0a e x) env=pure (some (d1v is xs)):=by
 cases e <;> first | exact .inl rfl | skip
 rename_i as;replace hs:(!((d0e as (d0j x)).all (foldedForSure 8))&&!((d0e as (d0j x)).all (constantsAlone 8)))=true:=hs;have hn1:¬ ((d0e as (d0j x)).all (foldedForSure 8)=true):=by have:=an1 hs;simpa using this
 have hn2:¬ ((d0e as (d0j x)).all (constantsAlone 8)=true):=by have:=an2 hs;simpa using this
 show swappedStores [.Tuple (q0p is xs) k p] (.Tuple (d0e as (d0j x)) (f1l x) x.pos) env=_∨swappedStores [.Tuple (q0p is xs) k p] (.Tuple (d0e as (d0j x)) (f1l x) x.pos) env=_;unfold swappedStores;dsimp only;split
 ·exact .inl rfl
 ·split
  ·exact .inl rfl
  ·split
   ·exact .inl rfl
   ·rename_i h1 h2 h3;refine .inr (congrArg (fun z=>(pure (some z):Sem (Option (List Str)))) (r0k (fun x p=>?_) is xs ?_))
    ·show(if _ then some x else none)=none∨(if _ then some x else none)=some x
     split
     ·exact .inr rfl
     ·exact .inl rfl
    rw[Bool.or_eq_true,not_or]at h3;have:=h3.1;rw[Bool.not_eq_true,bne_eq_false_iff_eq]at this;exact this
theorem b1q:∀ {ns:List Str} {is:List Nat},(ns.map fun x=>σ.loc.lookup x)=is.map some→ns.length=is.length:=fun {ns is} h=>by
 have:=congrArg List.length h;rwa [lmp,lmp]at this
theorem n1u(T:b0z F)(K:b0b F c n){is:List Nat}{e:a0m}:x0g F c n (.asgT is e):=fun C hF A env σ m H s Q x N hi hc q=>by
 subst hF;obtain⟨st1,st2,st3⟩:=y0p (prog:=C.prog) (w:=C.w) (env:=env) is (d0j (b0f x));have h1:((d1v is (d0j (b0f x))).map fun y=>σ.loc.lookup y)=is.map some:=beq_iff_eq.mp (an1 (an1 (an1 hc)));have h2:=an2 (an1 (an1 hc));have h4:=an2 hc;have nl:=b1q h1;have hsole:swapsWithSole [.Tuple (q0p is (d0j (b0f x))) (f1l (b0f x)) (b0f x).pos] (c0a e (h0v x)) x.pos.line env=pure false:=h0u (env:=env) (l:=x.pos.line) (t:=.Tuple (q0p is (d0j (b0f x))) (f1l (b0f x)) (b0f x).pos) fun U U U U=>rfl;have grow:∀ {h' h2':Heap} {H1:MH} {tk:Nat} (N1:Now C A n env σ m H1 { s with heap:=h',toks:=tk }),Heap.ExtBut h'.objs.size h' h2'→TrE C.L C.mp H1 h' H1 h2'∧St C H1 h2'∧a0k h' h2':=fun {h' h2' H1 tk} N1 ext=>by
  have gr:b0c C.L C.mp h' h2':=b0c.of N1.S.ns fun b o eb=>ext b o (fun z=>Nat.lt_irrefl _ (z▸Heap.lt_size eb)) eb;exact⟨TrE.ext gr,⟨N1.S.ok.ext N1.S.hL gr,N1.S.hL,gr.2⟩,gr.tups N1.S.ok N1.S.hL⟩
 rcases y0q (env:=env) (k:=f1l (b0f x)) (p:=(b0f x).pos) (is:=is) (xs:=d0j (b0f x)) (an2 (an2 (an1 hc))) with hw | hw
 ·refine Assign_Tuple (b0a N ((b0l T K e).1 C rfl A env σ m H s _ _ N h4 q) fun u h' tk H1 mv N1 t r q1=>?_) hsole hw;obtain⟨mvs,m',e,hs,q2⟩:=q1;subst e;obtain⟨a,vs,k0,rfl,g,rl⟩:=r;have hlen:=h0s _ _ _ _ hs;refine PyProof.Rows.assign_Tuple_tuple (items:=vs.toArray) N.R.hd ⟨_,g,rfl,_,rfl⟩ (by rw[st2,size_toArray,rl.length,nl,hlen]) st3 fun h2' ext=>?_;obtain⟨t2,S2,kt⟩:=grow N1 ext;exact s0a (b:=true) (s:={ s with heap:=h2',toks:=tk }) _ is mvs vs C m m' H1 A _ _ st1 S2 (N1.e.keep N1.S t2) hi h1 h2 (rl.mono kt) hs fun mp' h3 tk3 S3 e3 off=>sto N.S (t.trans t2) S2 S3 e3 off q2
 ·refine Assign_Tuple_swapped (b0a N ((b0l T K e).1 C rfl A env σ m H s _ _ N h4 q) fun u h' tk H1 mv N1 t r q1=>?_) hsole hw;obtain⟨mvs,m',e,hs,q2⟩:=q1;subst e;obtain⟨a,vs,k0,rfl,g,rl⟩:=r;have hlen:=h0s _ _ _ _ hs;rw[show(d1v is (d0j (b0f x))).length=vs.toArray.size by rw[size_toArray,rl.length,nl,hlen]];refine PyProof.Rows.unpackItems_tuple (items:=vs.toArray) N.R.hd ⟨_,g,rfl,_,rfl⟩ fun h2' ext=>?_;obtain⟨t2,S2,kt⟩:=grow N1 ext;exact s0a (b:=true) (s:={ s with heap:=h2',toks:=tk }) _ is.reverse mvs.reverse vs.reverse C m m' H1 A _ _ (m0w _ _ _ _) S2 (N1.e.keep N1.S t2) hi (by rw[map_reverse,map_reverse,h1]) (by rw[List.all_reverse];exact h2) (rl.mono kt).reverse
   (by rw[o0m is mvs m hlen (w0k hi _ is h1 (of_decide_eq_true (an1 (an2 (an1 hc)))))];exact hs) fun mp' h3 tk3 S3 e3 off=>sto N.S (t.trans t2) S2 S3 e3 off q2
end
theorem j1g{c x:Nat}(hc:c<6)(h:l0t c x≤10):x∈c0u c:=by
 by_cases hx:x∈c0u c
 ·exact hx
 ·rw[show l0t c x=99 from if_neg hx]at h;exact absurd h (by decide)
section
variable {C:Cx}{H H1:MH}{s:Shared}{h1:Heap}{n:Nat}{A:Around}{env:Env}{σ:Sc}{m:Loc}{c:Nat→List a0a→MH→a0d→Prop}{F:Fx}
theorem U_S{Q:b0u→Loc→MH→Prop}{tk:Nat}{M:Model}{t:Sem Unit}{QH:MH→Prop}(N:Now C A n env σ m H s)(N1:Now C A n env σ m H1 { s with heap:=h1,toks:=tk })(t1:TrE C.L C.mp H s.heap H1 h1)
  (h:wpAny M A t (d1w C H1 { s with heap:=h1,toks:=tk } QH) NoE { s with heap:=h1,toks:=tk }) (k:∀ H2,QH H2→Q .next m H2):wpAny M A t (fun U s'=>q0s C env σ H s Q .next s') NoE { s with heap:=h1,toks:=tk }:=by
 refine wpAny_mono h (fun U s' p=>?_) fun U U e=>e;obtain⟨h2,tk2,H2,e2,t2,o2,q⟩:=p;subst e2;exact s1k (tk:=tk2) N (t1.trans t2) o2 (k _ q)
theorem n1s(T:b0z F)(K:b0b F c n){o e:a0m}{k:Nat}:x0g F c n (.asgA o k e):=fun C hF A env σ m H s Q x N hi hc q=>by
 subst hF;refine plainObj_wpAny_Assign_Attribute (b0a N ((b0l T K e).1 C rfl A env σ m H s _ _ N (an2 hc) q) fun u h' tk H1 mv N1 t r q1=>?_) (h0u fun U U U U=>rfl);refine b0a N1 ((b0l T K o).1 C rfl A env σ m H1 _ _ _ N1 (an1 hc) q1) fun u2 h2' tk2 H2 mv2 N2 t2 r2 q2=>?_;obtain⟨a,cc,fs,fs',e,ho,hf,q3⟩:=q2;subst e;rw[show u2=.ref a from r2];obtain⟨c6,U,es,U,U,U,U,fr⟩:=N2.S.ok.objs _ _ ho;have hle:=fr.length.2;have hll:=u0b cc c6;have hfx:l0t cc k≤fs.length:=by
  replace hf:(if l0t cc k<fs.length then some (fs.set (l0t cc k) mv) else if l0t cc k=fs.length then some (fs++[mv]) else none)=some fs':=hf
  split at hf
  ·omega
  ·split at hf
   ·omega
   ·exact ns hf
 exact U_S N N2 (t.trans t2) (u0s T N2.S ho hf (j1g c6 (by omega)) (r.mono (N1.S.tup t2)) (Q:=fun H'=>H'=upd H2 a (.inst cc fs')) rfl) fun H' e'=>by subst e';exact q3
theorem n1t(T:b0z F)(K:b0b F c n){o i e:a0m}:x0g F c n (.asgI o i e):=fun C hF A env σ m H s Q x N hi hc q=>by
 subst hF;refine wpAny_Assign_Subscript (b0a N ((b0l T K e).1 C rfl A env σ m H s _ _ N (an2 (an2 hc)) q) fun u h' tk H1 mv N1 t r q1=>?_) (h0u fun U U U U=>rfl);refine b0a N1 ((b0l T K o).1 C rfl A env σ m H1 _ _ _ N1 (an1 hc) q1) fun u2 h2' tk2 H2 mv2 N2 t2 r2 q2=>?_;refine b0a N2 ((b0l T K i).1 C rfl A env σ m H2 _ _ _ N2 (an1 (an2 hc)) q2) fun u3 h3' tk3 H3 mv3 N3 t3 r3 q3=>?_;exact U_S N N3 ((t.trans t2).trans t3) (u0t N3.S N3.R (r2.mono (N2.S.tup t3)) r3 ((r.mono (N1.S.tup t2)).mono (N2.S.tup t3)) q3) fun H' q=>q
theorem r1a(T:b0z F)(K:b0b F c n){e:a0m}:x0g F c n (.exp e):=fun C hF A env σ m H s Q x N hi hc q=>by
 subst hF;refine wpAny_Expr (b0a N ((b0l T K e).1 C rfl A env σ m H s _ _ N (an2 hc) q) fun u h' tk H1 mv N1 t r q1=>?_) (by unfold interactive;rw[N.e.hk];rfl) (m0x (an1 hc) _ _);have g:=s1k (tk:=tk) N t N1.S.ok q1.2;have hp:=q1.1;clear q1;cases mv with
 | none=>rw[show u=.none from r];exact g
 | bool b=>rw[show u=.bool b from r];exact g
 | int i=>obtain⟨t,rfl⟩:=r;exact g
 | str i=>obtain⟨t,rfl⟩:=r;exact g
 | _=>exact ft hp
theorem r1c(T:b0z F)(K:b0b F c n){e:a0m}:x0g F c n (.ret e):=fun C hF A env σ m H s Q x N hi hc q=>by
 subst hF;exact wpAny_Return_some (b0a N ((b0l T K e).1 C rfl A env σ m H s _ _ N hc q) fun u h' tk H1 mv N1 t r q1=>(Mac.i8_6 h' tk H1 C.mp m (.ret mv) rfl (Mac.i5_0 (t.tr N.S.hL) N1.S N1.e (Mac.i3_1 u rfl r) q1)))
theorem q1z:x0g F c n .brk:=fun C hF A env σ m H s Q x N hi hc q=>wpAny_Break (Mac.i8_6 s.heap s.toks H C.mp m .brk rfl (Mac.i5_0 (Tr.refl _ _ _) N.S N.e rfl q))
theorem r1b(T:b0z F)(K:b0b F c n){e:a0m}{a b:k0h}(ia:z0e F c n a)(ib:z0e F c n b):x0g F c n (.ifs e a b):=fun C hF A env σ m H s Q x N hi hc q=>by
 subst hF;refine wpAny_If (b0a N ((b0l T K e).2 C rfl A env σ m H s _ _ N (an1 hc) q) fun g h' tk H1 b' N1 t1 r q1=>?_);rw[show g=b' from r];clear r;cases b' with
 | true=>exact wpAny_mono (ia C rfl A env σ m H1 _ Q _ N1 hi (an1 (an2 hc)) q1) (fun U U p=>q0s.trans (mp1:=C.mp) (t1.tr N.S.hL) p) fun U U e=>e
 | false=>exact wpAny_mono (ib C rfl A env σ m H1 _ Q _ N1 hi (an2 (an2 hc)) q1) (fun U U p=>q0s.trans (mp1:=C.mp) (t1.tr N.S.hL) p) fun U U e=>e
theorem p1u:z0e F c n .nil:=fun C hF A env σ m H s Q xs N hi hc q=>wpAny_execs_nil (Mac.i8_6 s.heap s.toks H C.mp m .next rfl (Mac.i5_0 (Tr.refl _ _ _) N.S N.e rfl q))
theorem l1t{st:o0r}{b:k0h}(is:x0g F c n st)(ib:z0e F c n b):z0e F c n (.cons st b):=fun C hF A env σ m H s Q xs N hi hc q=>by
 subst hF;refine wpAny_execs_cons (wpAny_mono (is C rfl A env σ m H s _ _ N hi (an1 hc) q) (fun f s1 p=>?_) fun U U e=>e);obtain⟨h2,tk2,H2,mp2,m2,mfl,e2,t2,S2,e',r,q2⟩:=p;subst e2;cases mfl with
 | next=>
  rw[show f=.next from r]
  exact wpAny_mono (ib { C with mp:=mp2 } rfl A env σ m2 H2 _ Q _ ⟨N.R,S2,e'⟩ hi (an2 hc) q2) (fun U U p=>q0s.trans (mp1:=mp2) t2 p) fun U U e=>e
 | brk=>
  rw[show f=.brk from r];exact⟨h2,tk2,H2,mp2,m2,.brk,rfl,t2,S2,e',rfl,q2⟩
 | ret v=>
  obtain⟨u,rfl,rv⟩:=r;exact⟨h2,tk2,H2,mp2,m2,.ret v,rfl,t2,S2,e',(Mac.i3_1 u rfl rv),q2⟩
end
set_option genCtorIdx false in
structure WE where
 C:Cx
 c:Nat→List a0a→MH→a0d→Prop
 H:MH
 s:Shared
 A:Around
 n:Nat
 env:Env
 σ:Sc
 e:a0m
 b:k0h
 x:Stmt
 Q:b0u→Loc→MH→Prop
 er:Value→Shared→Prop
noncomputable def WE.sh(E:WE)(h:Heap)(tk:Nat):Shared:={ E.s with heap:=h,toks:=tk }
def WE.on(E:WE)(j:Nat)(m:Loc)(H:MH):Prop:=n0e (fun m H Q=>wpE (gam E.c) E.e m H (asB Q)) (wpB (gam E.c) E.b) j m H E.Q
def WE.N(E:WE)(mp:Str→Option Value)(m:Loc)(H:MH)(s:Shared):Prop:=Now { E.C with mp:=mp } E.A E.n E.env E.σ m H s
inductive WE.I(E:WE):Nat→Shared→Prop
 | mk {j:Nat} {h:Heap} {tk:Nat} {H:MH} {mp:Str→Option Value} {m:Loc} (t:Tr E.C.X E.H E.s.heap H h) (N:E.N mp m H (E.sh h tk)) (q:E.on j m H):E.I j (E.sh h tk)
def WE.P(E:WE)(f:Flow)(s:Shared):Prop:=q0s E.C E.env E.σ E.H E.s E.Q f s
def WE.J(E:WE)(j:Nat)(f:Flow)(s:Shared):Prop:=match f with
 | .next | .cont=>∃ j',j'<j∧E.I j' s
 | .brk=>E.P .next s
 | .ret v=>E.P (.ret v) s
def WE.wp{α:Type}(E:WE)(x:Sem α)(Q:α→Shared→Prop)(s:Shared):Prop:=wpAny (model E.C.prog E.C.w) E.A x Q E.er s
def WE.goOn(E:WE)(j:Nat):b0u→Loc→MH→Prop:=fun fl m2 H2=>match fl with
 | .next=>E.on j m2 H2
 | .brk=>E.Q .next m2 H2
 | .ret v=>E.Q (.ret v) m2 H2
section
variable {E:WE}{j tk:Nat}{mp:Str→Option Value}{H:MH}{h:Heap}{m:Loc}{s:Shared}
theorem WE.end_{f:Flow}(R:d0t E.A (E.n+1))(t:Tr E.C.X E.H E.s.heap H h)(p:q0s { E.C with mp:=mp } E.env E.σ H (E.sh h tk) (E.goOn j) f s):E.J (j+1) f s:=by
 obtain⟨h3,tk3,H3,mp3,m3,mfl,e3,t3,S3,e',r3,q3⟩:=p;subst e3;have t':=t.trans t3;cases mfl with
 | next=>
  rw[show f=.next from r3]
  exact⟨j,Nat.lt_succ_self _,.mk t' ⟨R,S3,e'⟩ q3⟩
 | brk=>
  rw[show f=.brk from r3];exact⟨h3,tk3,H3,mp3,m3,.next,rfl,t',S3,e',rfl,q3⟩
 | ret v=>
  obtain⟨u,rfl,rv⟩:=r3;exact⟨h3,tk3,H3,mp3,m3,.ret v,rfl,t',S3,e',(Mac.i3_1 u rfl rv),q3⟩
theorem WE.body(ib:z0e E.C.toFx E.c E.n E.b)(hi:inj E.σ)(hb:x0p E.σ E.b (i0a E.x)=true)(t:Tr E.C.X E.H E.s.heap H h)(N:E.N mp m H (E.sh h tk))(q:wpB (gam E.c) E.b m H (E.goOn j)) :
  E.wp (execs (a1k E.b (i0a E.x)) E.env) (E.J (j+1)) (E.sh h tk):=
 wpAny_mono (ib { E.C with mp:=mp } rfl E.A E.env E.σ m H _ _ _ N hi hb q) (fun f s3 p=>WE.end_ N.R t p) fun U U e=>e.elim
def WE.then(E:WE)(j:Nat)(g:Bool)(s:Shared):Prop:=if g=true then E.wp (execs (a1k E.b (i0a E.x)) E.env) (E.J j) s else E.wp (execs [] E.env) E.P s
theorem WE.turn(T:b0z E.C.toFx)(K:b0b E.C.toFx E.c E.n)(ib:z0e E.C.toFx E.c E.n E.b)(hi:inj E.σ)(h1:e0q E.σ E.e (h0v E.x)=true)(hb:x0p E.σ E.b (i0a E.x)=true)(I:E.I j s) :
  E.wp (isTrue (c0a E.e (h0v E.x)) E.env (eval (c0a E.e (h0v E.x)) E.env)) (E.then j) s:=by
 cases I with | @mk h tk H mp m t N q=>
 cases j with
 | zero=>exact q.elim
 | succ j=>
  refine wpAny_mono (b0a N ((b0l T K E.e).2 { E.C with mp:=mp } rfl E.A E.env E.σ _ _ _ _ _ N h1 q) (P:=E.then (j+1)) fun g h2 tk2 H2 b' N2 t2 r2 q2=>?_) (fun U U p=>p) fun U U e=>e.elim
  rw[show g=b' from r2];clear r2;cases b' with
  | true=>exact WE.body ib hi hb (t.trans (t2.tr N.S.hL)) N2 q2
  | false=>exact wpAny_execs_nil (Mac.i8_6 h2 tk2 H2 _ _ .next rfl (Mac.i5_0 (t.trans (t2.tr N.S.hL)) N2.S N2.e rfl q2))
end
section
variable {n:Nat}{c:Nat→List a0a→MH→a0d→Prop}{F:Fx}
theorem n1x(T:b0z F)(K:b0b F c n){e:a0m}{b:k0h}(ib:z0e F c n b):x0g F c n (.whil e b):=fun C hF A env σ m H s Q x N hi hc q=>by
 subst hF;have h1:e0q σ e (h0v x)=true:=an1 hc;have hb:x0p σ b (i0a x)=true:=an2 hc;obtain⟨k,q⟩:=q;exact wpAny_While (codeAny_whileLoop (WE.I ⟨C,c,H,s,A,n,env,σ,e,b,x,Q,_⟩) (fun j s' hI=>WE.turn T K ib hi h1 hb hI) k (.mk (mp:=C.mp) (Tr.refl _ _ _) N q))
end
structure LF(C:Cx)(h1:Heap)(H1:MH)(W:Addr→Prop)(env:Env)(σ:Sc)(H:MH)(h:Heap)(mp:Str→Option Value)(m:Loc):Prop where
 S:St { C with mp:=mp } H h
 e:f0u { C with mp:=mp } env σ m h
 hW:∀ a,W a→H a=none
 tW:∀ a,W a→∃ o,h.get? a=some o∧∀ vs n,o≠a0l vs n
 keep:∀ a o,¬ W a→¬ C.X a→h1.get? a=some o→H1 a=none→h.get? a=some o
 old:∀ a o,h1.get? a=some o→H1 a=none→H a=none
section
variable {C:Cx}{H H1 Hi:MH}{s:Shared}{h1 h h':Heap}{n:Nat}{A:Around}{env:Env}{σ:Sc}{m m':Loc}{c:Nat→List a0a→MH→a0d→Prop}{F:Fx}{W:Addr→Prop}{mp mp':Str→Option Value}
theorem LF.offSE(x:LF C h1 H1 W env σ Hi h mp m)(hW:∀ a,W a→C.B.get? a=none∧¬ C.X a)(o:Off W h h'):St { C with mp:=mp } Hi h'∧f0u { C with mp:=mp } env σ m h':=
 ⟨x.S.off o (fun a w=>(Mac.i3_0 (x.hW a w) ((hW a w).1) ((hW a w).2))) x.tW,x.e.off (fun a vs k e=>o a _ (fun w=>(x.tW a w).elim fun ob q=>q.2 _ _ (Option.some.inj (q.1.symm.trans e))) e) fun a ob xa U e=>o a ob (fun w=>(hW a w).2 xa) e⟩
theorem LF.off(x:LF C h1 H1 W env σ Hi h mp m)(hW:∀ a,W a→C.B.get? a=none∧¬ C.X a)(o:Off W h h')(t:∀ a,W a→∃ o,h'.get? a=some o∧∀ vs n,o≠a0l vs n):LF C h1 H1 W env σ Hi h' mp m:=
 ⟨(x.offSE hW o).1,(x.offSE hW o).2,x.hW,t,fun a ob nw nx e e0=>o a ob nw (x.keep a ob nw nx e e0),x.old⟩
theorem LF.tr{H2:MH}(x:LF C h1 H1 W env σ Hi h mp m)(hW:∀ a,W a→¬ C.X a)(t:Tr C.X Hi h H2 h')(S:St { C with mp:=mp' } H2 h')(e:f0u { C with mp:=mp' } env σ m' h'):LF C h1 H1 W env σ H2 h' mp' m':=by
 refine⟨S,e,fun a w=>?_,fun a w=>?_,fun a o nw nx ea e0=>t.keep a o (x.keep a o nw nx ea e0) (x.old a o ea e0) nx,fun a o ea e0=>?_⟩
 ·obtain⟨o,q,U⟩:=x.tW a w;exact t.old a o q (x.hW a w)
 ·obtain⟨o,q,z⟩:=x.tW a w;exact⟨o,t.keep a o q (x.hW a w) (hW a w),z⟩
 ·by_cases w:W a
  ·obtain⟨o',q,U⟩:=x.tW a w;exact t.old a o' q (x.hW a w)
  ·by_cases xa:C.X a
   ·exact(S.ok.frm a xa).1
   ·exact t.old a o (x.keep a o w xa ea e0) (x.old a o ea e0)
theorem LF.out(x:LF C h1 H1 W env σ Hi h mp m)(S:St C H s.heap)(t:TrE C.L C.mp H s.heap H1 h1)(hw:∀ a,W a→(∀ o,s.heap.get? a=some o→H a=none→False)):Tr C.X H s.heap Hi h:=by
 refine⟨fun a o e e0 nx=>x.keep a o (fun w=>hw a w o e e0) nx (t.keep a o (fun z=>nx (z▸S.hL)) e e0) (t.old a o e e0),fun a o e e0=>?_,fun a o xa e0 e=>x.S.xs a xa⟩;by_cases z:a=C.L
 ·exact z▸(x.S.ok.frm _ S.hL).1
 ·exact x.old a o (t.keep a o z e e0) (t.old a o e e0)
set_option genCtorIdx false in
structure LE where
 C:Cx
 c:Nat→List a0a→MH→a0d→Prop
 H:MH
 H1:MH
 s:Shared
 h1:Heap
 A:Around
 n:Nat
 env:Env
 σ:Sc
 W:Addr→Prop
 It:Nat→Heap→Prop
 items:List a0a
 ok:MH→Prop
 t:Tgt
 x:Stmt
 b:k0h
 iv:Value
 Q:b0u→Loc→MH→Prop
 er:Value→Shared→Prop
structure LE.Ok(E:LE):Prop where
 R:d0t E.A (E.n+1)
 S:St E.C E.H E.s.heap
 t1:TrE E.C.L E.C.mp E.H E.s.heap E.H1 E.h1
 hw:∀ a,E.W a→∀ o,E.s.heap.get? a=some o→E.H a=none→False
 hW:∀ a,E.W a→E.C.B.get? a=none∧¬ E.C.X a
 I:z0c E.C.toFx E.ok E.items (n0g E.t (b0f E.x)) E.iv E.W E.It
 hts:∀ p∈n0t E.t (b0f E.x),E.σ.loc.lookup p.1=some p.2∧s0m E.σ p.1=true
 hi:inj E.σ
 hb:x0p E.σ E.b (i0a E.x)=true
 ib:z0e E.C.toFx E.c E.n E.b
def LE.L(E:LE)(Hi:MH)(h:Heap)(mp:Str→Option Value)(m:Loc):Prop:=LF E.C E.h1 E.H1 E.W E.env E.σ Hi h mp m
def LE.on(E:LE)(i:Nat)(m:Loc)(H:MH):Prop:=i1t (wpB (gam E.c) E.b) E.t E.ok (E.items.drop i) m H E.Q
noncomputable def LE.sh(E:LE)(h:Heap)(tk:Nat):Shared:={ E.s with heap:=h,toks:=tk }
inductive LE.I(E:LE):Nat→Shared→Prop
 | mk {i:Nat} {Hi:MH} {h:Heap} {tk:Nat} {mp:Str→Option Value} {m:Loc} (hi:i≤E.items.length) (L:E.L Hi h mp m) (st:E.It i h) (q:E.on i m Hi):E.I (E.items.length-i) (E.sh h tk)
def LE.P(E:LE)(f:Flow)(s:Shared):Prop:=q0s E.C E.env E.σ E.H E.s E.Q f s
def LE.J(E:LE)(j:Nat)(f:Flow)(s:Shared):Prop:=match f with
 | .next | .cont=>∃ j',j'<j∧E.I j' s
 | .brk=>E.P .next s
 | .ret v=>E.P (.ret v) s
def LE.wp{α:Type}(E:LE)(x:Sem α)(Q:α→Shared→Prop)(s:Shared):Prop:=wpAny (model E.C.prog E.C.w) E.A x Q E.er s
def LE.bd(E:LE)(j:Nat)(s:Shared):Prop:=E.wp (execs (a1k E.b (i0a E.x)) E.env) (E.J j) s
def LE.tg(E:LE)(j:Nat)(v:Value)(s:Shared):Prop:=E.wp (assign (n0g E.t (b0f E.x)) E.env v) (fun U s=>E.bd j s) s
def LE.goOn(E:LE)(i:Nat):b0u→Loc→MH→Prop:=fun fl m2 H2=>match fl with
 | .next=>E.on i m2 H2
 | .brk=>E.Q .next m2 H2
 | .ret v=>E.Q (.ret v) m2 H2
section
variable {E:LE}(K:E.Ok){i tk:Nat}{mp:Str→Option Value}
include K
theorem LE.end_(hi:i<E.items.length){f:Flow}{s:Shared}(L:E.L Hi h mp m)(st:E.It (i+1) h)(p:q0s { E.C with mp:=mp } E.env E.σ Hi (E.sh h tk) (E.goOn (i+1)) f s):E.J (E.items.length-i) f s:=by
 obtain⟨h4,tk4,H4,mp4,m4,mfl,e4,t4,S4,e4',r4,q4⟩:=p;subst e4;have L4:LF E.C E.h1 E.H1 E.W E.env E.σ H4 h4 mp4 m4:=L.tr (fun a w=>(K.hW a w).2) t4 S4 e4';have out:=L4.out K.S K.t1 K.hw;cases mfl with
 | next=>
  rw[show f=.next from r4]
  exact⟨_,Nat.sub_succ_lt_self _ _ hi,.mk hi L4 (K.I.frame _ _ _ st fun a o' w e=>w.elim (fun w=>t4.keep a _ e (L.hW a w) (K.hW a w).2) fun⟨vs,k,e'⟩=>by clear w;subst e';exact Tr.tups (prog:=E.C.prog) (w:=E.C.w) (ca:=E.C.ca) L.S.ok t4 _ _ _ e) q4⟩
 | brk=>
  rw[show f=.brk from r4];exact⟨h4,tk4,H4,mp4,m4,.next,rfl,out,S4,e4',rfl,q4⟩
 | ret v=>
  obtain⟨u,rfl,rv⟩:=r4;exact⟨h4,tk4,H4,mp4,m4,.ret v,rfl,out,S4,e4',(Mac.i3_1 u rfl rv),q4⟩
theorem LE.body(hi:i<E.items.length)(L:E.L Hi h mp m)(st:E.It (i+1) h)(q:wpB (gam E.c) E.b m Hi (E.goOn (i+1))):E.bd (E.items.length-i) (E.sh h tk):=
 wpAny_mono (K.ib { E.C with mp:=mp } rfl E.A E.env E.σ m Hi (E.sh h tk) _ _ ⟨K.R,L.S,L.e⟩ K.hi K.hb q) (fun f s4 p=>LE.end_ K hi L st p) fun U U e=>e.elim
theorem LE.targ(hi:i<E.items.length){v:Value}{x:a0a}(L:E.L Hi h mp m)(st:E.It (i+1) h)(r:VR E.C.B h x v)(hm:s0y E.t x m=some m')(q:wpB (gam E.c) E.b m' Hi (E.goOn (i+1))):E.tg (E.items.length-i) v (E.sh h tk):=by
 refine wpAny_mono (d1d (b:=true) (C:={ E.C with mp:=mp }) (s:=E.sh h tk) K.R L.S L.e K.hi K.hts r hm (Q:=fun U s=>E.bd (E.items.length-i) s) fun mp' h3 tk3 S3 e3 off3=>?_) (fun U U p=>p) fun U U e=>e.elim;have offX:Off E.C.X h h3:=WrP.off (s:=E.sh h tk) (C:={ E.C with mp:=mp }) L.S off3;have L3:E.L Hi h3 mp' m':=LF.tr L (fun a w=>(K.hW a w).2) (Tr.ofOff (s:=E.sh h tk) (C:={ E.C with mp:=mp }) L.S offX fun a x=>S3.xs a x) S3 e3;exact LE.body K hi L3 (K.I.frame _ _ _ st fun a o' w e=>w.elim (fun w=>offX a _ (K.hW a w).2 e) fun⟨vs,k,e'⟩=>by clear w;subst e';exact Off.tup (s:=E.sh h tk) (C:={ E.C with mp:=mp }) L.S offX _ _ _ e) q
theorem LE.last(L:E.L Hi h mp m)(st:E.It E.items.length h)(q:E.on E.items.length m Hi):E.wp (pyNext E.iv) (fun r s=>r=none∧E.P .next s) (E.sh h tk):=by
 unfold LE.on at q;rw[drop_length]at q;refine wpAny_mono (K.I.done _ Hi (E.sh h tk) E.A K.R.hd st L.S.ok q.1) (fun r s1 pz=>?_) fun U U e=>e.elim;obtain⟨er,h2,tk2,e2,off⟩:=pz;subst e2;obtain⟨S2,e2⟩:=LF.offSE L K.hW off;have out:=L.out K.S K.t1 K.hw;exact⟨er,h2,tk2,Hi,mp,m,.next,rfl,⟨fun a o e e0 nx=>off a o (fun w=>K.hw a w o e e0) (out.keep a o e e0 nx),out.old,fun a o xa e0 e=>S2.xs a xa⟩,S2,e2,rfl,q.2⟩
theorem LE.more(hi:i<E.items.length)(L:E.L Hi h mp m)(st:E.It i h)(q:E.on i m Hi):E.wp (pyNext E.iv) (fun r s=>∃ v,r=some v∧E.wp (letOwnedTupleGo (n0g E.t (b0f E.x)) E.iv v) (fun U s=>E.tg (E.items.length-i) v s) s) (E.sh h tk):=by
 unfold LE.on at q;rw[drop_eq_getElem_cons hi]at q;obtain⟨ok,m2,hm,q⟩:=q;refine wpAny_mono (K.I.next i _ Hi (E.sh h tk) E.A E.items[i] K.R.hd st L.S.ok ok (geg hi)) (fun r s1 pz=>?_) fun U U e=>e.elim
 obtain⟨v,er,hw1⟩:=pz;refine⟨v,er,wpAny_mono hw1 (fun U s2 pz=>?_) fun U U e=>e.elim⟩;obtain⟨h2,tk2,e2,off,st2,rv⟩:=pz;subst e2;exact LE.targ K hi (L.off K.hW off (K.I.there (i+1) h2 st2)) st2 rv hm q
theorem LE.turn{j:Nat}{s:Shared}(I:E.I j s):E.wp (pyNext E.iv) (fun r s₁=>match r with
   | none=>wpAny (model E.C.prog E.C.w) E.A (execs [] E.env) E.P E.er s₁
   | some v=>E.wp (letOwnedTupleGo (n0g E.t (b0f E.x)) E.iv v) (fun U s=>E.tg j v s) s₁) s:=by
 obtain⟨hi,L,st,q⟩:=I;rcases Nat.lt_or_eq_of_le hi with hi | hi
 ·refine wpAny_mono (LE.more K hi L st q) (fun r s1 p=>?_) fun U U e=>e;obtain⟨v,er,p⟩:=p;rw[er];exact p
 ·rw[hi]at st q;refine wpAny_mono (LE.last K L st q) (fun r s1 p=>?_) fun U U e=>e;rw[p.1];exact wpAny_execs_nil p.2
end
theorem n1v(T:b0z F)(K:b0b F c n){t:Tgt}{k:ItK}{e:a0m}{b:k0h}(ib:z0e F c n b):x0g F c n (.forr t k e b):=fun C hF A env σ m H s Q x N hi hc q=>by
 subst hF;have hts:∀ p∈n0t t (b0f x),σ.loc.lookup p.1=some p.2∧s0m σ p.1=true:=fun p hp=>And.intro (beq_iff_eq.mp (an1 (all_eq_true.mp (an2 (an1 hc)) p hp))) (an2 (all_eq_true.mp (an2 (an1 hc)) p hp));have hb:x0p σ b (i0a x)=true:=an2 (an2 hc);refine wpAny_For (wpAny_mono (g1v T (x0:=b0f x) (K:=fun items ok H1=>i1t (wpB (gam c) b) t ok items m H1 Q) (b0l T K e).1 N (an1 (an2 hc)) q) (fun xv s1 hp=>wpAny_mono hp (fun itv s2 hq=>?_) fun U U e=>e) fun U U e=>e) o0c;obtain⟨h',tk,H1,W,It,items,okH,e2,t1,o1,hw,I,st,q⟩:=hq;have N1:=N.go t1 ⟨o1,N.S.hL,t1.ns⟩ tk;exact codeAny_forLoop_any (LE.I ⟨C,c,H,H1,s,h',A,n,env,σ,W,It,items,okH,t,x,b,itv,Q,_⟩) (fun j s' hI=>LE.turn ⟨N.R,N.S,t1,fun a w=>(hw a w).1,fun a w=>(hw a w).2.2,I,hts,hi,hb,ib⟩ hI) items.length
  (e2▸.mk (i:=0) (Nat.zero_le _) ⟨N1.S,N1.e,fun a w=>(hw a w).2.1,I.there 0 _ st,fun a o U U e U=>e,fun a o U e=>e⟩ st q)
theorem n1w:x0g F c n .rais:=fun C hF A env σ m H s Q x N hi hc q=>q.elim
mutual
theorem r1e(T:b0z F)(K:b0b F c n):∀ st,x0g F c n st
 | .asg i e=>q1y T K
 | .asgT is e=>n1u T K
 | .asgA o k e=>n1s T K
 | .asgI o i e=>n1t T K
 | .exp e=>r1a T K
 | .whil e b=>n1x T K (y0k T K b)
 | .forr t k e b=>n1v T K (y0k T K b)
 | .ifs e a b=>r1b T K (y0k T K a) (y0k T K b)
 | .ret e=>r1c T K
 | .brk=>q1z
 | .rais=>n1w
theorem y0k(T:b0z F)(K:b0b F c n):∀ b,z0e F c n b
 | .nil=>p1u
 | .cons st b=>l1t (r1e T K st) (y0k T K b)
end
end
theorem m0a{α:Type}:∀ (s:List (Str×α)) (x:Str),x∉s.map (·.1)→s.lookup x=none
 | [],_,_=>rfl
 | (y,v)::s,x,h=>by
  rw[map_cons,mem_cons,not_or]at h;have:(x == y)=false:=by simpa using h.1
  rw[lookup_cons,this];exact m0a s x h.2
theorem h0h{α:Type}:∀ (s:List (Str×α)) (x:Str),x∈s.map (·.1)→(s.lookup x).isNone=false
 | (y,v)::s,x,h=>by
  rw[lookup_cons];cases e:x == y with
  | true=>rfl
  | false=>
   have:x≠y:=by simpa using e
   exact h0h s x ((mem_cons.mp h).resolve_left this)
noncomputable abbrev x0q(l:List (Str×Value))(s:List (Str×Value)):Sem (List (Str×Value)):=forIn l s fun x r=>if (r.lookup x.1).isNone=true then pure (ForInStep.yield (r++[(x.1,x.2)])) else pure (ForInStep.yield r)
theorem j0n{α β:Type}(x:α)(f:α→Sem β):(pure x >>= f)=f x:=rfl
theorem r0e:∀ (l s:List (Str×Value)),(∀ p∈l,p.1∉s.map (·.1))→(l.map (·.1)).Nodup→x0q l s=pure (s++l)
 | [],s,_,_=>by rw[append_nil];rfl
 | p::l,s,h,hn=>by
  unfold x0q;rw[map_cons,nodup_cons]at hn;rw[forIn_cons,m0a s p.1 (h p (.head _)),if_pos (by rfl),j0n];have:=r0e l (s++[p]) (fun q hq=>by
   rw[map_append,mem_append,not_or];refine⟨h q (.tail _ hq),?_⟩;intro z;rw[map_cons,map_nil,mem_singleton]at z;exact hn.1 (z▸mem_map.mpr (Mac.i3_1 q hq rfl))) hn.2
  unfold x0q at this;show forIn l (s++[(p.1,p.2)]) _=_;rw[show(p.1,p.2)=p from rfl,this,append_assoc];rfl
theorem n0z:∀ (l1 l s:List (Str×Value)),(∀ p∈l1,p.1∈s.map (·.1))→(∀ p∈l,p.1∉s.map (·.1))→(l.map (·.1)).Nodup→x0q (l1++l) s=pure (s++l)
 | [],l,s,_,h,hn=>r0e l s h hn
 | p::l1,l,s,h1,h,hn=>by
  rw[cons_append];unfold x0q;rw[forIn_cons,h0h s p.1 (h1 p (.head _)),if_neg (by decide),j0n];exact n0z l1 l s (fun q hq=>h1 q (.tail _ hq)) h hn
theorem n0f{α β:Type}:∀ (ps:List α) (us ds:List β),us.length≤ps.length→ps.zip (us++ds)=ps.zip us++(ps.drop us.length).zip ds
 | ps,[],ds,_=>by simp
 | [],_::_,_,h=>by simp at h
 | p::ps,u::us,ds,h=>by
  rw[cons_append,zip_cons_cons,zip_cons_cons,length_cons,List.drop_succ_cons,cons_append,n0f ps us ds (Nat.le_of_succ_le_succ h)]
theorem f0x{α β:Type}(ps:List α)(us:List β)(h:us.length≤ps.length):(ps.zip us).map (·.1)=ps.take us.length:=by
 induction us generalizing ps with
 | nil=>simp
 | cons u us ih=>
  cases ps with
  | nil=>simp at h
  | cons p ps=>rw[zip_cons_cons,map_cons,length_cons,take_succ_cons,ih ps (Nat.le_of_succ_le_succ h)]
theorem p0m{α:Type}:∀ (ns:List Str) (vs:List α),vs.length=ns.length→ns.Nodup→(ns.filterMap fun n=>((ns.zip vs).lookup n).map (n,·))=ns.zip vs:=by
 intro ns vs hl hn;have key:∀ (l:List Str) (ws:List α) (f:Str→Option α),ws.length=l.length→(∀ p∈l.zip ws,f p.1=some p.2)→(l.filterMap fun n=>(f n).map (n,·))=l.zip ws:=by
  intro l
  induction l with
  | nil=>intro ws f U U;rfl
  | cons n l ih=>
   intro ws f h1 h2;cases ws with
   | nil=>cases h1
   | cons v ws=>
    rw[zip_cons_cons]at h2 ⊢;rw[filterMap_cons,h2 (n,v) (.head _)];show(n,v)::_=_;rw[ih ws f (Nat.succ.inj h1) fun p hp=>h2 p (.tail _ hp)]
 refine key ns vs _ hl fun p hp=>?_;clear key
 induction ns generalizing vs with
 | nil=>cases hp
 | cons n ns ih=>
  cases vs with
  | nil=>cases hl
  | cons v vs=>
   rw[nodup_cons]at hn;rw[zip_cons_cons]at hp ⊢;rw[lookup_cons];rcases mem_cons.mp hp with rfl | hp
   ·rw[beq_self_eq_true]
   ·rw[show(p.1 == n)=false from beq_eq_false_iff_ne.mpr fun e=>hn.1 (e▸(of_mem_zip hp).1)];exact ih vs (Nat.succ.inj hl) hn.2 hp
noncomputable def bdK(E1 E2:Sem (List (Str×Value)))(ps:List Str)(us ds:List Value):Sem (List (Str×Value)):=
 if (decide (us.length>ps.length)&&true)=true then E1
 else if (!((ps.take (ps.length-(ds.drop (ds.length-ps.length)).length)).filter fun n=>((ps.zip us).lookup n).isNone).isEmpty)=true then E2
 else do
  let s←x0q ((ps.drop (ps.length-(ds.drop (ds.length-ps.length)).length)).zip (ds.drop (ds.length-ps.length))) (ps.zip us)
  pure ((ps++[]).filterMap fun n=>(s.lookup n).map (n,·))
theorem l1u{E1 E2:Sem (List (Str×Value))}{ps:List Str}{us ds:List Value}(l1:us.length≤ps.length)(l2:ps.length≤us.length+ds.length)(l3:ds.length≤ps.length)(hn:ps.Nodup) :
  bdK E1 E2 ps us ds=pure (ps.zip (us++ds.drop (us.length+ds.length-ps.length))):=by
 obtain⟨c,hc⟩:=Nat.le.dest l1;obtain⟨b,hb⟩:=Nat.le.dest (Nat.le_of_add_le_add_left (Nat.le_trans (Nat.le_of_eq hc) l2));obtain⟨a,ha⟩:=Nat.le.dest (Nat.le_of_add_le_add_right (Nat.le_trans (Nat.le_of_eq ((Nat.add_comm b c).trans hb)) (Nat.le_trans l3 (Nat.le_of_eq hc.symm))));have e1:us.length+ds.length-ps.length=b:=by rw[← hc,←hb,←Nat.add_assoc,Nat.add_sub_cancel_left]
 have e2:ps.length-ds.length=a:=by rw[← hc,←hb,←ha,Nat.add_comm c b,Nat.add_right_comm,Nat.add_sub_cancel_left]
 have ha':a+b=us.length:=(Nat.add_comm a b).trans ha;have ks:=f0x ps us l1;have lb:(ds.take b).length=b:=by rw[length_take,Nat.min_eq_left (Nat.le_trans (Nat.le_add_left b c) (Nat.le_of_eq hb))]
 have lbp:b≤(ps.drop a).length:=by rw[length_drop,←e2,Nat.sub_sub_self l3];exact Nat.le_trans (Nat.le_add_left b c) (Nat.le_of_eq hb)
 unfold bdK;rw[if_neg (by rw[decide_eq_false (Nat.not_lt.mpr l1)];decide),Nat.sub_eq_zero_of_le l3,drop_zero,e2];have hm:((ps.take a).filter fun n=>((ps.zip us).lookup n).isNone)=[]:=by
  rw[filter_eq_nil_iff];intro x hx;have hx2:x∈(ps.zip us).map (·.1):=by
   rw[ks];exact List.Sublist.mem hx (List.take_sublist_take_left (Nat.le_trans (Nat.le_add_right a b) (Nat.le_of_eq ha')))
  rw[h0h _ x hx2];decide
 rw[hm,if_neg (by decide),e1];have sp:(ps.drop a).zip ds=(ps.drop a).zip (ds.take b)++(ps.drop us.length).zip (ds.drop b):=by
  have:=n0f (ps.drop a) (ds.take b) (ds.drop b) (lb.symm▸lbp);rw[take_append_drop,lb,drop_drop,ha']at this;exact this
 rw[sp,n0z,j0n,n0f ps us _ l1 |>.symm,append_nil,p0m ps _ _ hn]
 ·rw[length_append,length_drop,←hc,←hb,Nat.add_sub_cancel]
 ·intro p hp;have h2:p.1∈((ps.drop a).zip (ds.take b)).map (·.1):=mem_map.mpr (Mac.i3_1 p hp rfl);rw[f0x _ _ (lb.symm▸lbp),lb]at h2;have h3:=drop_take (i:=a) (j:=a+b) (l:=ps);rw[Nat.add_sub_cancel_left,ha']at h3;rw[ks];exact mem_of_mem_drop (h3▸h2)
 ·intro p hp z;rw[ks]at z;rw[← take_append_drop us.length ps,nodup_append]at hn;exact hn.2.2 _ z _ (of_mem_zip hp).1 rfl
 ·refine List.Nodup.sublist ?_ (hn.sublist (List.drop_sublist us.length _));rw[f0x (ps.drop us.length) (ds.drop b) (by rw[length_drop,length_drop,←hb,←hc,Nat.add_sub_cancel_left,Nat.add_sub_cancel];exact Nat.le_refl _)];exact take_sublist _ _
theorem x0l{fd:FuncData}{us:List Value}{ps:List Str}(h1:fd.params.posonlyargs=[])(h2:fd.params.args.map (·.arg)=ps)(h3:fd.params.kwonlyargs=[])(h4:fd.params.vararg=none)(h5:fd.params.kwarg=none) :
  ∃ E1 E2:Option (Array Value)→Sem (List (Str×Value)),bindArgs fd ⟨us,[]⟩=seqItems? fd.defaults >>= fun o=>bdK (E1 o) (E2 o) ps us (o.getD #[]).toList:=by
 obtain⟨a1,a2,⟨b1,b2,b3,b4,b5,b6,b7⟩,a4,a5,a6,a7,a8⟩:=fd;cases h1;cases h2;cases h3;cases h4;cases h5;exact⟨_,_,rfl⟩
theorem e1e{fd:FuncData}{us:List Value}{s:Shared}{ps:List Str}{ds:List Value}(h1:fd.params.posonlyargs=[])(h2:fd.params.args.map (·.arg)=ps)(h3:fd.params.kwonlyargs=[])(h4:fd.params.vararg=none)(h5:fd.params.kwarg=none)
  (hd:∀ (M:Model) (A:Around) (E:Value→Shared→Prop) (Q:Option (Array Value)→Shared→Prop),(∀ o,(o.getD #[]).toList=ds→Q o s)→wpAny M A (seqItems? fd.defaults) Q E s) (l1:us.length≤ps.length) (l2:ps.length≤us.length+ds.length) (l3:ds.length≤ps.length) (hn:ps.Nodup) :
  BindsTo s fd ⟨us,[]⟩ (ps.zip (us++ds.drop (us.length+ds.length-ps.length))):=by
 intro M A E Q hq;obtain⟨E1,E2,e⟩:=x0l (us:=us) h1 h2 h3 h4 h5;rw[e];refine wpAny_bind (hd _ _ _ _ fun o ho=>?_);rw[ho,l1u l1 l2 l3 hn];exact wpAny_pure hq
theorem n0y(kindOf:Str→Option NameKind):∀ (binds:List (Str×Value)) (m:Str→Option Value) (x:Str),x∉binds.map (·.1)→bindL kindOf binds m x=m x
 | [],_,_,_=>rfl
 | (n,v)::r,m,x,h=>by
  rw[map_cons,mem_cons,not_or]at h;unfold bindL;rw[n0y kindOf r _ x h.2];split
  ·exact if_neg h.1
  ·rfl
theorem z0q(kindOf:Str→Option NameKind)(binds:List (Str×Value)):∀ (m:Str→Option Value) (x:Str) (v:Value),(binds.map (·.1)).Nodup→(x,v)∈binds→kindOf x=some .local→bindL kindOf binds m x=some v:=by
 induction binds with
 | nil=>exact fun U U U U hm=>absurd hm not_mem_nil
 | cons p r ih=>
  intro m x v hn hm hk;rw[map_cons,nodup_cons]at hn;rcases mem_cons.mp hm with rfl | hm
  ·exact(n0y kindOf r _ x hn.1).trans ((congrFun (if_pos hk) x).trans (if_pos rfl))
  ·exact ih _ x v hn.2 hm hk
theorem n0x(kindOf:Str→Option NameKind):∀ (binds:List (Str×Value)) (m:Str→Option Value) (x:Str),x∉binds.map (·.1)→bindC kindOf binds m x=m x
 | [],_,_,_=>rfl
 | (n,v)::r,m,x,h=>by
  rw[map_cons,mem_cons,not_or]at h;unfold bindC;rw[n0x kindOf r _ x h.2];split
  ·rfl
  ·exact if_neg h.1
theorem z0p(kindOf:Str→Option NameKind)(binds:List (Str×Value)):∀ (m:Str→Option Value) (x:Str) (v:Value),(binds.map (·.1)).Nodup→(x,v)∈binds→kindOf x=some .cell→bindC kindOf binds m x=some v:=by
 induction binds with
 | nil=>exact fun U U U U hm=>absurd hm not_mem_nil
 | cons p r ih=>
  intro m x v hn hm hk;rw[map_cons,nodup_cons]at hn;rcases mem_cons.mp hm with rfl | hm
  ·exact(n0x kindOf r _ x hn.1).trans ((congrFun (if_neg (hk▸by decide)) x).trans (if_pos rfl))
  ·exact ih _ x v hn.2 hm hk
theorem e0m:∀ (names:List (Str×NameKind)) (n:Nat) (acc:List (Str×Addr)) (x:Str),(acc.lookup x).isSome=true→((cellsFrom n names acc).lookup x).isSome=true
 | [],_,_,_,h=>h
 | (y,k)::r,n,acc,x,h=>by
  unfold cellsFrom;split
  ·refine e0m r _ _ x ?_;rw[lookup_cons];cases hb:x == y
   ·exact h
   ·rfl
  ·exact e0m r _ _ x h
theorem d0o:∀ (names:List (Str×NameKind)) (n:Nat) (acc:List (Str×Addr)) (x:Str),(x,NameKind.cell)∈names→((cellsFrom n names acc).lookup x).isSome=true
 | (y,k)::r,n,acc,x,h=>by
  unfold cellsFrom;rcases mem_cons.mp h with e | h
  ·clear h;cases e;rw[if_pos (by decide)];refine e0m r _ _ y ?_;rw[lookup_cons,beq_self_eq_true];rfl
  ·split <;> exact d0o r _ _ x h
structure FnAt(F:Fx)(f:Nat)(MF:c0c)(ps:List Str)(o:Obj)(fd:FuncData)(body:List Stmt):Prop where
 get:F.B.get? (F.fa f)=some o
 dat:o.data=.func fd
 co:fd.scope.isCoroutine=false
 gn:fd.scope.isGenerator=false
 kd:fd.scope.kind=.function
 bd:fd.body=.stmts body
 cl:fd.closure=[]
 gl:fd.globals=mainGlobals
 bl:fd.builtins=builtinsNs
 cr:F.B.CodeRec fd.code fd.qualname
 un:l1m (j0w f)=true
 pn:ps.Nodup
 pl:ps.length=MF.np
 pa:∀ p∈j0w f,p.2<MF.np→ps[p.2]?=some p.1
 pk:∀ x∈ps,fd.scope.names.lookup x=some .local∨fd.scope.names.lookup x=some .cell
 bind:∀ (us:List Value) (s:Shared),(∀ a o,F.B.get? a=some o→s.heap.get? a=some o)→us.length≤MF.np→MF.np≤us.length+MF.dfl.length→
  ∃ ds,VRs F.B F.B (MF.dfl.drop (us.length+MF.dfl.length-MF.np)) ds∧BindsTo s fd ⟨us,[]⟩ (ps.zip (us++ds))
 chk:x0p ⟨fd.scope.names,j0w f⟩ MF.body body=true
 em:a1k MF.body body=body
set_option tactic.hygienic true in
theorem x0k{MF:c0c}{vs:List a0a}{m0:Loc}(h:e1d MF vs=some m0):vs.length≤MF.np∧MF.np≤vs.length+MF.dfl.length∧MF.np≤MF.ns∧m0=((vs++MF.dfl.drop (vs.length+MF.dfl.length-MF.np)).map some)++List.replicate (MF.ns-MF.np) none:=by
 unfold e1d at h;split at h
 ·rename_i c;cases h;exact⟨c.1,c.2.1,c.2.2,rfl⟩
 ·cases h
section
variable {C:Cx}{H H':MH}{s:Shared}{h':Heap}{n k:Nat}{A:Around}{F:Fx}
theorem Ok.grow{prog:Program}{w:World}{ca:Nat→Addr}{X X':Addr→Prop}{B h h':Heap}{H:MH}(x:Ok prog w ca X B H h)(k:∀ a o,h.get? a=some o→h'.get? a=some o)
  (hX:∀ a,X' a→H a=none∧B.get? a=none∧∃ o,h'.get? a=some o∧∀ vs n,o≠a0l vs n):Ok prog w ca X' B H h':=
 ⟨fun a o e=>k _ _ (x.base a o e),x.sep,fun a o e=>(x.objs a o e).frame (fun U U U e=>k _ _ e) (fun U e=>k _ _ e) fun dx ob p q=>⟨k _ _ q,p⟩,x.glob,hX⟩
def s1m(F:Fx)(X0:Addr→Prop)(H:MH)(s:Shared)(Q:a0d):Value→Shared→Prop:=fun v s'=>
 ∃ h' tk H' mv,s'={ s with heap:=h',toks:=tk }∧(∀ a o,s.heap.get? a=some o→H a=none→h'.get? a=some o)∧(∀ a o,s.heap.get? a=some o→H a=none→H' a=none)∧Ok F.prog F.w F.ca X0 F.B H' h'∧VR F.B h' mv v∧Q mv H'
theorem r0b(T:b0z F)(P:∀ f MF,i0i f=some MF→∃ ps o fd body,FnAt F f MF ps o fd body)(K:b0b F (a0f k) n){X0:Addr→Prop}{f:Nat}{vs:List a0a}{us:List Value}{Q:a0d}{R:Result→Shared→Prop}
  (Rm:d0t A (n+2)) (S:Ok F.prog F.w F.ca X0 F.B H s.heap) (r:VRs F.B s.heap vs us) (q:a0f (k+1) f vs H Q) (hR:∀ v s',s1m F X0 H s Q v s'→R (.ok (.ret v)) s'):codeAny (model F.prog F.w) A (.call (.ref (F.fa f)) ⟨us,[]⟩) R s:=by
 obtain⟨MF,m0,hf,hb,q⟩:=q;obtain⟨ps,o,fd,body,P⟩:=P f MF hf;obtain⟨b1,b2,b3,rfl⟩:=x0k hb;have hul:=r.length;have lift:∀ a o,F.B.get? a=some o→s.heap.get? a=some o:=S.base;obtain⟨ds,rd,hbind⟩:=P.bind us s lift (hul▸b1) (hul▸b2);have rd':VRs F.B s.heap (MF.dfl.drop (vs.length+MF.dfl.length-MF.np)) ds:=by
  rw[← hul];exact rd.mono fun a ws j e=>lift _ _ e
 have ra:=r.append rd';have hal:(us++ds).length=ps.length:=by
  rw[ra.length,length_append,length_drop,P.pl,←Nat.add_sub_assoc (Nat.sub_le_iff_le_add.mpr (Nat.le_trans (Nat.le_of_eq (Nat.add_comm ..)) (Nat.add_le_add_left b1 _))),Nat.sub_sub_self b2]
 have hroom:A.depth<recursionLimit:=by
  have:=Rm.dp;have e:recursionLimit=1000:=rfl;omega
 have hfst:(ps.zip (us++ds)).map (·.1)=ps:=by rw[List.map_fst_zip];omega
 refine codeAny_call_function hroom (lift _ _ P.get) P.dat P.co P.gn P.bd (P.cr.keeps lift) (hbind _ _ _ _ ?_);rw[P.cl];have hkind:∀ x∈ps.zip (us++ds),fd.scope.names.lookup x.1=some .local∨(fd.scope.names.lookup x.1=some .cell∧((cellsFrom (s.heap.objs.size+1) fd.scope.names []).lookup x.1).isSome=true):=fun x hx=>by
  have hm:x.1∈ps:=hfst▸mem_map.mpr (Mac.i3_1 x hx rfl);rcases P.pk x.1 hm with z | z
  ·exact .inl z
  ·exact .inr ⟨z,d0o _ _ _ _ (mem_of_lookup z)⟩
 refine wpAny_newFunctionEnv_cells P.kd hkind fun env he s1 x=>⟨(T.lim.keeps lift).keeps x.toInCall.keep,codeAny_func ?_⟩;subst he;generalize hE:newEnv fd.scope s.heap.objs.size fd.globals (cellsFrom (s.heap.objs.size+1) fd.scope.names []) (fd.qualname++Str.ofString ".<locals>.") (some (F.fa f)) fd.code none fd.builtins=E at x ⊢;have eL:E.locals=s.heap.objs.size:=by rw[← hE];rfl
 have eC:E.cells=cellsFrom (s.heap.objs.size+1) fd.scope.names []:=by rw[← hE];rfl
 have eS:E.scope=fd.scope:=by rw[← hE];rfl
 have eG:E.globals=mainGlobals:=by rw[← hE,←P.gl];rfl
 have eB:E.builtins=builtinsNs:=by rw[← hE,←P.bl];rfl
 have eK:∀ y,E.kindOf y=fd.scope.names.lookup y:=fun y=>by unfold Env.kindOf;rw[eS]
 obtain⟨⟨⟨h1,tk1,rfl⟩,ns1,keep1,fr1⟩,cell1,apart1,above1⟩:=x;dsimp only at ns1 keep1 fr1 cell1;have freshL:s.heap.get? E.locals=none:=by rw[eL];exact b0i _
 have freshC:∀ y c,(y,c)∈E.cells→s.heap.get? c=none:=fun y c hc=>by
  cases e:s.heap.get? c with
  | none=>rfl
  | some ob=>exact absurd (Nat.lt_trans (Heap.lt_size e) (eL▸above1 y c hc)) (Nat.lt_irrefl _)
 let X':Addr→Prop:=fun a=>a=E.locals∨∃ y,E.cells.lookup y=some a
 have fX:∀ a,X' a→s.heap.get? a=none:=fun a ha=>by
  rcases ha with rfl | ⟨y,hy⟩
  ·exact freshL
  ·exact freshC y a (mem_of_lookup hy)
 let C':Cx:={ F with X:=X',L:=E.locals,mp:=bindL E.kindOf (ps.zip (us++ds)) fun U=>none }
 have ok1:Ok F.prog F.w F.ca X' F.B H h1:=S.grow keep1 fun a xa=>⟨S.fresh (fX a xa),S.freshB (fX a xa),by
  rcases xa with rfl | ⟨y,hy⟩
  ·exact m0g ns1
  ·obtain⟨ob,g,d⟩:=cell1 y a hy;exact⟨ob,g,fun ws j z=>by clear g;subst z;cases d⟩⟩
 have S1:St C' H h1:=⟨ok1,.inl rfl,ns1⟩;have kt1:a0k s.heap h1:=fun a ws j e=>keep1 _ _ e;have hnd:((ps.zip (us++ds)).map (·.1)).Nodup:=by rw[hfst];exact P.pn
 have e1:f0u C' E ⟨fd.scope.names,j0w f⟩ ((vs++MF.dfl.drop (vs.length+MF.dfl.length-MF.np)).map some++List.replicate (MF.ns-MF.np) none) h1:=by
  refine⟨by rw[eS];exact P.kd,by rw[eS],rfl,eG,eB,fun y i mv hy hi=>?_,fun y c hc=>⟨.inr ⟨y,hc⟩,?_,_,cell1 y c hc⟩,fun y z c hy hz=>name_of_addr apart1 (mem_of_lookup hy) (mem_of_lookup hz),fun y hy=>?_⟩
  ·have hlt:i<(vs++MF.dfl.drop (vs.length+MF.dfl.length-MF.np)).length:=by
    apply Nat.lt_of_not_le;intro z;rw[getElem?_append_right (by rw[lmp];exact z),getElem?_replicate]at hi;split at hi <;> cases hi
   rw[getElem?_append_left (by rw[lmp];exact hlt),gmp]at hi;obtain⟨mv',hmv,e⟩:=map_eq_some_iff.mp hi;cases e;obtain⟨v,hv,rv⟩:=ra.get hmv;have hps:ps[i]?=some y:=P.pa (y,i) (mem_of_lookup hy) (by rw[← P.pl,←hal,ra.length];exact hlt);have hmem:(y,v)∈ps.zip (us++ds):=mog (i:=i) (by rw[List.getElem?_zip_eq_some];exact⟨hps,hv⟩);refine⟨v,rv.mono kt1,?_⟩;rcases P.pk y (mog hps) with z | z
   ·exact .inl ⟨z,z0q _ _ _ y v hnd hmem (by rw[eK];exact z)⟩
   ·have hc:=d0o fd.scope.names (s.heap.objs.size+1) [] y (mem_of_lookup z);rw[← eC]at hc;obtain⟨c,hc⟩:=isSome_iff_exists.mp hc;refine .inr (Mac.i4_1 c z hc ?_);have:=cell1 y c hc;rw[z0p _ _ _ y v hnd hmem (by rw[eK];exact z)]at this;exact this
  ·exact Nat.ne_of_gt (above1 y c (mem_of_lookup hc))
  ·have hc:=d0o fd.scope.names (s.heap.objs.size+1) [] y (mem_of_lookup hy);rw[← eC]at hc;exact isSome_iff_exists.mp hc
 have hRm:d0t (A.deeper E) (n+1):=⟨Rm.hd,by have:=Rm.dp;show A.depth+1+2*(n+1)+2≤900;omega,by have:=Rm.un;show A.units+3+12*(n+1)+200≤9900;omega⟩;have hinj:inj (⟨fd.scope.names,j0w f⟩:Sc):=by
  intro x y i hx hy;have hu:=P.un;unfold l1m at hu;rw[all_eq_true]at hu;have:=all_eq_true.mp (hu _ (mem_of_lookup hx)) _ (mem_of_lookup hy);simpa using this
 have hs:=y0k T K MF.body C' rfl (A.deeper E) E _ _ H { s with heap:=h1,toks:=tk1 } (u0o Q) body ⟨hRm,S1,e1⟩ hinj P.chk q;rw[P.em]at hs;refine wpAny_mono hs (fun fl s2 p=>?_) fun U U e=>e.elim;obtain⟨h2,tk2,H2,mp2,m2,mfl,e2,t2,S2,e2',rf,q2⟩:=p;subst e2;have nX:∀ a o,s.heap.get? a=some o→¬ X' a:=fun a ob e xa=>by rw[fX a xa]at e;cases e
 have kp:∀ a o,s.heap.get? a=some o→H a=none→h2.get? a=some o:=fun a ob e e0=>t2.keep a ob (keep1 _ _ e) e0 (nX a ob e);have old:∀ a o,s.heap.get? a=some o→H a=none→H2 a=none:=fun a ob e e0=>t2.old a ob (keep1 _ _ e) e0;have ok2:Ok F.prog F.w F.ca X0 F.B H2 h2:=S2.ok.wider fun a xa=>by
  obtain⟨f1,f2,ob,f3,f4⟩:=S.frm a xa;exact⟨old a ob f3 f1,f2,ob,kp a ob f3 f1,f4⟩
 cases mfl with
 | next=>
  rw[show fl=.next from rf]
  exact hR _ _ (Mac.i8_4 h2 tk2 H2 .none rfl kp old (Mac.i3_0 ok2 rfl q2))
 | brk=>exact q2.elim
 | ret v=>
  obtain⟨u,rfl,rv⟩:=rf;exact hR _ _ (Mac.i8_4 h2 tk2 H2 v rfl kp old (Mac.i3_0 ok2 rv q2))
theorem x0o(T:b0z F)(P:∀ f MF,i0i f=some MF→∃ ps o fd body,FnAt F f MF ps o fd body)(K:b0b F (a0f k) n):b0b F (a0f (k+1)) (n+2):=by
 intro C hF f vs us H s A Q R Rm S r q hR;subst hF;refine r0b T P K Rm S.ok r q fun v s' p=>hR v s' ?_;obtain⟨h2,tk2,H2,mv,e,kp,old,ok2,rv,q2⟩:=p;exact⟨h2,tk2,H2,mv,e,⟨fun a ob U e e0=>kp a ob e e0,old,S.ns.at' fun ob e=>kp _ _ e (S.ok.frm _ S.hL).1⟩,ok2,rv,q2⟩
theorem r0c(T:b0z F)(P:∀ f MF,i0i f=some MF→∃ ps o fd body,FnAt F f MF ps o fd body):∀ k,b0b F (a0f k) (2*k)
 | 0=>fun C hF f vs us H s A Q R Rm S r q hR=>q.elim
 | k+1=>x0o T P (r0c T P k)
end
def q1k:Data→FuncData
 | .func fd=>fd
 | _=>default
def o1b:FuncBody→List Stmt
 | .stmts b=>b
 | _=>[]
def i1q:Data→Array Value
 | .fields vs=>vs
 | _=>#[]
def s1v:Value→Addr
 | .ref a=>a
 | _=>0
def t1a:Value→Tok
 | .str _ t=>t
 | _=>0
def obK(K:Frag)(a:Addr):Obj:=(K.lookup a).getD default
def fdK(K:Frag)(a:Addr):FuncData:=q1k (obK K a).data
noncomputable def q0y(K:Frag)(a:Addr):List Stmt:=o1b (fdK K a).body
def cdA(K:Frag)(a:Addr):Addr:=s1v (fdK K a).code
def cdV(K:Frag)(a:Addr):Array Value:=i1q (obK K (cdA K a)).data
def psK(K:Frag)(a:Addr):List Str:=(fdK K a).params.args.map (·.arg)
def dfV(f:Nat):Value:=if f=31 then .ref 335 else if f=41 then .ref 439 else .none
def p1p:List Value:=[.int (-1) 649,.none,.int 0 650,.int 0 651]
def dsV(f:Nat):List Value:=if f=31 then p1p else if f=41 then[.none] else[]
def p1o(f:Nat):List a0a:=if f=31 then[.int (-1),.none,.int 0,.int 0] else if f=41 then[.none] else[]
def shL(K:Frag)(f:Nat)(MF:c0c)(a:Addr):=
 ((K.lookup a).isSome,(obK K a).data,(fdK K a).scope.isCoroutine,(fdK K a).scope.isGenerator,(fdK K a).scope.kind,(fdK K a).body,(fdK K a).closure,(fdK K a).globals,(fdK K a).builtins,l1m (j0w f),decide (psK K a).Nodup,(psK K a).length,
  (j0w f).all (fun p=>decide (MF.np≤p.2) || (psK K a)[p.2]? == some p.1),(psK K a).all (fun x=>(fdK K a).scope.names.lookup x == some .local || (fdK K a).scope.names.lookup x == some .cell),
  (fdK K a).params.posonlyargs,(fdK K a).params.kwonlyargs,(fdK K a).params.vararg,(fdK K a).params.kwarg,x0p ⟨(fdK K a).scope.names,j0w f⟩ MF.body (q0y K a),a1k MF.body (q0y K a),
  (fdK K a).code,(K.lookup (cdA K a)).isSome,(obK K (cdA K a)).data,(cdV K a)[1]?,(fdK K a).defaults,MF.dfl,decide ((dsV f).length≤MF.np))
def shR(K:Frag)(f:Nat)(MF:c0c)(a:Addr):=
 (true,Data.func (fdK K a),false,false,ScopeKind.function,FuncBody.stmts (q0y K a),([]:List (Str×Addr)),mainGlobals,builtinsNs,true,true,MF.np,true,true,
  ([]:List Arg),([]:List Arg),(none:Option Arg),(none:Option Arg),true,q0y K a,
  Value.ref (cdA K a),true,Data.fields (cdV K a),some (Value.str (fdK K a).qualname (t1a (((cdV K a)[1]?).getD .none))),dfV f,p1o f,true)
theorem b1k{o:Option Obj}(h:o.isSome=true):o=some (o.getD default):=by
 cases o with
 | none=>exact ft h
 | some o=>rfl
theorem i1j{B:Heap}(f:Nat):VRs B B (p1o f) (dsV f):=by
 unfold p1o dsV;split
 ·exact⟨_,_,rfl,VR.mkInt _ _,_,_,rfl,VR.mkNone,_,_,rfl,VR.mkInt _ _,VRs.one (VR.mkInt _ _)⟩
 ·split
  ·exact VRs.one VR.mkNone
  ·exact(rfl:([]:List Value)=[])
theorem a1h{K:Frag}{s:Shared}(t31:K.lookup 335=some (a0l p1p 0))(t41:K.lookup 439=some (a0l [.none] 0))(KB:K.In s.heap)(f:Nat)(M:Model)(A:Around)(E:Value→Shared→Prop)(Q:Option (Array Value)→Shared→Prop)
  (q:∀ o,(o.getD #[]).toList=dsV f→Q o s):wpAny M A (seqItems? (dfV f)) Q E s:=by
 unfold dfV;unfold dsV at q;split at q
 ·rw[if_pos (by assumption)];exact wpAny_seqItems (KB _ _ t31) rfl (q _ rfl)
 ·rw[if_neg (by assumption)];split at q
  ·rw[if_pos (by assumption)];exact wpAny_seqItems (KB _ _ t41) rfl (q _ rfl)
  ·rw[if_neg (by assumption)];exact wpAny_pure (q none rfl)
theorem pj{α β:Type}{x y:α}(h:x=y)(g:α→β):g x=g y:=congrArg g h
theorem i1r{F:Fx}(KB:F.K.In F.B)(t31:F.K.lookup 335=some (a0l p1p 0))(t41:F.K.lookup 439=some (a0l [.none] 0)){f:Nat}{MF:c0c}(h:shL F.K f MF (F.fa f)=shR F.K f MF (F.fa f)) :
  ∃ ps o fd body,FnAt F f MF ps o fd body:=by
 have hn:(psK F.K (F.fa f)).Nodup:=of_decide_eq_true (pj h (·.2.2.2.2.2.2.2.2.2.2.1));have hl:(psK F.K (F.fa f)).length=MF.np:=pj h (·.2.2.2.2.2.2.2.2.2.2.2.1);refine⟨psK F.K (F.fa f),obK F.K (F.fa f),fdK F.K (F.fa f),q0y F.K (F.fa f),KB _ _ (b1k (pj h (·.1))),pj h (·.2.1),pj h (·.2.2.1),pj h (·.2.2.2.1),pj h (·.2.2.2.2.1),pj h (·.2.2.2.2.2.1),pj h (·.2.2.2.2.2.2.1),pj h (·.2.2.2.2.2.2.2.1),pj h (·.2.2.2.2.2.2.2.2.1),
  (Mac.i8_4 _ _ _ _ (pj h (·.2.2.2.2.2.2.2.2.2.2.2.2.2.2.2.2.2.2.2.2.1)) (KB _ _ (b1k (pj h (·.2.2.2.2.2.2.2.2.2.2.2.2.2.2.2.2.2.2.2.2.2.1)))) (pj h (·.2.2.2.2.2.2.2.2.2.2.2.2.2.2.2.2.2.2.2.2.2.2.1)) (pj h (·.2.2.2.2.2.2.2.2.2.2.2.2.2.2.2.2.2.2.2.2.2.2.2.1))),
  pj h (·.2.2.2.2.2.2.2.2.2.1),hn,hl,fun p hp hlt=>?_,fun x hx=>?_,fun us s lift l1 l2=>?_,pj h (·.2.2.2.2.2.2.2.2.2.2.2.2.2.2.2.2.2.2.1),pj h (·.2.2.2.2.2.2.2.2.2.2.2.2.2.2.2.2.2.2.2.1)⟩
 ·have:=all_eq_true.mp (pj h (·.2.2.2.2.2.2.2.2.2.2.2.2.1)) p hp;rw[Bool.or_eq_true,decide_eq_true_eq,beq_iff_eq]at this;exact this.resolve_left (Nat.not_le_of_lt hlt)
 ·have:=all_eq_true.mp (pj h (·.2.2.2.2.2.2.2.2.2.2.2.2.2.1)) x hx;rw[Bool.or_eq_true,beq_iff_eq,beq_iff_eq]at this;exact this
 ·have hd:MF.dfl=p1o f:=pj h (·.2.2.2.2.2.2.2.2.2.2.2.2.2.2.2.2.2.2.2.2.2.2.2.2.2.1);have r:VRs F.B F.B MF.dfl (dsV f):=hd▸i1j f;rw[← r.length]at l2 ⊢;rw[← hl]at l1 l2 ⊢;refine⟨_,r.drop _,e1e (pj h (·.2.2.2.2.2.2.2.2.2.2.2.2.2.2.1)) rfl (pj h (·.2.2.2.2.2.2.2.2.2.2.2.2.2.2.2.1)) (pj h (·.2.2.2.2.2.2.2.2.2.2.2.2.2.2.2.2.1)) (pj h (·.2.2.2.2.2.2.2.2.2.2.2.2.2.2.2.2.2.1)) (fun M A E Q q=>?_) l1 l2 (hl▸of_decide_eq_true (pj h (·.2.2.2.2.2.2.2.2.2.2.2.2.2.2.2.2.2.2.2.2.2.2.2.2.2.2))) hn⟩;rw[show(fdK F.K (F.fa f)).defaults=dfV f from pj h (·.2.2.2.2.2.2.2.2.2.2.2.2.2.2.2.2.2.2.2.2.2.2.2.2.1)];exact a1h t31 t41 (fun a o e=>lift a o (KB a o e)) f M A E Q q
noncomputable def m1l(K:Frag)(fa:Nat→Addr):Bool:=u0z.all fun f=>nsIn K mainGlobals (q0j f) == some (some (.ref (fa f)))&&keepIn K (.ref (fa f))
noncomputable def i1e(K:Frag)(fa ca:Nat→Addr)(c:Nat):Bool:=nsIn K mainGlobals (p0f c) == some (some (.ref (ca c)))&&keepIn K (.ref (ca c))&&makesIn K (ca c)&&hasDictIn K (ca c)&&
  findIn K (.ref (ca c)) "__setattr__" == some (some (.builtin "object.__setattr__"))&&plainOver K (ca c)&&
  findIn K (.ref (ca c)) "__init__" == some (some (.ref (fa (e0h c))))&&isFn K (.ref (fa (e0h c)))
noncomputable def m1k(K:Frag)(o:Option (Option Value)):Bool:=o.any (noGet K)
noncomputable def l1s(K:Frag)(ca:Nat→Addr)(c:Nat):Bool:=(c0u c).all fun x=>plainGet K (ca c) (a0o x)&&m1k K (findIn K (.ref (ca c)) (a0o x))&&takerIn K (ca c) (a0o x) == some none
noncomputable def n1i(K:Frag)(fa ca:Nat→Addr)(c:Nat):Bool:=(List.range 19).all fun x=>match i0r c x with
 | some f=>plainGet K (ca c) (d0q x)&&findIn K (.ref (ca c)) (d0q x) == some (some (.ref (fa f)))&&isFn K (.ref (fa f))&&keepIn K (.ref (fa f))
 | none=>true
noncomputable def r1y(K:Frag):Bool:=(["len","sorted","list","tuple","abs","int","sum","dict","range","enumerate"]:List Str).all fun x=>nsIn K mainGlobals x == some none
theorem f1y{F:Fx}(g:F.B.Ns mainGlobals F.mg)(b:F.B.Ns builtinsNs F.mb)(lim:F.B.NoLimit)(bi:∀ x:Str,x≠"__name__"→F.mb x=bootBuiltins x)(KB:F.K.In F.B)
  (glo:∀ x v,i0j x=some v→∃ u,nsIn F.K mainGlobals (p0r x)=some (some u)∧VR F.B F.B v u) (h1:m1l F.K F.fa=true) (h2:∀ c,c<6→i1e F.K F.fa F.ca c=true) (h3:∀ c,c<6→l1s F.K F.ca c=true) (h4:∀ c,c<6→n1i F.K F.fa F.ca c=true) (h5:r1y F.K=true):b0z F:=by
 refine⟨g,b,lim,bi,KB,glo,fun f hf=>?_,fun c hc=>?_,fun c hc x hx=>?_,fun c x f hc hm=>?_,fun x hx=>?_⟩
 ·have:=all_eq_true.mp h1 f hf;rw[Bool.and_eq_true,beq_iff_eq]at this;exact this
 ·have:=h2 c hc;unfold i1e at this;simp only[Bool.and_eq_true,beq_iff_eq]at this;obtain⟨⟨⟨⟨⟨⟨⟨a,b⟩,c⟩,d⟩,e⟩,f⟩,g⟩,h⟩:=this;exact⟨a,b,c,d,e,f,g,h⟩
 ·have:=all_eq_true.mp (h3 c hc) x hx;rw[Bool.and_eq_true,Bool.and_eq_true,beq_iff_eq]at this;refine⟨this.1.1,?_,this.2⟩;have hf:=this.1.2;exact(Option.any_eq_true _ _).mp hf
 ·have:=all_eq_true.mp (h4 c hc) x (mem_range.mpr (r0z hm));rw[hm]at this;simp only[Bool.and_eq_true,beq_iff_eq]at this;exact⟨this.1.1.1,this.1.1.2,this.1.2,this.2⟩
 ·have:=all_eq_true.mp h5 x hx;exact beq_iff_eq.mp this
noncomputable def s1t:List Addr:=[28,75,89,96,103,124,131,138,145,159,166,173,187,194,201,208,215,220,241,248,255,262,276,281,288,293,300,307,314,319,326,342,361,368,389,396,403,410,417,424,438,444,451,458,465,470,475,480,485,490,495,500,505,510]
noncomputable def faT(f:Nat):Addr:=(s1t[f]?).getD 0
noncomputable def s1n:List Addr:=[106,148,223,265,345,427]
noncomputable def caT(c:Nat):Addr:=(s1n[c]?).getD 0
def mfO(f:Nat):c0c:=(i0i f).getD ⟨0,0,[],.nil⟩
def emK(K:Frag)(a:Nat):Prop:=((range' a 6).map fun f=>shL K f (mfO f) (faT f))=(range' a 6).map fun f=>shR K f (mfO f) (faT f)
inductive l0h(K:Frag):Prop
 | mk (e0:emK K 0) (e1:emK K 6) (e2:emK K 12) (e3:emK K 18) (e4:emK K 24) (e5:emK K 30) (e6:emK K 36) (e7:emK K 42) (e8:emK K 48)
  (fns:m1l K faT=true) (cls:((List.range 6).all fun c=>i1e K faT caT c)=true) (att:((List.range 6).all fun c=>l1s K caT c)=true) (met:((List.range 6).all fun c=>n1i K faT caT c)=true) (bn:r1y K=true)
  (d31:K.lookup 335=some (a0l p1p 0)) (d41:K.lookup 439=some (a0l [.none] 0))
  (own:K.lookup 327=some (a0l [.str "$end" 632,.str "error" 633,.str "$undefined" 634] 0))
  (g0:nsIn K mainGlobals "NONE"=some (some (.int (-1) 275))) (g1:nsIn K mainGlobals "END"=some (some (.int 0 630))) (g2:nsIn K mainGlobals "OWN_TERMINALS"=some (some (.ref 327)))
  (law:nsIn K mainGlobals "law"=some (some (.ref (faT 53)))):l0h K
theorem k1z{K:Frag}{h:Heap}(_:K.In h)(c:l0h K):l0h K:=c
theorem l0h.law53{K:Frag}(c:l0h K):nsIn K mainGlobals "law"=some (some (.ref (faT 53))):=by obtain⟨⟩:=c;assumption
theorem i1s{K:Frag}{f:Nat}{MF:c0c}(h:i0i f=some MF)(a:Nat)(e:emK K a)(h1:a≤f)(h2:f<a+6):shL K f MF (faT f)=shR K f MF (faT f):=by
 have z:=List.map_inj_left.mp e f (mem_range'_1.mpr (And.intro h1 h2));rw[show mfO f=MF from(congrArg (Option.getD · _) h)]at z;exact z
theorem m1m{K:Frag}(c:l0h K)(f:Nat)(MF:c0c)(h:i0i f=some MF):shL K f MF (faT f)=shR K f MF (faT f):=by
 obtain⟨e0,e1,e2,e3,e4,e5,e6,e7,e8⟩:=c;have hl:f<54:=(gsm h).1;have go:=i1s (K:=K) h;by_cases h0:f<6
 ·exact go 0 e0 (Nat.zero_le _) h0
 by_cases h1:f<12
 ·exact go 6 e1 (Nat.le_of_not_lt h0) h1
 by_cases h2:f<18
 ·exact go 12 e2 (Nat.le_of_not_lt h1) h2
 by_cases h3:f<24
 ·exact go 18 e3 (Nat.le_of_not_lt h2) h3
 by_cases h4:f<30
 ·exact go 24 e4 (Nat.le_of_not_lt h3) h4
 by_cases h5:f<36
 ·exact go 30 e5 (Nat.le_of_not_lt h4) h5
 by_cases h6:f<42
 ·exact go 36 e6 (Nat.le_of_not_lt h5) h6
 by_cases h7:f<48
 ·exact go 42 e7 (Nat.le_of_not_lt h6) h7
 exact go 48 e8 (Nat.le_of_not_lt h7) hl
end Mine
namespace Mine
open PySem
theorem a0c{n f:Nat}{F:c0c}{vs:List a0a}{Q:a0d}{H:MH}(m0:Loc)(hf:i0i f=some F)(hb:e1d F vs=some m0)(h:wpB (gam (a0f n)) F.body m0 H (u0o Q)):a0f (n+1) f vs H Q:=(Mac.i5_2 F m0 hf hb h)
def nxt(Γ:Gam)(r:k0h)(Q:b0u→Loc→MH→Prop)(fl:b0u)(m:Loc)(H:MH):Prop:=match fl with
 | .next=>wpB Γ r m H Q
 | fl=>Q fl m H
section
variable {Γ:Gam}{r:k0h}{m:Loc}{H:MH}{Q:b0u→Loc→MH→Prop}{v:a0a}
theorem f1m:nxt Γ r Q .next m H=wpB Γ r m H Q:=rfl
theorem j1s:nxt Γ r Q .brk m H=Q .brk m H:=rfl
theorem j1t:nxt Γ r Q (.ret v) m H=Q (.ret v) m H:=rfl
end
theorem seq{Γ:Gam}{s:o0r}{r:k0h}{m:Loc}{H:MH}{Q:b0u→Loc→MH→Prop}(h:wpS Γ s m H (nxt Γ r Q)):wpB Γ (.cons s r) m H Q:=h
theorem b0m{Γ:Gam}{m:Loc}{H:MH}{Q:b0u→Loc→MH→Prop}(h:Q .next m H):wpB Γ .nil m H Q:=h
theorem h0k{Γ:Gam}{m:Loc}{H:MH}{Q:b0u→Loc→MH→Prop}(h:Q .next m H):nxt Γ .nil Q .next m H:=h
theorem c1q{Γ:Gam}{e:a0m}{m:Loc}{H:MH}{S:b0u→Loc→MH→Prop}(h:wpE Γ e m H fun v H1=>S (.ret v) m H1):wpB Γ (.cons (.ret e) .nil) m H S:=h
theorem d0s{Γ:Gam}{e:a0m}{m:Loc}{H:MH}{Q:a0d}(h:wpE Γ e m H Q):wpB Γ (.cons (.ret e) .nil) m H (u0o Q):=h
theorem f0p(H:MH)(a:Addr)(o:j0u):upd H a o a=some o:=if_pos rfl
theorem d1i(H:MH){a b:Addr}(o:j0u)(h:b≠a):upd H a o b=H b:=if_neg h
def Ext(H H':MH):Prop:=∀ a o,H a=some o→H' a=some o
def But(a:Addr)(H H':MH):Prop:=∀ b,b≠a→H' b=H b
theorem Ext.refl(H:MH):Ext H H:=fun U U e=>e
theorem Ext.trans{H1 H2 H3:MH}(a:Ext H1 H2)(b:Ext H2 H3):Ext H1 H3:=fun p o e=>b p o (a p o e)
theorem But.upd(H:MH)(a:Addr)(o:j0u):But a H (upd H a o):=fun b n=>d1i H o n
theorem Ext.but{H0 H H':MH}{a:Addr}(e:Ext H0 H)(h0:H0 a=none)(b:But a H H'):Ext H0 H':=fun p o q=>by
 rw[b p (by first | exact nef (h0) q (fun e=>by cases e) | exact nef q (h0) (fun e=>by cases e))]
 exact e p o q
theorem Ext.alloc{H:MH}{a:Addr}{o:j0u}(h:H a=none):Ext H (upd H a o):=(Ext.refl H).but h (But.upd H a o)
theorem Ext.none{H H':MH}{a:Addr}(e:Ext H H')(h:H' a=none):H a=none:=by
 cases q:H a with
 | none=>rfl
 | some o=>rw[e a o q]at h;cases h
theorem a0t{H:MH}{a b:Addr}{o:j0u}(h:H a=none)(g:H b=some o):b≠a:=by first | exact nef (h) g (fun e=>by cases e) | exact nef g (h) (fun e=>by cases e)
theorem a0q{o:j0u}{H:MH}{Q:a0d}(q:∀ a H',H a=none→H' a=some o→Ext H H'→But a H H'→Q (.ref a) H'):d0v o H Q:=
 fun a h=>q a _ h (f0p H a o) (Ext.alloc h) (But.upd H a o)
theorem a0h{l:List a0a}{H:MH}{Q:a0d}(hl:l.length≤LIM)(q:∀ a H',H a=none→H' a=some (.list l)→Ext H H'→But a H H'→Q (.ref a) H'):e0f l H Q:=⟨hl,a0q q⟩
section
variable {H:MH}{a b:Addr}{l r:List a0a}{v w x:a0a}{Q:a0d}{i j:Int}{k:Nat}
theorem add_int:p0e .add (.int i) (.int j) H Q=Q (.int (i+j)) H:=rfl
theorem sub_int:p0e .sub (.int i) (.int j) H Q=Q (.int (i-j)) H:=rfl
theorem mul_int:p0e .mul (.int i) (.int j) H Q=((d0c i∨d0c j)∧Q (.int (i*j)) H):=rfl
theorem mod_int:p0e .mod (.int i) (.int j) H Q=(j≠0∧Q (.int (i.fmod j)) H):=rfl
theorem e1v:p0e .fdiv (.int i) (.int j) H Q=(j≠0∧j.natAbs<1073741824∧Q (.int (i.fdiv j)) H):=rfl
theorem h1v:p0e .add (.tup l) (.tup r) H Q=(l.length+r.length≤LIM∧Q (.tup (l++r)) H):=rfl
theorem h1t(h1:H a=some (.list l))(h2:H b=some (.list r))(hl:l.length+r.length≤LIM)(q:∀ c H',H c=none→H' c=some (.list (l++r))→Ext H H'→But c H H'→Q (.ref c) H'):p0e .add (.ref a) (.ref b) H Q:=
 (Mac.i5_2 l r h1 h2 (a0h (by rw[length_append];exact hl) q))
theorem q1v{n:Int}(h1:H a=some (.list [v]))(h0:0≤n)(hl:n≤LIM)(q:∀ c H',H c=none→H' c=some (.list (List.replicate n.toNat v))→Ext H H'→But c H H'→Q (.ref c) H'):p0e .mul (.ref a) (.int n) H Q:=
 (Mac.i5_1 v h1 h0 hl (a0q q))
theorem eq_int{P:Bool→Prop}:h0w .eq (.int i) (.int j) H P=P (decide (i=j)):=rfl
theorem ne_int{P:Bool→Prop}:h0w .ne (.int i) (.int j) H P=P (!decide (i=j)):=rfl
theorem eq_str{P:Bool→Prop}{s t:Str}:h0w .eq (.str s) (.str t) H P=P (decide (s=t)):=rfl
theorem ne_str{P:Bool→Prop}{s t:Str}:h0w .ne (.str s) (.str t) H P=P (!decide (s=t)):=rfl
theorem eq_bool{P:Bool→Prop}{s t:Bool}:h0w .eq (.bool s) (.bool t) H P=P (s == t):=rfl
theorem lt_int{P:Bool→Prop}:h0w .lt (.int i) (.int j) H P=P (decide (i<j)):=rfl
theorem gt_int{P:Bool→Prop}:h0w .gt (.int i) (.int j) H P=P (decide (j<i)):=rfl
theorem ge_int{P:Bool→Prop}:h0w .ge (.int i) (.int j) H P=P (decide (j≤i)):=rfl
theorem m1p{P:Bool→Prop}{c:a0a}:h0w .inn x c H P=inP x c H P:=rfl
theorem b1u{P:Bool→Prop}{c:a0a}:h0w .notin x c H P=inP x c H fun r=>P (!r):=rfl
theorem s0f{n k:Nat}(h:k<n):q0d n (k:Int)=some k:=by
 unfold q0d;rw[if_pos (by omega),if_pos (by omega)];simp
theorem c1n{n:Nat}(h:0<n):q0d n (-1)=some (n-1):=by
 unfold q0d;obtain⟨m,rfl⟩:∃ m,n=m+1:=⟨n-1,(Nat.sub_add_cancel h).symm⟩;rw[if_neg (by decide),if_pos (Int.neg_le_neg (Int.ofNat_le.mpr h)),Int.add_comm];exact congrArg some (Int.toNat_sub (m+1) 1)
theorem d0n{P:a0a→Prop}(h:H a=some (.list l))(hl:l.length≤LIM)(hk:l[k]?=some v)(q:P v):d1a (.ref a) (.int (k:Int)) H P:=
 .lst l h ⟨_,rfl,k,v,hl,s0f (gsm hk).1,hk,q⟩
theorem e0v{P:a0a→Prop}(h:H a=some (.list l))(hl:l.length≤LIM)(hk:l.getLast?=some v)(q:P v):d1a (.ref a) (.int (-1)) H P:=by
 have hk':l[l.length-1]?=some v:=by rw[← List.getLast?_eq_getElem?];exact hk
 exact .lst l h ⟨_,rfl,_,v,hl,c1n (Nat.lt_of_le_of_lt (Nat.zero_le _) (gsm hk').1),hk',q⟩
theorem l1l{P:a0a→Prop}(hl:l.length≤LIM)(hk:l[k]?=some v)(q:P v):d1a (.tup l) (.int (k:Int)) H P:=
 ⟨_,rfl,k,v,hl,s0f (gsm hk).1,hk,q⟩
theorem w0u{P:a0a→Prop}{kd ep:Nat}{kv:List (a0a×a0a)}(h:H a=some (.dict kd kv ep))(hk:kindOf x=kd)(hv:c0q kv x=some v)(q:P v):d1a (.ref a) x H P:=.dic kd kv ep h (Mac.i4_1 v hk hv q)
theorem inT{P:Bool→Prop}(h1:p0o x=true)(h2:e0d l=true)(q:P (g1w x l)):inP x (.tup l) H P:=(Mac.i3_0 h1 h2 q)
theorem inL{P:Bool→Prop}(h:H a=some (.list l))(h1:p0o x=true)(h2:e0d l=true)(q:P (g1w x l)):inP x (.ref a) H P:=.lst l h (Mac.i3_0 h1 h2 q)
theorem inD{P:Bool→Prop}{kd ep:Nat}{kv:List (a0a×a0a)}(h:H a=some (.dict kd kv ep))(hk:kindOf x=kd)(q:P (c0q kv x).isSome):inP x (.ref a) H P:=.dic kd kv ep h ⟨hk,q⟩
theorem i0p(h:H a=some (.list l))(hl:l.length≤LIM)(q:Q (.int l.length) H):biP .len [.ref a] H Q:=o0s.lst l h ⟨hl,q⟩
theorem j1i(hl:l.length≤LIM)(q:Q (.int l.length) H):biP .len [.tup l] H Q:=⟨hl,q⟩
theorem s1f{kd ep:Nat}{kv:List (a0a×a0a)}(h:H a=some (.dict kd kv ep))(hk:kd≤2)(hl:kv.length≤LIM)(q:Q (.int kv.length) H):biP .len [.ref a] H Q:=o0s.dic kd kv ep h (Mac.i3_0 hk hl q)
theorem b1j(h:H a=some (.list l))(hl:l.length≤LIM)(q:∀ c H',H c=none→H' c=some (.list l)→Ext H H'→But c H H'→Q (.ref c) H'):biP .list [.ref a] H Q:=o0s.lst l h (a0h hl q)
theorem j1k(hl:l.length≤LIM)(q:∀ c H',H c=none→H' c=some (.list l)→Ext H H'→But c H H'→Q (.ref c) H'):biP .list [.tup l] H Q:=a0h hl q
theorem n1b{kd ep:Nat}{kv:List (a0a×a0a)}(h:H a=some (.dict kd kv ep))(hk:kd≤2)(hl:kv.length≤LIM)(q:∀ c H',H c=none→H' c=some (.list (kv.map (·.1)))→Ext H H'→But c H H'→Q (.ref c) H'):biP .list [.ref a] H Q:=o0s.dic kd kv ep h ⟨hk,a0h (by rw[lmp];exact hl) q⟩
theorem s0s(h:H a=some (.list l))(hl:l.length≤LIM)(q:Q (.tup l) H):biP .tuple [.ref a] H Q:=(Mac.i4_1 l h hl q)
theorem sortI{ns:List Int}(h:l=ns.map .int)(hl:ns.length≤LIM)(q:∀ s c H',o0t ns s→H c=none→H' c=some (.list (s.map .int))→Ext H H'→But c H H'→Q (.ref c) H'):m0s l H Q:=
 .inl (Mac.i4_1 ns h hl (fun s hs=>a0q fun c H'=>q s c H' hs))
theorem n1z{ps:List (Int×Int)}(h:l=ps.map h0o)(hl:ps.length≤LIM)(hp:∀ p∈ps,0≤p.2∧p.2<1000)(q:∀ s c H',h0x ps s→H c=none→H' c=some (.list (s.map h0o))→Ext H H'→But c H H'→Q (.ref c) H'):m0s l H Q:=
 .inr (Mac.i5_1 ps h hl hp (fun s hs=>a0q fun c H'=>q s c H' hs))
theorem f0l(h:H a=some (.list l))(q:m0s l H Q):biP .sorted [.ref a] H Q:=o0s.lst l h q
theorem u0y{ep:Nat}{kv:List (a0a×a0a)}(h:H a=some (.dict 1 kv ep))(q:m0s (kv.map (·.1)) H Q):biP .sorted [.ref a] H Q:=o0s.dic 1 kv ep h ⟨rfl,q⟩
theorem s1l{ns:List Int}(h:H a=some (.list (ns.map .int)))(q:Q (.int ns.sum) H):biP .sum [.ref a] H Q:=(Mac.i3_1 ns h q)
theorem b0o(h:H a=some (.list l))(hl:l.length<LIM)(q:∀ H',H' a=some (.list (l++[v]))→But a H H'→Q .none H'):bmP .append (.ref a) [v] H Q:=(Mac.i4_1 l h hl (q _ (f0p _ _ _) (But.upd _ _ _)))
theorem i1o(hne:a≠b)(h:H a=some (.list l))(h2:H b=some (.list r))(hl:l.length+r.length≤LIM)(q:∀ H',H' a=some (.list (l++r))→But a H H'→Q .none H'):bmP .extend (.ref a) [.ref b] H Q:=(Mac.i7_2 l r hne h h2 hl (q _ (f0p _ _ _) (But.upd _ _ _)))
theorem s1b{kd ep:Nat}{kv:List (a0a×a0a)}{d:a0a}(h:H a=some (.dict kd kv ep))(hk:kd≤2)(hx:kindOf x=kd)(q:Q ((c0q kv x).getD d) H):bmP .get (.ref a) [x,d] H Q:=(Mac.i7_3 kd kv ep h hk hx q)
theorem v0y(h:H a=some (.list l))(h1:p0o x=true)(h2:e0d l=true)(hl:l.length≤LIM)(hi:d1u x l=some k)(q:Q (.int k) H):bmP .index (.ref a) [x] H Q:=(Mac.i8_2 l k h h1 h2 hl hi q)
theorem a0p{op:Bm}(h:H a=some (.list l))(hop:op≠.get):bmR op (.ref a) H:=by
 cases op <;> first | exact⟨l,h⟩ | exact absurd rfl hop
theorem z0t{kd ep:Nat}{kv:List (a0a×a0a)}(h:H a=some (.dict kd kv ep)):bmR .get (.ref a) H:=(Mac.i4_3 kd kv ep h)
theorem putL{P:MH→Prop}(h:H a=some (.list l))(hk:k<l.length)(hl:l.length≤LIM)(q:∀ H',H' a=some (.list (l.set k v))→But a H H'→P H'):l1j (.ref a) (.int (k:Int)) v H P:=
 o0s.lst l h (Mac.i6_1 _ rfl (Int.natCast_nonneg k) (Int.ofNat_lt.mpr hk) hl (q _ (f0p _ _ _) (But.upd _ _ _)))
theorem l1i{P:MH→Prop}{kd ep:Nat}{kv:List (a0a×a0a)}(h:H a=some (.dict kd kv ep))(hk:kindOf x=kd)(hl:kv.length<LIM)(q:∀ H' ep',H' a=some (.dict kd (f0k kv x v) ep')→But a H H'→P H'):l1j (.ref a) x v H P:=
 o0s.dic kd kv ep h (Mac.i3_0 hk hl (fun ep'=>q _ ep' (f0p _ _ _) (But.upd _ _ _)))
theorem c0l{K:List a0a→(MH→Prop)→Prop}(h:H a=some (.list l))(q:K l fun H'=>H' a=some (.list l)):g0q .plain (.ref a) H K:=o0s.lst l h q
theorem p0t{K:List a0a→(MH→Prop)→Prop}(q:K l fun U=>True):g0q .plain (.tup l) H K:=q
theorem b1d{K:List a0a→(MH→Prop)→Prop}{kd ep:Nat}{kv:List (a0a×a0a)}(h:H a=some (.dict kd kv ep))(hk:kd≤2)(q:K (kv.map (·.1)) fun H'=>H' a=some (.dict kd kv ep)):g0q .plain (.ref a) H K:=o0s.dic kd kv ep h ⟨hk,q⟩
end
theorem j0d{B:Loc→MH→(b0u→Loc→MH→Prop)→Prop}{t:Tgt}{ok:MH→Prop}{Q:b0u→Loc→MH→Prop}(I:Nat→Loc→MH→Prop)(R:a0a→Loc→MH→Prop)(Z:Loc→MH→Prop):∀ (xs:List a0a) (i0:Nat),
  (∀ i m H,I i m H→ok H)→
  (∀ i m H x (K:b0u→Loc→MH→Prop),xs[i]?=some x→I (i0+i) m H→(∀ m' H',I (i0+i+1) m' H'→K .next m' H')→(∀ m' H',Z m' H'→K .brk m' H')→(∀ v m' H',R v m' H'→K (.ret v) m' H')→∃ m',s0y t x m=some m'∧B m' H K)→
  (∀ m H,I (i0+xs.length) m H→Q .next m H)→(∀ m H,Z m H→Q .next m H)→(∀ v m H,R v m H→Q (.ret v) m H)→∀ m H,I i0 m H→i1t B t ok xs m H Q
 | [],i0,hok,step,fin,fz,fr,m,H,h=>⟨hok _ _ _ h,fin m H h⟩
 | x::xs,i0,hok,step,fin,fz,fr,m,H,h=>by
  refine⟨hok _ _ _ h,step 0 m H x _ rfl h (fun m' H' h'=>?_) (fun m' H' h'=>fz m' H' h') fun v m' H' h'=>fr v m' H' h'⟩;refine j0d I R Z xs (i0+1) hok (fun i m H y K hy hI k1 k2 k3=>?_) (fun m H h=>?_) fz fr m' H' h'
  ·have e:i0+1+i=i0+(i+1):=by omega
   rw[e]at hI k1;exact step (i+1) m H y K (by rw[getElem?_cons_succ];exact hy) hI k1 k2 k3
  ·refine fin m H ?_;rw[length_cons,show i0+(xs.length+1)=i0+1+xs.length by omega];exact h
theorem a0s{B:Loc→MH→(b0u→Loc→MH→Prop)→Prop}{t:Tgt}{ok:MH→Prop}{Q:b0u→Loc→MH→Prop}(I:Nat→Loc→MH→Prop){xs:List a0a}{m:Loc}{H:MH}(h0:I 0 m H)(hok:∀ i m H,I i m H→ok H)
  (step:∀ i m H x (K:b0u→Loc→MH→Prop),xs[i]?=some x→I i m H→(∀ m' H',I (i+1) m' H'→K .next m' H')→∃ m',s0y t x m=some m'∧B m' H K) (fin:∀ m H,I xs.length m H→Q .next m H):i1t B t ok xs m H Q:=by
 refine j0d I (fun U U U=>False) (fun U U=>False) xs 0 hok (fun i m H x K hx hI k1 U U=>?_) (fun m H h=>fin m H ?_) (fun U U h=>h.elim) (fun U U U h=>h.elim) m H h0
 ·rw[Nat.zero_add]at hI k1;exact step i m H x K hx hI k1
 ·rw[Nat.zero_add]at h;exact h
theorem v0n{F:Loc→MH→a0d→Prop}{C:Loc→MH→(Bool→MH→Prop)→Prop}{t:Tgt}{ok:MH→Prop}{m:Loc}{Q:List a0a→MH→Prop}(I:Nat→MH→List a0a→Prop):∀ (xs:List a0a) (i0:Nat),
  (∀ i H acc,I i H acc→ok H)→
  (∀ i H acc x (K:List a0a→MH→Prop),xs[i]?=some x→I (i0+i) H acc→(∀ acc' H',I (i0+i+1) H' acc'→K acc' H')→∃ m',s0y t x m=some m'∧C m' H fun b H1=>if b=true then F m' H1 fun v H2=>K (acc++[v]) H2 else K acc H1)→
  (∀ H acc,I (i0+xs.length) H acc→Q acc H)→∀ H acc,I i0 H acc→k0i F C t ok m xs H acc Q
 | [],i0,hok,step,fin,H,acc,h=>⟨hok _ _ _ h,fin H acc h⟩
 | x::xs,i0,hok,step,fin,H,acc,h=>by
  refine⟨hok _ _ _ h,step 0 H acc x (fun acc' H'=>k0i F C t ok m xs H' acc' Q) rfl h fun acc' H' h'=>?_⟩;refine v0n I xs (i0+1) hok (fun i H acc y K hy hI k1=>?_) (fun H acc h=>?_) H' acc' h'
  ·have e:i0+1+i=i0+(i+1):=by omega
   rw[e]at hI k1;exact step (i+1) H acc y K (by rw[getElem?_cons_succ];exact hy) hI k1
  ·refine fin H acc ?_;rw[length_cons,show i0+(xs.length+1)=i0+1+xs.length by omega];exact h
theorem c0g{F:Loc→MH→a0d→Prop}{C:Loc→MH→(Bool→MH→Prop)→Prop}{t:Tgt}{ok:MH→Prop}{m:Loc}{Q:List a0a→MH→Prop}(I:Nat→MH→List a0a→Prop){xs:List a0a}{H:MH}(h0:I 0 H [])(hok:∀ i H acc,I i H acc→ok H)
  (step:∀ i H acc x (K:List a0a→MH→Prop),xs[i]?=some x→I i H acc→(∀ acc' H',I (i+1) H' acc'→K acc' H')→∃ m',s0y t x m=some m'∧C m' H fun b H1=>if b=true then F m' H1 fun v H2=>K (acc++[v]) H2 else K acc H1)
  (fin:∀ H acc,I xs.length H acc→Q acc H):k0i F C t ok m xs H [] Q:=by
 refine v0n I xs 0 hok (fun i H acc x K hx hI k1=>?_) (fun H acc h=>fin H acc ?_) H [] h0
 ·rw[Nat.zero_add]at hI k1;exact step i H acc x K hx hI k1
 ·rw[Nat.zero_add]at h;exact h
theorem a0x{F:Loc→MH→a0d→Prop}{C:Loc→MH→(Bool→MH→Prop)→Prop}{t:Tgt}{ok:MH→Prop}{m:Loc}{Q:List a0a→MH→Prop}(f:Nat→List a0a){xs:List a0a}{H:MH}(h0:f 0=[])(hok:ok H)
  (step:∀ i x (K:List a0a→MH→Prop),xs[i]?=some x→(∀ acc H',H'=H∧acc=f (i+1)→K acc H')→∃ m',s0y t x m=some m'∧C m' H fun b H1=>if b=true then F m' H1 fun v H2=>K (f i++[v]) H2 else K (f i) H1) (fin:Q (f xs.length) H):k0i F C t ok m xs H [] Q:=
 c0g (fun i H' acc=>H'=H∧acc=f i) ⟨rfl,h0.symm⟩ (fun i H' acc h=>h.1▸hok) (fun i H' acc x K hx h k=>by clear hok fin;obtain⟨rfl,rfl⟩:=h;exact step i x K hx k) fun H' acc h=>by clear hok step;obtain⟨rfl,rfl⟩:=h;exact fin
theorem g0f{C:Loc→MH→(Bool→MH→Prop)→Prop}{B:Loc→MH→(b0u→Loc→MH→Prop)→Prop}{Q:b0u→Loc→MH→Prop}(I:Nat→Loc→MH→Prop)
  (step:∀ j m H (K:b0u→Loc→MH→Prop),I j m H→(∀ j' m' H',j'<j→I j' m' H'→K .next m' H')→C m H fun b H1=>if b=true then B m H1 K else Q .next m H1) (j:Nat) (m:Loc) (H:MH) (h:I j m H):∃ n,n0e C B n m H Q:=by
 have key:∀ N j m H,j<N→I j m H→n0e C B N m H Q:=by
  intro N
  induction N with
  | zero=>intro j m H hj;omega
  | succ N ih=>
   intro j m H hj h;exact step j m H (fun fl m2 H2=>match fl with
    | .next=>n0e C B N m2 H2 Q
    | .brk=>Q .next m2 H2
    | .ret v=>Q (.ret v) m2 H2) h fun j' m' H' hj' h'=>ih j' m' H' (by omega) h'
 exact⟨j+1,key _ j m H (by omega) h⟩
def n1y(x y:a0a)(H2:MH)(Q:a0d):Prop:=match x,y with
   | .frz l,.int k=>0≤k∧k≤LIM∧l.length≤LIM∧e0f (l.take k.toNat) H2 Q
   | .ref a,.int k=>∃ l,H2 a=some (.list l)∧0≤k∧k≤LIM∧l.length≤LIM∧e0f (l.take k.toNat) H2 Q
   | .str s,.int k=>0≤k∧k≤LIM∧s.length≤LIM∧Q (.str ⟨s.cps.extract 0 k.toNat⟩) H2
   | _,_=>False
def s1w(x y z:a0a)(H3:MH)(Q:a0d):Prop:=match x,y,z with
   | .tup l,.int i,.int j=>0≤i∧i≤LIM∧0≤j∧j≤LIM∧l.length≤LIM∧Q (.tup ((l.take j.toNat).drop i.toNat)) H3
   | _,_,_=>False
def s1j(x:a0a)(H:MH)(Q:a0d):Prop:=match x with | .int i=>Q (.int (-i)) H | _=>False
section
variable {Γ:Gam}{m:Loc}{H:MH}{Q:a0d}{S:b0u→Loc→MH→Prop}{L:List a0a→MH→Prop}{P:Bool→MH→Prop}{a b c e:a0m}{as r:a0w}{x:Nat}
theorem o1q{i:Nat}:wpE Γ (.var i) m H Q=(match m[i]? with | some (some v)=>Q v H | _=>False):=rfl
theorem o1h{v:a0a}:wpE Γ (.con v) m H Q=Q v H:=rfl
theorem o1i:wpE Γ (.glo x) m H Q=(match Γ.glo x with | some v=>Q v H | none=>False):=rfl
theorem o1f{op:BOp}:wpE Γ (.bin op a b) m H Q=wpE Γ a m H fun x H1=>wpE Γ b m H1 fun y H2=>p0e op x y H2 Q:=rfl
theorem o1k:wpE Γ (.neg a) m H Q=wpE Γ a m H fun x H1=>s1j x H1 Q:=rfl
theorem o1g{op:COp}:wpE Γ (.cmp op a b) m H Q=wpE Γ a m H fun x H1=>wpE Γ b m H1 fun y H2=>h0w op x y H2 fun r=>Q (.bool r) H2:=rfl
theorem o1e:wpE Γ (.and as) m H Q=k0v Γ as m H fun b H1=>Q (.bool b) H1:=rfl
theorem r1o:wpE Γ (.or as) m H Q=h1j Γ as m H fun b H1=>Q (.bool b) H1:=rfl
theorem o1m:wpE Γ (.not a) m H Q=wpE Γ a m H (asB fun b H1=>Q (.bool (!b)) H1):=rfl
theorem o1j:wpE Γ (.ite c a b) m H Q=wpE Γ c m H (asB fun t H1=>if t=true then wpE Γ a m H1 Q else wpE Γ b m H1 Q):=rfl
theorem k1o:wpE Γ (.list as) m H Q=wpL Γ as m H fun vs H1=>e0f vs H1 Q:=rfl
theorem o1p:wpE Γ (.tup as) m H Q=wpL Γ as m H fun vs H1=>vs.length≤LIM∧Q (.tup vs) H1:=rfl
theorem g1g{kd:Nat}:wpE Γ (.edict kd) m H Q=((1≤kd∧kd≤3)∧d0v (.dict kd [] 0) H Q):=rfl
theorem o1o:wpE Γ (.sub a b) m H Q=wpE Γ a m H fun x H1=>wpE Γ b m H1 fun y H2=>d1a x y H2 fun v=>Q v H2:=rfl
theorem g1h:wpE Γ (.slcTo a b) m H Q=wpE Γ a m H fun x H1=>wpE Γ b m H1 fun y H2=>n1y x y H2 Q:=rfl
theorem o1n:wpE Γ (.slc a b c) m H Q=wpE Γ a m H fun x H1=>wpE Γ b m H1 fun y H2=>wpE Γ c m H2 fun z H3=>s1w x y z H3 Q:=rfl
theorem k1l:wpE Γ (.attr a x) m H Q=wpE Γ a m H fun v H1=>z0k v x H1 Q:=rfl
theorem k1m{f:Nat}:wpE Γ (.call f as) m H Q=wpL Γ as m H fun vs H1=>Γ.call f vs H1 Q:=rfl
theorem o1l{k:Nat}:wpE Γ (.new k as) m H Q=wpL Γ as m H fun vs H1=>∀ a d,H1 a=none→H1 d=none→a≠d→
   Γ.call (Γ.init k) (.ref a::vs) (upd (upd H1 d (.hid a)) a (.inst k [])) fun r H2=>r=.none∧Q (.ref a) H2:=rfl
theorem k1p{n:Nat}:wpE (gam (a0f n)) (.meth a x as) m H Q=wpE (gam (a0f n)) a m H fun v H1=>methP i0r v x H1 fun f s=>wpL (gam (a0f n)) as m H1 fun vs H2=>a0f n f (s::vs) H2 Q:=rfl
theorem r1m{op:Bi}:wpE Γ (.bi op as) m H Q=wpL Γ as m H fun vs H1=>biP op vs H1 Q:=rfl
theorem r1n{op:Bm}:wpE Γ (.bm op a as) m H Q=wpE Γ a m H fun v H1=>bmR op v H1∧wpL Γ as m H1 fun vs H2=>bmP op v vs H2 Q:=rfl
theorem k1n{t:Tgt}{k:ItK}:wpE Γ (.comp a t k e as) m H Q=wpE Γ e m H fun src H1=>g0q k src H1 fun items ok=>items.length≤LIM∧
   k0i (wpE Γ a) (k0v Γ as) t ok m items H1 [] fun acc H2=>d0v (.list acc) H2 Q:=rfl
theorem o1r:wpL Γ .nil m H L=L [] H:=rfl
theorem k1q:wpL Γ (.cons a r) m H L=wpE Γ a m H fun v H1=>wpL Γ r m H1 fun vs H2=>L (v::vs) H2:=rfl
theorem o1d:k0v Γ .nil m H P=P true H:=rfl
theorem k1k:k0v Γ (.cons a r) m H P=wpE Γ a m H (asB fun b H1=>if b=true then k0v Γ r m H1 P else P false H1):=rfl
theorem o1s:h1j Γ .nil m H P=P false H:=rfl
theorem k1r:h1j Γ (.cons a r) m H P=wpE Γ a m H (asB fun b H1=>if b=true then P true H1 else h1j Γ r m H1 P):=rfl
theorem o1t{i:Nat}:wpS Γ (.asg i a) m H S=wpE Γ a m H fun v H1=>i<m.length∧S .next (m.set i (some v)) H1:=rfl
theorem k1u{is:List Nat}:wpS Γ (.asgT is a) m H S=wpE Γ a m H fun v H1=>r1l is v m fun m'=>S .next m' H1:=rfl
theorem k1s:wpS Γ (.asgA a x b) m H S=wpE Γ b m H fun v H1=>wpE Γ a m H1 fun w H2=>r1d w x v H2 fun H'=>S .next m H':=rfl
theorem k1t:wpS Γ (.asgI a b c) m H S=wpE Γ c m H fun v H1=>wpE Γ a m H1 fun w H2=>wpE Γ b m H2 fun u H3=>l1j w u v H3 fun H4=>S .next m H4:=rfl
theorem o1v:wpS Γ (.exp a) m H S=wpE Γ a m H fun v H1=>w0p v=true∧S .next m H1:=rfl
theorem k1w{k:k0h}:wpS Γ (.whil a k) m H S=∃ n,n0e (fun m H Q=>wpE Γ a m H (asB Q)) (wpB Γ k) n m H S:=rfl
theorem k1v{t:Tgt}{k:ItK}{z:k0h}:wpS Γ (.forr t k a z) m H S=wpE Γ a m H fun src H1=>g0q k src H1 fun items ok=>i1t (wpB Γ z) t ok items m H1 S:=rfl
theorem o1w{u w:k0h}:wpS Γ (.ifs a u w) m H S=wpE Γ a m H (asB fun t H1=>if t=true then wpB Γ u m H1 S else wpB Γ w m H1 S):=rfl
theorem o1x:wpS Γ (.ret a) m H S=wpE Γ a m H fun v H1=>S (.ret v) m H1:=rfl
theorem o1u:wpS Γ .brk m H S=S .brk m H:=rfl
theorem z0h{b:Bool}:asB P (.bool b) H=P b H:=rfl
theorem e1x{n:Nat}:(gam (a0f n)).call=a0f n:=rfl
theorem e1y{n:Nat}:(gam (a0f n)).init=e0h:=rfl
theorem i1w{n:Nat}:(gam (a0f n)).glo=i0j:=rfl
theorem neg_int{i:Int}:s1j (.int i) H Q=Q (.int (-i)) H:=rfl
theorem a0i{k:Addr}{c:Nat}{fs:List a0a}{w:a0a}(h:H k=some (.inst c fs))(hf:fs[l0t c x]?=some w)(q:Q w H):z0k (.ref k) x H Q:=(Mac.i8_4 k c fs w rfl h hf q)
theorem b0s{k:Addr}{c f:Nat}{fs:List a0a}{K:Nat→a0a→Prop}(h:H k=some (.inst c fs))(hf:i0r c x=some f)(q:K f (.ref k)):methP i0r (.ref k) x H K:=(Mac.i8_4 k c fs f rfl h hf q)
theorem g0r{k:Addr}{c:Nat}{fs fs':List a0a}{v:a0a}{P:MH→Prop}(h:H k=some (.inst c fs))(hf:setField c x v fs=some fs')(q:∀ H',H' k=some (.inst c fs')→But k H H'→P H'):r1d (.ref k) x v H P:=(Mac.i8_4 k c fs fs' rfl h hf (q _ (f0p _ _ _) (But.upd _ _ _)))
theorem f1z{is:List Nat}{vs:List a0a}{m':Loc}{P:Loc→Prop}(h:b0k is vs m=some m')(q:P m'):r1l is (.tup vs) m P:=(Mac.i5_2 vs m' rfl h q)
end
local macro_rules |`(tactic|walk_at"")=>pure (Mac.sm "o1q o1h o1i o1f o1k o1g o1e r1o o1m o1j k1o o1p g1g o1o g1h o1n k1l k1m o1l k1p r1m r1n k1n o1r k1q o1d k1k o1s k1r o1t k1u k1s k1t o1v k1w k1v o1w o1x o1u f1m j1s j1t z0h e1x e1y i1w q1l q1m q1n m1q m1r m1s m1t m1u m1v neg_int getElem?_cons_zero getElem?_cons_succ set_cons_zero set_cons_succ length_cons length_nil add_int sub_int mul_int mod_int e1v h1v eq_int ne_int eq_str ne_str eq_bool lt_int gt_int ge_int m1p b1u decide_eq_true_eq")
theorem i1k{n:Nat}{p:Addr}{many:Int}{H:MH}{a b:Int}(hp:H p=some (.list [.int a,.int b]))(hm:0<many)(hm2:many<1073741824){Q:a0d}
  (q:∀ d a' b' H',0≤d→d<many→H' p=some (.list [.int a',.int b'])→But p H H'→Q (.int d) H'):a0f (n+1) 43 [.ref p,.int many] H Q:=by
 refine a0c [some (.ref p),some (.int many),none] rfl rfl ?_;have rest:∀ (H':MH) a b,H' p=some (.list [.int a,.int b])→But p H H'→wpB (gam (a0f n)) (.cons (.asg 2 (.bin .mod (.sub (.var 0) (.con (.int 0))) (.var 1)))
   (.cons (.asgI (.var 0) (.con (.int 0)) (.bin .fdiv (.sub (.var 0) (.con (.int 0))) (.var 1)))
   (.cons (.ret (.var 2)) .nil))) [some (.ref p),some (.int many),none] H' (u0o Q):=by
  intro H' a b hp' hb;refine seq ?_;walk_at"";refine d0n (k:=0) hp' (by simp[LIM]) rfl ?_;walk_at"";refine⟨by omega,by simp,?_⟩;refine seq ?_;walk_at"";refine d0n (k:=0) hp' (by simp[LIM]) rfl ?_;walk_at"";refine⟨by omega,by omega,?_⟩;refine putL (k:=0) hp' (by simp) (by simp[LIM]) fun H2 h2 b2=>d0s ?_;walk_at"";exact q _ _ _ H2 (Int.fmod_nonneg_of_pos _ hm) (Int.fmod_lt_of_pos _ hm) h2 fun c hc=>(b2 c hc).trans (hb c hc)
 refine seq ?_;walk_at"";refine d0n (k:=0) hp (by simp[LIM]) rfl ?_;walk_at"";split
 ·refine seq ?_;walk_at"";refine d0n (k:=1) hp (by simp[LIM]) rfl ?_;walk_at"";refine putL (k:=1) hp (by simp) (by simp[LIM]) fun H2 h2 b2=>seq ?_;walk_at"";refine d0n (k:=1) h2 (by simp[LIM]) rfl ?_;walk_at"";refine⟨.inl (by unfold d0c;decide),?_⟩;refine putL (k:=0) h2 (by simp) (by simp[LIM]) fun H3 h3 b3=>b0m ?_;exact rest H3 _ _ h3 fun c hc=>(b3 c hc).trans (b2 c hc)
 ·exact b0m (rest H _ _ hp fun U U=>rfl)
theorem g0o{α:Type}{r:α→α→Prop}(irr:∀ a,¬ r a a)(tr:∀ a b c,r a b→r b c→r a c):∀ {l l':List α},l.Pairwise r→l'.Pairwise r→(∀ x,x∈l↔x∈l')→l=l'
 | [],[],_,_,_=>rfl
 | [],b::t,_,_,h=>absurd ((h b).mpr (.head _)) (by simp)
 | a::l,[],_,_,h=>absurd ((h a).mp (.head _)) (by simp)
 | a::l,b::t,h1,h2,h=>by
  rw[pairwise_cons]at h1 h2;have e:a=b:=by
   rcases mem_cons.mp ((h a).mp (.head _)) with e | m1
   ·exact e
   ·rcases mem_cons.mp ((h b).mpr (.head _)) with e | m2
    ·exact e.symm
    ·exact absurd (tr _ _ _ (h1.1 b m2) (h2.1 a m1)) (irr a)
  subst e;have key:∀ x,x∈l↔x∈t:=fun x=>by
   constructor
   ·intro m;rcases mem_cons.mp ((h x).mp (.tail _ m)) with e | m'
    ·clear h2 h;subst e;exact absurd (h1.1 x m) (irr x)
    ·exact m'
   ·intro m;rcases mem_cons.mp ((h x).mpr (.tail _ m)) with e | m'
    ·clear h;subst e;exact absurd (h2.1 x m) (irr x)
    ·exact m'
  rw[g0o irr tr h1.2 h2.2 key]
theorem b0q{α:Type}[DecidableEq α]:∀ (l l':List α),l.Nodup→(∀ x∈l,x∈l')→l.length≤l'.length
 | [],_,_,_=>Nat.zero_le _
 | a::l,l',h,hs=>by
  rw[nodup_cons]at h;have ha:=hs a (.head _);have:=b0q l (l'.erase a) h.2 fun x hx=>by
   rw[List.mem_erase_of_ne]
   ·exact hs x (.tail _ hx)
   ·clear hs ha;rintro rfl;exact h.1 hx
  rw[List.length_erase_of_mem ha]at this;have hp:0<l'.length:=length_pos_of_mem ha;rw[length_cons];omega
noncomputable def h1h{α:Type}:List α→List (List α)
 | []=>[[]]
 | a::l=>h1h l++(h1h l).map (a::·)
theorem q0i{α:Type}:∀ l:List α,(h1h l).length=2 ^ l.length
 | []=>rfl
 | a::l=>by rw[h1h,length_append,lmp,q0i l,length_cons,Nat.pow_succ];omega
theorem d0y{α:Type}(p:α→Bool):∀ l:List α,l.filter p∈h1h l
 | []=>.head _
 | a::l=>by
  rw[filter_cons,h1h,mem_append];split
  ·exact .inr (mem_map.mpr (Mac.i3_1 _ (d0y p l) rfl))
  ·exact .inl (d0y p l)
abbrev a0n:=Nat×Nat
set_option genCtorIdx false in
structure PG where
 nm:List Str
 rs:List (Nat×List Nat)
namespace PG
variable (G:PG)
noncomputable def rt(n:Nat):List Nat:=((G.rs[n]?).map (·.2)).getD []
noncomputable def lf(n:Nat):Nat:=((G.rs[n]?).map (·.1)).getD 0
noncomputable def off(n:Nat):Nat:=((G.rs.take n).map fun r=>r.2.length+1).sum
noncomputable def num(p:a0n):Nat:=G.off p.1+p.2
def val(p:a0n):Prop:=p.1<G.rs.length∧p.2≤(G.rt p.1).length
noncomputable def nxt(p:a0n):Option Nat:=(G.rt p.1)[p.2]?
noncomputable def all:List a0n:=(List.range G.rs.length).flatMap fun n=>(List.range ((G.rt n).length+1)).map fun d=>(n,d)
end PG
def ltI(p q:a0n):Prop:=p.1<q.1∨p.1=q.1∧p.2<q.2
theorem b1n(a:a0n):¬ ltI a a:=by unfold ltI;omega
theorem n1c(a b c:a0n):ltI a b→ltI b c→ltI a c:=fun h k=>h.elim (fun h=>k.elim (fun k=>.inl (Nat.lt_trans h k)) fun k=>.inl (k.1▸h)) fun h=>k.elim (fun k=>.inl (h.1▸k)) fun k=>.inr ⟨h.1.trans k.1,Nat.lt_trans h.2 k.2⟩
theorem i0l{l l':List a0n}(h:l.Pairwise ltI)(h':l'.Pairwise ltI)(e:∀ x,x∈l↔x∈l'):l=l':=g0o b1n n1c h h' e
inductive Cl(G:PG) (S:a0n→Prop):a0n→Prop
 | base {p:a0n}:S p→Cl G S p
 | step {p:a0n} {x m:Nat}:Cl G S p→G.nxt p=some x→m<G.rs.length→G.lf m=x→Cl G S (m,0)
section
variable (G:PG)
theorem j0i{p:a0n}:p∈G.all↔G.val p:=by
 obtain⟨n,d⟩:=p;unfold PG.all PG.val;rw[mem_flatMap];constructor
 ·rintro⟨m,hm,h⟩;obtain⟨e,he,h⟩:=mem_map.mp h;cases h;rw[mem_range]at hm he;exact⟨hm,Nat.le_of_lt_succ he⟩
 ·rintro⟨h1,h2⟩;exact⟨n,mem_range.mpr h1,mem_map.mpr (Mac.i3_1 d (mem_range.mpr (Nat.lt_succ_of_le h2)) rfl)⟩
theorem pairwise_flatMap{α β:Type}{r:β→β→Prop}{f:α→List β}{s:α→α→Prop}(h1:∀ a,(f a).Pairwise r)(h2:∀ a b,s a b→∀ x∈f a,∀ y∈f b,r x y):∀ {l:List α},l.Pairwise s→(l.flatMap f).Pairwise r
 | [],_=>.nil
 | a::l,h=>by
  rw[pairwise_cons]at h;rw[flatMap_cons,pairwise_append];refine⟨h1 a,pairwise_flatMap h1 h2 h.2,fun x hx y hy=>?_⟩;obtain⟨b,hb,hy⟩:=mem_flatMap.mp hy;exact h2 a b (h.1 b hb) x hx y hy
theorem o0y:G.all.Pairwise ltI:=by
 refine pairwise_flatMap (s:=(·<·)) (fun n=>?_) (fun a b hab x hx y hy=>?_) pairwise_lt_range
 ·rw[pairwise_map];exact List.Pairwise.imp (fun h=>.inr ⟨rfl,h⟩) pairwise_lt_range
 ·obtain⟨d,U,rfl⟩:=mem_map.mp hx;obtain⟨e,U,rfl⟩:=mem_map.mp hy;exact .inl hab
theorem l0d{n:Nat}(h:n<G.rs.length):G.off (n+1)=G.off n+((G.rt n).length+1):=by
 unfold PG.off;rw[tsg h,map_append,sum_append];unfold PG.rt;rw[geg h];simp
theorem l0c{n m:Nat}(h:n<m)(hm:m≤G.rs.length):G.off n+(G.rt n).length+1≤G.off m:=by
 induction m with
 | zero=>omega
 | succ m ih=>
  rw[l0d G (by omega)];by_cases e:n=m
  ·clear ih h hm;subst e;omega
  ·have:=ih (by omega) (by omega);omega
theorem b1v{p q:a0n}(hp:G.val p)(hq:G.val q)(h:ltI p q):G.num p<G.num q:=by
 obtain⟨n,d⟩:=p;obtain⟨m,e⟩:=q;unfold PG.num;unfold PG.val at hp hq;rcases h with h | ⟨h,h2⟩
 ·have:=l0c G h (by have:=hq.1;dsimp only at this;omega);dsimp only at *;omega
 ·dsimp only at *;clear hq;subst h;omega
theorem g0c{p q:a0n}(hp:G.val p)(hq:G.val q)(h:G.num p=G.num q):p=q:=by
 obtain⟨n,d⟩:=p;obtain⟨m,e⟩:=q;by_cases h1:ltI (n,d) (m,e)
 ·have:=b1v G hp hq h1;omega
 ·by_cases h2:ltI (m,e) (n,d)
  ·have:=b1v G hq hp h2;omega
  ·unfold ltI at h1 h2;dsimp only at h1 h2;have:n=m:=by omega
   clear hq h;subst this;have:d=e:=by omega
   clear h1 h2;subst this;rfl
end
open Classical in
noncomputable def clo(G:PG)(K:List a0n):List a0n:=G.all.filter fun p=>decide (Cl G (·∈K) p)
noncomputable def ovr(G:PG)(C:List a0n)(x:Nat):List a0n:=G.all.filter fun p=>decide (0<p.2)&&decide ((p.1,p.2-1)∈C)&&decide (G.nxt (p.1,p.2-1)=some x)
noncomputable def nxs(G:PG)(C:List a0n):List Nat:=(List.range G.nm.length).filter fun x=>C.any fun p=>decide (G.nxt p=some x)
section
variable {G:PG}
theorem z0z{S:a0n→Prop}(h:∀ p,S p→G.val p){p:a0n}(c:Cl G S p):G.val p:=by
 cases c with
 | base s=>exact h _ s
 | step c e hm el=>exact⟨hm,Nat.zero_le _⟩
open Classical in
theorem h0i{K:List a0n}(h:∀ p∈K,G.val p){p:a0n}:p∈clo G K↔Cl G (·∈K) p:=by
 unfold clo;rw[mem_filter,j0i];exact⟨fun h=>of_decide_eq_true h.2,fun c=>⟨z0z h c,decide_eq_true c⟩⟩
theorem j0a(K:List a0n):(clo G K).Pairwise ltI:=(o0y G).sublist filter_sublist
theorem b0p{K:List a0n}:∀ p∈clo G K,G.val p:=fun p hp=>(j0i G).mp (mem_filter.mp hp).1
theorem f0h{C:List a0n}{x:Nat}{p:a0n}:p∈ovr G C x↔G.val p∧0<p.2∧(p.1,p.2-1)∈C∧G.nxt (p.1,p.2-1)=some x:=by
 unfold ovr;rw[mem_filter,j0i,Bool.and_eq_true,Bool.and_eq_true,decide_eq_true_eq,decide_eq_true_eq,decide_eq_true_eq,and_assoc]
theorem u0l(C:List a0n)(x:Nat):(ovr G C x).Pairwise ltI:=(o0y G).sublist filter_sublist
theorem o0h{p:a0n}{x:Nat}(h:G.nxt p=some x):p.2<(G.rt p.1).length:=(gsm h).1
theorem q0c{p:a0n}{x:Nat}(h:G.nxt p=some x):p.1<G.rs.length:=by
 have:=o0h h;unfold PG.rt at this;apply Nat.lt_of_not_le;intro z;rw[getElem?_eq_none z]at this;simp at this
theorem k0y{C:List a0n}{x n d:Nat}:(n,d+1)∈ovr G C x↔(n,d)∈C∧G.nxt (n,d)=some x:=by
 rw[f0h];constructor
 ·rintro⟨U,U,h1,h2⟩;exact⟨h1,h2⟩
 ·rintro⟨h1,h2⟩;exact⟨⟨q0c (p:=(n,d)) h2,o0h (p:=(n,d)) h2⟩,Nat.succ_pos _,h1,h2⟩
theorem h0j{C:List a0n}{x:Nat}:x∈nxs G C↔x<G.nm.length∧∃ p∈C,G.nxt p=some x:=by
 unfold nxs;rw[mem_filter,mem_range,any_eq_true];simp only[decide_eq_true_eq]
theorem j0k(C:List a0n):(nxs G C).Pairwise (·<·):=pairwise_lt_range.sublist filter_sublist
end
structure WF(G:PG):Prop where
 nd:G.nm.Nodup
 pos:0<G.rs.length
 lfs:∀ n,n<G.rs.length→G.lf n<G.nm.length
 rts:∀ p x,G.nxt p=some x→x<G.nm.length∧x≠G.lf 0
 small:G.all.length≤24
 rl:∀ n,(G.rt n).length≤3
 nl:G.nm.length≤20
 so:∀ s∈G.nm,PyData.strOk s=true
noncomputable def Ker(G:PG)(K:List a0n):Option Nat→Prop
 | none=>K=[(0,0)]
 | some x=>K≠[]∧K.Pairwise ltI∧∀ p∈K,G.val p∧0<p.2∧G.nxt (p.1,p.2-1)=some x
section
variable {G:PG}(W:WF G)
include W
theorem Ker.val{K:List a0n}{y:Option Nat}(h:Ker G K y):∀ p∈K,G.val p:=by
 cases y with
 | none=>
  rw[show K=[(0,0)] from h];intro p hp;rw[mem_singleton]at hp;subst hp;exact⟨W.pos,Nat.zero_le _⟩
 | some x=>exact fun p hp=>(h.2.2 p hp).1
omit W in
theorem Ker.srt{K:List a0n}{y:Option Nat}(h:Ker G K y):K.Pairwise ltI:=by
 cases y with
 | none=>rw[show K=[(0,0)] from h];exact pairwise_singleton _ _
 | some x=>exact h.2.1
theorem Ker.back{K:List a0n}{y:Option Nat}(h:Ker G K y){p:a0n}:p∈K↔p∈clo G K∧(0<p.2∨p.1=0):=by
 rw[h0i (Ker.val W h)];constructor
 ·intro hp;refine⟨.base hp,?_⟩;cases y with
  | none=>
   rw[show K=[(0,0)] from h,mem_singleton]at hp;subst hp;exact .inr rfl
  | some x=>exact .inl (h.2.2 p hp).2.1
 ·rintro⟨c,hz⟩;cases c with
  | base s=>exact s
  | step c e hm el=>
   rcases hz with hz | hz
   ·exact absurd hz (Nat.lt_irrefl _)
   ·dsimp only at hz;clear hm;subst hz;exact absurd el.symm (W.rts _ _ e).2
omit W in
theorem p0v{K:List a0n}{x:Nat}(h:x∈nxs G (clo G K)):Ker G (ovr G (clo G K) x) (some x):=by
 obtain⟨U,p,hp,e⟩:=h0j.mp h;refine⟨?_,u0l _ _,fun q hq=>?_⟩
 ·have:(p.1,p.2+1)∈ovr G (clo G K) x:=k0y.mpr ⟨hp,e⟩;exact ne_nil_of_mem this
 ·obtain⟨h1,h2,h3,h4⟩:=f0h.mp hq;exact⟨h1,h2,h4⟩
theorem i1d{K K':List a0n}{y y':Option Nat}(h:Ker G K y)(h':Ker G K' y')(e:clo G K=clo G K'):K=K':=
 i0l h.srt h'.srt fun p=>by rw[Ker.back W h,Ker.back W h',e]
omit W in
theorem j1c{K:List a0n}{y y':Option Nat}(h:Ker G K y)(h':Ker G K y'):y=y':=by
 cases y with
 | none=>
  cases y' with
  | none=>rfl
  | some x=>
   have:=(h'.2.2 (0,0) (by rw[show K=[(0,0)] from h];exact .head _)).2.1;exact absurd this (Nat.lt_irrefl _)
 | some x=>
  cases y' with
  | none=>
   have:=(h.2.2 (0,0) (by rw[show K=[(0,0)] from h'];exact .head _)).2.1;exact absurd this (Nat.lt_irrefl _)
  | some x'=>
   obtain⟨p,hp⟩:=exists_mem_of_ne_nil _ h.1;have a:=(h.2.2 p hp).2.2;have b:=(h'.2.2 p hp).2.2;rw[a]at b;exact b
theorem i0m{Ks:List (List a0n)}(h:∀ K∈Ks,∃ y,Ker G K y)(n:Ks.Nodup):Ks.length≤LIM:=by
 have h1:=b0q Ks (h1h G.all) n fun K hK=>by
  obtain⟨y,hk⟩:=h K hK;have:G.all.filter (fun p=>decide (p∈K))=K:=i0l ((o0y G).sublist filter_sublist) hk.srt fun p=>by
   rw[mem_filter,j0i,decide_eq_true_eq];exact⟨fun h=>h.2,fun hp=>⟨Ker.val W hk p hp,hp⟩⟩
  rw[← this];exact d0y _ _
 rw[q0i]at h1;have h2:2 ^ G.all.length≤2 ^ 24:=Nat.pow_le_pow_right (by decide) W.small;have:(2:Nat) ^ 24=LIM:=by decide
 omega
end
set_option genCtorIdx false in
structure BS where
 Ks:List (List a0n)
 ys:List (Option Nat)
 ms:List (List (Nat×Nat))
abbrev KYR:=List (List a0n)×List (Option Nat)×List (Nat×Nat)
noncomputable def s0w(G:PG)(C:List a0n)(st:KYR)(x:Nat):KYR:=
 if ovr G C x∈st.1 then(st.1,st.2.1,st.2.2++[(x,st.1.idxOf (ovr G C x))]) else(st.1++[ovr G C x],st.2.1++[some x],st.2.2++[(x,st.1.length)])
noncomputable def fk(G:PG)(C:List a0n)(Ks:List (List a0n))(ys:List (Option Nat))(xs:List Nat):KYR:=xs.foldl (s0w G C) (Ks,ys,[])
theorem t0t{G:PG}{C:List a0n}{Ks:List (List a0n)}{ys:List (Option Nat)}(xs:List Nat)(x:Nat):fk G C Ks ys (xs++[x])=s0w G C (fk G C Ks ys xs) x:=by
 unfold fk;rw[foldl_append];rfl
noncomputable def q0h(G:PG)(b:BS):BS:=match b.Ks[b.ms.length]? with
 | none=>b
 | some K=>let r:=fk G (clo G K) b.Ks b.ys (nxs G (clo G K));⟨r.1,r.2.1,b.ms++[r.2.2]⟩
noncomputable def bs(G:PG):Nat→BS
 | 0=>⟨[[(0,0)]],[none],[]⟩
 | n+1=>q0h G (bs G n)
structure Good(G:PG)(Ks:List (List a0n))(ys:List (Option Nat)):Prop where
 len:ys.length=Ks.length
 ker:∀ (i:Nat) K y,Ks[i]?=some K→ys[i]?=some y→Ker G K y
 nd:Ks.Nodup
 hd:Ks[0]?=some [(0,0)]
 hy:ys[0]?=some none
def q0r(G:PG)(C:List a0n)(Ks:List (List a0n))(xs:List Nat)(row:List (Nat×Nat)):Prop:=row.map (·.1)=xs∧∀ x j,(x,j)∈row→Ks[j]?=some (ovr G C x)
section
variable {G:PG}
theorem Good.kerOf{Ks:List (List a0n)}{ys:List (Option Nat)}(g:Good G Ks ys){K:List a0n}(h:K∈Ks):∃ y,Ker G K y:=by
 obtain⟨i,hi,e⟩:=getElem_of_mem h;have hy:i<ys.length:=by rw[g.len];exact hi
 exact⟨ys[i],g.ker i K _ (by rw[geg hi,e]) (geg hy)⟩
theorem q0r.mono{C:List a0n}{Ks t:List (List a0n)}{xs:List Nat}{row:List (Nat×Nat)}(r:q0r G C Ks xs row):q0r G C (Ks++t) xs row:=
 ⟨r.1,fun x j h=>by
  have:=r.2 x j h;rw[getElem?_append_left (gsm this).1];exact this⟩
theorem a1v{α:Type}[BEq α][LawfulBEq α]{l:List α}{a:α}(h:a∈l):l[l.idxOf a]?=some a:=by
 have hl:=idxOf_lt_length_of_mem h;rw[geg hl,getElem_idxOf]
set_option tactic.hygienic true in
theorem o0u{K:List a0n}{Ks:List (List a0n)}{ys:List (Option Nat)}{row:List (Nat×Nat)}{xs:List Nat}{x:Nat}(g:Good G Ks ys)(r:q0r G (clo G K) Ks xs row)(hx:x∈nxs G (clo G K)) :
  Good G (s0w G (clo G K) (Ks,ys,row) x).1 (s0w G (clo G K) (Ks,ys,row) x).2.1∧q0r G (clo G K) (s0w G (clo G K) (Ks,ys,row) x).1 (xs++[x]) (s0w G (clo G K) (Ks,ys,row) x).2.2∧
   ∃ t,(s0w G (clo G K) (Ks,ys,row) x).1=Ks++t:=by
 unfold s0w;dsimp only;split
 ·rename_i hm;refine⟨g,⟨by rw[map_append,r.1];rfl,fun x' j h=>?_⟩,[],(append_nil _).symm⟩;rcases mem_append.mp h with h | h
  ·exact r.2 x' j h
  ·rw[mem_singleton]at h;cases h;exact a1v hm
 ·rename_i hm;refine⟨⟨by simp[g.len],fun i K' y hk hy=>?_,?_,?_,?_⟩,⟨by rw[map_append,r.1];rfl,fun x' j h=>?_⟩,[_],rfl⟩
  ·by_cases hi:i<Ks.length
   ·rw[getElem?_append_left hi]at hk;rw[getElem?_append_left (by rw[g.len];exact hi)]at hy;exact g.ker i K' y hk hy
   ·rw[getElem?_append_right (by omega)]at hk;rw[getElem?_append_right (by rw[g.len];omega)]at hy;have:i-Ks.length=0:=by have:=(gsm hk).1;simp at this;omega
    rw[this]at hk;rw[g.len,this]at hy;cases hk;cases hy;exact p0v hx
  ·rw[nodup_append];refine⟨g.nd,by simp,fun a ha b hb e=>?_⟩;rw[mem_singleton]at hb;subst hb;exact hm (e▸ha)
  ·rw[getElem?_append_left (gsm g.hd).1];exact g.hd
  ·rw[getElem?_append_left (gsm g.hy).1];exact g.hy
  ·rcases mem_append.mp h with h | h
   ·exact(q0r.mono (t:=[ovr G (clo G K) x]) r).2 x' j h
   ·rw[mem_singleton]at h;cases h;rw[getElem?_append_right (Nat.le_refl _),Nat.sub_self];rfl
theorem p0n{K:List a0n}{Ks:List (List a0n)}{ys:List (Option Nat)}(g:Good G Ks ys):∀ (i:Nat),i≤(nxs G (clo G K)).length→
  Good G (fk G (clo G K) Ks ys ((nxs G (clo G K)).take i)).1 (fk G (clo G K) Ks ys ((nxs G (clo G K)).take i)).2.1∧q0r G (clo G K) (fk G (clo G K) Ks ys ((nxs G (clo G K)).take i)).1 ((nxs G (clo G K)).take i) (fk G (clo G K) Ks ys ((nxs G (clo G K)).take i)).2.2∧
   ∃ t,(fk G (clo G K) Ks ys ((nxs G (clo G K)).take i)).1=Ks++t
 | 0,_=>⟨g,⟨rfl,fun U U h=>nomatch h⟩,[],(append_nil _).symm⟩
 | i+1,h=>by
  obtain⟨a,b,t,c⟩:=p0n (K:=K) g i (by omega);rw[tsg (by omega),t0t];obtain⟨a',b',t',c'⟩:=o0u a b (x:=(nxs G (clo G K))[i]) (getElem_mem _);exact⟨a',b',t++t',by rw[← append_assoc,←c];exact c'⟩
structure p1l(G:PG)(b:BS):Prop where
 g:Good G b.Ks b.ys
 le:b.ms.length≤b.Ks.length
 row:∀ (i:Nat) r K,b.ms[i]?=some r→b.Ks[i]?=some K→q0r G (clo G K) b.Ks (nxs G (clo G K)) r
set_option tactic.hygienic true in
theorem f1v{b:BS}(h:p1l G b):p1l G (q0h G b):=by
 unfold q0h;split
 ·exact h
 ·rename_i K hK;obtain⟨a,r,t,c⟩:=p0n (K:=K) h.g (nxs G (clo G K)).length (Nat.le_refl _);rw[take_length]at a r c;have hlt:=(gsm hK).1;refine⟨a,?_,fun i r' K' hr hk=>?_⟩
  ·dsimp only;rw[c,length_append,length_append,length_singleton];omega
  ·dsimp only at hr hk ⊢;by_cases hi:i<b.ms.length
   ·rw[getElem?_append_left hi]at hr;rw[c,getElem?_append_left (by omega)]at hk;rw[c];exact(h.row i r' K' hr hk).mono
   ·rw[getElem?_append_right (by omega)]at hr;have:i-b.ms.length=0:=by have:=(gsm hr).1;simp at this;omega
    have hi':i=b.ms.length:=by omega
    subst hi';rw[this]at hr;cases hr;rw[c,getElem?_append_left hlt,hK]at hk;cases hk;exact r
theorem v0i:∀ n,p1l G (bs G n)
 | 0=>⟨⟨rfl,fun i K y hk hy=>by
   cases i with
   | zero=>cases hk;cases hy;rfl
   | succ i=>simp[bs]at hk,by simp[bs],rfl,rfl⟩,Nat.zero_le _,fun i r K hr=>by simp[bs]at hr⟩
 | n+1=>f1v (v0i n)
theorem z0x{n:Nat}(h:(bs G n).ms.length=(bs G n).Ks.length):∀ k,bs G (n+k)=bs G n
 | 0=>rfl
 | k+1=>by
  show q0h G (bs G (n+k))=_;rw[z0x h k];unfold q0h;rw[getElem?_eq_none (by omega)]
def h1r(G:PG)(b:BS):Prop:=∃ n,b=bs G n∧b.ms.length=b.Ks.length
theorem x0y{b b':BS}(h:h1r G b)(h':h1r G b'):b=b':=by
 obtain⟨n,rfl,e⟩:=h;obtain⟨n',rfl,e'⟩:=h';rcases Nat.le_total n n' with l | l
 ·clear e';obtain⟨k,rfl⟩:=Nat.exists_eq_add_of_le l;exact(z0x e k).symm
 ·clear e;obtain⟨k,rfl⟩:=Nat.exists_eq_add_of_le l;exact z0x e' k
structure d0a(G:PG)(b:BS):Prop where
 i:p1l G b
 e:b.ms.length=b.Ks.length
theorem h1r.whole{b:BS}(h:h1r G b):d0a G b:=by
 obtain⟨n,rfl,e⟩:=h;exact⟨v0i n,e⟩
theorem d0a.row{b:BS}(h:d0a G b){i:Nat}{r:List (Nat×Nat)}(hr:b.ms[i]?=some r):∃ K,b.Ks[i]?=some K∧r.map (·.1)=nxs G (clo G K)∧∀ x j,(x,j)∈r→b.Ks[j]?=some (ovr G (clo G K) x):=by
 have hi:=(gsm hr).1;obtain⟨K,hk⟩:∃ K,b.Ks[i]?=some K:=⟨_,geg (by rw[← h.e];exact hi)⟩;exact⟨K,hk,h.i.row i r _ hr hk⟩
theorem d0a.lt{b:BS}(h:d0a G b){i:Nat}{r:List (Nat×Nat)}(hr:b.ms[i]?=some r){x j:Nat}(hx:(x,j)∈r):j<b.ms.length:=by
 obtain⟨K,U,U,z⟩:=h.row hr;rw[h.e];exact(gsm (z x j hx)).1
theorem d0a.asc{b:BS}(h:d0a G b){i:Nat}{r:List (Nat×Nat)}(hr:b.ms[i]?=some r):(r.map (·.1)).Pairwise (·<·):=by
 obtain⟨K,U,e,U⟩:=h.row hr;rw[e];exact j0k _
theorem d0a.inj{b:BS}(h:d0a G b){i:Nat}{r:List (Nat×Nat)}(hr:b.ms[i]?=some r){x x' j:Nat}(h1:(x,j)∈r)(h2:(x',j)∈r):x=x':=by
 obtain⟨K,U,e,z⟩:=h.row hr;have m1:x∈nxs G (clo G K):=e▸mem_map.mpr (Mac.i3_1 _ h1 rfl);have m2:x'∈nxs G (clo G K):=e▸mem_map.mpr (Mac.i3_1 _ h2 rfl);have z1:=z x j h1;have z2:=z x' j h2;rw[z1]at z2;have:=j1c (p0v m1) (by rw[Option.some.inj z2];exact p0v m2);exact Option.some.inj this
theorem d0a.bound{b:BS}(W:WF G)(h:d0a G b):b.Ks.length≤LIM:=i0m W (fun K hK=>h.i.g.kerOf hK) h.i.g.nd
end
noncomputable def lx(p q:List Nat):Bool:=decide (p<q)
theorem n1h:∀ p q:List Nat,(p.map fun(n:Nat)=>(n:Int))<(q.map fun(n:Nat)=>(n:Int))↔p<q:=by
 intro p
 induction p with
 | nil=>
  intro q;cases q with
  | nil=>exact⟨fun h=>(nomatch h),fun h=>(nomatch h)⟩
  | cons b q=>exact⟨fun U=>.nil,fun U=>.nil⟩
 | cons a p ih=>
  intro q;cases q with
  | nil=>exact⟨fun h=>(nomatch h),fun h=>(nomatch h)⟩
  | cons b q=>exact cons_lt_cons_iff.trans ((or_congr Int.ofNat_lt (and_congr Int.ofNat_inj (ih q))).trans cons_lt_cons_iff.symm)
theorem j1m(p q:List Nat):j0y (p.map fun(n:Nat)=>(n:Int)) (q.map fun(n:Nat)=>(n:Int))=lx p q:=decide_eq_decide.mpr (n1h p q)
theorem n1f(p:List Nat):lx p p=false:=decide_eq_false (List.lt_irrefl p)
theorem q1u{p q s:List Nat}(h1:lx p q=true)(h2:lx q s=true):lx p s=true:=decide_eq_true (List.lt_trans (of_decide_eq_true h1) (of_decide_eq_true h2))
theorem n1g{p q:List Nat}(n:p≠q):lx p q=true∨lx q p=true:=by
 by_cases h:p<q
 ·exact .inl (decide_eq_true h)
 ·exact .inr (decide_eq_true ((List.le_iff_lt_or_eq.mp h).resolve_right fun z=>n z.symm))
theorem l1q{x y:Nat}:∀ {p q:List Nat},p.length=q.length→p<q→p++[x]<q++[y]:=by
 intro p
 induction p with
 | nil=>intro q h l;rw[length_eq_zero_iff.mp h.symm]at l;cases l
 | cons a p ih=>
  intro q h l;cases q with
  | nil=>cases h
  | cons b q=>exact cons_lt_cons_iff.mpr ((cons_lt_cons_iff.mp l).imp id fun z=>⟨z.1,ih (Nat.succ.inj h) z.2⟩)
theorem n1e(p q:List Nat)(x y:Nat)(h:p.length=q.length)(l:lx p q=true):lx (p++[x]) (q++[y])=true:=decide_eq_true (l1q h (of_decide_eq_true l))
theorem j1n(p:List Nat)(x y:Nat)(h:x<y):lx (p++[x]) (p++[y])=true:=decide_eq_true (List.append_left_lt (cons_lt_cons_iff.mpr (.inl h)))
def slt(p q:List Nat):Prop:=p.length<q.length∨p.length=q.length∧lx p q=true
def sle(p q:List Nat):Prop:=p=q∨slt p q
theorem k1b(p:List Nat):¬ slt p p:=by
 rintro(h | ⟨_,h⟩)
 ·omega
 ·rw[n1f]at h;cases h
theorem h1d{p q s:List Nat}(h1:slt p q)(h2:slt q s):slt p s:=by
 rcases h1 with h1 | ⟨e1,h1⟩ <;> rcases h2 with h2 | ⟨e2,h2⟩
 ·exact .inl (by omega)
 ·exact .inl (by omega)
 ·exact .inl (by omega)
 ·exact .inr ⟨by omega,q1u h1 h2⟩
theorem k1c{p q:List Nat}(h:p≠q):slt p q∨slt q p:=by
 rcases Nat.lt_trichotomy p.length q.length with l | l | l
 ·exact .inl (.inl l)
 ·rcases n1g h with z | z
  ·exact .inl (.inr ⟨l,z⟩)
  ·exact .inr (.inr ⟨l.symm,z⟩)
 ·exact .inr (.inl l)
theorem c1v{p q:List Nat}(h:slt p q)(x y:Nat):slt (p++[x]) (q++[y]):=by
 rcases h with h | ⟨e,h⟩
 ·exact .inl (by simp;omega)
 ·exact .inr ⟨by simp;omega,n1e _ _ x y e h⟩
theorem f1u(p:List Nat){x y:Nat}(h:x<y):slt (p++[x]) (p++[y]):=.inr ⟨by simp,j1n p x y h⟩
theorem f1t(p:List Nat):sle p p:=.inl rfl
theorem h1c{p q s:List Nat}(h1:sle p q)(h2:sle q s):sle p s:=by
 rcases h1 with rfl | h1
 ·exact h2
 ·rcases h2 with rfl | h2
  ·exact .inr h1
  ·exact .inr (h1d h1 h2)
theorem f1s{p q:List Nat}(h1:sle p q)(h2:sle q p):p=q:=by
 rcases h1 with rfl | h1
 ·rfl
 ·rcases h2 with rfl | h2
  ·rfl
  ·exact absurd (h1d h1 h2) (k1b _)
theorem k1a{p q:List Nat}(h:sle p q)(x:Nat):sle (p++[x]) (q++[x]):=by
 rcases h with rfl | h
 ·exact .inl rfl
 ·exact .inr (c1v h x x)
theorem y0j{p q:List Nat}(h:¬ slt q p):sle p q:=by
 by_cases e:p=q
 ·exact .inl e
 ·exact .inr ((k1c e).resolve_right h)
abbrev i0y:=List (List (Nat×Nat))
abbrev c0s:=List (Option (List Nat))
structure d1r(ms:i0y)(o:Nat)(f:c0s):Prop where
 len:f.length=ms.length
 f1:f[o]?=some (some [])
 f2:∀ (s:Nat) p r x g,f[s]?=some (some p)→ms[s]?=some r→(x,g)∈r→∃ p',f[g]?=some (some p')∧sle p' (p++[x])
 f3:∀ (j:Nat) p,f[j]?=some (some p)→(j=o∧p=[])∨∃ (s:Nat),∃ q r x,f[s]?=some (some q)∧ms[s]?=some r∧(x,j)∈r∧p=q++[x]
theorem a1q{ms:i0y}{o:Nat}{f f':c0s}(a:d1r ms o f)(b:d1r ms o f'):∀ (n j:Nat) p,p.length=n→f[j]?=some (some p)→∃ p',f'[j]?=some (some p')∧sle p' p:=by
 intro n
 induction n with
 | zero=>
  intro j p hn h;rcases a.f3 j p h with⟨h1,h2⟩ | ⟨s,q,r,x,h1,h2,h3,h4⟩
  ·clear a;subst h1;clear hn h;subst h2;exact⟨[],b.f1,f1t _⟩
  ·rw[h4,length_append]at hn;exact absurd hn (Nat.succ_ne_zero _)
 | succ n ih=>
  intro j p hn h;rcases a.f3 j p h with⟨h1,h2⟩ | ⟨s,q,r,x,h1,h2,h3,h4⟩
  ·rw[h2]at hn;cases hn
  ·clear h;subst h4;rw[length_append]at hn;obtain⟨q',e1,l1⟩:=ih s q (Nat.succ.inj hn) h1;obtain⟨p',e2,l2⟩:=b.f2 s q' r x j e1 h2 h3;exact⟨p',e2,h1c l2 (k1a l1 x)⟩
theorem o0b{ms:i0y}{o:Nat}{f f':c0s}(a:d1r ms o f)(b:d1r ms o f'):f=f':=by
 apply ext_getElem?;intro j;by_cases hj:j<ms.length
 ·have h1:j<f.length:=by rw[a.len];exact hj
  have h2:j<f'.length:=by rw[b.len];exact hj
  rw[geg h1,geg h2]
  congr 1
  cases e1:f[j] with
  | none=>
   cases e2:f'[j] with
   | none=>rfl
   | some p=>
    obtain⟨p',z,U⟩:=a1q b a _ j p rfl (by rw[geg h2,e2]);rw[geg h1,e1]at z;cases z
  | some p=>
   obtain⟨p',z,l⟩:=a1q a b _ j p rfl (by rw[geg h1,e1]);obtain⟨p'',z',l'⟩:=a1q b a _ j p' rfl z;rw[geg h1,e1]at z';cases z';rw[geg h2]at z;rw[Option.some.inj z,f1s l' l]
 ·rw[getElem?_eq_none (by rw[a.len];omega),getElem?_eq_none (by rw[b.len];omega)]
noncomputable abbrev a0b(n:Nat):a0a:=.int (n:Int)
namespace PG
variable (G:PG)
noncomputable def own:List Nat:=(List.range G.rs.length).flatMap fun n=>List.replicate ((G.rt n).length+1) n
noncomputable def by_(s:Nat):List Nat:=(List.range G.rs.length).filter fun n=>G.lf n == s
end PG
section
variable (G:PG)
theorem f0j:∀ k,k≤G.rs.length→((List.range k).flatMap fun n=>List.replicate ((G.rt n).length+1) n).length=G.off k
 | 0,_=>rfl
 | k+1,h=>by
  rw[range_succ,flatMap_append,length_append,f0j k (by omega),l0d G (by omega)];simp
theorem j1w:G.own.length=G.off G.rs.length:=f0j G _ (Nat.le_refl _)
theorem g1z:∀ k,k≤G.rs.length→∀ n d,n<k→d≤(G.rt n).length→((List.range k).flatMap fun n=>List.replicate ((G.rt n).length+1) n)[G.off n+d]?=some n
 | 0,_,n,d,h,_=>by omega
 | k+1,hk,n,d,h,hd=>by
  rw[range_succ,flatMap_append];have hl:=f0j G k (by omega);by_cases e:n<k
  ·have hm:=l0c G e (by omega);rw[getElem?_append_left (by rw[hl];omega)];exact g1z k (by omega) n d e hd
  ·have e':n=k:=by omega
   clear hk h e;subst e';rw[getElem?_append_right (by rw[hl];omega),hl];simp only[flatMap_cons,List.flatMap_nil,append_nil];rw[getElem?_replicate,if_pos (by omega)]
theorem c1c{p:a0n}(h:G.val p):G.own[G.num p]?=some p.1:=g1z G _ (Nat.le_refl _) p.1 p.2 h.1 h.2
theorem v0c:∀ k,k≤G.rs.length→((List.range k).flatMap fun n=>(List.range ((G.rt n).length+1)).map fun d=>(n,d)).length=G.off k
 | 0,_=>rfl
 | k+1,h=>by
  rw[range_succ,flatMap_append,length_append,v0c k (by omega),l0d G (by omega)];simp
theorem o0x:G.all.length=G.off G.rs.length:=v0c G _ (Nat.le_refl _)
theorem b1x:∀ k,k≤G.rs.length→k≤G.off k
 | 0,_=>Nat.zero_le _
 | k+1,h=>by rw[l0d G (by omega)];have:=b1x k (by omega);omega
end
section
variable {G:PG}(W:WF G)
include W
theorem WF.rn:G.rs.length≤24:=by have:=W.small;rw[o0x]at this;have:=b1x G _ (Nat.le_refl _);omega
theorem WF.on:G.own.length≤24:=by rw[j1w,←o0x];exact W.small
end
set_option genCtorIdx false in
structure GHd where
 nm:Addr
 rl:Addr
 bl:Addr
 of:Addr
 ow:Addr
 rs:List Addr
 bs:List Addr
 tc:a0a
 lv:a0a
 ex:a0a
 st:a0a
 ic:a0a
structure GH(H:MH)(g:Addr)(G:PG)(D:GHd):Prop where
 g:H g=some (.inst 5 [.ref D.nm,D.tc,.ref D.rl,D.lv,D.ex,D.st,.ref D.bl,.ref D.of,.ref D.ow,D.ic])
 nm:H D.nm=some (.list (G.nm.map .str))
 rl:H D.rl=some (.list (D.rs.map .ref))
 rn:D.rs.length=G.rs.length
 r:∀ i a,D.rs[i]?=some a→∃ rest,H a=some (.inst 4 (a0b i::a0b (G.lf i)::.tup ((G.rt i).map a0b)::rest))
 bl:H D.bl=some (.list (D.bs.map .ref))
 bn:D.bs.length=G.nm.length
 b:∀ s a,D.bs[s]?=some a→H a=some (.list ((G.by_ s).map a0b))
 of:H D.of=some (.list ((List.range G.rs.length).map fun i=>a0b (G.off i)))
 ow:H D.ow=some (.list (G.own.map a0b))
theorem GH.ext{H H':MH}{g:Addr}{G:PG}{D:GHd}(h:GH H g G D)(e:Ext H H'):GH H' g G D:=
 ⟨e _ _ h.g,e _ _ h.nm,e _ _ h.rl,h.rn,fun i a q=>(h.r i a q).imp fun U z=>e _ _ z,e _ _ h.bl,h.bn,fun s a q=>e _ _ (h.b s a q),e _ _ h.of,e _ _ h.ow⟩
noncomputable def nxV(G:PG)(p:a0n):a0a:=match G.nxt p with | some x=>a0b x | none=>.int (-1)
section
variable {G:PG}(W:WF G){H:MH}{g:Addr}{D:GHd}(h:GH H g G D){k:Nat}{Q:a0d}
include W h
theorem e1r(q:Q (a0b G.nm.length) H):a0f (k+1) 33 [.ref g] H Q:=by
 refine a0c [some (.ref g)] rfl rfl (d0s ?_);refine a0i h.g rfl (i0p h.nm ?_ ?_)
 ·rw[lmp];have:=W.nl;unfold LIM;omega
 ·rw[lmp];exact q
theorem j0g{n d:Nat}(hn:n<G.rs.length)(q:Q (a0b (G.off n+d)) H):a0f (k+1) 36 [.ref g,a0b n,a0b d] H Q:=by
 refine a0c [some (.ref g),some (a0b n),some (a0b d)] rfl rfl (d0s ?_);walk_at"";refine a0i h.g rfl (d0n h.of ?_ (v:=a0b (G.off n)) ?_ ?_)
 ·rw[lmp,length_range];have:=W.rn;unfold LIM;omega
 ·rw[gmp,getElem?_range hn];rfl
 ·walk_at"";exact q
theorem j0q{p:a0n}(hp:G.val p)(q:Q (a0b p.1) H):a0f (k+1) 37 [.ref g,a0b (G.num p)] H Q:=by
 refine a0c [some (.ref g),some (a0b (G.num p))] rfl rfl (d0s ?_);walk_at"";refine a0i h.g rfl (d0n h.ow ?_ (v:=a0b p.1) ?_ q)
 ·rw[lmp];have:=W.on;unfold LIM;omega
 ·rw[gmp,c1c G hp];rfl
theorem g1x{n:Nat}(hn:n<G.rs.length):((List.range G.rs.length).map fun i=>a0b (G.off i))[n]?=some (a0b (G.off n)):=by
 rw[gmp,getElem?_range hn];rfl
theorem g1y:((List.range G.rs.length).map fun i=>a0b (G.off i)).length≤LIM:=by
 rw[lmp,length_range];have:=W.rn;unfold LIM;omega
theorem b1y{p:a0n}(hp:G.val p):(G.own.map a0b)[G.num p]?=some (a0b p.1):=by
 rw[gmp,c1c G hp];rfl
theorem b1z:(G.own.map a0b).length≤LIM:=by
 rw[lmp];have:=W.on;unfold LIM;omega
theorem a1i{p:a0n}(hp:G.val p)(q:Q (a0b p.2) H):a0f (k+1) 38 [.ref g,a0b (G.num p)] H Q:=by
 refine a0c [some (.ref g),some (a0b (G.num p))] rfl rfl (d0s ?_);walk_at"";refine a0i h.g rfl (a0i h.g rfl (d0n h.ow (b1z W h) (b1y W h hp) (d0n h.of (g1y W h) (g1x W h hp.1) ?_)));walk_at"";have e:((G.num p:Nat):Int)-(G.off p.1:Int)=(p.2:Int):=by unfold PG.num;omega
 rw[e];exact q
theorem o0v{p:a0n}(hp:G.val p)(q:Q (nxV G p) H):a0f (k+1) 39 [.ref g,a0b (G.num p)] H Q:=by
 refine a0c [some (.ref g),some (a0b (G.num p)),none,none] rfl rfl (seq ?_);walk_at"";obtain⟨a,ha⟩:∃ a,D.rs[p.1]?=some a:=⟨_,geg (by rw[h.rn];exact hp.1)⟩;obtain⟨rest,hr⟩:=h.r _ _ ha;refine a0i h.g rfl (a0i h.g rfl (d0n h.ow (b1z W h) (b1y W h hp) (d0n h.rl ?_ (v:=.ref a) ?_ (a0i hr rfl ⟨by decide,seq ?_⟩))))
 ·rw[lmp,h.rn];have:=W.rn;unfold LIM;omega
 ·rw[gmp,ha];rfl
 walk_at"";refine a0i h.g rfl (a0i h.g rfl (d0n h.ow (b1z W h) (b1y W h hp) (d0n h.of (g1y W h) (g1x W h hp.1) ?_)));walk_at"";have e:((G.num p:Nat):Int)-(G.off p.1:Int)=(p.2:Int):=by unfold PG.num;omega
 rw[e];refine⟨by decide,d0s ?_⟩;have hl:((G.rt p.1).map a0b).length≤LIM:=by
  rw[lmp];have:=W.rl p.1;unfold LIM;omega
 walk_at"";refine j1i hl ?_;walk_at"";rw[lmp];unfold nxV at q;by_cases z:p.2<(G.rt p.1).length
 ·rw[if_pos (by omega)];have e2:G.nxt p=some (G.rt p.1)[p.2]:=geg z;rw[e2]at q;refine l1l hl (v:=a0b (G.rt p.1)[p.2]) ?_ q;rw[gmp,geg z];rfl
 ·rw[if_neg (by omega)];have e2:G.nxt p=none:=getElem?_eq_none (by omega);rw[e2]at q;exact q
theorem u0q{s:Nat}(hs:s<G.nm.length)(q:∀ c H',H c=none→H' c=some (.list ((G.by_ s).map a0b))→Ext H H'→But c H H'→Q (.ref c) H'):a0f (k+1) 35 [.ref g,a0b s] H Q:=by
 refine a0c [some (.ref g),some (a0b s)] rfl rfl (d0s ?_);walk_at"";obtain⟨a,ha⟩:∃ a,D.bs[s]?=some a:=⟨_,geg (by rw[h.bn];exact hs)⟩;refine a0i h.g rfl (d0n h.bl ?_ (v:=.ref a) ?_ (b1j (h.b _ _ ha) ?_ q))
 ·rw[lmp,h.bn];have:=W.nl;unfold LIM;omega
 ·rw[gmp,ha];rfl
 ·rw[lmp];have:=length_filter_le (fun n=>G.lf n == s) (List.range G.rs.length);rw[length_range]at this;have:=W.rn;unfold PG.by_ LIM;omega
end
theorem b0v{l:List Str}(h:∀ s∈l,PyData.strOk s=true):e0d (l.map .str)=true:=by
 unfold e0d;rw[all_map,all_eq_true];exact fun s hs=>h s hs
theorem e0c{x:Str}{l:List Str}:a0a.str x∈l.map a0a.str↔x∈l:=by
 rw[mem_map];constructor
 ·rintro⟨y,h,e⟩;cases e;exact h
 ·exact fun h=>(Mac.i3_1 x h rfl)
open Classical in
theorem g0v{x:a0a}{l:List a0a}(h:x∈l):g1w x l=true:=decide_eq_true h
open Classical in
theorem g0u{x:a0a}{l:List a0a}(h:x∉l):g1w x l=false:=decide_eq_false h
open Classical in
theorem c0i:∀ {l:List Str} {x:Str} {k:Nat},l.Nodup→l[k]?=some x→d1u (.str x) (l.map .str)=some k
 | [],_,_,_,h=>by simp at h
 | y::l,x,0,_,h=>by
  rw[getElem?_cons_zero]at h;cases h;unfold d1u;rw[map_cons,findIdx?_cons,if_pos (decide_eq_true rfl)]
 | y::l,x,k+1,n,h=>by
  rw[getElem?_cons_succ]at h;rw[nodup_cons]at n;have ih:=c0i n.2 h;unfold d1u at ih ⊢;rw[map_cons,findIdx?_cons,if_neg,ih]
  ·rfl
  ·intro z;have:=of_decide_eq_true z;clear ih z;cases this;exact n.1 (mog h)
section
variable {G:PG}(W:WF G){H:MH}{g:Addr}{D:GHd}(h:GH H g G D){k:Nat}{Q:a0d}
include W h
theorem n1m:(G.nm.map a0a.str).length≤LIM:=by rw[lmp];have:=W.nl;unfold LIM;omega
theorem m0h{x:Nat}{s:Str}(hx:G.nm[x]?=some s)(q:Q (a0b x) H):a0f (k+1) 34 [.ref g,.str s] H Q:=by
 have hm:=mog hx;refine a0c [some (.ref g),some (.str s)] rfl rfl (d0s ?_);walk_at"";refine a0i h.g rfl (inL h.nm (W.so s hm) (b0v W.so) ?_);rw[g0v (e0c.mpr hm),if_pos rfl];refine a0i h.g rfl ⟨a0p h.nm (by decide),v0y h.nm (W.so s hm) (b0v W.so) (n1m W h) (c0i W.nd hx) q⟩
theorem b1w{s:Str}(hs:PyData.strOk s=true)(hx:s∉G.nm)(q:Q (.int (-1)) H):a0f (k+1) 34 [.ref g,.str s] H Q:=by
 refine a0c [some (.ref g),some (.str s)] rfl rfl (d0s ?_);walk_at"";refine a0i h.g rfl (inL h.nm hs (b0v W.so) ?_);rw[g0u (fun z=>hx (e0c.mp z)),if_neg (by decide)];exact q
end
theorem x0m(a b:Nat):PySem.Builtin.bitAnd (a:Int) (b:Int)=((a&&& b:Nat):Int):=by
 unfold PySem.Builtin.bitAnd;rw[decide_eq_true (by omega:(0:Int)≤a),decide_eq_true (by omega:(0:Int)≤b)];simp
theorem z0s(a b:Nat):PySem.Builtin.bitOr (a:Int) (b:Int)=((a ||| b:Nat):Int):=by
 unfold PySem.Builtin.bitOr PySem.Builtin.bitAnd PySem.Builtin.bitNot;rw[decide_eq_false (by omega:¬ (0:Int)≤-(a:Int)-1),decide_eq_false (by omega:¬ (0:Int)≤-(b:Int)-1)];dsimp only;have e1:(-(-(a:Int)-1)-1).toNat=a:=by omega
 have e2:(-(-(b:Int)-1)-1).toNat=b:=by omega
 rw[e1,e2];omega
theorem j1z(a k:Nat):(a:Int).fdiv (2 ^ k)=((a >>> k:Nat):Int):=by
 rw[Nat.shiftRight_eq_div_pow,Int.fdiv_eq_ediv_of_nonneg _ (by exact Int.pow_nonneg (by decide))]
 norm_cast
theorem z0n{H:MH}{Q:a0d}{a b:Nat}:p0e .band (a0b a) (a0b b) H Q=Q (a0b (a&&& b)) H:=by
 show Q (.int (PySem.Builtin.bitAnd a b)) H=_;rw[x0m]
theorem v0h{H:MH}{Q:a0d}{a b:Nat}:p0e .bor (a0b a) (a0b b) H Q=Q (a0b (a ||| b)) H:=by
 show Q (.int (PySem.Builtin.bitOr a b)) H=_;rw[z0s]
theorem h1b{H:MH}{Q:a0d}{a k:Nat}(q:Q (a0b (a >>> k)) H):p0e .shr (a0b a) (a0b k) H Q:=by
 show 0≤(k:Int)∧Q (.int ((a:Int).fdiv (2 ^ (k:Int).toNat))) H;rw[Int.toNat_natCast,j1z];exact⟨by omega,q⟩
theorem h1a{H:MH}{Q:a0d}{k:Nat}(hk:k≤1000000)(q:Q (a0b (2 ^ k)) H):p0e .shl (a0b 1) (a0b k) H Q:=by
 show 0≤(k:Int)∧(k:Int)≤1000000∧d0c 1∧Q (.int (1*2 ^ (k:Int).toNat)) H;rw[Int.toNat_natCast,Int.one_mul];have e:((2:Int) ^ k)=((2 ^ k:Nat):Int):=by norm_cast
 rw[e];exact⟨by omega,by omega,by unfold d0c;decide,q⟩
theorem p0a(n k:Nat):((n >>> k)&&& 1=1)↔n.testBit k=true:=by
 rw[Nat.testBit];rw[Nat.and_comm];have h:1&&& (n >>> k)=0∨1&&& (n >>> k)=1:=by
  rw[Nat.and_comm,Nat.and_one_is_mod];omega
 rcases h with h | h <;> rw[h] <;> decide
set_option tactic.hygienic true in
theorem h1w{k:Nat}{n:Nat}{H:MH}{Q:a0d}(hn:n<2 ^ 1000)(q:∀ (bl:List Nat) c H',bl.Pairwise (·<·)→(∀ x,x∈bl↔n.testBit x=true)→H c=none→H' c=some (.list (bl.map a0b))→Ext H H'→But c H H'→Q (.ref c) H'):a0f (k+1) 1 [a0b n] H Q:=by
 refine a0c [some (a0b n),none,none,none] rfl rfl (seq ?_);walk_at"";refine a0h (by decide) fun c H1 hc h1 e1 b1=>⟨by decide,seq ?_⟩;walk_at"";refine⟨by decide,seq ?_⟩;walk_at"";refine⟨by decide,seq ?_⟩;refine g0f (fun j m H'=>∃ at_:Nat,at_≤1000∧j=n >>> at_∧m=[some (a0b n),some (.ref c),some (a0b at_),some (a0b (n >>> at_))]∧H' c=some (.list (((List.range at_).filter fun i=>n.testBit i).map a0b))∧But c H H') (fun j m H' K hI hK=>?_) n _ _ (Mac.i6_1 0 (by omega) rfl rfl h1 b1);obtain⟨at_,hat,rfl,rfl,hl,hb⟩:=hI;walk_at"";split
 ·rename_i hpos;have hpos':0<n >>> at_:=by omega
  have hlt:at_<1000:=by
   apply Nat.lt_of_not_le;intro z;have:at_=1000:=by omega
   clear hat hK hl z;subst this;rw[Nat.shiftRight_eq_div_pow,Nat.div_eq_of_lt hn]at hpos';omega
  have half:n >>> (at_+1)<n >>> at_:=by
   rw[Nat.shiftRight_succ];omega
  have fin:∀ H2,H2 c=some (.list (((List.range (at_+1)).filter fun i=>n.testBit i).map a0b))→But c H H2→wpB (gam (a0f k)) (.cons (.asg 3 (.bin .shr (.var 3) (.con (.int 1)))) (.cons (.asg 2 (.bin .add (.var 2) (.con (.int 1)))) .nil)) [some (a0b n),some (.ref c),some (a0b at_),some (a0b (n >>> at_))] H2 K:=by
   intro H2 hl2 hb2;refine seq ?_;walk_at"";refine h1b (k:=1) ⟨by decide,seq ?_⟩;walk_at"";refine⟨by decide,b0m ?_⟩;exact hK _ _ _ half (Mac.i6_1 (at_+1) (by omega) rfl (by rw[Nat.shiftRight_succ];rfl) hl2 hb2)
  refine seq ?_;walk_at"";rw[show(a0a.int 1)=a0b 1 from rfl,z0n];walk_at"";split
  ·rename_i h;have ht:n.testBit at_=true:=(p0a n at_).mp (by omega);refine seq ?_;walk_at"";refine⟨a0p hl (by decide),b0o hl ?_ fun H2 h2 b2=>⟨rfl,b0m ?_⟩⟩
   ·rw[lmp];have:=length_filter_le (fun i=>n.testBit i) (List.range at_);rw[length_range]at this;unfold LIM;omega
   ·refine fin H2 ?_ fun b hb'=>(b2 b hb').trans (hb b hb');rw[h2,range_succ,filter_append,map_append];simp[ht]
  ·rename_i h;have ht:n.testBit at_=false:=by
    cases z:n.testBit at_ with
    | false=>rfl
    | true=>exact absurd ((p0a n at_).mpr z) (by omega)
   refine b0m (fin H' ?_ hb);rw[hl,range_succ,filter_append,map_append];simp[ht]
 ·rename_i hpos;have hz:n >>> at_=0:=Nat.eq_zero_of_not_pos fun z=>hpos (Int.natCast_pos.mpr z);refine d0s ?_;walk_at"";have e0:Ext H H':=(Ext.refl H).but hc hb;refine q _ c H' ?_ (fun x=>?_) hc hl e0 hb
  ·exact pairwise_lt_range.sublist filter_sublist
  ·rw[mem_filter,mem_range];refine⟨fun h=>h.2,fun h=>⟨?_,h⟩⟩;apply Nat.lt_of_not_le;intro z;have hn2:n<2 ^ at_:=by
    rw[Nat.shiftRight_eq_div_pow]at hz;exact(Nat.div_eq_zero_iff_lt (Nat.two_pow_pos _)).mp hz
   rw[Nat.testBit_lt_two_pow (Nat.lt_of_lt_of_le hn2 (Nat.pow_le_pow_right (by decide) z))]at h;cases h
theorem b0h{n i:Nat}{x:a0a}(h:((List.range n).map fun(i:Nat)=>a0a.int (i:Int))[i]?=some x):i<n∧x=a0b i:=by
 have hi:=(gsm h).1;rw[lmp,length_range]at hi;rw[gmp,getElem?_range hi]at h;cases h;exact⟨hi,rfl⟩
def bt(F:List Nat)(s t:Nat):Prop:=(F[s]?.getD 0).testBit t=true
inductive Tc(R:Nat→Nat→Prop):Nat→Nat→Prop
 | base {s t:Nat}:R s t→Tc R s t
 | tr {s m t:Nat}:Tc R s m→Tc R m t→Tc R s t
theorem g1n{F:List Nat}{i:Nat}(hi:i<F.length)(v s t:Nat):bt (F.set i v) s t↔(if s=i then v.testBit t=true else bt F s t):=by
 unfold bt;by_cases e:s=i
 ·subst e;rw[getElem?_set_self hi,if_pos rfl];rfl
 ·rw[getElem?_set_ne (Ne.symm e),if_neg e]
set_option tactic.hygienic true in
theorem q0k{k:Nat}{c0:Addr}{R0:List Nat}{H:MH}{Q:a0d}(h0:H c0=some (.list (R0.map a0b)))(hn:R0.length≤1000)(hb:∀ s t,bt R0 s t→t<R0.length)
  (q:∀ (F:List Nat) c H',F.length=R0.length→(∀ s t,bt F s t↔Tc (bt R0) s t)→H c=none→H' c=some (.list (F.map a0b))→Ext H H'→But c H H'→Q (.ref c) H'):a0f (k+1) 0 [.ref c0] H Q:=by
 have lim:∀ F:List Nat,F.length=R0.length→(F.map a0b).length≤LIM:=fun F e=>by rw[lmp,e];unfold LIM;omega
 refine a0c [some (.ref c0),none,none,none] rfl rfl (seq ?_);walk_at"";refine b1j h0 (lim R0 rfl) fun c H1 hc h1 e1 b1=>⟨by decide,seq ?_⟩;walk_at"";refine i0p h1 (lim R0 rfl) ?_;rw[lmp];refine⟨by unfold LIM;omega,by unfold LIM;omega,?_⟩;rw[Int.toNat_natCast];refine a0s (fun i m H'=>∃ F:List Nat,F.length=R0.length∧(∃ a b,m=[some (.ref c0),some (.ref c),a,b])∧H' c=some (.list (F.map a0b))∧But c H H'∧(∀ s t,bt F s t→Tc (bt R0) s t)∧(∀ s t,bt R0 s t→bt F s t)∧(∀ m s t,m<i→bt F s m→bt F m t→bt F s t))
  (Mac.i8_1 R0 rfl ⟨_,_,rfl⟩ h1 b1 (fun s t h=>.base h) (fun U U h=>h) (fun U U U h=>absurd h (Nat.not_lt_zero _))) (fun U U U U=>trivial) (fun i m H' x K hx hI hK=>?_) fun m H' hI=>?_
 ·obtain⟨F,hF,⟨a,b,rfl⟩,hl,hbut,hs,hi,ht⟩:=hI;obtain⟨hlt,rfl⟩:=b0h hx;refine⟨[some (.ref c0),some (.ref c),some (a0b i),b],rfl,seq ?_⟩;walk_at"";refine i0p hl (lim F hF) ?_;rw[lmp,hF];refine⟨by unfold LIM;omega,by unfold LIM;omega,?_⟩;rw[Int.toNat_natCast];refine a0s (fun j m H'=>∃ F':List Nat,F'.length=R0.length∧(∃ b,m=[some (.ref c0),some (.ref c),some (a0b i),b])∧H' c=some (.list (F'.map a0b))∧But c H H'∧(∀ s t,bt F' s t↔bt F s t∨(s<j∧bt F s i∧bt F i t)))
   (Mac.i6_1 F hF ⟨_,rfl⟩ hl hbut (fun s t=>⟨.inl,fun h=>h.elim id fun h=>absurd h.1 (Nat.not_lt_zero _)⟩)) (fun U U U U=>trivial) (fun j m H' x K' hx hI hK'=>?_) fun m H' hI=>?_
  ·obtain⟨F',hF',⟨b,rfl⟩,hl',hbut',hr⟩:=hI;obtain⟨hltj,rfl⟩:=b0h hx;refine⟨[some (.ref c0),some (.ref c),some (a0b i),some (a0b j)],rfl,seq ?_⟩;have gj:(F'.map a0b)[j]?=some (a0b (F'[j]?.getD 0)):=by
    rw[gmp,geg (by omega)];rfl
   have gi:(F'.map a0b)[i]?=some (a0b (F'[i]?.getD 0)):=by
    rw[gmp,geg (by omega)];rfl
   walk_at"";refine d0n hl' (lim F' hF') gj (h1b ?_);rw[show(a0a.int 1)=a0b 1 from rfl,z0n];walk_at"";split
   ·rename_i hbit;have ht':bt F' j i:=(p0a _ _).mp (by omega);refine seq ?_;walk_at"";refine d0n hl' (lim F' hF') gj (d0n hl' (lim F' hF') gi ?_);rw[v0h];refine putL hl' (by rw[lmp];omega) (lim F' hF') fun H2 h2 b2=>b0m (hK' _ _ (Mac.i6_1 (F'.set j (F'[j]?.getD 0 ||| F'[i]?.getD 0)) (by rw[length_set,hF']) ⟨_,rfl⟩ (by rw[h2,map_set]) (fun p hp=>(b2 p hp).trans (hbut' p hp)) (fun s t=>?_)));rw[g1n (by omega)];split
    ·rename_i e;clear hK' hltj hx gj h2;subst e;rw[Nat.testBit_or,Bool.or_eq_true];have e1:(F'[s]?.getD 0).testBit t=true↔bt F' s t:=Iff.rfl;have e2:(F'[i]?.getD 0).testBit t=true↔bt F' i t:=Iff.rfl;rw[e1,e2,hr,hr];have hsi:bt F s i:=((hr s i).mp ht').elim id fun h=>h.2.1;constructor
     ·rintro((h | h) | (h | h))
      ·exact .inl h
      ·exact .inr ⟨by omega,h.2⟩
      ·exact .inr ⟨by omega,hsi,h⟩
      ·exact .inr ⟨by omega,hsi,h.2.2⟩
     ·rintro(h | h)
      ·exact .inl (.inl h)
      ·exact .inr (.inl h.2.2)
    ·rename_i e;rw[hr];constructor
     ·rintro(h | h)
      ·exact .inl h
      ·exact .inr ⟨by omega,h.2⟩
     ·rintro(h | h)
      ·exact .inl h
      ·exact .inr ⟨by omega,h.2⟩
   ·rename_i hbit;have ht':¬ bt F' j i:=fun z=>hbit (by have:=(p0a _ _).mpr z;omega);refine b0m (hK' _ _ (Mac.i6_1 F' hF' ⟨_,rfl⟩ hl' hbut' (fun s t=>?_)));rw[hr];constructor
    ·rintro(h | h)
     ·exact .inl h
     ·exact .inr ⟨by omega,h.2⟩
    ·rintro(h | h)
     ·exact .inl h
     ·by_cases e:s=j
      ·clear hK' hltj hx gj;subst e;exact absurd ((hr s i).mpr (.inl h.2.1)) ht'
      ·exact .inr ⟨by omega,h.2⟩
  ·obtain⟨F',hF',⟨b,rfl⟩,hl',hbut',hr⟩:=hI;rw[lmp,length_range]at hr;have hr':∀ s t,bt F' s t↔bt F s t∨(bt F s i∧bt F i t):=fun s t=>by
    rw[hr];constructor
    ·rintro(h | h)
     ·exact .inl h
     ·exact .inr h.2
    ·rintro(h | h)
     ·exact .inl h
     ·refine .inr ⟨?_,h⟩;apply Nat.lt_of_not_le;intro z;have:=h.1;unfold bt at this;rw[getElem?_eq_none (by omega)]at this;simp at this
   refine h0k (hK _ _ (Mac.i8_1 F' hF' ⟨_,_,rfl⟩ hl' hbut' (fun s t h=>?_) (fun s t h=>(hr' s t).mpr (.inl (hi s t h))) (fun m s t hm h1 h2=>?_)))
   ·rcases(hr' s t).mp h with h | h
    ·exact hs s t h
    ·exact .tr (hs _ _ h.1) (hs _ _ h.2)
   ·rw[hr']at h1 h2 ⊢;by_cases e:m=i
    ·clear hK ht hlt hx hm;subst e;have a1:bt F s m:=h1.elim id fun h=>h.1;have a2:bt F m t:=h2.elim id fun h=>h.2;exact .inr ⟨a1,a2⟩
    ·have hm':m<i:=by omega
     rcases h1 with h1 | h1 <;> rcases h2 with h2 | h2
     ·exact .inl (ht m s t hm' h1 h2)
     ·exact .inr ⟨ht m s i hm' h1 h2.1,h2.2⟩
     ·exact .inr ⟨h1.1,ht m i t hm' h1.2 h2⟩
     ·exact .inr ⟨h1.1,h2.2⟩
 ·obtain⟨F,hF,⟨a,b,rfl⟩,hl,hbut,hs,hi,ht⟩:=hI;rw[lmp,length_range]at ht;refine d0s ?_;refine q F c H' hF (fun s t=>⟨hs s t,fun h=>?_⟩) hc hl ((Ext.refl H).but hc hbut) hbut;have key:∀ s t,Tc (bt R0) s t→bt F s t∧t<R0.length:=by
   intro s t h
   induction h with
   | base h=>exact⟨hi _ _ h,hb _ _ h⟩
   | tr _ _ ih1 ih2=>exact⟨ht _ _ _ ih1.2 ih1.1 ih2.1,ih2.2⟩
  exact(key s t h).1
theorem l1h{n k f:Nat}{vs:List a0a}{H:MH}{P:Addr→MH→Prop}(q:∀ a H',H a=none→H' a=some (.inst k [])→Ext H H'→a0f n f (.ref a::vs) H' fun r H2=>r=.none∧P a H2) :
  ∀ a d,H a=none→H d=none→a≠d→a0f n f (.ref a::vs) (upd (upd H d (.hid a)) a (.inst k [])) fun r H2=>r=.none∧P a H2:=fun a d ha hd hne=>by
 refine q a _ ha (f0p _ _ _) fun b o e=>?_;rw[d1i _ _ (by first | exact nef (ha) e (fun e=>by cases e) | exact nef e (ha) (fun e=>by cases e)),d1i _ _ (by first | exact nef (hd) e (fun e=>by cases e) | exact nef e (hd) (fun e=>by cases e))]
 exact e
theorem k0u{l:List Nat}{H:MH}{Q:a0d}(hl:l.length≤LIM)(q:∀ (l':List Nat) c H',l'.Perm l→l'.Pairwise (·≤·)→H c=none→H' c=some (.list (l'.map a0b))→Ext H H'→But c H H'→Q (.ref c) H'):m0s (l.map a0b) H Q:=by
 refine sortI (ns:=l.map fun(n:Nat)=>(n:Int)) (by rw[map_map];rfl) (by rw[lmp];exact hl) fun s c H' hs hc h e b=>?_;have e1:(s.map Int.toNat).map (fun(n:Nat)=>(n:Int))=s:=by
  rw[map_map];have:∀ x∈s,((fun(n:Nat)=>(n:Int))∘Int.toNat) x=id x:=fun x hx=>by
   have:=hs.1.mem_iff.mp hx;clear hx;obtain⟨n,U,rfl⟩:=mem_map.mp this;simp
  rw[map_congr_left this,map_id]
 refine q (s.map Int.toNat) c H' ?_ ?_ hc ?_ e b
 ·have:=hs.1.map Int.toNat;rw[map_map]at this;have e2:(Int.toNat∘fun(n:Nat)=>(n:Int))=id:=by funext x;simp
  rw[e2,map_id]at this;exact this
 ·rw[pairwise_map];exact hs.2.imp fun h=>by omega
 ·rw[h]
  congr 2
  conv=>lhs;rw[← e1]
  rw[map_map];rfl
theorem b0e{l l':List Nat}(h:l.Pairwise (·<·))(h':l'.Pairwise (·<·))(e:∀ x,x∈l↔x∈l'):l=l':=g0o (fun a=>Nat.lt_irrefl a) (fun a b c=>Nat.lt_trans) h h' e
theorem b0r{l:List Nat}(h:l.Pairwise (·≤·))(n:l.Nodup):l.Pairwise (·<·):=by
 induction l with
 | nil=>exact .nil
 | cons a l ih=>
  rw[pairwise_cons]at h ⊢;rw[nodup_cons]at n;refine⟨fun b hb=>?_,ih h.2 n.2⟩;have:=h.1 b hb;have:a≠b:=by clear this;rintro rfl;exact n.1 hb
  omega
theorem a0r{l:List Nat}(h:l.Pairwise (·<·)):l.Nodup:=h.imp fun h=>Nat.ne_of_lt h
def fr(G:PG)(s t:Nat):Prop:=∃ n,n<G.rs.length∧G.lf n=s∧G.nxt (n,0)=some t
def y0v(G:PG)(K:List a0n)(s:Nat):Prop:=∃ p∈K,∃ x,G.nxt p=some x∧(s=x∨Tc (fr G) x s)
theorem r1j{G:PG}{S:a0n→Prop}{x s:Nat}(h:Tc (fr G) x s):(∀ m,m<G.rs.length→G.lf m=x→Cl G S (m,0))→∀ n,n<G.rs.length→G.lf n=s→Cl G S (n,0):=by
 induction h with
 | base h=>
  intro hm n hn e;obtain⟨m,h1,h2,h3⟩:=h;exact .step (hm m h1 h2) h3 hn e
 | tr _ _ ih1 ih2=>exact fun hm=>ih2 (ih1 hm)
theorem g1q{G:PG}{K:List a0n}{p:a0n}:Cl G (·∈K) p↔p∈K∨∃ n,p=(n,0)∧n<G.rs.length∧y0v G K (G.lf n):=by
 constructor
 ·intro c
  induction c with
  | base h=>exact .inl h
  | @step p x m c hx hm el ih=>
   refine .inr (Mac.i4_1 m rfl hm ?_);clear c;rcases ih with ih | ⟨n,rfl,hn,q,hq,y,hy,hw⟩
   ·exact⟨_,ih,x,hx,.inl el⟩
   ·refine⟨q,hq,y,hy,.inr ?_⟩;have e:fr G (G.lf n) x:=(Mac.i4_1 n hn rfl hx);rw[el];rcases hw with hw | hw
    ·rw[← hw];exact .base e
    ·exact .tr hw (.base e)
 ·rintro(h | ⟨n,rfl,hn,q,hq,x,hx,hw⟩)
  ·exact .base h
  ·rcases hw with hw | hw
   ·exact .step (.base hq) hx hn hw
   ·exact r1j hw (fun m hm e=>.step (.base hq) hx hm e) n hn rfl
structure ClH(H:MH)(c g:Addr)(G:PG)(fa:Addr)(F:List Nat):Prop where
 c:H c=some (.inst 1 [.ref g,.ref fa])
 f:H fa=some (.list (F.map a0b))
 n:F.length=G.nm.length
 t:∀ s t,bt F s t↔Tc (fr G) s t
theorem ClH.ext{H H':MH}{c g fa:Addr}{G:PG}{F:List Nat}(h:ClH H c g G fa F)(e:Ext H H'):ClH H' c g G fa F:=⟨e _ _ h.c,e _ _ h.f,h.n,h.t⟩
theorem q0z(n s t:Nat):¬ bt (List.replicate n 0) s t:=by
 unfold bt;rw[getElem?_replicate];split <;> simp
theorem m0y(x t:Nat):(2 ^ x).testBit t=true↔t=x:=by
 rw[Nat.testBit_two_pow];simp[eq_comm]
section
variable {G:PG}(W:WF G){g:Addr}{D:GHd}{k:Nat}{Q:a0d}
include W
theorem m1n{s t:Nat}(h:fr G s t):s<G.nm.length∧t<G.nm.length:=by
 obtain⟨n,h1,h2,h3⟩:=h;exact⟨h2▸W.lfs n h1,(W.rts _ _ h3).1⟩
theorem r1k{s t:Nat}(h:Tc (fr G) s t):s<G.nm.length∧t<G.nm.length:=by
 induction h with
 | base h=>exact m1n W h
 | tr _ _ ih1 ih2=>exact⟨ih1.1,ih2.2⟩
set_option tactic.hygienic true in
theorem t0j{H0 H:MH}{a:Addr}(h:GH H0 g G D)(h0:H0 a=none)(e:Ext H0 H)(ha:H a=some (.inst 1 []))(q:∀ fa F H',Ext H0 H'→ClH H' a g G fa F→Q .none H'):a0f (k+2) 5 [.ref a,.ref g] H Q:=by
 refine a0c [some (.ref a),some (.ref g),none,none] rfl rfl (seq ?_);refine g0r ha rfl fun H1 h1 b1=>seq ?_;have e1:=e.but h0 b1;walk_at"";refine a0h (by decide) fun c0 H2 hc0 h2 e2 b2=>b0s ((h.ext (e1.trans e2)).g) rfl ?_;walk_at"";refine e1r W (h.ext (e1.trans e2)) ?_;refine q1v h2 (by omega) (by have:=W.nl;unfold LIM;omega) fun c H3 hc h3 e3 b3=>⟨by decide,seq ?_⟩;have e0:Ext H0 H3:=(e1.trans e2).trans e3;have ha3:H3 a=some (.inst 1 [.ref g]):=e3 _ _ (e2 _ _ h1);have hca:c≠a:=(a0t hc (e2 _ _ h1)).symm;have h0c:H0 c=none:=(e1.trans e2).none hc;walk_at"";refine a0i (h.ext e0).g rfl (c0l (h.ext e0).rl ?_);rw[Int.toNat_natCast]at h3;refine a0s (fun i m H'=>∃ R:List Nat,R.length=G.nm.length∧(∃ b,m=[some (.ref a),some (.ref g),some (.ref c),b])∧H' c=some (.list (R.map a0b))∧Ext H0 H'∧H' a=some (.inst 1 [.ref g])∧(∀ s t,bt R s t↔∃ n,n<i∧G.lf n=s∧G.nxt (n,0)=some t))
  (Mac.i7_1 (List.replicate G.nm.length 0) (by simp) ⟨_,rfl⟩ (by rw[h3,map_replicate];rfl) e0 ha3 (fun s t=>⟨fun h=>absurd h (q0z _ _ _),fun⟨n,hn,_⟩=>absurd hn (Nat.not_lt_zero _)⟩))
  (fun i m H' ⟨R,_,_,_,e',_⟩=>(h.ext e').rl) (fun i m H' x K hx hI hK=>?_) fun m H' hI=>?_
 ·obtain⟨R,hR,⟨b,rfl⟩,hl,e',ha',hr⟩:=hI;rw[gmp]at hx;obtain⟨r,hri,rfl⟩:=map_eq_some_iff.mp hx;have hin:i<G.rs.length:=by rw[← h.rn];exact(gsm hri).1
  obtain⟨rest,hrr⟩:=(h.ext e').r _ _ hri;have lim:(R.map a0b).length≤LIM:=by rw[lmp,hR];have:=W.nl;unfold LIM;omega
  have limr:((G.rt i).map a0b).length≤LIM:=by rw[lmp];have:=W.rl i;unfold LIM;omega
  refine⟨[some (.ref a),some (.ref g),some (.ref c),some (.ref r)],rfl,seq ?_⟩;walk_at"";refine a0i hrr rfl (j1i limr ?_);walk_at"";rw[lmp];split
  ·rename_i hpos;have hpos':0<(G.rt i).length:=by omega
   obtain⟨x,hx0⟩:∃ x,(G.rt i)[0]?=some x:=⟨_,geg hpos'⟩;have hx1:G.nxt (i,0)=some x:=hx0;have hxl:=(W.rts _ _ hx1).1;have hll:=W.lfs i hin;have gl:(R.map a0b)[G.lf i]?=some (a0b (R[G.lf i]?.getD 0)):=by
    rw[gmp,geg (by omega)];rfl
   refine seq ?_;walk_at"";refine a0i hrr rfl (d0n hl lim gl (a0i hrr rfl (l1l (k:=0) limr (v:=a0b x) (by rw[gmp,hx0];rfl) (h1a (by have:=W.nl;omega) ?_))));rw[v0h];refine a0i hrr rfl (putL hl (by rw[lmp];omega) lim fun H2 h2' b2'=>b0m (h0k (hK _ _ (Mac.i7_1 (R.set (G.lf i) (R[G.lf i]?.getD 0 ||| 2 ^ x)) (by rw[length_set,hR]) ⟨_,rfl⟩ (by rw[h2',map_set]) (e'.but h0c b2') (by rw[b2' a (Ne.symm hca)];exact ha') (fun s t=>?_)))));rw[g1n (by omega)];split
   ·rename_i es;subst es;rw[Nat.testBit_or,Bool.or_eq_true,m0y];have e1:(R[G.lf i]?.getD 0).testBit t=true↔bt R (G.lf i) t:=Iff.rfl;rw[e1,hr];constructor
    ·clear hx0 hxl h2';rintro(⟨n,hn,h1,h2⟩ | rfl)
     ·exact⟨n,by omega,h1,h2⟩
     ·exact⟨i,by omega,rfl,hx1⟩
    ·rintro⟨n,hn,h1,h2⟩;by_cases en:n=i
     ·clear hK hr hri hx hin hrr limr hpos' hx0 hll gl h2' e1 hn h1;subst en;rw[hx1]at h2;exact .inr (Option.some.inj h2).symm
     ·exact .inl (Mac.i4_1 n (by omega) h1 h2)
   ·rename_i es;rw[hr];constructor
    ·rintro⟨n,hn,h1,h2⟩;exact⟨n,by omega,h1,h2⟩
    ·rintro⟨n,hn,h1,h2⟩;by_cases en:n=i
     ·clear hK hr hri hx hin hrr limr hpos' hx0 hx1 hll gl h2' hn;subst en;exact absurd h1.symm es
     ·exact⟨n,by omega,h1,h2⟩
  ·rename_i hpos;refine b0m (h0k (hK _ _ (Mac.i7_1 R hR ⟨_,rfl⟩ hl e' ha' (fun s t=>?_))));rw[hr];constructor
   ·rintro⟨n,hn,h1,h2⟩;exact⟨n,by omega,h1,h2⟩
   ·rintro⟨n,hn,h1,h2⟩;by_cases en:n=i
    ·clear hK hr hri hx hin hrr limr hn;subst en;have:=o0h h2;dsimp only at this;omega
    ·exact⟨n,by omega,h1,h2⟩
 ·obtain⟨R,hR,⟨b,rfl⟩,hl,e',ha',hr⟩:=hI;rw[lmp,h.rn]at hr;have hr':∀ s t,bt R s t↔fr G s t:=hr;refine seq ?_;walk_at"";refine q0k hl (by have:=W.nl;omega) (fun s t hst=>by rw[hR];exact(m1n W ((hr' s t).mp hst)).2) fun F fa H2 hF ht hfa hfl e2' b2'=>?_;refine g0r (e2' _ _ ha') rfl fun H3' h3' b3'=>b0m ?_;have hne:fa≠a:=(a0t hfa ha').symm;refine q fa F H3' ((e'.trans e2').but h0 b3') ⟨h3',by rw[b3' fa hne];exact hfl,by rw[hF,hR],fun s t=>?_⟩;rw[ht];have:bt R=fr G:=by funext s t;exact propext (hr' s t)
  rw[this]
end
noncomputable def f0v(G:PG)(K:List a0n):a0a:=.tup (K.map fun p=>a0b (G.num p))
theorem p0u{G:PG}{K:List a0n}{i:Nat}{x:a0a}(h:(K.map fun p=>a0b (G.num p))[i]?=some x):∃ p,K[i]?=some p∧x=a0b (G.num p):=by
 rw[gmp]at h;obtain⟨p,hp,rfl⟩:=map_eq_some_iff.mp h;exact⟨p,hp,rfl⟩
theorem j1o{n:Nat}(h:∀ s,n.testBit s=true→s<20):n<2 ^ 1000:=by
 refine Nat.lt_of_lt_of_le (Nat.lt_pow_two_of_testBit (n:=20) n fun i hi=>?_) (Nat.pow_le_pow_right (by decide) (by decide:20≤1000));cases z:n.testBit i with
 | false=>rfl
 | true=>have:=h i z;omega
section
variable {G:PG}(W:WF G){H:MH}{g c fa:Addr}{D:GHd}{F:List Nat}{k:Nat}{Q:a0d}(h:GH H g G D)(hc:ClH H c g G fa F)
include W h hc
theorem d1q{K:List a0n}(hK:∀ p∈K,G.val p)(q:∀ n:Nat,(∀ s,n.testBit s=true↔y0v G K s)→Q (a0b n) H):a0f (k+2) 6 [.ref c,f0v G K] H Q:=by
 refine a0c [some (.ref c),some (f0v G K),none,none,none] rfl rfl (seq ?_);walk_at"";refine⟨by decide,seq ?_⟩;walk_at"";refine p0t (a0s (fun i m H'=>H'=H∧∃ n:Nat,(∃ a b,m=[some (.ref c),some (f0v G K),some (a0b n),a,b])∧∀ s,n.testBit s=true↔y0v G (K.take i) s)
  ⟨rfl,0,(Mac.i3_2 _ _ rfl),fun s=>⟨fun h=>by simp at h,fun⟨p,hp,_⟩=>by simp at hp⟩⟩ (fun U U U U=>trivial) (fun i m H' x P hx hI hP=>?_) fun m H' hI=>?_)
 ·clear q;obtain⟨rfl,n,⟨a,b,rfl⟩,hn⟩:=hI;obtain⟨p,hp,rfl⟩:=p0u hx;have hv:=hK p (mog hp);have tk:K.take (i+1)=K.take i++[p]:=by
   obtain⟨hi,e⟩:=gsm hp;rw[tsg hi,e]
  have wt:∀ s,y0v G (K.take (i+1)) s↔y0v G (K.take i) s∨∃ x,G.nxt p=some x∧(s=x∨Tc (fr G) x s):=fun s=>by
   rw[tk];constructor
   ·rintro⟨q,hq,z⟩;rcases mem_append.mp hq with hq | hq
    ·exact .inl (Mac.i3_1 q hq z)
    ·rw[mem_singleton]at hq;clear hp hx hv tk;subst hq;exact .inr z
   ·rintro(⟨q,hq,z⟩ | z)
    ·exact⟨q,mem_append_left _ hq,z⟩
    ·exact⟨p,mem_append_right _ (.head _),z⟩
  refine⟨[some (.ref c),some (f0v G K),some (a0b n),some (a0b (G.num p)),b],rfl,seq ?_⟩;walk_at"";refine a0i hc.c rfl (b0s h.g rfl ?_);walk_at"";refine o0v W h hv ⟨by decide,seq ?_⟩;unfold nxV;cases hx:G.nxt p with
  | none=>
   walk_at"";rw[if_neg (by decide)];refine b0m (h0k (hP _ _ ⟨rfl,n,(Mac.i3_2 _ _ rfl),fun s=>?_⟩));rw[wt,hn];refine⟨.inl,fun h=>h.elim id fun pz=>?_⟩;obtain⟨x,hx',U⟩:=pz;rw[hx]at hx';cases hx'
  | some x=>
   have hxl:=(W.rts _ _ hx).1;walk_at"";rw[if_pos (by omega)];refine seq ?_;walk_at"";refine h1a (by have:=W.nl;omega) ?_;rw[v0h];refine a0i hc.c rfl (d0n hc.f ?_ (v:=a0b (F[x]?.getD 0)) ?_ ?_)
   ·rw[lmp,hc.n];have:=W.nl;unfold LIM;omega
   ·rw[gmp,geg (by rw[hc.n];omega)];rfl
   rw[v0h];refine⟨by decide,b0m (h0k (hP _ _ ⟨rfl,n ||| 2 ^ x ||| F[x]?.getD 0,(Mac.i3_2 _ _ rfl),fun s=>?_⟩))⟩;rw[wt,←hn,Nat.testBit_or,Nat.testBit_or,Bool.or_eq_true,Bool.or_eq_true,m0y,or_assoc];have e1:(F[x]?.getD 0).testBit s=true↔bt F x s:=Iff.rfl;rw[e1,hc.t];constructor
   ·rintro(h | h)
    ·exact .inl h
    ·exact .inr (Mac.i3_1 x hx h)
   ·rintro(h | ⟨y,hy,h⟩)
    ·exact .inl h
    ·rw[hx]at hy;cases hy;exact .inr h
 ·clear h hc;obtain⟨rfl,n,⟨a,b,rfl⟩,hn⟩:=hI;rw[lmp,take_length]at hn;refine d0s ?_;walk_at"";exact q n hn
end
noncomputable def q0u(G:PG)(K:List a0n)(l:List Nat):List Nat:=(l.filter fun n=>decide ((n,0)∉K)).map fun n=>G.num (n,0)
theorem w0g{G:PG}{K:List a0n}(hK:∀ p∈K,G.val p){p:a0n}(hp:G.val p):a0b (G.num p)∈(K.map fun p=>a0b (G.num p))↔p∈K:=by
 rw[mem_map];constructor
 ·rintro⟨q,hq,e⟩;have e':G.num q=G.num p:=by
   have:((G.num q:Nat):Int)=(G.num p:Nat):=by injection e
   omega
  rw[← g0c G (hK q hq) hp e'];exact hq
 ·exact fun h=>(Mac.i3_1 p h rfl)
theorem a1s(l:List Nat):e0d (l.map a0b)=true:=by
 unfold e0d;rw[all_map,all_eq_true];exact fun U U=>rfl
theorem a1r(G:PG)(K:List a0n):e0d (K.map fun p=>a0b (G.num p))=true:=by
 unfold e0d;rw[all_map,all_eq_true];exact fun U U=>rfl
theorem x0n{G:PG}{s n:Nat}(h:n∈G.by_ s):n<G.rs.length∧G.lf n=s:=by
 unfold PG.by_ at h;rw[mem_filter,mem_range,beq_iff_eq]at h;exact h
theorem d1c{α β:Type}(l:List α)(f:α→List β){i:Nat}(hi:i<l.length):(l.take (i+1)).flatMap f=(l.take i).flatMap f++f l[i]:=by
 rw[tsg hi,flatMap_append];simp
section
variable {G:PG}(W:WF G){H:MH}{g c fa:Addr}{D:GHd}{F:List Nat}{k:Nat}{Q:a0d}(h:GH H g G D)(hc:ClH H c g G fa F)
include W h hc
theorem d1x{K:List a0n}(hK:∀ p∈K,G.val p)(q:∀ (l:List Nat) d H',l.Nodup→(∀ v,v∈l↔∃ n,v=G.num (n,0)∧n<G.rs.length∧y0v G K (G.lf n)∧(n,0)∉K)→H d=none→H' d=some (.list (l.map a0b))→Ext H H'→Q (.ref d) H'):a0f (k+3) 7 [.ref c,f0v G K] H Q:=by
 refine a0c [some (.ref c),some (f0v G K),none,none,none,none] rfl rfl (seq ?_);walk_at"";refine a0h (by decide) fun d H1 hd h1 e1 b1=>⟨by decide,seq ?_⟩;walk_at"";refine b0s (e1 _ _ hc.c) rfl ?_;walk_at"";refine d1q W (h.ext e1) (hc.ext e1) hK fun n hn=>?_;have hsmall:∀ s,n.testBit s=true→s<G.nm.length:=fun s hs=>by
  obtain⟨p,U,x,hx,hw⟩:=(hn s).mp hs;rcases hw with rfl | hw
  ·exact(W.rts _ _ hx).1
  ·exact(r1k W hw).2
 refine h1w (j1o fun s hs=>Nat.lt_of_lt_of_le (hsmall s hs) W.nl) fun bl b H2 hbl hmem hb h2 e2 b2=>c0l h2 ?_;have hbd:b≠d:=(a0t hb h1).symm;have lenl:∀ l:List Nat,(∀ n∈l,n<G.rs.length)→l.Nodup→l.length≤24:=fun l hl hnd=>by
  have:=b0q l (List.range G.rs.length) hnd fun x hx=>mem_range.mpr (hl x hx);rw[length_range]at this;have:=W.rn;omega
 have hfl:∀ l:List Nat,l.Pairwise (·<·)→(l.flatMap fun s=>G.by_ s).Nodup∧∀ n∈(l.flatMap fun s=>G.by_ s),n<G.rs.length:=fun l hl=>by
  refine⟨?_,fun n hn=>?_⟩
  ·refine pairwise_flatMap (r:=(·≠·)) (s:=(·<·)) (fun s=>a0r (pairwise_lt_range.sublist filter_sublist)) (fun a b hab x hx y hy=>?_) hl;rintro rfl;have:=(x0n hx).2;have:=(x0n hy).2;omega
  ·obtain⟨s,U,hs⟩:=mem_flatMap.mp hn;exact(x0n hs).1
 refine a0s (fun i m H'=>(∃ x y z,m=[some (.ref c),some (f0v G K),some (.ref d),x,y,z])∧Ext H H'∧H' b=some (.list (bl.map a0b))∧H' d=some (.list ((q0u G K ((bl.take i).flatMap fun s=>G.by_ s)).map a0b)))
  (Mac.i4_0 (Mac.i4_3 _ _ _ rfl) (e1.trans e2) h2 (e2 _ _ h1)) (fun i m H' hI=>hI.2.2.1) (fun i m H' x P hx hI hP=>?_) fun m H' hI=>?_
 ·obtain⟨⟨x1,y1,z1,rfl⟩,e',hb',hd'⟩:=hI;rw[gmp]at hx;obtain⟨s,hs,rfl⟩:=map_eq_some_iff.mp hx;obtain⟨hil,hsi⟩:=gsm hs;have hsn:s<G.nm.length:=hsmall s ((hmem s).mp (mog hs));refine⟨[some (.ref c),some (f0v G K),some (.ref d),some (a0b s),y1,z1],rfl,seq ?_⟩;walk_at"";refine a0i ((hc.ext e').c) rfl (b0s (h.ext e').g rfl ?_);walk_at"";refine u0q W (h.ext e') hsn fun r H3 hr h3 e3 b3=>c0l h3 ?_;have hrd:r≠d:=(a0t hr hd').symm;have hrb:r≠b:=(a0t hr hb').symm;refine a0s (fun j m H'=>(∃ y z,m=[some (.ref c),some (f0v G K),some (.ref d),some (a0b s),y,z])∧Ext H H'∧H' b=some (.list (bl.map a0b))∧H' r=some (.list ((G.by_ s).map a0b))∧
    H' d=some (.list ((q0u G K ((bl.take i).flatMap fun s=>G.by_ s)++q0u G K ((G.by_ s).take j)).map a0b)))
   (Mac.i5_0 (Mac.i3_2 _ _ rfl) (e'.trans e3) (e3 _ _ hb') h3 (by rw[e3 _ _ hd'];simp[q0u])) (fun i m H' hI=>hI.2.2.2.1) (fun j m H' x P' hx hI hP'=>?_) fun m H' hI=>?_
  ·obtain⟨⟨y2,z2,rfl⟩,e4,hb4,hr4,hd4⟩:=hI;rw[gmp]at hx;obtain⟨n',hn',rfl⟩:=map_eq_some_iff.mp hx;obtain⟨hjl,hnj⟩:=gsm hn';have hnl:=(x0n (mog hn')).1;have hv:G.val (n',0):=⟨hnl,Nat.zero_le _⟩;have tk:q0u G K ((G.by_ s).take (j+1))=q0u G K ((G.by_ s).take j)++q0u G K [n']:=by
    unfold q0u;rw[tsg hjl,hnj,filter_append,map_append]
   refine⟨[some (.ref c),some (f0v G K),some (.ref d),some (a0b s),some (a0b n'),z2],rfl,seq ?_⟩;walk_at"";refine a0i ((hc.ext e4).c) rfl (b0s (h.ext e4).g rfl ?_);walk_at"";refine j0g W (h.ext e4) (d:=0) hnl ⟨by decide,seq ?_⟩;walk_at"";refine inT rfl (a1r G K) ?_;have en:a0b (G.off n'+0)=a0b (G.num (n',0)):=rfl;by_cases hm:(n',0)∈K
   ·rw[en,g0v ((w0g hK hv).mpr hm),if_neg (by decide)];refine b0m (h0k (hP' _ _ (Mac.i5_0 (Mac.i3_2 _ _ rfl) e4 hb4 hr4 ?_)));rw[hd4,tk];have:q0u G K [n']=[]:=by unfold q0u;rw[filter_cons,if_neg (by simpa using hm)];rfl
    rw[this,append_nil]
   ·rw[en,g0u (fun z=>hm ((w0g hK hv).mp z)),if_pos (by decide)];have one:q0u G K [n']=[G.num (n',0)]:=by unfold q0u;rw[filter_cons,if_pos (by simpa using hm)];rfl
    refine seq ?_;walk_at"";refine⟨a0p hd4 (by decide),b0o hd4 ?_ fun H5 h5 b5=>⟨rfl,b0m (h0k (hP' _ _ (Mac.i5_0 (Mac.i3_2 _ _ rfl) (e4.but hd b5) (by rw[b5 b hbd];exact hb4) (by rw[b5 r hrd];exact hr4) ?_)))⟩⟩
    ·have q1:=hfl (bl.take i) (hbl.sublist (take_sublist _ _));have h1':=lenl _ q1.2 q1.1;have h2':=lenl (G.by_ s) (fun n hn=>(x0n hn).1) (a0r (pairwise_lt_range.sublist filter_sublist));rw[lmp,length_append];unfold q0u;rw[lmp,lmp];have a1:=length_filter_le (fun n=>decide ((n,0)∉K)) ((bl.take i).flatMap fun s=>G.by_ s);have a2:=length_filter_le (fun n=>decide ((n,0)∉K)) ((G.by_ s).take j);have a3:=length_take_le j (G.by_ s);unfold LIM;omega
    ·rw[h5,tk,one,←append_assoc,map_append (l₂:=[G.num (n',0)])];rfl
  ·obtain⟨⟨y2,z2,rfl⟩,e4,hb4,hr4,hd4⟩:=hI;rw[lmp,take_length]at hd4;refine h0k (hP _ _ (Mac.i4_0 (Mac.i4_3 _ _ _ rfl) e4 hb4 ?_));rw[hd4,d1c bl _ hil,hsi]
   congr 3
   unfold q0u;rw[filter_append,map_append]
 ·obtain⟨⟨x1,y1,z1,rfl⟩,e',hb',hd'⟩:=hI;rw[lmp,take_length]at hd';obtain⟨q1,q2⟩:=hfl bl hbl;refine d0s ?_;walk_at"";refine f0l hd' (k0u ?_ fun l' z H3 hp hs hz h3 e3 b3=>?_)
  ·unfold q0u;rw[lmp];have a1:=length_filter_le (fun n=>decide ((n,0)∉K)) (bl.flatMap fun s=>G.by_ s);have:=lenl _ q2 q1;unfold LIM;omega
  ·refine q l' z H3 ?_ (fun v=>?_) (e'.none hz) h3 (e'.trans e3)
   ·rw[hp.nodup_iff];unfold q0u;rw[nodup_iff_pairwise_ne,pairwise_map];refine List.Pairwise.imp_of_mem (R:=(·≠·)) (fun {a b} ha hb hab e=>?_) (q1.sublist filter_sublist);have va:G.val (a,0):=⟨q2 a (mem_filter.mp ha).1,Nat.zero_le _⟩;have vb:G.val (b,0):=⟨q2 b (mem_filter.mp hb).1,Nat.zero_le _⟩;have:=g0c G va vb e;clear hb e vb;cases this;exact hab rfl
   ·rw[hp.mem_iff];unfold q0u;rw[mem_map];constructor
    ·rintro⟨n',hn',rfl⟩;rw[mem_filter,decide_eq_true_eq]at hn';obtain⟨hn1,hn2⟩:=hn';obtain⟨s,hs,hb''⟩:=mem_flatMap.mp hn1;obtain⟨l1,l2⟩:=x0n hb'';exact⟨n',rfl,l1,(hn _).mp ((hmem _).mp (l2▸hs)),hn2⟩
    ·rintro⟨n',rfl,hl,hw,hk⟩;refine⟨n',?_,rfl⟩;rw[mem_filter,decide_eq_true_eq];refine⟨mem_flatMap.mpr (Mac.i3_1 (G.lf n') ((hmem _).mpr ((hn _).mpr hw)) ?_),hk⟩;unfold PG.by_;rw[mem_filter,mem_range,beq_iff_eq];exact⟨hl,rfl⟩
end
theorem o0a{α β:Type}{f:α→β}{φ:α→Prop}:∀ {l:List β},(∀ v∈l,∃ p,φ p∧v=f p)→∃ P:List α,l=P.map f∧∀ p∈P,φ p
 | [],_=>(Mac.i3_1 [] rfl (fun U h=>nomatch h))
 | v::l,h=>by
  obtain⟨p,hp,rfl⟩:=h v (.head _);obtain⟨P,rfl,hP⟩:=o0a fun w hw=>h w (.tail _ hw);exact⟨p::P,rfl,fun q hq=>(mem_cons.mp hq).elim (fun e=>e▸hp) (hP q)⟩
theorem h0n{G:PG}:∀ {l:List a0n},l.Pairwise ltI→(∀ p∈l,G.val p)→(l.map fun p=>G.num p).Pairwise (·<·)
 | [],_,_=>.nil
 | p::l,h,hv=>by
  rw[pairwise_cons]at h;rw[map_cons,pairwise_cons];refine⟨fun v hv'=>?_,h0n h.2 fun q hq=>hv q (.tail _ hq)⟩;obtain⟨q,hq,rfl⟩:=mem_map.mp hv';exact b1v G (hv p (.head _)) (hv q (.tail _ hq)) (h.1 q hq)
theorem c0b{G:PG}(W:WF G){l:List a0n}(h:l.Nodup)(hv:∀ p∈l,G.val p):l.length≤24:=
 Nat.le_trans (b0q l G.all h fun p hp=>(j0i G).mpr (hv p hp)) W.small
theorem e0b{l:List a0n}(h:l.Pairwise ltI):l.Nodup:=List.Pairwise.imp (fun {a b} (h:ltI a b) (e:a=b)=>b1n a (by rw[← e]at h;exact h)) h
section
variable {G:PG}(W:WF G){H:MH}{g c fa:Addr}{D:GHd}{F:List Nat}{k:Nat}{Q:a0d}(h:GH H g G D)
include W h
theorem e1j(hc:ClH H c g G fa F){K:List a0n}(hs:K.Pairwise ltI)(hK:∀ p∈K,G.val p)(q:∀ (P:List a0n) d H',P.Nodup→(∀ p,p∈P↔p∈clo G K)→H d=none→H' d=some (.list (P.map fun p=>a0b (G.num p)))→Ext H H'→Q (.ref d) H'):a0f (k+4) 8 [.ref c,f0v G K] H Q:=by
 refine a0c [some (.ref c),some (f0v G K)] rfl rfl (d0s ?_);walk_at"";have e0:(K.map fun p=>a0b (G.num p))=(K.map fun p=>G.num p).map a0b:=by rw[map_map];rfl
 show m0s (K.map fun p=>a0b (G.num p)) H _;rw[e0];have hn:=h0n hs hK;have hl:=c0b W (e0b hs) hK;refine k0u (by rw[lmp];unfold LIM;omega) fun l1 a H1 hp1 hs1 ha h1 e1 b1=>b0s (e1 _ _ hc.c) rfl ?_;walk_at"";refine d1x W (h.ext e1) (hc.ext e1) hK fun l2 b H2 hnd hm hb h2 e2=>?_;have key:∀ v∈l1++l2,∃ p,p∈clo G K∧v=G.num p:=fun v hv=>by
  rcases mem_append.mp hv with hv | hv
  ·obtain⟨p,hp,rfl⟩:=mem_map.mp (hp1.mem_iff.mp hv);exact⟨p,(h0i hK).mpr (.base hp),rfl⟩
  ·obtain⟨n,rfl,h1,h2,h3⟩:=(hm v).mp hv;exact⟨(n,0),(h0i hK).mpr (g1q.mpr (.inr (Mac.i4_1 n rfl h1 h2))),rfl⟩
 obtain⟨P,hP,hPv⟩:=o0a key;have nd:(l1++l2).Nodup:=by
  rw[nodup_append];refine⟨hp1.nodup_iff.mpr (a0r hn),hnd,fun v hv w hw e=>?_⟩;subst e;obtain⟨p,hp,rfl⟩:=mem_map.mp (hp1.mem_iff.mp hv);obtain⟨n,e,h1,h2,h3⟩:=(hm _).mp hw;have:=g0c G (hK p hp) (q:=(n,0)) ⟨h1,Nat.zero_le _⟩ e;clear hv hw e;subst this;exact h3 hp
 have ndP:P.Nodup:=by
  rw[hP]at nd;exact List.Pairwise.of_map _ (fun a b hab e=>hab (by rw[e])) nd
 have len:(l1++l2).length≤24:=by
  rw[hP,lmp];exact c0b W ndP fun p hp=>b0p p (hPv p hp)
 rw[length_append]at len;refine h1t (e2 _ _ h1) h2 (by rw[lmp,lmp];unfold LIM;omega) fun d H3 hd h3 e3 b3=>q P d H3 ndP (fun p=>⟨hPv p,fun hp=>?_⟩) ((e1.trans e2).none hd) ?_ ((e1.trans e2).trans e3)
 ·have hm2:G.num p∈l1++l2:=by
   rcases g1q.mp ((h0i hK).mp hp) with hp' | ⟨n,rfl,h1,h2⟩
   ·exact mem_append_left _ (hp1.mem_iff.mpr (mem_map.mpr (Mac.i3_1 p hp' rfl)))
   ·by_cases z:(n,0)∈K
    ·exact mem_append_left _ (hp1.mem_iff.mpr (mem_map.mpr (Mac.i3_1 _ z rfl)))
    ·exact mem_append_right _ ((hm _).mpr (Mac.i5_1 n rfl h1 h2 z))
  rw[hP]at hm2;obtain⟨p',hp',e⟩:=mem_map.mp hm2;rw[← g0c G (b0p _ (hPv p' hp')) (b0p _ hp) e];exact hp'
 ·rw[h3,←map_append,hP,map_map];rfl
theorem t0c{p:a0n}(hp:G.val p)(q:Q (a0b (G.num (p.1,p.2+1))) H):a0f (k+2) 9 [.ref g,a0b (G.num p)] H Q:=by
 refine a0c [some (.ref g),some (a0b (G.num p))] rfl rfl (d0s ?_);walk_at"";refine b0s h.g rfl ?_;walk_at"";refine b0s h.g rfl ?_;walk_at"";refine j0q W h hp (b0s h.g rfl ?_);walk_at"";refine a1i W h hp ?_;exact j0g W h (d:=p.2+1) hp.1 q
end
noncomputable def j0o(G:PG)(C:List a0n):List Nat:=(List.range G.rs.length).filter fun n=>decide (n≠0)&&decide ((n,(G.rt n).length)∈C)
theorem w0h{G:PG}{C:List a0n}{n:Nat}:n∈j0o G C↔n<G.rs.length∧n≠0∧(n,(G.rt n).length)∈C:=by
 unfold j0o;rw[mem_filter,mem_range,Bool.and_eq_true,decide_eq_true_eq,decide_eq_true_eq]
theorem w0q(G:PG)(C:List a0n):(j0o G C).Pairwise (·<·):=pairwise_lt_range.sublist filter_sublist
theorem l0b{G:PG}{p:a0n}(h:G.val p):G.nxt p=none↔p.2=(G.rt p.1).length:=by
 unfold PG.nxt;rw[List.getElem?_eq_none_iff];have:=h.2;omega
section
variable {G:PG}(W:WF G){H:MH}{g it:Addr}{D:GHd}{k:Nat}{Q:a0d}(h:GH H g G D)
include W h
theorem t0m{P C:List a0n}(hi:H it=some (.list (P.map fun p=>a0b (G.num p))))(hn:P.Nodup)(hm:∀ p,p∈P↔p∈C)(hv:∀ p∈C,G.val p)
  (q:∀ d H',H d=none→H' d=some (.list ((j0o G C).map a0b))→Ext H H'→Q (.ref d) H'):a0f (k+2) 11 [.ref g,.ref it] H Q:=by
 have hvP:∀ p∈P,G.val p:=fun p hp=>hv p ((hm p).mp hp);have lenP:=c0b W hn hvP;refine a0c [some (.ref g),some (.ref it),none,none] rfl rfl (seq ?_);walk_at"";refine a0h (by decide) fun d H1 hd h1 e1 b1=>⟨by decide,seq ?_⟩;walk_at"";refine c0l (e1 _ _ hi) (a0s (fun i m H'=>(∃ x,m=[some (.ref g),some (.ref it),some (.ref d),x])∧Ext H H'∧H' d=some (.list ((((P.take i).filter fun p=>(G.nxt p).isNone&&decide (p.1≠0)).map fun p=>p.1).map a0b)))
  (Mac.i3_0 ⟨_,rfl⟩ e1 h1) (fun i m H' hI=>hI.2.1 _ _ hi) (fun i m H' x K hx hI hK=>?_) fun m H' hI=>?_)
 ·obtain⟨⟨x1,rfl⟩,e',hd'⟩:=hI;obtain⟨p,hp,rfl⟩:=p0u hx;obtain⟨hil,hpi⟩:=gsm hp;have hvp:=hvP p (mog hp);have tk:P.take (i+1)=P.take i++[p]:=by rw[tsg hil,hpi]
  have no:((G.nxt p).isNone&&decide (p.1≠0))=false→((((P.take (i+1)).filter fun p=>(G.nxt p).isNone&&decide (p.1≠0)).map fun p=>p.1).map a0b)=((((P.take i).filter fun p=>(G.nxt p).isNone&&decide (p.1≠0)).map fun p=>p.1).map a0b):=fun z=>by
   rw[tk,filter_append,filter_cons,if_neg (by rw[z];decide)];simp
  refine⟨[some (.ref g),some (.ref it),some (.ref d),some (a0b (G.num p))],rfl,seq ?_⟩;walk_at"";refine b0s (h.ext e').g rfl ?_;walk_at"";refine o0v W (h.ext e') hvp ?_;unfold nxV;cases hx:G.nxt p with
  | some x=>
   walk_at"";rw[if_neg (by omega),if_neg (by decide)];refine b0m (h0k (hK _ _ (Mac.i3_0 ⟨_,rfl⟩ e' ?_)));rw[no (by rw[hx];rfl)];exact hd'
  | none=>
   walk_at"";rw[if_pos (by decide)];refine b0s (h.ext e').g rfl ?_;walk_at"";refine j0q W (h.ext e') hvp ?_;walk_at"";by_cases z:p.1=0
   ·have hz:((p.1:Nat):Int)=0:=by omega
    rw[decide_eq_true hz];simp only[Bool.not_true,Bool.false_eq_true,if_false];refine b0m (h0k (hK _ _ (Mac.i3_0 ⟨_,rfl⟩ e' ?_)));rw[no (by rw[hx];simp[z])];exact hd'
   ·have hz:¬ ((p.1:Nat):Int)=0:=by omega
    rw[decide_eq_false hz];simp only[Bool.not_false,if_true];refine seq ?_;walk_at"";refine⟨a0p hd' (by decide),b0s (h.ext e').g rfl ?_⟩;walk_at"";refine j0q W (h.ext e') hvp (b0o hd' ?_ fun H2 h2 b2=>⟨rfl,b0m (h0k (hK _ _ (Mac.i3_0 ⟨_,rfl⟩ (e'.but hd b2) ?_)))⟩)
    ·rw[lmp,lmp];have a1:=length_filter_le (fun p=>(G.nxt p).isNone&&decide (p.1≠0)) (P.take i);have a2:=length_take_le i P;unfold LIM;omega
    ·rw[h2,tk,filter_append,filter_cons,if_pos (by rw[hx];simp[z])];simp
 ·obtain⟨⟨x1,rfl⟩,e',hd'⟩:=hI;rw[lmp,take_length]at hd';refine d0s ?_;walk_at"";refine f0l hd' (k0u ?_ fun l' z H3 hp hs hz h3 e3 b3=>?_)
  ·rw[lmp];have a1:=length_filter_le (fun p=>(G.nxt p).isNone&&decide (p.1≠0)) P;unfold LIM;omega
  ·have hq:l'=j0o G C:=by
    refine b0e (b0r hs ?_) (w0q G C) fun n=>?_
    ·rw[hp.nodup_iff,nodup_iff_pairwise_ne,pairwise_map];refine List.Pairwise.imp_of_mem (R:=(·≠·)) (fun {a b} ha hb hab e=>?_) (hn.sublist filter_sublist);rw[mem_filter,Bool.and_eq_true,isNone_iff_eq_none]at ha hb;have ea:=(l0b (hvP a ha.1)).mp ha.2.1;have eb:=(l0b (hvP b hb.1)).mp hb.2.1;refine hab (Prod.ext e ?_);rw[ea,eb,e]
    ·rw[hp.mem_iff,mem_map,w0h];constructor
     ·rintro⟨p,hp',rfl⟩;rw[mem_filter,Bool.and_eq_true,isNone_iff_eq_none,decide_eq_true_eq]at hp';have hv':=hvP p hp'.1;have e:=(l0b hv').mp hp'.2.1;refine⟨hv'.1,hp'.2.2,?_⟩;rw[← hm,←e];exact hp'.1
     ·rintro⟨h1,h2,h3⟩;refine⟨(n,(G.rt n).length),?_,rfl⟩;rw[mem_filter,Bool.and_eq_true,isNone_iff_eq_none,decide_eq_true_eq];exact⟨(hm _).mpr h3,(l0b (hv _ h3)).mpr rfl,h2⟩
   clear hp hs;subst hq;exact q z H3 (e'.none hz) h3 (e'.trans e3)
end
noncomputable def nkv(ss:List (Nat×a0a)):List (a0a×a0a):=ss.map fun q=>(a0b q.1,q.2)
theorem d0r{a b:Nat}(h:a0b a=a0b b):a=b:=by
 have:((a:Nat):Int)=(b:Nat):=by injection h
 omega
open Classical in
theorem d0g(s:Nat):∀ ss:List (Nat×a0a),c0q (nkv ss) (a0b s)=ss.lookup s
 | []=>rfl
 | (k,v)::ss=>by
  have ih:=d0g s ss;unfold c0q nkv at ih ⊢;rw[map_cons,find?_cons,lookup_cons];by_cases e:k=s
  ·clear ih;subst e;rw[decide_eq_true rfl,beq_self_eq_true];rfl
  ·have h1:(s == k)=false:=by simpa using fun z:s=k=>e z.symm
   rw[h1,decide_eq_false (fun z=>e (d0r z))];exact ih
noncomputable def putN(ss:List (Nat×a0a))(s:Nat)(v:a0a):List (Nat×a0a):=if s∈ss.map (·.1) then ss.map (fun q=>if q.1=s then(q.1,v) else q) else ss++[(s,v)]
open Classical in
theorem i0s(ss:List (Nat×a0a))(s:Nat)(v:a0a):f0k (nkv ss) (a0b s) v=nkv (putN ss s v):=by
 have hm:a0b s∈(nkv ss).map (·.1)↔s∈ss.map (·.1):=by
  unfold nkv;rw[map_map,mem_map,mem_map];constructor
  ·rintro⟨q,h,e⟩;exact⟨q,h,d0r e⟩
  ·rintro⟨q,h,e⟩;exact⟨q,h,by show a0b q.1=_;rw[e]⟩
 unfold f0k putN;by_cases z:s∈ss.map (·.1)
 ·rw[if_pos (hm.mpr z),if_pos z];unfold nkv;rw[map_map,map_map];refine map_congr_left fun q U=>?_;show(if a0b q.1=a0b s then(a0b q.1,v) else(a0b q.1,q.2))=_
  by_cases e:q.1=s
  ·rw[if_pos (by rw[e])];show _=(a0b (if q.1=s then(q.1,v) else q).1,(if q.1=s then(q.1,v) else q).2);rw[if_pos e]
  ·rw[if_neg (fun z=>e (d0r z))];show _=(a0b (if q.1=s then(q.1,v) else q).1,(if q.1=s then(q.1,v) else q).2);rw[if_neg e]
 ·rw[if_neg (fun h=>z (hm.mp h)),if_neg z];unfold nkv;rw[map_append];rfl
theorem a0z{α:Type}:∀ {l:List (Nat×α)} {x:Nat} {v:α},(l.map (·.1)).Nodup→(x,v)∈l→l.lookup x=some v
 | (y,w)::l,x,v,hn,h=>by
  rw[map_cons,nodup_cons]at hn;rw[lookup_cons];rcases mem_cons.mp h with e | h2
  ·clear h;cases e;rw[beq_self_eq_true]
  ·have:(x == y)=false:=by
    rw[beq_eq_false_iff_ne];intro e;exact hn.1 (mem_map.mpr (Mac.i3_1 _ h2 e))
   rw[this];exact a0z hn.2 h2
theorem j0x{α:Type}:∀ {l:List (Nat×α)} {x:Nat},x∉l.map (·.1)→l.lookup x=none
 | [],_,_=>rfl
 | (y,w)::l,x,h=>by
  rw[map_cons,mem_cons,not_or]at h;rw[lookup_cons];have:(x == y)=false:=by simpa using h.1
  rw[this];exact j0x h.2
theorem g0a(ss:List (Nat×a0a)):(nkv ss).length=ss.length:=by unfold nkv;rw[lmp]
noncomputable def b1m(G:PG)(P:List a0n)(s:Nat):List Nat:=(P.filter fun p=>decide (G.nxt p=some s)).map fun p=>G.num (p.1,p.2+1)
theorem r0w{G:PG}(P:List a0n)(p:a0n)(s:Nat):b1m G (P++[p]) s=b1m G P s++(if G.nxt p=some s then[G.num (p.1,p.2+1)] else[]):=by
 unfold b1m;rw[filter_append,map_append,filter_cons];by_cases e:G.nxt p=some s
 ·rw[if_pos (decide_eq_true e),if_pos e];rfl
 ·rw[if_neg (by simpa using e),if_neg e];rfl
theorem w0f{G:PG}(P:List a0n)(s:Nat):(b1m G P s).length≤P.length:=by
 unfold b1m;rw[lmp];exact length_filter_le _ _
abbrev SS:=List (Nat×Addr)
noncomputable def ssV(ss:SS):List (Nat×a0a):=ss.map fun q=>(q.1,a0a.ref q.2)
theorem m0v(ss:SS):(ssV ss).map (·.1)=ss.map (·.1):=by unfold ssV;rw[map_map];rfl
theorem y0n{ss:SS}{x:Nat}{a:Addr}(hn:(ss.map (·.1)).Nodup)(h:(x,a)∈ss):(ssV ss).lookup x=some (.ref a):=
 a0z (by rw[m0v];exact hn) (mem_map.mpr (Mac.i3_1 _ h rfl))
structure KB(G:PG)(H H':MH)(fd:Addr)(P:List a0n)(ss:SS):Prop where
 e:Ext H H'
 d:∃ ep,H' fd=some (.dict 1 (nkv (ssV ss)) ep)
 k:(ss.map (·.1)).Nodup
 a:(ss.map (·.2)).Nodup
 l:∀ s a,(s,a)∈ss→H a=none∧a≠fd∧H' a=some (.list ((b1m G P s).map a0b))
section
variable {G:PG}(W:WF G){H:MH}{g it:Addr}{D:GHd}{k:Nat}{Q:a0d}(h:GH H g G D)
include W h
theorem q1q{P C:List a0n}(hi:H it=some (.list (P.map fun p=>a0b (G.num p))))(hn:P.Nodup)(hm:∀ p,p∈P↔p∈C)(hv:∀ p∈C,G.val p)
  (q:∀ d ep H',H d=none→H' d=some (.dict 1 (nkv ((nxs G C).map fun s=>(s,f0v G (ovr G C s)))) ep)→Ext H H'→Q (.ref d) H'):a0f (k+3) 10 [.ref g,.ref it] H Q:=by
 have hvP:∀ p∈P,G.val p:=fun p hp=>hv p ((hm p).mp hp);have lenP:=c0b W hn hvP;have ssl:∀ (ss:SS) i,(ss.map (·.1)).Nodup→(∀ s,s∈ss.map (·.1)→∃ p∈P.take i,G.nxt p=some s)→ss.length≤20:=fun ss i hnd hs=>by
  have:=b0q (ss.map (·.1)) (List.range G.nm.length) hnd fun x hx=>by
   obtain⟨p,U,e⟩:=hs x hx;exact mem_range.mpr (W.rts _ _ e).1
  rw[lmp,length_range]at this;have:=W.nl;omega
 refine a0c [some (.ref g),some (.ref it),none,none,none,none] rfl rfl (seq ?_);walk_at"";refine⟨⟨by decide,by decide⟩,a0q fun fd H1 hfd h1 e1 b1=>⟨by decide,seq ?_⟩⟩;walk_at"";refine c0l (e1 _ _ hi) (a0s (fun i m H'=>(∃ x y,m=[some (.ref g),some (.ref it),some (.ref fd),x,y,none])∧∃ ss,KB G H H' fd (P.take i) ss∧∀ s,s∈ss.map (·.1)↔∃ p∈P.take i,G.nxt p=some s)
  ⟨(Mac.i3_2 _ _ rfl),[],⟨e1,⟨_,h1⟩,nodup_nil,nodup_nil,fun U U h=>nomatch h⟩,fun s=>⟨fun h=>(nomatch h),fun⟨p,hp,_⟩=>by simp at hp⟩⟩ (fun i m H' hI=>by obtain⟨U,ss,hI,U⟩:=hI;exact hI.e _ _ hi) (fun i m H' x K hx hI hK=>?_) fun m H' hI=>?_)
 ·obtain⟨⟨x1,y1,rfl⟩,ss,hB,hks⟩:=hI;obtain⟨p,hp,rfl⟩:=p0u hx;obtain⟨hil,hpi⟩:=gsm hp;have hvp:=hvP p (mog hp);have tk:P.take (i+1)=P.take i++[p]:=by rw[tsg hil,hpi]
  refine⟨[some (.ref g),some (.ref it),some (.ref fd),some (a0b (G.num p)),y1,none],rfl,seq ?_⟩;walk_at"";refine b0s (h.ext hB.e).g rfl ?_;walk_at"";refine o0v W (h.ext hB.e) hvp ⟨by decide,seq ?_⟩;unfold nxV;cases hx:G.nxt p with
  | none=>
   dsimp only;walk_at"";rw[if_neg (by decide)];refine b0m (h0k (hK _ _ ⟨(Mac.i3_2 _ _ rfl),ss,⟨hB.e,hB.d,hB.k,hB.a,fun s a hsa=>?_⟩,fun s=>?_⟩))
   ·rw[tk,r0w,if_neg (by rw[hx];simp),append_nil];exact hB.l s a hsa
   ·rw[hks,tk];constructor
    ·rintro⟨q,hq,e⟩;exact⟨q,mem_append_left _ hq,e⟩
    ·rintro⟨q,hq,e⟩;rcases mem_append.mp hq with hq | hq
     ·exact⟨q,hq,e⟩
     ·rw[mem_singleton]at hq;clear hp hpi hvp tk;subst hq;rw[hx]at e;cases e
  | some x=>
   dsimp only;walk_at"";rw[if_pos (by omega)];have rest:∀ (H2:MH) (ss:SS),KB G H H2 fd (P.take i) ss→x∈ss.map (·.1)→(∀ s,s∈ss.map (·.1)↔(∃ p∈P.take i,G.nxt p=some s)∨s=x)→
     wpB (gam (a0f (k+2))) (.cons (.exp (.bm .append (.sub (.var 2) (.var 4)) (.cons (.call 9 (.cons (.var 0) (.cons (.var 3) .nil))) .nil))) .nil) [some (.ref g),some (.ref it),some (.ref fd),some (a0b (G.num p)),some (a0b x),none] H2 (nxt (gam (a0f (k+2))) .nil K):=by
    intro H2 ss hB hxm hks;obtain⟨⟨x',a⟩,hmem,rfl⟩:=mem_map.mp hxm;dsimp only at *;obtain⟨ep,hd⟩:=hB.d;obtain⟨l1,l2,l3⟩:=hB.l _ _ hmem;have hget:c0q (nkv (ssV ss)) (a0b x')=some (.ref a):=by
     rw[d0g];exact a0z (by rw[m0v];exact hB.k) (mem_map.mpr (Mac.i3_1 _ hmem rfl))
    refine seq ?_;walk_at"";refine w0u hd rfl hget ⟨a0p l3 (by decide),?_⟩;walk_at"";refine t0c W (h.ext hB.e) hvp (b0o l3 ?_ fun H3 h3 b3=>⟨rfl,b0m (h0k (hK _ _ ⟨(Mac.i3_2 _ _ rfl),ss,⟨hB.e.but l1 b3,⟨ep,by rw[b3 _ (Ne.symm l2)];exact hd⟩,hB.k,hB.a,fun s b hsb=>?_⟩,fun s=>?_⟩))⟩)
    ·rw[lmp];have a1:=w0f (G:=G) (P.take i) x';have a2:=length_take_le i P;unfold LIM;omega
    ·obtain⟨q1,q2,q3⟩:=hB.l s b hsb;refine⟨q1,q2,?_⟩;rw[tk,r0w];by_cases e:b=a
     ·clear l1 l2 l3 hget b3;subst e;have:s=x':=b1t hB.a hsb hmem;clear hxm hks hmem;subst this;rw[if_pos hx,h3,map_append];rfl
     ·have hs:s≠x':=by
       clear hx hxm hks l3 hget h3;rintro rfl;have z1:=a0z hB.k hsb;have z2:=a0z hB.k hmem;rw[z1]at z2;exact e (Option.some.inj z2)
      rw[if_neg (by rw[hx];intro z;exact hs (Option.some.inj z).symm),append_nil,b3 b e];exact q3
    ·rw[hks,tk];constructor
     ·clear hmem hxm hks l3 hget h3;rintro(⟨q,hq,e⟩ | rfl)
      ·exact⟨q,mem_append_left _ hq,e⟩
      ·exact⟨p,mem_append_right _ (.head _),hx⟩
     ·rintro⟨q,hq,e⟩;rcases mem_append.mp hq with hq | hq
      ·exact .inl (Mac.i3_1 q hq e)
      ·rw[mem_singleton]at hq;clear hp hpi hvp tk h3;subst hq;rw[hx]at e;exact .inr (Option.some.inj e).symm
   obtain⟨ep,hd⟩:=hB.d;refine seq ?_;walk_at"";refine inD hd rfl ?_;rw[d0g];by_cases hm2:x∈ss.map (·.1)
   ·obtain⟨⟨x',a⟩,hmem,rfl⟩:=mem_map.mp hm2;dsimp only at *;rw[y0n hB.k hmem];simp only[isSome_some,Bool.not_true,Bool.false_eq_true,if_false];refine b0m (rest H' ss hB hm2 fun s=>?_);rw[hks];constructor
    ·exact .inl
    ·clear hmem hx rest;rintro(z | rfl)
     ·exact z
     ·exact(hks _).mp hm2
   ·rw[j0x (by rw[m0v];exact hm2)];simp only[isSome_none,Bool.not_false,if_true];refine seq ?_;walk_at"";have hsl:=ssl ss i hB.k fun s hs=>(hks s).mp hs;refine a0h (by decide) fun a H2 ha h2 e2 b2=>l1i (e2 _ _ hd) rfl (by rw[g0a];unfold ssV LIM;rw[lmp];omega) fun H3 ep' h3 b3=>b0m ?_;have hafd:a≠fd:=(a0t ha hd).symm;refine rest H3 (ss++[(x,a)]) ⟨(hB.e.trans e2).but hfd b3,⟨ep',?_⟩,?_,?_,fun s b hsb=>?_⟩ ?_ fun s=>?_
    ·rw[h3,i0s];unfold putN;rw[if_neg (by rw[m0v];exact hm2)];unfold ssV;rw[map_append];rfl
    ·rw[map_append,nodup_append];refine⟨hB.k,by simp,fun u hu v hv e=>?_⟩;rw[map_cons,map_nil,mem_singleton]at hv;have hv':v=x:=hv;exact hm2 (by rw[← hv',←e];exact hu)
    ·rw[map_append,nodup_append];refine⟨hB.a,by simp,fun u hu v hv e=>?_⟩;rw[map_cons,map_nil,mem_singleton]at hv;obtain⟨⟨s',b⟩,hb,rfl⟩:=mem_map.mp hu;have:=(hB.l _ _ hb).2.2;dsimp only at e hv;rw[e,hv,ha]at this;cases this
    ·rcases mem_append.mp hsb with hsb | hsb
     ·obtain⟨q1,q2,q3⟩:=hB.l s b hsb;refine⟨q1,q2,?_⟩;rw[b3 b q2];exact e2 _ _ q3
     ·rw[mem_singleton]at hsb;cases hsb;refine⟨hB.e.none ha,hafd,?_⟩;rw[b3 _ hafd,h2];have:b1m G (P.take i) x=[]:=by
       unfold b1m;rw[filter_eq_nil_iff.mpr]
       ·rfl
       ·intro q hq z;exact hm2 ((hks x).mpr (Mac.i3_1 q hq (of_decide_eq_true z)))
      rw[this];rfl
    ·rw[map_append];exact mem_append_right _ (.head _)
    ·rw[map_append,mem_append,hks,map_cons,map_nil,mem_singleton]
 ·obtain⟨⟨x1,y1,rfl⟩,ss,hB,hks⟩:=hI;rw[lmp,take_length]at hB hks;obtain⟨ep,hd⟩:=hB.d;have hsl:=ssl ss P.length hB.k fun s hs=>by rw[take_length];exact(hks s).mp hs
  refine seq ?_;walk_at"";refine⟨⟨by decide,by decide⟩,a0q fun od H2 hod h2 e2 b2=>⟨by decide,seq ?_⟩⟩;walk_at"";have ek:(nkv (ssV ss)).map (·.1)=(ss.map (·.1)).map a0b:=by
   unfold nkv ssV;rw[map_map,map_map,map_map];rfl
  refine u0y (e2 _ _ hd) ?_;rw[ek];refine k0u (by rw[lmp];unfold LIM;omega) fun l' sl H3 hp hs hz h3 e3 b3=>c0l h3 ?_;have hl':l'=nxs G C:=by
   refine b0e (b0r hs (hp.nodup_iff.mpr hB.k)) (j0k C) fun s=>?_;rw[hp.mem_iff,hks,h0j];constructor
   ·rintro⟨p,hp',e⟩;exact⟨(W.rts _ _ e).1,p,(hm p).mp hp',e⟩
   ·rintro⟨U,p,hp',e⟩;exact⟨p,(hm p).mpr hp',e⟩
  clear hs;subst hl';have hfo:od≠fd:=(a0t hod hd).symm;have hso:sl≠od:=(a0t hz h2).symm;have h0od:H od=none:=hB.e.none hod;refine a0s (fun j m H'=>(∃ x y,m=[some (.ref g),some (.ref it),some (.ref fd),x,y,some (.ref od)])∧Ext H H'∧H' sl=some (.list ((nxs G C).map a0b))∧H' fd=some (.dict 1 (nkv (ssV ss)) ep)∧(∀ s a,(s,a)∈ss→H' a=some (.list ((b1m G P s).map a0b)))∧
    ∃ ep',H' od=some (.dict 1 (nkv (((nxs G C).take j).map fun s=>(s,f0v G (ovr G C s)))) ep'))
   ⟨(Mac.i3_2 _ _ rfl),(hB.e.trans e2).trans e3,h3,e3 _ _ (e2 _ _ hd),fun s a hsa=>e3 _ _ (e2 _ _ (hB.l s a hsa).2.2),0,e3 _ _ h2⟩ (fun j m H' hI=>hI.2.2.1) (fun j m H' x K hx hI hK=>?_) fun m H' hI=>?_
  ·obtain⟨⟨x2,y2,rfl⟩,e',hsl',hfd',hls',ep',hod'⟩:=hI;rw[gmp]at hx;obtain⟨s,hs',rfl⟩:=map_eq_some_iff.mp hx;obtain⟨hjl,hsj⟩:=gsm hs';have hsm:s∈ss.map (·.1):=hp.mem_iff.mp (mog hs');obtain⟨⟨s',a⟩,hmem,rfl⟩:=mem_map.mp hsm;dsimp only at *;have hget:c0q (nkv (ssV ss)) (a0b s')=some (.ref a):=by
    rw[d0g];exact a0z (by rw[m0v];exact hB.k) (mem_map.mpr (Mac.i3_1 _ hmem rfl))
   have hla:=hls' _ _ hmem;have haod:a≠od:=(a0t hod (hB.l _ _ hmem).2.2);have hl1:=w0f (G:=G) P s';refine⟨[some (.ref g),some (.ref it),some (.ref fd),x2,some (a0b s'),some (.ref od)],rfl,seq ?_⟩;walk_at"";refine w0u hfd' rfl hget (f0l hla (k0u (by unfold LIM;omega) fun q' z H4 hp4 hs4 hz4 h4 e4 b4=>?_));have hq':q'=(ovr G C s').map fun p=>G.num p:=by
    have sv:=h0n (G:=G) (u0l C s') fun p hp=>(f0h.mp hp).1;refine b0e (b0r hs4 ?_) sv fun v=>?_
    ·rw[hp4.nodup_iff];unfold b1m;rw[nodup_iff_pairwise_ne,pairwise_map];refine List.Pairwise.imp_of_mem (R:=(·≠·)) (fun {u w} hu hw huw e=>huw ?_) (hn.sublist filter_sublist);rw[mem_filter,decide_eq_true_eq]at hu hw;have:=g0c G (p:=(u.1,u.2+1)) (q:=(w.1,w.2+1)) ⟨q0c (p:=u) hu.2,o0h (p:=u) hu.2⟩ ⟨q0c (p:=w) hw.2,o0h (p:=w) hw.2⟩ e;injection this with i1 i2;exact Prod.ext i1 (Nat.succ.inj i2)
    ·rw[hp4.mem_iff];unfold b1m;rw[mem_map,mem_map];constructor
     ·rintro⟨u,hu,rfl⟩;rw[mem_filter,decide_eq_true_eq]at hu;exact⟨_,k0y.mpr ⟨(hm u).mp hu.1,hu.2⟩,rfl⟩
     ·rintro⟨⟨n,d⟩,hu,rfl⟩;obtain⟨o1,o2,o3,o4⟩:=f0h.mp hu;dsimp only at o2 o3 o4;refine⟨(n,d-1),?_,?_⟩
      ·rw[mem_filter,decide_eq_true_eq];exact⟨(hm _).mpr o3,o4⟩
      ·show G.num (n,d-1+1)=_;rw[Nat.sub_add_cancel o2]
   have hov:=c0b W (e0b (u0l C s')) (fun p hp=>(f0h.mp hp).1);refine s0s h4 (by rw[lmp,hq',lmp];unfold LIM;omega) (l1i (e4 _ _ hod') rfl ?_ fun H5 ep5 h5 b5=>b0m (hK _ _ ⟨(Mac.i3_2 _ _ rfl),(e'.trans e4).but h0od b5,by rw[b5 _ hso];exact e4 _ _ hsl',by rw[b5 _ (Ne.symm hfo)];exact e4 _ _ hfd',fun s a hsa=>?_,ep5,?_⟩))
   ·rw[g0a,lmp];have:=length_take_le j (nxs G C);have h2':(nxs G C).length≤G.nm.length:=by
     unfold nxs;have:=length_filter_le (fun x=>C.any fun p=>decide (G.nxt p=some x)) (List.range G.nm.length);rw[length_range]at this;exact this
    have:=W.nl;unfold LIM;omega
   ·rw[b5 a (a0t hod (hB.l _ _ hsa).2.2)];exact e4 _ _ (hls' _ _ hsa)
   ·rw[h5,i0s];have hnot:s'∉(((nxs G C).take j).map fun s=>(s,f0v G (ovr G C s))).map (·.1):=by
     rw[map_map];intro z;obtain⟨u,hu,e⟩:=mem_map.mp z;dsimp only[Function.comp]at e;exact c0o (a0r (j0k (G:=G) C)) (by rw[geg hjl,hsj]) (e▸hu)
    unfold putN;rw[if_neg hnot,tsg hjl,hsj,map_append,hq']
    congr 3
    show _++[_]=_++[(s',f0v G (ovr G C s'))];unfold f0v;rw[map_map];rfl
  ·obtain⟨⟨x2,y2,rfl⟩,e',hsl',hfd',hls',ep',hod'⟩:=hI;rw[lmp,take_length]at hod';refine d0s ?_;walk_at"";exact q od ep' H' h0od hod' e'
end
noncomputable def k1h:Option Nat→a0a
 | none=>.int (-1)
 | some x=>a0b x
noncomputable def kkv(G:PG)(Ks:List (List a0n)):List (a0a×a0a):=Ks.zipIdx.map fun q=>(f0v G q.1,a0b q.2)
theorem w0a{G:PG}{K K':List a0n}(h:∀ p∈K,G.val p)(h':∀ p∈K',G.val p)(e:f0v G K=f0v G K'):K=K':=by
 unfold f0v at e;have e:(K.map fun p=>a0b (G.num p))=K'.map fun p=>a0b (G.num p):=by injection e
 induction K generalizing K' with
 | nil=>clear h';cases K' with
  | nil=>rfl
  | cons=>cases e
 | cons p K ih=>cases K' with
  | nil=>cases e
  | cons q K'=>
   rw[map_cons,map_cons,List.cons.injEq]at e;rw[g0c G (h p (.head _)) (h' q (.head _)) (d0r e.1),ih (fun p hp=>h p (.tail _ hp)) (fun p hp=>h' p (.tail _ hp)) (congrArg a0a.tup e.2) e.2]
open Classical in
theorem w0c{G:PG}{K:List a0n}(hK:∀ p∈K,G.val p):∀ (Ks:List (List a0n)) (n:Nat),(∀ L∈Ks,∀ p∈L,G.val p)→
  c0q ((Ks.zipIdx n).map fun q=>(f0v G q.1,a0b q.2)) (f0v G K)=if K∈Ks then some (a0b (n+Ks.idxOf K)) else none
 | [],n,_=>by simp[c0q]
 | L::Ks,n,h=>by
  have ih:=w0c hK Ks (n+1) fun M hM=>h M (.tail _ hM);unfold c0q at ih ⊢;rw[zipIdx_cons,map_cons,find?_cons];by_cases e:L=K
  ·clear hK ih;subst e;rw[decide_eq_true rfl,if_pos (.head _),List.idxOf_cons_self];rfl
  ·rw[decide_eq_false fun z=>e (w0a (h L (.head _)) hK z)];have ec:(L == K)=false:=by simpa using e
   rw[ih,idxOf_cons,ec,cond_false];by_cases m:K∈Ks
   ·rw[if_pos m,if_pos (.tail _ m)]
    congr 2
    omega
   ·rw[if_neg m,if_neg fun z=>(mem_cons.mp z).elim (fun z=>e z.symm) m]
theorem u0a{G:PG}{K:List a0n}{Ks:List (List a0n)}(hK:∀ p∈K,G.val p)(h:∀ L∈Ks,∀ p∈L,G.val p):c0q (kkv G Ks) (f0v G K)=if K∈Ks then some (a0b (Ks.idxOf K)) else none:=by
 have:=w0c hK Ks 0 h;rw[Nat.zero_add]at this;exact this
open Classical in
theorem j1d{G:PG}{K:List a0n}{Ks:List (List a0n)}(hK:∀ p∈K,G.val p)(h:∀ L∈Ks,∀ p∈L,G.val p)(hn:K∉Ks):f0k (kkv G Ks) (f0v G K) (a0b Ks.length)=kkv G (Ks++[K]):=by
 unfold f0k;rw[if_neg]
 ·unfold kkv;rw[List.zipIdx_append,map_append];simp
 ·unfold kkv;rw[map_map,mem_map];rintro⟨⟨L,i⟩,hL,e⟩;have hL':=(List.mem_zipIdx' hL);have hm:L∈Ks:=by
   rw[hL'.2];exact getElem_mem _
  exact hn (w0a (h L hm) hK e▸hm)
theorem k0x(G:PG)(K:List a0n):kindOf (f0v G K)=3:=by
 unfold f0v kindOf;dsimp only;rw[if_pos];rw[all_map,all_eq_true];exact fun U U=>rfl
def SH(G:PG)(H:MH)(i:Nat)(a m:Addr)(K:List a0n)(y:Option Nat)(row:List (Nat×Nat))(dn:Bool)(Z:Addr→Prop):Prop:=
 ∃ it rd ep,H a=some (.inst 0 [a0b i,f0v G K,k1h y,.ref it,.ref m,.ref rd])∧H m=some (.dict 1 (nkv (row.map fun q=>(q.1,a0b q.2))) ep)∧
  (dn=true→¬ Z it∧¬ Z rd∧H rd=some (.list ((j0o G (clo G K)).map a0b))∧∃ P:List a0n,P.Nodup∧(∀ p,p∈P↔p∈clo G K)∧H it=some (.list (P.map fun p=>a0b (G.num p))))
theorem SH.keep{G:PG}{H H':MH}{i:Nat}{a m:Addr}{K:List a0n}{y:Option Nat}{row:List (Nat×Nat)}{dn:Bool}{Z:Addr→Prop}(s:SH G H i a m K y row dn Z)(ka:∀ o,H a=some o→H' a=some o)(km:∀ o,H m=some o→H' m=some o)
  (kl:∀ x l,¬ Z x→H x=some (.list l)→H' x=some (.list l)):SH G H' i a m K y row dn Z:=by
 obtain⟨it,rd,ep,h1,h2,h3⟩:=s;refine⟨it,rd,ep,ka _ h1,km _ h2,fun d=>?_⟩;obtain⟨y1,y2,z1,P,z2,z3,z4⟩:=h3 d;exact⟨y1,y2,kl _ _ y2 z1,P,z2,z3,kl _ _ y1 z4⟩
set_option tactic.hygienic true in
theorem y0o{k:Nat}{a:Addr}{vn vk vs:a0a}{H:MH}{Q:a0d}(ha:H a=some (.inst 0 []))(q:∀ it m rd ep H',H it=none→H m=none→H rd=none→But a H (fun x=>if x=it∨x=m∨x=rd then H x else H' x)→H' a=some (.inst 0 [vn,vk,vs,.ref it,.ref m,.ref rd])→H' m=some (.dict 1 [] ep)→Q .none H') :
  a0f (k+1) 2 [.ref a,vn,vk,vs] H Q:=by
 refine a0c [some (.ref a),some vn,some vk,some vs] rfl rfl (seq ?_);refine g0r ha rfl fun H1 h1 b1=>seq ?_;refine g0r h1 rfl fun H2 h2 b2=>seq ?_;refine g0r h2 rfl fun H3 h3 b3=>seq ?_;walk_at"";refine a0h (by decide) fun it H4 hit h4 e4 b4=>g0r (e4 _ _ h3) rfl fun H5 h5 b5=>seq ?_;walk_at"";refine⟨⟨by decide,by decide⟩,a0q fun m H6 hm h6 e6 b6=>g0r (e6 _ _ h5) rfl fun H7 h7 b7=>seq ?_⟩;walk_at"";refine a0h (by decide) fun rd H8 hrd h8 e8 b8=>g0r (e8 _ _ h7) rfl fun H9 h9 b9=>b0m ?_;have hma:m≠a:=(a0t hm h5).symm;have hita:it≠a:=(a0t hit h3).symm;have hrda:rd≠a:=(a0t hrd h7).symm;have h7m:H7 m=some (.dict 1 [] 0):=by rw[b7 m hma];exact h6
 have hrdm:rd≠m:=(a0t hrd h7m).symm;have h4it:H5 it=some (.list []):=by rw[b5 it hita];exact h4
 have hmit:m≠it:=(a0t hm h4it).symm;have h7it:H7 it=some (.list []):=by rw[b7 it hita];exact e6 _ _ h4it
 have hrdit:rd≠it:=(a0t hrd h7it).symm;refine q it m rd 0 H9 ?_ ?_ ?_ ?_ h9 ?_
 ·rw[← b1 it hita,←b2 it hita,←b3 it hita];exact hit
 ·rw[← b1 m hma,←b2 m hma,←b3 m hma,←b4 m hmit,←b5 m hma];exact hm
 ·rw[← b1 rd hrda,←b2 rd hrda,←b3 rd hrda,←b4 rd hrdit,←b5 rd hrda,←b6 rd hrdm,←b7 rd hrda];exact hrd
 ·intro x hx;dsimp only;split
  ·rfl
  ·rename_i hz;rw[not_or,not_or]at hz;rw[b9 x hx,b8 x hz.2.2,b7 x hx,b6 x hz.2.1,b5 x hx,b4 x hz.1,b3 x hx,b2 x hx,b1 x hx]
 ·rw[b9 m hma];exact e8 _ _ h7m
def Old(H0:MH)(sl:Addr):Addr→Prop:=fun x=>x=sl∨∃ o,H0 x=some o
set_option genCtorIdx false in
structure BB where
 bd:Addr
 c:Addr
 sl:Addr
 nd:Addr
 sa:List Addr
 mv:List Addr
 fa:Addr
 F:List Nat
 D:GHd
structure BH(G:PG)(H0 H:MH)(g:Addr)(B:BB)(Ks:List (List a0n))(ys:List (Option Nat))(rows:Nat→List (Nat×Nat))(dn:Nat→Bool):Prop where
 e:Ext H0 H
 gh:GH H0 g G B.D
 ch:ClH H0 B.c g G B.fa B.F
 bd:H B.bd=some (.inst 3 [.ref g,.ref B.c,.ref B.sl,.ref B.nd])
 sl:H B.sl=some (.list (B.sa.map .ref))
 nd:∃ ep,H B.nd=some (.dict 3 (kkv G Ks) ep)
 ns:B.sa.length=Ks.length
 nm:B.mv.length=Ks.length
 ny:ys.length=Ks.length
 kv:∀ K∈Ks,∀ p∈K,G.val p
 s:∀ (i:Nat) a m K y,B.sa[i]?=some a→B.mv[i]?=some m→Ks[i]?=some K→ys[i]?=some y→SH G H i a m K y (rows i) (dn i) (Old H0 B.sl)
 f1:H0 B.sl=none
 f2:H0 B.nd=none
 f3:∀ a∈B.sa,H0 a=none
 f4:∀ m∈B.mv,H0 m=none
 md:B.mv.Nodup
section
variable {G:PG}(W:WF G){H0 H:MH}{g:Addr}{B:BB}{Ks:List (List a0n)}{ys:List (Option Nat)}{rows:Nat→List (Nat×Nat)}{dn:Nat→Bool}{k:Nat}{Q:a0d}
include W
theorem k0a(h:BH G H0 H g B Ks ys rows dn){K:List a0n}{y:Option Nat}(hK:∀ p∈K,G.val p)(hlim:K∉Ks→Ks.length<LIM)(hl2:Ks.length≤LIM)(hr:K∉Ks→rows Ks.length=[])(hd:K∉Ks→dn Ks.length=false)
  (q1:K∈Ks→Q (a0b (Ks.idxOf K)) H)
  (q2:K∉Ks→∀ a m H',BH G H0 H' g { B with sa:=B.sa++[a],mv:=B.mv++[m] } (Ks++[K]) (ys++[y]) rows dn→(∀ x o,x≠B.sl→x≠B.nd→H x=some o→H' x=some o)→Q (a0b Ks.length) H'):a0f (k+2) 19 [.ref B.bd,f0v G K,k1h y] H Q:=by
 obtain⟨ep,hnd⟩:=h.nd;refine a0c [some (.ref B.bd),some (f0v G K),some (k1h y)] rfl rfl (seq ?_);walk_at"";refine a0i h.bd rfl (inD hnd (k0x G K) ?_);rw[u0a hK h.kv];by_cases hm:K∈Ks
 ·rw[if_pos hm];simp only[isSome_some,Bool.not_true,Bool.false_eq_true,if_false];refine b0m (d0s ?_);walk_at"";refine a0i h.bd rfl (w0u hnd (k0x G K) (by rw[u0a hK h.kv,if_pos hm]) (q1 hm))
 ·rw[if_neg hm];have lim1:(B.sa.map a0a.ref).length=Ks.length:=by rw[lmp,h.ns]
  have hll:=hlim hm;refine seq ?_;walk_at"";refine a0i h.bd rfl (i0p h.sl (by rw[lim1];exact hl2) (a0i h.bd rfl (l1i hnd (k0x G K) (by unfold kkv;rw[lmp,List.length_zipIdx];exact hll) fun H1 ep1 h1 b1=>seq ?_)));rw[lim1]at h1;have n1:B.bd≠B.nd:=by intro z;have:=h.bd;rw[z,hnd]at this;cases this
  have n2:B.sl≠B.nd:=by intro z;have:=h.sl;rw[z,hnd]at this;cases this
  have hbd1:H1 B.bd=_:=(b1 _ n1).trans h.bd;have hsl1:H1 B.sl=_:=(b1 _ n2).trans h.sl;walk_at"";refine a0i hbd1 rfl ⟨a0p hsl1 (by decide),?_⟩;walk_at"";refine a0i hbd1 rfl (i0p hsl1 (by rw[lim1];exact hl2) ?_);walk_at"";rw[lim1];refine l1h fun a H2 ha h2 e2=>y0o h2 fun it m rd ep3 H3 hit hm3 hrd b3 h3 hmv=>⟨rfl,?_⟩;have k3:∀ x o,x≠a→H2 x=some o→H3 x=some o:=fun x o hx e=>by
   have:=b3 x hx;dsimp only at this;rw[if_neg]at this
   ·rw[this];exact e
   ·clear b3 h3 this hmv;rintro(rfl | rfl | rfl)
    ·rw[hit]at e;cases e
    ·rw[hm3]at e;cases e
    ·rw[hrd]at e;cases e
  have hne:∀ x o,H1 x=some o→x≠a:=fun x o e=>a0t ha e;have k13:∀ x o,H1 x=some o→H3 x=some o:=fun x o e=>k3 x o (hne x o e) (e2 _ _ e);refine b0o (k13 _ _ hsl1) (by rw[lim1];exact hll) fun H4 h4 b4=>⟨rfl,b0m (d0s ?_)⟩;have k04:∀ x o,x≠B.sl→x≠B.nd→H x=some o→H4 x=some o:=fun x o x1 x2 e=>by
   rw[b4 x x1];refine k13 x o ?_;rw[b1 x x2];exact e
  have hasl:a≠B.sl:=(hne _ _ hsl1).symm;have hmsl:m≠B.sl:=by first | exact nef (e2 _ _ hsl1) hm3 (fun e=>by cases e) | exact nef hm3 (e2 _ _ hsl1) (fun e=>by cases e)
  have hand:a≠B.nd:=(hne _ _ h1).symm;have h4a:H4 a=some (.inst 0 [a0b Ks.length,f0v G K,k1h y,.ref it,.ref m,.ref rd]):=(b4 a hasl).trans h3;have h4m:H4 m=some (.dict 1 [] ep3):=(b4 m hmsl).trans hmv;have h4nd:H4 B.nd=some (.dict 3 (kkv G (Ks++[K])) ep1):=by
   rw[b4 _ (Ne.symm n2)];refine k13 _ _ ?_;rw[h1,j1d hK h.kv hm]
  have h0a:H0 a=none:=by
   have:=ha;rw[b1 a hand]at this;exact h.e.none this
  have h0m:H0 m=none:=by
   have hmnd:m≠B.nd:=by first | exact nef (e2 _ _ h1) hm3 (fun e=>by cases e) | exact nef hm3 (e2 _ _ h1) (fun e=>by cases e)
   have hm1:H1 m=none:=by
    cases z:H1 m with
    | none=>rfl
    | some o=>rw[e2 _ _ z]at hm3;cases hm3
   rw[b1 m hmnd]at hm1;exact h.e.none hm1
  walk_at"";refine a0i (k04 _ _ (by intro z;have:=h.bd;rw[z,h.sl]at this;cases this) n1 h.bd) rfl (w0u h4nd (k0x G K) (v:=a0b Ks.length) ?_ (q2 hm a m H4 ⟨fun x o e=>?_,h.gh,h.ch,?_,?_,⟨ep1,h4nd⟩,?_,?_,?_,?_,fun i a' m' K' y' g1 g2 g3 g4=>?_,h.f1,h.f2,?_,?_,?_⟩ k04))
  ·rw[u0a hK,if_pos (by simp)]
   ·rw[idxOf_append,if_neg hm];simp
   ·intro L hL p hp;rcases mem_append.mp hL with hL | hL
    ·exact h.kv L hL p hp
    ·rw[mem_singleton]at hL;clear hlim hr hd q1 q2 hm h3 h4a h4nd;subst hL;exact hK p hp
  ·exact k04 x o (a0t h.f1 e) (a0t h.f2 e) (h.e _ _ e)
  ·exact k04 _ _ (by intro z;have:=h.bd;rw[z,h.sl]at this;cases this) n1 h.bd
  ·show H4 B.sl=_;rw[h4];show _=some (j0u.list ((B.sa++[a]).map a0a.ref));rw[map_append];rfl
  ·show(B.sa++[a]).length=_;rw[length_append,length_append,h.ns];rfl
  ·show(B.mv++[m]).length=_;rw[length_append,length_append,h.nm];rfl
  ·rw[length_append,length_append,h.ny];rfl
  ·intro L hL p hp;rcases mem_append.mp hL with hL | hL
   ·exact h.kv L hL p hp
   ·rw[mem_singleton]at hL;clear hlim hr hd q1 q2 hm h3 h4a h4nd;subst hL;exact hK p hp
  ·by_cases hi:i<Ks.length
   ·rw[getElem?_append_left (by rw[h.ns];exact hi)]at g1;rw[getElem?_append_left (by rw[h.nm];exact hi)]at g2;rw[getElem?_append_left hi]at g3;rw[getElem?_append_left (by rw[h.ny];exact hi)]at g4;have sh:=h.s i a' m' K' y' g1 g2 g3 g4;obtain⟨U,U,U,q1',q2',U⟩:=id sh;refine sh.keep (fun o e=>k04 _ _ ?_ ?_ e) (fun o e=>k04 _ _ ?_ ?_ e) fun x l hx e=>k04 _ _ (fun z=>hx (.inl z)) ?_ e
    ·intro z;rw[z,h.sl]at q1';cases q1'
    ·intro z;rw[z,hnd]at q1';cases q1'
    ·intro z;rw[z,h.sl]at q2';cases q2'
    ·intro z;rw[z,hnd]at q2';cases q2'
    ·intro z;rw[z,hnd]at e;cases e
   ·have hi':i=Ks.length:=by
     have:=(gsm g3).1;rw[length_append,length_singleton]at this;omega
    subst hi';rw[getElem?_append_right (by rw[h.ns];omega),h.ns,Nat.sub_self]at g1;rw[getElem?_append_right (by rw[h.nm];omega),h.nm,Nat.sub_self]at g2;rw[getElem?_append_right (by omega),Nat.sub_self]at g3;rw[getElem?_append_right (by rw[h.ny];omega),h.ny,Nat.sub_self]at g4;cases g1;cases g2;cases g3;cases g4;rw[hr hm,hd hm];exact⟨it,rd,ep3,h4a,h4m,fun z=>nomatch z⟩
  ·intro x hx;rcases mem_append.mp hx with hx | hx
   ·exact h.f3 x hx
   ·rw[mem_singleton]at hx;rw[hx];exact h0a
  ·intro x hx;rcases mem_append.mp hx with hx | hx
   ·exact h.f4 x hx
   ·rw[mem_singleton]at hx;rw[hx];exact h0m
  ·rw[nodup_append];refine⟨h.md,by simp,fun u hu v hv e=>?_⟩;rw[mem_singleton]at hv;clear b3 h3 hmv hmsl h4a h4m h0m;subst hv;subst e;obtain⟨i,hi,e⟩:=getElem_of_mem hu;have hi1:i<Ks.length:=by rw[← h.nm];exact hi
   obtain⟨U,U,U,U,q2',U⟩:=h.s i _ u _ _ (geg (by rw[h.ns];exact hi1)) (by rw[geg hi,e]) (geg hi1) (geg (by rw[h.ny];exact hi1));have h1u:H1 u=_:=(b1 u (by intro z;rw[z,hnd]at q2';cases q2')).trans q2';rw[e2 _ _ h1u]at hm3;cases hm3
end
noncomputable def at_{α:Type}(f:Nat→α)(n:Nat)(v:α):Nat→α:=fun i=>if i=n then v else f i
theorem p0d{α:Type}(f:Nat→α)(n:Nat)(v:α):at_ f n v n=v:=if_pos rfl
theorem d1y{α:Type}(f:Nat→α){n i:Nat}(v:α)(h:i≠n):at_ f n v i=f i:=if_neg h
theorem l1r{α:Type}(f:Nat→α)(n:Nat)(v w:α):at_ (at_ f n v) n w=at_ f n w:=by
 funext i
 unfold at_;split <;> rfl
section
variable {G:PG}{H0 H H':MH}{g:Addr}{B:BB}{Ks:List (List a0n)}{ys:List (Option Nat)}{rows:Nat→List (Nat×Nat)}{dn:Nat→Bool}{k:Nat}{Q:a0d}
theorem BH.upd(h:BH G H0 H g B Ks ys rows dn){n:Nat}{a m:Addr}{K:List a0n}{y:Option Nat}{row:List (Nat×Nat)}{d:Bool}(ha:B.sa[n]?=some a)(hm:B.mv[n]?=some m)(hk:Ks[n]?=some K)(hy:ys[n]?=some y)
  (kp:∀ x o,x≠a→x≠m→H x=some o→H' x=some o) (s:SH G H' n a m K y row d (Old H0 B.sl)):BH G H0 H' g B Ks ys (at_ rows n row) (at_ dn n d):=by
 obtain⟨it,rd,ep,s1,s2,U⟩:=h.s n a m K y ha hm hk hy;obtain⟨epd,hnd⟩:=h.nd;refine⟨fun x o e=>kp x o (a0t (h.f3 a (mog ha)) e) (a0t (h.f4 m (mog hm)) e) (h.e _ _ e),h.gh,h.ch,kp _ _ ?_ ?_ h.bd,kp _ _ ?_ ?_ h.sl,⟨epd,kp _ _ ?_ ?_ hnd⟩,h.ns,h.nm,h.ny,h.kv,fun i a' m' K' y' g1 g2 g3 g4=>?_,h.f1,h.f2,h.f3,h.f4,h.md⟩
 ·intro z;have:=h.bd;rw[z,s1]at this;cases this
 ·intro z;have:=h.bd;rw[z,s2]at this;cases this
 ·intro z;have:=h.sl;rw[z,s1]at this;cases this
 ·intro z;have:=h.sl;rw[z,s2]at this;cases this
 ·intro z;rw[z,s1]at hnd;cases hnd
 ·intro z;rw[z,s2]at hnd;cases hnd
 ·by_cases e:i=n
  ·clear s1 s2;subst e;rw[ha]at g1;rw[hm]at g2;rw[hk]at g3;rw[hy]at g4;cases g1;cases g2;cases g3;cases g4;rw[p0d,p0d];exact s
  ·rw[d1y _ _ e,d1y _ _ e];have sh:=h.s i a' m' K' y' g1 g2 g3 g4;obtain⟨it',rd',ep',s1',s2',U⟩:=id sh;refine sh.keep (fun o q=>kp _ _ ?_ ?_ q) (fun o q=>kp _ _ ?_ ?_ q) fun x l hx q=>kp _ _ ?_ ?_ q
   ·intro z;rw[z,s1]at s1';injection s1' with s1';injection s1' with _ s1';injection s1' with s1' _;exact e (d0r s1').symm
   ·intro z;rw[z,s2]at s1';cases s1'
   ·intro z;rw[z,s1]at s2';cases s2'
   ·intro z;obtain⟨l1,e1⟩:=gsm g2;obtain⟨l2,e2⟩:=gsm hm;have hnd':=h.md;rw[nodup_iff_pairwise_ne,pairwise_iff_getElem]at hnd';rcases Nat.lt_trichotomy i n with lt | lt | lt
    ·exact hnd' i n l1 l2 lt (by rw[e1,e2,z])
    ·exact e lt
    ·exact hnd' n i l2 l1 lt (by rw[e1,e2,z])
   ·intro z;rw[z,s1]at q;cases q
   ·intro z;rw[z,s2]at q;cases q
theorem BH.more(h:BH G H0 H g B Ks ys rows dn)(e:Ext H H'):BH G H0 H' g B Ks ys rows dn:=by
 refine⟨h.e.trans e,h.gh,h.ch,e _ _ h.bd,e _ _ h.sl,h.nd.imp fun U z=>e _ _ z,h.ns,h.nm,h.ny,h.kv,fun i a' m' K' y' g1 g2 g3 g4=>(h.s i a' m' K' y' g1 g2 g3 g4).keep (fun o q=>e _ _ q) (fun o q=>e _ _ q) fun x l U q=>e _ _ q,h.f1,h.f2,h.f3,h.f4,h.md⟩
theorem q0b(W:WF G)(C:List a0n):(nxs G C).length≤20:=by
 unfold nxs;have:=length_filter_le (fun x=>C.any fun p=>decide (G.nxt p=some x)) (List.range G.nm.length);rw[length_range]at this;have:=W.nl;omega
theorem c1r(row:List (Nat×Nat)):(row.map fun q=>(q.1,a0b q.2)).map (·.1)=row.map (·.1):=by rw[map_map];rfl
structure t0b(B B':BB):Prop where
 bd:B'.bd=B.bd
 c:B'.c=B.c
 sl:B'.sl=B.sl
 nd:B'.nd=B.nd
 fa:B'.fa=B.fa
 F:B'.F=B.F
 D:B'.D=B.D
 sa:∃ t,B'.sa=B.sa++t
 mv:∃ t,B'.mv=B.mv++t
theorem t0b.refl(B:BB):t0b B B:=⟨rfl,rfl,rfl,rfl,rfl,rfl,rfl,⟨[],(append_nil _).symm⟩,⟨[],(append_nil _).symm⟩⟩
theorem t0b.trans{B B' B'':BB}(h:t0b B B')(h':t0b B' B''):t0b B B'':=by
 obtain⟨t,ht⟩:=h.sa;obtain⟨t',ht'⟩:=h'.sa;obtain⟨u,hu⟩:=h.mv;obtain⟨u',hu'⟩:=h'.mv;exact⟨h'.bd.trans h.bd,h'.c.trans h.c,h'.sl.trans h.sl,h'.nd.trans h.nd,h'.fa.trans h.fa,h'.F.trans h.F,h'.D.trans h.D,⟨t++t',by rw[ht',ht,append_assoc]⟩,⟨u++u',by rw[hu',hu,append_assoc]⟩⟩
theorem t0b.get{B B':BB}(h:t0b B B'){n:Nat}{a:Addr}(ha:B.sa[n]?=some a):B'.sa[n]?=some a:=by
 obtain⟨t,ht⟩:=h.sa;rw[ht,getElem?_append_left (gsm ha).1];exact ha
theorem t0b.getm{B B':BB}(h:t0b B B'){n:Nat}{a:Addr}(ha:B.mv[n]?=some a):B'.mv[n]?=some a:=by
 obtain⟨t,ht⟩:=h.mv;rw[ht,getElem?_append_left (gsm ha).1];exact ha
theorem a1m(W:WF G)(h:BH G H0 H g B Ks ys rows dn)(gd:Good G Ks ys){n:Nat}{a m:Addr}{K:List a0n}{y:Option Nat}(ha:B.sa[n]?=some a)(hm:B.mv[n]?=some m)(hk:Ks[n]?=some K)(hy:ys[n]?=some y)
  (hr:∀ i,n≤i→rows i=[]) (hd:∀ i,n≤i→dn i=false)
  (q:∀ B' H',t0b B B'→BH G H0 H' g B' (fk G (clo G K) Ks ys (nxs G (clo G K))).1 (fk G (clo G K) Ks ys (nxs G (clo G K))).2.1 (at_ rows n (fk G (clo G K) Ks ys (nxs G (clo G K))).2.2) (at_ dn n true)→Q .none H') :
  a0f (k+5) 20 [.ref B.bd,.ref a] H Q:=by
 have hKer:=gd.ker n K y hk hy;have hv:∀ p∈K,G.val p:=Ker.val W hKer;have hn:n<Ks.length:=(gsm hk).1;obtain⟨it0,rd0,ep0,s1,s2,U⟩:=h.s n a m K y ha hm hk hy;rw[hr n (Nat.le_refl _)]at s2;have ham:a≠m:=by first | exact nef (s1) s2 (fun e=>by cases e) | exact nef s2 (s1) (fun e=>by cases e)
 refine a0c [some (.ref B.bd),some (.ref a),none,none] rfl rfl (seq ?_);walk_at"";refine a0i h.bd rfl (b0s (h.e _ _ h.ch.c) rfl ?_);walk_at"";refine a0i s1 rfl (e1j W (h.gh.ext h.e) (h.ch.ext h.e) hKer.srt hv fun P it H1 hP hPm hit h1 e1=>g0r (e1 _ _ s1) rfl fun H2 h2 b2=>seq ?_);have hita:it≠a:=(a0t hit s1).symm;have n1:B.bd≠a:=by intro z;have:=h.bd;rw[z,s1]at this;cases this
 have e02:Ext H0 H2:=(h.e.trans e1).but (h.f3 a (mog ha)) b2;have h2it:H2 it=some (.list (P.map fun p=>a0b (G.num p))):=by rw[b2 it hita];exact h1
 walk_at"";refine a0i (by rw[b2 _ n1];exact e1 _ _ h.bd) rfl (a0i h2 rfl (t0m W (h.gh.ext e02) h2it hP hPm b0p fun rd H3 hrd h3 e3=>g0r (e3 _ _ h2) rfl fun H4 h4 b4=>seq ?_));have hrda:rd≠a:=(a0t hrd h2).symm;have e04:Ext H0 H4:=(e02.trans e3).but (h.f3 a (mog ha)) b4;have k04:∀ x o,x≠a→H x=some o→H4 x=some o:=fun x o hx e=>by
  rw[b4 x hx];refine e3 _ _ ?_;rw[b2 x hx];exact e1 _ _ e
 have h4it:H4 it=some (.list (P.map fun p=>a0b (G.num p))):=by rw[b4 it hita];exact e3 _ _ h2it
 have h4rd:H4 rd=some (.list ((j0o G (clo G K)).map a0b)):=by rw[b4 rd hrda];exact h3
 have hitsl:it≠B.sl:=(a0t hit h.sl).symm;have h2sl:H2 B.sl=some (.list (B.sa.map .ref)):=by
  rw[b2 _ (by intro z;have:=h.sl;rw[z,s1]at this;cases this)];exact e1 _ _ h.sl
 have hrdsl:rd≠B.sl:=(a0t hrd h2sl).symm;have B4:BH G H0 H4 g B Ks ys (at_ rows n []) (at_ dn n true):=h.upd ha hm hk hy (fun x o x1 U e=>k04 x o x1 e) (Mac.i6_3 it rd ep0 h4 (k04 _ _ (Ne.symm ham) s2) (fun U=>⟨(fun z=>z.elim hitsl fun⟨o,z⟩=>by rw[h.e.none hit]at z;cases z),(fun z=>z.elim hrdsl fun⟨o,z⟩=>by rw[e02.none hrd]at z;cases z),h4rd,P,hP,hPm,h4it⟩));walk_at"";refine a0i B4.bd rfl (a0i h4 rfl (q1q W (h.gh.ext e04) h4it hP hPm b0p fun bh epb H5 hbh h5 e5=>⟨by decide,seq ?_⟩));have B5:=B4.more e5;walk_at"";have ekeys:(nkv ((nxs G (clo G K)).map fun s=>(s,f0v G (ovr G (clo G K) s)))).map (·.1)=(nxs G (clo G K)).map a0b:=by
  unfold nkv;rw[map_map,map_map];rfl
 refine b1d h5 (by decide) ?_;rw[ekeys];refine a0s (fun i m' H'=>(∃ x,m'=[some (.ref B.bd),some (.ref a),some (.ref bh),x])∧H' bh=some (.dict 1 (nkv ((nxs G (clo G K)).map fun s=>(s,f0v G (ovr G (clo G K) s)))) epb)∧
   ∃ B',t0b B B'∧BH G H0 H' g B' (fk G (clo G K) Ks ys ((nxs G (clo G K)).take i)).1 (fk G (clo G K) Ks ys ((nxs G (clo G K)).take i)).2.1 (at_ rows n (fk G (clo G K) Ks ys ((nxs G (clo G K)).take i)).2.2) (at_ dn n true))
  ⟨⟨_,rfl⟩,h5,B,t0b.refl B,B5⟩ (fun i m' H' hI=>hI.2.1) (fun i m' H' x K' hx hI hK=>?_) fun m' H' hI=>?_
 ·obtain⟨⟨x1,rfl⟩,hbh',B',lk,hB⟩:=hI;rw[gmp]at hx;obtain⟨s,hs,rfl⟩:=map_eq_some_iff.mp hx;obtain⟨hil,hsi⟩:=gsm hs;have hsm:s∈nxs G (clo G K):=mog hs;obtain⟨gi,ri,t,ht⟩:=p0n (K:=K) gd i (Nat.le_of_lt hil);have tk:(nxs G (clo G K)).take (i+1)=(nxs G (clo G K)).take i++[s]:=by rw[tsg hil,hsi]
  rw[tk,t0t]at hK;generalize fk G (clo G K) Ks ys ((nxs G (clo G K)).take i)=st at hB gi ri ht hK;obtain⟨Ks',ys',row⟩:=st;dsimp only at hB gi ri ht;subst ht;have hk':(Ks++t)[n]?=some K:=by rw[getElem?_append_left hn];exact hk
  have hlen:=hB.ny;have hy':∃ y',ys'[n]?=some y':=⟨_,geg (by rw[hlen,length_append];omega)⟩;obtain⟨y',hy'⟩:=hy';have ha':=lk.get ha;have hm':=lk.getm hm;obtain⟨it2,rd2,ep2,t1,t2,t3⟩:=hB.s n a m K y' ha' hm' hk' hy';rw[p0d]at t2 t3;have hov:∀ p∈ovr G (clo G K) s,G.val p:=fun p hp=>(f0h.mp hp).1;have bnd:=i0m W (fun K hK=>gi.kerOf hK) gi.nd;have hget:c0q (nkv ((nxs G (clo G K)).map fun s=>(s,f0v G (ovr G (clo G K) s)))) (a0b s)=some (f0v G (ovr G (clo G K) s)):=by
   rw[d0g];refine a0z ?_ (mem_map.mpr (Mac.i3_1 s hsm rfl));rw[map_map];show((nxs G (clo G K)).map id).Nodup;rw[map_id];exact a0r (j0k _)
  have hsrow:s∉row.map (·.1):=by
   rw[ri.1];intro z;exact c0o (a0r (j0k (G:=G) (clo G K))) (by rw[geg hil,hsi]) z
  have rowl:row.length≤20:=by
   have:row.length=(row.map (·.1)).length:=by rw[lmp]
   rw[this,ri.1,length_take];have:=q0b W (clo G K);omega
  have nbm:bh≠m:=(a0t hbh (k04 _ _ (Ne.symm ham) s2)).symm;refine⟨[some (.ref B.bd),some (.ref a),some (.ref bh),some (a0b s)],rfl,seq ?_⟩;walk_at"";refine b0s (lk.bd▸hB.bd) rfl ?_;walk_at"";refine w0u hbh' rfl hget ?_;walk_at"";rw[← lk.bd];have put:∀ (B2:BB) (H2:MH) (Ks2:List (List a0n)) (ys2:List (Option Nat)) (j:Nat),t0b B B2→BH G H0 H2 g B2 Ks2 ys2 (at_ rows n row) (at_ dn n true)→Ks2[n]?=some K→H2 bh=some (.dict 1 (nkv ((nxs G (clo G K)).map fun s=>(s,f0v G (ovr G (clo G K) s)))) epb)→
    (Ks2,ys2,row++[(s,j)])=s0w G (clo G K) (Ks++t,ys',row) s→z0k (.ref a) 4 H2 fun w H2=>l1j w (a0b s) (a0b j) H2 fun H4=>wpB (gam (a0f (k+4))) .nil [some (.ref B'.bd),some (.ref a),some (.ref bh),some (a0b s)] H4 K':=by
   intro B2 H2 Ks2 ys2 j lk2 hB2 hk2 hbh2 eadd;obtain⟨y2,hy2⟩:∃ y',ys2[n]?=some y':=⟨_,geg (by rw[hB2.ny];exact(gsm hk2).1)⟩;obtain⟨it3,rd3,ep3,u1,u2,u3⟩:=hB2.s n a m K y2 (lk2.get ha) (lk2.getm hm) hk2 hy2;rw[p0d]at u2 u3;refine a0i u1 rfl (l1i u2 rfl (by rw[g0a,lmp];unfold LIM;omega) fun H3 ep4 h3 b3=>b0m (hK _ _ ⟨⟨_,by rw[lk.bd]⟩,by rw[b3 bh nbm];exact hbh2,B2,lk2,?_⟩));rw[← eadd];dsimp only;have:=hB2.upd (H':=H3) (row:=row++[(s,j)]) (d:=true) (lk2.get ha) (lk2.getm hm) hk2 hy2 (fun x o U x2 e=>by rw[b3 x x2];exact e) (Mac.i6_3 it3 rd3 ep4 (by rw[b3 a ham];exact u1) ?_ (fun z=>?_))
   ·rw[l1r,l1r]at this;exact this
   ·rw[h3,i0s];unfold putN;rw[if_neg (by rw[c1r];exact hsrow),map_append];rfl
   ·obtain⟨y1,y2,z1,P',z2,z3,z4⟩:=u3 rfl;have nl:∀ x l,H2 x=some (.list l)→x≠m:=fun x l e z=>by rw[z,u2]at e;cases e
    exact⟨y1,y2,by rw[b3 _ (nl _ _ z1)];exact z1,P',z2,z3,by rw[b3 _ (nl _ _ z4)];exact z4⟩
  have hk2:∀ Z,((Ks++t)++Z)[n]?=some K:=fun Z=>by rw[getElem?_append_left (by rw[length_append];omega)];exact hk'
  refine k0a W hB (y:=some s) hov (fun hne=>?_) bnd (fun U=>?_) (fun U=>?_) (fun hin=>?_) fun hne a2 m2 H6 hB6 k6=>?_
  ·obtain⟨ga,U,U⟩:=o0u gi ri hsm;unfold s0w at ga;dsimp only at ga;rw[if_neg hne]at ga;have:=i0m W (fun K hK=>ga.kerOf hK) ga.nd;rw[length_append,length_singleton]at this;omega
  ·rw[d1y _ _ (by rw[length_append];omega)];exact hr _ (by rw[length_append];omega)
  ·rw[d1y _ _ (by rw[length_append];omega)];exact hd _ (by rw[length_append];omega)
  ·refine put B' H' (Ks++t) ys' _ lk hB hk' hbh' ?_;unfold s0w;dsimp only;rw[if_pos hin]
  ·have lk2:t0b B { B' with sa:=B'.sa++[a2],mv:=B'.mv++[m2] }:=lk.trans ⟨rfl,rfl,rfl,rfl,rfl,rfl,rfl,⟨_,rfl⟩,⟨_,rfl⟩⟩;refine put _ H6 _ _ _ lk2 hB6 (hk2 _) (k6 _ _ ?_ ?_ hbh') ?_
   ·intro z;rw[z,hB.sl]at hbh';cases hbh'
   ·obtain⟨epn,hnd⟩:=hB.nd;intro z;rw[z,hnd]at hbh';cases hbh'
   ·unfold s0w;dsimp only;rw[if_neg hne]
 ·obtain⟨⟨x1,rfl⟩,hbh',B',lk,hB⟩:=hI;rw[lmp,take_length]at hB;exact q B' H' lk hB
end
structure AH(G:PG)(H:MH)(g au:Addr)(b:BS)(sl:Addr)(sa mv:List Addr)(Z:Addr→Prop):Prop where
 au:H au=some (.inst 2 [.ref g,.ref sl])
 ls:H sl=some (.list (sa.map .ref))
 ns:sa.length=b.Ks.length
 nm:mv.length=b.Ks.length
 s:∀ (i:Nat) a m K y row,sa[i]?=some a→mv[i]?=some m→b.Ks[i]?=some K→b.ys[i]?=some y→b.ms[i]?=some row→SH G H i a m K y row true Z
theorem AH.ext{G:PG}{H H':MH}{g au sl:Addr}{b:BS}{sa mv:List Addr}{Z:Addr→Prop}(h:AH G H g au b sl sa mv Z)(e:Ext H H'):AH G H' g au b sl sa mv Z:=
 ⟨e _ _ h.au,e _ _ h.ls,h.ns,h.nm,fun i a m K y row g1 g2 g3 g4 g5=>(h.s i a m K y row g1 g2 g3 g4 g5).keep (fun o q=>e _ _ q) (fun o q=>e _ _ q) fun x l U q=>e _ _ q⟩
noncomputable def rowsOf(ms:i0y):Nat→List (Nat×Nat):=fun i=>ms[i]?.getD []
set_option tactic.hygienic true in
theorem u0p(ms:i0y)(row:List (Nat×Nat)):at_ (rowsOf ms) ms.length row=rowsOf (ms++[row]):=by
 funext i
 unfold at_ rowsOf;split
 ·rename_i e;subst e;rw[getElem?_append_right (Nat.le_refl _),Nat.sub_self];rfl
 ·rename_i e;by_cases h:i<ms.length
  ·rw[getElem?_append_left h]
  ·rw[getElem?_eq_none (by omega),getElem?_eq_none (by rw[length_append,length_singleton];omega)]
set_option tactic.hygienic true in
theorem j1l(n:Nat):at_ (fun i=>decide (i<n)) n true=fun i=>decide (i<n+1):=by
 funext i
 unfold at_;split
 ·rename_i e;subst e;exact(decide_eq_true (Nat.lt_succ_self _)).symm
 ·rename_i e;show decide (i<n)=_;by_cases h:i<n
  ·rw[decide_eq_true h,decide_eq_true (by omega)]
  ·rw[decide_eq_false h,decide_eq_false (by omega)]
theorem z0l{k:Nat}{a:Addr}{v w:a0a}{H:MH}{Q:a0d}(ha:H a=some (.inst 2 []))(q:∀ H',H' a=some (.inst 2 [v,w])→But a H H'→Q .none H'):a0f (k+1) 12 [.ref a,v,w] H Q:=by
 refine a0c [some (.ref a),some v,some w] rfl rfl (seq ?_);refine g0r ha rfl fun H1 h1 b1=>seq ?_;walk_at"";exact g0r h1 rfl fun H2 h2 b2=>b0m (q H2 h2 fun x hx=>(b2 x hx).trans (b1 x hx))
section
variable {G:PG}(W:WF G){H0 H:MH}{g:Addr}{D:GHd}{k:Nat}{Q:a0d}
include W
theorem r0a{a:Addr}(h:GH H0 g G D)(h0:H0 a=none)(e:Ext H0 H)(ha:H a=some (.inst 3 []))(q:∀ H1 B H' rows dn,Ext H0 H1→BH G H1 H' g B [] [] rows dn→B.bd=a→(rows=fun U=>[])→(dn=fun U=>false)→Q .none H'):a0f (k+3) 18 [.ref a,.ref g] H Q:=by
 refine a0c [some (.ref a),some (.ref g)] rfl rfl (seq ?_);refine g0r ha rfl fun H1 h1 b1=>seq ?_;have e1:Ext H0 H1:=e.but h0 b1;walk_at"";refine l1h fun c H2 hc h2 e2=>t0j W (h.ext e1) hc e2 h2 fun fa F H3 e3 hcl=>⟨rfl,g0r (e3 _ _ h1) rfl fun H4 h4 b4=>seq ?_⟩;walk_at"";refine a0h (by decide) fun sl H5 hsl h5 e5 b5=>g0r (e5 _ _ h4) rfl fun H6 h6 b6=>seq ?_;walk_at"";refine⟨⟨by decide,by decide⟩,a0q fun nd H7 hnd h7 e7 b7=>g0r (e7 _ _ h6) rfl fun H8 h8 b8=>b0m ?_⟩;have hca:c≠a:=(a0t hc h1).symm;have hfa:fa≠a:=by
  clear h0 ha q b1 h4 b4 h6 b6 h8 b8 hca;rintro rfl;have:=hcl.f;rw[e3 _ _ h1]at this;cases this
 have hsla:sl≠a:=(a0t hsl h4).symm;have hnda:nd≠a:=(a0t hnd h6).symm;have h6sl:H6 sl=some (.list []):=by rw[b6 sl hsla];exact h5
 have hndsl:nd≠sl:=(a0t hnd h6sl).symm
 let HC:MH:=fun x=>if x=a then none else H3 x
 have c1:∀ x,x≠a→HC x=H3 x:=fun x hx=>if_neg hx;have e0C:Ext H0 HC:=fun x o z=>by
  rw[c1 x (a0t h0 z)];exact e3 _ _ (e1 _ _ z)
 have k48:∀ x o,x≠a→H3 x=some o→H8 x=some o:=fun x o hx z=>by
  rw[b8 x hx];refine e7 _ _ ?_;rw[b6 x hx];refine e5 _ _ ?_;rw[b4 x hx];exact z
 refine q HC ⟨a,c,sl,nd,[],[],fa,F,D⟩ H8 (fun U=>[]) (fun U=>false) e0C ⟨fun x o z=>?_,h.ext e0C,⟨by rw[c1 c hca];exact hcl.c,by rw[c1 fa hfa];exact hcl.f,hcl.n,hcl.t⟩,h8,?_,⟨0,?_⟩,rfl,rfl,rfl,(fun U h=>nomatch h),fun i a m K y g1=>?_,?_,?_,(fun U h=>nomatch h),(fun U h=>nomatch h),nodup_nil⟩ rfl rfl rfl
 ·by_cases hx:x=a
  ·clear h0 ha q h1 b1 h4 b4 h6 b6 h8 b8 hca hfa hsla hnda;subst hx;have:HC x=none:=if_pos rfl;rw[this]at z;cases z
  ·rw[c1 x hx]at z;exact k48 x o hx z
 ·show H8 sl=_;rw[b8 sl hsla];exact e7 _ _ h6sl
 ·show H8 nd=_;rw[b8 nd hnda];exact h7
 ·simp at g1
 ·show HC sl=none;rw[c1 sl hsla,←b4 sl hsla];exact hsl
 ·show HC nd=none;rw[c1 nd hnda,←b4 nd hnda];have:H5 nd=none:=by rw[← b6 nd hnda];exact hnd
  exact e5.none this
set_option tactic.hygienic true in
theorem e1h{B:BB}{rows:Nat→List (Nat×Nat)}{dn:Nat→Bool}(h:BH G H0 H g B [] [] rows dn)(hr:rows=fun U=>[])(hd:dn=fun U=>false)
  (q:∀ au b sl sa mv H',Ext H0 H'→h1r G b→AH G H' g au b sl sa mv (Old H0 sl)→Q (.ref au) H'):a0f (k+6) 21 [.ref B.bd] H Q:=by
 subst hr hd;refine a0c [some (.ref B.bd),none] rfl rfl (seq ?_);walk_at"";refine b0s h.bd rfl ?_;walk_at"";refine a0i h.bd rfl (b0s (h.gh.ext h.e).g rfl ?_);walk_at"";refine j0g W (h.gh.ext h.e) (n:=0) (d:=0) W.pos ⟨by decide,?_⟩;have hv0:∀ p∈[((0,0):a0n)],G.val p:=fun p hp=>by
  rw[mem_singleton]at hp;subst hp;exact⟨W.pos,Nat.zero_le _⟩
 refine k0a W h (K:=[(0,0)]) (y:=none) hv0 (fun U=>by decide) (by decide) (fun U=>rfl) (fun U=>rfl) (fun z=>nomatch z) fun U a m H1 hB1 k1=>⟨rfl,seq ?_⟩;walk_at"";refine⟨by decide,seq ?_⟩;have hB1':BH G H0 H1 g { B with sa:=B.sa++[a],mv:=B.mv++[m] } (bs G 0).Ks (bs G 0).ys (rowsOf (bs G 0).ms) (fun i=>decide (i<0)):=by
  have e1:rowsOf (bs G 0).ms=fun U=>[]:=by funext i;simp[rowsOf,bs]
  have e2:(fun i:Nat=>decide (i<0))=fun U=>false:=by funext i;simp
  rw[e1,e2];exact hB1
 refine g0f (fun j ml H'=>∃ n B',j=LIM+1-n∧ml=[some (.ref B.bd),some (a0b n)]∧B'.bd=B.bd∧(bs G n).ms.length=n∧BH G H0 H' g B' (bs G n).Ks (bs G n).ys (rowsOf (bs G n).ms) (fun i=>decide (i<n))) (fun j ml H' K hI hK=>?_) (LIM+1) _ _
  (Mac.i7_2 0 ({ B with sa:=B.sa++[a],mv:=B.mv++[m] }) rfl rfl rfl rfl hB1')
 obtain⟨n,B',rfl,rfl,hbd,hn,hB⟩:=hI;have inv:=v0i (G:=G) n;have bnd:=i0m W (fun K hK=>inv.g.kerOf hK) inv.g.nd;have hle:n≤(bs G n).Ks.length:=by have:=inv.le;omega
 have lsl:(B'.sa.map a0a.ref).length=(bs G n).Ks.length:=by rw[lmp,hB.ns]
 rw[← hbd];refine a0i hB.bd rfl (i0p hB.sl (by rw[lsl];exact bnd) ?_);walk_at"";rw[lsl];split
 ·rename_i hlt;have hlt':n<(bs G n).Ks.length:=by omega
  obtain⟨a',ha'⟩:∃ a,B'.sa[n]?=some a:=⟨_,geg (by rw[hB.ns];exact hlt')⟩;obtain⟨m',hm'⟩:∃ a,B'.mv[n]?=some a:=⟨_,geg (by rw[hB.nm];exact hlt')⟩;obtain⟨K',hk'⟩:∃ a,(bs G n).Ks[n]?=some a:=⟨_,geg hlt'⟩;obtain⟨y',hy'⟩:∃ a,(bs G n).ys[n]?=some a:=⟨_,geg (by rw[hB.ny];exact hlt')⟩;refine seq ?_;walk_at"";refine b0s hB.bd rfl ?_;walk_at"";refine a0i hB.bd rfl (d0n hB.sl (by rw[lsl];exact bnd) (v:=.ref a') (by rw[gmp,ha'];rfl) ?_);have hstep:bs G (n+1)=⟨(fk G (clo G K') (bs G n).Ks (bs G n).ys (nxs G (clo G K'))).1,(fk G (clo G K') (bs G n).Ks (bs G n).ys (nxs G (clo G K'))).2.1,(bs G n).ms++[(fk G (clo G K') (bs G n).Ks (bs G n).ys (nxs G (clo G K'))).2.2]⟩:=by
   show q0h G (bs G n)=_;unfold q0h;rw[hn,hk']
  refine a1m W hB inv.g ha' hm' hk' hy' (fun i hi=>?_) (fun i hi=>decide_eq_false (by omega)) fun B2 H2 lk hB2=>⟨rfl,seq ?_⟩
  ·unfold rowsOf;rw[getElem?_eq_none (by omega)];rfl
  ·walk_at"";refine⟨by decide,b0m (hK _ _ _ (by omega) (Mac.i7_2 (n+1) B2 rfl (by rw[hbd];rfl) (lk.bd.trans hbd) (by rw[hstep,length_append,hn];rfl) ?_))⟩;rw[hstep];dsimp only;have e1:=u0p (bs G n).ms (fk G (clo G K') (bs G n).Ks (bs G n).ys (nxs G (clo G K'))).2.2;rw[hn]at e1;rw[← e1,←j1l];exact hB2
 ·rename_i hge;have hfin:(bs G n).ms.length=(bs G n).Ks.length:=by omega
  refine d0s ?_;walk_at"";refine a0i hB.bd rfl (a0i hB.bd rfl ?_);walk_at"";refine l1h fun au H2 hau h2 e2=>z0l h2 fun H3 h3 b3=>⟨rfl,?_⟩;have k3:∀ x o,H' x=some o→H3 x=some o:=fun x o e=>by
   rw[b3 x (a0t hau e)];exact e2 _ _ e
  refine q au (bs G n) B'.sl B'.sa B'.mv H3 (fun x o e=>k3 _ _ (hB.e _ _ e)) (Mac.i3_1 n rfl hfin) ⟨h3,k3 _ _ hB.sl,hB.ns,hB.nm,fun i a m K y row g1 g2 g3 g4 g5=>?_⟩;have sh:=hB.s i a m K y g1 g2 g3 g4;have hi:i<n:=by have:=(gsm g5).1;omega
  rw[show rowsOf (bs G n).ms i=row by unfold rowsOf;rw[g5];rfl,decide_eq_true hi]at sh;exact sh.keep (fun o e=>k3 _ _ e) (fun o e=>k3 _ _ e) fun x l U e=>k3 _ _ e
theorem e1g(h:GH H g G D)(q:∀ au b sl sa mv Z H',Ext H H'→(∀ x o,H x=some o→Z x)→h1r G b→AH G H' g au b sl sa mv Z→Q (.ref au) H'):a0f (k+7) 22 [.ref g] H Q:=by
 refine a0c [some (.ref g)] rfl rfl (d0s ?_);walk_at"";refine l1h fun a H1 ha h1 e1=>r0a (k:=k+3) W h ha e1 h1 fun H2 B H3 rows dn e2 hB hbd hr hd=>⟨rfl,?_⟩;clear ha h1;subst hbd;refine b0s hB.bd rfl ?_;walk_at"";exact e1h W hB hr hd fun au b sl sa mv H' e3 hf hA=>q au b sl sa mv _ H' (e2.trans e3) (fun x o e=>.inr ⟨o,e2 _ _ e⟩) hf hA
end
open Classical in
theorem eqL{H:MH}{a b:Addr}{vs ws ds es:List a0a}{P:Bool→Prop}(ha:H a=some (.list vs))(hb:H b=some (.list ws))(da:f0q H ds vs)(db:f0q H es ws)(fa:ds.all (a0v 8)=true)(fb:es.all (a0v 8)=true)
  (q:∀ r:Bool,(r=true↔ds=es)→P r):h0w .eq (.ref a) (.ref b) H P:=by
 refine EqR.l (.frz ds) (.frz es) (Mac.i5_2 a vs rfl ha da) (Mac.i5_2 b ws rfl hb db) fa fb (q _ ?_);rw[decide_eq_true_eq];exact⟨fun h=>by injection h,fun h=>by rw[h]⟩
theorem neL{H:MH}{a b:Addr}{vs ws ds es:List a0a}{P:Bool→Prop}(ha:H a=some (.list vs))(hb:H b=some (.list ws))(da:f0q H ds vs)(db:f0q H es ws)(fa:ds.all (a0v 8)=true)(fb:es.all (a0v 8)=true)
  (q:∀ r:Bool,(r=true↔ds=es)→P (!r)):h0w .ne (.ref a) (.ref b) H P:=eqL (P:=fun r=>P (!r)) ha hb da db fa fb q
theorem i0b(H:MH):∀ l:List Nat,f0q H (l.map a0b) (l.map a0b)
 | []=>rfl
 | n::l=>(Mac.i5_2 _ _ rfl rfl (i0b H l))
theorem v0t(l:List Nat):(l.map a0b).all (a0v 8)=true:=by
 rw[all_map,all_eq_true];exact fun U U=>rfl
theorem s0b{l l':List Nat}(h:l.map a0b=l'.map a0b):l=l':=by
 induction l generalizing l' with
 | nil=>cases l' with
  | nil=>rfl
  | cons=>cases h
 | cons a l ih=>cases l' with
  | nil=>cases h
  | cons b l'=>
   rw[map_cons,map_cons,List.cons.injEq]at h;rw[d0r h.1,ih h.2]
theorem eqN{H:MH}{a b:Addr}{l l':List Nat}{P:Bool→Prop}(ha:H a=some (.list (l.map a0b)))(hb:H b=some (.list (l'.map a0b)))(q:P (decide (l=l'))):h0w .eq (.ref a) (.ref b) H P:=
 eqL ha hb (i0b H l) (i0b H l') (v0t l) (v0t l') fun r hr=>by
  have:r=decide (l=l'):=by
   rw[Bool.eq_iff_iff,hr,decide_eq_true_eq];exact⟨s0b,fun h=>by rw[h]⟩
  rw[this];exact q
theorem neN{H:MH}{a b:Addr}{l l':List Nat}{P:Bool→Prop}(ha:H a=some (.list (l.map a0b)))(hb:H b=some (.list (l'.map a0b)))(q:P (!decide (l=l'))):h0w .ne (.ref a) (.ref b) H P:=
 eqN (P:=fun r=>P (!r)) ha hb q
theorem s1a{H:MH}{a b:Addr}{kd ep ep':Nat}{kv:List (a0a×a0a)}{P:Bool→Prop}(hkd:kd=1∨kd=2)(ha:H a=some (.dict kd kv ep))(hb:H b=some (.dict kd [] ep'))(hl:kv.length≤LIM)(q:P kv.isEmpty):h0w .eq (.ref a) (.ref b) H P:=by
 rcases hkd with h | h <;> subst h
 ·refine EqR.d1 _ _ _ _ ha hb ?_;clear ha hb;clear hl;cases kv with
  | nil=>exact .inl (Mac.i3_0 rfl rfl q)
  | cons p kv=>exact .inr ⟨by simp,q⟩
 ·refine EqR.d2 _ _ _ _ ha hb ?_;clear ha hb;clear hl;cases kv with
  | nil=>exact .inl (Mac.i3_0 rfl rfl q)
  | cons p kv=>exact .inr ⟨by simp,q⟩
theorem s1i{H:MH}{a b:Addr}{kd ep ep':Nat}{kv:List (a0a×a0a)}{P:Bool→Prop}(hkd:kd=1∨kd=2)(ha:H a=some (.dict kd kv ep))(hb:H b=some (.dict kd [] ep'))(hl:kv.length≤LIM)(q:P (!kv.isEmpty)):h0w .ne (.ref a) (.ref b) H P:=
 s1a (P:=fun r=>P (!r)) hkd ha hb hl q
noncomputable def n1q(row:List (Nat×Nat)):List (Nat×a0a):=row.map fun q=>(q.1,a0b q.2)
noncomputable def q0q:Option Nat→a0a
 | none=>.int (-1)
 | some j=>a0b j
noncomputable def go(ms:i0y)(i x:Nat):Option Nat:=(ms[i]?.getD []).lookup x
theorem o0l(x:Nat):∀ row:List (Nat×Nat),(n1q row).lookup x=(row.lookup x).map a0b
 | []=>rfl
 | (y,j)::row=>by
  have ih:=o0l x row;unfold n1q at ih ⊢;rw[map_cons,lookup_cons,lookup_cons];cases h:x == y
  ·exact ih
  ·rfl
theorem h0g{α:Type}:∀ {l:List (Nat×α)} {x:Nat} {v:α},l.lookup x=some v→(x,v)∈l
 | (y,w)::l,x,v,h=>by
  rw[lookup_cons]at h;cases e:x == y with
  | true=>rw[e]at h;cases h;rw[beq_iff_eq.mp e];exact .head _
  | false=>rw[e]at h;exact .tail _ (h0g h)
section
variable {G:PG}(W:WF G){H:MH}{g au sl:Addr}{b:BS}{sa mv:List Addr}{Z:Addr→Prop}{k:Nat}{Q:a0d}(w:d0a G b)(h:AH G H g au b sl sa mv Z)
omit W in
theorem AH.at_(w:d0a G b)(h:AH G H g au b sl sa mv Z){i:Nat}(hi:i<b.ms.length):∃ a m K y row,sa[i]?=some a∧mv[i]?=some m∧b.Ks[i]?=some K∧b.ys[i]?=some y∧b.ms[i]?=some row∧SH G H i a m K y row true Z:=by
 have e:=w.e;have hy:=w.i.g.len;have h1:i<sa.length:=by rw[h.ns];omega
 have h2:i<mv.length:=by rw[h.nm];omega
 have h3:i<b.Ks.length:=by omega
 have h4:i<b.ys.length:=by omega
 exact⟨sa[i],mv[i],b.Ks[i],b.ys[i],b.ms[i],geg h1,geg h2,geg h3,geg h4,geg hi,
  h.s i _ _ _ _ _ (geg h1) (geg h2) (geg h3) (geg h4) (geg hi)⟩
omit W in
theorem a1u(w:d0a G b){i x j:Nat}(e:go b.ms i x=some j):j<b.ms.length:=by
 unfold go at e;cases hr:b.ms[i]? with
 | none=>rw[hr]at e;cases e
 | some row=>
  rw[hr]at e;exact w.lt hr (h0g e)
include W w h
theorem g0d:(sa.map a0a.ref).length≤LIM:=by
 rw[lmp,h.ns];exact w.bound W
theorem c1y{i:Nat}{a:Addr}(ha:sa[i]?=some a):(sa.map a0a.ref)[i]?=some (.ref a):=by
 rw[gmp,ha];rfl
theorem j0p{i:Nat}{row:List (Nat×Nat)}(hr:b.ms[i]?=some row):row.length≤20:=by
 obtain⟨K,U,e,U⟩:=w.row hr;have:row.length=(row.map (·.1)).length:=by rw[lmp]
 rw[this,e];exact q0b W _
omit W w h in
theorem i1z{a m:Addr}{i:Nat}{K:List a0n}{y:Option Nat}{row:List (Nat×Nat)}{d:Bool}{x:Nat}(s:SH G H i a m K y row d Z)(q:Q (q0q (row.lookup x)) H):a0f (k+1) 3 [.ref a,a0b x] H Q:=by
 obtain⟨it,rd,ep,s1,s2,U⟩:=s;refine a0c [some (.ref a),some (a0b x)] rfl rfl (d0s ?_);walk_at"";refine a0i s1 rfl ⟨z0t s2,s1b s2 (by decide) rfl ?_⟩;have e:=d0g x (n1q row);unfold n1q at e;rw[e];have:=o0l x row;unfold n1q at this;rw[this];cases hl:row.lookup x <;> rw[hl]at q <;> exact q
theorem v0a{i x:Nat}(hi:i<b.ms.length)(q:Q (q0q (go b.ms i x)) H):a0f (k+2) 13 [.ref au,a0b i,a0b x] H Q:=by
 obtain⟨a,m,K,y,row,ha,hm,hk,hy,hr,s⟩:=h.at_ w hi;obtain⟨it,rd,ep,s1,s2,U⟩:=id s;refine a0c [some (.ref au),some (a0b i),some (a0b x)] rfl rfl (d0s ?_);walk_at"";refine a0i h.au rfl (d0n h.ls (g0d W w h) (c1y W w h ha) (b0s s1 rfl ?_));walk_at"";refine i1z s ?_;unfold go at q;rw[hr]at q;exact q
omit W w h in
noncomputable def c0y(ms:i0y)(o:Option Nat)(xs:List Nat):Option Nat:=xs.foldl (fun o x=>o.bind fun i=>go ms i x) o
omit W w h in
theorem j0t(ms:i0y):∀ xs,c0y ms none xs=none
 | []=>rfl
 | x::xs=>j0t ms xs
omit W w h in
theorem g0e(ms:i0y)(o:Option Nat)(xs ys:List Nat):c0y ms o (xs++ys)=c0y ms (c0y ms o xs) ys:=by
 unfold c0y;rw[foldl_append]
theorem x0f{i:Nat}(hi:i<b.ms.length){xs:List Nat}{sv:a0a}{ok:MH→Prop}(hit:∀ P:List a0a→(MH→Prop)→Prop,P (xs.map a0b) ok→g0q .plain sv H P)(hok:ok H)(q:Q (q0q (c0y b.ms (some i) xs)) H):a0f (k+3) 14 [.ref au,a0b i,sv] H Q:=by
 refine a0c [some (.ref au),some (a0b i),some sv,none,none] rfl rfl (seq ?_);walk_at"";refine⟨by decide,seq ?_⟩;walk_at"";refine hit _ ?_;refine j0d (fun j m H'=>H'=H∧(∃ x,m=[some (.ref au),some (a0b i),some sv,some (q0q (c0y b.ms (some i) (xs.take j))),x])∧∀ c,c0y b.ms (some i) (xs.take j)=some c→c<b.ms.length) (fun v m H'=>H'=H∧v=.int (-1)∧c0y b.ms (some i) xs=none) (fun U U=>False) (xs.map a0b) 0 (fun j m H' hI=>hI.1▸hok) (fun j m H' x K hx hI hK U hR=>?_) (fun m H' hI=>?_) (fun U U h=>h.elim) (fun v m H' hI=>?_) _ _ (Mac.i3_0 rfl ⟨_,rfl⟩ (fun c hc=>by cases hc;exact hi))
 ·rw[Nat.zero_add]at hI hK;clear hit hok q;obtain⟨rfl,⟨x1,rfl⟩,hc⟩:=hI;rw[gmp]at hx;obtain⟨s,hs,rfl⟩:=map_eq_some_iff.mp hx;obtain⟨hjl,hsj⟩:=gsm hs;have tk:xs.take (j+1)=xs.take j++[s]:=by rw[tsg hjl,hsj]
  refine⟨[some (.ref au),some (a0b i),some sv,some (q0q (c0y b.ms (some i) (xs.take j))),some (a0b s)],rfl,seq ?_⟩;walk_at"";cases hw:c0y b.ms (some i) (xs.take j) with
  | none=>
   simp only[q0q];walk_at"";rw[if_pos trivial];refine c1q ?_;walk_at"";refine hR _ _ _ (Mac.i3_0 rfl rfl ?_);rw[← take_append_drop j xs,g0e,hw,j0t]
  | some c=>
   simp only[q0q];walk_at"";rw[if_neg (by omega)];refine b0m (seq ?_);walk_at"";refine b0s h.au rfl ?_;walk_at"";refine v0a W w h (hc c hw) ⟨by decide,b0m (hK _ _ (Mac.i3_0 rfl ⟨_,by rw[tk,g0e,hw];rfl⟩ (fun c' hc'=>?_)))⟩;rw[tk,g0e,hw]at hc';exact a1u w hc'
 ·rw[Nat.zero_add,lmp,take_length]at hI;clear h hit hok;obtain⟨rfl,⟨x1,rfl⟩,hc⟩:=hI;refine d0s ?_;walk_at"";exact q
 ·clear h hit hok;obtain⟨rfl,rfl,hw⟩:=hI;rw[hw]at q;exact q
end
noncomputable def p1q(G:PG)(b:BS):Option Nat→List Nat
 | none=>[]
 | some j=>((b.Ks[j]?).map fun K=>(clo G K).map fun p=>G.num p).getD []
noncomputable def e0e(ms:i0y)(i:Nat):List Nat→List Nat
 | []=>[i]
 | x::xs=>match go ms i x with
  | none=>[i]
  | some j=>i::e0e ms j xs
section
variable {G:PG}(W:WF G){H:MH}{g au sl:Addr}{b:BS}{sa mv:List Addr}{Z:Addr→Prop}{k:Nat}{Q:a0d}(w:d0a G b)(h:AH G H g au b sl sa mv Z)
include W w h
theorem k1y{i:Nat}(hi:i<b.ms.length){xs:List Nat}{c:Addr}(hc:H c=some (.list (xs.map a0b)))(q:Q (q0q (c0y b.ms (some i) xs)) H):a0f (k+3) 14 [.ref au,a0b i,.ref c] H Q:=
 x0f W w h hi (ok:=fun H'=>H' c=some (.list (xs.map a0b))) (fun P hp=>c0l hc hp) hc q
theorem r1x{i:Nat}(hi:i<b.ms.length){xs:List Nat}(q:Q (q0q (c0y b.ms (some i) xs)) H):a0f (k+3) 14 [.ref au,a0b i,.tup (xs.map a0b)] H Q:=
 x0f W w h hi (ok:=fun U=>True) (fun P hp=>p0t hp) trivial q
theorem j1x{i:Nat}(hi:i<b.ms.length){xs:List Nat}(hxs:xs.length≤1000){c:Addr}(hc:H c=some (.list (xs.map a0b)))(q:∀ d H',H d=none→H' d=some (.list ((e0e b.ms i xs).map a0b))→Ext H H'→Q (.ref d) H'):a0f (k+3) 15 [.ref au,a0b i,.ref c] H Q:=by
 refine a0c [some (.ref au),some (a0b i),some (.ref c),none,none,none] rfl rfl (seq ?_);walk_at"";refine a0h (by simp[LIM]) fun d H1 hd h1 e1 b1=>⟨by decide,seq ?_⟩;walk_at"";refine c0l (e1 _ _ hc) ?_;refine j0d (fun j m H'=>Ext H H'∧(∃ x y,m=[some (.ref au),some (a0b i),some (.ref c),some (.ref d),x,y])∧∃ L r,L.length=j∧r<b.ms.length∧H' d=some (.list ((L++[r]).map a0b))∧e0e b.ms i xs=L++e0e b.ms r (xs.drop j))
  (fun v m H'=>Ext H H'∧v=.ref d∧H' d=some (.list ((e0e b.ms i xs).map a0b))) (fun U U=>False) (xs.map a0b) 0 (fun j m H' hI=>hI.1 _ _ hc) (fun j m H' x K hx hI hK U hR=>?_) (fun m H' hI=>?_) (fun U U h=>h.elim) (fun v m H' hI=>?_) _ _
  ⟨e1,(Mac.i3_2 _ _ rfl),[],i,rfl,hi,h1,rfl⟩
 ·rw[Nat.zero_add]at hI hK;obtain⟨e',⟨x1,y1,rfl⟩,L,r,hL,hr,hd',hp⟩:=hI;rw[gmp]at hx;obtain⟨s,hs,rfl⟩:=map_eq_some_iff.mp hx;obtain⟨hjl,hsj⟩:=gsm hs;have hdr:xs.drop j=s::xs.drop (j+1):=by rw[drop_eq_getElem_cons hjl,hsj]
  have hll:((L++[r]).map a0b).length≤1000:=by rw[lmp,length_append,length_singleton];omega
  refine⟨[some (.ref au),some (a0b i),some (.ref c),some (.ref d),some (a0b s),y1],rfl,seq ?_⟩;walk_at"";refine b0s (e' _ _ h.au) rfl ?_;walk_at"";refine e0v hd' (Nat.le_trans hll (by decide)) (v:=a0b r) (by rw[map_append];simp) ?_;walk_at"";refine v0a W w (h.ext e') hr ⟨by decide,seq ?_⟩;cases hg:go b.ms r s with
  | none=>
   simp only[q0q];walk_at"";rw[if_pos trivial];refine c1q ?_;refine hR _ _ _ (Mac.i3_0 e' rfl ?_);rw[hp,hdr];unfold e0e;rw[hg];exact hd'
  | some r'=>
   simp only[q0q];walk_at"";rw[if_neg (by omega)];refine b0m (seq ?_);walk_at"";refine⟨a0p hd' (by decide),b0o hd' (Nat.lt_of_le_of_lt hll (by decide)) fun H2 h2 b2=>⟨rfl,b0m (hK _ _ ⟨e'.but hd b2,(Mac.i3_2 _ _ rfl),L++[r],r',by simp[hL],a1u w hg,?_,?_⟩)⟩⟩
   ·rw[h2,map_append (l₂:=[r'])];rfl
   ·rw[hp,hdr]
    conv=>lhs;unfold e0e
    rw[hg];simp
 ·rw[Nat.zero_add,lmp]at hI;obtain⟨e',⟨x1,y1,rfl⟩,L,r,hL,hr,hd',hp⟩:=hI;rw[drop_length]at hp;refine d0s ?_;walk_at"";refine q d H' hd ?_ e';rw[hd',hp];rfl
 ·obtain⟨e',rfl,hd'⟩:=hI;exact q d H' hd hd' e'
theorem d1j{xs:List Nat}(h0:0<b.ms.length){c:Addr}(hc:H c=some (.list (xs.map a0b)))(q:Q (.bool (c0y b.ms (some 0) xs).isSome) H):a0f (k+4) 27 [.ref au,.ref c] H Q:=by
 refine a0c [some (.ref au),some (.ref c)] rfl rfl (d0s ?_);walk_at"";refine b0s h.au rfl ?_;walk_at"";refine k1y W w h (i:=0) h0 hc ?_;cases hw:c0y b.ms (some 0) xs with
 | none=>
  simp only[q0q];rw[hw]at q;exact q
 | some j=>
  simp only[q0q];walk_at"";rw[hw]at q;rw[decide_eq_false (by omega)];exact q
theorem e1w{D:GHd}(hG:GH H g G D)(h0:0<b.ms.length)(q:Q (q0q (c0y b.ms (some 0) (G.rt 0))) H):a0f (k+4) 16 [.ref au] H Q:=by
 obtain⟨a,ha⟩:∃ a,D.rs[0]?=some a:=⟨_,geg (by rw[hG.rn];exact W.pos)⟩;obtain⟨rest,hr⟩:=hG.r _ _ ha;refine a0c [some (.ref au)] rfl rfl (d0s ?_);walk_at"";refine b0s h.au rfl ?_;walk_at"";refine a0i h.au rfl (a0i hG.g rfl (d0n (k:=0) hG.rl ?_ (v:=.ref a) (by rw[gmp,ha];rfl) (a0i hr rfl (r1x W w h (i:=0) h0 q))));rw[lmp,hG.rn];have:=W.rn;omega
theorem a1g(q:∀ H',Ext H H'→Q (a0b ((b.ms.map List.length).sum)) H'):a0f (k+1) 17 [.ref au] H Q:=by
 refine a0c [some (.ref au),none] rfl rfl (d0s ?_);walk_at"";refine a0i h.au rfl (c0l h.ls ⟨g0d W w h,?_⟩);have hN:sa.length=b.ms.length:=by rw[h.ns,w.e]
 refine a0x (fun i=>(b.ms.take i).map fun r=>a0b r.length) rfl (h.ls) (fun i x K hx hK=>?_) ?_
 ·rw[gmp]at hx;obtain⟨a,ha,rfl⟩:=map_eq_some_iff.mp hx;have hi:i<b.ms.length:=by rw[← hN];exact(gsm ha).1
  obtain⟨a',m,K',y,row,ha',hm,hk,hy,hr,s⟩:=h.at_ w hi;rw[ha]at ha';cases ha';obtain⟨it,rd,ep,s1,s2,U⟩:=s;refine⟨[some (.ref au),some (.ref a)],rfl,?_⟩;walk_at"";rw[if_pos trivial];have rl:=j0p W w h hr;refine a0i s1 rfl (s1f s2 (by decide) (by rw[g0a,lmp];unfold LIM;omega) (hK _ _ ⟨rfl,?_⟩));rw[g0a,lmp];obtain⟨hil,e⟩:=gsm hr;rw[tsg hil,map_append,e];rfl
 ·rw[lmp,hN,take_length];refine a0q fun c H2 hc h2 e2 b2=>?_;walk_at"";refine s1l (ns:=b.ms.map fun r=>(r.length:Int)) (by rw[h2,map_map];rfl) ?_;have e:(b.ms.map fun r=>(r.length:Int)).sum=(((b.ms.map List.length).sum:Nat):Int):=by
   have:∀ l:i0y,(l.map fun r=>(r.length:Int)).sum=(((l.map List.length).sum:Nat):Int):=by
    intro l
    induction l with
    | nil=>rfl
    | cons a l ih=>rw[map_cons,sum_cons,map_cons,sum_cons,ih];omega
   exact this b.ms
  rw[e];exact q _ e2
theorem g1d{xs:List Nat}(h0:0<b.ms.length){c:Addr}(hc:H c=some (.list (xs.map a0b)))
  (q:∀ d H',H d=none→H' d=some (.list ((p1q G b (c0y b.ms (some 0) xs)).map a0b))→Ext H H'→Q (.ref d) H'):a0f (k+4) 28 [.ref au,.ref c] H Q:=by
 refine a0c [some (.ref au),some (.ref c),none] rfl rfl (seq ?_);walk_at"";refine b0s h.au rfl ?_;walk_at"";refine k1y W w h (i:=0) h0 hc ⟨by decide,seq ?_⟩;cases hw:c0y b.ms (some 0) xs with
 | none=>
  rw[hw]at q;simp only[q0q];walk_at"";rw[if_pos trivial];refine c1q ?_;exact a0h (by decide) fun d H1 hd h1 e1 U=>q d H1 hd h1 e1
 | some j=>
  rw[hw]at q;have hj:j<b.ms.length:=by
   clear hc;rcases eq_nil_or_concat xs with rfl | ⟨ys,x,rfl⟩
   ·cases hw;exact h0
   ·rw[concat_eq_append,g0e]at hw;cases hv:c0y b.ms (some 0) ys with
    | none=>rw[hv]at hw;cases hw
    | some c'=>rw[hv]at hw;exact a1u w hw
  obtain⟨a,m,K,y,row,ha,hm,hk,hy,hr,s⟩:=h.at_ w hj;obtain⟨it,rd,ep,s1,s2,s3⟩:=s;obtain⟨y1,y2,z1,P,z2,z3,z4⟩:=s3 rfl;simp only[q0q];walk_at"";rw[if_neg (by omega)];refine b0m (d0s ?_);walk_at"";have e0:(P.map fun p=>a0b (G.num p))=(P.map fun p=>G.num p).map a0b:=by rw[map_map];rfl
  rw[e0]at z4;have hPv:∀ p∈P,G.val p:=fun p hp=>b0p p ((z3 p).mp hp);have lenP:=c0b W z2 hPv;refine a0i h.au rfl (d0n h.ls (g0d W w h) (c1y W w h ha) (a0i s1 rfl (f0l z4 (k0u (by rw[lmp];unfold LIM;omega) fun l' d H1 hp hs hd h1 e1 U=>q d H1 hd ?_ e1))));rw[h1];unfold p1q;dsimp only;rw[hk]
  congr 2
  congr 1
  show l'=(clo G K).map fun p=>G.num p;refine b0e (b0r hs ?_) (h0n (j0a K) b0p) fun v=>?_
  ·rw[hp.nodup_iff,nodup_iff_pairwise_ne,pairwise_map];exact List.Pairwise.imp_of_mem (R:=(·≠·)) (fun {u v} hu hv huv e=>huv (g0c G (hPv u hu) (hPv v hv) e)) z2
  ·rw[hp.mem_iff,mem_map,mem_map];constructor
   ·rintro⟨p,hp',e⟩;exact⟨p,(z3 p).mp hp',e⟩
   ·rintro⟨p,hp',e⟩;exact⟨p,(z3 p).mpr hp',e⟩
end
noncomputable def f0s(R:List Nat)(row:List (Nat×Nat)):Bool:=R.isEmpty || (decide (R.length=1)&&row.isEmpty)
section
variable {G:PG}(W:WF G){H:MH}{g au sl:Addr}{b:BS}{sa mv:List Addr}{Z:Addr→Prop}{k:Nat}{Q:a0d}(w:d0a G b)(h:AH G H g au b sl sa mv Z)
include W
theorem q0e(C:List a0n):(j0o G C).length≤24:=by
 unfold j0o;have:=length_filter_le (fun n=>decide (n≠0)&&decide ((n,(G.rt n).length)∈C)) (List.range G.rs.length);rw[length_range]at this;have:=W.rn;omega
theorem i1h{a m:Addr}{i:Nat}{K:List a0n}{y:Option Nat}{row:List (Nat×Nat)}(s:SH G H i a m K y row true Z)(hr:row.length≤20)(q:∀ H',Ext H H'→Q (.bool (f0s (j0o G (clo G K)) row)) H'):a0f (k+1) 4 [.ref a] H Q:=by
 obtain⟨it,rd,ep,s1,s2,s3⟩:=s;obtain⟨y1,y2,z1,P,z2,z3,z4⟩:=s3 rfl;have rl:=q0e W (clo G K);unfold f0s at q;refine a0c [some (.ref a)] rfl rfl (seq ?_);walk_at"";refine a0i s1 rfl (a0h (by decide) fun c H1 hc h1 e1 b1=>eqN (l:=j0o G (clo G K)) (l':=[]) (e1 _ _ z1) h1 ?_);cases hR:j0o G (clo G K) with
 | nil=>
  rw[hR]at q;rw[decide_eq_true rfl];walk_at"";rw[if_pos trivial];refine c1q ?_;exact q H1 e1
 | cons r R=>
  rw[hR]at z1 q rl;rw[decide_eq_false (by simp)];walk_at"";rw[if_neg (by decide)];refine b0m (d0s ?_);walk_at"";refine a0i (e1 _ _ s1) rfl (i0p (e1 _ _ z1) (by rw[lmp];unfold LIM;omega) ?_);walk_at"";rw[lmp];by_cases hl:(r::R).length=1
  ·rw[if_pos (by omega)];refine a0i (e1 _ _ s1) rfl ⟨⟨by decide,by decide⟩,a0q fun c2 H2 hc2 h2 e2 b2=>s1a (.inl rfl) (e2 _ _ (e1 _ _ s2)) h2 (by rw[g0a,lmp];unfold LIM;omega) ?_⟩;walk_at"";have:(nkv (row.map fun q=>(q.1,a0b q.2))).isEmpty=row.isEmpty:=by clear hr s2;cases row <;> rfl
   rw[this];have qq:=q H2 (e1.trans e2);rw[decide_eq_true hl]at qq;clear hr s2 this;cases row with
   | nil=>simpa using qq
   | cons p row=>simpa using qq
  ·rw[if_neg (by omega)];have qq:=q H1 e1;rw[decide_eq_false hl]at qq;exact qq
include w h
theorem i0k(q:∀ d H',H d=none→H' d=some (.list (((List.range b.ms.length).filter fun i=>!f0s (j0o G (clo G (b.Ks[i]?.getD []))) (b.ms[i]?.getD [])).map a0b))→Ext H H'→Q (.ref d) H'):a0f (k+2) 29 [.ref au] H Q:=by
 have hN:sa.length=b.ms.length:=by rw[h.ns,w.e]
 refine a0c [some (.ref au),none] rfl rfl (d0s ?_);walk_at"";refine a0i h.au rfl (c0l h.ls ⟨g0d W w h,?_⟩);refine c0g (fun i H' acc=>Ext H H'∧acc=((List.range i).filter fun i=>!f0s (j0o G (clo G (b.Ks[i]?.getD []))) (b.ms[i]?.getD [])).map a0b) ⟨Ext.refl H,rfl⟩ (fun i H' acc hI=>hI.1 _ _ h.ls) (fun i H' acc x K hx hI hK=>?_) fun H' acc hI=>?_
 ·obtain⟨e',rfl⟩:=hI;rw[gmp]at hx;obtain⟨a,ha,rfl⟩:=map_eq_some_iff.mp hx;have hi:i<b.ms.length:=by rw[← hN];exact(gsm ha).1
  obtain⟨a',m,K',y,row,ha',hm,hk,hy,hr,s⟩:=(h.ext e').at_ w hi;rw[ha]at ha';cases ha';obtain⟨it,rd,ep,s1,s2,U⟩:=id s;refine⟨[some (.ref au),some (.ref a)],rfl,?_⟩;walk_at"";refine b0s s1 rfl ?_;walk_at"";refine i1h W s (j0p W w h hr) fun H2 e2=>?_;walk_at"";cases hc:f0s (j0o G (clo G K')) row with
  | true=>
   rw[if_neg (by decide),if_neg (by decide)];refine hK _ _ ⟨e'.trans e2,?_⟩;rw[range_succ,filter_append,filter_cons,if_neg (by rw[hk,hr];simp[hc])];simp
  | false=>
   rw[if_pos (by decide),if_pos trivial];refine a0i (e2 _ _ s1) rfl (hK _ _ ⟨e'.trans e2,?_⟩);rw[range_succ,filter_append,filter_cons,if_pos (by rw[hk,hr];simp[hc])];simp
 ·obtain⟨e',rfl⟩:=hI;rw[lmp,hN];exact a0q fun d H2 hd h2 e2 b2=>q d H2 (e'.none hd) h2 (e'.trans e2)
theorem b1l(q:∀ H',Ext H H'→Q (.bool ((List.range b.ms.length).filter fun i=>!f0s (j0o G (clo G (b.Ks[i]?.getD []))) (b.ms[i]?.getD [])).isEmpty) H'):a0f (k+3) 30 [.ref au] H Q:=by
 refine a0c [some (.ref au)] rfl rfl (d0s ?_);walk_at"";refine i0k W w h fun d H1 hd h1 e1=>a0h (by decide) fun c H2 hc h2 e2 b2=>eqN (l':=[]) (e2 _ _ h1) h2 ?_;have:=q H2 (e1.trans e2);generalize ((List.range b.ms.length).filter fun i=>!f0s (j0o G (clo G (b.Ks[i]?.getD []))) (b.ms[i]?.getD []))=L at this ⊢;cases L with
 | nil=>exact this
 | cons=>exact this
end
structure n0h(ms:i0y)(o:Nat)(q:List Nat)(f:c0s)(at_:Nat)(pr:List (Nat×Nat)):Prop where
 len:f.length=ms.length
 mem:∀ (j:Nat),(∃ p,f[j]?=some (some p))↔j∈q
 nd:q.Nodup
 f1:f[o]?=some (some [])
 srt:∀ (i k a c:Nat) p p',i<k→q[i]?=some a→q[k]?=some c→f[a]?=some (some p)→f[c]?=some (some p')→slt p p'
 cl:∀ (i s:Nat) p r x g,i<at_→q[i]?=some s→f[s]?=some (some p)→ms[s]?=some r→(x,g)∈r→∃ p',f[g]?=some (some p')∧sle p' (p++[x])
 cp:∀ (s:Nat) p x g,q[at_]?=some s→f[s]?=some (some p)→(x,g)∈pr→∃ p',f[g]?=some (some p')∧sle p' (p++[x])
 f3:∀ (j:Nat) p,f[j]?=some (some p)→(j=o∧p=[])∨∃ (i:Nat),∃ (s:Nat),∃ p0 r x,q[i]?=some s∧f[s]?=some (some p0)∧ms[s]?=some r∧(x,j)∈r∧p=p0++[x]∧(i<at_∨i=at_∧(x,j)∈pr)
 ln:∀ (k a:Nat) p,q[k]?=some a→f[a]?=some (some p)→p.length≤k
section
variable {ms:i0y}{o:Nat}{q:List Nat}{f:c0s}{at_:Nat}{pr:List (Nat×Nat)}
theorem n0h.init(h:o<ms.length):n0h ms o [o] ((List.replicate ms.length none).set o (some [])) 0 []:=by
 have g:∀ (j:Nat) p,((List.replicate ms.length (none:Option (List Nat))).set o (some []))[j]?=some (some p)→j=o∧p=[]:=by
  intro j p e;by_cases z:j=o
  ·subst z;rw[getElem?_set_self (by rw[length_replicate];exact h)]at e;cases e;exact⟨rfl,rfl⟩
  ·rw[getElem?_set_ne (Ne.symm z),getElem?_replicate]at e;split at e <;> cases e
 have g0:((List.replicate ms.length (none:Option (List Nat))).set o (some []))[o]?=some (some []):=getElem?_set_self (by rw[length_replicate];exact h);refine⟨by simp,fun j=>?_,by simp,g0,fun i k a c p p' hik h1 h2=>?_,fun U U U U U U h=>absurd h (Nat.not_lt_zero _),(fun U U U U U U h=>nomatch h),fun j p e=>.inl (g j p e),fun k a p U e=>?_⟩
 ·rw[mem_singleton];exact⟨fun⟨p,e⟩=>(g j p e).1,fun e=>⟨[],e▸g0⟩⟩
 ·have:=(gsm h2).1;rw[length_singleton]at this;omega
 ·rw[(g a p e).2];exact Nat.zero_le _
theorem n0h.ahead(h:n0h ms o q f at_ pr){s x:Nat}{p p':List Nat}{j:Nat}(hs:q[at_]?=some s)(hp:f[s]?=some (some p))(hx:∀ y g,(y,g)∈pr→y<x)(hj:f[j]?=some (some p')):slt p' (p++[x]):=by
 rcases h.f3 j p' hj with⟨rfl,rfl⟩ | ⟨i,s',p0,r,y,e1,e2,e3,e4,rfl,e5⟩
 ·exact .inl (by simp)
 ·rcases e5 with e5 | ⟨rfl,e5⟩
  ·exact c1v (h.srt i at_ s' s p0 p e5 e1 hs e2 hp) y x
  ·rw[hs]at e1;clear e3;cases e1;rw[hp]at e2;clear hj;cases e2;exact f1u p (hx y j e5)
theorem n0h.skip(h:n0h ms o q f at_ pr){s x g:Nat}{p p':List Nat}(hs:q[at_]?=some s)(hp:f[s]?=some (some p))(hx:∀ y g,(y,g)∈pr→y<x)(hg:f[g]?=some (some p')):n0h ms o q f at_ (pr++[(x,g)]):=by
 refine⟨h.len,h.mem,h.nd,h.f1,h.srt,h.cl,fun s' p1 x' g' e1 e2 e3=>?_,fun j p1 e=>?_,h.ln⟩
 ·rcases mem_append.mp e3 with e3 | e3
  ·exact h.cp s' p1 x' g' e1 e2 e3
  ·rw[mem_singleton]at e3;cases e3;rw[hs]at e1;cases e1;rw[hp]at e2;cases e2;exact⟨p',hg,.inr (h.ahead hs hp hx hg)⟩
 ·rcases h.f3 j p1 e with z | ⟨i,s',p0,r,y,e1,e2,e3,e4,e5,e6⟩
  ·exact .inl z
  ·exact .inr (Mac.i8_5 i s' p0 r y e1 e2 (Mac.i4_0 e3 e4 e5 (e6.imp id fun⟨a,b⟩=>⟨a,mem_append_left _ b⟩)))
theorem n0h.add(h:n0h ms o q f at_ pr){s x g:Nat}{p:List Nat}{r:List (Nat×Nat)}(hs:q[at_]?=some s)(hp:f[s]?=some (some p))(hr:ms[s]?=some r)(hm:(x,g)∈r)(hx:∀ y g,(y,g)∈pr→y<x)(hg:f[g]?=some none) :
  n0h ms o (q++[g]) (f.set g (some (p++[x]))) at_ (pr++[(x,g)]):=by
 have hgl:g<f.length:=(gsm hg).1;have gq:g∉q:=fun z=>by
  obtain⟨p',e⟩:=(h.mem g).mpr z;rw[hg]at e;cases e
 have set_ne:∀ (j:Nat) p',f[j]?=some (some p')→(f.set g (some (p++[x])))[j]?=some (some p'):=fun j p' e=>by
  rw[getElem?_set_ne]
  ·exact e
  ·rintro rfl;rw[hg]at e;cases e
 have set_inv:∀ (j:Nat) p',(f.set g (some (p++[x])))[j]?=some (some p')→(j=g∧p'=p++[x])∨(j≠g∧f[j]?=some (some p')):=fun j p' e=>by
  by_cases z:j=g
  ·clear hm hg gq set_ne;subst z;rw[getElem?_set_self hgl]at e;cases e;exact .inl ⟨rfl,rfl⟩
  ·rw[getElem?_set_ne (Ne.symm z)]at e;exact .inr ⟨z,e⟩
 have q_left:∀ (i a:Nat),q[i]?=some a→(q++[g])[i]?=some a:=fun i a e=>by
  rw[getElem?_append_left (gsm e).1];exact e
 have q_inv:∀ (i a:Nat),(q++[g])[i]?=some a→q[i]?=some a∨(i=q.length∧a=g):=fun i a e=>by
  by_cases z:i<q.length
  ·rw[getElem?_append_left z]at e;exact .inl e
  ·rw[getElem?_append_right (by omega)]at e;have hz:i-q.length=0:=by have:=(gsm e).1;simp at this;omega
   rw[hz]at e;cases e;exact .inr ⟨by omega,rfl⟩
 have q_in:∀ (i a:Nat),q[i]?=some a→a≠g:=fun i a e z=>gq (z▸mog e);refine⟨by rw[length_set];exact h.len,fun j=>?_,?_,set_ne _ _ h.f1,fun i k a c p1 p2 hik h1 h2 e1 e2=>?_,fun i s' p1 r' x' g' hi h1 e1 hr' hx'=>?_,fun s' p1 x' g' h1 e1 hx'=>?_,fun j p1 e=>?_,fun k a p1 h1 e1=>?_⟩
 ·rw[mem_append,mem_singleton,←h.mem];constructor
  ·rintro⟨p',e⟩;rcases set_inv j p' e with⟨z,U⟩ | ⟨U,z⟩
   ·exact .inr z
   ·exact .inl ⟨p',z⟩
  ·clear hm hg gq set_inv q_left q_inv q_in;rintro(⟨p',e⟩ | rfl)
   ·exact⟨p',set_ne _ _ e⟩
   ·exact⟨_,getElem?_set_self hgl⟩
 ·rw[nodup_append];refine⟨h.nd,by simp,fun u hu v hv e=>?_⟩;rw[mem_singleton]at hv;exact gq (hv▸e▸hu)
 ·clear hm hg hgl gq set_ne q_left;rcases q_inv i a h1 with h1 | ⟨hi,rfl⟩
  ·have e1':=(set_inv a p1 e1).resolve_left fun z=>q_in i a h1 z.1;clear e1;rcases q_inv k c h2 with h2 | ⟨hk,rfl⟩
   ·have e2':=(set_inv c p2 e2).resolve_left fun z=>q_in k c h2 z.1;exact h.srt i k a c p1 p2 hik h1 h2 e1'.2 e2'.2
   ·have:=(set_inv c p2 e2).resolve_right fun z=>z.1 rfl;rw[this.2];exact h.ahead hs hp hx e1'.2
  ·have:=(gsm h2).1;rw[length_append,length_singleton]at this;omega
 ·have hat:=(gsm hs).1;rcases q_inv i s' h1 with h1 | ⟨z,_⟩
  ·have e1':=(set_inv s' p1 e1).resolve_left fun z=>q_in i s' h1 z.1;obtain⟨p',z1,z2⟩:=h.cl i s' p1 r' x' g' hi h1 e1'.2 hr' hx';exact⟨p',set_ne _ _ z1,z2⟩
  ·omega
 ·have hat:=(gsm hs).1;rw[getElem?_append_left hat,hs]at h1;cases h1;have e1':=(set_inv s p1 e1).resolve_left fun z=>q_in at_ s hs z.1;have ep:p1=p:=by have:=e1'.2;rw[hp]at this;clear e1 e1';cases this;rfl
  clear set_inv e1;subst ep;rcases mem_append.mp hx' with hx' | hx'
  ·obtain⟨p',z1,z2⟩:=h.cp s p1 x' g' hs hp hx';exact⟨p',set_ne _ _ z1,z2⟩
  ·rw[mem_singleton]at hx';cases hx';exact⟨_,getElem?_set_self hgl,.inl rfl⟩
 ·clear hg hgl gq q_inv q_in;rcases set_inv j p1 e with⟨rfl,rfl⟩ | ⟨U,e⟩
  ·exact .inr (Mac.i8_5 at_ s p r x (q_left _ _ hs) (set_ne _ _ hp) (Mac.i4_0 hr hm rfl (.inr ⟨rfl,mem_append_right _ (.head _)⟩)))
  ·rcases h.f3 j p1 e with z | ⟨i,s',p0,r',y,e1,e2,e3,e4,e5,e6⟩
   ·exact .inl z
   ·exact .inr (Mac.i8_5 i s' p0 r' y (q_left _ _ e1) (set_ne _ _ e2) (Mac.i4_0 e3 e4 e5 (e6.imp id fun⟨a,b⟩=>⟨a,mem_append_left _ b⟩)))
 ·clear hm hg hgl gq set_ne q_left;rcases q_inv k a h1 with h1 | ⟨rfl,rfl⟩
  ·have e1':=(set_inv a p1 e1).resolve_left fun z=>q_in k a h1 z.1;exact h.ln k a p1 h1 e1'.2
  ·have:=(set_inv a p1 e1).resolve_right fun z=>z.1 rfl;rw[this.2,length_append,length_singleton];have:=h.ln at_ s p hs hp;have hat:=(gsm hs).1;omega
theorem n0h.turn(h:n0h ms o q f at_ pr){s:Nat}(hs:q[at_]?=some s)(hr:ms[s]?=some pr):n0h ms o q f (at_+1) []:=by
 refine⟨h.len,h.mem,h.nd,h.f1,h.srt,fun i s' p r x g hi h1 e1 hr' hx=>?_,(fun U U U U U U z=>nomatch z),fun j p e=>?_,h.ln⟩
 ·by_cases z:i<at_
  ·exact h.cl i s' p r x g z h1 e1 hr' hx
  ·have:i=at_:=by omega
   clear hi z;subst this;rw[hs]at h1;cases h1;rw[hr]at hr';cases hr';exact h.cp s p x g hs e1 hx
 ·rcases h.f3 j p e with z | ⟨i,s',p0,r,y,e1,e2,e3,e4,e5,e6⟩
  ·exact .inl z
  ·exact .inr (Mac.i8_5 i s' p0 r y e1 e2 (Mac.i4_0 e3 e4 e5 (.inl (by rcases e6 with e6 | e6 <;> omega))))
theorem n0h.fin(h:n0h ms o q f at_ [])(he:q.length≤at_):d1r ms o f:=by
 refine⟨h.len,h.f1,fun s p r x g e1 hr hx=>?_,fun j p e=>?_⟩
 ·obtain⟨i,hi,e⟩:=getElem_of_mem ((h.mem s).mp ⟨p,e1⟩);exact h.cl i s p r x g (by omega) (by rw[geg hi,e]) e1 hr hx
 ·rcases h.f3 j p e with z | ⟨i,s',p0,r,y,e1,e2,e3,e4,e5,e6⟩
  ·exact .inl z
  ·exact .inr (Mac.i8_4 s' p0 r y e2 e3 e4 e5)
theorem n0h.qlen(h:n0h ms o q f at_ pr):q.length≤ms.length:=by
 have:=b0q q (List.range ms.length) h.nd fun x hx=>by
  obtain⟨p,e⟩:=(h.mem x).mpr hx;rw[mem_range,←h.len];exact(gsm e).1
 rw[length_range]at this;exact this
end
structure LI(ms:i0y)(o:Nat)(f:c0s)(t:Nat):Prop where
 len:f.length=ms.length
 f1:f[o]?=some (some [])
 f3:∀ (j:Nat) p,f[j]?=some (some p)→(j=o∧p=[])∨∃ (s:Nat),∃ q r x,f[s]?=some (some q)∧ms[s]?=some r∧(x,j)∈r∧p=q++[x]
 lt:∀ (j:Nat) p,f[j]?=some (some p)→p.length≤t
 f2:∀ (s:Nat) p r x g,f[s]?=some (some p)→p.length<t→ms[s]?=some r→(x,g)∈r→∃ p',f[g]?=some (some p')∧sle p' (p++[x])
structure LM(ms:i0y)(f:c0s)(t:Nat)(lf:c0s)(dn:Nat→Nat→Nat→Prop):Prop where
 len:lf.length=f.length
 kp:∀ (j:Nat) p,f[j]?=some (some p)→lf[j]?=some (some p)
 nw:∀ (j:Nat) p,lf[j]?=some (some p)→f[j]?=some (some p)∨(f[j]?=some none∧∃ (s:Nat),∃ q r x,f[s]?=some (some q)∧q.length=t∧ms[s]?=some r∧(x,j)∈r∧p=q++[x])
 cov:∀ (s x g:Nat) q,dn s x g→f[s]?=some (some q)→∃ p',lf[g]?=some (some p')∧sle p' (q++[x])
section
variable {ms:i0y}{o t:Nat}{f lf:c0s}{dn:Nat→Nat→Nat→Prop}
theorem LI.init(h:o<ms.length):LI ms o ((List.replicate ms.length none).set o (some [])) 0:=by
 have b:=n0h.init h;have g:∀ (j:Nat) p,((List.replicate ms.length (none:Option (List Nat))).set o (some []))[j]?=some (some p)→j=o∧p=[]:=fun j p e=>by
  rcases b.f3 j p e with z | ⟨i,s,p0,r,x,_,_,_,_,_,h6⟩
  ·exact z
  ·rcases h6 with h6 | h6
   ·omega
   ·cases h6.2
 exact⟨b.len,b.f1,fun j p e=>.inl (g j p e),fun j p e=>by rw[(g j p e).2];exact Nat.zero_le _,fun U U U U U U h=>absurd h (Nat.not_lt_zero _)⟩
theorem LM.init(h:LI ms o f t):LM ms f t f (fun U U U=>False):=⟨rfl,fun U U e=>e,fun U U e=>.inl e,fun U U U U h=>h.elim⟩
theorem LM.skip(h:LI ms o f t)(l:LM ms f t lf dn){s x g:Nat}{q:List Nat}(hs:f[s]?=some (some q))(hq:q.length=t)(hz:(∃ p,f[g]?=some (some p))∨∃ p,lf[g]?=some (some p)∧lx (q++[x]) p=false):LM ms f t lf (fun a b c=>dn a b c∨(a=s∧b=x∧c=g)):=by
 refine⟨l.len,l.kp,l.nw,fun a b c q' hd e=>?_⟩;rcases hd with hd | ⟨rfl,rfl,rfl⟩
 ·exact l.cov a b c q' hd e
 ·rw[hs]at e;cases e;rcases hz with⟨p,e⟩ | ⟨p,e,hl⟩
  ·exact⟨p,l.kp _ _ e,.inr (.inl (by have:=h.lt _ _ e;simp;omega))⟩
  ·refine⟨p,e,?_⟩;rcases l.nw _ _ e with e' | ⟨_,s',q',r,x',h1,h2,_,_,rfl⟩
   ·exact .inr (.inl (by have:=h.lt _ _ e';simp;omega))
   ·refine y0j fun z=>?_;rcases z with z | ⟨_,z⟩
    ·simp at z;omega
    ·rw[z]at hl;cases hl
theorem LM.set(h:LI ms o f t)(l:LM ms f t lf dn){s x g:Nat}{q:List Nat}{r:List (Nat×Nat)}(hs:f[s]?=some (some q))(hq:q.length=t)(hr:ms[s]?=some r)(hm:(x,g)∈r)(hg:f[g]?=some none)(hz:lf[g]?=some none∨∃ p,lf[g]?=some (some p)∧lx (q++[x]) p=true) :
  LM ms f t (lf.set g (some (q++[x]))) (fun a b c=>dn a b c∨(a=s∧b=x∧c=g)):=by
 have hgl:g<lf.length:=by rw[l.len];exact(gsm hg).1
 have self:(lf.set g (some (q++[x])))[g]?=some (some (q++[x])):=getElem?_set_self hgl;refine⟨by rw[length_set];exact l.len,fun j p e=>?_,fun j p e=>?_,fun a b c q' hd e=>?_⟩
 ·rw[getElem?_set_ne]
  ·exact l.kp j p e
  ·rintro rfl;rw[hg]at e;cases e
 ·by_cases z:j=g
  ·clear hz hgl;subst z;rw[self]at e;cases e;exact .inr ⟨hg,s,q,r,x,hs,hq,hr,hm,rfl⟩
  ·rw[getElem?_set_ne (Ne.symm z)]at e;exact l.nw j p e
 ·clear hr hm hgl;rcases hd with hd | ⟨rfl,rfl,rfl⟩
  ·obtain⟨p',e1,e2⟩:=l.cov a b c q' hd e;by_cases z:c=g
   ·subst z;refine⟨_,self,?_⟩;rcases hz with hz | ⟨p,hz,hl⟩
    ·rw[hz]at e1;cases e1
    ·rw[hz]at e1;cases e1;refine h1c (.inr ?_) e2;clear e2;rcases l.nw _ _ hz with e' | ⟨_,s',q'',r',x',h1,h2,_,_,rfl⟩
     ·rw[hg]at e';cases e'
     ·exact .inr ⟨by simp;omega,hl⟩
   ·rw[getElem?_set_ne (Ne.symm z)];exact⟨p',e1,e2⟩
  ·rw[hs]at e;cases e;exact⟨_,self,.inl rfl⟩
theorem LM.next(h:LI ms o f t)(l:LM ms f t lf dn)(full:∀ (s:Nat) q r x g,f[s]?=some (some q)→q.length=t→ms[s]?=some r→(x,g)∈r→dn s x g):LI ms o lf (t+1):=by
 refine⟨by rw[l.len];exact h.len,l.kp _ _ h.f1,fun j p e=>?_,fun j p e=>?_,fun s p r x g e1 hl hr hx=>?_⟩
 ·rcases l.nw j p e with e | ⟨_,s,q,r,x,h1,h2,h3,h4,h5⟩
  ·rcases h.f3 j p e with z | ⟨s,q,r,x,h1,h2,h3,h4⟩
   ·exact .inl z
   ·exact .inr (Mac.i8_4 s q r x (l.kp _ _ h1) h2 h3 h4)
  ·exact .inr (Mac.i8_4 s q r x (l.kp _ _ h1) h3 h4 h5)
 ·rcases l.nw j p e with e | ⟨_,s,q,r,x,h1,h2,h3,h4,rfl⟩
  ·have:=h.lt j p e;omega
  ·rw[length_append,length_singleton];omega
 ·rcases l.nw s p e1 with e | ⟨_,s',q,r',x',h1,h2,h3,h4,rfl⟩
  ·by_cases z:p.length<t
   ·obtain⟨p',a,b⟩:=h.f2 s p r x g e z hr hx;exact⟨p',l.kp _ _ a,b⟩
   ·exact l.cov s x g p (full s p r x g e (by omega) hr hx) e
  ·rw[length_append,length_singleton]at hl;omega
theorem LM.stop(h:LI ms o f t)(l:LM ms f t f dn)(full:∀ (s:Nat) q r x g,f[s]?=some (some q)→q.length=t→ms[s]?=some r→(x,g)∈r→dn s x g):d1r ms o f:=by
 refine⟨h.len,h.f1,fun s p r x g e1 hr hx=>?_,h.f3⟩;by_cases z:p.length<t
 ·exact h.f2 s p r x g e1 z hr hx
 ·exact l.cov s x g p (full s p r x g e1 (by have:=h.lt s p e1;omega) hr hx) e1
noncomputable def e1o(f:c0s):Nat:=(f.filter isNone).length
theorem g1r:∀ (f lf:c0s),lf.length=f.length→(∀ (j:Nat) p,f[j]?=some (some p)→lf[j]?=some (some p))→e1o lf≤e1o f∧(lf≠f→e1o lf<e1o f)
 | [],[],_,_=>⟨Nat.le_refl _,fun h=>absurd rfl h⟩
 | [],_::_,h,_=>by cases h
 | _::_,[],h,_=>by cases h
 | a::f,c::lf,h,k=>by
  obtain⟨i1,i2⟩:=g1r f lf (Nat.succ.inj h) fun j p e=>by
   have:=k (j+1) p (by rw[getElem?_cons_succ];exact e);rw[getElem?_cons_succ]at this;exact this
  unfold e1o at i1 i2 ⊢;rw[filter_cons,filter_cons];clear h;cases a with
  | some p=>
   have:=k 0 p rfl;rw[getElem?_cons_zero]at this;clear k;cases this;simp only[isNone_some,Bool.false_eq_true,if_false];exact⟨i1,fun z=>i2 fun e=>z (by rw[e])⟩
  | none=>
   clear k;cases c with
   | none=>
    simp only[isNone_none,if_true,length_cons];exact⟨by omega,fun z=>by have:=i2 fun e=>z (by rw[e]);omega⟩
   | some p=>
    simp only[isNone_none,isNone_some,Bool.false_eq_true,if_true,if_false,length_cons];exact⟨by omega,fun U=>by omega⟩
theorem v0l:∀ (n o:Nat),o<n→e1o ((List.replicate n none).set o (some []))+1=n
 | 0,o,h=>by omega
 | n+1,0,_=>by
  rw[replicate_succ,set_cons_zero];unfold e1o;rw[filter_cons,if_neg (by decide)];have:(List.replicate n (none:Option (List Nat))).filter isNone=List.replicate n none:=by
   rw[List.filter_eq_self];intro a ha;rw[(List.mem_replicate.mp ha).2];rfl
  rw[this,length_replicate]
 | n+1,o+1,h=>by
  rw[replicate_succ,set_cons_succ];have:=v0l n o (by omega);unfold e1o at this ⊢;rw[filter_cons,if_pos (by rfl),length_cons];omega
end
theorem w0b{G:PG}(W:WF G){Ks:List (List a0n)}(h:∀ K∈Ks,∃ y,Ker G K y)(n:Ks.Nodup):Ks.length<LIM:=by
 have hne:[]∉Ks:=fun z=>by
  obtain⟨y,hk⟩:=h _ z;cases y with
  | none=>exact absurd (show([]:List a0n)=[(0,0)] from hk) (by simp)
  | some x=>exact hk.1 rfl
 have h1:=b0q ([]::Ks) (h1h G.all) (nodup_cons.mpr ⟨hne,n⟩) fun K hK=>by
  rcases mem_cons.mp hK with rfl | hK
  ·have:G.all.filter (fun U=>false)=[]:=filter_eq_nil_iff.mpr fun U U=>by decide
   rw[← this];exact d0y _ _
  ·obtain⟨y,hk⟩:=h K hK;have:G.all.filter (fun p=>decide (p∈K))=K:=i0l ((o0y G).sublist filter_sublist) hk.srt fun p=>by
    rw[mem_filter,j0i,decide_eq_true_eq];exact⟨fun h=>h.2,fun hp=>⟨Ker.val W hk p hp,hp⟩⟩
   rw[← this];exact d0y _ _
 rw[q0i,length_cons]at h1;have h2:2 ^ G.all.length≤2 ^ 24:=Nat.pow_le_pow_right (by decide) W.small;have:(2:Nat) ^ 24=LIM:=by decide
 omega
theorem d0a.lim{G:PG}{b:BS}(W:WF G)(h:d0a G b):b.ms.length<LIM:=by rw[h.e];exact w0b W (fun K hK=>h.i.g.kerOf hK) h.i.g.nd
noncomputable def toP(ms:i0y)(s j:Nat):Bool:=(ms[s]?.getD []).any fun q=>q.2 == j
noncomputable def e0t(ms:i0y)(i j:Nat):List Nat:=(List.range i).filter fun s=>toP ms s j
theorem y0i(ms:i0y)(i j:Nat):e0t ms (i+1) j=e0t ms i j++(if toP ms i j then[i] else[]):=by
 unfold e0t;rw[range_succ,filter_append,filter_cons];split <;> rfl
theorem c1h(ms:i0y)(i j:Nat):(e0t ms i j).length≤i:=by
 unfold e0t;have:=length_filter_le (fun s=>toP ms s j) (List.range i);rw[length_range]at this;exact this
section
variable {G:PG}(W:WF G){H:MH}{g au sl:Addr}{b:BS}{sa mv:List Addr}{Z:Addr→Prop}{k:Nat}{Q:a0d}(w:d0a G b)(h:AH G H g au b sl sa mv Z)
include W w h
theorem c1j(q:∀ (fs:List Addr) d H',fs.length=b.ms.length→H d=none→H' d=some (.list (fs.map .ref))→(∀ (j:Nat) a,fs[j]?=some a→H' a=some (.list ((e0t b.ms b.ms.length j).map a0b)))→Ext H H'→Q (.ref d) H'):a0f (k+1) 23 [.ref au] H Q:=by
 have hN:sa.length=b.ms.length:=by rw[h.ns,w.e]
 have hlim:=w.lim W;refine a0c [some (.ref au),none,none,none,none] rfl rfl (seq ?_);walk_at"";refine a0i h.au rfl (c0l h.ls ⟨g0d W w h,?_⟩);refine c0g (fun i H' acc=>Ext H H'∧∃ fs:List Addr,acc=fs.map .ref∧fs.length=i∧fs.Nodup∧∀ a∈fs,H a=none∧H' a=some (.list [])) ⟨Ext.refl H,[],rfl,rfl,nodup_nil,fun U h=>nomatch h⟩ (fun i H' acc hI=>hI.1 _ _ h.ls) (fun i H' acc x K hx hI hK=>?_) fun H' acc hI=>?_
 ·obtain⟨e',fs,rfl,hl,hnd,hfs⟩:=hI;refine⟨[some (.ref au),none,none,none,some x],rfl,?_⟩;walk_at"";rw[if_pos trivial];refine a0h (by decide) fun c H2 hc h2 e2 b2=>hK _ _ ⟨e'.trans e2,fs++[c],by rw[map_append];rfl,by simp[hl],?_,fun a ha=>?_⟩
  ·rw[nodup_append];refine⟨hnd,by simp,fun u hu v hv e=>?_⟩;rw[mem_singleton]at hv;have:=(hfs u hu).2;rw[e,hv,hc]at this;cases this
  ·rcases mem_append.mp ha with ha | ha
   ·exact⟨(hfs a ha).1,e2 _ _ (hfs a ha).2⟩
   ·rw[mem_singleton]at ha;clear b2;subst ha;exact⟨e'.none hc,h2⟩
 ·obtain⟨e',fs,rfl,hl,hnd,hfs⟩:=hI;rw[lmp,hN]at hl;refine a0q fun d H2 hd h2 e2 b2=>⟨by decide,seq ?_⟩;have h0d:H d=none:=e'.none hd;have hdfs:d∉fs:=fun z=>by have:=(hfs d z).2;rw[hd]at this;cases this
  have flim:(fs.map a0a.ref).length≤LIM:=by rw[lmp,hl];omega
  walk_at"";have e02:=e'.trans e2;refine a0i (e02 _ _ h.au) rfl (c0l (e02 _ _ h.ls) ?_);refine a0s (fun i m H'=>Ext H H'∧(∃ x y,m=[some (.ref au),some (.ref d),x,y,none])∧H' d=some (.list (fs.map .ref))∧∀ (j:Nat) a,fs[j]?=some a→H' a=some (.list ((e0t b.ms i j).map a0b)))
   (Mac.i4_0 e02 (Mac.i3_2 _ _ rfl) h2 (fun j a ha=>by rw[show e0t b.ms 0 j=[] from rfl];exact e2 _ _ (hfs a (mog ha)).2)) (fun i m H' hI=>hI.1 _ _ h.ls) (fun i m H' x K hx hI hK=>?_) fun m H' hI=>?_
  ·obtain⟨e3,⟨x1,y1,rfl⟩,hd3,hfs3⟩:=hI;rw[gmp]at hx;obtain⟨a,ha,rfl⟩:=map_eq_some_iff.mp hx;have hi:i<b.ms.length:=by rw[← hN];exact(gsm ha).1
   obtain⟨a',m,K',y,row,ha',hm,hk,hy,hr,s⟩:=h.at_ w hi;rw[ha]at ha';cases ha';obtain⟨it,rd,ep,s1,s2,U⟩:=s;have hasc:=w.asc hr;have ek:(nkv (row.map fun q=>(q.1,a0b q.2))).map (·.1)=(row.map (·.1)).map a0b:=by
    unfold nkv;rw[map_map,map_map,map_map];rfl
   refine⟨[some (.ref au),some (.ref d),some (.ref a),y1,none],rfl,seq ?_⟩;walk_at"";refine a0i (e3 _ _ s1) rfl (b1d (e3 _ _ s2) (by decide) ?_);rw[ek];refine a0s (fun t m' H'=>Ext H H'∧(∃ y,m'=[some (.ref au),some (.ref d),some (.ref a),y,none])∧H' d=some (.list (fs.map .ref))∧∀ (j:Nat) c,fs[j]?=some c→H' c=some (.list ((e0t b.ms i j++(if (row.take t).any (fun q=>q.2 == j) then[i] else[])).map a0b)))
    (Mac.i4_0 e3 ⟨_,rfl⟩ hd3 (fun j c hc=>by simpa using hfs3 j c hc)) (fun t m' H' hI=>hI.1 _ _ s2) (fun t m' H' x K' hx hI hK'=>?_) fun m' H' hI=>?_
   ·obtain⟨e4,⟨y2,rfl⟩,hd4,hfs4⟩:=hI;rw[gmp,gmp,Option.map_map]at hx;obtain⟨⟨sx,j⟩,hq,rfl⟩:=map_eq_some_iff.mp hx;obtain⟨htl,hqt⟩:=gsm hq;have hqm:(sx,j)∈row:=mog hq;have hj:=w.lt hr hqm;obtain⟨c,hc⟩:∃ c,fs[j]?=some c:=⟨_,geg (by rw[hl];exact hj)⟩;have hcf:=hfs c (mog hc);have hcd:c≠d:=fun z=>hdfs (z▸mog hc);have tk:row.take (t+1)=row.take t++[(sx,j)]:=by rw[tsg htl,hqt]
    have hnot:(row.take t).any (fun q=>q.2 == j)=false:=by
     rw[any_eq_false];rintro⟨x',j'⟩ hq' z;rw[beq_iff_eq]at z;dsimp only at z;clear hq hx hj hc tk;subst z;have hx':x'=sx:=w.inj hr (mem_of_mem_take hq') hqm;clear hqm;subst hx';exact c0o (a0r hasc) (i:=t) (by rw[gmp,geg htl,hqt];rfl) (by rw[← map_take];exact mem_map.mpr (Mac.i3_1 _ hq' rfl))
    have hget:c0q (nkv (row.map fun q=>(q.1,a0b q.2))) (a0b sx)=some (a0b j):=by
     rw[d0g];refine a0z ?_ (mem_map.mpr (Mac.i3_1 _ hqm rfl));rw[c1r];exact a0r hasc
    refine⟨[some (.ref au),some (.ref d),some (.ref a),some (a0b sx),none],rfl,seq ?_⟩;walk_at"";refine a0i (e4 _ _ s1) rfl (w0u (e4 _ _ s2) rfl hget (d0n hd4 flim (v:=.ref c) (by rw[gmp,hc];rfl) ⟨a0p (hfs4 j c hc) (by decide),?_⟩));walk_at"";refine a0i (e4 _ _ s1) rfl (b0o (hfs4 j c hc) ?_ fun H5 h5 b5=>⟨rfl,b0m (hK' _ _ (Mac.i4_0 (e4.but hcf.1 b5) ⟨_,rfl⟩ (by rw[b5 d (Ne.symm hcd)];exact hd4) (fun j' c' hc'=>?_)))⟩)
    ·rw[hnot,lmp];simp only[Bool.false_eq_true,if_false,append_nil];have:=c1h b.ms i j;omega
    ·rw[tk,List.any_append];by_cases e:c'=c
     ·clear hcf hcd b5;subst e;have ej:j'=j:=by
       obtain⟨l1,e1⟩:=gsm hc';obtain⟨l2,e2'⟩:=gsm hc;have hn:=hnd;rw[nodup_iff_pairwise_ne,pairwise_iff_getElem]at hn;rcases Nat.lt_trichotomy j' j with z | z | z
       ·exact absurd (by rw[e1,e2']) (hn j' j l1 l2 z)
       ·exact z
       ·exact absurd (by rw[e1,e2']) (hn j j' l2 l1 z)
      clear hq hx hqt hqm hj tk hget hc;subst ej;rw[h5,hnot];simp
     ·have ej:j'≠j:=by clear hq hx hqt hqm hj tk hnot hget h5;rintro rfl;rw[hc]at hc';cases hc';exact e rfl
      rw[b5 c' e,hfs4 j' c' hc'];have:(([(sx,j)]:List (Nat×Nat)).any fun q=>q.2 == j')=false:=by simpa using fun z:j=j'=>ej z.symm
      rw[this,Bool.or_false]
   ·obtain⟨e4,⟨y2,rfl⟩,hd4,hfs4⟩:=hI;refine h0k (hK _ _ (Mac.i4_0 e4 (Mac.i3_2 _ _ rfl) hd4 (fun j c hc=>?_)));rw[hfs4 j c hc,y0i,lmp,lmp,take_length];unfold toP;rw[hr];rfl
  ·obtain⟨e3,⟨x1,y1,rfl⟩,hd3,hfs3⟩:=hI;rw[lmp,hN]at hfs3;refine d0s ?_;walk_at"";exact q fs d H' hl h0d hd3 hfs3 e3
end
noncomputable def z0m(ms:i0y)(L:List Nat):List Nat:=(List.range ms.length).filter fun p=>(ms[p]?.getD []).any fun q=>decide (q.2∈L)
noncomputable def c0k(ms:i0y)(s:Nat):Nat→List Nat
 | 0=>[s]
 | n+1=>z0m ms (c0k ms s n)
theorem e1a{ms:i0y}{L:List Nat}{p:Nat}(h:p∈z0m ms L):p<ms.length:=mem_range.mp (mem_filter.mp h).1
theorem v0f{ms:i0y}{s:Nat}(hs:s<ms.length):∀ n,(∀ p∈c0k ms s n,p<ms.length)∧(c0k ms s n).Nodup
 | 0=>⟨fun p h=>(mem_singleton.mp h).symm▸hs,by simp[c0k]⟩
 | n+1=>⟨fun p h=>e1a h,a0r (pairwise_lt_range.sublist filter_sublist)⟩
section
variable {G:PG}(W:WF G){H:MH}{g au sl:Addr}{b:BS}{sa mv:List Addr}{Z:Addr→Prop}{k:Nat}{Q:a0d}(w:d0a G b)(h:AH G H g au b sl sa mv Z)
include W w h
theorem z0o{s c:Nat}(hs:s<b.ms.length)(hc:c≤10)(q:∀ d H',H d=none→H' d=some (.list ((c0k b.ms s c).map a0b))→Ext H H'→Q (.ref d) H'):a0f (k+2) 24 [.ref au,a0b s,a0b c] H Q:=by
 have hlim:=w.lim W;refine a0c [some (.ref au),some (a0b s),some (a0b c),none,none,none,none,none,none] rfl rfl (seq ?_);walk_at"";refine c1j W w h fun fs d H1 hfl hd h1 hfs e1=>⟨by decide,seq ?_⟩;have flim:(fs.map a0a.ref).length≤LIM:=by rw[lmp,hfl];omega
 walk_at"";refine a0h (by simp[LIM]) fun f0 H2 hf0 h2 e2 b2=>⟨by decide,seq ?_⟩;walk_at"";refine⟨by unfold LIM;omega,by unfold LIM;omega,?_⟩;rw[Int.toNat_natCast];refine a0s (fun i m H'=>Ext H1 H'∧(∃ x y z t f,m=[some (.ref au),some (a0b s),some (a0b c),some (.ref d),some (.ref f),x,y,z,t]∧H f=none∧H' f=some (.list ((c0k b.ms s i).map a0b))))
  ⟨e2,_,_,_,_,f0,rfl,e1.none hf0,h2⟩ (fun U U U U=>trivial) (fun i m H' x K hx hI hK=>?_) fun m H' hI=>?_
 ·obtain⟨e3,x1,y1,z1,t1,f,rfl,hf0',hf⟩:=hI;obtain⟨hic,rfl⟩:=b0h hx;obtain⟨bl,bn⟩:=v0f hs i;refine⟨[some (.ref au),some (a0b s),some (a0b c),some (.ref d),some (.ref f),some (a0b i),y1,z1,t1],rfl,seq ?_⟩;walk_at"";refine⟨⟨by decide,by decide⟩,a0q fun er H4 her h4 e4 b4=>⟨by decide,seq ?_⟩⟩;walk_at"";refine c0l (e4 _ _ hf) ?_;have h1er:H1 er=none:=e3.none her;refine a0s (fun j m' H'=>Ext H1 H'∧H' f=some (.list ((c0k b.ms s i).map a0b))∧(∃ z t,m'=[some (.ref au),some (a0b s),some (a0b c),some (.ref d),some (.ref f),some (a0b i),some (.ref er),z,t])∧
    ∃ (ks:List Nat) (ep:Nat),ks.Nodup∧H' er=some (.dict 1 (nkv (ks.map fun p=>(p,a0a.bool true))) ep)∧(∀ p,p∈ks↔∃ x∈(c0k b.ms s i).take j,p∈e0t b.ms b.ms.length x))
   ⟨e3.trans e4,e4 _ _ hf,(Mac.i3_2 _ _ rfl),[],0,nodup_nil,h4,fun p=>by simp⟩ (fun j m' H' hI=>hI.2.1) (fun j m' H' x K' hx hI hK'=>?_) fun m' H' hI=>?_
  ·obtain⟨e5,hf5,⟨z2,t2,rfl⟩,ks,ep,hks,her5,hmem⟩:=hI;rw[gmp]at hx;obtain⟨x,hx',rfl⟩:=map_eq_some_iff.mp hx;obtain⟨hjl,hxj⟩:=gsm hx';have hxl:=bl x (mog hx');obtain⟨cx,hcx⟩:∃ cx,fs[x]?=some cx:=⟨_,geg (by rw[hfl];exact hxl)⟩;have hfer:f≠er:=a0t her hf;refine⟨[some (.ref au),some (a0b s),some (a0b c),some (.ref d),some (.ref f),some (a0b i),some (.ref er),some (a0b x),t2],rfl,seq ?_⟩;walk_at"";refine d0n (e5 _ _ h1) flim (v:=.ref cx) (by rw[gmp,hcx];rfl) (c0l (e5 _ _ (hfs x cx hcx)) ?_);refine a0s (fun t m' H'=>Ext H1 H'∧H' f=some (.list ((c0k b.ms s i).map a0b))∧(∃ t,m'=[some (.ref au),some (a0b s),some (a0b c),some (.ref d),some (.ref f),some (a0b i),some (.ref er),some (a0b x),t])∧
     ∃ (ks:List Nat) (ep:Nat),ks.Nodup∧H' er=some (.dict 1 (nkv (ks.map fun p=>(p,a0a.bool true))) ep)∧(∀ p,p∈ks↔(∃ x∈(c0k b.ms s i).take j,p∈e0t b.ms b.ms.length x)∨p∈(e0t b.ms b.ms.length x).take t))
    ⟨e5,hf5,⟨_,rfl⟩,ks,ep,hks,her5,fun p=>by rw[hmem];simp⟩ (fun t m' H' hI=>hI.1 _ _ (hfs x cx hcx)) (fun t m' H' y K2 hy hI hK2=>?_) fun m' H' hI=>?_
   ·obtain⟨e6,hf6,⟨t3,rfl⟩,ks,ep,hks,her6,hmem⟩:=hI;rw[gmp]at hy;obtain⟨p,hp,rfl⟩:=map_eq_some_iff.mp hy;obtain⟨htl,hpt⟩:=gsm hp;have pl:∀ x p,p∈e0t b.ms b.ms.length x→p<b.ms.length:=fun x p h=>mem_range.mp (mem_filter.mp h).1;have kl:ks.length<LIM:=by
     have:=b0q ks (List.range b.ms.length) hks fun u hu=>by
      rw[mem_range];rcases(hmem u).mp hu with⟨x',U,h'⟩ | h'
      ·exact pl _ _ h'
      ·exact pl _ _ (mem_of_mem_take h')
     rw[length_range]at this;omega
    have kfst:(ks.map fun p=>(p,a0a.bool true)).map (·.1)=ks:=by rw[map_map];exact map_id _
    have tk:(e0t b.ms b.ms.length x).take (t+1)=(e0t b.ms b.ms.length x).take t++[p]:=by rw[tsg htl,hpt]
    refine⟨[some (.ref au),some (a0b s),some (a0b c),some (.ref d),some (.ref f),some (a0b i),some (.ref er),some (a0b x),some (a0b p)],rfl,seq ?_⟩;walk_at"";refine l1i her6 rfl (by rw[g0a,lmp];exact kl) fun H7 ep7 h7 b7=>b0m (hK2 _ _ (Mac.i4_0 (e6.but h1er b7) (by rw[b7 f hfer];exact hf6) ⟨_,rfl⟩ ?_));rw[i0s]at h7;by_cases hpk:p∈ks
    ·refine⟨ks,ep7,hks,?_,fun u=>?_⟩
     ·rw[h7];unfold putN;rw[if_pos (by rw[kfst];exact hpk)]
      congr 3
      rw[map_map];refine map_congr_left fun u U=>?_;show(if u=p then(u,a0a.bool true) else(u,a0a.bool true))=_
      split <;> rfl
     ·rw[hmem,tk,mem_append,mem_singleton];constructor
      ·rintro(z | z)
       ·exact .inl z
       ·exact .inr (.inl z)
      ·clear hp hy hpt tk;rintro(z | z | rfl)
       ·exact .inl z
       ·exact .inr z
       ·exact(hmem u).mp hpk
    ·refine⟨ks++[p],ep7,?_,?_,fun u=>?_⟩
     ·rw[nodup_append];refine⟨hks,by simp,fun u hu v hv e=>?_⟩;rw[mem_singleton]at hv;exact hpk (hv▸e▸hu)
     ·rw[h7];unfold putN;rw[if_neg (by rw[kfst];exact hpk),map_append];rfl
     ·rw[mem_append,mem_singleton,hmem,tk,mem_append,mem_singleton,or_assoc]
   ·obtain⟨e6,hf6,⟨t3,rfl⟩,ks,ep,hks,her6,hmem⟩:=hI;rw[lmp,take_length]at hmem;refine h0k (hK' _ _ ⟨e6,hf6,(Mac.i3_2 _ _ rfl),ks,ep,hks,her6,fun p=>?_⟩);rw[hmem,tsg hjl,hxj];constructor
    ·rintro(⟨x',h1,h2⟩ | z)
     ·exact⟨x',mem_append_left _ h1,h2⟩
     ·exact⟨x,mem_append_right _ (.head _),z⟩
    ·rintro⟨x',h1,h2⟩;rcases mem_append.mp h1 with h1 | h1
     ·exact .inl (Mac.i3_1 x' h1 h2)
     ·rw[mem_singleton]at h1;clear hx' hx hxj hxl hcx;subst h1;exact .inr h2
  ·obtain⟨e5,hf5,⟨z2,t2,rfl⟩,ks,ep,hks,her5,hmem⟩:=hI;rw[lmp,take_length]at hmem;have kl:ks.length≤LIM:=by
    have:=b0q ks (List.range b.ms.length) hks fun u hu=>by
     obtain⟨x',U,h'⟩:=(hmem u).mp hu;exact(mem_filter.mp h').1
    rw[length_range]at this;omega
   have ek:(nkv (ks.map fun p=>(p,a0a.bool true))).map (·.1)=ks.map a0b:=by
    unfold nkv;rw[map_map,map_map];rfl
   refine seq ?_;walk_at"";refine u0y her5 ?_;rw[ek];refine k0u kl fun l' f' H6 hp hsr hf6 h6 e6 b6=>⟨by decide,b0m (hK _ _ ⟨e5.trans e6,_,_,_,_,f',rfl,(e1.trans e5).none hf6,?_⟩)⟩;rw[h6]
   congr 3
   show l'=z0m b.ms (c0k b.ms s i);refine b0e (b0r hsr (hp.nodup_iff.mpr hks)) (pairwise_lt_range.sublist filter_sublist) fun p=>?_;rw[hp.mem_iff,hmem];unfold z0m;rw[mem_filter,mem_range,any_eq_true];constructor
   ·rintro⟨x,hx,hp'⟩;unfold e0t toP at hp';rw[mem_filter,mem_range,any_eq_true]at hp';obtain⟨h1,q',h2,h3⟩:=hp';rw[beq_iff_eq]at h3;exact⟨h1,q',h2,decide_eq_true (h3▸hx)⟩
   ·rintro⟨h1,q',h2,h3⟩;refine⟨q'.2,of_decide_eq_true h3,?_⟩;unfold e0t toP;rw[mem_filter,mem_range,any_eq_true];exact⟨h1,q',h2,beq_self_eq_true _⟩
 ·obtain⟨e3,x1,y1,z1,t1,f,rfl,hf0',hf⟩:=hI;rw[lmp,length_range]at hf;refine d0s ?_;walk_at"";exact q f H' hf0' hf (e1.trans e3)
end
noncomputable def c0e:Option (List Nat)→a0a
 | none=>.none
 | some p=>.tup (p.map a0b)
theorem is_none{H:MH}{P:Bool→Prop}{o:Option (List Nat)}:h0w .is (c0e o) .none H P=P o.isNone:=by cases o <;> rfl
theorem y0c{H:MH}{P:Bool→Prop}{o:Option (List Nat)}:h0w .isnot (c0e o) .none H P=P o.isSome:=by cases o <;> rfl
theorem d0k{f:c0s}{j:Nat}{o:Option (List Nat)}(h:f[j]?=some o):(f.map c0e)[j]?=some (c0e o):=by rw[gmp,h];rfl
section
variable {G:PG}(W:WF G){H:MH}{g au sl:Addr}{b:BS}{sa mv:List Addr}{Z:Addr→Prop}{k:Nat}{Q:a0d}(w:d0a G b)(h:AH G H g au b sl sa mv Z)
include W w h
set_option tactic.hygienic true in
theorem w0o{o:Nat}(ho:o<b.ms.length)(q:∀ (f:c0s) d H',d1r b.ms o f→H d=none→H' d=some (.list (f.map c0e))→Ext H H'→Q (.ref d) H'):a0f (k+1) 25 [.ref au,a0b o] H Q:=by
 have hN:sa.length=b.ms.length:=by rw[h.ns,w.e]
 have hlim:=w.lim W;refine a0c [some (.ref au),some (a0b o),none,none,none,none,none,none,none] rfl rfl (seq ?_);walk_at"";refine a0i h.au rfl (c0l h.ls ⟨g0d W w h,?_⟩);refine a0x (fun i=>List.replicate i .none) rfl (h.ls) (fun i x K hx hK=>?_) ?_
 ·refine⟨[some (.ref au),some (a0b o),none,none,none,none,none,none,some x],rfl,?_⟩;walk_at"";rw[if_pos trivial];exact hK _ _ ⟨rfl,by rw[List.replicate_succ']⟩
 rw[lmp,hN];refine a0q fun fd H1 hfd h1 e1 b1=>⟨by decide,seq ?_⟩;walk_at"";refine⟨by decide,putL h1 (by rw[length_replicate];exact ho) (by rw[length_replicate];omega) fun H2 h2 b2=>seq ?_⟩;have e2:Ext H H2:=e1.but hfd b2;walk_at"";refine a0h (by simp[LIM]) fun qu H3 hqu h3 e3 b3=>⟨by decide,seq ?_⟩;walk_at"";refine⟨by decide,seq ?_⟩;have hqf:qu≠fd:=(a0t hqu h2).symm;have h0q:H qu=none:=e2.none hqu;have h3f:H3 fd=some (.list (((List.replicate b.ms.length none).set o (some [])).map c0e)):=by
  rw[e3 _ _ h2,map_set,map_replicate];rfl
 walk_at"";refine g0f (fun j m H4=>∃ (at_:Nat) (q:List Nat) (f:c0s) (x y z:Option a0a),j=b.ms.length+1-at_∧at_≤q.length∧m=[some (.ref au),some (a0b o),some (.ref fd),some (.ref qu),some (a0b at_),x,y,z,none]∧Ext H H4∧H4 fd=some (.list (f.map c0e))∧H4 qu=some (.list (q.map a0b))∧n0h b.ms o q f at_ [])
  (fun j m H4 K hI hK=>?_) (b.ms.length+1) _ _ (Mac.i8_6 0 [o] _ _ _ _ rfl (Mac.i6_0 (Nat.zero_le _) rfl (e2.trans e3) h3f h3 (n0h.init ho)))
 obtain⟨at_,qs,f,x0,y0,z0,rfl,hat,rfl,e4,hf4,hq4,B⟩:=hI;have ql:=B.qlen;have fl:(f.map c0e).length=b.ms.length:=by rw[lmp,B.len]
 walk_at"";refine i0p hq4 (by rw[lmp];omega) ?_;walk_at"";rw[lmp];split
 ·rename_i hlt;have hlt':at_<qs.length:=by omega
  obtain⟨s,hs⟩:∃ s,qs[at_]?=some s:=⟨_,geg hlt'⟩;obtain⟨p,hp⟩:=(B.mem s).mpr (mog hs);have hsl:s<b.ms.length:=by rw[← B.len];exact(gsm hp).1
  obtain⟨a,m,K',y,row,ha,hm,hk,hy,hr,sh⟩:=h.at_ w hsl;obtain⟨it,rd,ep,s1,s2,U⟩:=sh;have hasc:=w.asc hr;have hpl:=B.ln at_ s p hs hp;have ek:(nkv (row.map fun q=>(q.1,a0b q.2))).map (·.1)=(row.map (·.1)).map a0b:=by
   unfold nkv;rw[map_map,map_map,map_map];rfl
  refine seq ?_;walk_at"";refine d0n hq4 (by rw[lmp];omega) (v:=a0b s) (by rw[gmp,hs];rfl) ⟨by decide,seq ?_⟩;walk_at"";refine a0i (e4 _ _ h.au) rfl (d0n (e4 _ _ h.ls) (g0d W w h) (c1y W w h ha) (a0i (e4 _ _ s1) rfl ⟨by decide,seq ?_⟩));walk_at"";refine b1d (e4 _ _ s2) (by decide) ?_;rw[ek];refine a0s (fun t m' H5=>∃ (q:List Nat) (f:c0s) (x:Option a0a),q[at_]?=some s∧f[s]?=some (some p)∧m'=[some (.ref au),some (a0b o),some (.ref fd),some (.ref qu),some (a0b at_),some (a0b s),some (.ref m),x,none]∧Ext H H5∧H5 fd=some (.list (f.map c0e))∧H5 qu=some (.list (q.map a0b))∧n0h b.ms o q f at_ (row.take t))
   (Mac.i8_3 qs f _ hs hp rfl e4 (Mac.i3_0 hf4 hq4 B)) (fun t m' H5 hI=>by obtain⟨U,U,U,U,U,U,e,U⟩:=hI;exact e _ _ s2) (fun t m' H5 x K2 hx hI hK2=>?_) fun m' H5 hI=>?_
  ·obtain⟨q5,f5,x5,hs5,hp5,rfl,e5,hf5,hq5,B5⟩:=hI;rw[gmp,gmp,Option.map_map]at hx;obtain⟨⟨sx,j⟩,hq,rfl⟩:=map_eq_some_iff.mp hx;obtain⟨htl,hqt⟩:=gsm hq;have hqm:(sx,j)∈row:=mog hq;have hj:=w.lt hr hqm;have tk:row.take (t+1)=row.take t++[(sx,j)]:=by rw[tsg htl,hqt]
   have fl5:(f5.map c0e).length=b.ms.length:=by rw[lmp,B5.len]
   have less:∀ y g,(y,g)∈row.take t→y<sx:=fun y g hy=>by
    exact s0p hasc (i:=t) (by rw[gmp,geg htl,hqt];rfl) (by rw[← map_take];exact mem_map.mpr (Mac.i3_1 _ hy rfl))
   have hget:c0q (nkv (row.map fun q=>(q.1,a0b q.2))) (a0b sx)=some (a0b j):=by
    rw[d0g];refine a0z ?_ (mem_map.mpr (Mac.i3_1 _ hqm rfl));rw[c1r];exact a0r hasc
   obtain⟨oj,hoj⟩:∃ oj,f5[j]?=some oj:=⟨_,geg (by rw[B5.len];exact hj)⟩;refine⟨[some (.ref au),some (a0b o),some (.ref fd),some (.ref qu),some (a0b at_),some (a0b s),some (.ref m),some (a0b sx),none],rfl,seq ?_⟩;walk_at"";refine w0u (e5 _ _ s2) rfl hget (d0n hf5 (by rw[fl5];omega) (d0k hoj) ?_);rw[is_none];walk_at"";cases oj with
   | some p'=>
    simp only[isNone_some,Bool.false_eq_true,if_false];refine b0m (h0k (hK2 _ _ (Mac.i8_3 q5 f5 _ hs5 hp5 rfl e5 (Mac.i3_0 hf5 hq5 ?_))));rw[tk];exact B5.skip hs5 hp5 less hoj
   | none=>
    simp only[isNone_none,if_true];have B6:=B5.add hs5 hp5 hr hqm less hoj;have ql6:=B6.qlen;rw[length_append,length_singleton]at ql6;refine seq ?_;walk_at"";refine d0n hf5 (by rw[fl5];omega) (d0k hp5) ?_;refine⟨by decide,?_⟩;show(List.map a0b p).length+[a0b sx].length≤LIM∧_;refine⟨by rw[lmp,length_singleton];omega,w0u (e5 _ _ s2) rfl hget (putL hf5 (by rw[fl5];exact hj) (by rw[fl5];omega) fun H6 h6 b6=>seq ?_)⟩;have e6:=e5.but hfd b6;have hq6:H6 qu=some (.list (q5.map a0b)):=by rw[b6 qu hqf];exact hq5
    walk_at"";refine⟨a0p hq6 (by decide),w0u (e6 _ _ s2) rfl hget ?_⟩;walk_at"";refine b0o hq6 (by rw[lmp];omega) fun H7 h7 b7=>⟨rfl,b0m (h0k (hK2 _ _ (Mac.i8_3 (q5++[j]) (f5.set j (some (p++[sx]))) _ ?_ ?_ rfl (e6.but h0q b7) (Mac.i3_0 ?_ (by rw[h7,map_append];rfl) ?_))))⟩
    ·rw[getElem?_append_left (gsm hs5).1];exact hs5
    ·rw[getElem?_set_ne]
     ·exact hp5
     ·first | exact nef (hoj) hp5 (fun e=>by cases e) | exact nef hp5 (hoj) (fun e=>by cases e)
    ·rw[b7 fd (Ne.symm hqf),h6,map_set]
     congr 3
     show _=a0a.tup ((p++[sx]).map a0b);rw[map_append];rfl
    ·rw[tk];exact B6
  ·obtain⟨q5,f5,x5,hs5,hp5,rfl,e5,hf5,hq5,B5⟩:=hI;rw[lmp,lmp,take_length]at B5;have hl:=(gsm hs5).1;refine seq ?_;walk_at"";have B6:=B5.turn hs5 hr;have:=B5.qlen;exact⟨by decide,b0m (hK _ _ _ (by omega) (Mac.i8_6 (at_+1) q5 f5 _ _ _ rfl (Mac.i6_0 (by omega) rfl e5 hf5 hq5 B6)))⟩
 ·rename_i hge;refine d0s ?_;walk_at"";exact q f fd H4 (B.fin (by omega)) hfd hf4 e4
theorem u0u{s:Nat}(hs:s<b.ms.length)(q:∀ (f:c0s) o H',d1r b.ms 0 f→f[s]?=some o→Ext H H'→Q (c0e o) H'):a0f (k+2) 26 [.ref au,a0b s] H Q:=by
 have hlim:=w.lim W;refine a0c [some (.ref au),some (a0b s)] rfl rfl (d0s ?_);walk_at"";refine w0o W w h (o:=0) (by omega) fun f d H1 hF hd h1 e1=>?_;walk_at"";obtain⟨oj,hoj⟩:∃ oj,f[s]?=some oj:=⟨_,geg (by rw[hF.len];exact hs)⟩;exact d0n h1 (by rw[lmp,hF.len];omega) (d0k hoj) (q f oj H1 hF hoj e1)
end
theorem c1t{k:Nat}{a:Addr}{v1 v2 v3 v4:a0a}{H:MH}{Q:a0d}(ha:H a=some (.inst 4 []))(q:∀ H',H' a=some (.inst 4 [v1,v2,v3,v4,.none,.int 0,.int 0])→But a H H'→Q .none H'):a0f (k+1) 31 [.ref a,v1,v2,v3,v4] H Q:=by
 refine a0c [some (.ref a),some v1,some v2,some v3,some v4,some .none,some (.int 0),some (.int 0)] rfl rfl (seq ?_);refine g0r ha rfl fun H1 h1 b1=>seq ?_;refine g0r h1 rfl fun H2 h2 b2=>seq ?_;refine g0r h2 rfl fun H3 h3 b3=>seq ?_;refine g0r h3 rfl fun H4 h4 b4=>seq ?_;refine g0r h4 rfl fun H5 h5 b5=>seq ?_;refine g0r h5 rfl fun H6 h6 b6=>seq ?_;walk_at"";refine g0r h6 rfl fun H7 h7 b7=>b0m (q H7 h7 fun x hx=>?_);rw[b7 x hx,b6 x hx,b5 x hx,b4 x hx,b3 x hx,b2 x hx,b1 x hx]
noncomputable def byU(G:PG)(i s:Nat):List Nat:=(List.range i).filter fun n=>G.lf n == s
theorem e1i(G:PG)(i s:Nat):byU G (i+1) s=byU G i s++(if G.lf i=s then[i] else[]):=by
 unfold byU;rw[range_succ,filter_append,filter_cons];by_cases h:G.lf i=s
 ·rw[if_pos (by simpa using h),if_pos h];rfl
 ·rw[if_neg (by simpa using h),if_neg h];rfl
noncomputable def c1a(G:PG)(i:Nat):List Nat:=(List.range i).flatMap fun n=>List.replicate ((G.rt n).length+1) n
theorem c1b(G:PG)(i:Nat):c1a G (i+1)=c1a G i++List.replicate ((G.rt i).length+1) i:=by
 unfold c1a;rw[range_succ,flatMap_append];simp
theorem r0p{G:PG}{H0 H:MH}{a nmA rl:Addr}{tc lv st:a0a}{rs:List Addr}{k:Nat}{Q:a0d}(h0:H0 a=none)(e0:Ext H0 H)(ha:H a=some (.inst 5 []))(hnm:H0 nmA=some (.list (G.nm.map .str)))(hrl:H0 rl=some (.list (rs.map .ref)))(hrn:rs.length=G.rs.length)
  (hr:∀ (i:Nat) c,rs[i]?=some c→∃ rest,H0 c=some (.inst 4 (a0b i::a0b (G.lf i)::.tup ((G.rt i).map a0b)::rest))) (hlf:∀ n,n<G.rs.length→G.lf n<G.nm.length) (hsm:G.all.length≤24) (hnl:G.nm.length≤20) (hr3:∀ n,(G.rt n).length≤3)
  (q:∀ D H',Ext H0 H'→GH H' a G D→(D.nm=nmA∧D.rl=rl∧H0 D.bl=none∧H0 D.of=none∧H0 D.ow=none∧∀ c∈D.bs,H0 c=none)→Q .none H'):a0f (k+1) 32 [.ref a,.ref nmA,tc,.ref rl,lv,.none,st] H Q:=by
 have hol:G.off G.rs.length≤24:=by rw[← o0x];exact hsm
 have hrl24:G.rs.length≤24:=by have:=b1x G _ (Nat.le_refl _);omega
 refine a0c [some (.ref a),some (.ref nmA),some tc,some (.ref rl),some lv,some .none,some st,none,none] rfl rfl (seq ?_);refine g0r ha rfl fun H1 h1 b1=>seq ?_;refine g0r h1 rfl fun H2 h2 b2=>seq ?_;refine g0r h2 rfl fun H3 h3 b3=>seq ?_;refine g0r h3 rfl fun H4 h4 b4=>seq ?_;refine g0r h4 rfl fun H5 h5 b5=>seq ?_;refine g0r h5 rfl fun H6 h6 b6=>seq ?_;have e6:Ext H0 H6:=((((((e0.but h0 b1).but h0 b2).but h0 b3).but h0 b4).but h0 b5).but h0 b6);walk_at"";refine a0i h6 rfl (c0l (e6 _ _ hnm) ⟨by rw[lmp];unfold LIM;omega,?_⟩);refine c0g (fun i H' acc=>Ext H6 H'∧∃ bs:List Addr,acc=bs.map .ref∧bs.length=i∧bs.Nodup∧∀ c∈bs,H6 c=none∧H' c=some (.list [])) ⟨Ext.refl H6,[],rfl,rfl,nodup_nil,fun U h=>nomatch h⟩ (fun i H' acc hI=>hI.1 _ _ (e6 _ _ hnm)) (fun i H' acc x K hx hI hK=>?_) fun H' acc hI=>?_
 ·obtain⟨e',bs,rfl,hl,hnd,hbs⟩:=hI;refine⟨[some (.ref a),some (.ref nmA),some tc,some (.ref rl),some lv,some .none,some st,none,some x],rfl,?_⟩;walk_at"";rw[if_pos trivial];refine a0h (by decide) fun c Ha hc hca ea U=>hK _ _ ⟨e'.trans ea,bs++[c],by rw[map_append];rfl,by simp[hl],?_,fun d hd=>?_⟩
  ·rw[nodup_append];refine⟨hnd,by simp,fun u hu v hv e=>?_⟩;rw[mem_singleton]at hv;have:=(hbs u hu).2;rw[e,hv,hc]at this;cases this
  ·rcases mem_append.mp hd with hd | hd
   ·exact⟨(hbs d hd).1,ea _ _ (hbs d hd).2⟩
   ·rw[mem_singleton]at hd;subst hd;exact⟨e'.none hc,hca⟩
 obtain⟨e7,bs,rfl,hbl,hbnd,hbs⟩:=hI;rw[lmp]at hbl;refine a0q fun bl H8 hb8 h8 e8 b8=>g0r (e8 _ _ (e7 _ _ h6)) rfl fun H9 h9 b9=>seq ?_;have nbl:bl≠a:=(a0t hb8 (e7 _ _ h6)).symm;walk_at"";refine a0h (by decide) fun of H10 ho10 h10 e10 b10=>g0r (e10 _ _ h9) rfl fun H11 h11 b11=>seq ?_;have nof:of≠a:=(a0t ho10 h9).symm;walk_at"";refine a0h (by decide) fun ow H12 hw12 h12 e12 b12=>g0r (e12 _ _ h11) rfl fun H13 h13 b13=>seq ?_;have now:ow≠a:=(a0t hw12 h11).symm;have e9:Ext H0 H9:=((e6.trans e7).trans e8).but h0 b9;have e11:Ext H0 H11:=(e9.trans e10).but h0 b11;have e13:Ext H0 H13:=(e11.trans e12).but h0 b13;have h9bl:H9 bl=some (.list (bs.map .ref)):=by rw[b9 bl nbl];exact h8
 have h13bl:H13 bl=some (.list (bs.map .ref)):=by
  rw[b13 bl nbl];refine e12 _ _ ?_;rw[b11 bl nbl];exact e10 _ _ h9bl
 have h11of:H11 of=some (.list []):=by rw[b11 of nof];exact h10
 have h13of:H13 of=some (.list []):=by rw[b13 of nof];exact e12 _ _ h11of
 have h13ow:H13 ow=some (.list []):=by rw[b13 ow now];exact h12
 have nbs:∀ c∈bs,c≠a:=fun c hc z=>by have:=(hbs c hc).1;rw[z,h6]at this;cases this
 have h9bs:∀ c∈bs,H9 c=some (.list []):=fun c hc=>by rw[b9 c (nbs c hc)];exact e8 _ _ (hbs c hc).2
 have h11bs:∀ c∈bs,H11 c=some (.list []):=fun c hc=>by rw[b11 c (nbs c hc)];exact e10 _ _ (h9bs c hc)
 have h13bs:∀ c∈bs,H13 c=some (.list []):=fun c hc=>by rw[b13 c (nbs c hc)];exact e12 _ _ (h11bs c hc)
 have h0bs:∀ c∈bs,H0 c=none:=fun c hc=>e6.none (hbs c hc).1;have bsbl:bl∉bs:=fun z=>by have:=(hbs bl z).2;rw[hb8]at this;cases this
 have bsof:of∉bs:=fun z=>by have:=h9bs of z;rw[ho10]at this;cases this
 have bsow:ow∉bs:=fun z=>by have:=h11bs ow z;rw[hw12]at this;cases this
 have blof:bl≠of:=by first | exact nef (h9bl) ho10 (fun e=>by cases e) | exact nef ho10 (h9bl) (fun e=>by cases e)
 have h11bl:H11 bl=some (.list (bs.map .ref)):=by rw[b11 bl nbl];exact e10 _ _ h9bl
 have blow:bl≠ow:=by first | exact nef (h11bl) hw12 (fun e=>by cases e) | exact nef hw12 (h11bl) (fun e=>by cases e)
 have ofow:of≠ow:=by first | exact nef (h11of) hw12 (fun e=>by cases e) | exact nef hw12 (h11of) (fun e=>by cases e)
 have h0bl:H0 bl=none:=(e6.trans e7).none hb8;have h0of:H0 of=none:=e9.none ho10;have h0ow:H0 ow=none:=e11.none hw12;have rlim:(rs.map a0a.ref).length≤LIM:=by rw[lmp,hrn];unfold LIM;omega
 have blim:(bs.map a0a.ref).length≤LIM:=by rw[lmp,hbl];unfold LIM;omega
 walk_at"";refine a0i h13 rfl (c0l (e13 _ _ hrl) ?_);refine a0s (fun i m H'=>Ext H0 H'∧(∃ x y,m=[some (.ref a),some (.ref nmA),some tc,some (.ref rl),some lv,some .none,some st,x,y])∧H' a=some (.inst 5 [.ref nmA,tc,.ref rl,lv,.none,st,.ref bl,.ref of,.ref ow])∧H' bl=some (.list (bs.map .ref))∧
   (∀ (s:Nat) c,bs[s]?=some c→H' c=some (.list ((byU G i s).map a0b)))∧H' of=some (.list ((List.range i).map fun j=>a0b (G.off j)))∧H' ow=some (.list ((c1a G i).map a0b)))
  (Mac.i7_0 e13 ⟨_,_,rfl⟩ h13 h13bl (fun s c hc=>h13bs c (mog hc)) h13of h13ow) (fun i m H' hI=>hI.1 _ _ hrl) (fun i m H' x K hx hI hK=>?_) fun m H' hI=>?_
 ·obtain⟨eI,⟨x1,y1,rfl⟩,hIa,hIbl,hIbs,hIof,hIow⟩:=hI;rw[gmp]at hx;obtain⟨c,hc,rfl⟩:=map_eq_some_iff.mp hx;have hi:i<G.rs.length:=by rw[← hrn];exact(gsm hc).1
  obtain⟨rest,hrr⟩:=hr i c hc;have hl:=hlf i hi;obtain⟨bc,hbc⟩:∃ bc,bs[G.lf i]?=some bc:=⟨_,geg (by rw[hbl];exact hl)⟩;have hbm:=mog hbc;have own_le:(c1a G i).length≤24:=by
   have:=f0j G i (by omega);unfold c1a;rw[this];have:=l0c G hi (Nat.le_refl _);omega
  have own_le2:(c1a G i).length+((G.rt i).length+1)≤24:=by
   have:=f0j G i (by omega);unfold c1a;rw[this];have:=l0c G hi (Nat.le_refl _);omega
  have limr:((G.rt i).map a0b).length≤LIM:=by rw[lmp];have:=hr3 i;unfold LIM;omega
  refine⟨[some (.ref a),some (.ref nmA),some tc,some (.ref rl),some lv,some .none,some st,some (.ref c),y1],rfl,seq ?_⟩;walk_at"";refine a0i hIa rfl (a0i (eI _ _ hrr) rfl (d0n hIbl blim (v:=.ref bc) (by rw[gmp,hbc];rfl) ⟨a0p (hIbs _ _ hbc) (by decide),?_⟩));walk_at"";refine a0i (eI _ _ hrr) rfl (b0o (hIbs _ _ hbc) ?_ fun J1 j1 c1=>⟨rfl,seq ?_⟩)
  ·rw[lmp];unfold byU;have:=length_filter_le (fun n=>G.lf n == G.lf i) (List.range i);rw[length_range]at this;unfold LIM;omega
  have eJ1:=eI.but (h0bs bc hbm) c1;have j1a:J1 a=_:=(c1 a (Ne.symm (nbs bc hbm))).trans hIa;have j1of:J1 of=_:=(c1 of (fun z=>bsof (z▸hbm))).trans hIof;have j1ow:J1 ow=_:=(c1 ow (fun z=>bsow (z▸hbm))).trans hIow;have j1bl:J1 bl=_:=(c1 bl (fun z=>bsbl (z▸hbm))).trans hIbl;walk_at"";refine a0i j1a rfl ⟨a0p j1of (by decide),?_⟩;walk_at"";refine a0i j1a rfl (i0p j1ow (by rw[lmp];unfold LIM;omega) (b0o j1of (by rw[lmp,length_range];unfold LIM;omega) fun J2 j2 c2=>⟨rfl,seq ?_⟩));have eJ2:=eJ1.but h0of c2;have j2a:J2 a=_:=(c2 a (Ne.symm nof)).trans j1a;have j2ow:J2 ow=_:=(c2 ow (Ne.symm ofow)).trans j1ow;have j2bl:J2 bl=_:=(c2 bl blof).trans j1bl;walk_at"";refine a0i j2a rfl ⟨a0p j2ow (by decide),?_⟩;walk_at"";refine a0i (eJ2 _ _ hrr) rfl (a0h (by simp[LIM]) fun l1 J3 hl1 j3 eJ3 c3=>a0i (eJ3 _ _ (eJ2 _ _ hrr)) rfl (j1i limr ?_));walk_at"";rw[lmp];refine q1v j3 (by omega) (by have:=hr3 i;unfold LIM;omega) fun l2 J4 hl2 j4 eJ4 c4=>?_;have hnat:(((G.rt i).length:Int)+1).toNat=(G.rt i).length+1:=by omega
  rw[hnat]at j4;have nl2:ow≠l2:=by first | exact nef (eJ3 _ _ j2ow) hl2 (fun e=>by cases e) | exact nef hl2 (eJ3 _ _ j2ow) (fun e=>by cases e)
  refine i1o nl2 (eJ4 _ _ (eJ3 _ _ j2ow)) j4 (by rw[lmp,length_replicate];unfold LIM;omega) fun J5 j5 c5=>⟨rfl,b0m (hK _ _ (Mac.i7_0 (((eJ2.trans eJ3).trans eJ4).but h0ow c5) ⟨_,_,rfl⟩ ?_ ?_ (fun s d hd=>?_) ?_ ?_))⟩
  ·rw[c5 a (Ne.symm now)];exact eJ4 _ _ (eJ3 _ _ j2a)
  ·rw[c5 bl blow];exact eJ4 _ _ (eJ3 _ _ j2bl)
  ·have hdm:=mog hd;have ndow:d≠ow:=fun z=>bsow (z▸hdm);have ndof:d≠of:=fun z=>bsof (z▸hdm);rw[c5 d ndow];refine eJ4 _ _ (eJ3 _ _ ?_);rw[c2 d ndof,e1i];by_cases z:d=bc
   ·clear hbm c1;subst z;have es:G.lf i=s:=by
     obtain⟨l1,e1⟩:=gsm hbc;obtain⟨l2,e2⟩:=gsm hd;have hn:=hbnd;rw[nodup_iff_pairwise_ne,pairwise_iff_getElem]at hn;rcases Nat.lt_trichotomy (G.lf i) s with y | y | y
     ·exact absurd (by rw[e1,e2]) (hn _ _ l1 l2 y)
     ·exact y
     ·exact absurd (by rw[e1,e2]) (hn _ _ l2 l1 y)
    rw[if_pos es,j1,es,map_append];rfl
   ·have es:G.lf i≠s:=by rintro rfl;rw[hbc]at hd;clear hdm ndow ndof;cases hd;exact z rfl
    rw[if_neg es,append_nil,c1 d z];exact hIbs s d hd
  ·rw[c5 of ofow];refine eJ4 _ _ (eJ3 _ _ ?_);rw[j2,range_succ,map_append,lmp];have:=f0j G i (by omega);unfold c1a;rw[this];rfl
  ·rw[j5,c1b,map_append,map_replicate]
 ·obtain⟨eI,⟨x1,y1,rfl⟩,hIa,hIbl,hIbs,hIof,hIow⟩:=hI;rw[lmp,hrn]at hIbs hIof hIow;have own_le:(c1a G G.rs.length).length≤24:=by
   have:=f0j G G.rs.length (Nat.le_refl _);unfold c1a;rw[this];exact hol
  refine seq ?_;walk_at"";refine a0i hIa rfl (i0p hIow (by rw[lmp];unfold LIM;omega) (g0r hIa rfl fun J hJ cJ=>b0m ?_));have eJ:=eI.but h0 cJ;refine q ⟨nmA,rl,bl,of,ow,rs,bs,tc,lv,.none,st,_⟩ J eJ ⟨hJ,eJ _ _ hnm,eJ _ _ hrl,hrn,fun i c hc=>(hr i c hc).imp fun U z=>eJ _ _ z,?_,?_,fun s c hc=>?_,?_,?_⟩ (Mac.i6_0 rfl rfl h0bl h0of h0ow h0bs)
  ·rw[cJ bl nbl];exact hIbl
  ·exact hbl
  ·rw[cJ c (nbs c (mog hc))];exact hIbs s c hc
  ·rw[cJ of nof];exact hIof
  ·rw[cJ ow now];exact hIow
abbrev Pr:=Str×List Str
noncomputable def OWN:List Str:=["$end","error","$undefined"]
noncomputable def a0y(D:List Pr):List Str:=D.foldl (fun l p=>if p.1∈l then l else l++[p.1]) []
noncomputable def n0i(L names:List Str)(x:Str):List Str:=if x∉L∧x∉names then names++[x] else names
noncomputable def i0v(L:List Str)(D:List Pr):List Str:=D.foldl (fun n p=>p.2.foldl (n0i L) n) OWN
noncomputable def a0g(D:List Pr):List Str:=i0v (a0y D) D++[("$accept":Str)]++a0y D
noncomputable def a0u(D:List Pr):List Pr:=("$accept",["S","$end"])::D
noncomputable def gOf(D:List Pr):PG:=⟨a0g D,(a0u D).map fun p=>((a0g D).idxOf p.1,p.2.map fun x=>(a0g D).idxOf x)⟩
noncomputable def NTS:List Str:=["S","T","U"]
noncomputable def TRM:List Str:=["a","b"]
structure DOk(D:List Pr):Prop where
 hd:∃ ps r,D=(("S":Str),ps)::r
 lf:∀ p∈D,p.1∈NTS
 pt:∀ p∈D,∀ x∈p.2,x∈TRM∨∃ p'∈D,x=p'.1
 pl:∀ p∈D,p.2.length≤3
 tot:(D.map fun p=>p.2.length+1).sum≤21
theorem j0c{α β:Type}(f:β→α→β)(b:β)(l:List α)(a:α):(l++[a]).foldl f b=f (l.foldl f b) a:=by rw[foldl_append];rfl
theorem j0h(D:List Pr)(p:Pr):a0y (D++[p])=if p.1∈a0y D then a0y D else a0y D++[p.1]:=j0c _ _ _ _
set_option tactic.hygienic true in
theorem c0d:∀ (n:Nat) (D:List Pr),D.length=n→(∀ x,x∈a0y D↔∃ p∈D,p.1=x)∧(a0y D).Nodup
 | 0,D,h=>by
  rw[length_eq_zero_iff]at h;subst h;exact⟨fun x=>by simp[a0y],nodup_nil⟩
 | n+1,D,h=>by
  rcases eq_nil_or_concat D with rfl | ⟨D',p,rfl⟩
  ·cases h
  ·rw[concat_eq_append]at h ⊢;obtain⟨i1,i2⟩:=c0d n D' (by rw[length_append,length_singleton]at h;omega);rw[j0h];split
   ·rename_i hm;refine⟨fun x=>?_,i2⟩;rw[i1];constructor
    ·rintro⟨q,hq,e⟩;exact⟨q,mem_append_left _ hq,e⟩
    ·rintro⟨q,hq,e⟩;rcases mem_append.mp hq with hq | hq
     ·exact⟨q,hq,e⟩
     ·rw[mem_singleton]at hq;subst hq;subst e;exact(i1 _).mp hm
   ·rename_i hm;refine⟨fun x=>?_,?_⟩
    ·rw[mem_append,i1,mem_singleton];constructor
     ·rintro(⟨q,hq,e⟩ | rfl)
      ·exact⟨q,mem_append_left _ hq,e⟩
      ·exact⟨p,mem_append_right _ (.head _),rfl⟩
     ·rintro⟨q,hq,e⟩;rcases mem_append.mp hq with hq | hq
      ·exact .inl (Mac.i3_1 q hq e)
      ·rw[mem_singleton]at hq;subst hq;exact .inr e.symm
    ·rw[nodup_append];refine⟨i2,by simp,fun u hu v hv e=>?_⟩;rw[mem_singleton]at hv;exact hm (hv▸e▸hu)
structure NmI(L:List Str)(S:Str→Prop)(n:List Str):Prop where
 pre:∃ t,n=OWN++t
 sub:∀ x∈n,x∈OWN∨(x∉L∧S x)
 all:∀ x,S x→x∈L∨x∈n
 nd:n.Nodup
set_option tactic.hygienic true in
theorem NmI.add{L:List Str}{S:Str→Prop}{n:List Str}(h:NmI L S n)(x:Str):NmI L (fun y=>S y∨y=x) (n0i L n x):=by
 unfold n0i;obtain⟨t,ht⟩:=h.pre;split
 ·rename_i hx;refine⟨⟨t++[x],by rw[ht,append_assoc]⟩,fun y hy=>?_,fun y hy=>?_,?_⟩
  ·rcases mem_append.mp hy with hy | hy
   ·exact(h.sub y hy).imp id fun z=>⟨z.1,.inl z.2⟩
   ·rw[mem_singleton]at hy;subst hy;exact .inr ⟨hx.1,.inr rfl⟩
  ·rcases hy with hy | rfl
   ·exact(h.all y hy).imp id fun z=>mem_append_left _ z
   ·exact .inr (mem_append_right _ (.head _))
  ·rw[nodup_append];refine⟨h.nd,by simp,fun u hu v hv e=>?_⟩;rw[mem_singleton]at hv;exact hx.2 (hv▸e▸hu)
 ·rename_i hx;refine⟨⟨t,ht⟩,fun y hy=>(h.sub y hy).imp id fun z=>⟨z.1,.inl z.2⟩,fun y hy=>?_,h.nd⟩;rcases hy with hy | rfl
  ·exact h.all y hy
  ·by_cases z:y∈L
   ·exact .inl z
   ·exact .inr (Classical.byContradiction fun z2=>hx ⟨z,z2⟩)
theorem NmI.adds{L:List Str}:∀ (xs:List Str) {S:Str→Prop} {n:List Str},NmI L S n→NmI L (fun y=>S y∨y∈xs) (xs.foldl (n0i L) n)
 | [],S,n,h=>⟨h.pre,fun x hx=>(h.sub x hx).imp id fun z=>⟨z.1,.inl z.2⟩,fun x hx=>h.all x (hx.resolve_right (by simp)),h.nd⟩
 | x::xs,S,n,h=>by
  have:=NmI.adds xs (h.add x);refine⟨this.pre,fun y hy=>(this.sub y hy).imp id fun z=>⟨z.1,?_⟩,fun y hy=>this.all y ?_,this.nd⟩
  ·clear this hy;rcases z.2 with(z | rfl) | z
   ·exact .inl z
   ·exact .inr (.head _)
   ·exact .inr (.tail _ z)
  ·rcases hy with hy | hy
   ·exact .inl (.inl hy)
   ·clear this;rcases mem_cons.mp hy with rfl | hy
    ·exact .inl (.inr rfl)
    ·exact .inr hy
theorem s0q(L:List Str):∀ (D:List Pr) {S:Str→Prop} {n:List Str},NmI L S n→NmI L (fun y=>S y∨∃ p∈D,y∈p.2) (D.foldl (fun n p=>p.2.foldl (n0i L) n) n)
 | [],S,n,h=>⟨h.pre,fun x hx=>(h.sub x hx).imp id fun z=>⟨z.1,.inl z.2⟩,fun x hx=>h.all x (hx.resolve_right (by simp)),h.nd⟩
 | p::D,S,n,h=>by
  have:=s0q L D (NmI.adds p.2 h);refine⟨this.pre,fun y hy=>(this.sub y hy).imp id fun z=>⟨z.1,?_⟩,fun y hy=>this.all y ?_,this.nd⟩
  ·rcases z.2 with(z | z) | ⟨q,hq,z⟩
   ·exact .inl z
   ·exact .inr (Mac.i3_1 p (.head _) z)
   ·exact .inr (Mac.i3_1 q (.tail _ hq) z)
  ·rcases hy with hy | ⟨q,hq,hy⟩
   ·exact .inl (.inl hy)
   ·clear this;rcases mem_cons.mp hq with rfl | hq
    ·exact .inl (.inr hy)
    ·exact .inr (Mac.i3_1 q hq hy)
theorem f0o(L:List Str)(D:List Pr):NmI L (fun y=>∃ p∈D,y∈p.2) (i0v L D):=by
 have h0:NmI L (fun U=>False) OWN:=⟨⟨[],rfl⟩,fun x h=>.inl h,fun x h=>h.elim,by decide +kernel⟩;have:=s0q L D h0;exact⟨this.pre,fun x hx=>(this.sub x hx).imp id fun z=>⟨z.1,z.2.resolve_left id⟩,fun x hx=>this.all x (.inr hx),this.nd⟩
noncomputable def h1q:List Str:=OWN++TRM++[("$accept":Str)]++NTS
theorem x0i:h1q.Nodup:=by decide +kernel
theorem o0z:∀ s∈h1q,PyData.strOk s=true:=by decide +kernel
section
variable {D:List Pr}(h:DOk D)
include h
theorem r0u:∀ x∈a0y D,x∈NTS:=fun x hx=>by
 obtain⟨p,hp,rfl⟩:=((c0d _ D rfl).1 x).mp hx;exact h.lf p hp
theorem i0w:∀ x∈i0v (a0y D) D,x∈OWN∨x∈TRM:=fun x hx=>by
 rcases(f0o (a0y D) D).sub x hx with z | ⟨z1,p,hp,z2⟩
 ·exact .inl z
 ·clear hx;rcases h.pt p hp x z2 with y | ⟨p',hp',rfl⟩
  ·exact .inr y
  ·exact absurd (((c0d _ D rfl).1 _).mpr (Mac.i3_1 p' hp' rfl)) z1
theorem q0a:∀ x∈a0g D,x∈h1q:=fun x hx=>by
 unfold a0g at hx;unfold h1q;rw[mem_append,mem_append]at hx ⊢;rcases hx with(hx | hx) | hx
 ·exact .inl (.inl (by rw[mem_append];exact i0w h x hx))
 ·exact .inl (.inr hx)
 ·exact .inr (r0u h x hx)
theorem m0f:(a0g D).Nodup:=by
 have nd:=x0i;unfold h1q at nd;rw[nodup_append,nodup_append]at nd;obtain⟨⟨n1,n2,n3⟩,n4,n5⟩:=nd;unfold a0g;rw[nodup_append,nodup_append];refine⟨(Mac.i3_0 ((f0o _ D).nd) (by simp) (fun u hu v hv=>n3 u (by rw[mem_append];exact i0w h u hu) v hv)),(c0d _ D rfl).2,fun u hu v hv=>n5 u ?_ v (r0u h v hv)⟩;rw[mem_append]at hu ⊢;exact hu.imp (fun z=>by rw[mem_append];exact i0w h u z) id
theorem m0e:(a0g D).length≤9:=b0q _ h1q (m0f h) (q0a h)
theorem b0j{p:Pr}(hp:p∈a0u D):p.1∈a0g D∧∀ x∈p.2,x∈a0g D∧x≠("$accept":Str):=by
 have key:∀ x,x∈a0y D→x∈a0g D:=fun x hx=>mem_append_right _ hx;have keyt:∀ x,x∈i0v (a0y D) D→x∈a0g D:=fun x hx=>mem_append_left _ (mem_append_left _ hx);have hS:("S":Str)∈a0y D:=by
  obtain⟨ps,r,e⟩:=h.hd;exact((c0d _ D rfl).1 _).mpr (Mac.i3_1 _ (by rw[e];exact .head _) rfl)
 have na:∀ x,x∈NTS∨x∈TRM→x≠("$accept":Str):=by
  rintro x (hx | hx) rfl
  ·exact absurd hx (by decide +kernel)
  ·exact absurd hx (by decide +kernel)
 unfold a0u at hp;rcases mem_cons.mp hp with rfl | hp
 ·refine⟨mem_append_left _ (mem_append_right _ (.head _)),fun x hx=>?_⟩;dsimp only at hx;rcases mem_cons.mp hx with rfl | hx
  ·exact⟨key _ hS,na _ (.inl (by decide +kernel))⟩
  ·rw[mem_singleton]at hx;subst hx;refine⟨keyt _ ?_,by decide +kernel⟩;obtain⟨t,ht⟩:=(f0o (a0y D) D).pre;rw[ht];exact mem_append_left _ (by decide +kernel)
 ·refine⟨key _ (((c0d _ D rfl).1 _).mpr (Mac.i3_1 p hp rfl)),fun x hx=>⟨?_,?_⟩⟩
  ·rcases(f0o (a0y D) D).all x (Mac.i3_1 p hp hx) with z | z
   ·exact key _ z
   ·exact keyt _ z
  ·rcases h.pt p hp x hx with z | ⟨p',hp',rfl⟩
   ·exact na _ (.inr z)
   ·exact na _ (.inl (h.lf p' hp'))
theorem f0e{x:Str}(hx:x∈a0g D):(a0g D)[(a0g D).idxOf x]?=some x:=by
 have hl:=idxOf_lt_length_of_mem hx;rw[geg hl,getElem_idxOf]
theorem t0w{x y:Str}(hx:x∈a0g D)(hy:y∈a0g D)(e:(a0g D).idxOf x=(a0g D).idxOf y):x=y:=by
 have a:=f0e h hx;rw[e,f0e h hy]at a;exact(Option.some.inj a).symm
omit h in
omit h in
theorem f0y{n:Nat}{p:Pr}(e:(a0u D)[n]?=some p):(gOf D).lf n=(a0g D).idxOf p.1∧(gOf D).rt n=p.2.map fun x=>(a0g D).idxOf x:=by
 unfold PG.lf PG.rt gOf;dsimp only;rw[gmp,e];exact⟨rfl,rfl⟩
omit h in
theorem j1u(rs:List (Nat×List Nat)):∀ G:PG,G.rs=rs→G.off rs.length=(rs.map fun r=>r.2.length+1).sum:=by
 intro G e;unfold PG.off;rw[e,take_length]
theorem b0t:WF (gOf D):=by
 have hlen:(gOf D).rs.length=(a0u D).length:=by unfold gOf;rw[lmp]
 refine⟨m0f h,by rw[hlen];exact Nat.succ_pos _,fun n hn=>?_,fun p x e=>?_,?_,fun n=>?_,Nat.le_trans (m0e h) (by decide),fun s hs=>o0z s (q0a h s hs)⟩
 ·obtain⟨p,hp⟩:∃ p,(a0u D)[n]?=some p:=⟨_,geg (by rw[← hlen];exact hn)⟩;rw[(f0y hp).1];exact idxOf_lt_length_of_mem (b0j h (mog hp)).1
 ·have hn:=q0c e;obtain⟨r,hr⟩:∃ r,(a0u D)[p.1]?=some r:=⟨_,geg (by rw[← hlen];exact hn)⟩;unfold PG.nxt at e;rw[(f0y hr).2,gmp]at e;obtain⟨s,hs,rfl⟩:=map_eq_some_iff.mp e;obtain⟨h1,h2⟩:=(b0j h (mog hr)).2 s (mog hs);refine⟨idxOf_lt_length_of_mem h1,fun z=>h2 ?_⟩;have h0:=f0y (D:=D) (n:=0) (p:=(("$accept":Str),["S","$end"])) rfl;rw[h0.1]at z;exact t0w h h1 (b0j h (.head _)).1 z
 ·rw[o0x,j1u _ (gOf D) rfl];unfold gOf a0u;dsimp only;rw[map_map,map_cons,sum_cons];have:=h.tot;have e:(D.map ((fun r:Nat×List Nat=>r.2.length+1)∘fun p:Pr=>((a0g D).idxOf p.1,p.2.map fun x=>(a0g D).idxOf x)))=D.map fun p=>p.2.length+1:=by
   refine map_congr_left fun p U=>?_;show(p.2.map _).length+1=_;rw[lmp]
  rw[e];show 2+1+_≤24;omega
 ·by_cases hn:n<(a0u D).length
  ·obtain⟨r,hr⟩:∃ r,(a0u D)[n]?=some r:=⟨_,geg hn⟩;rw[(f0y hr).2,lmp];rcases mem_cons.mp (mog hr) with rfl | hm
   ·decide
   ·exact h.pl r hm
  ·unfold PG.rt;rw[getElem?_eq_none (by rw[hlen];omega)];exact Nat.zero_le _
end
theorem p0h(H:MH):∀ l:List Str,f0q H (l.map .str) (l.map .str)
 | []=>rfl
 | n::l=>(Mac.i5_2 _ _ rfl rfl (p0h H l))
theorem b1r{k:Nat}{v1 v2 v3 v4:a0a}{H:MH}{P:Addr→MH→Prop}(q:∀ a H',H a=none→H' a=some (.inst 4 [v1,v2,v3,v4,.none,.int 0,.int 0])→Ext H H'→P a H') :
  ∀ a d,H a=none→H d=none→a≠d→a0f (k+1) 31 [.ref a,v1,v2,v3,v4] (upd (upd H d (.hid a)) a (.inst 4 [])) fun r H2=>r=.none∧P a H2:=
 l1h fun a H1 ha h1 e1=>c1t h1 fun H2 h2 b2=>⟨rfl,q a H2 ha h2 fun x o e=>by rw[b2 x (a0t ha e)];exact e1 _ _ e⟩
theorem j1e{k:Nat}{l:List Nat}{c:Int}{H:MH}{Q:a0d}(q:∀ v:Int,Q (.int v) H):a0f (k+1) 40 [.tup (l.map a0b),.int c] H Q:=by
 refine a0c [some (.tup (l.map a0b)),some (.int c),none,none] rfl rfl (seq ?_);walk_at"";refine⟨by decide,seq ?_⟩;walk_at"";refine p0t (a0s (fun i m H'=>H'=H∧∃ (v:Int) (x:Option a0a),m=[some (.tup (l.map a0b)),some (.int c),some (.int v),x]) ⟨rfl,_,_,rfl⟩ (fun U U U U=>trivial) (fun i m H' x K hx hI hK=>?_) fun m H' hI=>?_)
 ·clear q;obtain⟨rfl,v,x1,rfl⟩:=hI;rw[gmp]at hx;obtain⟨s,hs,rfl⟩:=map_eq_some_iff.mp hx;refine⟨[some (.tup (l.map a0b)),some (.int c),some (.int v),some (a0b s)],rfl,seq ?_⟩;walk_at"";split
  ·refine seq ?_;walk_at"";exact⟨by decide,b0m (h0k (hK _ _ ⟨rfl,_,_,rfl⟩))⟩
  ·exact b0m (h0k (hK _ _ ⟨rfl,_,_,rfl⟩))
 ·obtain⟨rfl,v,x1,rfl⟩:=hI;refine d0s ?_;exact q v
theorem g1u:∀ s∈NTS,(⟨s.cps.extract 0 1⟩:Str)=s∧s≠("error":Str)∧s≠("":Str)∧s≠("$":Str)∧s≠("'":Str)∧s.length≤10∧PyData.strOk s=true:=by decide +kernel
theorem f1f{ps:List Str}:∀ (r:List Pr),∃ t,a0y (("S",ps)::r)=("S":Str)::t:=by
 intro r;have key:∀ (r:List Pr) (l:List Str),(∃ t,l=("S":Str)::t)→∃ t,r.foldl (fun l p=>if p.1∈l then l else l++[p.1]) l=("S":Str)::t:=by
  intro r
  induction r with
  | nil=>exact fun l h=>h
  | cons p r ih=>
   intro l ⟨t,ht⟩;rw[foldl_cons];refine ih _ ?_;split
   ·exact⟨t,ht⟩
   ·exact⟨t++[p.1],by rw[ht];rfl⟩
 unfold a0y;rw[foldl_cons];exact key r _ ⟨[],rfl⟩
noncomputable def k0b(D:List Pr)(as:List Addr):List a0a:=List.zipWith (fun p a=>a0a.tup [.str p.1,.ref a]) D as
theorem j0l{D:List Pr}{as:List Addr}(hl:as.length=D.length){i:Nat}{x:a0a}(h:(k0b D as)[i]?=some x):∃ p a,D[i]?=some p∧as[i]?=some a∧x=.tup [.str p.1,.ref a]:=by
 unfold k0b at h;rw[List.getElem?_zipWith]at h;have hi:i<D.length:=by
  apply Nat.lt_of_not_le;intro z;rw[getElem?_eq_none z]at h;cases h
 rw[geg hi,geg (by rw[hl];exact hi)]at h;cases h;exact⟨_,_,geg hi,geg (by rw[hl];exact hi),rfl⟩
theorem g0n{D:List Pr}{as:List Addr}(hl:as.length=D.length):(k0b D as).length=D.length:=by
 unfold k0b;rw[List.length_zipWith,hl,Nat.min_self]
theorem d1b(D:List Pr):D.length≤(D.map fun p=>p.2.length+1).sum:=by
 induction D with
 | nil=>exact Nat.zero_le _
 | cons p D ih=>rw[map_cons,sum_cons,length_cons];omega
theorem f1o{k:Nat}{D:List Pr}(hD:DOk D){pa:Addr}{as:List Addr}{H:MH}{Q:a0d}(hl:as.length=D.length)(hpa:H pa=some (.list (k0b D as)))(has:∀ (i:Nat) p a,D[i]?=some p→as[i]?=some a→H a=some (.list (p.2.map .str)))
  (q:∀ g GD H',Ext H H'→GH H' g (gOf D) GD→(∀ x,x=GD.nm∨x=GD.rl∨x=GD.bl∨x=GD.of∨x=GD.ow∨x∈GD.bs→H x=none)→Q (.ref g) H'):a0f (k+2) 41 [.ref pa] H Q:=by
 have W:=b0t hD;have hDl:D.length≤21:=Nat.le_trans (d1b D) hD.tot;have plim:(k0b D as).length≤LIM:=by rw[g0n hl];unfold LIM;omega
 have lle:∀ i,(a0y (D.take i)).length≤21:=fun i=>by
  have:=b0q (a0y (D.take i)) ((D.take i).map (·.1)) (c0d _ _ rfl).2 fun x hx=>by
   obtain⟨p,hp,e⟩:=((c0d _ _ rfl).1 x).mp hx;exact mem_map.mpr (Mac.i3_1 p hp e)
  rw[lmp,length_take]at this;omega
 have lok:∀ i,∀ x∈a0y (D.take i),PyData.strOk x=true:=fun i x hx=>by
  obtain⟨p,hp,rfl⟩:=((c0d _ _ rfl).1 x).mp hx;exact(g1u _ (hD.lf p (mem_of_mem_take hp))).2.2.2.2.2.2
 have pok:∀ p∈D,∀ x∈p.2,PyData.strOk x=true:=fun p hp x hx=>o0z x (q0a hD x ((b0j hD (p:=p) (mem_cons_of_mem _ hp)).2 x hx).1);refine a0c [some (.ref pa),some .none,none,none,none,none,none,none,none,none,none,none] rfl rfl (seq ?_);walk_at"";refine a0h (by decide) fun La H1 hLa h1 e1 b1=>⟨by decide,seq ?_⟩;walk_at"";refine c0l (e1 _ _ hpa) (a0s (fun i m H'=>Ext H H'∧(∃ x y,m=[some (.ref pa),some .none,some (.ref La),x,y,none,none,none,none,none,none,none])∧H' La=some (.list ((a0y (D.take i)).map .str)))
  (Mac.i3_0 e1 (Mac.i3_2 _ _ rfl) h1) (fun i m H' hI=>hI.1 _ _ hpa) (fun i m H' x K hx hI hK=>?_) fun m H' hI=>?_)
 ·obtain⟨e',⟨x1,y1,rfl⟩,hL⟩:=hI;obtain⟨p,a,hp,ha,rfl⟩:=j0l hl hx;obtain⟨hil,hpi⟩:=gsm hp;have hpD:=mog hp;obtain⟨f1,f2,f3,f4,f5,f6,f7⟩:=g1u _ (hD.lf p hpD);have tk:D.take (i+1)=D.take i++[p]:=by rw[tsg hil,hpi]
  refine⟨[some (.ref pa),some .none,some (.ref La),some (.str p.1),some (.ref a),none,none,none,none,none,none,none],rfl,seq ?_⟩;walk_at"";rw[if_neg f2];refine⟨by decide,by decide,Nat.le_trans f6 (by decide),by decide,?_⟩;rw[show(⟨p.1.cps.extract 0 (Int.toNat 1)⟩:Str)=p.1 from f1];refine inT f7 (by decide +kernel) ?_;rw[g0u (by simp[f3,f4,f5])];walk_at"";rw[if_neg (by decide),if_neg (by decide)];refine b0m (seq ?_);walk_at"";refine inL hL f7 (b0v (lok i)) ?_;by_cases hm:p.1∈a0y (D.take i)
  ·rw[g0v (e0c.mpr hm),if_neg (by decide)];refine b0m (h0k (hK _ _ (Mac.i3_0 e' (Mac.i3_2 _ _ rfl) ?_)));rw[tk,j0h,if_pos hm];exact hL
  ·rw[g0u (fun z=>hm (e0c.mp z)),if_pos (by decide)];refine seq ?_;walk_at"";refine⟨a0p hL (by decide),b0o hL (by rw[lmp];have:=lle i;unfold LIM;omega) fun H2 h2 b2=>⟨rfl,b0m (h0k (hK _ _ (Mac.i3_0 (e'.but hLa b2) (Mac.i3_2 _ _ rfl) ?_)))⟩⟩;rw[tk,j0h,if_neg hm,h2,map_append];rfl
 obtain⟨e2,⟨x1,y1,rfl⟩,hL⟩:=hI;rw[g0n hl,take_length]at hL;have lok':∀ x∈a0y D,PyData.strOk x=true:=by have:=lok D.length;rw[take_length]at this;exact this
 have lle':(a0y D).length≤21:=by have:=lle D.length;rw[take_length]at this;exact this
 obtain⟨t,ht⟩:∃ t,a0y D=("S":Str)::t:=by
  obtain⟨ps,r,e⟩:=hD.hd;rw[e];exact f1f r
 have hS:("S":Str)∈a0y D:=by rw[ht];exact .head _
 have llim:((a0y D).map a0a.str).length≤LIM:=by rw[lmp];unfold LIM;omega
 refine seq ?_;walk_at"";rw[show ∀ P:Bool→Prop,h0w .isnot .none .none H' P=P false from fun U=>rfl,if_neg (by decide)];refine a0h (by decide) fun c0 H3 hc0 h3 e3 b3=>eqL (e3 _ _ hL) h3 (p0h H3 (a0y D)) (p0h H3 []) (b0v lok') rfl fun r hr=>?_;have hr':r=false:=by
  cases r with
  | false=>rfl
  | true=>have:=hr.mp rfl;rw[ht]at this;cases this
 clear hr;subst hr';walk_at"";rw[if_neg (by decide),if_neg (by decide)];refine d0n (k:=0) (e3 _ _ hL) llim (v:=.str "S") (by rw[ht];rfl) ⟨by decide,seq ?_⟩;walk_at"";refine inL (e3 _ _ hL) (lok' _ hS) (b0v lok') ?_;rw[g0v (e0c.mpr hS),if_neg (by decide)];refine b0m (seq ?_);walk_at"";refine j1k (by simp[LIM]) fun nA H4 hnA h4 e4 b4=>⟨by decide,seq ?_⟩;have hL4:=e4 _ _ (e3 _ _ hL);have e04:Ext H H4:=(e2.trans e3).trans e4;have h0nA:H nA=none:=(e2.trans e3).none hnA;have nLA:nA≠La:=(a0t hnA (e3 _ _ hL)).symm;walk_at"";have nmI:∀ i,NmI (a0y D) (fun y=>∃ p∈D.take i,y∈p.2) (i0v (a0y D) (D.take i)):=fun i=>f0o _ _;have sub_len:∀ n:List Str,(∀ x∈n,x∈OWN∨x∈TRM)→n.Nodup→n.length≤5:=fun n hn hnd=>b0q n (OWN++TRM) hnd fun x hx=>mem_append.mpr (hn x hx);have sub_of:∀ {S:Str→Prop} {n:List Str},(∀ x,S x→∃ p∈D,x∈p.2)→NmI (a0y D) S n→(∀ x∈n,x∈OWN∨x∈TRM):=fun hS h x hx=>by
  rcases h.sub x hx with z | ⟨z1,z2⟩
  ·exact .inl z
  ·obtain⟨p,hp,hxp⟩:=hS x z2;clear hx z2;rcases hD.pt p hp x hxp with y | ⟨p',hp',rfl⟩
   ·exact .inr y
   ·exact absurd (((c0d _ D rfl).1 _).mpr (Mac.i3_1 p' hp' rfl)) z1
 have own_ok:∀ x,(x∈OWN∨x∈TRM)→PyData.strOk x=true:=by
  rintro x (hx | hx)
  ·exact o0z x (mem_append_left _ (mem_append_left _ (mem_append_left _ hx)))
  ·exact o0z x (mem_append_left _ (mem_append_left _ (mem_append_right _ hx)))
 refine c0l (e04 _ _ hpa) (a0s (fun i m H'=>Ext H H'∧(∃ x y z,m=[some (.ref pa),some .none,some (.ref La),x,y,some (.str "S"),some (.ref nA),z,none,none,none,none])∧H' La=some (.list ((a0y D).map .str))∧H' nA=some (.list ((i0v (a0y D) (D.take i)).map .str)))
  (Mac.i4_0 e04 (Mac.i4_3 _ _ _ rfl) hL4 h4) (fun i m H' hI=>hI.1 _ _ hpa) (fun i m H' x K hx hI hK=>?_) fun m H' hI=>?_)
 ·obtain⟨e',⟨x1,y1,z1,rfl⟩,hL',hn'⟩:=hI;obtain⟨p,a,hp,ha,rfl⟩:=j0l hl hx;obtain⟨hil,hpi⟩:=gsm hp;have hpD:=mog hp;have tk:D.take (i+1)=D.take i++[p]:=by rw[tsg hil,hpi]
  refine⟨[some (.ref pa),some .none,some (.ref La),some (.str p.1),some (.ref a),some (.str "S"),some (.ref nA),z1,none,none,none,none],rfl,seq ?_⟩;walk_at"";refine c0l (e' _ _ (has i p a hp ha)) (a0s (fun j m H'=>Ext H H'∧(∃ z,m=[some (.ref pa),some .none,some (.ref La),some (.str p.1),some (.ref a),some (.str "S"),some (.ref nA),z,none,none,none,none])∧H' La=some (.list ((a0y D).map .str))∧H' nA=some (.list (((p.2.take j).foldl (n0i (a0y D)) (i0v (a0y D) (D.take i))).map .str)))
   (Mac.i4_0 e' ⟨_,rfl⟩ hL' hn') (fun j m H' hI=>hI.1 _ _ (has i p a hp ha)) (fun j m H' x K' hx hI hK'=>?_) fun m H' hI=>?_)
  ·obtain⟨e'',⟨z2,rfl⟩,hL'',hn''⟩:=hI;rw[gmp]at hx;obtain⟨s,hs,rfl⟩:=map_eq_some_iff.mp hx;obtain⟨hjl,hsj⟩:=gsm hs;have tj:p.2.take (j+1)=p.2.take j++[s]:=by rw[tsg hjl,hsj]
   have nj:=NmI.adds (p.2.take j) (nmI i);have hsub:=sub_of (fun x hx=>by
    rcases hx with⟨p',hp',hx'⟩ | hx
    ·exact⟨p',mem_of_mem_take hp',hx'⟩
    ·exact⟨p,hpD,mem_of_mem_take hx⟩) nj
   have hlen:=sub_len _ hsub nj.nd;have hsok:=pok p hpD s (mog hs);rw[tj,j0c]at hK';generalize (p.2.take j).foldl (n0i (a0y D)) (i0v (a0y D) (D.take i))=n at hn'' hsub hlen hK';refine⟨[some (.ref pa),some .none,some (.ref La),some (.str p.1),some (.ref a),some (.str "S"),some (.ref nA),some (.str s),none,none,none,none],rfl,seq ?_⟩;walk_at"";refine inL hL'' hsok (b0v lok') ?_;by_cases m1:s∈a0y D
   ·rw[g0v (e0c.mpr m1)];walk_at"";rw[if_neg (by decide),if_neg (by decide)];refine b0m (h0k (hK' _ _ (Mac.i4_0 e'' ⟨_,rfl⟩ hL'' ?_)));unfold n0i
    rewrite [if_neg (fun z=>z.1 m1)]
    exact hn''
   ·rw[g0u (fun z=>m1 (e0c.mp z))];walk_at"";rw[if_pos (by decide)];refine inL hn'' hsok (b0v fun x hx=>own_ok x (hsub x hx)) ?_;by_cases m2:s∈n
    ·rw[g0v (e0c.mpr m2)];walk_at"";rw[if_neg (by decide),if_neg (by decide)];refine b0m (h0k (hK' _ _ (Mac.i4_0 e'' ⟨_,rfl⟩ hL'' ?_)));unfold n0i
     rewrite [if_neg (fun z=>z.2 m2)]
     exact hn''
    ·rw[g0u (fun z=>m2 (e0c.mp z))];walk_at"";rw[if_pos (by decide),if_pos (by trivial)];refine seq ?_;walk_at"";refine⟨a0p hn'' (by decide),b0o hn'' (by rw[lmp];unfold LIM;omega) fun H5 h5 b5=>⟨rfl,b0m (h0k (hK' _ _ (Mac.i4_0 (e''.but h0nA b5) ⟨_,rfl⟩ (by rw[b5 La (Ne.symm nLA)];exact hL'') ?_)))⟩⟩;unfold n0i;rw[if_pos ⟨m1,m2⟩,h5,map_append];rfl
  ·obtain⟨e'',⟨z2,rfl⟩,hL'',hn''⟩:=hI;rw[lmp,take_length]at hn'';refine h0k (hK _ _ (Mac.i4_0 e'' (Mac.i4_3 _ _ _ rfl) hL'' ?_));rw[tk];unfold i0v;rw[j0c];exact hn''
 obtain⟨e5,⟨x2,y2,z2,rfl⟩,hL5,hn5⟩:=hI;rw[g0n hl,take_length]at hn5;have tsub:=i0w hD;have tlen:=sub_len _ tsub (f0o (a0y D) D).nd;refine seq ?_;walk_at"";refine i0p hn5 (by rw[lmp];unfold LIM;omega) ⟨by decide,seq ?_⟩;rw[lmp];walk_at"";refine a0h (by simp[LIM]) fun c1 H6 hc1 h6 e6 b6=>h1t (e6 _ _ hn5) h6 (by rw[lmp];simp[LIM];omega) fun c2 H7 hc2 h7 e7 b7=>?_;refine h1t h7 (e7 _ _ (e6 _ _ hL5)) (by rw[length_append,lmp,lmp,length_singleton];unfold LIM;omega) fun nN H8 hnN h8 e8 b8=>⟨by decide,seq ?_⟩;have hnN8:H8 nN=some (.list ((a0g D).map .str)):=by
  rw[h8];unfold a0g;rw[map_append,map_append];rfl
 have e08:Ext H H8:=((e5.trans e6).trans e7).trans e8;have nn:=m0f hD;have nl:=m0e hD;have nlim:((a0g D).map a0a.str).length≤LIM:=by rw[lmp];unfold LIM;omega
 have idx:∀ {H':MH} {x:Str} {Q:a0d},H' nN=some (.list ((a0g D).map .str))→x∈a0g D→Q (a0b ((a0g D).idxOf x)) H'→bmP .index (.ref nN) [.str x] H' Q:=fun hH hx hq=>
  v0y hH (W.so _ hx) (b0v W.so) nlim (c0i nn (f0e hD hx)) hq
 have r0:=b0j hD (p:=(("$accept":Str),["S","$end"])) (.head _);have hSn:("S":Str)∈a0g D:=(r0.2 "S" (.head _)).1;have hEn:("$end":Str)∈a0g D:=(r0.2 "$end" (.tail _ (.head _))).1;have hend:(a0g D).idxOf ("$end":Str)=0:=by
  have hz:(a0g D)[0]?=some ("$end":Str):=by
   obtain⟨t',ht'⟩:=(f0o (a0y D) D).pre;unfold a0g;rw[ht'];rfl
  have hx:=f0e hD hEn;have:=c0i nn hz;have h2:=c0i nn hx;rw[this]at h2;exact(Option.some.inj h2).symm
 have hacc:(a0g D).idxOf ("$accept":Str)=(i0v (a0y D) D).length:=by
  have hz:(a0g D)[(i0v (a0y D) D).length]?=some ("$accept":Str):=by
   unfold a0g;rw[append_assoc,getElem?_append_right (Nat.le_refl _),Nat.sub_self];rfl
  have:=c0i nn hz;have h2:=c0i nn (f0e hD r0.1);rw[this]at h2;exact(Option.some.inj h2).symm
 walk_at"";refine⟨a0p hnN8 (by decide),idx hnN8 hSn ⟨by decide,b1r fun r0A H9 hr0 h9 e9=>a0h (by simp[LIM]) fun ruA H10 hru h10 e10 b10=>⟨by decide,seq ?_⟩⟩⟩;have e010:Ext H H10:=(e08.trans e9).trans e10;have h0ru:H ruA=none:=(e08.trans e9).none hru;have nru:nN≠ruA:=a0t hru (e9 _ _ hnN8);walk_at"";have gl:(gOf D).rs.length=D.length+1:=by unfold gOf a0u;rw[lmp,length_cons]
 refine c0l (e010 _ _ hpa) (a0s (fun i m H'=>Ext H H'∧(∃ x y z u,m=[some (.ref pa),some .none,some (.ref La),x,y,some (.str "S"),some (.ref nN),z,some (a0b (i0v (a0y D) D).length),some (.ref ruA),u,none])∧H' nN=some (.list ((a0g D).map .str))∧
   ∃ rs:List Addr,rs.length=i+1∧H' ruA=some (.list (rs.map .ref))∧ruA∉rs∧∀ (j:Nat) c,rs[j]?=some c→∃ rest,H' c=some (.inst 4 (a0b j::a0b ((gOf D).lf j)::.tup (((gOf D).rt j).map a0b)::rest)))
  ⟨e010,(Mac.i5_4 _ _ _ _ rfl),e10 _ _ (e9 _ _ hnN8),[r0A],rfl,h10,?_,fun j c hc=>?_⟩ (fun i m H' hI=>hI.1 _ _ hpa) (fun i m H' x K hx hI hK=>?_) fun m H' hI=>?_)
 ·rw[mem_singleton];exact(a0t hru h9).symm
 ·cases j with
  | succ j=>simp at hc
  | zero=>
   cases hc;refine⟨[.int 0,.none,.int 0,.int 0],?_⟩;rw[e10 _ _ h9];obtain⟨g1,g2⟩:=f0y (D:=D) (n:=0) (p:=(("$accept":Str),["S","$end"])) rfl;rw[g1,g2,hacc];show _=some (j0u.inst 4 (a0b 0::a0b _::.tup [a0b ((a0g D).idxOf ("S":Str)),a0b ((a0g D).idxOf ("$end":Str))]::[.int 0,.none,.int 0,.int 0]));rw[hend];rfl
 ·obtain⟨e',⟨x3,y3,z3,u3,rfl⟩,hnN',rs,hrs,hru',hnot,hrr⟩:=hI;obtain⟨p,a,hp,ha,rfl⟩:=j0l hl hx;obtain⟨hil,hpi⟩:=gsm hp;have hpD:=mog hp;have hpn:=b0j hD (p:=p) (mem_cons_of_mem _ hpD);have hpl:=hD.pl p hpD;have rlim:(rs.map a0a.ref).length<LIM:=by rw[lmp,hrs];unfold LIM;omega
  refine⟨[some (.ref pa),some .none,some (.ref La),some (.str p.1),some (.ref a),some (.str "S"),some (.ref nN),z3,some (a0b (i0v (a0y D) D).length),some (.ref ruA),u3,none],rfl,seq ?_⟩;walk_at"";refine c0l (e' _ _ (has i p a hp ha)) ⟨by rw[lmp];unfold LIM;omega,a0x (fun j=>((p.2.take j).map fun x=>a0b ((a0g D).idxOf x))) rfl (e' _ _ (has i p a hp ha)) (fun j x K2 hx hK2=>?_) ?_⟩
  ·rw[gmp]at hx;obtain⟨s,hs,rfl⟩:=map_eq_some_iff.mp hx;obtain⟨hjl,hsj⟩:=gsm hs;refine⟨[some (.ref pa),some .none,some (.ref La),some (.str p.1),some (.ref a),some (.str "S"),some (.ref nN),z3,some (a0b (i0v (a0y D) D).length),some (.ref ruA),u3,some (.str s)],rfl,?_⟩;walk_at"";rw[if_pos trivial];refine⟨a0p hnN' (by decide),idx hnN' (hpn.2 s (mog hs)).1 (hK2 _ _ ⟨rfl,?_⟩)⟩;rw[tsg hjl,hsj,map_append];rfl
  rw[lmp,take_length];refine a0q fun cl H3 hcl h3' e3' U=>s0s h3' (by rw[lmp];unfold LIM;omega) ⟨by decide,seq ?_⟩;walk_at"";refine⟨a0p (e3' _ _ hru') (by decide),?_⟩;walk_at"";refine i0p (e3' _ _ hru') (Nat.le_of_lt rlim) ⟨a0p (e3' _ _ hnN') (by decide),?_⟩;walk_at"";refine idx (e3' _ _ hnN') hpn.1 ?_;walk_at"";have eT:(p.2.map fun x=>a0b ((a0g D).idxOf x))=(p.2.map fun x=>(a0g D).idxOf x).map a0b:=by rw[map_map];rfl
  rw[eT];refine j1e fun v=>?_;walk_at"";rw[lmp,hrs];refine b1r fun nr H4' hnr h4' e4'=>b0o (e4' _ _ (e3' _ _ hru')) rlim fun H5' h5' b5'=>⟨rfl,b0m (hK _ _ ⟨((e'.trans e3').trans e4').but h0ru b5',(Mac.i5_4 _ _ _ _ rfl),by rw[b5' nN nru];exact e4' _ _ (e3' _ _ hnN'),rs++[nr],by simp[hrs],by rw[h5',map_append];rfl,?_,fun j c hc=>?_⟩)⟩
  ·rw[mem_append,mem_singleton,not_or];exact⟨hnot,a0t hnr (e3' _ _ hru')⟩
  ·have hne:c≠ruA:=by
    clear hru h10 b10 h0ru nru hK h5' b5';rintro rfl;rcases mem_append.mp (mog hc) with z | z
    ·exact hnot z
    ·rw[mem_singleton]at z;exact a0t hnr (e3' _ _ hru') z
   rw[b5' c hne];by_cases hj:j<rs.length
   ·rw[getElem?_append_left hj]at hc;obtain⟨rest,z⟩:=hrr j c hc;exact⟨rest,e4' _ _ (e3' _ _ z)⟩
   ·rw[getElem?_append_right (by omega)]at hc;have hz:j-rs.length=0:=by have:=(gsm hc).1;simp at this;omega
    rw[hz]at hc;clear hne;cases hc;have hj':j=i+1:=by omega
    clear hj hz;subst hj';obtain⟨g1,g2⟩:=f0y (D:=D) (n:=i+1) (p:=p) (by unfold a0u;rw[getElem?_cons_succ];exact hp);rw[g1,g2];exact⟨_,h4'⟩
 ·obtain⟨e',⟨x3,y3,z3,u3,rfl⟩,hnN',rs,hrs,hru',hnot,hrr⟩:=hI;rw[g0n hl]at hrs;refine d0s ?_;walk_at"";refine⟨⟨by decide,by decide⟩,a0q fun dA H2 hdA hd2 ed2 U=>⟨a0p (ed2 _ _ hnN') (by decide),?_⟩⟩;walk_at"";refine idx (ed2 _ _ hnN') hSn ?_;refine l1h fun g H3 hg hg3 eg3=>r0p (G:=gOf D) (rs:=rs) hg eg3 hg3 (ed2 _ _ hnN') (ed2 _ _ hru') (by rw[hrs,gl]) (fun j c hc=>(hrr j c hc).imp fun U z=>ed2 _ _ z) W.lfs W.small W.nl W.rl fun GD H4 e4 hGH hfr=>⟨rfl,q g GD H4 ((e'.trans ed2).trans e4) hGH fun x hx=>?_⟩;have ee:=e'.trans ed2;obtain⟨f1,f2,f3,f4,f5,f6⟩:=hfr;rcases hx with rfl | rfl | rfl | rfl | rfl | hx
  ·rw[f1];exact(((e5.trans e6).trans e7).none hnN)
  ·rw[f2];exact h0ru
  ·exact ee.none f3
  ·exact ee.none f4
  ·exact ee.none f5
  ·exact ee.none (f6 x hx)
def c0r(p:Addr)(H H':MH):Prop:=∀ x o,x≠p→H x=some o→H' x=some o
theorem c0r.refl(p:Addr)(H:MH):c0r p H H:=fun U U U e=>e
theorem c0r.trans{p:Addr}{H1 H2 H3:MH}(a:c0r p H1 H2)(b:c0r p H2 H3):c0r p H1 H3:=fun x o n e=>b x o n (a x o n e)
theorem c0r.of{p:Addr}{H H':MH}(e:Ext H H'):c0r p H H':=fun x o U h=>e x o h
theorem c0r.but{p:Addr}{H H':MH}(e:But p H H'):c0r p H H':=fun x o n h=>by rw[e x n];exact h
theorem c0r.own{p a:Addr}{H0 H H':MH}(e:c0r p H0 H)(h0:H0 a=none)(b:But a H H'):c0r p H0 H':=fun x o n h=>by
 rw[b x (a0t h0 h)];exact e x o n h
def Pen(H:MH)(p:Addr):Prop:=∃ a b:Int,H p=some (.list [.int a,.int b])
theorem Pen.ext{H H':MH}{p:Addr}(h:Pen H p)(e:Ext H H'):Pen H' p:=by
 obtain⟨a,b,h⟩:=h;exact⟨a,b,e _ _ h⟩
theorem Pen.but{H H':MH}{p c:Addr}(h:Pen H p)(e:But c H H')(n:p≠c):Pen H' p:=by
 obtain⟨a,b,h⟩:=h;exact⟨a,b,(e p n).trans h⟩
theorem c0r.none{p a:Addr}{H H':MH}(e:c0r p H H')(hp:Pen H p)(hp':Pen H' p)(h:H' a=none):H a=none:=by
 obtain⟨U,U,hp⟩:=hp;obtain⟨U,U,hp'⟩:=hp';cases z:H a with
 | none=>rfl
 | some o=>
  by_cases q:a=p
  ·clear e hp;subst q;rw[hp']at h;cases h
  ·rw[e a o q z]at h;cases h
theorem a1z{H:MH}{Q:a0d}{i:Int}:biP .int [.int i] H Q=Q (.int i) H:=rfl
theorem z0f{H:MH}{Q:a0d}{i:Int}:biP .abs [.int i] H Q=Q (.int i.natAbs) H:=rfl
theorem v0z{H:MH}{Q:a0d}{b:Bool}:biP .int [.bool b] H Q=Q (.int (if b then 1 else 0)) H:=rfl
theorem n1o{k:Nat}{ns:List Int}{H:MH}{Q:a0d}(hn:ns.length≤63)(q:∀ p H',H p=none→Pen H' p→Ext H H'→Q (.ref p) H'):a0f (k+1) 42 [.frz (ns.map .int)] H Q:=by
 refine a0c [some (.frz (ns.map .int)),none,none] rfl rfl (seq ?_);walk_at"";refine⟨by decide,seq ?_⟩;walk_at"";refine⟨by decide,by decide,by rw[lmp];unfold LIM;omega,a0h (by rw[length_take];unfold LIM;omega) fun c H1 hc h1 e1 b1=>c0l h1 ?_⟩;rw[show Int.toNat 63=63 from rfl,take_of_length_le (by rw[lmp];exact hn)]at h1;rw[show Int.toNat 63=63 from rfl,take_of_length_le (by rw[lmp];exact hn)];refine a0s (fun i m H'=>H'=H1∧∃ (v:Int) (x:Option a0a),m=[some (.frz (ns.map .int)),some (.int v),x]) ⟨rfl,_,_,rfl⟩ (fun i m H' hI=>hI.1▸h1) (fun i m H' x K hx hI hK=>?_) fun m H' hI=>?_
 ·clear e1 b1;obtain⟨rfl,v,x1,rfl⟩:=hI;rw[gmp]at hx;obtain⟨s,hs,rfl⟩:=map_eq_some_iff.mp hx;refine⟨[some (.frz (ns.map .int)),some (.int v),some (.int s)],rfl,seq ?_⟩;walk_at"";refine⟨.inr (by unfold d0c;decide),?_⟩;simp only[a1z,z0f,v0z];walk_at"";refine⟨.inl (by unfold d0c;decide),?_⟩
  try simp only[a1z,z0f,v0z]
  walk_at"";exact⟨by decide,b0m (hK _ _ ⟨rfl,_,_,rfl⟩)⟩
 ·clear b1;obtain⟨rfl,v,x1,rfl⟩:=hI;refine d0s ?_;exact a0h (by simp[LIM]) fun p H2 hp h2 e2 b2=>q p H2 (e1.none hp) (Mac.i3_2 _ _ h2) (e1.trans e2)
theorem n0j{n:Nat}{p:Addr}{many:Int}{H:MH}{Q:a0d}(hp:Pen H p)(hm:0<many)(hm2:many<1073741824)(q:∀ (d:Nat) H',(d:Int)<many→Pen H' p→But p H H'→Q (a0b d) H'):a0f (n+1) 43 [.ref p,.int many] H Q:=by
 obtain⟨a,b,hp⟩:=hp;refine i1k hp hm hm2 fun d a' b' H' h0 hd h' bt=>?_;obtain⟨e,rfl⟩:=Int.eq_ofNat_of_zero_le h0;exact q e H' hd (Mac.i3_2 _ _ h') bt
theorem u0n{n:Nat}{p s:Addr}{l:List a0a}{H:MH}{Q:a0d}(hp:Pen H p)(hs:H s=some (.list l))(hsp:s≠p)(hl:0<l.length)(hl2:l.length≤LIM)(q:∀ v H',v∈l→Pen H' p→But p H H'→Q v H'):a0f (n+2) 44 [.ref p,.ref s] H Q:=by
 refine a0c [some (.ref p),some (.ref s)] rfl rfl (d0s ?_);walk_at"";refine i0p hs hl2 ?_;walk_at"";refine n0j hp (by omega) (by unfold LIM at hl2;omega) fun d H' hd hp' bt=>?_;have hd':d<l.length:=by omega
 exact d0n ((bt s hsp).trans hs) hl2 (v:=l[d]) (geg hd') (q _ H' (getElem_mem _) hp' bt)
noncomputable def prV(p:Pr):a0a:=.tup [.str p.1,.tup (p.2.map .str)]
theorem n1p{p s:Addr}{nms:List Str}{H:MH}{Q:List a0a→MH→Prop}{cnt:Nat}{ok:MH→Prop}{F:Loc→MH→a0d→Prop}{Cc:Loc→MH→(Bool→MH→Prop)→Prop}{t:Tgt}{m:Loc}(hc:cnt≤10)(hp:Pen H p)(hs:H s=some (.list (nms.map .str)))(hsp:s≠p)
  (hok:∀ H',ok H') (ht:∀ x,∃ m',s0y t x m=some m'∧(∀ H' P,P true H'→Cc m' H' P)∧∀ H' P,Pen H' p→H' s=some (.list (nms.map .str))→(∀ x H2,x∈TRM++nms→Pen H2 p→c0r p H' H2→H2 s=some (.list (nms.map .str))→P (.str x) H2)→F m' H' P)
  (q:∀ (ps:List Str) H',ps.length=cnt→(∀ x∈ps,x∈TRM++nms)→Pen H' p→c0r p H H'→H' s=some (.list (nms.map .str))→Q (ps.map .str) H'):k0i F Cc t ok m ((List.range cnt).map fun(i:Nat)=>a0a.int (i:Int)) H [] Q:=by
 refine c0g (fun i H' acc=>c0r p H H'∧Pen H' p∧H' s=some (.list (nms.map .str))∧∃ ps:List Str,acc=ps.map .str∧ps.length=i∧∀ x∈ps,x∈TRM++nms) ⟨c0r.refl p H,hp,hs,[],rfl,rfl,fun U h=>nomatch h⟩ (fun i H' acc U=>hok H') (fun i H' acc x K hx hI hK=>?_) fun H' acc hI=>?_
 ·obtain⟨e',hp',hs',ps,rfl,hl,hps⟩:=hI;obtain⟨m',h1,h2,h3⟩:=ht x;refine⟨m',h1,h2 _ _ ?_⟩;rw[if_pos rfl];refine h3 _ _ hp' hs' fun y H2 hy hp2 e2 hs2=>hK _ _ ⟨e'.trans e2,hp2,hs2,ps++[y],by rw[map_append];rfl,by simp[hl],fun z hz=>?_⟩;rcases mem_append.mp hz with hz | hz
  ·exact hps z hz
  ·rw[mem_singleton]at hz;rw[hz];exact hy
 ·obtain⟨e',hp',hs',ps,rfl,hl,hps⟩:=hI;rw[lmp,length_range]at hl;exact q ps H' hl hps hp' e' hs'
theorem f1n{k:Nat}{p:Addr}{H:MH}{Q:a0d}(hp:Pen H p)(q:∀ D d H',DOk D→H d=none→H' d=some (.list (D.map prV))→Pen H' p→c0r p H H'→Q (.ref d) H'):a0f (k+3) 45 [.ref p] H Q:=by
 have ne:∀ {Hx:MH} {a:Addr},Pen Hx p→Hx a=none→a≠p:=fun hp ha=>by
  obtain⟨U,U,hp⟩:=hp;exact(a0t ha hp).symm
 refine a0c [some (.ref p),none,none,none,none,none,none] rfl rfl (seq ?_);walk_at"";refine a0h (by simp[LIM]) fun c0 H1 hc0 h1 e1 b1=>?_;walk_at"";have c0p:=ne hp hc0;refine n0j (hp.ext e1) (by decide) (by decide) fun d H2 hd hp2 b2=>?_;have hd3:d<3:=by omega
 have h2:H2 c0=some (.list (NTS.map .str)):=(b2 c0 c0p).trans h1;refine⟨_,h2,by omega,by unfold LIM;omega,by decide,?_⟩;have et:(NTS.map a0a.str).take ((1:Int)+(d:Int)).toNat=(NTS.take (d+1)).map .str:=by
  rw[show((1:Int)+(d:Int)).toNat=d+1 by omega,map_take]
 rw[et];have hnl:(NTS.take (d+1)).length=d+1:=by
  rw[length_take];show min (d+1) 3=d+1;omega
 have hns:∀ x∈NTS.take (d+1),x∈NTS:=fun x hx=>mem_of_mem_take hx;have hhd:∃ r,NTS.take (d+1)=("S":Str)::r:=⟨_,rfl⟩;generalize NTS.take (d+1)=nms at hnl hns hhd;refine a0h (by rw[lmp,hnl];unfold LIM;omega) fun s H3 hs h3 e3 b3=>⟨by decide,seq ?_⟩;have hp3:=hp2.ext e3;have hsp:=ne hp2 hs;have e03:c0r p H H3:=((c0r.of e1).trans (c0r.but b2)).trans (c0r.of e3);have pick1:∀ (H':MH) (P:a0d) (sw:Bool) (n:Nat),Pen H' p→H' s=some (.list (nms.map .str))→(∀ x H2,x∈TRM++nms→Pen H2 p→c0r p H' H2→H2 s=some (.list (nms.map .str))→P (.str x) H2)→
   e0f [a0a.str (Str.ofString "a"),a0a.str (Str.ofString "b")] H' fun v H1=>p0e .add (if sw then .ref s else v) (if sw then v else .ref s) H1 fun w H2=>a0f (n+2) 44 [.ref p,w] H2 P:=by
  intro H' P sw n hp' hs' hP;refine a0h (by simp[LIM]) fun ca Ha hca ha ea ba=>?_;have fin:∀ (l:List Str),(∀ x∈l,x∈TRM++nms)→0<l.length→l.length≤10→∀ cs Hs,Ha cs=none→Hs cs=some (.list (l.map .str))→Ext Ha Hs→a0f (n+2) 44 [.ref p,.ref cs] Hs P:=by
   intro l hl hl0 hl1 cs Hs hcs hs2 es;refine u0n ((hp'.ext ea).ext es) hs2 (ne (hp'.ext ea) hcs) (by rw[lmp];exact hl0) (by rw[lmp];unfold LIM;omega) fun v Hv hv hpv bv=>?_;obtain⟨x,hx,rfl⟩:=mem_map.mp hv;exact hP x Hv (hl x hx) hpv ((c0r.of (ea.trans es)).trans (c0r.but bv)) ((bv s hsp).trans (es _ _ (ea _ _ hs')))
  cases sw with
  | false=>
   refine h1t ha (ea _ _ hs') (by rw[lmp,hnl];simp[LIM];omega) fun cs Hs hcs hs2 es U=>fin (TRM++nms) (fun x hx=>hx) (by rw[length_append,hnl];omega) (by rw[length_append,hnl];show 2+_≤10;omega) cs Hs hcs (by rw[hs2,map_append];rfl) es
  | true=>
   refine h1t (ea _ _ hs') ha (by rw[lmp,hnl];simp[LIM];omega) fun cs Hs hcs hs2 es U=>fin (nms++TRM) (fun x hx=>mem_append.mpr (mem_append.mp hx).symm) (by rw[length_append,hnl];omega) (by rw[length_append,hnl];show _+2≤10;omega) cs Hs hcs (by rw[hs2,map_append];rfl) es
 walk_at"";refine c0l h3 ⟨by rw[lmp,hnl];unfold LIM;omega,?_⟩;refine c0g (fun i H' acc=>c0r p H3 H'∧Pen H' p∧H' s=some (.list (nms.map .str))∧∃ D:List Pr,acc=D.map prV∧D.map (·.1)=nms.take i∧(∀ r∈D,r.2.length≤3∧∀ x∈r.2,x∈TRM++nms)) ⟨c0r.refl p H3,hp3,h3,[],rfl,rfl,fun U h=>nomatch h⟩ (fun i H' acc hI=>hI.2.2.1) (fun i H' acc x K hx hI hK=>?_) fun H' acc hI=>?_
 ·obtain⟨e',hp',hs',D,rfl,hD1,hD2⟩:=hI;rw[gmp]at hx;obtain⟨nm,hnm,rfl⟩:=map_eq_some_iff.mp hx;obtain⟨hil,hni⟩:=gsm hnm;refine⟨[some (.ref p),some (.ref s),none,none,some (.str nm),none,none],rfl,?_⟩;walk_at"";rw[if_pos trivial];refine n0j hp' (by decide) (by decide) fun c H4 hc hp4 b4=>(Mac.i3_0 (by unfold LIM;omega) (by unfold LIM;omega) ?_);have h4s:=(b4 s hsp).trans hs';rw[Int.toNat_natCast];refine⟨by rw[lmp,length_range];unfold LIM;omega,n1p (p:=p) (s:=s) (nms:=nms) (by omega) hp4 h4s hsp (fun U=>trivial) (fun x=>(Mac.i4_1 [some (.ref p),some (.ref s),none,none,some (.str nm),some x,none] rfl (fun H' P h=>?_) (fun H' P hpp hss hP=>?_))) fun ps H5 hpl hps hp5 e5 hs5=>?_⟩
  ·walk_at"";exact h
  ·walk_at"";exact pick1 H' P false k hpp hss hP
  refine a0q fun c5 H6 hc5 h6 e6 b6=>s0s h6 (by rw[lmp];unfold LIM;omega) ⟨by decide,hK _ _ ⟨((e'.trans (c0r.but b4)).trans e5).trans (c0r.of e6),hp5.ext e6,e6 _ _ hs5,D++[(nm,ps)],by rw[map_append];rfl,?_,fun r hr=>?_⟩⟩
  ·rw[map_append,hD1,tsg hil,hni];rfl
  ·rcases mem_append.mp hr with hr | hr
   ·exact hD2 r hr
   ·rw[mem_singleton]at hr;subst hr;exact⟨by show ps.length≤3;omega,hps⟩
 obtain⟨e',hp',hs',D,rfl,hD1,hD2⟩:=hI;rw[lmp,take_length]at hD1;have hDl:D.length=d+1:=by rw[← hnl,←hD1,lmp]
 refine a0q fun dA H5 hdA h5 e5 b5=>⟨by decide,seq ?_⟩;have hdp:=ne hp' hdA;have h0d:H dA=none:=(e03.trans e').none hp hp' hdA;have hsd:s≠dA:=a0t hdA hs';refine n0j (hp'.ext e5) (by decide) (by decide) fun c H6 hc hp6 b6=>(Mac.i3_0 (by unfold LIM;omega) (by unfold LIM;omega) ?_);rw[Int.toNat_natCast];refine a0s (fun i m H'=>c0r p H H'∧Pen H' p∧H' s=some (.list (nms.map .str))∧(∃ x,m=[some (.ref p),some (.ref s),some (.ref dA),x,none,none,none])∧∃ E:List Pr,E.length=i∧H' dA=some (.list ((D++E).map prV))∧∀ r∈E,r.1∈nms∧r.2.length≤2∧∀ x∈r.2,x∈TRM++nms)
  ⟨((e03.trans e').trans (c0r.of e5)).trans (c0r.but b6),hp6,(b6 s hsp).trans (e5 _ _ hs'),⟨_,rfl⟩,[],rfl,?_,fun U h=>nomatch h⟩ (fun U U U U=>trivial) (fun i m H' x K hx hI hK=>?_) fun m H' hI=>?_
 ·rw[append_nil];exact(b6 dA hdp).trans h5
 ·obtain⟨eI,hpI,hsI,⟨x1,rfl⟩,E,hEl,hdI,hE⟩:=hI;obtain⟨hic,rfl⟩:=b0h hx;refine⟨[some (.ref p),some (.ref s),some (.ref dA),some (a0b i),none,none,none],rfl,seq ?_⟩;walk_at"";refine⟨a0p hdI (by decide),?_⟩;walk_at"";refine u0n hpI hsI hsp (by rw[lmp,hnl];omega) (by rw[lmp,hnl];unfold LIM;omega) fun v H7 hv hp7 b7=>?_;obtain⟨nm,hnm,rfl⟩:=mem_map.mp hv;have h7s:=(b7 s hsp).trans hsI;have h7d:=(b7 dA hdp).trans hdI;refine n0j hp7 (by decide) (by decide) fun c2 H8 hc2 hp8 b8=>(Mac.i3_0 (by unfold LIM;omega) (by unfold LIM;omega) ?_);have h8s:=(b8 s hsp).trans h7s;have h8d:=(b8 dA hdp).trans h7d;rw[Int.toNat_natCast];refine⟨by rw[lmp,length_range];unfold LIM;omega,n1p (p:=p) (s:=s) (nms:=nms) (by omega) hp8 h8s hsp (fun U=>trivial) (fun x=>(Mac.i4_1 [some (.ref p),some (.ref s),some (.ref dA),some (a0b i),none,none,some x] rfl (fun H' P h=>?_) (fun H' P hpp hss hP=>?_))) fun ps H9 hpl hps hp9 e9 hs9=>?_⟩
  ·walk_at"";exact h
  ·walk_at"";exact pick1 H' P true k hpp hss hP
  have h9d:=e9 _ _ hdp h8d;refine a0q fun c5 H10 hc5 h10 e10 b10=>s0s h10 (by rw[lmp];unfold LIM;omega) ⟨by decide,b0o (e10 _ _ h9d) ?_ fun H11 h11 b11=>⟨rfl,b0m (hK _ _ ⟨(((eI.trans (c0r.but b7)).trans (c0r.but b8)).trans (e9.trans (c0r.of e10))).own h0d b11,(hp9.ext e10).but b11 (Ne.symm hdp),(b11 s hsd).trans (e10 _ _ hs9),⟨_,rfl⟩,E++[(nm,ps)],by simp[hEl],?_,fun r hr=>?_⟩)⟩⟩
  ·rw[lmp,length_append];unfold LIM;omega
  ·rw[h11,←append_assoc,map_append (l₂:=[(nm,ps)])];rfl
  ·rcases mem_append.mp hr with hr | hr
   ·exact hE r hr
   ·rw[mem_singleton]at hr;subst hr;exact⟨hnm,by show ps.length≤2;omega,hps⟩
 ·obtain⟨eI,hpI,hsI,⟨x1,rfl⟩,E,hEl,hdI,hE⟩:=hI;rw[lmp,length_range]at hEl;refine d0s ?_;have inD:∀ x∈nms,∃ r∈D,x=r.1:=fun x hx=>by
   rw[← hD1]at hx;obtain⟨r,hr,e⟩:=mem_map.mp hx;exact⟨r,hr,e.symm⟩
  have sumD:∀ (L:List Pr) (b:Nat),(∀ r∈L,r.2.length≤b)→(L.map fun r=>r.2.length+1).sum≤L.length*(b+1):=by
   intro L b
   induction L with
   | nil=>intro U;exact Nat.zero_le _
   | cons r L ih=>
    intro h;have:=ih fun x hx=>h x (.tail _ hx);have:=h r (.head _);rw[map_cons,sum_cons,length_cons,Nat.add_mul];omega
  refine q (D++E) dA H' ⟨?_,fun r hr=>?_,fun r hr x hx=>?_,fun r hr=>?_,?_⟩ h0d hdI hpI eI
  ·obtain⟨r0,hr0⟩:=hhd;clear hD2 h5 hdI inD;cases D with
   | nil=>simp at hDl
   | cons y D=>
    rw[hr0,map_cons,List.cons.injEq]at hD1;exact⟨y.2,D++E,by rw[← hD1.1];rfl⟩
  ·rcases mem_append.mp hr with hr | hr
   ·exact hns _ (by rw[← hD1];exact mem_map.mpr (Mac.i3_1 r hr rfl))
   ·exact hns _ (hE r hr).1
  ·have hx':x∈TRM++nms:=by
    rcases mem_append.mp hr with hr | hr
    ·exact(hD2 r hr).2 x hx
    ·exact(hE r hr).2.2 x hx
   rcases mem_append.mp hx' with hx' | hx'
   ·exact .inl hx'
   ·obtain⟨r',hr',e⟩:=inD x hx';exact .inr (Mac.i3_1 r' (mem_append_left _ hr') e)
  ·rcases mem_append.mp hr with hr | hr
   ·exact(hD2 r hr).1
   ·have:=(hE r hr).2.1;omega
  ·rw[map_append,sum_append];have a1:=sumD D 3 fun r hr=>(hD2 r hr).1;have a2:=sumD E 2 fun r hr=>(hE r hr).2.1;rw[hDl]at a1;rw[hEl]at a2;omega
noncomputable def e0n(p:a0n):a0a:=.tup [a0b p.1,a0b p.2]
noncomputable def h0t(C:List a0n):a0a:=.tup (C.map e0n)
noncomputable def cst(p:a0n):Int×Int:=((p.1:Int),(p.2:Int))
theorem r0s{p q:a0n}(h:e0n p=e0n q):p=q:=by
 unfold e0n at h;injection h with h;rw[List.cons.injEq,List.cons.injEq]at h;exact Prod.ext (d0r h.1) (d0r h.2.1)
theorem i1i{p q:a0n}(h:cst p=cst q):p=q:=by
 unfold cst at h;rw[Prod.mk.injEq]at h;exact Prod.ext (by omega) (by omega)
theorem b1c{C C':List a0n}(h:C.map e0n=C'.map e0n):C=C':=by
 induction C generalizing C' with
 | nil=>cases C' with
  | nil=>rfl
  | cons=>cases h
 | cons a C ih=>cases C' with
  | nil=>cases h
  | cons b C'=>
   rw[map_cons,map_cons,List.cons.injEq]at h;rw[r0s h.1,ih h.2]
theorem f1r{C C':List a0n}(h:h0t C=h0t C'):C=C':=by
 unfold h0t at h;injection h with h;exact b1c h
theorem r0x{C:List a0n}{p:a0n}:e0n p∈C.map e0n↔p∈C:=by
 rw[mem_map];exact⟨fun⟨q,h,e⟩=>r0s e▸h,fun h=>⟨p,h,rfl⟩⟩
theorem t0u(C:List a0n):e0d (C.map e0n)=true:=by
 unfold e0d;rw[all_map,all_eq_true];exact fun U U=>rfl
theorem p0p(C:List a0n):p0o (h0t C)=true:=by
 show(C.map e0n).all (a0v 7)=true;rw[all_map,all_eq_true];exact fun U U=>rfl
theorem g0l{p q:Int×Int}:f0r p q=true↔p.1<q.1∨p.1=q.1∧p.2<q.2:=by
 unfold f0r;rw[Bool.or_eq_true,Bool.and_eq_true,decide_eq_true_eq,decide_eq_true_eq,decide_eq_true_eq]
theorem y0f(p q:a0n):f0r (cst p) (cst q)=true↔ltI p q:=by
 unfold cst ltI;rw[g0l,Int.ofNat_lt,Int.ofNat_inj,Int.ofNat_lt]
open Classical in
theorem m1i{H:MH}{P:Bool→Prop}{l l':List a0a}(h1:p0o (.tup l)=true)(h2:p0o (.tup l')=true)(q:∀ r:Bool,(r=true↔l=l')→P r):h0w .eq (.tup l) (.tup l') H P:=by
 show eqP (.tup l) (.tup l') H P;unfold eqP;refine⟨h1,h2,q _ ?_⟩;rw[decide_eq_true_eq];exact⟨fun h=>by injection h,fun h=>by rw[h]⟩
theorem y0l{F C:List a0n}{q:List (Int×Int)}(h:h0x (F.map cst) q)(n:F.Nodup)(m:∀ p,p∈F↔p∈C)(hs:C.Pairwise ltI):q=C.map cst:=by
 have irr:∀ a:Int×Int,¬ f0r a a=true:=fun a=>by unfold f0r;simp
 have tr:∀ a b c:Int×Int,f0r a b=true→f0r b c=true→f0r a c=true:=fun a b c h k=>by
  rw[g0l]at h k ⊢;exact h.elim (fun h=>k.elim (fun k=>.inl (Int.lt_trans h k)) fun k=>.inl (k.1▸h)) fun h=>k.elim (fun k=>.inl (h.1▸k)) fun k=>.inr ⟨h.1.trans k.1,Int.lt_trans h.2 k.2⟩
 refine g0o (r:=fun a b=>f0r a b=true) irr tr ?_ ?_ fun x=>?_
 ·have nq:q.Nodup:=by
   rw[h.1.nodup_iff,nodup_iff_pairwise_ne,pairwise_map];exact List.Pairwise.imp (fun {a b} hab e=>hab (i1i e)) n
  have:=(nodup_iff_pairwise_ne.mp nq).and h.2;refine this.imp fun {a b} pz=>?_;obtain⟨h1,h2⟩:=pz;unfold w0d at h2;have h2':f0r b a=false:=by simpa using h2
  rw[g0l];have h3:=fun z=>Bool.eq_false_iff.mp h2' (g0l.mpr z);rcases Int.lt_trichotomy a.1 b.1 with z | z | z
  ·exact .inl z
  ·refine .inr ⟨z,?_⟩;rcases Int.lt_trichotomy a.2 b.2 with y | y | y
   ·exact y
   ·exact absurd (Prod.ext z y) h1
   ·exact absurd (.inr ⟨z.symm,y⟩) h3
  ·exact absurd (.inl z) h3
 ·rw[pairwise_map];exact hs.imp fun h=>(y0f _ _).mpr h
 ·rw[h.1.mem_iff,mem_map,mem_map];constructor
  ·rintro⟨p,hp,rfl⟩;exact⟨p,(m p).mp hp,rfl⟩
  ·rintro⟨p,hp,rfl⟩;exact⟨p,(m p).mpr hp,rfl⟩
theorem a1a{G:PG}{L L':List a0n}(h:∀ p,p∈L↔p∈L'):clo G L=clo G L':=by
 have:(fun p=>p∈L)=fun p=>p∈L':=by funext p;exact propext (h p)
 unfold clo;rw[this]
theorem i0d:∀ (l:List a0a) (n i:Nat) (x:a0a),(g0z n l)[i]?=some x→∃ v,l[i]?=some v∧x=.tup [a0b (n+i),v]
 | [],n,i,x,h=>by simp[g0z]at h
 | v::l,n,0,x,h=>by
  simp only[g0z,getElem?_cons_zero,Option.some.injEq]at h;exact⟨v,rfl,h.symm⟩
 | v::l,n,i+1,x,h=>by
  simp only[g0z,getElem?_cons_succ]at h;obtain⟨w,h1,h2⟩:=i0d l (n+1) i x h;exact⟨w,by rw[getElem?_cons_succ];exact h1,by rw[h2,show n+1+i=n+(i+1) by omega]⟩
theorem d0x:∀ (l:List a0a) (n:Nat),(g0z n l).length=l.length
 | [],_=>rfl
 | v::l,n=>by rw[g0z,length_cons,length_cons,d0x l]
section
variable {D:List Pr}(hD:DOk D)
include hD
theorem m0o:(a0u D).length=(gOf D).rs.length:=by unfold gOf;rw[lmp]
theorem q0f{n:Nat}(h:n<(gOf D).rs.length):∃ p,(a0u D)[n]?=some p∧p∈a0u D∧(gOf D).lf n=(a0g D).idxOf p.1∧(gOf D).rt n=p.2.map (fun x=>(a0g D).idxOf x)∧p.2.length≤3:=by
 obtain⟨p,hp⟩:∃ p,(a0u D)[n]?=some p:=⟨_,geg (by rw[m0o hD];exact h)⟩;obtain⟨g1,g2⟩:=f0y hp;refine⟨p,hp,mog hp,g1,g2,?_⟩;have:=(b0t hD).rl n;rw[g2,lmp]at this;exact this
theorem u0k{n d:Nat}{p:Pr}(hp:(a0u D)[n]?=some p){x:Nat}:(gOf D).nxt (n,d)=some x↔∃ s,p.2[d]?=some s∧x=(a0g D).idxOf s:=by
 unfold PG.nxt;rw[(f0y hp).2,gmp,map_eq_some_iff];constructor
 ·rintro⟨s,h,e⟩;exact⟨s,h,e.symm⟩
 ·rintro⟨s,h,e⟩;exact⟨s,h,e.symm⟩
theorem k0c:((a0u D).map prV).length≤LIM:=by
 rw[lmp,m0o hD];have:=(b0t hD).rn;omega
theorem j0m{n:Nat}{p:Pr}(hp:(a0u D)[n]?=some p):((a0u D).map prV)[n]?=some (prV p):=by rw[gmp,hp];rfl
theorem l1k{H:MH}{p:Pr}{P:a0a→Prop}(q:P (.tup (p.2.map .str))):d1a (prV p) (.int 1) H P:=l1l (k:=1) (by simp[LIM]) rfl q
theorem s1y{H:MH}{p:Pr}{P:a0a→Prop}(q:P (.str p.1)):d1a (prV p) (.int 0) H P:=l1l (k:=0) (by simp[LIM]) rfl q
set_option tactic.hygienic true in
theorem a1t{k:Nat}{H:MH}{Q:a0d}{ru it:Addr}{L:List a0n}(hru:H ru=some (.list ((a0u D).map prV)))(hit:H it=some (.list (L.map e0n)))(hn:L.Nodup)(hv:∀ p∈L,(gOf D).val p)(q:∀ H',Ext H H'→Q (h0t (clo (gOf D) L)) H'):a0f (k+1) 46 [.ref ru,.ref it] H Q:=by
 have W:=b0t hD;have hLl:=c0b W hn hv;refine a0c [some (.ref ru),some (.ref it),none,none,none,none,none,none,none] rfl rfl (seq ?_);walk_at"";refine b1j hit (by rw[lmp];unfold LIM;omega) fun f0 H1 hf0 h1 e1 b1=>⟨by decide,f1z rfl (seq ?_)⟩;refine g0f (fun j m H'=>∃ (spot:Nat) (f:Addr) (F:List a0n) (x y z u v:Option a0a),j=25-spot∧m=[some (.ref ru),some (.ref it),some (.ref f),some (a0b spot),x,y,z,none,none]∧Ext H H'∧H' f=some (.list (F.map e0n))∧F.Nodup∧(∀ p∈F,Cl (gOf D) (·∈L) p)∧(∀ p∈L,p∈F)∧spot≤F.length∧
   (∀ p∈F.take spot,∀ s m,(gOf D).nxt p=some s→m<(gOf D).rs.length→(gOf D).lf m=s→(m,0)∈F)) (fun j m H' K hI hK=>?_) 25 _ _ (Mac.i8_7 0 f0 L none none none none (Mac.i8_1 none rfl rfl e1 h1 hn (fun p hp=>.base hp) (Mac.i3_0 (fun p hp=>hp) (Nat.zero_le _) (fun p hp=>by simp at hp))))
 obtain⟨spot,f,F,x,y,z,u,v,rfl,rfl,e',hf,hFn,hFc,hLF,hsp,hcl⟩:=hI;have hFv:∀ p∈F,(gOf D).val p:=fun p hp=>z0z hv (hFc p hp);have hFl:=c0b W hFn hFv;have flim:(F.map e0n).length≤LIM:=by rw[lmp];unfold LIM;omega
 walk_at"";refine i0p hf flim ?_;walk_at"";rw[lmp];split
 ·rename_i hlt;have hlt':spot<F.length:=by omega
  obtain⟨pi,hpi⟩:∃ p,F[spot]?=some p:=⟨_,geg hlt'⟩;obtain⟨n,d⟩:=pi;have hpm:=mog hpi;have hpv:=hFv _ hpm;obtain⟨p,hp,hpR,g1,g2,g3⟩:=q0f hD hpv.1;have plim:(p.2.map a0a.str).length≤LIM:=by rw[lmp];unfold LIM;omega
  have tk:F.take (spot+1)=F.take spot++[(n,d)]:=by
   obtain⟨hi,e⟩:=gsm hpi;rw[tsg hi,e]
  have fin:∀ (f':Addr) (F':List a0n) (H2:MH) (z':Option a0a),Ext H H2→H2 f'=some (.list (F'.map e0n))→F'.Nodup→(∀ p∈F',Cl (gOf D) (·∈L) p)→(∃ t,F'=F++t)→(∀ s m,(gOf D).nxt (n,d)=some s→m<(gOf D).rs.length→(gOf D).lf m=s→(m,0)∈F')→
    wpB (gam (a0f k)) (.cons (.asg 3 (.bin .add (.var 3) (.con (.int 1)))) .nil) [some (.ref ru),some (.ref it),some (.ref f'),some (a0b spot),some (a0b n),some (a0b d),z',none,none] H2 K:=by
   intro f' F' H2 z' e2 h2 n2 c2 ⟨t,ht⟩ cl2;refine seq ?_;walk_at"";refine⟨by decide,b0m (hK _ _ _ (by omega) (Mac.i8_7 (spot+1) f' F' _ _ _ none (Mac.i8_1 none rfl rfl e2 h2 n2 c2 (Mac.i3_0 (fun p hp=>?_) ?_ (fun p hp s m h1 h2 h3=>?_)))))⟩
   ·rw[ht];exact mem_append_left _ (hLF p hp)
   ·rw[ht,length_append];omega
   ·have:F'.take (spot+1)=F.take (spot+1):=by rw[ht,List.take_append_of_le_length (by omega)]
    rw[this,tk]at hp;rcases mem_append.mp hp with hp | hp
    ·rw[ht];exact mem_append_left _ (hcl p hp s m h1 h2 h3)
    ·rw[mem_singleton]at hp;subst hp;exact cl2 s m h1 h2 h3
  refine seq ?_;walk_at"";refine d0n hf flim (v:=e0n (n,d)) (by rw[gmp,hpi];rfl) (f1z rfl (seq ?_));walk_at"";refine d0n (e' _ _ hru) (k0c hD) (j0m hD hp) (l1k hD (j1i plim ?_));walk_at"";rw[lmp];split
  ·rename_i hdl;have hdl':d<p.2.length:=by show d<_;omega
   obtain⟨s,hs⟩:∃ s,p.2[d]?=some s:=⟨_,geg hdl'⟩;have hsn:=((b0j hD hpR).2 s (mog hs)).1;have hnx:(gOf D).nxt (n,d)=some ((a0g D).idxOf s):=(u0k hD hp).mpr (Mac.i3_1 s hs rfl);refine seq ?_;walk_at"";refine d0n (e' _ _ hru) (k0c hD) (j0m hD hp) (l1k hD (l1l (k:=d) plim (v:=.str s) (by rw[gmp,hs];rfl) ⟨by decide,seq ?_⟩));walk_at"";refine⟨_,e' _ _ hru,k0c hD,?_⟩;refine⟨by rw[d0x];exact k0c hD,?_⟩;refine a0x (fun i=>((((List.range i).filter fun m=>decide ((gOf D).lf m=(a0g D).idxOf s)&&decide ((m,0)∉F)).map fun m=>((m,0):a0n)).map e0n)) rfl (e' _ _ hru) (fun i x K2 hx hK2=>?_) ?_
   ·obtain⟨v2,hv2,rfl⟩:=i0d _ _ _ _ hx;rw[Nat.zero_add];rw[gmp]at hv2;clear hx;obtain⟨r,hr,rfl⟩:=map_eq_some_iff.mp hv2;obtain⟨gl,U⟩:=f0y (D:=D) hr;have hrn:=(b0j hD (mog hr)).1;have hil:i<(gOf D).rs.length:=by rw[← m0o hD];exact(gsm hr).1
    refine⟨[some (.ref ru),some (.ref it),some (.ref f),some (a0b spot),some (a0b n),some (a0b d),some (.str s),some (a0b i),some (prV r)],rfl,?_⟩;walk_at"";refine s1y hD ?_;walk_at"";have rs:List.range (i+1)=List.range i++[i]:=range_succ;by_cases hz:r.1=s
    ·rw[if_pos hz];refine⟨by decide,inL hf rfl (t0u F) ?_⟩;have hl:(gOf D).lf i=(a0g D).idxOf s:=by rw[gl,hz]
     by_cases hm:((i,0):a0n)∈F
     ·rw[show(a0a.tup [a0b i,a0a.int 0])=e0n (i,0) from rfl,g0v (r0x.mpr hm)];walk_at"";rw[if_neg (by decide),if_neg (by decide)];refine hK2 _ _ ⟨rfl,?_⟩;rw[rs,filter_append,filter_cons,if_neg (by simp[hm])];simp
     ·rw[show(a0a.tup [a0b i,a0a.int 0])=e0n (i,0) from rfl,g0u (fun z=>hm (r0x.mp z))];walk_at"";rw[if_pos (by decide),if_pos (by trivial)];refine⟨by decide,hK2 _ _ ⟨rfl,?_⟩⟩;rw[rs,filter_append,filter_cons,if_pos (by simp[hl,hm])];simp only[filter_nil,map_append,map_cons,map_nil] <;> rfl
    ·rw[if_neg hz,if_neg (by decide)];refine hK2 _ _ ⟨rfl,?_⟩;have hl:¬ (gOf D).lf i=(a0g D).idxOf s:=by
      rw[gl];exact fun z=>hz (t0w hD hrn hsn z)
     rw[rs,filter_append,filter_cons,if_neg (by simp[hl])];simp
   ·rw[d0x,lmp,m0o hD];generalize hN:(((List.range (gOf D).rs.length).filter fun m=>decide ((gOf D).lf m=(a0g D).idxOf s)&&decide ((m,0)∉F)).map fun m=>((m,0):a0n))=N;have hNm:∀ p,p∈N↔∃ m,p=(m,0)∧m<(gOf D).rs.length∧(gOf D).lf m=(a0g D).idxOf s∧(m,0)∉F:=fun p=>by
     rw[← hN,mem_map];constructor
     ·rintro⟨m,hm,rfl⟩;rw[mem_filter,mem_range,Bool.and_eq_true,decide_eq_true_eq,decide_eq_true_eq]at hm;exact⟨m,rfl,hm.1,hm.2⟩
     ·rintro⟨m,rfl,h1,h2,h3⟩;refine⟨m,?_,rfl⟩;rw[mem_filter,mem_range,Bool.and_eq_true,decide_eq_true_eq,decide_eq_true_eq];exact⟨h1,h2,h3⟩
    have hNn:N.Nodup:=by
     rw[← hN,nodup_iff_pairwise_ne,pairwise_map];exact List.Pairwise.imp (fun {a b} hab e=>hab (by injection e)) (a0r (pairwise_lt_range.sublist filter_sublist))
    have hFN:(F++N).Nodup:=by
     rw[nodup_append];refine⟨hFn,hNn,fun u hu v hv e=>?_⟩;subst e;obtain⟨m,rfl,U,U,h3⟩:=(hNm u).mp hv;exact h3 hu
    have hFNc:∀ p∈F++N,Cl (gOf D) (·∈L) p:=fun p hp=>by
     rcases mem_append.mp hp with hp | hp
     ·exact hFc p hp
     ·obtain⟨m,rfl,h1,h2,U⟩:=(hNm p).mp hp;exact .step (hFc _ hpm) hnx h1 h2
    have hFNl:=c0b W hFN fun p hp=>z0z hv (hFNc p hp);rw[length_append]at hFNl;refine a0q fun c H3 hc h3 e3 b3=>h1t (e3 _ _ hf) h3 (by rw[lmp,lmp];unfold LIM;omega) fun f' H4 hf' h4 e4 b4=>⟨by decide,b0m (fin f' (F++N) H4 _ ((e'.trans e3).trans e4) (by rw[h4,map_append]) hFN hFNc ⟨N,rfl⟩ fun s' m h1 h2 h3=>?_)⟩;rw[hnx]at h1;cases h1;by_cases hm:((m,0):a0n)∈F
    ·exact mem_append_left _ hm
    ·exact mem_append_right _ ((hNm _).mpr (Mac.i5_1 m rfl h2 h3 hm))
  ·rename_i hdl;refine b0m (fin f F H' _ e' hf hFn hFc ⟨[],(append_nil _).symm⟩ fun s m h1 h2 h3=>?_);have:=o0h h1;rw[g2,lmp]at this;exact absurd (by show(d:Int)<_;omega) hdl
 ·rename_i hge;have hsp':spot=F.length:=by omega
  clear hK hsp;subst hsp';rw[take_length]at hcl;have hm:∀ p,p∈F↔p∈clo (gOf D) L:=fun p=>by
   rw[h0i hv];refine⟨hFc p,fun c=>?_⟩
   induction c with
   | base h=>exact hLF _ h
   | step c hx hm el ih=>exact hcl _ ih _ _ hx hm el
  refine d0s ?_;walk_at"";have eF:F.map e0n=(F.map cst).map h0o:=by rw[map_map];rfl
  rw[eF]at hf;refine f0l hf (n1z rfl (by rw[lmp];unfold LIM;omega) (fun p hp=>?_) fun sq c H2 hsq hc h2 e2 b2=>?_)
  ·obtain⟨r,hr,rfl⟩:=mem_map.mp hp;have h1:=(hFv r hr).2;have h2:=W.rl r.1;unfold cst;dsimp only;omega
  ·have:=y0l hsq hFn hm (j0a L);clear hsq;subst this;refine s0s h2 (by rw[lmp,lmp];have:=c0b W (e0b (j0a (G:=gOf D) L)) b0p;unfold LIM;omega) ?_;have:=q H2 (e'.trans e2);unfold h0t at this;rw[map_map];exact this
theorem j1v{k:Nat}{H:MH}{Q:a0d}{ru:Addr}{C:List a0n}{x:Nat}{s:Str}(hru:H ru=some (.list ((a0u D).map prV)))(hn:C.Nodup)(hv:∀ p∈C,(gOf D).val p)(hs:s∈a0g D)(hx:x=(a0g D).idxOf s)(q:∀ H',Ext H H'→Q (h0t (clo (gOf D) (ovr (gOf D) C x))) H'):a0f (k+2) 47 [.ref ru,h0t C,.str s] H Q:=by
 have W:=b0t hD;have hCl:=c0b W hn hv;subst hx;refine a0c [some (.ref ru),some (h0t C),some (.str s),none,none,none] rfl rfl (seq ?_);walk_at"";refine p0t ⟨by rw[lmp];unfold LIM;omega,?_⟩;refine a0x (fun i=>((((C.take i).filter fun p=>decide ((gOf D).nxt p=some ((a0g D).idxOf s))).map fun p=>((p.1,p.2+1):a0n)).map e0n)) rfl (trivial) (fun i x K2 hx hK2=>?_) ?_
 ·rw[gmp]at hx;obtain⟨⟨n,d⟩,hp,rfl⟩:=map_eq_some_iff.mp hx;obtain⟨hil,hpi⟩:=gsm hp;have hpv:=hv _ (mog hp);obtain⟨p,hp',hpR,g1,g2,g3⟩:=q0f hD hpv.1;have hd3:d≤3:=by have:=hpv.2;have:=W.rl n;dsimp only at *;omega
  have tk:C.take (i+1)=C.take i++[(n,d)]:=by rw[tsg hil,hpi]
  refine⟨[some (.ref ru),some (h0t C),some (.str s),none,some (a0b n),some (a0b d)],rfl,?_⟩;walk_at"";refine d0n hru (k0c hD) (j0m hD hp') (l1k hD ?_);walk_at"";refine⟨by omega,by unfold LIM;omega,by omega,by unfold LIM;omega,by rw[lmp];unfold LIM;omega,⟨by decide,?_⟩⟩;rw[show((d:Int)+1).toNat=d+1 by omega,Int.toNat_natCast];have hc:((p.2.map a0a.str).take (d+1)).drop d=(match p.2[d]? with | some t=>[a0a.str t] | none=>[]):=by
   rw[← map_take,←List.map_drop];have:(p.2.take (d+1)).drop d=(match p.2[d]? with | some t=>[t] | none=>[]):=by
    cases ht:p.2[d]? with
    | none=>
     rw[List.getElem?_eq_none_iff]at ht;rw[drop_eq_nil_of_le];rw[length_take];omega
    | some t=>
     obtain⟨hl,e⟩:=gsm ht;rw[tsg hl,List.drop_append_of_le_length (by rw[length_take];omega),drop_eq_nil_of_le (by rw[length_take];omega),e];rfl
   rw[this];cases p.2[d]? <;> rfl
  rw[hc];have hsok:=W.so s hs;have fs:p0o (.tup [a0a.str s])=true:=by
   show([a0a.str s].all (a0v 7))=true;rw[all_cons,all_nil,Bool.and_true];exact hsok
  have hfl:p0o (.tup (match p.2[d]? with | some t=>[a0a.str t] | none=>[]))=true:=by
   cases ht:p.2[d]? with
   | none=>rfl
   | some t=>
    show([a0a.str t].all (a0v 7))=true;rw[all_cons,all_nil,Bool.and_true];exact W.so t ((b0j hD hpR).2 t (mog ht)).1
  refine m1i hfl fs fun r hr=>?_;have hr':r=true↔p.2[d]?=some s:=by
   rw[hr];cases ht:p.2[d]? with
   | none=>simp
   | some t=>simp
  walk_at"";by_cases e:p.2[d]?=some s
  ·have:r=true:=hr'.mpr e;clear hr hr';subst this;rw[if_pos rfl,if_pos trivial];refine⟨by decide,hK2 _ _ ⟨rfl,?_⟩⟩;rw[tk,filter_append,filter_cons,if_pos]
   ·simp only[filter_nil,map_append,map_cons,map_nil];rfl
   ·rw[decide_eq_true_eq,u0k hD hp'];exact⟨s,e,rfl⟩
  ·have:r=false:=by
    clear hr;cases r with
    | false=>rfl
    | true=>exact absurd (hr'.mp rfl) e
   clear hr hr';subst this;rw[if_neg (by decide),if_neg (by decide)];refine hK2 _ _ ⟨rfl,?_⟩;rw[tk,filter_append,filter_cons,if_neg]
   ·simp
   ·rw[decide_eq_true_eq,u0k hD hp'];rintro⟨t',e',z⟩;have htn:=((b0j hD hpR).2 t' (mog e')).1;exact e (by rw[e',t0w hD hs htn z])
 ·rw[lmp,take_length];generalize hL:((C.filter fun p=>decide ((gOf D).nxt p=some ((a0g D).idxOf s))).map fun p=>((p.1,p.2+1):a0n))=L;have hLm:∀ p,p∈L↔p∈ovr (gOf D) C ((a0g D).idxOf s):=fun p=>by
   obtain⟨n,d⟩:=p;rw[← hL,mem_map];constructor
   ·rintro⟨r,hr,e⟩;rw[mem_filter,decide_eq_true_eq]at hr;cases e;exact k0y.mpr hr
   ·intro h;obtain⟨h1,h2,h3,h4⟩:=f0h.mp h;dsimp only at h2 h3 h4;refine⟨(n,d-1),?_,?_⟩
    ·rw[mem_filter,decide_eq_true_eq];exact⟨h3,h4⟩
    ·show(n,d-1+1)=(n,d);rw[Nat.sub_add_cancel h2]
  have hLn:L.Nodup:=by
   rw[← hL,nodup_iff_pairwise_ne,pairwise_map];refine List.Pairwise.imp (fun {a b} hab e=>hab ?_) (hn.sublist filter_sublist);rw[Prod.mk.injEq]at e;exact Prod.ext e.1 (Nat.succ.inj e.2)
  refine a0q fun c H3 hc h3 e3 b3=>⟨by decide,d0s ?_⟩;refine a1t hD (e3 _ _ hru) h3 hLn (fun p hp=>(f0h.mp ((hLm p).mp hp)).1) fun H4 e4=>?_;rw[a1a hLm];exact q H4 (e3.trans e4)
end
noncomputable def skv(ss:List (Str×a0a)):List (a0a×a0a):=ss.map fun q=>(a0a.str q.1,q.2)
open Classical in
theorem d0h(s:Str):∀ ss:List (Str×a0a),c0q (skv ss) (.str s)=ss.lookup s
 | []=>rfl
 | (k,v)::ss=>by
  have ih:=d0h s ss;unfold c0q skv at ih ⊢;rw[map_cons,find?_cons,lookup_cons];by_cases e:k=s
  ·clear ih;subst e;rw[decide_eq_true rfl,beq_self_eq_true];rfl
  ·have h1:(s == k)=false:=by simpa using fun z:s=k=>e z.symm
   rw[h1,decide_eq_false (fun z=>e (by injection z))];exact ih
open Classical in
theorem c1k{ss:List (Str×a0a)}{s:Str}{v:a0a}(h:s∉ss.map (·.1)):f0k (skv ss) (.str s) v=skv (ss++[(s,v)]):=by
 unfold f0k;rw[if_neg]
 ·unfold skv;rw[map_append];rfl
 ·unfold skv;rw[map_map,mem_map];rintro⟨q,hq,e⟩;have e':q.1=s:=by injection e
  exact h (mem_map.mpr (Mac.i3_1 q hq e'))
noncomputable def nmS(G:PG)(i:Nat):Str:=(G.nm[i]?).getD ""
noncomputable def o1c(G:PG):Option Nat→a0a
 | none=>.str ""
 | some x=>.str (nmS G x)
noncomputable def h0r(G:PG)(row:List (Nat×Nat)):List (Str×a0a):=row.map fun q=>(nmS G q.1,a0b q.2)
noncomputable def c1p(D:List Pr)(p:a0n):Option Str:=((a0u D)[p.1]?).bind fun r=>r.2[p.2]?
section
variable {G:PG}(W:WF G)
include W
theorem f0i{x:Nat}(h:x<G.nm.length):G.nm[x]?=some (nmS G x):=by
 unfold nmS;rw[geg h];rfl
theorem b1s{x y:Nat}(hx:x<G.nm.length)(hy:y<G.nm.length)(e:nmS G x=nmS G y):x=y:=by
 have a:=f0i W hx;have b:=f0i W hy;have i1:=c0i W.nd a;have i2:=c0i W.nd b;rw[e]at i1;rw[i1]at i2;exact Option.some.inj i2
theorem f1j:G.nm=(List.range G.nm.length).map (nmS G):=by
 apply ext_getElem?;intro i;by_cases h:i<G.nm.length
 ·rw[f0i W h,gmp,getElem?_range h];rfl
 ·rw[getElem?_eq_none (by omega),getElem?_eq_none (by rw[lmp,length_range];omega)]
end
section
variable {D:List Pr}(hD:DOk D)
include hD
theorem p0z{s:Str}(h:s∈a0g D):nmS (gOf D) ((a0g D).idxOf s)=s:=by
 show(((a0g D)[(a0g D).idxOf s]?).getD "")=s;rw[f0e hD h];rfl
theorem a1w{x:Nat}(h:x<(gOf D).nm.length):nmS (gOf D) x∈a0g D∧(a0g D).idxOf (nmS (gOf D) x)=x:=by
 have W:=b0t hD;have a:=f0i W h;have hm:nmS (gOf D) x∈a0g D:=mog a;refine⟨hm,?_⟩;have i1:=c0i W.nd a;have i2:=c0i W.nd (f0e hD hm);rw[i1]at i2;exact(Option.some.inj i2).symm
theorem w0m(p:a0n):(gOf D).nxt p=(c1p D p).map fun s=>(a0g D).idxOf s:=by
 unfold c1p PG.nxt;cases hr:(a0u D)[p.1]? with
 | none=>
  rw[Option.bind_none,Option.map_none];unfold PG.rt;have hn:(gOf D).rs[p.1]?=none:=by
   rw[List.getElem?_eq_none_iff,←m0o hD];exact List.getElem?_eq_none_iff.mp hr
  rw[hn];rfl
 | some r=>
  rw[(f0y hr).2,bind_some,gmp]
theorem w0r{p:a0n}{s:Str}(h:c1p D p=some s):s∈a0g D:=by
 unfold c1p at h;obtain⟨r,h1,h2⟩:=Option.bind_eq_some_iff.mp h;exact((b0j hD (mog h1)).2 s (mog h2)).1
theorem u0g(C:List a0n):((a0g D).filter fun s=>decide (s∈C.filterMap (c1p D)))=(nxs (gOf D) C).map (nmS (gOf D)):=by
 have W:=b0t hD;have e:a0g D=(List.range (gOf D).nm.length).map (nmS (gOf D)):=f1j W
 conv=>lhs;rw[e]
 rw[List.filter_map]
 congr 1
 refine filter_congr fun x hx=>?_;have hxl:=mem_range.mp hx;obtain⟨h1,h2⟩:=a1w hD hxl;rw[Bool.eq_iff_iff,any_eq_true];show decide (nmS (gOf D) x∈C.filterMap (c1p D))=true↔_;rw[decide_eq_true_eq,mem_filterMap];constructor
 ·rintro⟨p,hp,e⟩;exact⟨p,hp,by rw[decide_eq_true_eq,w0m hD,e];show some ((a0g D).idxOf (nmS (gOf D) x))=some x;rw[h2]⟩
 ·rintro⟨p,hp,e⟩;rw[decide_eq_true_eq,w0m hD,map_eq_some_iff]at e;obtain⟨s,e1,e2⟩:=e;have:=p0z hD (w0r hD e1);rw[e2]at this;exact⟨p,hp,by rw[e1,this]⟩
end
structure LH(D:List Pr)(H:MH)(b:BS)(st sy mo:Addr)(ra:List Addr):Prop where
 st:H st=some (.list (b.Ks.map fun K=>h0t (clo (gOf D) K)))
 sy:H sy=some (.list (b.ys.map (o1c (gOf D))))
 mo:H mo=some (.list (ra.map .ref))
 rl:ra.length=b.ms.length
 r:∀ (i:Nat) a row,ra[i]?=some a→b.ms[i]?=some row→∃ ep,H a=some (.dict 2 (skv (h0r (gOf D) row)) ep)
theorem LH.extB{D:List Pr}{H H':MH}{b:BS}{st sy mo p:Addr}{ra:List Addr}(h:LH D H b st sy mo ra)(e:c0r p H H')(hp:Pen H p)(h1:st≠p)(h2:sy≠p)(h3:mo≠p):LH D H' b st sy mo ra:=
 ⟨e _ _ h1 h.st,e _ _ h2 h.sy,e _ _ h3 h.mo,h.rl,fun i a row g1 g2=>(h.r i a row g1 g2).imp fun ep z=>e _ _ (by
  obtain⟨U,U,hp⟩:=hp;clear e h1 h2 h3;rintro rfl;rw[hp]at z;cases z) z⟩
open Classical in
theorem v0x{α:Type}[BEq α][LawfulBEq α]{f:α→a0a}{a:α}:∀ {l:List α},(∀ b∈l,f b=f a→b=a)→a∈l→d1u (f a) (l.map f)=some (l.idxOf a)
 | b::l,hf,h=>by
  unfold d1u;rw[map_cons,findIdx?_cons,idxOf_cons];by_cases e:b=a
  ·clear hf h;subst e;rw[if_pos (decide_eq_true rfl),beq_self_eq_true];rfl
  ·have e1:(b == a)=false:=by simpa using e
   have ih:=v0x (f:=f) (a:=a) (l:=l) (fun c hc=>hf c (.tail _ hc)) ((mem_cons.mp h).resolve_left fun z=>e z.symm);unfold d1u at ih;rw[if_neg (fun z=>e (hf b (.head _) (of_decide_eq_true z))),ih,e1];rfl
section
variable {D:List Pr}(hD:DOk D)
include hD
theorem f1q{row:List (Nat×Nat)}:(h0r (gOf D) row).map (·.1)=(row.map (·.1)).map (nmS (gOf D)):=by unfold h0r;rw[map_map,map_map];rfl
set_option tactic.hygienic true in
theorem j1y{k:Nat}{H:MH}{Q:a0d}{ru nA:Addr}(hru:H ru=some (.list ((a0u D).map prV)))(hnA:H nA=some (.list ((a0g D).map .str)))
  (q:∀ b st sy mo ra H',h1r (gOf D) b→Ext H H'→LH D H' b st sy mo ra→H st=none→H sy=none→H mo=none→Q (.tup [.ref st,.ref sy,.ref mo]) H'):a0f (k+3) 48 [.ref ru,.ref nA] H Q:=by
 have W:=b0t hD;have hnl:=m0e hD;refine a0c [some (.ref ru),some (.ref nA),none,none,none,none,none,none,none,none,none,none,none] rfl rfl (seq ?_);walk_at"";refine⟨by decide,a0h (by simp[LIM]) fun c0 H1 hc0 h1 e1 b1=>a1t hD (e1 _ _ hru) (L:=[(0,0)]) h1 (by simp) (fun p hp=>?_) fun H2 e2=>?_⟩
 ·rw[mem_singleton]at hp;subst hp;exact⟨W.pos,Nat.zero_le _⟩
 refine a0h (by simp[LIM]) fun st H3 hst h3 e3 b3=>a0h (by simp[LIM]) fun sy H4 hsy h4 e4 b4=>a0h (by decide) fun mo H5 hmo h5 e5 b5=>⟨by decide,f1z rfl (seq ?_)⟩;have n1:sy≠st:=(a0t hsy h3).symm;have n2:mo≠st:=(a0t hmo (e4 _ _ h3)).symm;have n3:mo≠sy:=(a0t hmo h4).symm;have e05:Ext H H5:=(((e1.trans e2).trans e3).trans e4).trans e5;have h0st:H st=none:=(e1.trans e2).none hst;have h0sy:H sy=none:=((e1.trans e2).trans e3).none hsy;have h0mo:H mo=none:=(((e1.trans e2).trans e3).trans e4).none hmo;refine g0f (fun j m H'=>∃ (n:Nat) (ra:List Addr) (x5 x6 x7 x8 x9:Option a0a),j=LIM+1-n∧m=[some (.ref ru),some (.ref nA),some (.ref st),some (.ref sy),some (.ref mo),x5,x6,x7,x8,x9,none,none,none]∧(bs (gOf D) n).ms.length=n∧Ext H H'∧LH D H' (bs (gOf D) n) st sy mo ra)
  (fun j m H' K hI hK=>?_) (LIM+1) _ _ (Mac.i8_7 0 [] none none none none none (Mac.i5_0 rfl rfl rfl e05 ⟨e5 _ _ (e4 _ _ h3),e5 _ _ h4,h5,rfl,fun i a row g1=>by simp at g1⟩))
 obtain⟨n,ra,x5,x6,x7,x8,x9,rfl,rfl,hn,e',hL⟩:=hI;have inv:=v0i (G:=gOf D) n;have bnd:=w0b W (fun K hK=>inv.g.kerOf hK) inv.g.nd;have hle:n≤(bs (gOf D) n).Ks.length:=by have:=inv.le;omega
 have slen:((bs (gOf D) n).Ks.map fun K=>h0t (clo (gOf D) K)).length=(bs (gOf D) n).Ks.length:=lmp _;have mlen:(ra.map a0a.ref).length=n:=by rw[lmp,hL.rl,hn]
 walk_at"";refine i0p hL.mo (by rw[mlen];omega) (i0p hL.st (by rw[slen];omega) ?_);walk_at"";rw[mlen,slen];split
 ·rename_i hlt;have hlt':n<(bs (gOf D) n).Ks.length:=by omega
  obtain⟨K0,hk⟩:∃ a,(bs (gOf D) n).Ks[n]?=some a:=⟨_,geg hlt'⟩;obtain⟨y0,hy⟩:∃ a,(bs (gOf D) n).ys[n]?=some a:=⟨_,geg (by rw[inv.g.len];exact hlt')⟩;have hKer:=inv.g.ker n K0 y0 hk hy;have hC:=j0a (G:=gOf D) K0;have hCn:=e0b hC;have hCl:=c0b W hCn b0p;refine seq ?_;walk_at"";refine i0p hL.mo (by rw[mlen];omega) ?_;rw[mlen];refine d0n hL.st (by rw[slen];omega) (v:=h0t (clo (gOf D) K0)) (by rw[gmp,hk];rfl) ⟨⟨by decide,by decide⟩,a0q fun rd H6 hrd h6 e6 b6=>⟨by decide,f1z rfl (seq ?_)⟩⟩;have e06:=e'.trans e6;have h0rd:H rd=none:=e'.none hrd;have L6:LH D H6 (bs (gOf D) n) st sy mo ra:=⟨e6 _ _ hL.st,e6 _ _ hL.sy,e6 _ _ hL.mo,hL.rl,fun i a row g1 g2=>(hL.r i a row g1 g2).imp fun ep z=>e6 _ _ z⟩;have hra:∀ (i:Nat) a,ra[i]?=some a→a≠rd:=fun i a g1=>by
   have hi:i<(bs (gOf D) n).ms.length:=by rw[← hL.rl];exact(gsm g1).1
   obtain⟨ep,z⟩:=hL.r i a _ g1 (geg hi);exact a0t hrd z
  walk_at"";refine p0t ⟨by rw[lmp];unfold LIM;omega,?_⟩;refine a0x (fun i=>(((clo (gOf D) K0).take i).filterMap (c1p D)).map .str) rfl (trivial) (fun i x K2 hx hK2=>?_) ?_
  ·rw[gmp]at hx;obtain⟨⟨nn,d⟩,hp,rfl⟩:=map_eq_some_iff.mp hx;obtain⟨hil,hpi⟩:=gsm hp;have hpv:=b0p _ (mog hp);obtain⟨p,hp',hpR,g1,g2,g3⟩:=q0f hD hpv.1;have plim:(p.2.map a0a.str).length≤LIM:=by rw[lmp];unfold LIM;omega
   have tk:(clo (gOf D) K0).take (i+1)=(clo (gOf D) K0).take i++[(nn,d)]:=by rw[tsg hil,hpi]
   have hrn:c1p D (nn,d)=p.2[d]?:=by unfold c1p;rw[hp'];rfl
   refine⟨[some (.ref ru),some (.ref nA),some (.ref st),some (.ref sy),some (.ref mo),some (h0t (clo (gOf D) K0)),some (.ref rd),x7,x8,x9,some (a0b nn),some (a0b d),none],rfl,?_⟩;walk_at"";refine d0n (e06 _ _ hru) (k0c hD) (j0m hD hp') (l1k hD (j1i plim ?_));walk_at"";rw[lmp];split
   ·rename_i hdl;have hdl':d<p.2.length:=by omega
    obtain⟨s,hs⟩:∃ s,p.2[d]?=some s:=⟨_,geg hdl'⟩;rw[if_pos trivial];refine d0n (e06 _ _ hru) (k0c hD) (j0m hD hp') (l1k hD (l1l (k:=d) plim (v:=.str s) (by rw[gmp,hs];rfl) (hK2 _ _ ⟨rfl,?_⟩)));rw[tk,filterMap_append,filterMap_cons,hrn,hs,map_append];rfl
   ·rename_i hdl;rw[if_neg (by decide)];refine hK2 _ _ ⟨rfl,?_⟩;rw[tk,filterMap_append,filterMap_cons,hrn,getElem?_eq_none (by omega)];simp
  rw[lmp,take_length];refine a0q fun ah H7 hah h7 e7 b7=>⟨by decide,seq ?_⟩;have e07:=e06.trans e7;walk_at"";refine c0l (e07 _ _ hnA) ⟨by rw[lmp];unfold LIM;omega,?_⟩;refine a0x (fun i=>(((a0g D).take i).filter fun s=>decide (s∈(clo (gOf D) K0).filterMap (c1p D))).map .str) rfl (e07 _ _ hnA) (fun i x K2 hx hK2=>?_) ?_
  ·rw[gmp]at hx;obtain⟨s,hs,rfl⟩:=map_eq_some_iff.mp hx;obtain⟨hil,hsi⟩:=gsm hs;have hsm:=mog hs;have tk:(a0g D).take (i+1)=(a0g D).take i++[s]:=by rw[tsg hil,hsi]
   refine⟨[some (.ref ru),some (.ref nA),some (.ref st),some (.ref sy),some (.ref mo),some (h0t (clo (gOf D) K0)),some (.ref rd),some (.ref ah),x8,x9,none,none,some (.str s)],rfl,?_⟩;walk_at"";refine inL h7 (W.so s hsm) (b0v fun x hx=>?_) ?_
   ·obtain⟨p,U,e⟩:=mem_filterMap.mp hx;exact W.so x (w0r hD e)
   by_cases hm:s∈(clo (gOf D) K0).filterMap (c1p D)
   ·rw[g0v (e0c.mpr hm),if_pos rfl,if_pos trivial];refine hK2 _ _ ⟨rfl,?_⟩;rw[tk,filter_append,filter_cons,if_pos (decide_eq_true hm),map_append];rfl
   ·rw[g0u (fun z=>hm (e0c.mp z)),if_neg (by decide),if_neg (by decide)];refine hK2 _ _ ⟨rfl,?_⟩;rw[tk,filter_append,filter_cons,if_neg (by simpa using hm)];simp
  rw[lmp,take_length,u0g hD];refine a0q fun na H8 hna h8 e8 b8=>c0l h8 ?_;have e08:=e07.trans e8;have L8:LH D H8 (bs (gOf D) n) st sy mo ra:=⟨e8 _ _ (e7 _ _ L6.st),e8 _ _ (e7 _ _ L6.sy),e8 _ _ (e7 _ _ L6.mo),L6.rl,fun i a row g1 g2=>(L6.r i a row g1 g2).imp fun ep z=>e8 _ _ (e7 _ _ z)⟩;have h8rd:=e8 _ _ (e7 _ _ h6);have nst:na≠st:=(a0t hna (e7 _ _ L6.st)).symm;have nsy:na≠sy:=(a0t hna (e7 _ _ L6.sy)).symm;have nrd:na≠rd:=(a0t hna (e7 _ _ h6)).symm;have strd:st≠rd:=a0t hrd hL.st;have syrd:sy≠rd:=a0t hrd hL.sy;have mord:mo≠rd:=a0t hrd hL.mo;have hstep:bs (gOf D) (n+1)=⟨(fk (gOf D) (clo (gOf D) K0) (bs (gOf D) n).Ks (bs (gOf D) n).ys (nxs (gOf D) (clo (gOf D) K0))).1,(fk (gOf D) (clo (gOf D) K0) (bs (gOf D) n).Ks (bs (gOf D) n).ys (nxs (gOf D) (clo (gOf D) K0))).2.1,(bs (gOf D) n).ms++[(fk (gOf D) (clo (gOf D) K0) (bs (gOf D) n).Ks (bs (gOf D) n).ys (nxs (gOf D) (clo (gOf D) K0))).2.2]⟩:=by
   show q0h (gOf D) (bs (gOf D) n)=_;unfold q0h;rw[hn,hk]
  refine a0s (fun i m' H'=>Ext H H'∧(∃ x8 x9,m'=[some (.ref ru),some (.ref nA),some (.ref st),some (.ref sy),some (.ref mo),some (h0t (clo (gOf D) K0)),some (.ref rd),some (.ref ah),x8,x9,none,none,none])∧H' na=some (.list (((nxs (gOf D) (clo (gOf D) K0)).map (nmS (gOf D))).map .str))∧
    H' st=some (.list ((fk (gOf D) (clo (gOf D) K0) (bs (gOf D) n).Ks (bs (gOf D) n).ys ((nxs (gOf D) (clo (gOf D) K0)).take i)).1.map fun K=>h0t (clo (gOf D) K)))∧
    H' sy=some (.list ((fk (gOf D) (clo (gOf D) K0) (bs (gOf D) n).Ks (bs (gOf D) n).ys ((nxs (gOf D) (clo (gOf D) K0)).take i)).2.1.map (o1c (gOf D))))∧H' mo=some (.list (ra.map .ref))∧
    (∃ ep,H' rd=some (.dict 2 (skv (h0r (gOf D) (fk (gOf D) (clo (gOf D) K0) (bs (gOf D) n).Ks (bs (gOf D) n).ys ((nxs (gOf D) (clo (gOf D) K0)).take i)).2.2)) ep))∧
    (∀ (i:Nat) a row,ra[i]?=some a→(bs (gOf D) n).ms[i]?=some row→∃ ep,H' a=some (.dict 2 (skv (h0r (gOf D) row)) ep)))
   (Mac.i8_0 e08 (Mac.i3_2 _ _ rfl) h8 L8.st L8.sy L8.mo ⟨0,h8rd⟩ L8.r) (fun i m H' hI=>hI.2.2.1) (fun i m H' x K2 hx hI hK2=>?_) fun m H' hI=>?_
  ·obtain⟨eI,⟨x8',x9',rfl⟩,hIna,hIst,hIsy,hImo,⟨epr,hIrd⟩,hIr⟩:=hI;rw[gmp,gmp,Option.map_map]at hx;obtain⟨xn,hxn,rfl⟩:=map_eq_some_iff.mp hx;obtain⟨hil,hxi⟩:=gsm hxn;have hxm:=mog hxn;have hxl:=(h0j.mp hxm).1;obtain⟨hsm,hsi⟩:=a1w hD hxl;have tk:(nxs (gOf D) (clo (gOf D) K0)).take (i+1)=(nxs (gOf D) (clo (gOf D) K0)).take i++[xn]:=by rw[tsg hil,hxi]
   obtain⟨gi,ri,t,ht⟩:=p0n (K:=K0) inv.g i (Nat.le_of_lt hil);obtain⟨ga,ra',ta,hta⟩:=o0u gi ri hxm;have nxl:=q0b W (clo (gOf D) K0);rw[tk,t0t]at hK2;generalize fk (gOf D) (clo (gOf D) K0) (bs (gOf D) n).Ks (bs (gOf D) n).ys ((nxs (gOf D) (clo (gOf D) K0)).take i)=sT at hIst hIsy hIrd gi ri hK2 ga ra' hta;obtain⟨Ks',ys',row⟩:=sT;dsimp only at hIst hIsy hIrd gi ri;have bndI:=w0b W (fun K hK=>gi.kerOf hK) gi.nd;have rowl:row.length≤20:=by
    have:row.length=(row.map (·.1)).length:=by rw[lmp]
    rw[this,ri.1,length_take];omega
   have hkov:Ker (gOf D) (ovr (gOf D) (clo (gOf D) K0) xn) (some xn):=p0v hxm;have hnot:nmS (gOf D) xn∉(h0r (gOf D) row).map (·.1):=by
    rw[f1q hD,ri.1];intro z;obtain⟨u,hu,e⟩:=mem_map.mp z;have hum:=mem_of_mem_take hu;have:=b1s W (h0j.mp hum).1 hxl e;exact c0o (a0r (j0k (G:=gOf D) (clo (gOf D) K0))) hxn (this▸hu)
   have cinj:∀ K∈Ks',h0t (clo (gOf D) K)=h0t (clo (gOf D) (ovr (gOf D) (clo (gOf D) K0) xn))→K=ovr (gOf D) (clo (gOf D) K0) xn:=fun K hK e=>by
    obtain⟨y,hy⟩:=gi.kerOf hK;exact i1d W hy hkov (f1r e)
   have memS:h0t (clo (gOf D) (ovr (gOf D) (clo (gOf D) K0) xn))∈(Ks'.map fun K=>h0t (clo (gOf D) K))↔ovr (gOf D) (clo (gOf D) K0) xn∈Ks':=by
    rw[mem_map];exact⟨fun⟨K,hK,e⟩=>cinj K hK e▸hK,fun h=>(Mac.i3_1 _ h rfl)⟩
   have fsets:∀ L:List (List a0n),e0d (L.map fun K=>h0t (clo (gOf D) K))=true:=fun L=>by
    unfold e0d;rw[all_map,all_eq_true];exact fun K U=>p0p _
   refine⟨[some (.ref ru),some (.ref nA),some (.ref st),some (.ref sy),some (.ref mo),some (h0t (clo (gOf D) K0)),some (.ref rd),some (.ref ah),some (.str (nmS (gOf D) xn)),x9',none,none,none],rfl,seq ?_⟩;walk_at"";refine j1v hD (eI _ _ hru) hCn b0p hsm hsi.symm fun H9 e9=>⟨by decide,seq ?_⟩;have last:∀ (Ka:List (List a0n)) (ya:List (Option Nat)) (H10:MH),(∀ K∈Ka,h0t (clo (gOf D) K)=h0t (clo (gOf D) (ovr (gOf D) (clo (gOf D) K0) xn))→K=ovr (gOf D) (clo (gOf D) K0) xn)→ovr (gOf D) (clo (gOf D) K0) xn∈Ka→Ka.length≤LIM→s0w (gOf D) (clo (gOf D) K0) (Ks',ys',row) xn=(Ka,ya,row++[(xn,Ka.idxOf (ovr (gOf D) (clo (gOf D) K0) xn))])→Ext H H10→H10 na=some (.list (((nxs (gOf D) (clo (gOf D) K0)).map (nmS (gOf D))).map .str))→
     H10 st=some (.list (Ka.map fun K=>h0t (clo (gOf D) K)))→H10 sy=some (.list (ya.map (o1c (gOf D))))→H10 mo=some (.list (ra.map .ref))→H10 rd=some (.dict 2 (skv (h0r (gOf D) row)) epr)→(∀ (i:Nat) a row,ra[i]?=some a→(bs (gOf D) n).ms[i]?=some row→∃ ep,H10 a=some (.dict 2 (skv (h0r (gOf D) row)) ep))→
     wpB (gam (a0f (k+2))) (.cons (.asgI (.var 6) (.var 8) (.bm .index (.var 2) (.cons (.var 9) .nil))) .nil) [some (.ref ru),some (.ref nA),some (.ref st),some (.ref sy),some (.ref mo),some (h0t (clo (gOf D) K0)),some (.ref rd),some (.ref ah),some (.str (nmS (gOf D) xn)),some (h0t (clo (gOf D) (ovr (gOf D) (clo (gOf D) K0) xn))),none,none,none] H10 K2:=by
    intro Ka ya H10 cj hin hKal hadd e10 a1 a2 a3 a4 a5 a6;refine seq ?_;walk_at"";refine⟨a0p a2 (by decide),v0y a2 (p0p _) (fsets Ka) (by rw[lmp];exact hKal) (v0x (f:=fun K=>h0t (clo (gOf D) K)) cj hin) (l1i a5 rfl (by unfold skv h0r;rw[lmp,lmp];unfold LIM;omega) fun H11 ep11 h11 b11=>b0m (hK2 _ _ (Mac.i8_0 (e10.but h0rd b11) (Mac.i3_2 _ _ rfl) (by rw[b11 na nrd];exact a1) ?_ ?_ (by rw[b11 mo mord];exact a4) ⟨ep11,?_⟩ (fun i a row g1 g2=>?_))))⟩
    ·rw[hadd,b11 st strd];exact a2
    ·rw[hadd,b11 sy syrd];exact a3
    ·rw[hadd,h11,c1k hnot];unfold h0r;rw[map_append];rfl
    ·obtain⟨ep,z⟩:=a6 i a row g1 g2;exact⟨ep,by rw[b11 a (hra i a g1)];exact z⟩
   walk_at"";refine inL (e9 _ _ hIst) (p0p _) (fsets _) ?_;by_cases hin:ovr (gOf D) (clo (gOf D) K0) xn∈Ks'
   ·rw[g0v (memS.mpr hin),if_neg (by decide)];refine b0m (last Ks' ys' H9 cinj hin (by omega) ?_ (eI.trans e9) (e9 _ _ hIna) (e9 _ _ hIst) (e9 _ _ hIsy) (e9 _ _ hImo) (e9 _ _ hIrd) fun i a row g1 g2=>(hIr i a row g1 g2).imp fun ep z=>e9 _ _ z);unfold s0w;dsimp only;rw[if_pos hin]
   ·rw[g0u (fun z=>hin (memS.mp z)),if_pos (by decide)];have bA:(Ks'++[ovr (gOf D) (clo (gOf D) K0) xn]).length<LIM:=by
     unfold s0w at ga;dsimp only at ga;rw[if_neg hin]at ga;exact w0b W (fun K hK=>ga.kerOf hK) ga.nd
    rw[length_append,length_singleton]at bA;refine seq ?_;walk_at"";have h9st:=e9 _ _ hIst;have h9sy:=e9 _ _ hIsy;refine⟨a0p h9st (by decide),b0o h9st (by rw[lmp];omega) fun H10 h10 b10=>⟨rfl,seq ?_⟩⟩;have h10sy:H10 sy=_:=(b10 sy n1).trans h9sy;walk_at"";refine⟨a0p h10sy (by decide),b0o h10sy (by rw[lmp,gi.len];omega) fun H11 h11 b11=>⟨rfl,b0m ?_⟩⟩;have kp:∀ x o,x≠st→x≠sy→H9 x=some o→H11 x=some o:=fun x o q1 q2 z=>by rw[b11 x q2,b10 x q1];exact z
    refine last (Ks'++[ovr (gOf D) (clo (gOf D) K0) xn]) (ys'++[some xn]) H11 (fun K hK e=>?_) (by simp) (by rw[length_append,length_singleton];omega) ?_ (((eI.trans e9).but h0st b10).but h0sy b11) (kp _ _ nst nsy (e9 _ _ hIna)) ?_ ?_ (kp _ _ n2 n3 (e9 _ _ hImo)) (kp _ _ (Ne.symm strd) (Ne.symm syrd) (e9 _ _ hIrd)) fun i a row g1 g2=>?_
    ·rcases mem_append.mp hK with hK | hK
     ·exact cinj K hK e
     ·exact mem_singleton.mp hK
    ·unfold s0w;dsimp only;rw[if_neg hin,idxOf_append,if_neg hin];simp
    ·rw[b11 st (Ne.symm n1),h10,map_append];rfl
    ·rw[h11,map_append];rfl
    ·obtain⟨ep,z⟩:=hIr i a row g1 g2;refine⟨ep,kp _ _ ?_ ?_ (e9 _ _ z)⟩
     ·first | exact nef (hIst) z (fun e=>by cases e) | exact nef z (hIst) (fun e=>by cases e)
     ·clear hsy h4 b4 n1 n3 h0sy hK hL L6 L8 nsy syrd hK2 last h9sy h10sy h11 b11 kp;rintro rfl;rw[hIsy]at z;cases z
  ·obtain⟨eI,⟨x8',x9',rfl⟩,hIna,hIst,hIsy,hImo,⟨epr,hIrd⟩,hIr⟩:=hI;rw[lmp,lmp,take_length]at hIst hIsy hIrd;refine seq ?_;walk_at"";refine⟨a0p hImo (by decide),b0o hImo (by rw[mlen];omega) fun H9 h9 b9=>⟨rfl,b0m (hK _ _ _ (by omega) (Mac.i8_7 (n+1) (ra++[rd]) _ _ _ _ _ (Mac.i5_0 rfl rfl (by rw[hstep,length_append,hn];rfl) (eI.but h0mo b9) ?_)))⟩⟩;rw[hstep];have kp:∀ x o,x≠mo→H' x=some o→H9 x=some o:=fun x o q1 z=>by rw[b9 x q1];exact z
   refine⟨kp _ _ (Ne.symm n2) hIst,kp _ _ (Ne.symm n3) hIsy,by rw[h9,map_append];rfl,by rw[length_append,length_append,hL.rl];rfl,fun i a row g1 g2=>?_⟩;dsimp only at g2;by_cases hi:i<ra.length
   ·rw[getElem?_append_left hi]at g1;rw[getElem?_append_left (by rw[← hL.rl];exact hi)]at g2;obtain⟨ep,z⟩:=hIr i a row g1 g2;exact⟨ep,kp _ _ (by first | exact nef (hImo) z (fun e=>by cases e) | exact nef z (hImo) (fun e=>by cases e)) z⟩
   ·have hi2:=(gsm g1).1;rw[length_append,length_singleton]at hi2;have hi3:i=ra.length:=by omega
    rw[getElem?_append_right (by omega),hi3,Nat.sub_self]at g1;rw[getElem?_append_right (by rw[← hL.rl];omega),hi3,←hL.rl,Nat.sub_self]at g2;cases g1;cases g2;exact⟨epr,kp _ _ (Ne.symm mord) hIrd⟩
 ·rename_i hge;have hfin:(bs (gOf D) n).ms.length=(bs (gOf D) n).Ks.length:=by omega
  refine d0s ?_;walk_at"";exact⟨by decide,q (bs (gOf D) n) st sy mo ra H' (Mac.i3_1 n rfl hfin) e' hL h0st h0sy h0mo⟩
end
theorem j0j{H:MH}{P:Bool→Prop}{n:Nat}{v:a0a}(h:v=a0b n)(q:P false):h0w .ne v (a0b n) H P:=by
 subst h;show P (!decide ((n:Int)=(n:Int)));rw[decide_eq_true rfl];exact q
theorem LH.ext{D:List Pr}{H H':MH}{b:BS}{st sy mo:Addr}{ra:List Addr}(hL:LH D H b st sy mo ra)(e:Ext H H'):LH D H' b st sy mo ra:=⟨e _ _ hL.st,e _ _ hL.sy,e _ _ hL.mo,hL.rl,fun i a row g1 g2=>(hL.r i a row g1 g2).imp fun U z=>e _ _ z⟩
theorem s1u{H:MH}{a b:Addr}{ep ep':Nat}{kv:List (a0a×a0a)}{P:Bool→Prop}(ha:H a=some (.dict 1 kv ep))(hb:H b=some (.dict 1 kv ep'))(hl:kv.length≤LIM)(hf:e0d (kv.map (·.2))=true)(q:P false):h0w .ne (.ref a) (.ref b) H P:=EqR.d1 _ _ _ _ ha hb (.inl (Mac.i3_0 rfl hf q))
theorem h1g:PyData.strOk ("":Str)=true∧("":Str)∉h1q:=by decide +kernel
section
variable {D:List Pr}(hD:DOk D){H:MH}{g au sl st sy mo:Addr}{GD:GHd}{b:BS}{sa mv ra:List Addr}{Z:Addr→Prop}{k:Nat}{Q:a0d}(w:d0a (gOf D) b)(hG:GH H g (gOf D) GD)(hA:AH (gOf D) H g au b sl sa mv Z)(hL:LH D H b st sy mo ra)
include hD w hL
theorem w0t{i:Nat}{K:List a0n}{P:a0a→Prop}(hk:b.Ks[i]?=some K)(q:P (h0t (clo (gOf D) K))):d1a (.ref st) (a0b i) H P:=by
 refine d0n hL.st ?_ (v:=h0t (clo (gOf D) K)) (by rw[gmp,hk];rfl) q;rw[lmp];have:=w.bound (b0t hD);exact this
theorem e0s{i:Nat}{a:Addr}{P:a0a→Prop}(ha:ra[i]?=some a)(q:P (.ref a)):d1a (.ref mo) (a0b i) H P:=by
 refine d0n hL.mo ?_ (v:=.ref a) (by rw[gmp,ha];rfl) q;rw[lmp,hL.rl,w.e];exact w.bound (b0t hD)
theorem e0p{i:Nat}(hi:i<b.ms.length):∃ a row ep,ra[i]?=some a∧b.ms[i]?=some row∧H a=some (.dict 2 (skv (h0r (gOf D) row)) ep):=by
 have h1:i<ra.length:=by rw[hL.rl];exact hi
 obtain⟨ep,z⟩:=hL.r i _ _ (geg h1) (geg hi);exact⟨_,_,ep,geg h1,geg hi,z⟩
omit hL in
theorem w0s{i:Nat}{row:List (Nat×Nat)}(hr:b.ms[i]?=some row){x j:Nat}(h:(x,j)∈row):x<(gOf D).nm.length:=by
 obtain⟨K,U,e,U⟩:=w.row hr;have:x∈row.map (·.1):=mem_map.mpr (Mac.i3_1 _ h rfl);rw[e]at this;exact(h0j.mp this).1
omit hL in
theorem c0m{i:Nat}{row:List (Nat×Nat)}(hr:b.ms[i]?=some row){x:Nat}(hx:x<(gOf D).nm.length):(h0r (gOf D) row).lookup (nmS (gOf D) x)=(row.lookup x).map a0b:=by
 have W:=b0t hD;have key:∀ l:List (Nat×Nat),(∀ y j,(y,j)∈l→y<(gOf D).nm.length)→(h0r (gOf D) l).lookup (nmS (gOf D) x)=(l.lookup x).map a0b:=by
  intro l
  induction l with
  | nil=>intro U;rfl
  | cons q l ih=>
   intro h;obtain⟨y,j⟩:=q;have ih':=ih fun y j hy=>h y j (.tail _ hy);unfold h0r at ih' ⊢;rw[map_cons,lookup_cons,lookup_cons];by_cases e:x=y
   ·clear h;subst e;rw[beq_self_eq_true,beq_self_eq_true];rfl
   ·have e1:(x == y)=false:=by simpa using e
    have e2:(nmS (gOf D) x == nmS (gOf D) y)=false:=by
     rw[beq_eq_false_iff_ne];exact fun z=>e (b1s W hx (h y j (.head _)) z)
    rw[e1,e2];exact ih'
 exact key row fun y j h=>w0s hD w hr h
include hG hA
theorem s0l{ru:Addr}(hru:H ru=some (.list ((a0u D).map prV)))(q:∀ H',Ext H H'→Q (.bool true) H'):a0f (k+2) 49 [.ref g,.ref au,.ref ru,.ref st,.ref sy,.ref mo] H Q:=by
 have W:=b0t hD;have hlim:=w.lim W;have hN:sa.length=b.ms.length:=by rw[hA.ns,w.e]
 refine a0c [some (.ref g),some (.ref au),some (.ref ru),some (.ref st),some (.ref sy),some (.ref mo),none,none,none,none,none,none,none,none,none,none,none,none] rfl rfl (seq ?_);walk_at"";refine a0i hA.au rfl (i0p hA.ls (g0d W w hA) (i0p hL.st (by rw[lmp];exact w.bound W) ?_));rw[lmp,lmp,hA.ns];refine j0j (n:=b.Ks.length) rfl ?_;walk_at"";rw[if_neg (by decide)];refine b0m (seq ?_);walk_at"";refine a0i hA.au rfl (Mac.i4_1 _ hA.ls (g0d W w hA) ?_);refine a0s (fun i m H'=>Ext H H'∧∃ x6 x7 x8 x9 x10,m=[some (.ref g),some (.ref au),some (.ref ru),some (.ref st),some (.ref sy),some (.ref mo),x6,x7,x8,x9,x10,none,none,none,none,none,none,none]) ⟨Ext.refl H,_,_,_,_,_,rfl⟩ (fun i m H' hI=>hI.1 _ _ hA.ls) (fun i m H' x K hx hI hK=>?_) fun m H' hI=>?_
 ·obtain⟨e',x6,x7,x8,x9,x10,rfl⟩:=hI;obtain⟨v,hv,rfl⟩:=i0d _ _ _ _ hx;rw[Nat.zero_add];rw[gmp]at hv;clear hx;obtain⟨a,ha,rfl⟩:=map_eq_some_iff.mp hv;have hi:i<b.ms.length:=by rw[← hN];exact(gsm ha).1
  obtain⟨a',m,K',y,row,ha',hm,hk,hy,hr,s⟩:=(hA.ext e').at_ w hi;rw[ha]at ha';cases ha';obtain⟨it,rd,ep,s1,s2,s3⟩:=s;obtain⟨y1,y2,z1,P,z2,z3,z4⟩:=s3 rfl;have hKer:=w.i.g.ker i K' y hk hy;have hC:=j0a (G:=gOf D) K';have hCn:=e0b hC;have hCl:=c0b W hCn b0p;have hCs:=h0n hC (b0p (G:=gOf D) (K:=K'));have hKs:=h0n hKer.srt (Ker.val W hKer);have hKl:=c0b W (e0b hKer.srt) (Ker.val W hKer);have rowl:=j0p W w hA hr;have hasc:=w.asc hr;have items:∀ (i:Nat) (p:a0n),(clo (gOf D) K')[i]?=some p→(gOf D).val p:=fun i p hp=>b0p p (mog hp);have clim:((clo (gOf D) K').map e0n).length≤LIM:=by rw[lmp];unfold LIM;omega
  refine⟨[some (.ref g),some (.ref au),some (.ref ru),some (.ref st),some (.ref sy),some (.ref mo),some (a0b i),some (.ref a),x8,x9,x10,none,none,none,none,none,none,none],rfl,seq ?_⟩;walk_at"";refine w0t hD w (hL.ext e') hk (p0t ⟨clim,?_⟩);refine a0x (fun j=>((clo (gOf D) K').take j).map fun p=>a0b ((gOf D).num p)) rfl (trivial) (fun j x K2 hx hK2=>?_) ?_
  ·rw[gmp]at hx;obtain⟨⟨n,d⟩,hp,rfl⟩:=map_eq_some_iff.mp hx;obtain⟨hjl,hpj⟩:=gsm hp;refine⟨[some (.ref g),some (.ref au),some (.ref ru),some (.ref st),some (.ref sy),some (.ref mo),some (a0b i),some (.ref a),x8,x9,x10,some (a0b n),some (a0b d),none,none,none,none,none],rfl,?_⟩;walk_at"";rw[if_pos trivial];refine b0s (hG.ext e').g rfl ?_;walk_at"";refine j0g W (hG.ext e') (items j _ hp).1 (hK2 _ _ ⟨rfl,?_⟩);rw[tsg hjl,hpj,map_append];rfl
  rw[lmp,take_length];have eC:((clo (gOf D) K').map fun p=>a0b ((gOf D).num p))=((clo (gOf D) K').map fun p=>(gOf D).num p).map a0b:=by rw[map_map];rfl
  refine a0q fun c1 H3 hc1 h3 e3 b3=>f0l h3 ?_;rw[eC];refine k0u (by rw[lmp];unfold LIM;omega) fun l1 iA H4 hp1 hs1 hiA h4 e4 b4=>⟨by decide,seq ?_⟩;have hl1:l1=(clo (gOf D) K').map fun p=>(gOf D).num p:=b0e (b0r hs1 (hp1.nodup_iff.mpr (a0r hCs))) hCs fun x=>hp1.mem_iff;clear hp1 hs1;subst hl1;have e4':=(e'.trans e3).trans e4;walk_at"";refine w0t hD w (hL.ext e4') hk (p0t ⟨clim,?_⟩);refine a0x (fun j=>(((clo (gOf D) K').take j).filter fun p=>decide (0<p.2) || decide (p.1=0)).map fun p=>a0b ((gOf D).num p)) rfl (trivial) (fun j x K2 hx hK2=>?_) ?_
  ·rw[gmp]at hx;obtain⟨⟨n,d⟩,hp,rfl⟩:=map_eq_some_iff.mp hx;obtain⟨hjl,hpj⟩:=gsm hp;have tk:(clo (gOf D) K').take (j+1)=(clo (gOf D) K').take j++[(n,d)]:=by rw[tsg hjl,hpj]
   refine⟨[some (.ref g),some (.ref au),some (.ref ru),some (.ref st),some (.ref sy),some (.ref mo),some (a0b i),some (.ref a),some (.ref iA),x9,x10,none,none,some (a0b n),some (a0b d),none,none,none],rfl,?_⟩;have yes:(decide (0<d) || decide (n=0))=true→a0f (k+1) 36 [.ref g,a0b n,a0b d] H4 (fun v H3=>K2 ((((clo (gOf D) K').take j).filter fun p=>decide (0<p.2) || decide (p.1=0)).map (fun p=>a0b ((gOf D).num p))++[v]) H3):=fun hz=>by
    refine j0g W (hG.ext e4') (items j _ hp).1 (hK2 _ _ ⟨rfl,?_⟩);rw[tk,filter_append,filter_cons,if_pos hz,map_append];rfl
   walk_at"";by_cases hd:0<d
   ·rw[if_pos (by omega)];simp only[if_true];refine b0s (hG.ext e4').g rfl ?_;walk_at"";exact yes (by simp[hd])
   ·rw[if_neg (by omega)];by_cases hn:n=0
    ·rw[if_pos (by omega)];simp only[if_true];refine b0s (hG.ext e4').g rfl ?_;walk_at"";exact yes (by simp[hn])
    ·rw[if_neg (by omega)];simp only[Bool.false_eq_true,if_false];refine hK2 _ _ ⟨rfl,?_⟩;rw[tk,filter_append,filter_cons,if_neg (by simp;omega)];simp
  rw[lmp,take_length];have eK:∀ p,p∈((clo (gOf D) K').filter fun p=>decide (0<p.2) || decide (p.1=0))↔p∈K':=fun p=>by
   rw[mem_filter,Bool.or_eq_true,decide_eq_true_eq,decide_eq_true_eq,Ker.back W hKer]
  have eKl:((clo (gOf D) K').filter fun p=>decide (0<p.2) || decide (p.1=0))=K':=i0l (hC.sublist filter_sublist) hKer.srt eK;rw[eKl];have eKn:(K'.map fun p=>a0b ((gOf D).num p))=(K'.map fun p=>(gOf D).num p).map a0b:=by rw[map_map];rfl
  refine a0q fun kA H5 hkA h5 e5 b5=>⟨by decide,seq ?_⟩;have e5':=e4'.trans e5;walk_at"";refine w0t hD w (hL.ext e5') hk (p0t ⟨clim,?_⟩);refine a0x (fun j=>(((((clo (gOf D) K').take j).filter fun p=>decide (0<p.1)&&decide (p.2=((gOf D).rt p.1).length)).map fun p=>p.1).map a0b)) rfl (trivial) (fun j x K2 hx hK2=>?_) ?_
  ·rw[gmp]at hx;obtain⟨⟨n,d⟩,hp,rfl⟩:=map_eq_some_iff.mp hx;obtain⟨hjl,hpj⟩:=gsm hp;have tk:(clo (gOf D) K').take (j+1)=(clo (gOf D) K').take j++[(n,d)]:=by rw[tsg hjl,hpj]
   obtain⟨p,hp',hpR,g1,g2,g3⟩:=q0f hD (items j _ hp).1;have plim:(p.2.map a0a.str).length≤LIM:=by rw[lmp];unfold LIM;omega
   have hrt:((gOf D).rt n).length=p.2.length:=by rw[g2,lmp]
   refine⟨[some (.ref g),some (.ref au),some (.ref ru),some (.ref st),some (.ref sy),some (.ref mo),some (a0b i),some (.ref a),some (.ref iA),some (.ref kA),x10,none,none,none,none,some (a0b n),some (a0b d),none],rfl,?_⟩;walk_at"";by_cases hn:0<n
   ·rw[if_pos (by omega)];refine d0n (e5' _ _ hru) (k0c hD) (j0m hD hp') (l1k hD (j1i plim ?_));walk_at"";rw[lmp];by_cases hd:d=p.2.length
    ·rw[if_pos (by omega)];simp only[if_true];refine hK2 _ _ ⟨rfl,?_⟩;rw[tk,filter_append,filter_cons,if_pos (by simp[hn,hd,hrt]),map_append,map_append];rfl
    ·rw[if_neg (by omega),if_neg (by decide)];refine hK2 _ _ ⟨rfl,?_⟩;rw[tk,filter_append,filter_cons,if_neg (by simp[hrt,hd])];simp
   ·rw[if_neg (by omega),if_neg (by decide)];refine hK2 _ _ ⟨rfl,?_⟩;rw[tk,filter_append,filter_cons,if_neg (by simp;omega)];simp
  rw[lmp,take_length];have eR:(((clo (gOf D) K').filter fun p=>decide (0<p.1)&&decide (p.2=((gOf D).rt p.1).length)).map fun p=>p.1)=j0o (gOf D) (clo (gOf D) K'):=by
   refine b0e ?_ (w0q _ _) fun n=>?_
   ·rw[pairwise_map];refine List.Pairwise.imp_of_mem (R:=ltI) (fun {u v} hu hv huv=>?_) (hC.sublist filter_sublist);rw[mem_filter,Bool.and_eq_true,decide_eq_true_eq,decide_eq_true_eq]at hu hv;rcases huv with h | ⟨h,h'⟩
    ·exact h
    ·rw[hu.2.2,hv.2.2,h]at h';exact absurd h' (Nat.lt_irrefl _)
   ·rw[w0h,mem_map];constructor
    ·rintro⟨p,hp,rfl⟩;rw[mem_filter,Bool.and_eq_true,decide_eq_true_eq,decide_eq_true_eq]at hp;refine⟨(b0p p hp.1).1,by omega,?_⟩;rw[← hp.2.2];exact hp.1
    ·rintro⟨h1,h2,h3⟩;refine⟨(n,((gOf D).rt n).length),?_,rfl⟩;rw[mem_filter,Bool.and_eq_true,decide_eq_true_eq,decide_eq_true_eq];exact⟨h3,by omega,rfl⟩
  rw[eR];refine a0q fun wA H6 hwA h6 e6 b6=>⟨by decide,seq ?_⟩;have e6':=e5'.trans e6;have redl:=q0e W (clo (gOf D) K');have q1:=e6 _ _ (e5 _ _ (e4 _ _ (e3 _ _ s1)));have hPv:∀ p∈P,(gOf D).val p:=fun p hp=>b0p p ((z3 p).mp hp);have lenP:=c0b W z2 hPv;have eP:(P.map fun p=>a0b ((gOf D).num p))=(P.map fun p=>(gOf D).num p).map a0b:=by rw[map_map];rfl
  walk_at"";refine a0i q1 rfl ?_;refine j0j rfl ?_;walk_at"";rw[if_neg (by decide)];refine a0i q1 rfl (f0l (e6 _ _ (e5 _ _ (e4 _ _ (e3 _ _ z4)))) ?_);rw[eP];refine k0u (by rw[lmp];unfold LIM;omega) fun l2 c7 H7 hp2 hs2 hc7 h7 e7 b7=>?_;have hl2:l2=(clo (gOf D) K').map fun p=>(gOf D).num p:=by
   refine b0e (b0r hs2 ?_) hCs fun v=>?_
   ·rw[hp2.nodup_iff,nodup_iff_pairwise_ne,pairwise_map];exact List.Pairwise.imp_of_mem (R:=(·≠·)) (fun {u v} hu hv huv e=>huv (g0c _ (hPv u hu) (hPv v hv) e)) z2
   ·rw[hp2.mem_iff,mem_map,mem_map];constructor
    ·rintro⟨p,hp',e⟩;exact⟨p,(z3 p).mp hp',e⟩
    ·rintro⟨p,hp',e⟩;exact⟨p,(z3 p).mpr hp',e⟩
  clear hp2 hs2;subst hl2;refine neN h7 (e7 _ _ (e6 _ _ (e5 _ _ h4))) ?_;rw[decide_eq_true rfl];walk_at"";rw[if_neg (by decide)];refine a0i (e7 _ _ q1) rfl (j1k (l:=K'.map fun p=>a0b ((gOf D).num p)) (by rw[lmp];unfold LIM;omega) fun c8 H8 hc8 h8 e8 b8=>f0l (e8 _ _ (e7 _ _ (e6 _ _ h5))) ?_);rw[eKn];refine k0u (by rw[lmp];unfold LIM;omega) fun l3 c9 H9 hp3 hs3 hc9 h9 e9 b9=>?_;have hl3:l3=K'.map fun p=>(gOf D).num p:=b0e (b0r hs3 (hp3.nodup_iff.mpr (a0r hKs))) hKs fun x=>hp3.mem_iff;clear hp3 hs3;subst hl3;rw[eKn]at h8;refine neN (e9 _ _ h8) h9 ?_;rw[decide_eq_true rfl];walk_at"";rw[if_neg (by decide)];have e69:=(e7.trans e8).trans e9;refine a0i (e69 _ _ q1) rfl (b1j (e69 _ _ (e6 _ _ (e5 _ _ (e4 _ _ (e3 _ _ z1))))) (by rw[lmp];unfold LIM;omega) fun c10 H10 hc10 h10 e10 b10=>neN h10 (e10 _ _ (e69 _ _ h6)) ?_);rw[decide_eq_true rfl];walk_at"";rw[if_neg (by decide),if_neg (by decide)];have e610:=e69.trans e10;have eT:=e6'.trans e610;refine b0m (seq ?_);walk_at"";have q10:=e610 _ _ q1;have LT:=hL.ext eT;have GT:=hG.ext eT;have ylen:=w.i.g.len;have num:∀ (Q:a0d),Q (k1h y) H10→a0f (k+1) 34 [.ref g,o1c (gOf D) y] H10 Q:=fun Q hQ=>by
   clear hy s1 q1 q10;cases y with
   | none=>exact b1w W GT h1g.1 (fun z=>h1g.2 (q0a hD _ z)) hQ
   | some x=>
    obtain⟨c1,c2,c3⟩:=hKer;obtain⟨p,hp⟩:=exists_mem_of_ne_nil _ c1;exact m0h W GT (f0i W (W.rts _ _ (c3 p hp).2.2).1) hQ
  have neS:∀ (P:Bool→Prop),P false→h0w .ne (k1h y) (k1h y) H10 P:=fun P hP=>by
   clear hy s1 hKer q1 q10 num;cases y with
   | none=>exact hP
   | some x=>exact j0j rfl hP
  refine a0i q10 rfl (b0s GT.g rfl ?_);walk_at"";refine d0n LT.sy (by rw[lmp,ylen];exact w.bound W) (v:=o1c (gOf D) y) (by rw[gmp,hy];rfl) (num _ (neS _ ?_));walk_at"";rw[if_neg (by decide)];obtain⟨ra',row',epr,hra,hrow,hrd⟩:=e0p hD w LT hi;rw[hr]at hrow;cases hrow;have ekeys:(skv (h0r (gOf D) row)).map (·.1)=(row.map (·.1)).map fun x=>a0a.str (nmS (gOf D) x):=by
   unfold skv h0r;rw[map_map,map_map,map_map];rfl
  refine a0i q10 rfl (e0s hD w LT hra (b1d hrd (by decide) ?_));rw[ekeys];refine⟨by rw[lmp,lmp];unfold LIM;omega,?_⟩;refine a0x (fun j=>(row.take j).map fun q=>h0o ((q.1:Int),(q.2:Int))) rfl (hrd) (fun j x K2 hx hK2=>?_) ?_
  ·rw[gmp,gmp,Option.map_map]at hx;obtain⟨⟨xx,jj⟩,hp,rfl⟩:=map_eq_some_iff.mp hx;obtain⟨hjl,hpj⟩:=gsm hp;have hxm:=mog hp;have hxl:=w0s hD w hr hxm;refine⟨[some (.ref g),some (.ref au),some (.ref ru),some (.ref st),some (.ref sy),some (.ref mo),some (a0b i),some (.ref a),some (.ref iA),some (.ref kA),some (.ref wA),none,none,none,none,none,none,some (.str (nmS (gOf D) xx))],rfl,?_⟩;walk_at"";rw[if_pos trivial];refine b0s GT.g rfl ?_;walk_at"";refine m0h W GT (f0i W hxl) (e0s hD w LT hra (w0u hrd rfl (v:=a0b jj) ?_ ⟨by decide,hK2 _ _ ⟨rfl,?_⟩⟩))
   ·rw[d0h,c0m hD w hr hxl,a0z (a0r hasc) hxm];rfl
   ·rw[tsg hjl,hpj,map_append];rfl
  rw[lmp,lmp,take_length];refine a0q fun c11 H11 hc11 h11 e11 b11=>(Mac.i5_1 (row.map fun q=>((q.1:Int),(q.2:Int))) (by rw[h11,map_map];rfl) (by rw[lmp];unfold LIM;omega) ?_ (fun epd=>a0q fun c12 H12 hc12 h12 e12 b12=>?_))
  ·rw[map_map,nodup_iff_pairwise_ne,pairwise_map];have:=a0r hasc;rw[nodup_iff_pairwise_ne,pairwise_map]at this;exact this.imp fun {u v} huv e=>huv (by dsimp only[Function.comp]at e;omega)
  have ekv:((row.map fun q=>((q.1:Int),(q.2:Int))).map fun p=>(a0a.int p.1,a0a.int p.2))=nkv (row.map fun q=>(q.1,a0b q.2)):=by
   unfold nkv;rw[map_map,map_map];rfl
  rw[ekv]at h12;have eF:=e11.trans e12;have h12m:=eF _ _ (e610 _ _ (e6 _ _ (e5 _ _ (e4 _ _ (e3 _ _ s2)))));have kvl:(nkv (row.map fun q=>(q.1,a0b q.2))).length≤LIM:=by rw[g0a,lmp];unfold LIM;omega
  refine s1u h12m h12 kvl ?_ ?_
  ·unfold e0d nkv;rw[map_map,map_map,all_map,all_eq_true];exact fun U U=>rfl
  walk_at"";rw[if_neg (by decide),if_neg (by decide)];refine b0m (seq ?_);have q12:=eF _ _ q10;have eks:(nkv (row.map fun q=>(q.1,a0b q.2))).map (·.1)=(row.map (·.1)).map a0b:=by
   unfold nkv;rw[map_map,map_map,map_map];rfl
  walk_at"";refine a0i q12 rfl (n1b h12m (by decide) kvl fun c13 H13 hc13 h13 e13 b13=>a0i (e13 _ _ q12) rfl (u0y (e13 _ _ h12m) ?_));rw[eks]at h13 ⊢;refine k0u (by rw[lmp];unfold LIM;omega) fun l4 c14 H14 hp4 hs4 hc14 h14 e14 b14=>?_;have hl4:l4=row.map (·.1):=b0e (b0r hs4 (hp4.nodup_iff.mpr (a0r hasc))) hasc fun x=>hp4.mem_iff;clear hp4 hs4;subst hl4;refine neN (e14 _ _ h13) h14 ?_;rw[decide_eq_true rfl];walk_at"";rw[if_neg (by decide)];exact b0m (h0k (hK _ _ ⟨(eT.trans eF).trans (e13.trans e14),_,_,_,_,_,rfl⟩))
 ·obtain⟨e',x6,x7,x8,x9,x10,rfl⟩:=hI;refine d0s ?_;walk_at"";exact q H' e'
end
theorem m0k(ms:i0y):∀ (xs:List Nat) (i:Nat),(∃ r,c0y ms (some i) xs=some r∧(e0e ms i xs).length=xs.length+1∧(e0e ms i xs).getLast?=some r)∨(c0y ms (some i) xs=none∧(e0e ms i xs).length≤xs.length)
 | [],i=>.inl (Mac.i4_1 i rfl rfl rfl)
 | x::xs,i=>by
  have hw:c0y ms (some i) (x::xs)=c0y ms (go ms i x) xs:=rfl;unfold e0e;rw[hw];cases hg:go ms i x with
  | none=>
   rw[j0t];exact .inr ⟨rfl,by simp⟩
  | some j=>
   rcases m0k ms xs j with⟨r,h1,h2,h3⟩ | ⟨h1,h2⟩
   ·refine .inl (Mac.i4_1 r h1 (by simp[h2]) ?_);rw[List.getLast?_cons,h3];rfl
   ·exact .inr ⟨h1,by simp;omega⟩
theorem e1u{H:MH}{P:Bool→Prop}{x y:Bool}(h:x=y)(q:P true):h0w .eq (.bool x) (.bool y) H P:=by
 subst h;show P (x == x);rw[beq_self_eq_true];exact q
section
variable {D:List Pr}(hD:DOk D){H:MH}{g au sl st sy mo:Addr}{GD:GHd}{b:BS}{sa mv ra:List Addr}{Z:Addr→Prop}{k:Nat}{Q:a0d}(w:d0a (gOf D) b)(hG:GH H g (gOf D) GD)(hA:AH (gOf D) H g au b sl sa mv Z)(hL:LH D H b st sy mo ra)
include hD w hL hG hA
set_option tactic.hygienic true in
theorem c1s{o:Nat}(ho:o<b.ms.length){xs:List Nat}(hx20:xs.length≤20)(hxs:∀ x∈xs,x<(gOf D).nm.length){rA:Addr}(hr:H rA=some (.list ((xs.map (nmS (gOf D))).map .str)))(q:∀ H',Ext H H'→Q (.bool true) H'):a0f (k+5) 50 [.ref g,.ref au,.ref st,.ref mo,a0b o,.ref rA] H Q:=by
 have W:=b0t hD;have hlim:=w.lim W;refine a0c [some (.ref g),some (.ref au),some (.ref st),some (.ref mo),some (a0b o),some (.ref rA),none,none,none,none,none,none,none,none] rfl rfl (seq ?_);walk_at"";refine a0h (by simp[LIM]) fun wA H1 hwA h1 e1 b1=>⟨by decide,seq ?_⟩;have rest:∀ (H2:MH) (x7:Option a0a),Ext H H2→H2 wA=some (.list ((e0e b.ms o xs).map a0b))→
   wpB (gam (a0f (k+4))) (.cons (.asgT [8,9] (.tup (.cons (.comp (.meth (.var 0) 13 (.cons (.var 11) .nil)) (.one 11) .plain (.var 5) .nil) (.cons (.cmp .eq (.bi .len (.cons (.var 6) .nil)) (.bin .add (.bi .len (.cons (.var 5) .nil)) (.con (.int 1)))) .nil))))
 (.cons (.ifs (.or (.cons (.cmp .ne (.meth (.var 1) 6 (.cons (.var 4) (.cons (.var 8) .nil))) (.var 6)) (.cons (.cmp .ne (.meth (.var 1) 5 (.cons (.var 4) (.cons (.var 8) .nil))) (.ite (.var 9) (.sub (.var 6) (.neg (.con (.int 1)))) (.neg (.con (.int 1))))) .nil)))
 (.cons (.ret (.con (.bool false)))
 .nil)
 .nil)
 (.cons (.ifs (.cmp .gt (.var 4) (.con (.int 0)))
 (.cons (.ret (.con (.bool true)))
 .nil)
 .nil)
 (.cons (.asg 10 (.ite (.var 9) (.bi .sorted (.cons (.comp (.meth (.var 0) 15 (.cons (.var 12) (.cons (.var 13) .nil))) (.two 12 13) .plain (.sub (.var 2) (.sub (.var 6) (.neg (.con (.int 1))))) .nil) .nil)) (.list .nil)))
 (.cons (.ret (.and (.cons (.cmp .eq (.call 27 (.cons (.var 1) (.cons (.var 8) .nil))) (.var 9)) (.cons (.cmp .eq (.call 28 (.cons (.var 1) (.cons (.var 8) .nil))) (.var 10)) .nil))))
 .nil))))) [some (.ref g),some (.ref au),some (.ref st),some (.ref mo),some (a0b o),some (.ref rA),some (.ref wA),x7,none,none,none,none,none,none] H2 (u0o Q):=by
  intro H2 x7 e2 h2;have pl:(e0e b.ms o xs).length≤21:=by
   rcases m0k b.ms xs o with⟨U,U,h,U⟩ | ⟨U,h⟩ <;> omega
  have plim:((e0e b.ms o xs).map a0b).length≤LIM:=by rw[lmp];unfold LIM;omega
  have rlim:((xs.map (nmS (gOf D))).map a0a.str).length≤LIM:=by rw[lmp,lmp];unfold LIM;omega
  refine seq ?_;walk_at"";refine c0l (e2 _ _ hr) ⟨rlim,?_⟩;refine a0x (fun j=>(xs.take j).map a0b) rfl (e2 _ _ hr) (fun j x K2 hx hK2=>?_) ?_
  ·rw[gmp,gmp,Option.map_map]at hx;obtain⟨xx,hp,rfl⟩:=map_eq_some_iff.mp hx;obtain⟨hjl,hpj⟩:=gsm hp;refine⟨[some (.ref g),some (.ref au),some (.ref st),some (.ref mo),some (a0b o),some (.ref rA),some (.ref wA),x7,none,none,none,some (.str (nmS (gOf D) xx)),none,none],rfl,?_⟩;walk_at"";rw[if_pos trivial];refine b0s (hG.ext e2).g rfl ?_;walk_at"";refine m0h W (hG.ext e2) (f0i W (hxs xx (mog hp))) (hK2 _ _ ⟨rfl,?_⟩);rw[tsg hjl,hpj,map_append];rfl
  rw[lmp,lmp,take_length];refine a0q fun nA H4 hnA h4 e4 b4=>i0p (e4 _ _ h2) plim (i0p (e4 _ _ (e2 _ _ hr)) rlim ?_);rw[lmp,lmp,lmp];refine⟨by decide,f1z rfl (seq ?_)⟩;have e04:=e2.trans e4;have h4w:=e4 _ _ h2;have A4:=hA.ext e04;walk_at"";refine b0s A4.au rfl ?_;walk_at"";refine j1x W w A4 ho (Nat.le_trans hx20 (by decide)) h4 fun pA H5 hpA h5 e5=>neN h5 (e5 _ _ h4w) ?_;rw[decide_eq_true rfl];walk_at"";rw[if_neg (by decide)];have A5:=A4.ext e5;have h5n:=e5 _ _ h4;have h5w:=e5 _ _ h4w;refine b0s A5.au rfl ?_;walk_at"";refine k1y W w A5 ho h5n ?_;have e05:=e04.trans e5;have tail:∀ (iw:Bool) (H6:MH),iw=(c0y b.ms (some o) xs).isSome→Ext H5 H6→(∀ r,c0y b.ms (some o) xs=some r→(e0e b.ms o xs).getLast?=some r)→
    wpB (gam (a0f (k+4))) (.cons (.ifs (.cmp .gt (.var 4) (.con (.int 0)))
 (.cons (.ret (.con (.bool true)))
 .nil)
 .nil)
 (.cons (.asg 10 (.ite (.var 9) (.bi .sorted (.cons (.comp (.meth (.var 0) 15 (.cons (.var 12) (.cons (.var 13) .nil))) (.two 12 13) .plain (.sub (.var 2) (.sub (.var 6) (.neg (.con (.int 1))))) .nil) .nil)) (.list .nil)))
 (.cons (.ret (.and (.cons (.cmp .eq (.call 27 (.cons (.var 1) (.cons (.var 8) .nil))) (.var 9)) (.cons (.cmp .eq (.call 28 (.cons (.var 1) (.cons (.var 8) .nil))) (.var 10)) .nil))))
 .nil))) [some (.ref g),some (.ref au),some (.ref st),some (.ref mo),some (a0b o),some (.ref rA),some (.ref wA),x7,some (.ref nA),some (.bool iw),none,none,none,none] H6 (u0o Q):=by
   intro iw H6 hiw e6 hlast;have e06:=e05.trans e6;refine seq ?_;walk_at"";split
   ·refine c1q ?_;walk_at"";exact q H6 e06
   ·rename_i hpos;have ho0:o=0:=by omega
    subst ho0;refine b0m (seq ?_);have fin:∀ (l:List Nat) (dA:Addr) (H7:MH),Ext H6 H7→H7 dA=some (.list (l.map a0b))→l=p1q (gOf D) b (c0y b.ms (some 0) xs)→
      wpB (gam (a0f (k+4))) (.cons (.ret (.and (.cons (.cmp .eq (.call 27 (.cons (.var 1) (.cons (.var 8) .nil))) (.var 9)) (.cons (.cmp .eq (.call 28 (.cons (.var 1) (.cons (.var 8) .nil))) (.var 10)) .nil)))) .nil) [some (.ref g),some (.ref au),some (.ref st),some (.ref mo),some (a0b 0),some (.ref rA),some (.ref wA),x7,some (.ref nA),some (.bool iw),some (.ref dA),none,none,none] H7 (u0o Q):=by
     intro l dA H7 e7 h7 hl;have A7:=(A5.ext e6).ext e7;have h7n:=e7 _ _ (e6 _ _ h5n);refine d0s ?_;walk_at"";refine d1j W w A7 (by omega) h7n (e1u hiw.symm ?_);walk_at"";rw[if_pos trivial];refine g1d W w A7 (by omega) h7n fun vA H8 hvA h8 e8=>eqN h8 (e8 _ _ h7) ?_;rw[decide_eq_true hl.symm];walk_at"";rw[if_pos trivial];exact q H8 ((e06.trans e7).trans e8)
    walk_at"";cases hw:c0y b.ms (some 0) xs with
    | none=>
     rw[hw]at hiw fin;have hiw':iw=false:=hiw;subst hiw';rw[if_neg (by decide)];exact a0h (by decide) fun dA H7 hdA h7 e7 b7=>⟨by decide,fin [] dA H7 e7 h7 rfl⟩
    | some r=>
     rw[hw]at hiw fin;have hiw':iw=true:=hiw;subst hiw';rw[if_pos rfl];have hl:=hlast r hw;have hrl:r<b.ms.length:=by
      rcases eq_nil_or_concat xs with rfl | ⟨ys,x,rfl⟩
      ·cases hw;exact ho
      ·rw[concat_eq_append,g0e]at hw;cases hv:c0y b.ms (some 0) ys with
       | none=>rw[hv]at hw;cases hw
       | some c'=>rw[hv]at hw;exact a1u w hw
     obtain⟨K,hk⟩:∃ K,b.Ks[r]?=some K:=⟨_,geg (by rw[← w.e];exact hrl)⟩;have hC:=j0a (G:=gOf D) K;have hCl:=c0b W (e0b hC) b0p;have hCs:=h0n hC (b0p (G:=gOf D) (K:=K));refine e0v (e6 _ _ h5w) plim (v:=a0b r) (by rw[getLast?_map,hl];rfl) (w0t hD w (hL.ext e06) hk (p0t ⟨by rw[lmp];unfold LIM;omega,?_⟩));refine a0x (fun j=>((clo (gOf D) K).take j).map fun p=>a0b ((gOf D).num p)) rfl (trivial) (fun j x K2 hx hK2=>?_) ?_
     ·rw[gmp]at hx;obtain⟨⟨n,d⟩,hp,rfl⟩:=map_eq_some_iff.mp hx;obtain⟨hjl,hpj⟩:=gsm hp;refine⟨[some (.ref g),some (.ref au),some (.ref st),some (.ref mo),some (a0b 0),some (.ref rA),some (.ref wA),x7,some (.ref nA),some (.bool true),none,none,some (a0b n),some (a0b d)],rfl,?_⟩;walk_at"";rw[if_pos trivial];refine b0s (hG.ext e06).g rfl ?_;walk_at"";refine j0g W (hG.ext e06) (b0p _ (mog hp)).1 (hK2 _ _ ⟨rfl,?_⟩);rw[tsg hjl,hpj,map_append];rfl
     rw[lmp,take_length];have eC:((clo (gOf D) K).map fun p=>a0b ((gOf D).num p))=((clo (gOf D) K).map fun p=>(gOf D).num p).map a0b:=by rw[map_map];rfl
     refine a0q fun c1 H8 hc1 h8 e8 b8=>f0l h8 ?_;rw[eC];refine k0u (by rw[lmp];unfold LIM;omega) fun l1 iA H9 hp1 hs1 hiA h9 e9 b9=>⟨by decide,fin l1 iA H9 (e8.trans e9) h9 ?_⟩;unfold p1q;dsimp only;rw[hk];exact b0e (b0r hs1 (hp1.nodup_iff.mpr (a0r hCs))) hCs fun x=>hp1.mem_iff
  rcases m0k b.ms xs o with⟨r,q1,q2,q3⟩ | ⟨q1,q2⟩
  ·rw[q1];simp only[q0q];walk_at"";have hdec:decide (((e0e b.ms o xs).length:Int)=(xs.length:Int)+1)=true:=decide_eq_true (by omega);rw[if_pos (by omega)];refine e0v h5w plim (v:=a0b r) (by rw[getLast?_map,q3];rfl) ?_;refine j0j rfl ?_;walk_at"";rw[if_neg (by decide),if_neg (by decide)];rw[hdec]at *;exact b0m (tail true H5 (by rw[q1];rfl) (Ext.refl H5) fun r' e=>by rw[q1]at e;cases e;exact q3)
  ·rw[q1];simp only[q0q];walk_at"";have hdec:decide (((e0e b.ms o xs).length:Int)=(xs.length:Int)+1)=false:=decide_eq_false (by omega);rw[if_neg (by omega)];walk_at"";rw[if_neg (by decide),if_neg (by decide)];rw[hdec]at *;exact b0m (tail false H5 (by rw[q1];rfl) (Ext.refl H5) fun r' e=>by rw[q1]at e;cases e)
 walk_at"";have hrow:=hr;refine c0l (e1 _ _ hr) ?_;refine j0d (fun j m H'=>Ext H H'∧(∃ x7,m=[some (.ref g),some (.ref au),some (.ref st),some (.ref mo),some (a0b o),some (.ref rA),some (.ref wA),x7,none,none,none,none,none,none])∧∃ L r,L.length=j∧r<b.ms.length∧H' wA=some (.list ((L++[r]).map a0b))∧e0e b.ms o xs=L++e0e b.ms r (xs.drop j)) (fun U U U=>False)
  (fun m H'=>Ext H H'∧(∃ x7,m=[some (.ref g),some (.ref au),some (.ref st),some (.ref mo),some (a0b o),some (.ref rA),some (.ref wA),x7,none,none,none,none,none,none])∧H' wA=some (.list ((e0e b.ms o xs).map a0b))) (((xs.map (nmS (gOf D))).map .str)) 0 (fun j m H' hI=>hI.1 _ _ hr) (fun j m H' x K hx hI hK hZ U=>?_) (fun m H' hI=>?_) (fun m H' hI=>?_) (fun U U U h=>h.elim) _ _
  ⟨e1,⟨_,rfl⟩,[],o,rfl,ho,h1,rfl⟩
 ·rw[Nat.zero_add]at hI hK;obtain⟨e',⟨x7,rfl⟩,L,r,hL',hrl,hw',hp⟩:=hI;rw[gmp,gmp,Option.map_map]at hx;obtain⟨xx,hxx,rfl⟩:=map_eq_some_iff.mp hx;obtain⟨hjl,hxj⟩:=gsm hxx;have hxl:=hxs xx (mog hxx);have hdr:xs.drop j=xx::xs.drop (j+1):=by rw[drop_eq_getElem_cons hjl,hxj]
  have hll:((L++[r]).map a0b).length≤1000:=by rw[lmp,length_append,length_singleton];omega
  have hlast:((L++[r]).map a0b).getLast?=some (a0b r):=by rw[map_append];simp
  obtain⟨ra',row',epr,hra,hrow',hrd⟩:=e0p hD w (hL.ext e') hrl;have hgo:go b.ms r xx=row'.lookup xx:=by unfold go;rw[hrow'];rfl
  refine⟨[some (.ref g),some (.ref au),some (.ref st),some (.ref mo),some (a0b o),some (.ref rA),some (.ref wA),some (.str (nmS (gOf D) xx)),none,none,none,none,none,none],rfl,seq ?_⟩;walk_at"";refine e0v hw' (Nat.le_trans hll (by decide)) hlast (e0s hD w (hL.ext e') hra (inD hrd rfl ?_));rw[d0h,c0m hD w hrow' hxl];cases hg:row'.lookup xx with
  | none=>
   simp only[Option.map_none,isSome_none,Bool.not_false,if_true];refine seq ?_;walk_at"";refine hZ _ _ (Mac.i3_0 e' ⟨_,rfl⟩ ?_);rw[hp,hdr];unfold e0e;rw[hgo,hg];exact hw'
  | some r'=>
   simp only[map_some,isSome_some,Bool.not_true,Bool.false_eq_true,if_false];refine b0m (seq ?_);walk_at"";refine⟨a0p hw' (by decide),e0v hw' (Nat.le_trans hll (by decide)) hlast (e0s hD w (hL.ext e') hra (w0u hrd rfl (v:=a0b r') (by rw[d0h,c0m hD w hrow' hxl,hg];rfl) ?_))⟩;walk_at"";refine b0o hw' (Nat.lt_of_le_of_lt hll (by decide)) fun H2 h2 b2=>⟨rfl,b0m (hK _ _ ⟨e'.but hwA b2,⟨_,rfl⟩,L++[r],r',by simp[hL'],a1u w (hgo.trans hg),?_,?_⟩)⟩
   ·rw[h2,map_append (l₂:=[r'])];rfl
   ·rw[hp,hdr]
    conv=>lhs;unfold e0e
    rw[hgo,hg];simp
 ·rw[Nat.zero_add,lmp,lmp]at hI;obtain⟨e',⟨x7,rfl⟩,L,r,hL',hrl,hw',hp⟩:=hI;rw[drop_length]at hp;refine rest H' x7 e' ?_;rw[hw',hp];rfl
 ·obtain⟨e',⟨x7,rfl⟩,hw'⟩:=hI;exact rest H' x7 e' hw'
end
theorem LM.weaken{ms:i0y}{f lf:c0s}{t:Nat}{dn dn':Nat→Nat→Nat→Prop}(l:LM ms f t lf dn)(h:∀ a b c,dn' a b c→dn a b c):LM ms f t lf dn':=⟨l.len,l.kp,l.nw,fun s x g q hd e=>l.cov s x g q (h _ _ _ hd) e⟩
theorem e0r(H:MH):∀ f:c0s,f0q H (f.map c0e) (f.map c0e)
 | []=>rfl
 | none::f=>(Mac.i5_2 _ _ rfl rfl (e0r H f))
 | some p::f=>(Mac.i5_2 _ _ rfl ⟨_,rfl,i0b H p⟩ (e0r H f))
theorem i0h(f:c0s):(f.map c0e).all (a0v 8)=true:=by
 rw[all_map,all_eq_true];intro o U;cases o with
 | none=>rfl
 | some p=>
  show((p.map a0b).all (a0v 7))=true;rw[all_map,all_eq_true];exact fun U U=>rfl
theorem c1e{o o':Option (List Nat)}(h:c0e o=c0e o'):o=o':=by
 cases o with
 | none=>cases o' with
  | none=>rfl
  | some p=>cases h
 | some p=>cases o' with
  | none=>cases h
  | some p'=>
   unfold c0e at h;injection h with h;rw[s0b h]
theorem c1f{f f':c0s}(h:f.map c0e=f'.map c0e):f=f':=by
 induction f generalizing f' with
 | nil=>cases f' with
  | nil=>rfl
  | cons=>cases h
 | cons a l ih=>cases f' with
  | nil=>cases h
  | cons b l'=>
   rw[map_cons,map_cons,List.cons.injEq]at h;rw[c1e h.1,ih h.2]
noncomputable def atT(f:c0s)(t s:Nat):Bool:=match f[s]? with
 | some (some p)=>decide (p.length=t)
 | _=>false
theorem p0c{f:c0s}{t s:Nat}:atT f t s=true↔∃ p,f[s]?=some (some p)∧p.length=t:=by
 unfold atT;cases h:f[s]? with
 | none=>simp
 | some o=>clear h;cases o <;> simp
theorem n1d{H:MH}{P:Bool→Prop}{p p':List Nat}(q:P (lx p p')):h0w .lt (.tup (p.map a0b)) (.tup (p'.map a0b)) H P:=
 (Mac.i5_2 (p.map fun(n:Nat)=>(n:Int)) (p'.map fun(n:Nat)=>(n:Int)) (by rw[map_map];rfl) (by rw[map_map];rfl) (by rw[j1m];exact q))
section
variable {D:List Pr}(hD:DOk D){H:MH}{g au sl st sy mo:Addr}{GD:GHd}{b:BS}{sa mv ra:List Addr}{Z:Addr→Prop}{k:Nat}{Q:a0d}(w:d0a (gOf D) b)(hL:LH D H b st sy mo ra)
include hD w hL
theorem w0e{o:Nat}(ho:o<b.ms.length){nA:Addr}(hnA:H nA=some (.list ((a0g D).map .str)))(q:∀ (f:c0s) d H',d1r b.ms o f→H d=none→H' d=some (.list (f.map c0e))→Ext H H'→Q (.ref d) H'):a0f (k+1) 51 [.ref mo,.ref nA,a0b o] H Q:=by
 have W:=b0t hD;have hlim:=w.lim W;have mlen:(ra.map a0a.ref).length=b.ms.length:=by rw[lmp,hL.rl]
 have hnl:=m0e hD;have nlim:((a0g D).map a0a.str).length≤LIM:=by rw[lmp];unfold LIM;omega
 refine a0c [some (.ref mo),some (.ref nA),some (a0b o),none,none,none,none,none,none,none,none,none] rfl rfl (seq ?_);walk_at"";refine a0h (by simp[LIM]) fun c0 H1 hc0 h1 e1 b1=>i0p (e1 _ _ hL.mo) (by rw[mlen];omega) ?_;rw[mlen];refine q1v h1 (by omega) (by omega) fun f0 H2 hf0 h2 e2 b2=>⟨by decide,seq ?_⟩;rw[Int.toNat_natCast]at h2;walk_at"";refine⟨by decide,putL h2 (by rw[length_replicate];exact ho) (by rw[length_replicate];omega) fun H3 h3 b3=>seq ?_⟩;have h0f0:H f0=none:=e1.none hf0;have e3:Ext H H3:=(e1.trans e2).but h0f0 b3;have h3f:H3 f0=some (.list (((List.replicate b.ms.length none).set o (some [])).map c0e)):=by
  rw[h3,map_set,map_replicate];rfl
 walk_at"";refine i0p (e3 _ _ hL.mo) (by rw[mlen];omega) ?_;rw[mlen];refine⟨by omega,by omega,?_⟩;rw[Int.toNat_natCast];have plen:∀ (f:c0s),f.length=b.ms.length→(f.map c0e).length≤LIM:=fun f hf=>by rw[lmp,hf];omega
 refine j0d (fun t m H'=>∃ (fA:Addr) (f:c0s) (x4 x5 x6 x7 x8 x9:Option a0a),m=[some (.ref mo),some (.ref nA),some (a0b o),some (.ref fA),x4,x5,x6,x7,x8,x9,none,none]∧Ext H H'∧H fA=none∧H' fA=some (.list (f.map c0e))∧LI b.ms o f t∧e1o f+t+1≤b.ms.length) (fun U U U=>False)
  (fun m H'=>∃ (fA:Addr) (f:c0s) (x4 x5 x6 x7 x8 x9:Option a0a),m=[some (.ref mo),some (.ref nA),some (a0b o),some (.ref fA),x4,x5,x6,x7,x8,x9,none,none]∧Ext H H'∧H fA=none∧H' fA=some (.list (f.map c0e))∧d1r b.ms o f) _ 0 (fun U U U U=>trivial) (fun t m H' x K hx hI hK hZ U=>?_) (fun m H' hI=>?_) (fun m H' hI=>?_) (fun U U U h=>h.elim) _ _
  (Mac.i8_7 f0 _ none none none none none (Mac.i7_1 none rfl e3 h0f0 h3f (LI.init ho) (by have:=v0l b.ms.length o ho;omega)))
 ·rw[Nat.zero_add]at hI hK;obtain⟨fA,f,x4,x5,x6,x7,x8,x9,rfl,e',hfA0,hfA,I,hcnt⟩:=hI;obtain⟨htN,rfl⟩:=b0h hx;have flen:=I.len;refine⟨[some (.ref mo),some (.ref nA),some (a0b o),some (.ref fA),some (a0b t),x5,x6,x7,x8,x9,none,none],rfl,seq ?_⟩;walk_at"";refine b1j hfA (plen f flen) fun lA H4 hlA h4 e4 b4=>⟨by decide,seq ?_⟩;have e04:=e'.trans e4;have h0l:H lA=none:=e'.none hlA;have nfl:fA≠lA:=a0t hlA hfA;refine⟨_,e4 _ _ hfA,plen f flen,by rw[d0x];exact plen f flen,?_⟩;refine a0x (fun i=>((List.range i).filter fun s=>atT f t s).map a0b) rfl (e4 _ _ hfA) (fun i x K2 hx hK2=>?_) ?_
  ·obtain⟨v,hv,rfl⟩:=i0d _ _ _ _ hx;rw[Nat.zero_add];rw[gmp]at hv;clear hx;obtain⟨oi,hoi,rfl⟩:=map_eq_some_iff.mp hv;refine⟨[some (.ref mo),some (.ref nA),some (a0b o),some (.ref fA),some (a0b t),some (.ref lA),x6,x7,x8,x9,some (a0b i),some (c0e oi)],rfl,?_⟩;walk_at"";rw[y0c];rw[range_succ,filter_append]at hK2;clear hv hx;cases oi with
   | none=>
    refine hK2 _ _ ⟨rfl,?_⟩;rw[filter_cons,if_neg]
    ·simp
    ·rw[p0c];rintro⟨p,e,U⟩;rw[hoi]at e;cases e
   | some p=>
    have hp:=I.lt i p hoi;simp only[isSome_some,if_true];refine j1i (l:=p.map a0b) (by rw[lmp];omega) ?_;walk_at"";rw[lmp];by_cases hpt:p.length=t
    ·rw[if_pos (by omega)];refine hK2 _ _ ⟨rfl,?_⟩;rw[filter_cons,if_pos (p0c.mpr (Mac.i3_1 p hoi hpt)),map_append];rfl
    ·rw[if_neg (by omega)];refine hK2 _ _ ⟨rfl,?_⟩;rw[filter_cons,if_neg]
     ·simp
     ·rw[p0c];rintro⟨p',e,hp'⟩;rw[hoi]at e;cases e;exact hpt hp'
  rw[d0x,lmp,flen];generalize hS:((List.range b.ms.length).filter fun s=>atT f t s)=S;have hSm:∀ s,s∈S↔∃ p,f[s]?=some (some p)∧p.length=t:=fun s=>by
   rw[← hS,mem_filter,mem_range,p0c];exact⟨fun h=>h.2,fun h=>⟨by obtain⟨p,e,U⟩:=h;rw[← flen];exact(gsm e).1,h⟩⟩
  refine a0q fun sA H6 hsA h6 e6 b6=>c0l h6 ?_;have e06:=e04.trans e6;have nsl:sA≠lA:=(a0t hsA h4).symm;refine a0s (fun i m' H'=>∃ (lf:c0s) (x6 x7 x8 x9:Option a0a),m'=[some (.ref mo),some (.ref nA),some (a0b o),some (.ref fA),some (a0b t),some (.ref lA),x6,x7,x8,x9,none,none]∧Ext H H'∧H' sA=some (.list (S.map a0b))∧H' fA=some (.list (f.map c0e))∧H' lA=some (.list (lf.map c0e))∧
    LM b.ms f t lf (fun s x g=>s∈S.take i∧∃ r,b.ms[s]?=some r∧(x,g)∈r))
   (Mac.i8_5 f _ _ _ _ rfl e06 (Mac.i4_0 h6 (e6 _ _ (e4 _ _ hfA)) (e6 _ _ h4) ((LM.init I).weaken fun a b c h=>by simp at h))) (fun i m' H' hI=>by obtain⟨U,U,U,U,U,U,U,h,U⟩:=hI;exact h) (fun i m' H' x K2 hx hI hK2=>?_) fun m' H' hI=>?_
  ·obtain⟨lf,y6,y7,y8,y9,rfl,eI,hIs,hIf,hIl,l⟩:=hI;rw[gmp]at hx;obtain⟨s,hs,rfl⟩:=map_eq_some_iff.mp hx;obtain⟨hil,hsi⟩:=gsm hs;obtain⟨p,hp,hpt⟩:=(hSm s).mp (mog hs);have hsl:s<b.ms.length:=by rw[← flen];exact(gsm hp).1
   obtain⟨ra',row,epr,hra,hrow,hrd⟩:=e0p hD w (hL.ext eI) hsl;have hasc:=w.asc hrow;have tk:S.take (i+1)=S.take i++[s]:=by rw[tsg hil,hsi]
   have ekeys:(skv (h0r (gOf D) row)).map (·.1)=(row.map (·.1)).map fun x=>a0a.str (nmS (gOf D) x):=by
    unfold skv h0r;rw[map_map,map_map,map_map];rfl
   obtain⟨ep0,hrd0⟩:=hL.r s ra' row hra hrow;refine⟨[some (.ref mo),some (.ref nA),some (a0b o),some (.ref fA),some (a0b t),some (.ref lA),some (a0b s),y7,y8,y9,none,none],rfl,seq ?_⟩;walk_at"";refine e0s hD w (hL.ext eI) hra (b1d (eI _ _ hrd0) (by decide) ?_);rw[ekeys];refine a0s (fun j m' H'=>∃ (lf:c0s) (x7 x8 x9:Option a0a),m'=[some (.ref mo),some (.ref nA),some (a0b o),some (.ref fA),some (a0b t),some (.ref lA),some (a0b s),x7,x8,x9,none,none]∧Ext H H'∧H' sA=some (.list (S.map a0b))∧H' fA=some (.list (f.map c0e))∧H' lA=some (.list (lf.map c0e))∧
     LM b.ms f t lf (fun a x g=>(a∈S.take i∧∃ r,b.ms[a]?=some r∧(x,g)∈r)∨(a=s∧(x,g)∈row.take j)))
    (Mac.i8_4 lf _ _ _ rfl eI hIs (Mac.i3_0 hIf hIl (l.weaken fun a b c h=>by simpa using h))) (fun j m' H' hI=>by obtain⟨U,U,U,U,U,e,U⟩:=hI;exact e _ _ hrd0) (fun j m' H' x K3 hx hI hK3=>?_) fun m' H' hI=>?_
   ·obtain⟨lf,y7,y8,y9,rfl,eJ,hJs,hJf,hJl,l⟩:=hI;rw[gmp,gmp,Option.map_map]at hx;obtain⟨⟨xx,gg⟩,hq,rfl⟩:=map_eq_some_iff.mp hx;obtain⟨hjl,hqj⟩:=gsm hq;have hqm:=mog hq;have hgl:=w.lt hrow hqm;have hxl:=w0s hD w hrow hqm;have tj:row.take (j+1)=row.take j++[(xx,gg)]:=by rw[tsg hjl,hqj]
    have llen:lf.length=b.ms.length:=by rw[l.len,flen]
    obtain⟨of_,hof⟩:∃ z,f[gg]?=some z:=⟨_,geg (by rw[flen];exact hgl)⟩;obtain⟨ol,hol⟩:∃ z,lf[gg]?=some z:=⟨_,geg (by rw[llen];exact hgl)⟩;have dn_eq:∀ {lf':c0s},LM b.ms f t lf' (fun a x g=>((a∈S.take i∧∃ r,b.ms[a]?=some r∧(x,g)∈r)∨(a=s∧(x,g)∈row.take j))∨(a=s∧x=xx∧g=gg))→LM b.ms f t lf' (fun a x g=>(a∈S.take i∧∃ r,b.ms[a]?=some r∧(x,g)∈r)∨(a=s∧(x,g)∈row.take (j+1))):=fun h=>h.weaken fun a x g hz=>by
     rw[tj]at hz;clear hs hsi hp hsl hra hrow tk hK3 l h;rcases hz with hz | ⟨rfl,hz⟩
     ·exact .inl (.inl hz)
     ·rcases mem_append.mp hz with hz | hz
      ·exact .inl (.inr ⟨rfl,hz⟩)
      ·rw[mem_singleton]at hz;cases hz;exact .inr (Mac.i3_0 rfl rfl rfl)
    have hpl:=I.lt s p hp;have hpp:a0b t=a0b t:=rfl;have hget:c0q (skv (h0r (gOf D) row)) (.str (nmS (gOf D) xx))=some (a0b gg):=by
     rw[d0h,c0m hD w hrow hxl,a0z (a0r hasc) hqm];rfl
    have hidx:d1u (.str (nmS (gOf D) xx)) ((a0g D).map .str)=some xx:=c0i W.nd (f0i W hxl);refine⟨[some (.ref mo),some (.ref nA),some (a0b o),some (.ref fA),some (a0b t),some (.ref lA),some (a0b s),some (.str (nmS (gOf D) xx)),y8,y9,none,none],rfl,seq ?_⟩;walk_at"";refine d0n hJf (plen f flen) (d0k hp) ⟨a0p (eJ _ _ hnA) (by decide),v0y (eJ _ _ hnA) (W.so _ (mog (f0i W hxl))) (b0v W.so) nlim hidx ⟨by decide,?_⟩⟩;show(List.map a0b p).length+[a0b xx].length≤LIM∧_;refine⟨by rw[lmp,length_singleton];omega,e0s hD w (hL.ext eJ) hra (w0u (eJ _ _ hrd0) rfl hget ⟨by decide,f1z rfl (seq ?_)⟩)⟩;have eapp:(p.map a0b++[a0b xx])=(p++[xx]).map a0b:=by rw[map_append];rfl
    rw[eapp];walk_at"";refine d0n hJf (plen f flen) (d0k hof) ?_;rw[is_none];walk_at"";have skip:((∃ p,f[gg]?=some (some p))∨∃ p',lf[gg]?=some (some p')∧lx (p++[xx]) p'=false)→K3 .next [some (.ref mo),some (.ref nA),some (a0b o),some (.ref fA),some (a0b t),some (.ref lA),some (a0b s),some (.str (nmS (gOf D) xx)),some (.tup ((p++[xx]).map a0b)),some (a0b gg),none,none] H':=fun hz=>
     hK3 _ _ (Mac.i8_4 lf _ _ _ rfl eJ hJs (Mac.i3_0 hJf hJl (dn_eq (LM.skip I l hp hpt hz))))
    cases of_ with
    | some p'=>
     simp only[isNone_some,Bool.false_eq_true,if_false];exact b0m (h0k (skip (.inl ⟨p',hof⟩)))
    | none=>
     simp only[isNone_none,if_true];refine d0n hJl (by rw[lmp,llen];omega) (d0k hol) ?_;rw[is_none];have store:(lf[gg]?=some none∨∃ p',lf[gg]?=some (some p')∧lx (p++[xx]) p'=true)→wpB (gam (a0f k)) (.cons (.asgI (.var 5) (.var 9) (.var 8)) .nil) [some (.ref mo),some (.ref nA),some (a0b o),some (.ref fA),some (a0b t),some (.ref lA),some (a0b s),some (.str (nmS (gOf D) xx)),some (.tup ((p++[xx]).map a0b)),some (a0b gg),none,none] H' (nxt (gam (a0f k)) .nil K3):=fun hz=>by
      refine seq ?_;walk_at"";refine putL hJl (by rw[lmp,llen];exact hgl) (by rw[lmp,llen];omega) fun H8 h8 b8=>b0m (h0k (hK3 _ _ (Mac.i8_4 (lf.set gg (some (p++[xx]))) _ _ _ rfl (eJ.but h0l b8) (by rw[b8 sA nsl];exact hJs) (Mac.i3_0 (by rw[b8 fA nfl];exact hJf) (by rw[h8,map_set];rfl) (dn_eq (LM.set I l hp hpt hrow hqm hof hz))))))
     walk_at"";cases ol with
     | none=>
      simp only[isNone_none,if_true];exact store (.inl hol)
     | some p'=>
      simp only[isNone_some,Bool.false_eq_true,if_false];refine d0n hJl (by rw[lmp,llen];omega) (d0k hol) (n1d (p:=p++[xx]) (p':=p') ?_);walk_at"";cases hlx:lx (p++[xx]) p' with
      | true=>
       simp only[if_true];exact store (.inr ⟨p',hol,hlx⟩)
      | false=>
       simp only[Bool.false_eq_true,if_false];exact b0m (h0k (skip (.inr ⟨p',hol,hlx⟩)))
   ·obtain⟨lf,y7,y8,y9,rfl,eJ,hJs,hJf,hJl,l⟩:=hI;rw[lmp,lmp,take_length]at l;refine h0k (hK2 _ _ (Mac.i8_5 lf _ _ _ _ rfl eJ (Mac.i4_0 hJs hJf hJl (l.weaken fun a x g hz=>?_))));obtain⟨hz1,r,hz2,hz3⟩:=hz;rw[tk]at hz1;rcases mem_append.mp hz1 with hz1 | hz1
    ·exact .inl ⟨hz1,r,hz2,hz3⟩
    ·rw[mem_singleton]at hz1;clear hs hx hsi hp hsl hra tk;subst hz1;rw[hrow]at hz2;cases hz2;exact .inr ⟨rfl,hz3⟩
  ·obtain⟨lf,y6,y7,y8,y9,rfl,eI,hIs,hIf,hIl,l⟩:=hI;rw[lmp,take_length]at l;have full:∀ (s:Nat) q r x g,f[s]?=some (some q)→q.length=t→b.ms[s]?=some r→(x,g)∈r→(s∈S∧∃ r,b.ms[s]?=some r∧(x,g)∈r):=fun s q r x g a1 a2 a3 a4=>⟨(hSm s).mpr (Mac.i3_1 q a1 a2),r,a3,a4⟩;refine seq ?_;walk_at"";refine eqL hIl hIf (e0r H' lf) (e0r H' f) (i0h lf) (i0h f) fun r hr=>?_;walk_at"";by_cases hz:lf=f
   ·have:r=true:=hr.mpr (by rw[hz]);clear hr;subst this;rw[if_pos rfl];refine seq ?_;walk_at"";clear hfA hcnt flen h4 hSm;subst hz;exact hZ _ _ (Mac.i8_7 fA lf _ _ _ _ _ (Mac.i6_1 _ rfl eI hfA0 hIf (LM.stop I l full)))
   ·have:r=false:=by
     cases r with
     | false=>rfl
     | true=>exact absurd (c1f (hr.mp rfl)) hz
    clear hr;subst this;rw[if_neg (by decide)];refine b0m (seq ?_);walk_at"";refine⟨by decide,b0m (hK _ _ (Mac.i8_7 lA lf _ _ _ _ _ (Mac.i7_1 _ rfl eI h0l hIl (LM.next I l full) ?_)))⟩
    have:=(g1r f lf l.len l.kp).2 hz;omega
 ·rw[Nat.zero_add,lmp,length_range]at hI;obtain⟨fA,f,x4,x5,x6,x7,x8,x9,rfl,e',hfA0,hfA,I,hcnt⟩:=hI;omega
 ·obtain⟨fA,f,x4,x5,x6,x7,x8,x9,rfl,e',hfA0,hfA,hF⟩:=hI;refine d0s ?_;walk_at"";exact q f fA H' hF hfA0 hfA e'
theorem v0b{s c:Nat}(hs:s<b.ms.length)(hc:c≤10)(q:∀ d H',H d=none→H' d=some (.list ((c0k b.ms s c).map a0b))→Ext H H'→Q (.ref d) H'):a0f (k+1) 52 [.ref mo,a0b s,a0b c] H Q:=by
 have W:=b0t hD;have hlim:=w.lim W;have mlen:(ra.map a0a.ref).length=b.ms.length:=by rw[lmp,hL.rl]
 refine a0c [some (.ref mo),some (a0b s),some (a0b c),none,none,none,none] rfl rfl (seq ?_);walk_at"";refine a0h (by simp[LIM]) fun f0 H2 hf0 h2 e2 b2=>⟨by decide,seq ?_⟩;refine⟨by unfold LIM;omega,by unfold LIM;omega,?_⟩;rw[Int.toNat_natCast];refine a0s (fun i m H'=>Ext H H'∧∃ (f:Addr) (x4:Option a0a),m=[some (.ref mo),some (a0b s),some (a0b c),some (.ref f),x4,none,none]∧H f=none∧H' f=some (.list ((c0k b.ms s i).map a0b)))
  ⟨e2,f0,_,rfl,hf0,h2⟩ (fun U U U U=>trivial) (fun i m H' x K hx hI hK=>?_) fun m H' hI=>?_
 ·obtain⟨e',f,x4,rfl,hf0',hf⟩:=hI;obtain⟨hic,rfl⟩:=b0h hx;obtain⟨bl,bn⟩:=v0f hs i;refine⟨[some (.ref mo),some (a0b s),some (a0b c),some (.ref f),some (a0b i),none,none],rfl,seq ?_⟩;walk_at"";refine i0p (e' _ _ hL.mo) (by rw[mlen];omega) ?_;rw[mlen];refine⟨by omega,by omega,by rw[lmp,length_range,Int.toNat_natCast];omega,?_⟩;rw[Int.toNat_natCast];refine c0g (fun j H5 acc=>Ext H' H5∧acc=(((List.range j).filter fun p=>(b.ms[p]?.getD []).any fun q=>decide (q.2∈c0k b.ms s i)).map a0b)) ⟨Ext.refl H',rfl⟩ (fun U U U U=>trivial) (fun j H5 acc x K2 hx hI hK2=>?_) fun H5 acc hI=>?_
  ·obtain⟨e5,rfl⟩:=hI;obtain⟨hj,rfl⟩:=b0h hx;obtain⟨ra',row,epr,hra,hrow,hrd⟩:=e0p hD w (hL.ext (e'.trans e5)) hj;have evals:(skv (h0r (gOf D) row)).map (·.2)=(row.map (·.2)).map a0b:=by
    unfold skv h0r;rw[map_map,map_map,map_map];rfl
   have rowl:row.length≤20:=by
    obtain⟨K,U,e,U⟩:=w.row hrow;have:row.length=(row.map (·.1)).length:=by rw[lmp]
    rw[this,e];exact q0b W _
   refine⟨[some (.ref mo),some (a0b s),some (a0b c),some (.ref f),some (a0b i),some (a0b j),none],rfl,?_⟩;walk_at"";refine e0s hD w (hL.ext (e'.trans e5)) hra (Mac.i6_3 _ _ _ hrd (by decide) ?_);rw[evals];refine⟨by rw[lmp,lmp];unfold LIM;omega,?_⟩;refine a0x (fun t=>((((row.take t).filter fun q=>decide (q.2∈c0k b.ms s i)).map (·.2)).map a0b)) rfl (hrd) (fun t x K3 hx hK3=>?_) ?_
   ·rw[gmp,gmp,Option.map_map]at hx;obtain⟨⟨xx,gg⟩,hq,rfl⟩:=map_eq_some_iff.mp hx;obtain⟨htl,hqt⟩:=gsm hq;have tt:row.take (t+1)=row.take t++[(xx,gg)]:=by rw[tsg htl,hqt]
    have memN:a0b gg∈(c0k b.ms s i).map a0b↔gg∈c0k b.ms s i:=by
     rw[mem_map];exact⟨fun⟨u,hu,e⟩=>d0r e▸hu,fun h=>(Mac.i3_1 _ h rfl)⟩
    refine⟨[some (.ref mo),some (a0b s),some (a0b c),some (.ref f),some (a0b i),some (a0b j),some (a0b gg)],rfl,?_⟩;walk_at"";refine inL (e5 _ _ hf) rfl (a1s _) ?_;by_cases hm:gg∈c0k b.ms s i
    ·rw[g0v (memN.mpr hm),if_pos rfl,if_pos trivial];refine hK3 _ _ ⟨rfl,?_⟩;rw[tt,filter_append,filter_cons,if_pos (decide_eq_true hm),map_append,map_append];rfl
    ·rw[g0u (fun z=>hm (memN.mp z)),if_neg (by decide),if_neg (by decide)];refine hK3 _ _ ⟨rfl,?_⟩;rw[tt,filter_append,filter_cons,if_neg (by simpa using hm)];simp
   rw[lmp,lmp,take_length];refine a0q fun c1 H7 hc1 h7 e7 b7=>a0h (by decide) fun c2 H8 hc2 h8 e8 b8=>neN (l':=[]) (e8 _ _ h7) h8 ?_;have hany:(!decide ((row.filter fun q=>decide (q.2∈c0k b.ms s i)).map (·.2)=[]))=((b.ms[j]?.getD []).any fun q=>decide (q.2∈c0k b.ms s i)):=by
    rw[hrow];show _=row.any _;rw[Bool.eq_iff_iff,any_eq_true];constructor
    ·intro h;have h':¬ ((row.filter fun q=>decide (q.2∈c0k b.ms s i)).map (·.2)=[]):=by simpa using h
     rw[map_eq_nil_iff]at h';obtain⟨q,hq⟩:=exists_mem_of_ne_nil _ h';exact⟨q,(mem_filter.mp hq).1,(mem_filter.mp hq).2⟩
    ·rintro⟨q,h1,h2⟩;have hq:=(mem_filter (p:=fun q=>decide (q.2∈c0k b.ms s i))).mpr ⟨h1,h2⟩;have:¬ ((row.filter fun q=>decide (q.2∈c0k b.ms s i)).map (·.2)=[]):=by
      rw[map_eq_nil_iff];exact ne_nil_of_mem hq
     rw[decide_eq_false this];rfl
   rw[hany];walk_at"";have eo:=e5.trans (e7.trans e8);rw[range_succ,filter_append,filter_cons]at hK2;cases hz:((b.ms[j]?.getD []).any fun q=>decide (q.2∈c0k b.ms s i)) with
   | true=>
    rw[if_pos rfl,if_pos trivial];refine hK2 _ _ ⟨eo,?_⟩;rw[hz,if_pos rfl,map_append];rfl
   | false=>
    rw[if_neg (by decide),if_neg (by decide)];refine hK2 _ _ ⟨eo,?_⟩;rw[hz,if_neg (by decide)];simp
  ·obtain⟨e5,rfl⟩:=hI;rw[lmp,length_range];exact a0q fun c1 H7 hc1 h7 e7 b7=>⟨by decide,b0m (hK _ _ ⟨(e'.trans e5).trans e7,c1,_,rfl,(e'.trans e5).none hc1,h7⟩)⟩
 ·obtain⟨e',f,x4,rfl,hf0',hf⟩:=hI;rw[lmp,length_range]at hf;refine d0s ?_;exact q f H' hf0' hf e'
end
noncomputable def i0c:Nat→k0h→k0h
 | 0,b=>b
 | n+1,.cons _ r=>i0c n r
 | _+1,.nil=>.nil
noncomputable def f1a:k0h→o0r
 | .cons s _=>s
 | .nil=>.brk
noncomputable def p0q:o0r→k0h
 | .forr _ _ _ b=>b
 | _=>.nil
theorem c0r.ofPen{p a:Addr}{H H':MH}(e:c0r p H H')(hp:Pen H p){o:j0u}(h:H a=some o)(n:∀ x y:Int,o≠.list [.int x,.int y]):H' a=some o:=by
 refine e a o ?_ h;clear e;rintro rfl;obtain⟨x,y,z⟩:=hp;rw[h]at z;injection z with z;exact n x y z
theorem GH.extB{H H':MH}{g p:Addr}{G:PG}{D:GHd}(h:GH H g G D)(e:c0r p H H')(hp:Pen H p)(n:∀ x,x=D.nm∨x=D.rl∨x=D.bl∨x=D.of∨x=D.ow∨x∈D.bs→x≠p):GH H' g G D:=
 ⟨e.ofPen hp h.g (by intro U U z;cases z),e _ _ (n _ (.inl rfl)) h.nm,e _ _ (n _ (.inr (.inl rfl))) h.rl,h.rn,fun i a q=>(h.r i a q).imp fun U z=>e.ofPen hp z (by intro U U z;cases z),
  e _ _ (n _ (.inr (.inr (.inl rfl)))) h.bl,h.bn,fun s a q=>e _ _ (n _ (.inr (.inr (.inr (.inr (.inr (mog q))))))) (h.b s a q),e _ _ (n _ (.inr (.inr (.inr (.inl rfl))))) h.of,e _ _ (n _ (.inr (.inr (.inr (.inr (.inl rfl)))))) h.ow⟩
theorem AH.extB{G:PG}{H H':MH}{g au sl p:Addr}{b:BS}{sa mv:List Addr}{Z:Addr→Prop}(h:AH G H g au b sl sa mv Z)(e:c0r p H H')(hp:Pen H p)(hz:Z p)(hs:sl≠p):AH G H' g au b sl sa mv Z:=by
 refine⟨e.ofPen hp h.au (by intro U U z;cases z),e _ _ hs h.ls,h.ns,h.nm,fun i a m K y row q1 q2 q3 q4 q5=>?_⟩;have s:=h.s i a m K y row q1 q2 q3 q4 q5;obtain⟨it,rd,ep,s1,s2,U⟩:=id s;refine s.keep (fun o q=>?_) (fun o q=>?_) fun x l nz q=>?_
 ·rw[s1]at q;cases q;exact e.ofPen hp s1 (by intro U U z;cases z)
 ·rw[s2]at q;cases q;exact e.ofPen hp s2 (by intro U U z;cases z)
 ·exact e _ _ (by clear e hp hs;rintro rfl;exact nz hz) q
structure LW(D:List Pr)(GD:GHd)(b:BS)(g au sl st sy mo ru p:Addr)(sa mv ra:List Addr)(Z:Addr→Prop)(H:MH):Prop where
 pen:Pen H p
 gh:GH H g (gOf D) GD
 ah:AH (gOf D) H g au b sl sa mv Z
 lh:LH D H b st sy mo ra
 ru:H ru=some (.list ((a0u D).map prV))
 n1:∀ x,x=GD.nm∨x=GD.rl∨x=GD.bl∨x=GD.of∨x=GD.ow∨x∈GD.bs→x≠p
 n2:Z p
 n3:sl≠p
 n4:st≠p
 n5:sy≠p
 n6:mo≠p
theorem LW.extB{D:List Pr}{GD:GHd}{b:BS}{g au sl st sy mo ru p:Addr}{sa mv ra:List Addr}{Z:Addr→Prop}{H H':MH}(h:LW D GD b g au sl st sy mo ru p sa mv ra Z H)(e:c0r p H H')(hp:Pen H' p):LW D GD b g au sl st sy mo ru p sa mv ra Z H':=
 ⟨hp,h.gh.extB e h.pen h.n1,h.ah.extB e h.pen h.n2 h.n3,h.lh.extB e h.pen h.n4 h.n5 h.n6,e.ofPen h.pen h.ru (by intro U U z;injection z with z;injection z with z _;cases z),h.n1,h.n2,h.n3,h.n4,h.n5,h.n6⟩
theorem LW.ext{D:List Pr}{GD:GHd}{b:BS}{g au sl st sy mo ru p:Addr}{sa mv ra:List Addr}{Z:Addr→Prop}{H H':MH}(h:LW D GD b g au sl st sy mo ru p sa mv ra Z H)(e:Ext H H'):LW D GD b g au sl st sy mo ru p sa mv ra Z H':=h.extB (c0r.of e) (h.pen.ext e)
theorem l0y{row:List (Nat×Nat)}:(skv (h0r G row)).isEmpty=row.isEmpty:=by
 cases row <;> rfl
section
variable {D:List Pr}(hD:DOk D){H:MH}{g au sl st sy mo ru p dA:Addr}{x0:a0a}{GD:GHd}{b:BS}{sa mv ra:List Addr}{Z:Addr→Prop}(w:d0a (gOf D) b)(h:LW D GD b g au sl st sy mo ru p sa mv ra Z H)
include hD w h
theorem j1f{y9 y10 y11 y12 y13 y14 y15 y16 y17:Option a0a}:wpB (gam (a0f 23)) (i0c 13 n0r.body) [some x0,some (.ref p),some (.ref dA),some (.ref ru),some (.ref g),some (.ref au),some (.ref st),some (.ref sy),some (.ref mo),y9,y10,y11,y12,y13,y14,y15,y16,y17,none,none,none,none,none,none,none,none] H (u0o fun v U=>v=.bool true):=by
 have W:=b0t hD;have hlim:=w.lim W;have hN:sa.length=b.ms.length:=by rw[h.ah.ns,w.e]
 refine seq ?_;walk_at"";refine a0i h.ah.au rfl (Mac.i5_1 _ h.ah.ls (g0d W w h.ah) (by rw[d0x];exact g0d W w h.ah) ?_);refine c0g (fun i H' acc=>Ext H H'∧acc=((List.range i).filter fun i=>!f0s (j0o (gOf D) (clo (gOf D) (b.Ks[i]?.getD []))) (b.ms[i]?.getD [])).map a0b) ⟨Ext.refl H,rfl⟩ (fun i H' acc hI=>hI.1 _ _ h.ah.ls) (fun i H' acc x K hx hI hK=>?_) fun H' acc hI=>?_
 ·obtain⟨e',rfl⟩:=hI;obtain⟨v,hv,rfl⟩:=i0d _ _ _ _ hx;rw[Nat.zero_add];rw[gmp]at hv;clear hx;obtain⟨a,ha,rfl⟩:=map_eq_some_iff.mp hv;have hi:i<b.ms.length:=by rw[← hN];exact(gsm ha).1
  obtain⟨a',m,K',y,row,ha',hm,hk,hy,hr,s⟩:=(h.ah.ext e').at_ w hi;rw[ha]at ha';cases ha';obtain⟨it,rd,ep,s1,s2,s3⟩:=s;obtain⟨U,U,z1,U⟩:=s3 rfl;obtain⟨ra',row',epr,hra,hrow',hrd⟩:=e0p hD w (h.lh.ext e') hi;rw[hr]at hrow';cases hrow';have rl:=q0e W (clo (gOf D) K');have rowl:=j0p W w h.ah hr;rw[range_succ,filter_append]at hK;have hcond:(!f0s (j0o (gOf D) (clo (gOf D) (b.Ks[i]?.getD []))) (b.ms[i]?.getD []))=!f0s (j0o (gOf D) (clo (gOf D) K')) row:=by rw[hk,hr];rfl
  have yes:f0s (j0o (gOf D) (clo (gOf D) K')) row=false→∀ H2,Ext H' H2→K (((List.range i).filter fun i=>!f0s (j0o (gOf D) (clo (gOf D) (b.Ks[i]?.getD []))) (b.ms[i]?.getD [])).map a0b++[a0b i]) H2:=fun hz H2 e2=>hK _ _ ⟨e'.trans e2,by rw[filter_cons,if_pos (by rw[hcond,hz];rfl),map_append];rfl⟩;have no:f0s (j0o (gOf D) (clo (gOf D) K')) row=true→∀ H2,Ext H' H2→K (((List.range i).filter fun i=>!f0s (j0o (gOf D) (clo (gOf D) (b.Ks[i]?.getD []))) (b.ms[i]?.getD [])).map a0b) H2:=fun hz H2 e2=>hK _ _ ⟨e'.trans e2,by rw[filter_cons,if_neg (by rw[hcond,hz];decide),filter_nil,append_nil]⟩;refine⟨[some x0,some (.ref p),some (.ref dA),some (.ref ru),some (.ref g),some (.ref au),some (.ref st),some (.ref sy),some (.ref mo),y9,y10,y11,y12,y13,y14,y15,y16,y17,none,none,none,none,none,none,some (a0b i),some (.ref a)],rfl,?_⟩;generalize j0o (gOf D) (clo (gOf D) K')=R at *;walk_at"";refine a0i s1 rfl (i0p z1 (by rw[lmp];unfold LIM;omega) ?_);walk_at"";rw[lmp];by_cases h1:(1:Int)<(R.length:Int)
  ·rw[if_pos h1];refine yes ?_ _ (Ext.refl _);unfold f0s;clear s3 z1 rl hcond yes no;cases R with
   | nil=>simp at h1
   | cons u t=>
    have:¬ (u::t).length=1:=by omega
    rw[decide_eq_false this];rfl
  ·rw[if_neg h1];refine a0i s1 rfl (a0h (by decide) fun c1 H2 hc1 h2 e2 b2=>neN (l':=[]) (e2 _ _ z1) h2 ?_);walk_at"";by_cases hR:R=[]
   ·rw[decide_eq_true hR];exact no (by rw[hR];rfl) _ e2
   ·rw[decide_eq_false hR];refine e0s hD w (h.lh.ext (e'.trans e2)) hra ⟨⟨by decide,by decide⟩,a0q fun c2 H3 hc2 h3 e3 b3=>s1i (.inr rfl) (e3 _ _ (e2 _ _ hrd)) h3 ?_ ?_⟩
    ·unfold skv h0r;rw[lmp,lmp];omega
    walk_at"";rw[l0y];have hcb:f0s R row=row.isEmpty:=by
     unfold f0s;clear s3 z1 rl hcond yes no;cases R with
     | nil=>exact absurd rfl hR
     | cons u t=>
      have:(u::t).length=1:=by
       simp only[length_cons]at h1 ⊢;omega
      rw[decide_eq_true this];rfl
    cases hz:row.isEmpty with
    | true=>
     simp only[Bool.not_true,Bool.false_eq_true,if_false];exact no (hcb.trans hz) _ (e2.trans e3)
    | false=>
     simp only[Bool.not_false,if_true];exact yes (hcb.trans hz) _ (e2.trans e3)
 obtain⟨e',rfl⟩:=hI;rw[d0x,lmp,hN];generalize hL:((List.range b.ms.length).filter fun i=>!f0s (j0o (gOf D) (clo (gOf D) (b.Ks[i]?.getD []))) (b.ms[i]?.getD []))=L;refine a0q fun mA H1 hmA h1 e1 b1=>⟨by decide,d0s ?_⟩;walk_at"";have e01:=e'.trans e1;refine i0k W w (h.ah.ext e01) fun iA H2 hiA h2 e2=>eqN h2 (e2 _ _ h1) ?_;rw[decide_eq_true hL];walk_at"";simp only[if_true];refine b1l W w (h.ah.ext (e01.trans e2)) fun H3 e3=>?_;refine a0h (by decide) fun c2 H4 hc2 h4 e4 b4=>eqN (l':=[]) (e4 _ _ (e3 _ _ (e2 _ _ h1))) h4 ?_;walk_at"";have hbb:(L.isEmpty == decide (L=[]))=true:=by clear h1;cases L <;> rfl
 rw[hL,hbb];simp only[if_true]
omit h in
theorem x0z:∃ r0 j0 r1 j1,b.ms[0]?=some r0∧r0.lookup ((a0g D).idxOf ("S":Str))=some j0∧b.ms[j0]?=some r1∧r1.lookup ((a0g D).idxOf ("$end":Str))=some j1∧c0y b.ms (some 0) ((gOf D).rt 0)=some j1:=by
 have W:=b0t hD;have hrt:=(f0y (D:=D) (n:=0) (p:=("$accept",["S","$end"])) rfl).2;have n0:(gOf D).nxt (0,0)=some ((a0g D).idxOf ("S":Str)):=by unfold PG.nxt;rw[hrt];rfl
 have n1:(gOf D).nxt (0,1)=some ((a0g D).idxOf ("$end":Str)):=by unfold PG.nxt;rw[hrt];rfl
 have v0:∀ p∈[((0,0):a0n)],(gOf D).val p:=fun p hp=>by
  rw[mem_singleton]at hp;subst hp;exact⟨W.pos,Nat.zero_le _⟩
 have k0:=w.i.g.hd;have m0:0<b.ms.length:=by rw[w.e];exact(gsm k0).1
 obtain⟨r0,hr0⟩:∃ r,b.ms[0]?=some r:=⟨_,geg m0⟩;obtain⟨K0,hk0,hf0,hg0⟩:=w.row hr0;rw[k0]at hk0;cases hk0;have c0:((0,0):a0n)∈clo (gOf D) [(0,0)]:=(h0i v0).mpr (.base (mem_singleton.mpr rfl));have x0:(a0g D).idxOf ("S":Str)∈r0.map (·.1):=by
  rw[hf0];exact h0j.mpr ⟨(W.rts _ _ n0).1,_,c0,n0⟩
 obtain⟨⟨xs,j0⟩,hq0,e0⟩:=mem_map.mp x0;dsimp only at e0;subst e0;have l0:=a0z (a0r (w.asc hr0)) hq0;have kj:=hg0 _ _ hq0;obtain⟨r1,hr1⟩:∃ r,b.ms[j0]?=some r:=⟨_,geg (w.lt hr0 hq0)⟩;obtain⟨K1,hk1,hf1,hg1⟩:=w.row hr1;rw[kj]at hk1;clear hg1;cases hk1;have c1:((0,1):a0n)∈ovr (gOf D) (clo (gOf D) [(0,0)]) ((a0g D).idxOf ("S":Str)):=k0y.mpr ⟨c0,n0⟩;have c2:((0,1):a0n)∈clo (gOf D) (ovr (gOf D) (clo (gOf D) [(0,0)]) ((a0g D).idxOf ("S":Str))):=(h0i fun p hp=>(f0h.mp hp).1).mpr (.base c1);have x1:(a0g D).idxOf ("$end":Str)∈r1.map (·.1):=by
  rw[hf1];exact h0j.mpr ⟨(W.rts _ _ n1).1,_,c2,n1⟩
 obtain⟨⟨xe,j1⟩,hq1,e1⟩:=mem_map.mp x1;dsimp only at e1;subst e1;have l1:=a0z (a0r (w.asc hr1)) hq1;refine⟨r0,j0,r1,j1,hr0,l0,hr1,l1,?_⟩;rw[hrt];have g0:go b.ms 0 ((a0g D).idxOf ("S":Str))=some j0:=by unfold go;rw[hr0];exact l0
 have g1:go b.ms j0 ((a0g D).idxOf ("$end":Str))=some j1:=by unfold go;rw[hr1];exact l1
 show((some 0).bind fun i=>go b.ms i ((a0g D).idxOf ("S":Str))).bind (fun i=>go b.ms i ((a0g D).idxOf ("$end":Str)))=some j1;rw[show((some 0).bind fun i=>go b.ms i ((a0g D).idxOf ("S":Str)))=go b.ms 0 ((a0g D).idxOf ("S":Str)) from rfl,g0];exact g1
theorem m1z{y9 y10 y11 y12 y13 y14 y15 y16 y17:Option a0a}:wpB (gam (a0f 23)) (i0c 12 n0r.body) [some x0,some (.ref p),some (.ref dA),some (.ref ru),some (.ref g),some (.ref au),some (.ref st),some (.ref sy),some (.ref mo),y9,y10,y11,y12,y13,y14,y15,y16,y17,none,none,none,none,none,none,none,none] H (u0o fun v U=>v=.bool true):=by
 have W:=b0t hD;have hlim:=w.lim W;obtain⟨r0,j0,r1,j1,hr0,l0,hr1,l1,hw⟩:=x0z hD w;have m0:0<b.ms.length:=(gsm hr0).1;have hS:("S":Str)∈a0g D:=((b0j hD (p:=("$accept",["S","$end"])) (.head _)).2 _ (.head _)).1;have hE:("$end":Str)∈a0g D:=((b0j hD (p:=("$accept",["S","$end"])) (.head _)).2 _ (.tail _ (.head _))).1;have iS:=f0e hD hS;have iE:=f0e hD hE;obtain⟨ra0,r0',ep0,hra0,hr0',hrd0⟩:=e0p hD w h.lh m0;rw[hr0]at hr0';cases hr0';obtain⟨ra1,r1',ep1,hra1,hr1',hrd1⟩:=e0p hD w h.lh (gsm hr1).1;rw[hr1]at hr1';cases hr1';have q0:c0q (skv (h0r (gOf D) r0)) (.str "S")=some (a0b j0):=by
  have:=c0m hD w hr0 (x:=(a0g D).idxOf ("S":Str)) (gsm iS).1;rw[p0z hD hS,l0]at this;rw[d0h,this];rfl
 have q1:c0q (skv (h0r (gOf D) r1)) (.str "$end")=some (a0b j1):=by
  have:=c0m hD w hr1 (x:=(a0g D).idxOf ("$end":Str)) (gsm iE).1;rw[p0z hD hE,l1]at this;rw[d0h,this];rfl
 refine seq ?_;walk_at"";refine b0s h.ah.au rfl ?_;walk_at"";refine e1w W w h.ah h.gh m0 (e0s hD w h.lh (i:=0) hra0 (w0u hrd0 rfl q0 (e0s hD w h.lh hra1 (w0u hrd1 rfl q1 (j0j (by rw[hw];rfl) ?_)))));walk_at"";rw[if_neg (by decide)];refine b0s h.ah.au rfl ?_;walk_at"";refine a1g W w h.ah fun H1 e1=>?_;refine c0l (e1 _ _ h.lh.mo) ⟨by rw[lmp,h.lh.rl];omega,?_⟩;refine a0x (fun i=>(b.ms.take i).map fun r=>a0b r.length) rfl (e1 _ _ h.lh.mo) (fun i x K hx hK=>?_) ?_
 ·rw[gmp]at hx;obtain⟨a,ha,rfl⟩:=map_eq_some_iff.mp hx;have hi:i<b.ms.length:=by rw[← h.lh.rl];exact(gsm ha).1
  obtain⟨a',row,epr,ha',hr,hrd⟩:=e0p hD w (h.lh.ext e1) hi;rw[ha]at ha';cases ha';have rowl:=j0p W w h.ah hr;refine⟨[some x0,some (.ref p),some (.ref dA),some (.ref ru),some (.ref g),some (.ref au),some (.ref st),some (.ref sy),some (.ref mo),y9,y10,y11,y12,y13,y14,y15,y16,y17,none,none,none,none,none,some (.ref a),none,none],rfl,?_⟩;walk_at"";rw[if_pos trivial];have el:(skv (h0r (gOf D) row)).length=row.length:=by unfold skv h0r;rw[lmp,lmp]
  refine s1f hrd (by decide) (by rw[el];unfold LIM;omega) (hK _ _ ⟨rfl,?_⟩);rw[el];obtain⟨hil,e⟩:=gsm hr;rw[tsg hil,map_append,e];rfl
 rw[lmp,h.lh.rl,take_length];refine a0q fun c H2 hc h2 e2 b2=>?_;walk_at"";refine s1l (ns:=b.ms.map fun r=>(r.length:Int)) (by rw[h2,map_map];rfl) ?_;have e:(b.ms.map fun r=>(r.length:Int)).sum=(((b.ms.map List.length).sum:Nat):Int):=by
  have:∀ l:i0y,(l.map fun r=>(r.length:Int)).sum=(((l.map List.length).sum:Nat):Int):=by
   intro l
   induction l with
   | nil=>rfl
   | cons a l ih=>rw[map_cons,sum_cons,map_cons,sum_cons,ih];omega
  exact this b.ms
 rw[e];refine j0j rfl ?_;walk_at"";rw[if_neg (by decide),if_neg (by decide)];exact b0m (j1f hD w (h.ext (e1.trans e2)))
end
def s0v(H:MH)(f:Nat→List Nat)(fs:List Addr):Prop:=∀ (j:Nat) a,fs[j]?=some a→H a=some (.list ((f j).map a0b))
theorem s0v.ext{H H':MH}{f:Nat→List Nat}{fs:List Addr}(h:s0v H f fs)(e:Ext H H'):s0v H' f fs:=fun j a q=>e _ _ (h j a q)
theorem s0v.snoc{H:MH}{f:Nat→List Nat}{fs:List Addr}{d:Addr}(h:s0v H f fs)(hd:H d=some (.list ((f fs.length).map a0b))):s0v H f (fs++[d]):=fun j a q=>by
 rcases Nat.lt_or_ge j fs.length with l | l
 ·rw[getElem?_append_left l]at q;exact h j a q
 ·rw[getElem?_append_right l]at q;have:j=fs.length:=by
   have:=(gsm q).1;simp only[length_singleton]at this;omega
  subst this;rw[Nat.sub_self]at q;cases q;exact hd
theorem s0v.deep{H:MH}{f:Nat→List Nat}:∀ {fs:List Addr} (k:Nat),(∀ (j:Nat) a,fs[j]?=some a→H a=some (.list ((f (k+j)).map a0b)))→f0q H ((range' k fs.length).map fun j=>.frz ((f j).map a0b)) (fs.map .ref)
 | [],k,h=>rfl
 | a::fs,k,h=>by
  refine⟨.ref a,fs.map .ref,rfl,(Mac.i5_2 a _ rfl (h 0 a rfl) (i0b H _)),?_⟩;refine s0v.deep (k+1) fun j c q=>?_;rw[show k+1+j=k+(j+1) by omega];exact h (j+1) c (by rw[getElem?_cons_succ];exact q)
theorem r0n(f:Nat→List Nat)(l:List Nat):(l.map fun j=>a0a.frz ((f j).map a0b)).all (a0v 8)=true:=by
 rw[all_map,all_eq_true];intro j U;show((f j).map a0b).all (a0v 7)=true;rw[all_map,all_eq_true];exact fun U U=>rfl
theorem w0i{H:MH}{a b:Addr}{f f':Nat→List Nat}{fs gs:List Addr}{P:Bool→Prop}(ha:H a=some (.list (fs.map .ref)))(hb:H b=some (.list (gs.map .ref)))(l1:s0v H f fs)(l2:s0v H f' gs)(hl:fs.length=gs.length)(he:∀ j,j<fs.length→f j=f' j)(q:P false):h0w .ne (.ref a) (.ref b) H P:=by
 refine neL ha hb (s0v.deep 0 fun j c z=>by rw[Nat.zero_add];exact l1 j c z) (s0v.deep 0 fun j c z=>by rw[Nat.zero_add];exact l2 j c z) (r0n f _) (r0n f' _) fun r hr=>?_;have:r=true:=hr.mpr (by
  rw[← hl];refine map_congr_left fun j hj=>?_;have:=(mem_range'_1.mp hj).2;rw[he j (by omega)])
 clear hr;subst this;exact q
theorem y0a(o:Option (List Nat)):p0o (c0e o)=true:=by
 cases o with
 | none=>rfl
 | some p=>
  show((p.map a0b).all (a0v 7))=true;rw[all_map,all_eq_true];exact fun U U=>rfl
theorem j1p{H:MH}{o:Option (List Nat)}{P:Bool→Prop}(q:P false):h0w .ne (c0e o) (c0e o) H P:=by
 have f:=y0a o;cases o with
 | none=>exact⟨f,f,by simpa using q⟩
 | some p=>exact⟨f,f,by simpa using q⟩
theorem c1i(ms:i0y)(j:Nat):e0t ms ms.length j=c0k ms j 1:=by
 unfold e0t c0k z0m c0k;refine filter_congr fun s U=>?_;unfold toP
 congr 1
 funext q
 rw[Bool.eq_iff_iff];simp
section
variable {D:List Pr}(hD:DOk D){H:MH}{g au sl st sy mo ru p dA:Addr}{x0:a0a}{GD:GHd}{b:BS}{sa mv ra:List Addr}{Z:Addr→Prop}(w:d0a (gOf D) b)(h:LW D GD b g au sl st sy mo ru p sa mv ra Z H)
include hD w h
theorem m1y{y9 y10 y11 y12 y13 y14 y17:Option a0a}{s:Nat}(hs:s<b.ms.length){hs':List Addr}{hA:Addr}(hl:hs'.length=b.ms.length)(hhA:H hA=some (.list (hs'.map .ref)))(hh:s0v H (fun j=>c0k b.ms j 1) hs') :
  wpB (gam (a0f 23)) (i0c 11 n0r.body) [some x0,some (.ref p),some (.ref dA),some (.ref ru),some (.ref g),some (.ref au),some (.ref st),some (.ref sy),some (.ref mo),y9,y10,y11,y12,y13,y14,some (a0b s),some (.ref hA),y17,none,none,none,none,none,none,none,none] H (u0o fun v U=>v=.bool true):=by
 have W:=b0t hD;have hlim:=w.lim W;refine seq ?_;walk_at"";refine c1j W w h.ah fun fs d H1 hfs hd h1 h1f e1=>?_;refine w0i h1 (e1 _ _ hhA) (f:=fun j=>e0t b.ms b.ms.length j) h1f (hh.ext e1) (hfs.trans hl.symm) (fun j U=>c1i _ _) ?_;walk_at"";rw[if_neg (by decide)];refine⟨by decide,by decide,by decide,?_⟩;refine c0g (fun i H' acc=>Ext H1 H'∧∃ gs:List Addr,gs.length=i∧acc=gs.map .ref∧s0v H' (fun c=>c0k b.ms s c) gs) ⟨Ext.refl H1,[],rfl,rfl,fun j a q=>by cases q⟩ (fun U U U U=>trivial) (fun i H' acc x K hx hI hK=>?_) fun H2 acc hI=>?_
 ·obtain⟨e',gs,hgl,rfl,hg⟩:=hI;obtain⟨hi3,rfl⟩:=b0h (n:=3) hx;refine⟨[some x0,some (.ref p),some (.ref dA),some (.ref ru),some (.ref g),some (.ref au),some (.ref st),some (.ref sy),some (.ref mo),y9,y10,y11,y12,y13,y14,some (a0b s),some (.ref hA),y17,none,none,none,some (a0b i),none,none,none,none],rfl,?_⟩;walk_at"";rw[if_pos trivial];refine z0o W w (h.ah.ext (e1.trans e')) hs (by omega) fun d' H3 hd' h3 e3=>hK _ _ ⟨e'.trans e3,gs++[d'],by simp[hgl],by simp,(hg.ext e3).snoc (by rw[hgl];exact h3)⟩
 obtain⟨e2,gs,hgl,rfl,hg⟩:=hI;refine a0q fun bA H3 hbA h3 e3 b3=>?_;walk_at"";refine⟨by decide,by decide,by decide,?_⟩;have e13:=(e1.trans e2).trans e3;refine c0g (fun i H' acc=>Ext H3 H'∧∃ gs:List Addr,gs.length=i∧acc=gs.map .ref∧s0v H' (fun c=>c0k b.ms s c) gs) ⟨Ext.refl H3,[],rfl,rfl,fun j a q=>by cases q⟩ (fun U U U U=>trivial) (fun i H' acc x K hx hI hK=>?_) fun H4 acc hI=>?_
 ·obtain⟨e',gs',hgl',rfl,hg'⟩:=hI;obtain⟨hi3,rfl⟩:=b0h (n:=3) hx;refine⟨[some x0,some (.ref p),some (.ref dA),some (.ref ru),some (.ref g),some (.ref au),some (.ref st),some (.ref sy),some (.ref mo),y9,y10,y11,y12,y13,y14,some (a0b s),some (.ref hA),y17,none,none,none,none,some (a0b i),none,none,none],rfl,?_⟩;walk_at"";rw[if_pos trivial];refine v0b hD w (h.lh.ext (e13.trans e')) hs (by omega) fun d' H5 hd' h5 e5=>hK _ _ ⟨e'.trans e5,gs'++[d'],by simp[hgl'],by simp,(hg'.ext e5).snoc (by rw[hgl'];exact h5)⟩
 obtain⟨e4,gs',hgl',rfl,hg'⟩:=hI;refine a0q fun cA H5 hcA h5 e5 b5=>?_;refine w0i (e5 _ _ (e4 _ _ h3)) h5 ((hg.ext e3).ext (e4.trans e5)) (hg'.ext e5) (hgl.trans hgl'.symm) (fun j U=>rfl) ?_;walk_at"";rw[if_neg (by decide),if_neg (by decide)];exact b0m (m1z hD w (h.ext (e13.trans (e4.trans e5))))
theorem m1x{y9 y10 y11 y12 y13 y14 y16 y17:Option a0a}{s:Nat}(hs:s<b.ms.length) :
  wpB (gam (a0f 23)) (i0c 10 n0r.body) [some x0,some (.ref p),some (.ref dA),some (.ref ru),some (.ref g),some (.ref au),some (.ref st),some (.ref sy),some (.ref mo),y9,y10,y11,y12,y13,y14,some (a0b s),y16,y17,none,none,none,none,none,none,none,none] H (u0o fun v U=>v=.bool true):=by
 have W:=b0t hD;have hlim:=w.lim W;refine seq ?_;walk_at"";refine i0p h.lh.st (by rw[lmp];exact w.bound W) ?_;rw[lmp,←w.e];refine⟨by omega,by omega,by rw[lmp,length_range,Int.toNat_natCast];omega,?_⟩;rw[Int.toNat_natCast];refine c0g (fun i H' acc=>Ext H H'∧∃ gs:List Addr,gs.length=i∧acc=gs.map .ref∧s0v H' (fun j=>c0k b.ms j 1) gs) ⟨Ext.refl H,[],rfl,rfl,fun j a q=>by cases q⟩ (fun U U U U=>trivial) (fun i H' acc x K hx hI hK=>?_) fun H2 acc hI=>?_
 ·obtain⟨e',gs,hgl,rfl,hg⟩:=hI;obtain⟨hi,rfl⟩:=b0h hx;refine⟨[some x0,some (.ref p),some (.ref dA),some (.ref ru),some (.ref g),some (.ref au),some (.ref st),some (.ref sy),some (.ref mo),y9,y10,y11,y12,y13,y14,some (a0b s),y16,y17,none,none,some (a0b i),none,none,none,none,none],rfl,?_⟩;walk_at"";rw[if_pos trivial];refine v0b hD w (h.lh.ext e') (c:=1) hi (by omega) fun d' H5 hd' h5 e5=>hK _ _ ⟨e'.trans e5,gs++[d'],by simp[hgl],by simp,(hg.ext e5).snoc (by rw[hgl];exact h5)⟩
 obtain⟨e2,gs,hgl,rfl,hg⟩:=hI;rw[lmp,length_range]at hgl;exact a0q fun hA H3 hhA h3 e3 b3=>⟨by decide,m1y hD w (h.ext (e2.trans e3)) hs hgl h3 (hg.ext e3)⟩
theorem q1t{y9 y11 y12 y13 y14 y16 y17:Option a0a}{o s:Nat}(ho:o<b.ms.length)(hs:s<b.ms.length) :
  wpB (gam (a0f 23)) (i0c 9 n0r.body) [some x0,some (.ref p),some (.ref dA),some (.ref ru),some (.ref g),some (.ref au),some (.ref st),some (.ref sy),some (.ref mo),y9,some (a0b o),y11,y12,y13,y14,some (a0b s),y16,y17,none,none,none,none,none,none,none,none] H (u0o fun v U=>v=.bool true):=by
 have W:=b0t hD;have hlim:=w.lim W;have m0:0<b.ms.length:=by omega
 refine seq ?_;walk_at"";refine w0o W w h.ah ho fun f d H1 hf hd h1 e1=>a0i (e1 _ _ h.gh.g) rfl ?_;walk_at"";refine w0e hD w (h.lh.ext e1) ho (e1 _ _ h.gh.nm) fun f' d' H2 hf' hd' h2 e2=>?_;have ef:=o0b hf hf';clear hf';subst ef;refine neL (e2 _ _ h1) h2 (e0r H2 f) (e0r H2 f) (i0h f) (i0h f) fun r hr=>?_;have hr':r=true:=hr.mpr rfl;clear hr;subst hr';walk_at"";rw[if_neg (by decide)];have e02:=e1.trans e2;refine u0u W w (h.ah.ext e02) hs fun f3 o3 H3 hf3 ho3 e3=>a0i (e3 _ _ (e02 _ _ h.gh.g)) rfl ?_;have e03:=e02.trans e3;walk_at"";refine w0e hD w (h.lh.ext e03) (o:=0) m0 (e03 _ _ h.gh.nm) fun f4 d4 H4 hf4 hd4 h4 e4=>?_;have ef:=o0b hf3 hf4;clear hf4;subst ef;refine d0n h4 (by rw[lmp,hf3.len];omega) (d0k ho3) (j1p ?_);walk_at"";rw[if_neg (by decide),if_neg (by decide)];exact b0m (m1x hD w (h.ext (e03.trans e4)) hs)
theorem q1s{y9 y10 y11 y12 y13 y14 y15 y16 y17:Option a0a} :
  wpB (gam (a0f 23)) (i0c 8 n0r.body) [some x0,some (.ref p),some (.ref dA),some (.ref ru),some (.ref g),some (.ref au),some (.ref st),some (.ref sy),some (.ref mo),y9,y10,y11,y12,y13,y14,y15,y16,y17,none,none,none,none,none,none,none,none] H (u0o fun v U=>v=.bool true):=by
 have W:=b0t hD;have hlim:=w.lim W;have m0:0<b.ms.length:=by rw[w.e];exact(gsm w.i.g.hd).1
 have bl:b.Ks.length≤LIM:=w.bound W;refine seq ?_;walk_at"";refine i0p h.lh.st (by rw[lmp];exact bl) ?_;rw[lmp,←w.e];refine n0j h.pen (by omega) (by unfold LIM at hlim;lia) fun o H1 ho hp1 b1=>?_;have h1:=h.extB (c0r.but b1) hp1;refine i0p h1.lh.st (by rw[lmp];exact bl) ?_;rw[lmp,←w.e];refine n0j h1.pen (by omega) (by unfold LIM at hlim;lia) fun s H2 hs hp2 b2=>?_;have h2:=h1.extB (c0r.but b2) hp2;walk_at"";exact⟨by decide,f1z rfl (q1t hD w h2 (by omega) (by omega))⟩
end
section
variable {D:List Pr}(hD:DOk D){H:MH}{g au sl st sy mo ru p dA:Addr}{x0:a0a}{GD:GHd}{b:BS}{sa mv ra:List Addr}{Z:Addr→Prop}(w:d0a (gOf D) b)(h:LW D GD b g au sl st sy mo ru p sa mv ra Z H)
include hD w h
theorem q1r{y9 y10 y11 y12 y13 y14 y15 y16 y17:Option a0a} :
  wpB (gam (a0f 23)) (i0c 7 n0r.body) [some x0,some (.ref p),some (.ref dA),some (.ref ru),some (.ref g),some (.ref au),some (.ref st),some (.ref sy),some (.ref mo),y9,y10,y11,y12,y13,y14,y15,y16,y17,none,none,none,none,none,none,none,none] H (u0o fun v U=>v=.bool true):=by
 have W:=b0t hD;have hlim:=w.lim W;have m0:0<b.ms.length:=by rw[w.e];exact(gsm w.i.g.hd).1
 have bl:b.Ks.length≤LIM:=w.bound W;have hnl:=m0e hD;have hnp:0<(a0g D).length:=by
  have:("S":Str)∈a0g D:=((b0j hD (p:=("$accept",["S","$end"])) (.head _)).2 _ (.head _)).1;exact length_pos_of_mem this
 refine seq ?_;refine⟨by decide,by decide,?_⟩;refine a0s (fun i m H'=>LW D GD b g au sl st sy mo ru p sa mv ra Z H'∧∃ z9 z10 z11 z12 z13 z14,m=[some x0,some (.ref p),some (.ref dA),some (.ref ru),some (.ref g),some (.ref au),some (.ref st),some (.ref sy),some (.ref mo),z9,z10,z11,z12,z13,z14,y15,y16,y17,none,none,none,none,none,none,none,none])
  ⟨h,_,_,_,_,_,_,rfl⟩ (fun U U U U=>trivial) (fun t m H' x K hx hI hK=>?_) fun m H' hI=>?_
 ·obtain⟨h',z9,z10,z11,z12,z13,z14,rfl⟩:=hI;obtain⟨ht,rfl⟩:=b0h (n:=3) hx;refine⟨[some x0,some (.ref p),some (.ref dA),some (.ref ru),some (.ref g),some (.ref au),some (.ref st),some (.ref sy),some (.ref mo),some (a0b t),z10,z11,z12,z13,z14,y15,y16,y17,none,none,none,none,none,none,none,none],rfl,seq ?_⟩;walk_at"";refine i0p h'.lh.st (by rw[lmp];exact bl) ?_;rw[lmp,←w.e];refine n0j h'.pen (by omega) (by unfold LIM at hlim;lia) fun d H1 hd hp1 b1=>?_;have h1:=h'.extB (c0r.but b1) hp1;refine a0h (by simp[LIM]) fun lA H2 hlA h2 e2 b2=>?_;have h2':=h1.ext e2;obtain⟨o,ho,hto⟩:∃ o,o<b.ms.length∧([.int 0,.int 0,a0b d]:List a0a)[t]?=some (a0b o):=by
   match t,ht with
   | 0,_=>exact⟨0,m0,rfl⟩
   | 1,_=>exact⟨0,m0,rfl⟩
   | 2,_=>exact⟨d,by omega,rfl⟩
  refine d0n h2 (by simp[LIM]) hto ?_;refine a0h (by decide) fun rA H3 hrA h3 e3 b3=>?_;have h3':=h2'.ext e3;have hrp:rA≠p:=by
   clear h hK h' hp1 b1 h1 h3';rintro rfl;obtain⟨U,U,z⟩:=h2'.pen;rw[hrA]at z;cases z
  walk_at"";refine⟨by decide,f1z rfl (seq ?_)⟩;walk_at"";refine⟨by decide,seq ?_⟩;refine n0j h3'.pen (by decide) (by decide) fun cnt H4 hcnt hp4 b4=>?_;refine⟨by unfold LIM;omega,by unfold LIM;omega,?_⟩;rw[Int.toNat_natCast];have x34:c0r p H2 H4:=(c0r.of e3).trans (c0r.but b4);refine a0s (fun i m H'=>c0r p H2 H'∧Pen H' p∧∃ (s:Nat) (xs:List Nat) (z13 z14:Option a0a),m=[some x0,some (.ref p),some (.ref dA),some (.ref ru),some (.ref g),some (.ref au),some (.ref st),some (.ref sy),some (.ref mo),some (a0b t),some (a0b o),some (.ref rA),some (a0b s),z13,z14,y15,y16,y17,none,none,none,none,none,none,none,none]∧
    s<b.ms.length∧xs.length=i∧(∀ x∈xs,x<(gOf D).nm.length)∧H' rA=some (.list ((xs.map (nmS (gOf D))).map .str)))
   ⟨x34,hp4,o,[],_,_,rfl,ho,rfl,(by intro U q;cases q),(b4 rA hrp).trans h3⟩ (fun U U U U=>trivial) (fun i m H' x K2 hx hI hK2=>?_) fun m H' hI=>?_
  ·obtain⟨x5,hp5,s,xs,z13',z14',rfl,hs,hxl,hxs,hr5⟩:=hI;obtain⟨hi,rfl⟩:=b0h hx;have h5:=h2'.extB x5 hp5;refine⟨[some x0,some (.ref p),some (.ref dA),some (.ref ru),some (.ref g),some (.ref au),some (.ref st),some (.ref sy),some (.ref mo),some (a0b t),some (a0b o),some (.ref rA),some (a0b s),some (a0b i),z14',y15,y16,y17,none,none,none,none,none,none,none,none],rfl,seq ?_⟩;have rest:∀ (cA:Addr) (l:List a0a) (H6:MH),c0r p H2 H6→Pen H6 p→H6 rA=some (.list ((xs.map (nmS (gOf D))).map .str))→H6 cA=some (.list l)→cA≠p→0<l.length→l.length≤LIM→(∀ v∈l,∃ x,x<(gOf D).nm.length∧v=.str (nmS (gOf D) x))→
     wpB (gam (a0f 23)) (i0c 1 (p0q (f1a (i0c 2 (p0q (f1a (i0c 7 n0r.body))))))) [some x0,some (.ref p),some (.ref dA),some (.ref ru),some (.ref g),some (.ref au),some (.ref st),some (.ref sy),some (.ref mo),some (a0b t),some (a0b o),some (.ref rA),some (a0b s),some (a0b i),some (.ref cA),y15,y16,y17,none,none,none,none,none,none,none,none] H6 K2:=by
    intro cA l H6 x6 hp6 hr6 hc6 hcp hl1 hl2 hall;refine seq ?_;walk_at"";refine⟨a0p hr6 (by decide),u0n hp6 hc6 hcp hl1 hl2 fun v H7 hv hp7 b7=>?_⟩;obtain⟨xx,hxx,rfl⟩:=hall v hv;have hr7:=(b7 rA hrp).trans hr6;refine b0o hr7 (by rw[lmp,lmp];unfold LIM;omega) fun H8 h8 b8=>⟨rfl,seq ?_⟩;have x8:c0r p H2 H8:=(x6.trans (c0r.but b7)).own hrA b8;have hp8:Pen H8 p:=hp7.but b8 (Ne.symm hrp);have h8':=h2'.extB x8 hp8;obtain⟨ra',row,epr,hra,hrow,hrd⟩:=e0p hD w h8'.lh hs;walk_at"";refine e0s hD w h8'.lh hra ⟨z0t hrd,e0v h8 (by simp only[length_append,lmp,length_singleton];unfold LIM;omega) (v:=.str (nmS (gOf D) xx)) (by simp) (s1b hrd (by decide) rfl ?_)⟩;rw[d0h,c0m hD w hrow hxx];have fin:∀ s':Nat,s'<b.ms.length→K2 .next [some x0,some (.ref p),some (.ref dA),some (.ref ru),some (.ref g),some (.ref au),some (.ref st),some (.ref sy),some (.ref mo),some (a0b t),some (a0b o),some (.ref rA),some (a0b s'),some (a0b i),some (.ref cA),y15,y16,y17,none,none,none,none,none,none,none,none] H8:=fun s' hs'=>
     hK2 _ _ ⟨x8,hp8,s',xs++[xx],_,_,rfl,hs',by simp[hxl],fun x hx=>by
      rcases mem_append.mp hx with hx | hx
      ·exact hxs x hx
      ·rw[mem_singleton]at hx;clear hv h8;subst hx;exact hxx,by rw[h8,map_append,map_append];rfl⟩
    cases hlk:row.lookup xx with
    | none=>exact⟨by decide,b0m (fin s hs)⟩
    | some j=>exact⟨by decide,b0m (fin j (w.lt hrow (h0g hlk)))⟩
   have useNames:∀ H6,c0r p H2 H6→Pen H6 p→H6 rA=some (.list ((xs.map (nmS (gOf D))).map .str))→
     z0k (.ref g) 17 H6 (fun v H1=>14<26∧(wpB (gam (a0f 23)) (i0c 1 (p0q (f1a (i0c 2 (p0q (f1a (i0c 7 n0r.body))))))) [some x0,some (.ref p),some (.ref dA),some (.ref ru),some (.ref g),some (.ref au),some (.ref st),some (.ref sy),some (.ref mo),some (a0b t),some (a0b o),some (.ref rA),some (a0b s),some (a0b i),some v,y15,y16,y17,none,none,none,none,none,none,none,none] H1 K2)):=by
    intro H6 x6 hp6 hr6;have h6:=h2'.extB x6 hp6;refine a0i h6.gh.g rfl ⟨by decide,rest GD.nm _ H6 x6 hp6 hr6 h6.gh.nm (h6.n1 _ (.inl rfl)) (by rw[lmp];exact hnp) (by rw[lmp];exact Nat.le_trans hnl (by decide)) fun v hv=>?_⟩;obtain⟨s',hs',rfl⟩:=mem_map.mp hv;have hs'':s'∈a0g D:=hs';exact⟨(a0g D).idxOf s',idxOf_lt_length_of_mem hs'',by rw[p0z hD hs'']⟩
   walk_at"";refine n0j hp5 (by decide) (by decide) fun d6 H6 hd6 hp6 b6=>?_;have x6:c0r p H2 H6:=x5.trans (c0r.but b6);have h6:=h2'.extB x6 hp6;have hr6:=(b6 rA hrp).trans hr5;walk_at"";by_cases hz:(0:Int)<(d6:Int)
   ·rw[if_pos hz,if_pos (by omega)];obtain⟨ra',row,epr,hra,hrow,hrd⟩:=e0p hD w h6.lh hs;have rowl:=j0p W w h6.ah hrow;have el:(skv (h0r (gOf D) row)).length=row.length:=by unfold skv h0r;rw[lmp,lmp]
    refine e0s hD w h6.lh hra ⟨⟨by decide,by decide⟩,a0q fun cA H7 hcA h7 e7 b7=>s1i (.inr rfl) (e7 _ _ hrd) h7 (by rw[el];unfold LIM;omega) ?_⟩;walk_at"";rw[l0y];have x7:c0r p H2 H7:=x6.trans (c0r.of e7);have hp7:=hp6.ext e7;have hr7:=e7 _ _ hr6;cases hre:row.isEmpty with
    | true=>
     simp only[Bool.not_true,Bool.false_eq_true,if_false];exact useNames H7 x7 hp7 hr7
    | false=>
     simp only[Bool.not_false,if_true];have h7':=h2'.extB x7 hp7;refine e0s hD w h7'.lh hra (n1b (e7 _ _ hrd) (by decide) (by rw[el];unfold LIM;omega) fun kA H8 hkA h8 e8 b8=>?_);have ekeys:(skv (h0r (gOf D) row)).map (·.1)=(row.map (·.1)).map fun x=>a0a.str (nmS (gOf D) x):=by
      unfold skv h0r;rw[map_map,map_map,map_map];rfl
     refine⟨by decide,rest kA _ H8 (x7.trans (c0r.of e8)) (hp7.ext e8) (e8 _ _ hr7) h8 (by
      clear h hK h' hp1 b1 h1 h2' h3' hrp hp4 b4 x34 hK2 x5 hp5 h5 rest useNames hp6 b6 x6 h6 x7 h7';rintro rfl;obtain⟨U,U,z⟩:=hp7;rw[hkA]at z;cases z) (by
      rw[lmp,el];clear hrow hrd rowl el h8 ekeys;cases row with
      | nil=>cases hre
      | cons=>exact Nat.succ_pos _) (by rw[lmp,el];unfold LIM;omega) fun v hv=>?_⟩
     rw[ekeys,map_map]at hv;obtain⟨q,hq,rfl⟩:=mem_map.mp hv;exact⟨q.1,w0s hD w hrow (x:=q.1) (j:=q.2) hq,rfl⟩
   ·rw[if_neg hz];simp only[Bool.false_eq_true,if_false];exact useNames H6 x6 hp6 hr6
  ·obtain⟨x5,hp5,s,xs,z13',z14',rfl,hs,hxl,hxs,hr5⟩:=hI;rw[lmp,length_range]at hxl;have h5:=h2'.extB x5 hp5;refine seq ?_;walk_at"";refine c1s hD w h5.gh h5.ah h5.lh ho (by omega) hxs hr5 fun H6 e6=>?_;walk_at"";rw[if_neg (by decide)];exact b0m (h0k (hK _ _ ⟨h5.ext e6,_,_,_,_,_,_,rfl⟩))
 ·obtain⟨h',z9,z10,z11,z12,z13,z14,rfl⟩:=hI;exact q1s hD w h'
end
theorem f1d(ns:List Int)(hn:ns.length≤63):a0f 24 53 [.frz (ns.map .int)] (fun U=>none) (fun v U=>v=.bool true):=by
 refine a0c [some (.frz (ns.map .int)),none,none,none,none,none,none,none,none,none,none,none,none,none,none,none,none,none,none,none,none,none,none,none,none,none] rfl rfl (seq ?_);walk_at"";refine n1o hn fun p H1 hp hp1 e1=>⟨by decide,seq ?_⟩;walk_at"";refine f1n hp1 fun D dA H2 hD hdA h2 hp2 x2=>⟨by decide,seq ?_⟩;have W:=b0t hD;have hDl:D.length≤21:=Nat.le_trans (d1b D) hD.tot;walk_at"";refine⟨by decide,by decide,?_⟩;refine a0h (by simp[LIM]) fun lA H3 hlA h3 e3 b3=>?_;refine h1t h3 (e3 _ _ h2) (by rw[lmp];simp only[length_cons,length_nil];unfold LIM;omega) fun ru H4 hru h4 e4 b4=>⟨by decide,seq ?_⟩;have hru4:H4 ru=some (.list ((a0u D).map prV)):=h4;have h24:=e3.trans e4;walk_at"";refine c0l (h24 _ _ h2) ⟨by rw[lmp];unfold LIM;omega,?_⟩;refine c0g (fun i H' acc=>Ext H4 H'∧∃ as:List Addr,as.length=i∧acc=k0b (D.take i) as∧∀ (j:Nat) q a,D[j]?=some q→as[j]?=some a→H' a=some (.list (q.2.map .str))) ⟨Ext.refl H4,[],rfl,rfl,fun j q a U z=>by cases z⟩ (fun i H' acc hI=>hI.1 _ _ (h24 _ _ h2)) (fun i H' acc x K hx hI hK=>?_) fun H5 acc hI=>?_
 ·obtain⟨e',as,hal,rfl,has⟩:=hI;rw[gmp]at hx;obtain⟨q,hq,rfl⟩:=map_eq_some_iff.mp hx;obtain⟨hil,hqi⟩:=gsm hq;have hqD:=mog hq;refine⟨[some (.frz (ns.map .int)),some (.ref p),some (.ref dA),some (.ref ru),none,none,none,none,none,none,none,none,none,none,none,none,none,none,some (.str q.1),some (.tup (q.2.map .str)),none,none,none,none,none,none],rfl,?_⟩;walk_at"";rw[if_pos trivial];refine j1k (by rw[lmp];have:=hD.pl q hqD;unfold LIM;omega) fun c H6 hc h6 e6 b6=>⟨by decide,hK _ _ ⟨e'.trans e6,as++[c],by simp[hal],?_,fun j q' a hj ha=>?_⟩⟩
  ·unfold k0b;rw[tsg hil,hqi,List.zipWith_append (by rw[length_take,hal];omega)];rfl
  ·rcases Nat.lt_or_ge j as.length with l | l
   ·rw[getElem?_append_left l]at ha;exact e6 _ _ (has j q' a hj ha)
   ·rw[getElem?_append_right l]at ha;have:j=i:=by
     have:=(gsm ha).1;simp only[length_singleton]at this;omega
    clear hK hx hil hqi;subst this;rw[hal,Nat.sub_self]at ha;cases ha;rw[hq]at hj;cases hj;exact h6
 obtain⟨e5,as,hal,rfl,has⟩:=hI;rw[lmp]at hal;rw[lmp,take_length];refine a0q fun pa H6 hpa h6 e6 b6=>?_;have hp6:=(hp2.ext h24).ext (e5.trans e6);refine f1o hD hal h6 (fun j q a hj ha=>e6 _ _ (has j q a hj ha)) fun g GD H7 e7 hG hfr=>⟨by decide,seq ?_⟩;have hp7:=hp6.ext e7;have hne:∀ {x:Addr} {Hx:MH},Pen Hx p→Hx x=none→x≠p:=by
  clear hp1 hp2 x2 hp6 hp7;rintro x Hx ⟨U,U,z⟩ hx rfl;rw[hx]at z;cases z
 have n1:∀ x,x=GD.nm∨x=GD.rl∨x=GD.bl∨x=GD.of∨x=GD.ow∨x∈GD.bs→x≠p:=fun x hx=>hne hp6 (hfr x hx);have hru7:=e7 _ _ (e6 _ _ (e5 _ _ hru4));walk_at"";refine e1g W hG fun au b sl sa mv Z H8 e8 hZ hB hA=>⟨by decide,seq ?_⟩;have hp8:=hp7.ext e8;have n3:sl≠p:=by
  clear hp1 hp2 x2 hp6 hp7 hne n1;rintro rfl;obtain⟨U,U,z⟩:=hp8;rw[hA.ls]at z;injection z with z;injection z with z;clear hA;cases sa with
  | nil=>cases z
  | cons=>injection z with z _;cases z
 have n2:Z p:=by
  obtain⟨U,U,z⟩:=hp7;exact hZ _ _ z
 walk_at"";refine a0i (e8 _ _ hG.g) rfl ?_;walk_at"";refine j1y hD (e8 _ _ hru7) (e8 _ _ hG.nm) fun b' st sy mo ra H9 hB' e9 hL f1 f2 f3=>f1z rfl (seq ?_);have eb:=x0y hB hB';clear hB';subst eb;have w:=hB.whole;have h9:LW D GD b g au sl st sy mo ru p sa mv ra Z H9:=⟨hp8.ext e9,(hG.ext e8).ext e9,hA.ext e9,hL,e9 _ _ (e8 _ _ hru7),n1,n2,n3,hne hp8 f1,hne hp8 f2,hne hp8 f3⟩;walk_at"";refine s0l hD w h9.gh h9.ah h9.lh h9.ru fun H10 e10=>?_;walk_at"";rw[if_neg (by decide)];exact b0m (q1r hD w (h9.ext e10))
end Mine
namespace Mine
open PySem PySem.W PyProof.Rows
theorem f1c{prog:Program}{w:World}{mg mb:Str→Option Value}{s:Shared}(g:s.heap.Ns mainGlobals mg)(b:s.heap.Ns builtinsNs mb)(lim:s.heap.NoLimit)(bi:∀ x:Str,x≠"__name__"→mb x=bootBuiltins x){K:Frag}(KB:K.In s.heap)(C:l0h K)
  {l:Addr} {vs:List Value} {ns:List Int} (hl:s.heap.IsList l vs.toArray) (hi:IntsAre vs ns) (hlen:ns.length≤63) {A:Around} (Rm:d0t A 48) {R:Value→Shared→Prop} {E:Value→Shared→Prop}
  (hR:∀ h' tk,(∀ a o,s.heap.get? a=some o→h'.get? a=some o)→R (.bool true) { s with heap:=h',toks:=tk }):wpAny (model prog w) A (call (.ref (faT 53)) [.ref l]) R E s:=by
 let F:Fx:={ prog:=prog,w:=w,ca:=caT,B:=s.heap,K:=K,mg:=mg,mb:=mb,fa:=faT }
 obtain⟨U,U,U,U,U,U,U,U,U,fns,cls,att,met,bn,d31,d41,own,g0,g1,g2,U⟩:=id C;have T:b0z F:=by
  refine f1y g b lim bi KB (fun x v h=>?_) fns (fun c h=>all_eq_true.mp cls c (mem_range.mpr h)) (fun c h=>all_eq_true.mp att c (mem_range.mpr h)) (fun c h=>all_eq_true.mp met c (mem_range.mpr h)) bn
  match x,h with
  | 0,h=>cases h;exact⟨_,g0,VR.mkInt _ _⟩
  | 1,h=>cases h;exact⟨_,g1,VR.mkInt _ _⟩
  | 2,h=>
   cases h;exact⟨_,g2,VR.mkTup (KB _ _ own) (by exact⟨_,_,rfl,VR.mkStr _ _,_,_,rfl,VR.mkStr _ _,VRs.one (VR.mkStr _ _)⟩)⟩
  | n+3,h=>cases(show(none:Option a0a)=some v from h)
 have P:∀ f MF,i0i f=some MF→∃ ps o fd body,FnAt F f MF ps o fd body:=fun f MF h=>i1r KB d31 d41 (m1m C f MF h);have ok0:Ok prog w caT (fun U=>False) s.heap (fun U=>none) s.heap:=by
  obtain⟨o,U,U,e,U⟩:=g;exact⟨fun U U e=>e,fun U U U=>rfl,fun U U e=>(nomatch e),⟨o,e⟩,fun U h=>h.elim⟩
 obtain⟨ol,h1,h2,n,h3⟩:=hl;refine wpAny_call (r0b (F:=F) (k:=23) (f:=53) T P (r0c T P 23) (X0:=fun U=>False) (vs:=[.frz (ns.map .int)]) (us:=[.ref l]) Rm ok0 (VRs.one ⟨l,vs,n,rfl,⟨ol,h1,h2,h3⟩,VRs.ofInts hi⟩) (f1d ns hlen) fun v s' p=>?_);obtain⟨h2,tk2,H2,mv,e,kp,old,ok2,rv,q2⟩:=p;subst q2 e;rw[show v=.bool true from rv];exact hR h2 tk2 fun a o e=>kp a o e rfl
namespace top
def tw16900427199656544559:=Nat
def tw18164388396756303480:=Nat
def tw1139600151236580504:=Nat
def tw10996937224433265937:=Nat
def tw16104615914030681952:=Nat
def tw8025738503920905074:=Nat
def tw705360758644809490:=Nat
def tw8107780213005350392:=Nat
def tw8657480035899644758:=Nat
def tw3969286963782609292:=Nat
def tw6240723676877644813:=Nat
def tw9272544492142499777:=Nat
def tw10079171474624433434:=Nat
def tw8237333600419904120:=Nat
def tw4134505453457115739:=Nat
def tw10915162052029792233:=Nat
def tw10936122117785486979:=Nat
def tw17810072253543177317:=Nat
def tw427420600052151026:=Nat
def tw5868845118606482295:=Nat
def tw7444641836354208208:=Nat
def tw6859976401760118174:=Nat
def tw4186445540838780016:=Nat
def tw14371913498598963198:=Nat
def tw14917401599646851644:=Nat
def tw15286249088069653756:=Nat
def tw10773188271377071773:=Nat
def tw12415523145999629524:=Nat
def tw15177526630643400193:=Nat
def tw9962302188120564619:=Nat
def tw15095372191486117680:=Nat
def tw2822501910515967889:=Nat
def tw17355269125676882429:=Nat
def tw2220570432770164149:=Nat
def tw1284575025550258836:=Nat
def tw15569959144833144457:=Nat
def tw14168018189251442112:=Nat
def tw5766051744304087583:=Nat
def tw9305691244287143441:=Nat
def tw2377541652452675900:=Nat
def tw8892184565913893157:=Nat
def tw987869383939708018:=Nat
def tw6694047246710070196:=Nat
def tw8640399195822439974:=Nat
def tw5118827330378232414:=Nat
def tw12094960947251128927:=Nat
def tw6124053682588569230:=Nat
def tw14263998999751124003:=Nat
def tw7990429038631628895:=Nat
def tw13501252493785611398:=Nat
def tw339143206060000330:=Nat
def tw6756868429301003459:=Nat
def tw6662652255960138227:=Nat
def tw12317137736924338119:=Nat
def tw17470836177267949868:=Nat
def tw16054190913257422852:=Nat
def tw15245507539482535896:=Nat
def tw17046948494117081484:=Nat
def tw11546936639936008217:=Nat
def tw17219337458794519322:=Nat
def tw14901070454687303710:=Nat
def tw15877122091014420850:=Nat
def tw4655869559712951663:=Nat
def tw12080426169559351053:=Nat
def tw13799840507378627052:=Nat
def tw17492772389151264855:=Nat
def tw1706793611546318481:=Nat
def tw14724332232928298890:=Nat
def tw4498253355057717688:=Nat
def tw16541100652227675460:=Nat
def tw4940147422707163885:=Nat
def tw13091174067606910046:=Nat
def tw10617020205504526918:=Nat
def tw6977993687042416127:=Nat
def tw3584897518013459382:=Nat
def tw53344730913325255:=Nat
def tw10797620697341660853:=Nat
def tw6749217079512962374:=Nat
def tw6572447435987645144:=Nat
def tw14399976873020721970:=Nat
def tw5915399644114372684:=Nat
def tw18257218023933744409:=Nat
def tw12012865196380796599:=Nat
def tw15361541807878343388:=Nat
def tw16713831800681072344:=Nat
def tw16597617366809209970:=Nat
def tw7743179893348639699:=Nat
def tw14747140909534839006:=Nat
def tw4828031223510198475:=Nat
def tw15878805988109762761:=Nat
def tw5983031951866500094:=Nat
def tw3712731000106771831:=Nat
def tw766993730414679769:=Nat
def tw708234853630380328:=Nat
def tw956942650209027819:=Nat
def tw1047907039808853306:=Nat
def tw11141966352661209427:=Nat
def tw826436352511432923:=Nat
def tw1112988674713690477:=Nat
def tw9919435345466941130:=Nat
def tw8973803690348224638:=Nat
def tw8443935842833279946:=Nat
def tw17103585973383926153:=Nat
def tw13272337422414781067:=Nat
def tw4551080515912023512:=Nat
def tw8813761850579938390:=Nat
def tw16453443671601555132:=Nat
def tw427269002284569659:=Nat
def tw9961057766049560675:=Nat
def tw594810645892935528:=Nat
def tw2249405535684624136:=Nat
def tw7715697345341360870:=Nat
def tw16719718919923625709:=Nat
def tw13370750898655102155:=Nat
def tw2007660962349395123:=Nat
def tw11133666699803404755:=Nat
def tw5105846836358774362:=Nat
def tw12622177474791663080:=Nat
def tw16878204669230926818:=Nat
def tw15362295582089109014:=Nat
def tw104434173382791472:=Nat
def tw5088376156974544275:=Nat
def tw4916261283513009128:=Nat
def tw2514443458684651071:=Nat
def tw6761616313442571491:=Nat
def tw13994475860397038760:=Nat
def tw5225916559131626549:=Nat
def tw8679839319945467846:=Nat
def tw4699463449715708850:=Nat
def tw10195997230039290492:=Nat
def tw16885616592811714743:=Nat
def tw12425085872883035938:=Nat
def tw6885214360128481674:=Nat
def tw18064794426631996164:=Nat
def tw10101883266178500549:=Nat
def tw16550210197400561554:=Nat
def tw9229161468869434483:=Nat
def tw6430265229019958763:=Nat
def tw2506305409684761478:=Nat
def tw11199710921928265848:=Nat
def tw2665807947273092163:=Nat
def tw453181688931711583:=Nat
def tw2847958352784047137:=Nat
def tw8043003576528973991:=Nat
def tw2988451766255067171:=Nat
def tw7429413206186439793:=Nat
def tw15740088241188596515:=Nat
def tw6906291655842520137:=Nat
def tw6815640781856848509:=Nat
def tw8140125068956082859:=Nat
def tw7600245330811189008:=Nat
def tw649594095290182367:=Nat
def tw16415559393655328363:=Nat
def tw1886144042066472794:=Nat
def tw127126225481002756:=Nat
def tw9595331335577350427:=Nat
def tw6187478851450931391:=Nat
def tw4835499133494076262:=Nat
def tw17565814175750979855:=Nat
def tw9951221954081769418:=Nat
def tw2741389259953327712:=Nat
def tw14861896470697024400:=Nat
def tw1833847959688406909:=Nat
def tw1483126911874232274:=Nat
def tw6491118196486620199:=Nat
def tw4859757453598101857:=Nat
def tw2515998901278374640:=Nat
def tw4047667213573674445:=Nat
def tw8598144960395782539:=Nat
def tw13012589842206080548:=Nat
def tw8735323631387419056:=Nat
def tw5245862010334584759:=Nat
def tw2464713573024523455:=Nat
def tw17342085116792181814:=Nat
def tw352232786441526191:=Nat
def tw9874905121527432817:=Nat
def tw8321918168302905379:=Nat
def tw17030962893124633753:=Nat
def tw1971433849790844608:=Nat
def tw11199532085631943738:=Nat
def tw9843447840031818808:=Nat
def tw8265311939077410998:=Nat
def tw17022078359063049780:=Nat
def tw7458633546980236471:=Nat
def tw11423202765487971197:=Nat
def tw2369445192022557226:=Nat
def tw1195175773429642966:=Nat
def tw2683898200743741643:=Nat
def tw5278709424875269971:=Nat
def tw1843344800811705456:=Nat
def tw13134186033006778460:=Nat
def tw10567129059001840431:=Nat
def tw14826035006057030972:=Nat
def tw1638113669730673903:=Nat
def tw17469865338272021226:=Nat
def tw6899488460726452626:=Nat
def tw487173335965325826:=Nat
def tw5860347150701562758:=Nat
def tw7527032243904285869:=Nat
def tw887695700811335699:=Nat
def tw8689318265317240412:=Nat
def tw9059832203979395877:=Nat
def tw5581607755468803823:=Nat
def tw620129878449983639:=Nat
def tw4205137553216949640:=Nat
def tw7250933059871147345:=Nat
def tw16439428074185983240:=Nat
def tw9614876229902214918:=Nat
def tw13983857475226248213:=Nat
def tw146815374380898660:=Nat
def tw3767615275625035234:=Nat
def tw3474246075231452896:=Nat
def tw18237780215024852062:=Nat
def tw2312856594315299383:=Nat
def tw6973401727384321114:=Nat
def tw2126296398998916975:=Nat
def tw13822267516522204269:=Nat
def tw7847352863974893604:=Nat
def tw5889316905344633881:=Nat
def tw3378803678994701225:=Nat
def tw13068111086705522682:=Nat
def tw15092371282622821202:=Nat
def tw16123964013534891561:=Nat
def tw11520865232209809239:=Nat
def tw16273406610938067001:=Nat
def tw15058813355848621054:=Nat
def tw7855079511596107753:=Nat
def tw81815255157605957:=Nat
def tw12385144161495827662:=Nat
def tw12376051458212225564:=Nat
def tw14502225709538309166:=Nat
def tw13303987763403120937:=Nat
def tw4840481374290595910:=Nat
def tw13307591127769906961:=Nat
def tw8472579005086612782:=Nat
def tw3337584539547039419:=Nat
def tw17089494485692210459:=Nat
def tw15299407806266782574:=Nat
def tw6505410396798821541:=Nat
def tw7673058066778466091:=Nat
def tw7414872774492366064:=Nat
def tw2555065506035805374:=Nat
def tw9233335307524088747:=Nat
def tw13160728816969591200:=Nat
def tw13889309363888878346:=Nat
def tw12545222027267286695:=Nat
def tw12483720753089274532:=Nat
def tw5244899138074338376:=Nat
def tw9108098604805947806:=Nat
def tw14597223018079223185:=Nat
def tw381845443943030031:=Nat
def tw15646934709686841381:=Nat
def tw860223938195835975:=Nat
def tw6664487174759623829:=Nat
def tw6487610083215253720:=Nat
def tw11960245374511038805:=Nat
def tw9759319705405543751:=Nat
def tw6333448901615975916:=Nat
def tw6898770573198911631:=Nat
def tw14459580976405569124:=Nat
def tw11466170419677230873:=Nat
def tw7386116660499605909:=Nat
def tw1142415686869020238:=Nat
def tw13345470168829271861:=Nat
def tw814325599930780420:=Nat
def tw11240886729373846589:=Nat
def tw7198060816514059695:=Nat
def tw16325430554902658873:=Nat
def tw9166809390415177425:=Nat
def tw1676862907878916244:=Nat
def tw10783980745131425670:=Nat
def tw13633771914396775234:=Nat
def tw6176384092110617959:=Nat
def tw76412952228603488:=Nat
def tw8645369167282567922:=Nat
def tw11613256710310857696:=Nat
def tw9059672392935016618:=Nat
def tw8729362747519067210:=Nat
def tw196536941598035525:=Nat
def tw12392516345856041104:=Nat
def tw2581206410525282061:=Nat
def tw5476889619067714990:=Nat
def tw18086089286151905521:=Nat
def tw9768079942903668216:=Nat
def tw8538268897159353584:=Nat
def tw11762496359356365647:=Nat
def tw7008692893051332821:=Nat
def tw932423636868871686:=Nat
def tw14762295962024373759:=Nat
def tw5938664839603501006:=Nat
def tw9378254376102152143:=Nat
def tw12787338502077490372:=Nat
def tw6211089042160764376:=Nat
def tw10090393231696489298:=Nat
def tw7847650389618582240:=Nat
def tw16420938139371093754:=Nat
def tw10327409571362585415:=Nat
def tw5225153198818245361:=Nat
def tw14349089067433371257:=Nat
def tw2443449257678562572:=Nat
def tw16800595933775061595:=Nat
def tw16759092144687519636:=Nat
def tw13928562000808390012:=Nat
def tw10404823597219466188:=Nat
def tw864819663365544661:=Nat
def tw4321519831107876412:=Nat
def tw2462062305354472974:=Nat
def tw13290321428070320777:=Nat
def tw72247145696351765:=Nat
def tw8184561461823581802:=Nat
def tw3995942328266245912:=Nat
def tw18177719399980262173:=Nat
def tw10894423115674920487:=Nat
def tw5597187220613765494:=Nat
def tw8435561252592420358:=Nat
def tw14390669486469195807:=Nat
def tw370947364307004932:=Nat
def tw2758071753971750899:=Nat
def tw1124271682379634556:=Nat
def tw5303079699428457377:=Nat
def tw3776753064480771068:=Nat
def tw9165953624949470791:=Nat
def tw8410488445778877200:=Nat
def tw4177254973167742082:=Nat
def tw11459358961799972967:=Nat
def tw17542608870123051758:=Nat
def tw1040915598704419856:=Nat
def tw9442318146202087700:=Nat
def tw3422688185749166683:=Nat
def tw8345894832289464959:=Nat
def tw9335426496214029073:=Nat
def tw13120753694373217308:=Nat
def tw9227057690007400460:=Nat
def tw16155163154822807229:=Nat
def tw4269840412008162865:=Nat
def tw13802547742096326172:=Nat
def tw216529984938456764:=Nat
def tw2985252069258134486:=Nat
def tw10399464001100048223:=Nat
def tw4656485037274611717:=Nat
def tw2057334267981633021:=Nat
def tw12643491718579748851:=Nat
def tw18034075008235765660:=Nat
def tw1088946173253831356:=Nat
def tw12427389293880184781:=Nat
def tw14608685727046917156:=Nat
def tw11858546649754279707:=Nat
def tw4159251561096739476:=Nat
def tw5398424786039705171:=Nat
def tw775762912060472103:=Nat
def tw105208000716104510:=Nat
def tw17953984050398360512:=Nat
def tw2924597203103170677:=Nat
def tw11334203419191126389:=Nat
def tw3976154599441133093:=Nat
def tw5155950481276406077:=Nat
def tw3561193834555079511:=Nat
def tw9366391650621772374:=Nat
def tw11845233108574324481:=Nat
def tw3407781021037958245:=Nat
def tw4784893810139332661:=Nat
def tw1754339480302792767:=Nat
def tw4671429814451907529:=Nat
def tw12318557346453588183:=Nat
def tw13706816188851595723:=Nat
def tw9601329371697537090:=Nat
def tw908825868028484722:=Nat
def tw6196800358849779857:=Nat
def tw8507776931139520737:=Nat
def tw15976228082101565994:=Nat
def tw15375627381283404121:=Nat
def tw16174758807025615021:=Nat
def tw4555866861457887817:=Nat
def tw11430207588045935325:=Nat
def tw10341860258655708415:=Nat
def tw297971269722091814:=Nat
def tw2287823674025257028:=Nat
def tw6127594578889010139:=Nat
def tw4571971715460732019:=Nat
def tw10864713392326063847:=Nat
def tw1814787853859245837:=Nat
def tw15254643099363442306:=Nat
def tw4292695720768233569:=Nat
def tw728428047077509346:=Nat
def tw14282377253939248939:=Nat
def tw4383139521930768336:=Nat
def tw12819366960792805191:=Nat
def tw1321871150748368714:=Nat
def tw12958502747184954254:=Nat
def tw14987219478266130788:=Nat
def tw11334350811105764591:=Nat
def tw10448899703829047738:=Nat
def tw15503665604740900718:=Nat
def tw14632489290957082403:=Nat
def tw16044733080236030384:=Nat
def tw10548783162686979305:=Nat
def tw575894324575664597:=Nat
def tw1291508964198565346:=Nat
def tw13326734554550294991:=Nat
def tw6431110157172167083:=Nat
def tw17323899518341599180:=Nat
def tw13090165191389475591:=Nat
def tw16580785732701462914:=Nat
def tw2731995056826638727:=Nat
def tw12256363837256957063:=Nat
def tw2145171640123136144:=Nat
def tw6812286434817487243:=Nat
def tw9334155553566164974:=Nat
def tw3195968871104189447:=Nat
def tw11203750815551599093:=Nat
def tw2732273902793177162:=Nat
def tw17886615442053742456:=Nat
def tw16204670001084760307:=Nat
def tw8363718466572441477:=Nat
def tw17103177528636943170:=Nat
def tw788273225186049534:=Nat
def tw9259421805112917234:=Nat
def tw3730354652608582461:=Nat
def tw10187264123177260123:=Nat
def tw16352630495959832749:=Nat
def tw8212240652046128837:=Nat
def tw14697636140705633519:=Nat
def tw14789260269991461300:=Nat
def tw10008474027749305400:=Nat
def tw4392038535549328194:=Nat
def tw13001836021917841797:=Nat
def tw2782073688633401757:=Nat
def tw390997316461189296:=Nat
def tw17428532607074087071:=Nat
def tw7313339093194340965:=Nat
def tw17795014544551873601:=Nat
def tw13889484949932952446:=Nat
def tw9195894827357321740:=Nat
def tw18371284783138465269:=Nat
def tw342308947776675178:=Nat
def tw8694864300669457046:=Nat
def tw9382581127745807760:=Nat
def tw12342655685612074800:=Nat
def tw11443710868159068359:=Nat
def tw9361663168868926718:=Nat
def tw7830913209206220567:=Nat
def tw2867133514656366558:=Nat
def tw15240379268576122478:=Nat
def tw14611434983143301774:=Nat
def tw9800703332001039478:=Nat
def tw2907113945770861938:=Nat
def tw9851269098105209369:=Nat
def tw7204493036743257322:=Nat
def tw9913501989792142831:=Nat
def tw6438537300738474071:=Nat
def tw8311017846404947139:=Nat
def tw10006222313960134694:=Nat
def tw9953747333497923681:=Nat
def tw1492452104121835379:=Nat
def tw10801874191123338550:=Nat
def tw283044589724301:=Nat
def tw2878843996050045342:=Nat
def tw1245559373397905713:=Nat
def tw16058212318047004132:=Nat
def tw13553763731473574412:=Nat
def tw13264354339760550358:=Nat
def tw18008055252877512497:=Nat
def tw1617357707322924660:=Nat
def tw6370870915552960936:=Nat
def tw8143265674769528471:=Nat
def tw56207249046022051:=Nat
def tw18245740138792012028:=Nat
def tw6042063481754889096:=Nat
def tw12958664272152378060:=Nat
def tw12718909917080609646:=Nat
def tw8523463495250067690:=Nat
def tw3261557481417251176:=Nat
def tw11334415319851112604:=Nat
def tw17555251805378815213:=Nat
def tw11134409312858018536:=Nat
end top
set_option Elab.async true
set_option maxRecDepth 100000 in
set_option maxHeartbeats 8000000 in
set_option tactic.hygienic true in
theorem top:PySem.Challenge.rw_on0171_01.Holds:=by
 w_on
 o_law
 k_head
 (case hw=>w_witness2)
 k_fill
 intro w s₀ s₁ mg mb G Y fa o pm cd doc dV kV ho hd hcd hD hmg hg args vals as hpre hlay hrd hwl hlo;have KX:=kIn_of Y;have C:=k1z KX (by refine⟨?_,?_,?_,?_,?_,?_,?_,?_,?_,?_,?_,?_,?_,?_,?_,?_,?_,?_,?_,?_,?_⟩ <;> (change _=_;kernel_rfl));refine Ground.open G ?_;intro T B D TE TW
 try (refine guard_noD D (by decide +kernel) ?_;clear D)
 have hfa:fa=Mine.faT 53:=by
  have e:=hmg.symm.trans (mg_of KX T.g C.law53);injection e with e;injection e
 clear hmg hd B TE TW hD hcd ho;subst hfa
 wrow_args hpre hlay hrd hwl hlo
 rename_i hL ra w1 r0 hI hr hc1 hc2;refine f1c T.g T.b T.nolimit T.builtins KX C hL hI (by omega) ⟨rfl,by decide,by decide⟩ fun h' tk kp=>?_;refine GoodW.toG ⟨.inl ⟨.bool true,.bool true,[],rfl,raisesW_false ?_,.bool _,?_,?_⟩,kp,rfl,hg⟩
 ·wrow_none_raised
 ·wrow_post
 ·intro U;exact⟨nodup_nil,fun a h=>nomatch h⟩
end Mine
open PySem PySem.W PyProof.Rows
theorem PySem.Challenge.cw_on0171_01_holds : PySem.Challenge.rw_on0171_01.Holds :=
 Mine.top
