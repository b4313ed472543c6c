/-
  The program's functions, over data: what the symbolic run prints of them. No conditions.
-/
import Derived.Test.YtjkiookhmmalkaaEd
namespace Pq
open Go Rx
noncomputable def lay_in (ds : List Dat) : Option (List Dat) :=
 fI .i64 ds fun i0 ds => fI .i64 ds fun i1 ds => fI .i64 ds fun i2 _ => 
 Option.bind (cond (decide ((i0 : Int) ≥ i1))
 (some (.ret [.bool (decide ((i0 : Int) ≤ i2))]))
 (some (.ret [.bool false]))) outR
noncomputable def lay_May (ds : List Dat) : Option (List Dat) :=
 fI .i64 ds fun i0 ds => fI .i64 ds fun i1 ds => fI .i64 ds fun i2 ds => fI .i64 ds fun i3 _ => 
 Option.bind (Option.bind (lay_in [.int .i64 i0, .int .i64 1, .int .i64 8]) fun ds => fB ds fun b0 _ => 
 cond b0
 (Option.bind (lay_in [.int .i64 i1, .int .i64 1, .int .i64 16]) fun ds => fB ds fun b1 _ => 
 cond b1
 (cond (((ibin .and .i64 i1 (IntKind.i64.wrap (i1 - 1))) : Int) == 0)
 (Option.bind (lay_in [.int .i64 i2, .int .i64 1, .int .i64 16]) fun ds => fB ds fun b2 _ => 
 cond b2
 (Option.bind (lay_in [.int .i64 i3, .int .i64 0, .int .i64 4]) fun ds => fB ds fun b3 _ => 
 some (.ret [.bool b3]))
 (some (.ret [.bool false])))
 (some (.ret [.bool false])))
 (some (.ret [.bool false])))
 (some (.ret [.bool false]))) outR
noncomputable def lay_base (ds : List Dat) : Option (List Dat) :=
 fI .i64 ds fun _ ds => fI .i64 ds fun i1 ds => fI .i64 ds fun i2 ds => fI .i64 ds fun _ ds => fI .i64 ds fun i4 _ => 
 Option.bind (some (.ret [.int .i64 (IntKind.i64.wrap ((IntKind.i64.wrap (6 + (IntKind.i64.wrap (2 * i2)))) + (IntKind.i64.wrap (i4 * (IntKind.i64.wrap (3 + i1))))))])) outR
noncomputable def lay_Size (ds : List Dat) : Option (List Dat) :=
 fI .i64 ds fun i0 ds => fI .i64 ds fun i1 ds => fI .i64 ds fun i2 ds => fI .i64 ds fun i3 _ => 
 Option.bind (Option.bind (lay_May [.int .i64 i0, .int .i64 i1, .int .i64 i2, .int .i64 i3]) fun ds => fB ds fun b0 _ => 
 cond (!b0)
 (some (.ret [.int .i64 0]))
 (Option.bind (lay_base [.int .i64 i0, .int .i64 i1, .int .i64 i2, .int .i64 i3, .int .i64 i0]) fun ds => fI .i64 ds fun i4 _ => 
 some (.ret [.int .i64 i4]))) outR
noncomputable def lay_New (ds : List Dat) : Option (List Dat) :=
 fI .i64 ds fun i0 ds => fI .i64 ds fun i1 ds => fI .i64 ds fun i2 ds => fI .i64 ds fun i3 _ => 
 Option.bind (Option.bind (lay_Size [.int .i64 i0, .int .i64 i1, .int .i64 i2, .int .i64 i3]) fun ds => fI .i64 ds fun i4 _ => 
 loopE 0 (fun ds => fV ds fun v0 ds => fJ ds fun i5 _ => 
 cond (decide ((i5 : Int) < i4))
 (apK true 1 v0 [[.int .u64 0]] fun v1 =>
 some (.cont 0 [.sl v1, .int .i64 (IntKind.i64.wrap (i5 + 1))]))
 (some (.ret [.sl v0])))
 [.sl [], .int .i64 0]) outR
noncomputable def frame_Begin (ds : List Dat) : Option (List Dat) :=
 fI .i64 ds fun i0 ds => fI .i64 ds fun i1 ds => fI .u64 ds fun i2 _ => 
 Option.bind (some (.ret [.int .i64 i0, .int .i64 0, .int .i64 i1, .int .u64 i2, .int .u64 0, .int .u64 0, .int .i64 0])) outR
noncomputable def slices_Clone_api_Mem_uint64 (ds : List Dat) : Option (List Dat) :=
 fV ds fun v0 _ => 
 Option.bind (nilK v0
 (some (.ret [.sl []]))
 (apK true 1 [] v0 fun v1 =>
 some (.ret [.sl v1]))) outR
noncomputable def cell_is (ds : List Dat) : Option (List Dat) :=
 fV ds fun v0 ds => fI .i64 ds fun i0 _ => 
 Option.bind (cond (decide ((i0 : Int) ≥ 0))
 (some (.ret [.bool (decide ((i0 : Int) < (v0.length : Int)))]))
 (some (.ret [.bool false]))) outR
noncomputable def cell_Load (ds : List Dat) : Option (List Dat) :=
 fV ds fun v0 ds => fI .i64 ds fun i0 _ => 
 Option.bind (Option.bind (cell_is [.sl v0, .int .i64 i0]) fun ds => fB ds fun b0 _ => 
 cond (!b0)
 (some (.ret [.int .u64 0]))
 (ixK v0 i0 (ldK v0 (Int.toNat i0) 1 0 fun ds => fI .u64 ds fun i1 _ => 
 some (.ret [.int .u64 i1])))) outR
noncomputable def word_Epoch (ds : List Dat) : Option (List Dat) :=
 fI .u64 ds fun i0 _ => 
 Option.bind (some (.ret [.int .u64 (ibin .shr .u64 i0 16)])) outR
noncomputable def frame_End (ds : List Dat) : Option (List Dat) :=
 fI .i64 ds fun i0 ds => fI .i64 ds fun _ ds => fI .i64 ds fun i2 ds => fI .u64 ds fun _ ds => fI .u64 ds fun _ ds => fI .u64 ds fun _ ds => fI .i64 ds fun _ ds => fI .i64 ds fun i7 ds => fI .u64 ds fun i8 _ => 
 Option.bind (some (.ret [.int .i64 i0, .int .i64 0, .int .i64 i2, .int .u64 i8, .int .u64 0, .int .u64 0, .int .i64 i7])) outR
noncomputable def word_Set (ds : List Dat) : Option (List Dat) :=
 fI .u64 ds fun i0 ds => fI .i64 ds fun i1 _ => 
 Option.bind (cond (decide ((i1 : Int) < 0))
 (some (.ret [.int .u64 i0]))
 (cond (decide ((i1 : Int) ≥ 16))
 (some (.ret [.int .u64 i0]))
 (cond (decide ((i1 : Int) ≥ 0)) (some (.ret [.int .u64 (ibin .or .u64 i0 (ibin .shl .u64 1 i1))])) none))) outR
noncomputable def cell_Cas (ds : List Dat) : Option (List Dat) :=
 fV ds fun v0 ds => fI .i64 ds fun i0 ds => fI .u64 ds fun i1 ds => fI .u64 ds fun i2 _ => 
 Option.bind (Option.bind (slices_Clone_api_Mem_uint64 [.sl v0]) fun ds => fV ds fun v1 _ => 
 Option.bind (cell_is [.sl v0, .int .i64 i0]) fun ds => fB ds fun b0 _ => 
 cond (!b0)
 (some (.ret [.sl v1, .bool false]))
 (ixK v0 i0 (ldK v0 (Int.toNat i0) 1 0 fun ds => fI .u64 ds fun i3 _ => 
 cond ((i3 : Int) != i1)
 (ixK v1 i0 (stK v1 (Int.toNat i0) 1 0 [.int .u64 i3] fun v1_0 =>
 ixK v0 i0 (ldK v0 (Int.toNat i0) 1 0 fun ds => fI .u64 ds fun _ _ => 
 some (.ret [.sl v1_0, .bool false]))))
 (ixK v1 i0 (stK v1 (Int.toNat i0) 1 0 [.int .u64 i2] fun v1_1 =>
 ixK v0 i0 (ldK v0 (Int.toNat i0) 1 0 fun ds => fI .u64 ds fun _ _ => 
 some (.ret [.sl v1_1, .bool true]))))))) outR
noncomputable def lay_Park (ds : List Dat) : Option (List Dat) :=
 fI .i64 ds fun i0 ds => fI .i64 ds fun i1 ds => fI .i64 ds fun i2 ds => fI .i64 ds fun i3 ds => fI .i64 ds fun i4 _ => 
 Option.bind (Option.bind (lay_May [.int .i64 i0, .int .i64 i1, .int .i64 i2, .int .i64 i3]) fun ds => fB ds fun b0 _ => 
 cond (!b0)
 (some (.ret [.int .i64 (-1)]))
 (Option.bind (lay_in [.int .i64 i4, .int .i64 0, .int .i64 (IntKind.i64.wrap (i0 - 1))]) fun ds => fB ds fun b1 _ => 
 cond (!b1)
 (some (.ret [.int .i64 (-1)]))
 (Option.bind (lay_base [.int .i64 i0, .int .i64 i1, .int .i64 i2, .int .i64 i3, .int .i64 i4]) fun ds => fI .i64 ds fun i5 _ => 
 some (.ret [.int .i64 (IntKind.i64.wrap (i5 + 2))])))) outR
noncomputable def cell_Store (ds : List Dat) : Option (List Dat) :=
 fV ds fun v0 ds => fI .i64 ds fun i0 ds => fI .u64 ds fun i1 _ => 
 Option.bind (Option.bind (slices_Clone_api_Mem_uint64 [.sl v0]) fun ds => fV ds fun v1 _ => 
 Option.bind (cell_is [.sl v0, .int .i64 i0]) fun ds => fB ds fun b0 _ => 
 cond (!b0)
 (some (.ret [.sl v1]))
 (ixK v0 i0 (ldK v0 (Int.toNat i0) 1 0 fun ds => fI .u64 ds fun _ _ => 
 ixK v1 i0 (stK v1 (Int.toNat i0) 1 0 [.int .u64 i1] fun v1_0 =>
 ixK v0 i0 (ldK v0 (Int.toNat i0) 1 0 fun ds => fI .u64 ds fun _ _ => 
 some (.ret [.sl v1_0])))))) outR
noncomputable def frame_Over (ds : List Dat) : Option (List Dat) :=
 fI .i64 ds fun _ ds => fI .i64 ds fun _ ds => fI .i64 ds fun _ ds => fI .u64 ds fun _ ds => fI .u64 ds fun _ ds => fI .u64 ds fun _ ds => fI .i64 ds fun i6 _ => 
 Option.bind (some (.ret [.bool ((i6 : Int) != 0)])) outR
noncomputable def push_Goes (ds : List Dat) : Option (List Dat) :=
 fI .i64 ds fun i0 ds => fI .i64 ds fun i1 ds => fI .i64 ds fun i2 ds => fI .i64 ds fun i3 ds => fV ds fun v0 ds => fI .i64 ds fun i4 ds => fI .i64 ds fun i5 ds => fI .i64 ds fun i6 ds => fI .u64 ds fun i7 ds => fI .u64 ds fun i8 ds => fI .u64 ds fun i9 ds => fI .i64 ds fun i10 ds => fI .i64 ds fun i11 ds => fI .i64 ds fun i12 _ => 
 Option.bind (Option.bind (lay_May [.int .i64 i0, .int .i64 i1, .int .i64 i2, .int .i64 i3]) fun ds => fB ds fun b0 _ => 
 cond b0
 (Option.bind (lay_Size [.int .i64 i0, .int .i64 i1, .int .i64 i2, .int .i64 i3]) fun ds => fI .i64 ds fun i13 _ => 
 cond (((v0.length : Int) : Int) == i13)
 (Option.bind (frame_Over [.int .i64 i4, .int .i64 i5, .int .i64 i6, .int .u64 i7, .int .u64 i8, .int .u64 i9, .int .i64 i10]) fun ds => fB ds fun b1 _ => 
 cond (!b1)
 (cond (decide ((i6 : Int) ≥ 0))
 (cond (decide ((i6 : Int) < i0))
 (cond ((i4 : Int) == i11)
 (cond (decide ((i5 : Int) ≥ 0))
 (some (.ret [.bool (decide ((i5 : Int) < i12))]))
 (some (.ret [.bool false])))
 (some (.ret [.bool false])))
 (some (.ret [.bool false])))
 (some (.ret [.bool false])))
 (some (.ret [.bool false])))
 (some (.ret [.bool false])))
 (some (.ret [.bool false]))) outR
noncomputable def wait_Step (ds : List Dat) : Option (List Dat) :=
 fI .i64 ds fun i0 ds => fI .i64 ds fun i1 ds => fI .i64 ds fun i2 ds => fI .i64 ds fun i3 ds => fV ds fun v0 ds => fI .i64 ds fun i4 ds => fI .i64 ds fun i5 ds => fI .i64 ds fun i6 ds => fI .u64 ds fun i7 ds => fI .u64 ds fun i8 ds => fI .u64 ds fun i9 ds => fI .i64 ds fun i10 _ => 
 Option.bind (Option.bind (slices_Clone_api_Mem_uint64 [.sl v0]) fun ds => fV ds fun v1 _ => 
 Option.bind (push_Goes [.int .i64 i0, .int .i64 i1, .int .i64 i2, .int .i64 i3, .sl v0, .int .i64 i4, .int .i64 i5, .int .i64 i6, .int .u64 i7, .int .u64 i8, .int .u64 i9, .int .i64 i10, .int .i64 5, .int .i64 5]) fun ds => fB ds fun b0 _ => 
 cond b0
 (cond ((i5 : Int) == 0)
 (Option.bind (cell_Load [.sl v1, .int .i64 2]) fun ds => fI .u64 ds fun i11 _ => 
 some (.ret [.sl v1, .int .i64 i4, .int .i64 1, .int .i64 i6, .int .u64 i7, .int .u64 i11, .int .u64 i9, .int .i64 i10]))
 (cond ((i5 : Int) == 1)
 (Option.bind (cell_Load [.sl v1, .int .i64 2]) fun ds => fI .u64 ds fun i11 _ => 
 Option.bind (word_Epoch [.int .u64 i11]) fun ds => fI .u64 ds fun i12 _ => 
 Option.bind (word_Epoch [.int .u64 i8]) fun ds => fI .u64 ds fun i13 _ => 
 cond ((i12 : Int) != i13)
 (Option.bind (frame_End [.int .i64 i4, .int .i64 2, .int .i64 i6, .int .u64 i7, .int .u64 i8, .int .u64 i11, .int .i64 i10, .int .i64 4, .int .u64 0]) fun ds => fI .i64 ds fun i14 ds => fI .i64 ds fun i15 ds => fI .i64 ds fun i16 ds => fI .u64 ds fun i17 ds => fI .u64 ds fun i18 ds => fI .u64 ds fun i19 ds => fI .i64 ds fun i20 _ => 
 some (.ret [.sl v1, .int .i64 i14, .int .i64 i15, .int .i64 i16, .int .u64 i17, .int .u64 i18, .int .u64 i19, .int .i64 i20]))
 (some (.ret [.sl v1, .int .i64 i4, .int .i64 2, .int .i64 i6, .int .u64 i7, .int .u64 i8, .int .u64 i11, .int .i64 i10])))
 (cond ((i5 : Int) == 2)
 (Option.bind (word_Set [.int .u64 i9, .int .i64 i6]) fun ds => fI .u64 ds fun i11 _ => 
 Option.bind (cell_Cas [.sl v1, .int .i64 2, .int .u64 i9, .int .u64 i11]) fun ds => fV ds fun v2 ds => fB ds fun b1 _ => 
 cond b1
 (some (.ret [.sl v2, .int .i64 i4, .int .i64 3, .int .i64 i6, .int .u64 i7, .int .u64 i8, .int .u64 i9, .int .i64 i10]))
 (some (.ret [.sl v2, .int .i64 i4, .int .i64 1, .int .i64 i6, .int .u64 i7, .int .u64 i8, .int .u64 i9, .int .i64 i10])))
 (cond ((i5 : Int) == 3)
 (Option.bind (lay_Park [.int .i64 i0, .int .i64 i1, .int .i64 i2, .int .i64 i3, .int .i64 i6]) fun ds => fI .i64 ds fun i11 _ => 
 Option.bind (cell_Load [.sl v1, .int .i64 i11]) fun ds => fI .u64 ds fun i12 _ => 
 cond ((i12 : Int) != 0)
 (some (.ret [.sl v1, .int .i64 i4, .int .i64 4, .int .i64 i6, .int .u64 i7, .int .u64 i8, .int .u64 i12, .int .i64 i10]))
 (some (.ret [.sl v1, .int .i64 i4, .int .i64 i5, .int .i64 i6, .int .u64 i7, .int .u64 i8, .int .u64 i12, .int .i64 i10])))
 (cond ((i5 : Int) == 4)
 (Option.bind (lay_Park [.int .i64 i0, .int .i64 i1, .int .i64 i2, .int .i64 i3, .int .i64 i6]) fun ds => fI .i64 ds fun i11 _ => 
 Option.bind (cell_Store [.sl v1, .int .i64 i11, .int .u64 0]) fun ds => fV ds fun v2 _ => 
 Option.bind (frame_End [.int .i64 i4, .int .i64 i5, .int .i64 i6, .int .u64 i7, .int .u64 i8, .int .u64 i9, .int .i64 i10, .int .i64 1, .int .u64 0]) fun ds => fI .i64 ds fun i12 ds => fI .i64 ds fun i13 ds => fI .i64 ds fun i14 ds => fI .u64 ds fun i15 ds => fI .u64 ds fun i16 ds => fI .u64 ds fun i17 ds => fI .i64 ds fun i18 _ => 
 some (.ret [.sl v2, .int .i64 i12, .int .i64 i13, .int .i64 i14, .int .u64 i15, .int .u64 i16, .int .u64 i17, .int .i64 i18]))
 (none))))))
 (some (.ret [.sl v1, .int .i64 i4, .int .i64 i5, .int .i64 i6, .int .u64 i7, .int .u64 i8, .int .u64 i9, .int .i64 i10]))) outR
noncomputable def word_Mask (ds : List Dat) : Option (List Dat) :=
 fI .u64 ds fun i0 _ => 
 Option.bind (some (.ret [.int .u64 (ibin .and .u64 i0 65535)])) outR
noncomputable def word_Pack (ds : List Dat) : Option (List Dat) :=
 fI .u64 ds fun i0 ds => fI .u64 ds fun i1 _ => 
 Option.bind (some (.ret [.int .u64 (ibin .or .u64 (ibin .shl .u64 i0 16) (ibin .and .u64 i1 65535))])) outR
noncomputable def word_Lowest (ds : List Dat) : Option (List Dat) :=
 fI .u64 ds fun i0 _ => 
 Option.bind (loopE 0 (fun ds => fJ ds fun i1 _ => 
 cond (decide ((i1 : Int) < 16))
 (cond (decide ((i1 : Int) ≥ 0)) (cond (((ibin .and .u64 (ibin .shr .u64 i0 i1) 1) : Int) == 1)
 (some (.ret [.int .i64 i1]))
 (some (.cont 0 [.int .i64 (IntKind.i64.wrap (i1 + 1))]))) none)
 (some (.ret [.int .i64 (-1)])))
 [.int .i64 0]) outR
noncomputable def word_Bump (ds : List Dat) : Option (List Dat) :=
 fI .u64 ds fun i0 _ => 
 Option.bind (Option.bind (word_Mask [.int .u64 i0]) fun ds => fI .u64 ds fun i1 _ => 
 Option.bind (word_Epoch [.int .u64 i0]) fun ds => fI .u64 ds fun i2 _ => 
 Option.bind (word_Pack [.int .u64 (IntKind.u64.wrap (i2 + 1)), .int .u64 (ibin .and .u64 i1 (IntKind.u64.wrap (i1 - 1)))]) fun ds => fI .u64 ds fun i3 _ => 
 Option.bind (word_Lowest [.int .u64 i1]) fun ds => fI .i64 ds fun i4 _ => 
 some (.ret [.int .u64 i3, .int .i64 i4])) outR
noncomputable def note_kinds_1 (ds : List Dat) : Option (List Dat) :=
 fI .u64 ds fun i0 _ => 
 Option.bind (Option.bind (word_Bump [.int .u64 i0]) fun ds => fI .u64 ds fun i1 ds => fI .i64 ds fun i2 _ => 
 cond (decide ((i2 : Int) < 0))
 (some (.ret [.int .u64 i1, .int .u64 0]))
 (some (.ret [.int .u64 i1, .int .u64 (IntKind.u64.wrap i2)]))) outR
noncomputable def word_Wipe (ds : List Dat) : Option (List Dat) :=
 fI .u64 ds fun i0 _ => 
 Option.bind (Option.bind (word_Epoch [.int .u64 i0]) fun ds => fI .u64 ds fun i1 _ => 
 Option.bind (word_Pack [.int .u64 (IntKind.u64.wrap (i1 + 1)), .int .u64 0]) fun ds => fI .u64 ds fun i2 _ => 
 some (.ret [.int .u64 i2])) outR
noncomputable def note_kinds_2 (ds : List Dat) : Option (List Dat) :=
 fI .u64 ds fun i0 _ => 
 Option.bind (Option.bind (word_Wipe [.int .u64 i0]) fun ds => fI .u64 ds fun i1 _ => 
 Option.bind (word_Mask [.int .u64 i0]) fun ds => fI .u64 ds fun i2 _ => 
 some (.ret [.int .u64 i1, .int .u64 i2])) outR
noncomputable def note_Goes (ds : List Dat) : Option (List Dat) :=
 fI .i64 ds fun i0 ds => fI .i64 ds fun i1 ds => fI .i64 ds fun i2 ds => fI .i64 ds fun i3 ds => fV ds fun v0 ds => fI .i64 ds fun i4 ds => fI .i64 ds fun i5 ds => fI .i64 ds fun i6 ds => fI .u64 ds fun i7 ds => fI .u64 ds fun i8 ds => fI .u64 ds fun i9 ds => fI .i64 ds fun i10 _ => 
 Option.bind (cond ((i4 : Int) == 6)
 (Option.bind (lay_May [.int .i64 i0, .int .i64 i1, .int .i64 i2, .int .i64 i3]) fun ds => fB ds fun b0 _ => 
 cond b0
 (Option.bind (lay_Size [.int .i64 i0, .int .i64 i1, .int .i64 i2, .int .i64 i3]) fun ds => fI .i64 ds fun i11 _ => 
 cond (((v0.length : Int) : Int) == i11)
 (Option.bind (frame_Over [.int .i64 i4, .int .i64 i5, .int .i64 i6, .int .u64 i7, .int .u64 i8, .int .u64 i9, .int .i64 i10]) fun ds => fB ds fun b1 _ => 
 cond (!b1)
 (cond (decide ((i5 : Int) ≥ 0))
 (some (.ret [.bool (decide ((i5 : Int) ≤ 2))]))
 (some (.ret [.bool false])))
 (some (.ret [.bool false])))
 (some (.ret [.bool false])))
 (some (.ret [.bool false])))
 (cond ((i4 : Int) == 7)
 (Option.bind (lay_May [.int .i64 i0, .int .i64 i1, .int .i64 i2, .int .i64 i3]) fun ds => fB ds fun b0 _ => 
 cond b0
 (Option.bind (lay_Size [.int .i64 i0, .int .i64 i1, .int .i64 i2, .int .i64 i3]) fun ds => fI .i64 ds fun i11 _ => 
 cond (((v0.length : Int) : Int) == i11)
 (Option.bind (frame_Over [.int .i64 i4, .int .i64 i5, .int .i64 i6, .int .u64 i7, .int .u64 i8, .int .u64 i9, .int .i64 i10]) fun ds => fB ds fun b1 _ => 
 cond (!b1)
 (cond (decide ((i5 : Int) ≥ 0))
 (some (.ret [.bool (decide ((i5 : Int) ≤ 2))]))
 (some (.ret [.bool false])))
 (some (.ret [.bool false])))
 (some (.ret [.bool false])))
 (some (.ret [.bool false])))
 (some (.ret [.bool false])))) outR
noncomputable def note_Step (ds : List Dat) : Option (List Dat) :=
 fI .i64 ds fun i0 ds => fI .i64 ds fun i1 ds => fI .i64 ds fun i2 ds => fI .i64 ds fun i3 ds => fV ds fun v0 ds => fI .i64 ds fun i4 ds => fI .i64 ds fun i5 ds => fI .i64 ds fun i6 ds => fI .u64 ds fun i7 ds => fI .u64 ds fun i8 ds => fI .u64 ds fun i9 ds => fI .i64 ds fun i10 _ => 
 Option.bind (Option.bind (slices_Clone_api_Mem_uint64 [.sl v0]) fun ds => fV ds fun v1 _ => 
 Option.bind (note_Goes [.int .i64 i0, .int .i64 i1, .int .i64 i2, .int .i64 i3, .sl v0, .int .i64 i4, .int .i64 i5, .int .i64 i6, .int .u64 i7, .int .u64 i8, .int .u64 i9, .int .i64 i10]) fun ds => fB ds fun b0 _ => 
 cond (!b0)
 (some (.ret [.sl v1, .int .i64 i4, .int .i64 i5, .int .i64 i6, .int .u64 i7, .int .u64 i8, .int .u64 i9, .int .i64 i10]))
 (cond ((i5 : Int) == 0)
 (Option.bind (cell_Load [.sl v1, .int .i64 2]) fun ds => fI .u64 ds fun i11 _ => 
 some (.ret [.sl v1, .int .i64 i4, .int .i64 1, .int .i64 i6, .int .u64 i7, .int .u64 i11, .int .u64 i9, .int .i64 i10]))
 (cond ((i5 : Int) == 1)
 (cond ((i4 : Int) == 6)
 (Option.bind (note_kinds_1 [.int .u64 i8]) fun ds => fI .u64 ds fun i11 ds => fI .u64 ds fun i12 _ => 
 Option.bind (cell_Cas [.sl v1, .int .i64 2, .int .u64 i8, .int .u64 i11]) fun ds => fV ds fun v2 ds => fB ds fun b1 _ => 
 cond (!b1)
 (some (.ret [.sl v2, .int .i64 i4, .int .i64 0, .int .i64 i6, .int .u64 i7, .int .u64 i8, .int .u64 i9, .int .i64 i10]))
 (Option.bind (word_Mask [.int .u64 i8]) fun ds => fI .u64 ds fun i13 _ => 
 cond ((i13 : Int) == 0)
 (Option.bind (frame_End [.int .i64 i4, .int .i64 0, .int .i64 i6, .int .u64 i7, .int .u64 i8, .int .u64 i9, .int .i64 i10, .int .i64 3, .int .u64 0]) fun ds => fI .i64 ds fun i14 ds => fI .i64 ds fun i15 ds => fI .i64 ds fun i16 ds => fI .u64 ds fun i17 ds => fI .u64 ds fun i18 ds => fI .u64 ds fun i19 ds => fI .i64 ds fun i20 _ => 
 some (.ret [.sl v2, .int .i64 i14, .int .i64 i15, .int .i64 i16, .int .u64 i17, .int .u64 i18, .int .u64 i19, .int .i64 i20]))
 (some (.ret [.sl v2, .int .i64 i4, .int .i64 2, .int .i64 i6, .int .u64 i7, .int .u64 i8, .int .u64 i12, .int .i64 i10]))))
 (cond ((i4 : Int) == 7)
 (Option.bind (note_kinds_2 [.int .u64 i8]) fun ds => fI .u64 ds fun i11 ds => fI .u64 ds fun i12 _ => 
 Option.bind (cell_Cas [.sl v1, .int .i64 2, .int .u64 i8, .int .u64 i11]) fun ds => fV ds fun v2 ds => fB ds fun b1 _ => 
 cond (!b1)
 (some (.ret [.sl v2, .int .i64 i4, .int .i64 0, .int .i64 i6, .int .u64 i7, .int .u64 i8, .int .u64 i9, .int .i64 i10]))
 (Option.bind (word_Mask [.int .u64 i8]) fun ds => fI .u64 ds fun i13 _ => 
 cond ((i13 : Int) == 0)
 (Option.bind (frame_End [.int .i64 i4, .int .i64 0, .int .i64 i6, .int .u64 i7, .int .u64 i8, .int .u64 i9, .int .i64 i10, .int .i64 3, .int .u64 0]) fun ds => fI .i64 ds fun i14 ds => fI .i64 ds fun i15 ds => fI .i64 ds fun i16 ds => fI .u64 ds fun i17 ds => fI .u64 ds fun i18 ds => fI .u64 ds fun i19 ds => fI .i64 ds fun i20 _ => 
 some (.ret [.sl v2, .int .i64 i14, .int .i64 i15, .int .i64 i16, .int .u64 i17, .int .u64 i18, .int .u64 i19, .int .i64 i20]))
 (some (.ret [.sl v2, .int .i64 i4, .int .i64 2, .int .i64 i6, .int .u64 i7, .int .u64 i8, .int .u64 i12, .int .i64 i10]))))
 (none)))
 (cond ((i4 : Int) == 6)
 (cond (decide ((i9 : Int) < 8))
 (loopE 0 (fun ds => fV ds fun v2 ds => fJ ds fun i11 _ => 
 cond (decide ((i11 : Int) < 1))
 (cond ((i11 : Int) == 0)
 (Option.bind (lay_Park [.int .i64 i0, .int .i64 i1, .int .i64 i2, .int .i64 i3, .int .i64 (IntKind.i64.wrap i9)]) fun ds => fI .i64 ds fun i12 _ => 
 Option.bind (cell_Store [.sl v2, .int .i64 i12, .int .u64 1]) fun ds => fV ds fun v3 _ => 
 some (.cont 0 [.sl v3, .int .i64 (IntKind.i64.wrap (i11 + 1))]))
 (none))
 (Option.bind (frame_End [.int .i64 i4, .int .i64 i5, .int .i64 i6, .int .u64 i7, .int .u64 i8, .int .u64 i9, .int .i64 i10, .int .i64 1, .int .u64 i9]) fun ds => fI .i64 ds fun i12 ds => fI .i64 ds fun i13 ds => fI .i64 ds fun i14 ds => fI .u64 ds fun i15 ds => fI .u64 ds fun i16 ds => fI .u64 ds fun i17 ds => fI .i64 ds fun i18 _ => 
 some (.ret [.sl v2, .int .i64 i12, .int .i64 i13, .int .i64 i14, .int .u64 i15, .int .u64 i16, .int .u64 i17, .int .i64 i18])))
 [.sl v1, .int .i64 0])
 (loopE 0 (fun ds => fV ds fun v2 ds => fJ ds fun i11 _ => 
 cond (decide ((i11 : Int) < 1))
 (cond ((i11 : Int) == 0)
 (Option.bind (lay_Park [.int .i64 i0, .int .i64 i1, .int .i64 i2, .int .i64 i3, .int .i64 (-1)]) fun ds => fI .i64 ds fun i12 _ => 
 Option.bind (cell_Store [.sl v2, .int .i64 i12, .int .u64 1]) fun ds => fV ds fun v3 _ => 
 some (.cont 0 [.sl v3, .int .i64 (IntKind.i64.wrap (i11 + 1))]))
 (none))
 (Option.bind (frame_End [.int .i64 i4, .int .i64 i5, .int .i64 i6, .int .u64 i7, .int .u64 i8, .int .u64 i9, .int .i64 i10, .int .i64 1, .int .u64 i9]) fun ds => fI .i64 ds fun i12 ds => fI .i64 ds fun i13 ds => fI .i64 ds fun i14 ds => fI .u64 ds fun i15 ds => fI .u64 ds fun i16 ds => fI .u64 ds fun i17 ds => fI .i64 ds fun i18 _ => 
 some (.ret [.sl v2, .int .i64 i12, .int .i64 i13, .int .i64 i14, .int .u64 i15, .int .u64 i16, .int .u64 i17, .int .i64 i18])))
 [.sl v1, .int .i64 0]))
 (Option.bind (word_Lowest [.int .u64 i9]) fun ds => fI .i64 ds fun i11 _ => 
 loopE 0 (fun ds => fV ds fun v2 ds => fJ ds fun i12 _ => 
 cond (decide ((i12 : Int) < 1))
 (cond ((i12 : Int) == 0)
 (Option.bind (lay_Park [.int .i64 i0, .int .i64 i1, .int .i64 i2, .int .i64 i3, .int .i64 i11]) fun ds => fI .i64 ds fun i13 _ => 
 Option.bind (cell_Store [.sl v2, .int .i64 i13, .int .u64 1]) fun ds => fV ds fun v3 _ => 
 some (.cont 0 [.sl v3, .int .i64 (IntKind.i64.wrap (i12 + 1))]))
 (none))
 (Option.bind (word_Mask [.int .u64 i9]) fun ds => fI .u64 ds fun i13 _ => 
 cond (((ibin .and .u64 i13 (IntKind.u64.wrap (i13 - 1))) : Int) == 0)
 (Option.bind (word_Mask [.int .u64 i8]) fun ds => fI .u64 ds fun i14 _ => 
 Option.bind (frame_End [.int .i64 i4, .int .i64 i5, .int .i64 i6, .int .u64 i7, .int .u64 i8, .int .u64 i13, .int .i64 i10, .int .i64 1, .int .u64 i14]) fun ds => fI .i64 ds fun i15 ds => fI .i64 ds fun i16 ds => fI .i64 ds fun i17 ds => fI .u64 ds fun i18 ds => fI .u64 ds fun i19 ds => fI .u64 ds fun i20 ds => fI .i64 ds fun i21 _ => 
 some (.ret [.sl v2, .int .i64 i15, .int .i64 i16, .int .i64 i17, .int .u64 i18, .int .u64 i19, .int .u64 i20, .int .i64 i21]))
 (cond ((i13 : Int) == 0)
 (Option.bind (word_Mask [.int .u64 i8]) fun ds => fI .u64 ds fun i14 _ => 
 Option.bind (frame_End [.int .i64 i4, .int .i64 i5, .int .i64 i6, .int .u64 i7, .int .u64 i8, .int .u64 i13, .int .i64 i10, .int .i64 1, .int .u64 i14]) fun ds => fI .i64 ds fun i15 ds => fI .i64 ds fun i16 ds => fI .i64 ds fun i17 ds => fI .u64 ds fun i18 ds => fI .u64 ds fun i19 ds => fI .u64 ds fun i20 ds => fI .i64 ds fun i21 _ => 
 some (.ret [.sl v2, .int .i64 i15, .int .i64 i16, .int .i64 i17, .int .u64 i18, .int .u64 i19, .int .u64 i20, .int .i64 i21]))
 (some (.ret [.sl v2, .int .i64 i4, .int .i64 i5, .int .i64 i6, .int .u64 i7, .int .u64 i8, .int .u64 (ibin .and .u64 i13 (IntKind.u64.wrap (i13 - 1))), .int .i64 i10])))))
 [.sl v1, .int .i64 0]))))) outR
noncomputable def event_Step (ds : List Dat) : Option (List Dat) :=
 fI .i64 ds fun i0 ds => fI .i64 ds fun i1 ds => fI .i64 ds fun i2 ds => fI .i64 ds fun i3 ds => fV ds fun v0 ds => fI .i64 ds fun i4 ds => fI .i64 ds fun i5 ds => fI .i64 ds fun i6 ds => fI .u64 ds fun i7 ds => fI .u64 ds fun i8 ds => fI .u64 ds fun i9 ds => fI .i64 ds fun i10 _ => 
 Option.bind (cond ((i4 : Int) == 5)
 (Option.bind (wait_Step [.int .i64 i0, .int .i64 i1, .int .i64 i2, .int .i64 i3, .sl v0, .int .i64 i4, .int .i64 i5, .int .i64 i6, .int .u64 i7, .int .u64 i8, .int .u64 i9, .int .i64 i10]) fun ds => fV ds fun v1 ds => fI .i64 ds fun i11 ds => fI .i64 ds fun i12 ds => fI .i64 ds fun i13 ds => fI .u64 ds fun i14 ds => fI .u64 ds fun i15 ds => fI .u64 ds fun i16 ds => fI .i64 ds fun i17 _ => 
 some (.ret [.sl v1, .int .i64 i11, .int .i64 i12, .int .i64 i13, .int .u64 i14, .int .u64 i15, .int .u64 i16, .int .i64 i17]))
 (cond ((i4 : Int) == 6)
 (Option.bind (note_Step [.int .i64 i0, .int .i64 i1, .int .i64 i2, .int .i64 i3, .sl v0, .int .i64 i4, .int .i64 i5, .int .i64 i6, .int .u64 i7, .int .u64 i8, .int .u64 i9, .int .i64 i10]) fun ds => fV ds fun v1 ds => fI .i64 ds fun i11 ds => fI .i64 ds fun i12 ds => fI .i64 ds fun i13 ds => fI .u64 ds fun i14 ds => fI .u64 ds fun i15 ds => fI .u64 ds fun i16 ds => fI .i64 ds fun i17 _ => 
 some (.ret [.sl v1, .int .i64 i11, .int .i64 i12, .int .i64 i13, .int .u64 i14, .int .u64 i15, .int .u64 i16, .int .i64 i17]))
 (cond ((i4 : Int) == 7)
 (Option.bind (note_Step [.int .i64 i0, .int .i64 i1, .int .i64 i2, .int .i64 i3, .sl v0, .int .i64 i4, .int .i64 i5, .int .i64 i6, .int .u64 i7, .int .u64 i8, .int .u64 i9, .int .i64 i10]) fun ds => fV ds fun v1 ds => fI .i64 ds fun i11 ds => fI .i64 ds fun i12 ds => fI .i64 ds fun i13 ds => fI .u64 ds fun i14 ds => fI .u64 ds fun i15 ds => fI .u64 ds fun i16 ds => fI .i64 ds fun i17 _ => 
 some (.ret [.sl v1, .int .i64 i11, .int .i64 i12, .int .i64 i13, .int .u64 i14, .int .u64 i15, .int .u64 i16, .int .i64 i17]))
 (Option.bind (slices_Clone_api_Mem_uint64 [.sl v0]) fun ds => fV ds fun v1 _ => 
 some (.ret [.sl v1, .int .i64 i4, .int .i64 i5, .int .i64 i6, .int .u64 i7, .int .u64 i8, .int .u64 i9, .int .i64 i10]))))) outR
noncomputable def slices_Clone__int_int (ds : List Dat) : Option (List Dat) :=
 fV ds fun v0 _ => 
 Option.bind (nilK v0
 (some (.ret [.sl []]))
 (apK true 1 [] v0 fun v1 =>
 some (.ret [.sl v1]))) outR
noncomputable def submit_New (ds : List Dat) : Option (List Dat) :=
 fV ds fun v0 _ => 
 Option.bind (Option.bind (slices_Clone__int_int [.sl v0]) fun ds => fV ds fun v1 _ => 
 some (.ret [.int .i64 0, .sl v1, .int .i64 0, .int .i64 0, .int .i64 0, .int .u64 0, .int .u64 0, .int .u64 0, .int .i64 0])) outR
noncomputable def forest_May_1 (ds : List Dat) : Option (List Dat) :=
 fI .i64 ds fun i0 ds => fV ds fun _ _ => 
 Option.bind (cond (decide ((i0 : Int) < 0))
 (some (.ret [.bool true]))
 (some (.ret [.bool (decide ((i0 : Int) > 20))]))) outR
noncomputable def forest_May (ds : List Dat) : Option (List Dat) :=
 fV ds fun v0 _ => 
 Option.bind (cond (decide (((v0.length : Int) : Int) > 30))
 (some (.ret [.bool false]))
 (loopE 0 (fun ds => fJ ds fun i0 ds => fJ ds fun i1 _ => 
 cond (decide ((i1 : Int) < (v0.length : Int)))
 (ixK v0 i1 (ldK v0 (Int.toNat i1) 2 0 fun ds => fI .i64 ds fun i2 ds => fV ds fun v2 _ => 
 Option.bind (forest_May_1 [.int .i64 i2, .sl v2]) fun ds => fB ds fun b0 _ => 
 cond b0
 (cond (decide ((i1 : Int) ≥ 0))
 (some (.ret [.bool false]))
 (mkK (v0.length : Int) [.bool false] fun v3 =>
 loopE 1 (fun ds => fV ds fun v3 ds => fJ ds fun i3 _ => 
 cond (decide ((i3 : Int) < (v0.length : Int)))
 (ixK v0 i3 (ldK v0 (Int.toNat i3) 2 0 fun ds => fI .i64 ds fun _ ds => fV ds fun v5 _ => 
 loopE 2 (fun ds => fV ds fun v3 ds => fJ ds fun i5 _ => 
 cond (decide ((i5 : Int) < (v5.length : Int)))
 (ixK v5 i5 (ldK v5 (Int.toNat i5) 1 0 fun ds => fI .i64 ds fun i6 _ => 
 cond (decide ((i6 : Int) ≤ i3))
 (some (.ret [.bool false]))
 (cond (decide ((i6 : Int) ≥ (v0.length : Int)))
 (some (.ret [.bool false]))
 (ixK v3 i6 (ldK v3 (Int.toNat i6) 1 0 fun ds => fB ds fun b1 _ => 
 cond b1
 (some (.ret [.bool false]))
 (ixK v3 i6 (stK v3 (Int.toNat i6) 1 0 [.bool true] fun v3_0 =>
 some (.cont 2 [.sl v3_0, .int .i64 (IntKind.i64.wrap (i5 + 1))]))))))))
 (some (.cont 1 [.sl v3, .int .i64 (IntKind.i64.wrap (i3 + 1))])))
 [.sl v3, .int .i64 0]))
 (some (.ret [.bool true])))
 [.sl v3, .int .i64 0]))
 (some (.cont 0 [.int .i64 i0, .int .i64 (IntKind.i64.wrap (i1 + 1))]))))
 (mkK (v0.length : Int) [.bool false] fun v1 =>
 loopE 1 (fun ds => fV ds fun v1 ds => fJ ds fun i2 _ => 
 cond (decide ((i2 : Int) < (v0.length : Int)))
 (ixK v0 i2 (ldK v0 (Int.toNat i2) 2 0 fun ds => fI .i64 ds fun _ ds => fV ds fun v3 _ => 
 loopE 2 (fun ds => fV ds fun v1 ds => fJ ds fun i4 _ => 
 cond (decide ((i4 : Int) < (v3.length : Int)))
 (ixK v3 i4 (ldK v3 (Int.toNat i4) 1 0 fun ds => fI .i64 ds fun i5 _ => 
 cond (decide ((i5 : Int) ≤ i2))
 (some (.ret [.bool false]))
 (cond (decide ((i5 : Int) ≥ (v0.length : Int)))
 (some (.ret [.bool false]))
 (ixK v1 i5 (ldK v1 (Int.toNat i5) 1 0 fun ds => fB ds fun b0 _ => 
 cond b0
 (some (.ret [.bool false]))
 (ixK v1 i5 (stK v1 (Int.toNat i5) 1 0 [.bool true] fun v1_1 =>
 some (.cont 2 [.sl v1_1, .int .i64 (IntKind.i64.wrap (i4 + 1))]))))))))
 (some (.cont 1 [.sl v1, .int .i64 (IntKind.i64.wrap (i2 + 1))])))
 [.sl v1, .int .i64 0]))
 (some (.ret [.bool true])))
 [.sl v1, .int .i64 0]))
 [.int .i64 0, .int .i64 0])) outR
noncomputable def submit_May (ds : List Dat) : Option (List Dat) :=
 fI .i64 ds fun i0 ds => fI .i64 ds fun i1 ds => fI .i64 ds fun i2 ds => fI .i64 ds fun i3 ds => fV ds fun v0 ds => fV ds fun v1 ds => fI .i64 ds fun i4 ds => fV ds fun v2 ds => fI .i64 ds fun _ ds => fI .i64 ds fun _ ds => fI .i64 ds fun _ ds => fI .u64 ds fun _ ds => fI .u64 ds fun _ ds => fI .u64 ds fun _ ds => fI .i64 ds fun _ _ => 
 Option.bind (Option.bind (lay_May [.int .i64 i0, .int .i64 i1, .int .i64 i2, .int .i64 i3]) fun ds => fB ds fun b0 _ => 
 cond b0
 (Option.bind (lay_Size [.int .i64 i0, .int .i64 i1, .int .i64 i2, .int .i64 i3]) fun ds => fI .i64 ds fun i12 _ => 
 cond (((v1.length : Int) : Int) == i12)
 (Option.bind (forest_May [.sl v0]) fun ds => fB ds fun b1 _ => 
 cond b1
 (cond (decide ((i4 : Int) ≥ 0))
 (cond (decide ((i4 : Int) < 6))
 (cond (decide (((v2.length : Int) : Int) > 0))
 (ixK v2 0 (ldK v2 (Int.toNat 0) 1 0 fun ds => fI .i64 ds fun i13 _ => 
 cond (decide ((i13 : Int) ≥ 0))
 (ixK v2 0 (ldK v2 (Int.toNat 0) 1 0 fun ds => fI .i64 ds fun i14 _ => 
 some (.ret [.bool (decide ((i14 : Int) < (v0.length : Int)))])))
 (some (.ret [.bool false]))))
 (some (.ret [.bool false])))
 (some (.ret [.bool false])))
 (some (.ret [.bool false])))
 (some (.ret [.bool false])))
 (some (.ret [.bool false])))
 (some (.ret [.bool false]))) outR
noncomputable def enq_fits (ds : List Dat) : Option (List Dat) :=
 fI .i64 ds fun i0 ds => fI .i64 ds fun i1 ds => fI .i64 ds fun i2 ds => fI .i64 ds fun i3 ds => fV ds fun v0 _ => 
 Option.bind (Option.bind (lay_May [.int .i64 i0, .int .i64 i1, .int .i64 i2, .int .i64 i3]) fun ds => fB ds fun b0 _ => 
 cond b0
 (Option.bind (lay_Size [.int .i64 i0, .int .i64 i1, .int .i64 i2, .int .i64 i3]) fun ds => fI .i64 ds fun i4 _ => 
 some (.ret [.bool (((v0.length : Int) : Int) == i4)]))
 (some (.ret [.bool false]))) outR
noncomputable def enq_Goes (ds : List Dat) : Option (List Dat) :=
 fI .i64 ds fun i0 ds => fI .i64 ds fun i1 ds => fI .i64 ds fun i2 ds => fI .i64 ds fun i3 ds => fV ds fun v0 ds => fI .i64 ds fun i4 ds => fI .i64 ds fun i5 ds => fI .i64 ds fun i6 ds => fI .u64 ds fun i7 ds => fI .u64 ds fun i8 ds => fI .u64 ds fun i9 ds => fI .i64 ds fun i10 ds => fI .i64 ds fun i11 _ => 
 Option.bind (Option.bind (enq_fits [.int .i64 i0, .int .i64 i1, .int .i64 i2, .int .i64 i3, .sl v0]) fun ds => fB ds fun b0 _ => 
 cond b0
 (Option.bind (frame_Over [.int .i64 i4, .int .i64 i5, .int .i64 i6, .int .u64 i7, .int .u64 i8, .int .u64 i9, .int .i64 i10]) fun ds => fB ds fun b1 _ => 
 cond (!b1)
 (cond ((i4 : Int) == i11)
 (cond (decide ((i5 : Int) ≥ 0))
 (some (.ret [.bool (decide ((i5 : Int) < 5))]))
 (some (.ret [.bool false])))
 (some (.ret [.bool false])))
 (some (.ret [.bool false])))
 (some (.ret [.bool false]))) outR
noncomputable def lay_Seq (ds : List Dat) : Option (List Dat) :=
 fI .i64 ds fun i0 ds => fI .i64 ds fun i1 ds => fI .i64 ds fun i2 ds => fI .i64 ds fun i3 ds => fI .u64 ds fun i4 _ => 
 Option.bind (Option.bind (lay_May [.int .i64 i0, .int .i64 i1, .int .i64 i2, .int .i64 i3]) fun ds => fB ds fun b0 _ => 
 cond (!b0)
 (some (.ret [.int .i64 (-1)]))
 (Option.bind (lay_in [.int .i64 0, .int .i64 0, .int .i64 (IntKind.i64.wrap (i0 - 1))]) fun ds => fB ds fun b1 _ => 
 cond (!b1)
 (some (.ret [.int .i64 (-1)]))
 (cond (((IntKind.u64.wrap i2) : Int) != 0) (some (.ret [.int .i64 (IntKind.i64.wrap (6 + (IntKind.i64.wrap (Int.tmod i4 (IntKind.u64.wrap i2)))))])) none))) outR
noncomputable def word_Far (ds : List Dat) : Option (List Dat) :=
 fI .u64 ds fun i0 ds => fI .u64 ds fun i1 _ => 
 Option.bind (some (.ret [.int .i64 (IntKind.i64.wrap (IntKind.u64.wrap (i0 - i1)))])) outR
noncomputable def lay_Val (ds : List Dat) : Option (List Dat) :=
 fI .i64 ds fun i0 ds => fI .i64 ds fun i1 ds => fI .i64 ds fun i2 ds => fI .i64 ds fun i3 ds => fI .u64 ds fun i4 _ => 
 Option.bind (Option.bind (lay_May [.int .i64 i0, .int .i64 i1, .int .i64 i2, .int .i64 i3]) fun ds => fB ds fun b0 _ => 
 cond (!b0)
 (some (.ret [.int .i64 (-1)]))
 (Option.bind (lay_in [.int .i64 0, .int .i64 0, .int .i64 (IntKind.i64.wrap (i0 - 1))]) fun ds => fB ds fun b1 _ => 
 cond (!b1)
 (some (.ret [.int .i64 (-1)]))
 (cond (((IntKind.u64.wrap i2) : Int) != 0) (some (.ret [.int .i64 (IntKind.i64.wrap ((IntKind.i64.wrap (6 + i2)) + (IntKind.i64.wrap (Int.tmod i4 (IntKind.u64.wrap i2)))))])) none))) outR
noncomputable def enq_Step (ds : List Dat) : Option (List Dat) :=
 fI .i64 ds fun i0 ds => fI .i64 ds fun i1 ds => fI .i64 ds fun i2 ds => fI .i64 ds fun i3 ds => fV ds fun v0 ds => fI .i64 ds fun i4 ds => fI .i64 ds fun i5 ds => fI .i64 ds fun i6 ds => fI .u64 ds fun i7 ds => fI .u64 ds fun i8 ds => fI .u64 ds fun i9 ds => fI .i64 ds fun i10 _ => 
 Option.bind (Option.bind (slices_Clone_api_Mem_uint64 [.sl v0]) fun ds => fV ds fun v1 _ => 
 Option.bind (enq_Goes [.int .i64 i0, .int .i64 i1, .int .i64 i2, .int .i64 i3, .sl v0, .int .i64 i4, .int .i64 i5, .int .i64 i6, .int .u64 i7, .int .u64 i8, .int .u64 i9, .int .i64 i10, .int .i64 3]) fun ds => fB ds fun b0 _ => 
 cond (!b0)
 (some (.ret [.sl v1, .int .i64 i4, .int .i64 i5, .int .i64 i6, .int .u64 i7, .int .u64 i8, .int .u64 i9, .int .i64 i10]))
 (cond ((i5 : Int) == 0)
 (Option.bind (cell_Load [.sl v1, .int .i64 5]) fun ds => fI .u64 ds fun i11 _ => 
 some (.ret [.sl v1, .int .i64 i4, .int .i64 1, .int .i64 i6, .int .u64 i7, .int .u64 i11, .int .u64 i9, .int .i64 i10]))
 (cond ((i5 : Int) == 1)
 (Option.bind (lay_Seq [.int .i64 i0, .int .i64 i1, .int .i64 i2, .int .i64 i3, .int .u64 i8]) fun ds => fI .i64 ds fun i11 _ => 
 Option.bind (cell_Load [.sl v1, .int .i64 i11]) fun ds => fI .u64 ds fun i12 _ => 
 cond (((IntKind.u64.wrap i2) : Int) != 0) (cond ((i12 : Int) == (IntKind.u64.wrap ((IntKind.u64.wrap (Int.tdiv i8 (IntKind.u64.wrap i2))) * 2)))
 (some (.ret [.sl v1, .int .i64 i4, .int .i64 2, .int .i64 i6, .int .u64 i7, .int .u64 i8, .int .u64 i12, .int .i64 i10]))
 (Option.bind (word_Far [.int .u64 i12, .int .u64 (IntKind.u64.wrap ((IntKind.u64.wrap (Int.tdiv i8 (IntKind.u64.wrap i2))) * 2))]) fun ds => fI .i64 ds fun i13 _ => 
 cond (decide ((i13 : Int) < 0))
 (Option.bind (frame_End [.int .i64 i4, .int .i64 i5, .int .i64 i6, .int .u64 i7, .int .u64 i8, .int .u64 i12, .int .i64 i10, .int .i64 2, .int .u64 i7]) fun ds => fI .i64 ds fun i14 ds => fI .i64 ds fun _ ds => fI .i64 ds fun i16 ds => fI .u64 ds fun i17 ds => fI .u64 ds fun i18 ds => fI .u64 ds fun i19 ds => fI .i64 ds fun i20 _ => 
 some (.ret [.sl v1, .int .i64 i14, .int .i64 0, .int .i64 i16, .int .u64 i17, .int .u64 i18, .int .u64 i19, .int .i64 i20]))
 (some (.ret [.sl v1, .int .i64 i4, .int .i64 0, .int .i64 i6, .int .u64 i7, .int .u64 i8, .int .u64 i12, .int .i64 i10])))) none)
 (cond ((i5 : Int) == 2)
 (Option.bind (cell_Cas [.sl v1, .int .i64 5, .int .u64 i8, .int .u64 (IntKind.u64.wrap (i8 + 1))]) fun ds => fV ds fun v2 ds => fB ds fun b1 _ => 
 cond b1
 (some (.ret [.sl v2, .int .i64 i4, .int .i64 3, .int .i64 i6, .int .u64 i7, .int .u64 i8, .int .u64 i9, .int .i64 i10]))
 (some (.ret [.sl v2, .int .i64 i4, .int .i64 0, .int .i64 i6, .int .u64 i7, .int .u64 i8, .int .u64 i9, .int .i64 i10])))
 (cond ((i5 : Int) == 3)
 (Option.bind (lay_Val [.int .i64 i0, .int .i64 i1, .int .i64 i2, .int .i64 i3, .int .u64 i8]) fun ds => fI .i64 ds fun i11 _ => 
 Option.bind (cell_Store [.sl v1, .int .i64 i11, .int .u64 i7]) fun ds => fV ds fun v2 _ => 
 some (.ret [.sl v2, .int .i64 i4, .int .i64 4, .int .i64 i6, .int .u64 i7, .int .u64 i8, .int .u64 i9, .int .i64 i10]))
 (cond ((i5 : Int) == 4)
 (Option.bind (lay_Seq [.int .i64 i0, .int .i64 i1, .int .i64 i2, .int .i64 i3, .int .u64 i8]) fun ds => fI .i64 ds fun i11 _ => 
 cond (((IntKind.u64.wrap i2) : Int) != 0) (Option.bind (cell_Store [.sl v1, .int .i64 i11, .int .u64 (IntKind.u64.wrap ((IntKind.u64.wrap ((IntKind.u64.wrap (Int.tdiv i8 (IntKind.u64.wrap i2))) * 2)) + 1))]) fun ds => fV ds fun v2 _ => 
 Option.bind (frame_End [.int .i64 i4, .int .i64 i5, .int .i64 i6, .int .u64 i7, .int .u64 i8, .int .u64 i9, .int .i64 i10, .int .i64 1, .int .u64 i7]) fun ds => fI .i64 ds fun i12 ds => fI .i64 ds fun _ ds => fI .i64 ds fun i14 ds => fI .u64 ds fun i15 ds => fI .u64 ds fun i16 ds => fI .u64 ds fun i17 ds => fI .i64 ds fun i18 _ => 
 some (.ret [.sl v2, .int .i64 i12, .int .i64 0, .int .i64 i14, .int .u64 i15, .int .u64 i16, .int .u64 i17, .int .i64 i18])) none)
 (none))))))) outR
noncomputable def deq_full (ds : List Dat) : Option (List Dat) :=
 fI .i64 ds fun _ ds => fI .i64 ds fun _ ds => fI .i64 ds fun i2 ds => fI .i64 ds fun _ ds => fI .u64 ds fun i4 _ => 
 Option.bind (cond (((IntKind.u64.wrap i2) : Int) != 0) (some (.ret [.int .u64 (IntKind.u64.wrap ((IntKind.u64.wrap ((IntKind.u64.wrap (Int.tdiv i4 (IntKind.u64.wrap i2))) * 2)) + 1))])) none) outR
noncomputable def deq_Step (ds : List Dat) : Option (List Dat) :=
 fI .i64 ds fun i0 ds => fI .i64 ds fun i1 ds => fI .i64 ds fun i2 ds => fI .i64 ds fun i3 ds => fV ds fun v0 ds => fI .i64 ds fun i4 ds => fI .i64 ds fun i5 ds => fI .i64 ds fun i6 ds => fI .u64 ds fun i7 ds => fI .u64 ds fun i8 ds => fI .u64 ds fun i9 ds => fI .i64 ds fun i10 _ => 
 Option.bind (Option.bind (slices_Clone_api_Mem_uint64 [.sl v0]) fun ds => fV ds fun v1 _ => 
 Option.bind (enq_Goes [.int .i64 i0, .int .i64 i1, .int .i64 i2, .int .i64 i3, .sl v0, .int .i64 i4, .int .i64 i5, .int .i64 i6, .int .u64 i7, .int .u64 i8, .int .u64 i9, .int .i64 i10, .int .i64 4]) fun ds => fB ds fun b0 _ => 
 cond (!b0)
 (some (.ret [.sl v1, .int .i64 i4, .int .i64 i5, .int .i64 i6, .int .u64 i7, .int .u64 i8, .int .u64 i9, .int .i64 i10]))
 (cond ((i5 : Int) == 0)
 (Option.bind (cell_Load [.sl v1, .int .i64 4]) fun ds => fI .u64 ds fun i11 _ => 
 some (.ret [.sl v1, .int .i64 i4, .int .i64 1, .int .i64 i6, .int .u64 i7, .int .u64 i11, .int .u64 i9, .int .i64 i10]))
 (cond ((i5 : Int) == 1)
 (Option.bind (lay_Seq [.int .i64 i0, .int .i64 i1, .int .i64 i2, .int .i64 i3, .int .u64 i8]) fun ds => fI .i64 ds fun i11 _ => 
 Option.bind (cell_Load [.sl v1, .int .i64 i11]) fun ds => fI .u64 ds fun i12 _ => 
 Option.bind (deq_full [.int .i64 i0, .int .i64 i1, .int .i64 i2, .int .i64 i3, .int .u64 i8]) fun ds => fI .u64 ds fun i13 _ => 
 Option.bind (word_Far [.int .u64 i12, .int .u64 i13]) fun ds => fI .i64 ds fun i14 _ => 
 cond ((i14 : Int) == 0)
 (some (.ret [.sl v1, .int .i64 i4, .int .i64 2, .int .i64 i6, .int .u64 i7, .int .u64 i8, .int .u64 i12, .int .i64 i10]))
 (cond (decide ((i14 : Int) < 0))
 (Option.bind (frame_End [.int .i64 i4, .int .i64 0, .int .i64 i6, .int .u64 i7, .int .u64 i8, .int .u64 i12, .int .i64 i10, .int .i64 3, .int .u64 0]) fun ds => fI .i64 ds fun i15 ds => fI .i64 ds fun i16 ds => fI .i64 ds fun i17 ds => fI .u64 ds fun i18 ds => fI .u64 ds fun i19 ds => fI .u64 ds fun i20 ds => fI .i64 ds fun i21 _ => 
 some (.ret [.sl v1, .int .i64 i15, .int .i64 i16, .int .i64 i17, .int .u64 i18, .int .u64 i19, .int .u64 i20, .int .i64 i21]))
 (some (.ret [.sl v1, .int .i64 i4, .int .i64 0, .int .i64 i6, .int .u64 i7, .int .u64 i8, .int .u64 i12, .int .i64 i10]))))
 (cond ((i5 : Int) == 2)
 (Option.bind (cell_Cas [.sl v1, .int .i64 4, .int .u64 i8, .int .u64 (IntKind.u64.wrap (i8 + 1))]) fun ds => fV ds fun v2 ds => fB ds fun b1 _ => 
 cond b1
 (some (.ret [.sl v2, .int .i64 i4, .int .i64 3, .int .i64 i6, .int .u64 i7, .int .u64 i8, .int .u64 i9, .int .i64 i10]))
 (some (.ret [.sl v2, .int .i64 i4, .int .i64 0, .int .i64 i6, .int .u64 i7, .int .u64 i8, .int .u64 i9, .int .i64 i10])))
 (cond ((i5 : Int) == 3)
 (Option.bind (lay_Val [.int .i64 i0, .int .i64 i1, .int .i64 i2, .int .i64 i3, .int .u64 i8]) fun ds => fI .i64 ds fun i11 _ => 
 Option.bind (cell_Load [.sl v1, .int .i64 i11]) fun ds => fI .u64 ds fun i12 _ => 
 some (.ret [.sl v1, .int .i64 i4, .int .i64 4, .int .i64 i6, .int .u64 i12, .int .u64 i8, .int .u64 i9, .int .i64 i10]))
 (Option.bind (lay_Seq [.int .i64 i0, .int .i64 i1, .int .i64 i2, .int .i64 i3, .int .u64 i8]) fun ds => fI .i64 ds fun i11 _ => 
 Option.bind (deq_full [.int .i64 i0, .int .i64 i1, .int .i64 i2, .int .i64 i3, .int .u64 i8]) fun ds => fI .u64 ds fun i12 _ => 
 Option.bind (cell_Store [.sl v1, .int .i64 i11, .int .u64 (IntKind.u64.wrap (i12 + 1))]) fun ds => fV ds fun v2 _ => 
 Option.bind (frame_End [.int .i64 i4, .int .i64 i5, .int .i64 i6, .int .u64 i7, .int .u64 i8, .int .u64 i9, .int .i64 i10, .int .i64 1, .int .u64 i7]) fun ds => fI .i64 ds fun i13 ds => fI .i64 ds fun i14 ds => fI .i64 ds fun i15 ds => fI .u64 ds fun i16 ds => fI .u64 ds fun i17 ds => fI .u64 ds fun i18 ds => fI .i64 ds fun i19 _ => 
 some (.ret [.sl v2, .int .i64 i13, .int .i64 i14, .int .i64 i15, .int .u64 i16, .int .u64 i17, .int .u64 i18, .int .i64 i19]))))))) outR
noncomputable def inject_Step (ds : List Dat) : Option (List Dat) :=
 fI .i64 ds fun i0 ds => fI .i64 ds fun i1 ds => fI .i64 ds fun i2 ds => fI .i64 ds fun i3 ds => fV ds fun v0 ds => fI .i64 ds fun i4 ds => fI .i64 ds fun i5 ds => fI .i64 ds fun i6 ds => fI .u64 ds fun i7 ds => fI .u64 ds fun i8 ds => fI .u64 ds fun i9 ds => fI .i64 ds fun i10 _ => 
 Option.bind (cond ((i4 : Int) == 3)
 (Option.bind (enq_Step [.int .i64 i0, .int .i64 i1, .int .i64 i2, .int .i64 i3, .sl v0, .int .i64 i4, .int .i64 i5, .int .i64 i6, .int .u64 i7, .int .u64 i8, .int .u64 i9, .int .i64 i10]) fun ds => fV ds fun v1 ds => fI .i64 ds fun i11 ds => fI .i64 ds fun i12 ds => fI .i64 ds fun i13 ds => fI .u64 ds fun i14 ds => fI .u64 ds fun i15 ds => fI .u64 ds fun i16 ds => fI .i64 ds fun i17 _ => 
 some (.ret [.sl v1, .int .i64 i11, .int .i64 i12, .int .i64 i13, .int .u64 i14, .int .u64 i15, .int .u64 i16, .int .i64 i17]))
 (cond ((i4 : Int) == 4)
 (Option.bind (deq_Step [.int .i64 i0, .int .i64 i1, .int .i64 i2, .int .i64 i3, .sl v0, .int .i64 i4, .int .i64 i5, .int .i64 i6, .int .u64 i7, .int .u64 i8, .int .u64 i9, .int .i64 i10]) fun ds => fV ds fun v1 ds => fI .i64 ds fun i11 ds => fI .i64 ds fun i12 ds => fI .i64 ds fun i13 ds => fI .u64 ds fun i14 ds => fI .u64 ds fun i15 ds => fI .u64 ds fun i16 ds => fI .i64 ds fun i17 _ => 
 some (.ret [.sl v1, .int .i64 i11, .int .i64 i12, .int .i64 i13, .int .u64 i14, .int .u64 i15, .int .u64 i16, .int .i64 i17]))
 (Option.bind (slices_Clone_api_Mem_uint64 [.sl v0]) fun ds => fV ds fun v1 _ => 
 some (.ret [.sl v1, .int .i64 i4, .int .i64 i5, .int .i64 i6, .int .u64 i7, .int .u64 i8, .int .u64 i9, .int .i64 i10])))) outR
noncomputable def cell_Add (ds : List Dat) : Option (List Dat) :=
 fV ds fun v0 ds => fI .i64 ds fun i0 ds => fI .u64 ds fun i1 _ => 
 Option.bind (Option.bind (slices_Clone_api_Mem_uint64 [.sl v0]) fun ds => fV ds fun v1 _ => 
 Option.bind (cell_is [.sl v0, .int .i64 i0]) fun ds => fB ds fun b0 _ => 
 cond (!b0)
 (some (.ret [.sl v1, .int .u64 0]))
 (ixK v0 i0 (ldK v0 (Int.toNat i0) 1 0 fun ds => fI .u64 ds fun i2 _ => 
 ixK v1 i0 (stK v1 (Int.toNat i0) 1 0 [.int .u64 (IntKind.u64.wrap (i2 + i1))] fun v1_0 =>
 ixK v0 i0 (ldK v0 (Int.toNat i0) 1 0 fun ds => fI .u64 ds fun i3 _ => 
 some (.ret [.sl v1_0, .int .u64 i3])))))) outR
noncomputable def submit_Step (ds : List Dat) : Option (List Dat) :=
 fI .i64 ds fun i0 ds => fI .i64 ds fun i1 ds => fI .i64 ds fun i2 ds => fI .i64 ds fun i3 ds => fV ds fun v0 ds => fV ds fun v1 ds => fI .i64 ds fun i4 ds => fI .i64 ds fun i5 ds => fV ds fun v2 ds => fI .i64 ds fun i6 ds => fI .i64 ds fun i7 ds => fI .i64 ds fun i8 ds => fI .u64 ds fun i9 ds => fI .u64 ds fun i10 ds => fI .u64 ds fun i11 ds => fI .i64 ds fun i12 _ => 
 Option.bind (Option.bind (slices_Clone_api_Mem_uint64 [.sl v1]) fun ds => fV ds fun v3 _ => 
 agree (Option.bind (slices_Clone__int_int [.sl v2]) fun ds => fV ds fun v4 _ => 
 Option.bind (submit_May [.int .i64 i0, .int .i64 i1, .int .i64 i2, .int .i64 i3, .sl v0, .sl v1, .int .i64 i5, .sl v2, .int .i64 i6, .int .i64 i7, .int .i64 i8, .int .u64 i9, .int .u64 i10, .int .u64 i11, .int .i64 i12]) fun ds => fB ds fun b0 _ => 
 cond (!b0)
 (some (.ret [.sl v3, .int .i64 i5, .sl v4, .int .i64 i6, .int .i64 i7, .int .i64 i8, .int .u64 i9, .int .u64 i10, .int .u64 i11, .int .i64 i12, .sl []]))
 (ixK v4 0 (ldK v4 (Int.toNat 0) 1 0 fun ds => fI .i64 ds fun i13 _ => 
 cond ((i5 : Int) == 0)
 (Option.bind (cell_Load [.sl v3, .int .i64 3]) fun ds => fI .u64 ds fun i14 _ => 
 cond ((i14 : Int) != 0)
 (apK true 3 [] [[.int .i64 1, .int .i64 i13, .int .i64 i4]] fun v6 =>
 slK 1 v4 1 (v4.length : Int) fun v7 =>
 some (.ret [.sl v3, .int .i64 0, .sl v7, .int .i64 0, .int .i64 0, .int .i64 0, .int .u64 0, .int .u64 0, .int .u64 0, .int .i64 0, .sl v6]))
 (some (.ret [.sl v3, .int .i64 1, .sl v4, .int .i64 i6, .int .i64 i7, .int .i64 i8, .int .u64 i9, .int .u64 i10, .int .u64 i11, .int .i64 i12, .sl []])))
 (cond ((i5 : Int) == 1)
 (Option.bind (cell_Add [.sl v3, .int .i64 0, .int .u64 1]) fun ds => fV ds fun v6 ds => fI .u64 ds fun _ _ => 
 Option.bind (frame_Begin [.int .i64 3, .int .i64 i4, .int .u64 (IntKind.u64.wrap i13)]) fun ds => fI .i64 ds fun i15 ds => fI .i64 ds fun i16 ds => fI .i64 ds fun i17 ds => fI .u64 ds fun i18 ds => fI .u64 ds fun i19 ds => fI .u64 ds fun i20 ds => fI .i64 ds fun i21 _ => 
 some (.ret [.sl v6, .int .i64 2, .sl v4, .int .i64 i15, .int .i64 i16, .int .i64 i17, .int .u64 i18, .int .u64 i19, .int .u64 i20, .int .i64 i21, .sl []]))
 (cond ((i5 : Int) == 2)
 (cond ((i6 : Int) == 3)
 (Option.bind (inject_Step [.int .i64 i0, .int .i64 i1, .int .i64 i2, .int .i64 i3, .sl v3, .int .i64 i6, .int .i64 i7, .int .i64 i8, .int .u64 i9, .int .u64 i10, .int .u64 i11, .int .i64 i12]) fun ds => fV ds fun v6 ds => fI .i64 ds fun i14 ds => fI .i64 ds fun i15 ds => fI .i64 ds fun i16 ds => fI .u64 ds fun i17 ds => fI .u64 ds fun i18 ds => fI .u64 ds fun i19 ds => fI .i64 ds fun i20 _ => 
 Option.bind (frame_Over [.int .i64 i14, .int .i64 i15, .int .i64 i16, .int .u64 i17, .int .u64 i18, .int .u64 i19, .int .i64 i20]) fun ds => fB ds fun b1 _ => 
 cond (!b1)
 (some (.ret [.sl v6, .int .i64 i5, .sl v4, .int .i64 i14, .int .i64 i15, .int .i64 i16, .int .u64 i17, .int .u64 i18, .int .u64 i19, .int .i64 i20, .sl []]))
 (cond ((i20 : Int) != 2)
 (apK true 3 [] [[.int .i64 0, .int .i64 i13, .int .i64 i4]] fun v7 =>
 some (.ret [.sl v6, .int .i64 3, .sl v4, .int .i64 i14, .int .i64 i15, .int .i64 i16, .int .u64 i17, .int .u64 i18, .int .u64 i19, .int .i64 i20, .sl v7]))
 (some (.ret [.sl v6, .int .i64 5, .sl v4, .int .i64 i14, .int .i64 i15, .int .i64 i16, .int .u64 i17, .int .u64 i18, .int .u64 i19, .int .i64 i20, .sl []]))))
 (cond ((i6 : Int) == 4)
 (Option.bind (inject_Step [.int .i64 i0, .int .i64 i1, .int .i64 i2, .int .i64 i3, .sl v3, .int .i64 i6, .int .i64 i7, .int .i64 i8, .int .u64 i9, .int .u64 i10, .int .u64 i11, .int .i64 i12]) fun ds => fV ds fun v6 ds => fI .i64 ds fun i14 ds => fI .i64 ds fun i15 ds => fI .i64 ds fun i16 ds => fI .u64 ds fun i17 ds => fI .u64 ds fun i18 ds => fI .u64 ds fun i19 ds => fI .i64 ds fun i20 _ => 
 Option.bind (frame_Over [.int .i64 i14, .int .i64 i15, .int .i64 i16, .int .u64 i17, .int .u64 i18, .int .u64 i19, .int .i64 i20]) fun ds => fB ds fun b1 _ => 
 cond (!b1)
 (some (.ret [.sl v6, .int .i64 i5, .sl v4, .int .i64 i14, .int .i64 i15, .int .i64 i16, .int .u64 i17, .int .u64 i18, .int .u64 i19, .int .i64 i20, .sl []]))
 (cond ((i20 : Int) != 2)
 (apK true 3 [] [[.int .i64 0, .int .i64 i13, .int .i64 i4]] fun v7 =>
 some (.ret [.sl v6, .int .i64 3, .sl v4, .int .i64 i14, .int .i64 i15, .int .i64 i16, .int .u64 i17, .int .u64 i18, .int .u64 i19, .int .i64 i20, .sl v7]))
 (some (.ret [.sl v6, .int .i64 5, .sl v4, .int .i64 i14, .int .i64 i15, .int .i64 i16, .int .u64 i17, .int .u64 i18, .int .u64 i19, .int .i64 i20, .sl []]))))
 (Option.bind (event_Step [.int .i64 i0, .int .i64 i1, .int .i64 i2, .int .i64 i3, .sl v3, .int .i64 i6, .int .i64 i7, .int .i64 i8, .int .u64 i9, .int .u64 i10, .int .u64 i11, .int .i64 i12]) fun ds => fV ds fun v6 ds => fI .i64 ds fun i14 ds => fI .i64 ds fun i15 ds => fI .i64 ds fun i16 ds => fI .u64 ds fun i17 ds => fI .u64 ds fun i18 ds => fI .u64 ds fun i19 ds => fI .i64 ds fun i20 _ => 
 Option.bind (frame_Over [.int .i64 i14, .int .i64 i15, .int .i64 i16, .int .u64 i17, .int .u64 i18, .int .u64 i19, .int .i64 i20]) fun ds => fB ds fun b1 _ => 
 cond (!b1)
 (some (.ret [.sl v6, .int .i64 i5, .sl v4, .int .i64 i14, .int .i64 i15, .int .i64 i16, .int .u64 i17, .int .u64 i18, .int .u64 i19, .int .i64 i20, .sl []]))
 (cond ((i20 : Int) != 2)
 (apK true 3 [] [[.int .i64 0, .int .i64 i13, .int .i64 i4]] fun v7 =>
 some (.ret [.sl v6, .int .i64 3, .sl v4, .int .i64 i14, .int .i64 i15, .int .i64 i16, .int .u64 i17, .int .u64 i18, .int .u64 i19, .int .i64 i20, .sl v7]))
 (some (.ret [.sl v6, .int .i64 5, .sl v4, .int .i64 i14, .int .i64 i15, .int .i64 i16, .int .u64 i17, .int .u64 i18, .int .u64 i19, .int .i64 i20, .sl []]))))))
 (cond ((i5 : Int) == 3)
 (Option.bind (cell_Load [.sl v3, .int .i64 1]) fun ds => fI .u64 ds fun i14 _ => 
 cond ((i14 : Int) != 0)
 (slK 1 v4 1 (v4.length : Int) fun v6 =>
 some (.ret [.sl v3, .int .i64 0, .sl v6, .int .i64 0, .int .i64 0, .int .i64 0, .int .u64 0, .int .u64 0, .int .u64 0, .int .i64 0, .sl []]))
 (Option.bind (frame_Begin [.int .i64 6, .int .i64 i4, .int .u64 0]) fun ds => fI .i64 ds fun i15 ds => fI .i64 ds fun i16 ds => fI .i64 ds fun i17 ds => fI .u64 ds fun i18 ds => fI .u64 ds fun i19 ds => fI .u64 ds fun i20 ds => fI .i64 ds fun i21 _ => 
 some (.ret [.sl v3, .int .i64 4, .sl v4, .int .i64 i15, .int .i64 i16, .int .i64 i17, .int .u64 i18, .int .u64 i19, .int .u64 i20, .int .i64 i21, .sl []])))
 (cond ((i5 : Int) == 4)
 (cond ((i6 : Int) == 3)
 (Option.bind (inject_Step [.int .i64 i0, .int .i64 i1, .int .i64 i2, .int .i64 i3, .sl v3, .int .i64 i6, .int .i64 i7, .int .i64 i8, .int .u64 i9, .int .u64 i10, .int .u64 i11, .int .i64 i12]) fun ds => fV ds fun v6 ds => fI .i64 ds fun i14 ds => fI .i64 ds fun i15 ds => fI .i64 ds fun i16 ds => fI .u64 ds fun i17 ds => fI .u64 ds fun i18 ds => fI .u64 ds fun i19 ds => fI .i64 ds fun i20 _ => 
 Option.bind (frame_Over [.int .i64 i14, .int .i64 i15, .int .i64 i16, .int .u64 i17, .int .u64 i18, .int .u64 i19, .int .i64 i20]) fun ds => fB ds fun b1 _ => 
 cond b1
 (slK 1 v4 1 (v4.length : Int) fun v7 =>
 some (.ret [.sl v6, .int .i64 0, .sl v7, .int .i64 0, .int .i64 0, .int .i64 0, .int .u64 0, .int .u64 0, .int .u64 0, .int .i64 0, .sl []]))
 (some (.ret [.sl v6, .int .i64 i5, .sl v4, .int .i64 i14, .int .i64 i15, .int .i64 i16, .int .u64 i17, .int .u64 i18, .int .u64 i19, .int .i64 i20, .sl []])))
 (cond ((i6 : Int) == 4)
 (Option.bind (inject_Step [.int .i64 i0, .int .i64 i1, .int .i64 i2, .int .i64 i3, .sl v3, .int .i64 i6, .int .i64 i7, .int .i64 i8, .int .u64 i9, .int .u64 i10, .int .u64 i11, .int .i64 i12]) fun ds => fV ds fun v6 ds => fI .i64 ds fun i14 ds => fI .i64 ds fun i15 ds => fI .i64 ds fun i16 ds => fI .u64 ds fun i17 ds => fI .u64 ds fun i18 ds => fI .u64 ds fun i19 ds => fI .i64 ds fun i20 _ => 
 Option.bind (frame_Over [.int .i64 i14, .int .i64 i15, .int .i64 i16, .int .u64 i17, .int .u64 i18, .int .u64 i19, .int .i64 i20]) fun ds => fB ds fun b1 _ => 
 cond b1
 (slK 1 v4 1 (v4.length : Int) fun v7 =>
 some (.ret [.sl v6, .int .i64 0, .sl v7, .int .i64 0, .int .i64 0, .int .i64 0, .int .u64 0, .int .u64 0, .int .u64 0, .int .i64 0, .sl []]))
 (some (.ret [.sl v6, .int .i64 i5, .sl v4, .int .i64 i14, .int .i64 i15, .int .i64 i16, .int .u64 i17, .int .u64 i18, .int .u64 i19, .int .i64 i20, .sl []])))
 (Option.bind (event_Step [.int .i64 i0, .int .i64 i1, .int .i64 i2, .int .i64 i3, .sl v3, .int .i64 i6, .int .i64 i7, .int .i64 i8, .int .u64 i9, .int .u64 i10, .int .u64 i11, .int .i64 i12]) fun ds => fV ds fun v6 ds => fI .i64 ds fun i14 ds => fI .i64 ds fun i15 ds => fI .i64 ds fun i16 ds => fI .u64 ds fun i17 ds => fI .u64 ds fun i18 ds => fI .u64 ds fun i19 ds => fI .i64 ds fun i20 _ => 
 Option.bind (frame_Over [.int .i64 i14, .int .i64 i15, .int .i64 i16, .int .u64 i17, .int .u64 i18, .int .u64 i19, .int .i64 i20]) fun ds => fB ds fun b1 _ => 
 cond b1
 (slK 1 v4 1 (v4.length : Int) fun v7 =>
 some (.ret [.sl v6, .int .i64 0, .sl v7, .int .i64 0, .int .i64 0, .int .i64 0, .int .u64 0, .int .u64 0, .int .u64 0, .int .i64 0, .sl []]))
 (some (.ret [.sl v6, .int .i64 i5, .sl v4, .int .i64 i14, .int .i64 i15, .int .i64 i16, .int .u64 i17, .int .u64 i18, .int .u64 i19, .int .i64 i20, .sl []])))))
 (cond ((i5 : Int) == 5)
 (Option.bind (cell_Add [.sl v3, .int .i64 0, .int .u64 18446744073709551615]) fun ds => fV ds fun v6 ds => fI .u64 ds fun i14 _ => 
 apK true 3 [] [[.int .i64 1, .int .i64 i13, .int .i64 i4]] fun v7 =>
 cond ((i14 : Int) == 1)
 (apK true 3 v7 [[.int .i64 5, .int .i64 0, .int .i64 i4]] fun v8 =>
 slK 1 v4 1 (v4.length : Int) fun v9 =>
 some (.ret [.sl v6, .int .i64 0, .sl v9, .int .i64 0, .int .i64 0, .int .i64 0, .int .u64 0, .int .u64 0, .int .u64 0, .int .i64 0, .sl v8]))
 (slK 1 v4 1 (v4.length : Int) fun v8 =>
 some (.ret [.sl v6, .int .i64 0, .sl v8, .int .i64 0, .int .i64 0, .int .i64 0, .int .u64 0, .int .u64 0, .int .u64 0, .int .i64 0, .sl v7])))
 (none)))))))))
 (Option.bind (slices_Clone__int_int [.sl v2]) fun ds => fV ds fun v4 _ => 
 Option.bind (submit_May [.int .i64 i0, .int .i64 i1, .int .i64 i2, .int .i64 i3, .sl v0, .sl v1, .int .i64 i5, .sl v2, .int .i64 i6, .int .i64 i7, .int .i64 i8, .int .u64 i9, .int .u64 i10, .int .u64 i11, .int .i64 i12]) fun ds => fB ds fun b0 _ => 
 cond (!b0)
 (some (.ret [.sl v3, .int .i64 i5, .sl v4, .int .i64 i6, .int .i64 i7, .int .i64 i8, .int .u64 i9, .int .u64 i10, .int .u64 i11, .int .i64 i12, .sl []]))
 (ixK v4 0 (ldK v4 (Int.toNat 0) 1 0 fun ds => fI .i64 ds fun i13 _ => 
 cond ((i5 : Int) == 0)
 (Option.bind (cell_Load [.sl v3, .int .i64 3]) fun ds => fI .u64 ds fun i14 _ => 
 cond ((i14 : Int) != 0)
 (apK true 3 [] [[.int .i64 1, .int .i64 i13, .int .i64 i4]] fun v6 =>
 slK 1 v4 1 (v4.length : Int) fun v7 =>
 some (.ret [.sl v3, .int .i64 0, .sl v7, .int .i64 0, .int .i64 0, .int .i64 0, .int .u64 0, .int .u64 0, .int .u64 0, .int .i64 0, .sl v6]))
 (some (.ret [.sl v3, .int .i64 1, .sl v4, .int .i64 i6, .int .i64 i7, .int .i64 i8, .int .u64 i9, .int .u64 i10, .int .u64 i11, .int .i64 i12, .sl []])))
 (cond ((i5 : Int) == 1)
 (Option.bind (cell_Add [.sl v3, .int .i64 0, .int .u64 1]) fun ds => fV ds fun v6 ds => fI .u64 ds fun _ _ => 
 Option.bind (frame_Begin [.int .i64 3, .int .i64 i4, .int .u64 (IntKind.u64.wrap i13)]) fun ds => fI .i64 ds fun i15 ds => fI .i64 ds fun i16 ds => fI .i64 ds fun i17 ds => fI .u64 ds fun i18 ds => fI .u64 ds fun i19 ds => fI .u64 ds fun i20 ds => fI .i64 ds fun i21 _ => 
 some (.ret [.sl v6, .int .i64 2, .sl v4, .int .i64 i15, .int .i64 i16, .int .i64 i17, .int .u64 i18, .int .u64 i19, .int .u64 i20, .int .i64 i21, .sl []]))
 (cond ((i5 : Int) == 2)
 (cond ((i6 : Int) == 3)
 (Option.bind (inject_Step [.int .i64 i0, .int .i64 i1, .int .i64 i2, .int .i64 i3, .sl v3, .int .i64 i6, .int .i64 i7, .int .i64 i8, .int .u64 i9, .int .u64 i10, .int .u64 i11, .int .i64 i12]) fun ds => fV ds fun v6 ds => fI .i64 ds fun i14 ds => fI .i64 ds fun i15 ds => fI .i64 ds fun i16 ds => fI .u64 ds fun i17 ds => fI .u64 ds fun i18 ds => fI .u64 ds fun i19 ds => fI .i64 ds fun i20 _ => 
 Option.bind (frame_Over [.int .i64 i14, .int .i64 i15, .int .i64 i16, .int .u64 i17, .int .u64 i18, .int .u64 i19, .int .i64 i20]) fun ds => fB ds fun b1 _ => 
 cond (!b1)
 (some (.ret [.sl v6, .int .i64 i5, .sl v4, .int .i64 i14, .int .i64 i15, .int .i64 i16, .int .u64 i17, .int .u64 i18, .int .u64 i19, .int .i64 i20, .sl []]))
 (cond ((i20 : Int) != 2)
 (apK true 3 [] [[.int .i64 0, .int .i64 i13, .int .i64 i4]] fun v7 =>
 some (.ret [.sl v6, .int .i64 3, .sl v4, .int .i64 i14, .int .i64 i15, .int .i64 i16, .int .u64 i17, .int .u64 i18, .int .u64 i19, .int .i64 i20, .sl v7]))
 (some (.ret [.sl v6, .int .i64 5, .sl v4, .int .i64 i14, .int .i64 i15, .int .i64 i16, .int .u64 i17, .int .u64 i18, .int .u64 i19, .int .i64 i20, .sl []]))))
 (cond ((i6 : Int) == 4)
 (Option.bind (inject_Step [.int .i64 i0, .int .i64 i1, .int .i64 i2, .int .i64 i3, .sl v3, .int .i64 i6, .int .i64 i7, .int .i64 i8, .int .u64 i9, .int .u64 i10, .int .u64 i11, .int .i64 i12]) fun ds => fV ds fun v6 ds => fI .i64 ds fun i14 ds => fI .i64 ds fun i15 ds => fI .i64 ds fun i16 ds => fI .u64 ds fun i17 ds => fI .u64 ds fun i18 ds => fI .u64 ds fun i19 ds => fI .i64 ds fun i20 _ => 
 Option.bind (frame_Over [.int .i64 i14, .int .i64 i15, .int .i64 i16, .int .u64 i17, .int .u64 i18, .int .u64 i19, .int .i64 i20]) fun ds => fB ds fun b1 _ => 
 cond (!b1)
 (some (.ret [.sl v6, .int .i64 i5, .sl v4, .int .i64 i14, .int .i64 i15, .int .i64 i16, .int .u64 i17, .int .u64 i18, .int .u64 i19, .int .i64 i20, .sl []]))
 (cond ((i20 : Int) != 2)
 (apK true 3 [] [[.int .i64 0, .int .i64 i13, .int .i64 i4]] fun v7 =>
 some (.ret [.sl v6, .int .i64 3, .sl v4, .int .i64 i14, .int .i64 i15, .int .i64 i16, .int .u64 i17, .int .u64 i18, .int .u64 i19, .int .i64 i20, .sl v7]))
 (some (.ret [.sl v6, .int .i64 5, .sl v4, .int .i64 i14, .int .i64 i15, .int .i64 i16, .int .u64 i17, .int .u64 i18, .int .u64 i19, .int .i64 i20, .sl []]))))
 (Option.bind (event_Step [.int .i64 i0, .int .i64 i1, .int .i64 i2, .int .i64 i3, .sl v3, .int .i64 i6, .int .i64 i7, .int .i64 i8, .int .u64 i9, .int .u64 i10, .int .u64 i11, .int .i64 i12]) fun ds => fV ds fun v6 ds => fI .i64 ds fun i14 ds => fI .i64 ds fun i15 ds => fI .i64 ds fun i16 ds => fI .u64 ds fun i17 ds => fI .u64 ds fun i18 ds => fI .u64 ds fun i19 ds => fI .i64 ds fun i20 _ => 
 Option.bind (frame_Over [.int .i64 i14, .int .i64 i15, .int .i64 i16, .int .u64 i17, .int .u64 i18, .int .u64 i19, .int .i64 i20]) fun ds => fB ds fun b1 _ => 
 cond (!b1)
 (some (.ret [.sl v6, .int .i64 i5, .sl v4, .int .i64 i14, .int .i64 i15, .int .i64 i16, .int .u64 i17, .int .u64 i18, .int .u64 i19, .int .i64 i20, .sl []]))
 (cond ((i20 : Int) != 2)
 (apK true 3 [] [[.int .i64 0, .int .i64 i13, .int .i64 i4]] fun v7 =>
 some (.ret [.sl v6, .int .i64 3, .sl v4, .int .i64 i14, .int .i64 i15, .int .i64 i16, .int .u64 i17, .int .u64 i18, .int .u64 i19, .int .i64 i20, .sl v7]))
 (some (.ret [.sl v6, .int .i64 5, .sl v4, .int .i64 i14, .int .i64 i15, .int .i64 i16, .int .u64 i17, .int .u64 i18, .int .u64 i19, .int .i64 i20, .sl []]))))))
 (cond ((i5 : Int) == 3)
 (Option.bind (cell_Load [.sl v3, .int .i64 1]) fun ds => fI .u64 ds fun i14 _ => 
 cond ((i14 : Int) != 0)
 (slK 1 v4 1 (v4.length : Int) fun v6 =>
 some (.ret [.sl v3, .int .i64 0, .sl v6, .int .i64 0, .int .i64 0, .int .i64 0, .int .u64 0, .int .u64 0, .int .u64 0, .int .i64 0, .sl []]))
 (Option.bind (frame_Begin [.int .i64 6, .int .i64 i4, .int .u64 0]) fun ds => fI .i64 ds fun i15 ds => fI .i64 ds fun i16 ds => fI .i64 ds fun i17 ds => fI .u64 ds fun i18 ds => fI .u64 ds fun i19 ds => fI .u64 ds fun i20 ds => fI .i64 ds fun i21 _ => 
 some (.ret [.sl v3, .int .i64 4, .sl v4, .int .i64 i15, .int .i64 i16, .int .i64 i17, .int .u64 i18, .int .u64 i19, .int .u64 i20, .int .i64 i21, .sl []])))
 (cond ((i5 : Int) == 4)
 (cond ((i6 : Int) == 3)
 (Option.bind (inject_Step [.int .i64 i0, .int .i64 i1, .int .i64 i2, .int .i64 i3, .sl v3, .int .i64 i6, .int .i64 i7, .int .i64 i8, .int .u64 i9, .int .u64 i10, .int .u64 i11, .int .i64 i12]) fun ds => fV ds fun v6 ds => fI .i64 ds fun i14 ds => fI .i64 ds fun i15 ds => fI .i64 ds fun i16 ds => fI .u64 ds fun i17 ds => fI .u64 ds fun i18 ds => fI .u64 ds fun i19 ds => fI .i64 ds fun i20 _ => 
 Option.bind (frame_Over [.int .i64 i14, .int .i64 i15, .int .i64 i16, .int .u64 i17, .int .u64 i18, .int .u64 i19, .int .i64 i20]) fun ds => fB ds fun b1 _ => 
 cond b1
 (slK 1 v4 1 (v4.length : Int) fun v7 =>
 some (.ret [.sl v6, .int .i64 0, .sl v7, .int .i64 0, .int .i64 0, .int .i64 0, .int .u64 0, .int .u64 0, .int .u64 0, .int .i64 0, .sl []]))
 (some (.ret [.sl v6, .int .i64 i5, .sl v4, .int .i64 i14, .int .i64 i15, .int .i64 i16, .int .u64 i17, .int .u64 i18, .int .u64 i19, .int .i64 i20, .sl []])))
 (cond ((i6 : Int) == 4)
 (Option.bind (inject_Step [.int .i64 i0, .int .i64 i1, .int .i64 i2, .int .i64 i3, .sl v3, .int .i64 i6, .int .i64 i7, .int .i64 i8, .int .u64 i9, .int .u64 i10, .int .u64 i11, .int .i64 i12]) fun ds => fV ds fun v6 ds => fI .i64 ds fun i14 ds => fI .i64 ds fun i15 ds => fI .i64 ds fun i16 ds => fI .u64 ds fun i17 ds => fI .u64 ds fun i18 ds => fI .u64 ds fun i19 ds => fI .i64 ds fun i20 _ => 
 Option.bind (frame_Over [.int .i64 i14, .int .i64 i15, .int .i64 i16, .int .u64 i17, .int .u64 i18, .int .u64 i19, .int .i64 i20]) fun ds => fB ds fun b1 _ => 
 cond b1
 (slK 1 v4 1 (v4.length : Int) fun v7 =>
 some (.ret [.sl v6, .int .i64 0, .sl v7, .int .i64 0, .int .i64 0, .int .i64 0, .int .u64 0, .int .u64 0, .int .u64 0, .int .i64 0, .sl []]))
 (some (.ret [.sl v6, .int .i64 i5, .sl v4, .int .i64 i14, .int .i64 i15, .int .i64 i16, .int .u64 i17, .int .u64 i18, .int .u64 i19, .int .i64 i20, .sl []])))
 (Option.bind (event_Step [.int .i64 i0, .int .i64 i1, .int .i64 i2, .int .i64 i3, .sl v3, .int .i64 i6, .int .i64 i7, .int .i64 i8, .int .u64 i9, .int .u64 i10, .int .u64 i11, .int .i64 i12]) fun ds => fV ds fun v6 ds => fI .i64 ds fun i14 ds => fI .i64 ds fun i15 ds => fI .i64 ds fun i16 ds => fI .u64 ds fun i17 ds => fI .u64 ds fun i18 ds => fI .u64 ds fun i19 ds => fI .i64 ds fun i20 _ => 
 Option.bind (frame_Over [.int .i64 i14, .int .i64 i15, .int .i64 i16, .int .u64 i17, .int .u64 i18, .int .u64 i19, .int .i64 i20]) fun ds => fB ds fun b1 _ => 
 cond b1
 (slK 1 v4 1 (v4.length : Int) fun v7 =>
 some (.ret [.sl v6, .int .i64 0, .sl v7, .int .i64 0, .int .i64 0, .int .i64 0, .int .u64 0, .int .u64 0, .int .u64 0, .int .i64 0, .sl []]))
 (some (.ret [.sl v6, .int .i64 i5, .sl v4, .int .i64 i14, .int .i64 i15, .int .i64 i16, .int .u64 i17, .int .u64 i18, .int .u64 i19, .int .i64 i20, .sl []])))))
 (cond ((i5 : Int) == 5)
 (Option.bind (cell_Add [.sl v3, .int .i64 0, .int .u64 18446744073709551615]) fun ds => fV ds fun v6 ds => fI .u64 ds fun i14 _ => 
 apK true 3 [] [[.int .i64 1, .int .i64 i13, .int .i64 i4]] fun v7 =>
 cond ((i14 : Int) == 1)
 (apK true 3 v7 [[.int .i64 5, .int .i64 0, .int .i64 i4]] fun v8 =>
 slK 1 v4 1 (v4.length : Int) fun v9 =>
 some (.ret [.sl v6, .int .i64 0, .sl v9, .int .i64 0, .int .i64 0, .int .i64 0, .int .u64 0, .int .u64 0, .int .u64 0, .int .i64 0, .sl v8]))
 (slK 1 v4 1 (v4.length : Int) fun v8 =>
 some (.ret [.sl v6, .int .i64 0, .sl v8, .int .i64 0, .int .i64 0, .int .i64 0, .int .u64 0, .int .u64 0, .int .u64 0, .int .i64 0, .sl v7])))
 (none)))))))))) outR
noncomputable def submit_Busy (ds : List Dat) : Option (List Dat) :=
 fI .i64 ds fun i0 ds => fV ds fun _ ds => fI .i64 ds fun _ ds => fI .i64 ds fun _ ds => fI .i64 ds fun _ ds => fI .u64 ds fun _ ds => fI .u64 ds fun _ ds => fI .u64 ds fun _ ds => fI .i64 ds fun _ _ => 
 Option.bind (some (.ret [.bool ((i0 : Int) != 0)])) outR
noncomputable def slices_Equal__int_int (ds : List Dat) : Option (List Dat) :=
 fV ds fun v0 ds => fV ds fun v1 _ => 
 Option.bind (cond (((v0.length : Int) : Int) != (v1.length : Int))
 (some (.ret [.bool false]))
 (loopE 0 (fun ds => fB ds fun b0 ds => fJ ds fun i0 _ => 
 cond (decide ((i0 : Int) < (v0.length : Int)))
 (ixK v0 i0 (ldK v0 (Int.toNat i0) 1 0 fun ds => fI .i64 ds fun i1 _ => 
 ixK v1 i0 (ldK v1 (Int.toNat i0) 1 0 fun ds => fI .i64 ds fun i2 _ => 
 cond ((i1 : Int) != i2)
 (some (.ret [.bool false]))
 (some (.cont 0 [.bool b0, .int .i64 (IntKind.i64.wrap (i0 + 1))])))))
 (some (.ret [.bool true])))
 [.bool false, .int .i64 0])) outR
noncomputable def submit_Same (ds : List Dat) : Option (List Dat) :=
 fI .i64 ds fun i0 ds => fV ds fun v0 ds => fI .i64 ds fun i1 ds => fI .i64 ds fun i2 ds => fI .i64 ds fun i3 ds => fI .u64 ds fun i4 ds => fI .u64 ds fun i5 ds => fI .u64 ds fun i6 ds => fI .i64 ds fun i7 ds => fI .i64 ds fun i8 ds => fV ds fun v1 ds => fI .i64 ds fun i9 ds => fI .i64 ds fun i10 ds => fI .i64 ds fun i11 ds => fI .u64 ds fun i12 ds => fI .u64 ds fun i13 ds => fI .u64 ds fun i14 ds => fI .i64 ds fun i15 _ => 
 Option.bind (cond ((i0 : Int) == i8)
 (cond (((i1 : Int) == i9) && (((i2 : Int) == i10) && (((i3 : Int) == i11) && (((i4 : Int) == i12) && (((i5 : Int) == i13) && (((i6 : Int) == i14) && ((i7 : Int) == i15)))))))
 (Option.bind (slices_Equal__int_int [.sl v0, .sl v1]) fun ds => fB ds fun b0 _ => 
 some (.ret [.bool b0]))
 (some (.ret [.bool false])))
 (some (.ret [.bool false]))) outR
noncomputable def poacherlaw19_awake (_ : List Dat) : Option (List Dat) :=
 
 Option.bind (Option.bind (lay_New [.int .i64 1, .int .i64 1, .int .i64 1, .int .i64 0]) fun ds => fV ds fun v0 _ => 
 Option.bind (submit_New [.sl [[.int .i64 0]]]) fun ds => fI .i64 ds fun i0 ds => fV ds fun v1 ds => fI .i64 ds fun i1 ds => fI .i64 ds fun i2 ds => fI .i64 ds fun i3 ds => fI .u64 ds fun i4 ds => fI .u64 ds fun i5 ds => fI .u64 ds fun i6 ds => fI .i64 ds fun i7 _ => 
 Option.bind (submit_May [.int .i64 1, .int .i64 1, .int .i64 1, .int .i64 0, .sl [[.int .i64 1, .sl []]], .sl v0, .int .i64 i0, .sl v1, .int .i64 i1, .int .i64 i2, .int .i64 i3, .int .u64 i4, .int .u64 i5, .int .u64 i6, .int .i64 i7]) fun ds => fB ds fun b0 _ => 
 loopE 0 (fun ds => fV ds fun v2 ds => fJ ds fun i8 ds => fJ ds fun i9 ds => fJ ds fun i10 ds => fJ ds fun i11 ds => fJ ds fun i12 ds => fJ ds fun i13 ds => fJ ds fun i14 ds => fV ds fun v3 ds => fJ ds fun i15 ds => fJ ds fun i16 ds => fJ ds fun i17 ds => fJ ds fun i18 ds => fJ ds fun i19 ds => fJ ds fun i20 ds => fJ ds fun i21 _ => 
 cond (decide ((i9 : Int) < 10))
 (Option.bind (submit_Step [.int .i64 i10, .int .i64 i11, .int .i64 i12, .int .i64 i13, .sl [[.int .i64 1, .sl []]], .sl v2, .int .i64 0, .int .i64 i14, .sl v3, .int .i64 i15, .int .i64 i16, .int .i64 i17, .int .u64 i18, .int .u64 i19, .int .u64 i20, .int .i64 i21]) fun ds => fV ds fun v4 ds => fI .i64 ds fun i22 ds => fV ds fun v5 ds => fI .i64 ds fun i23 ds => fI .i64 ds fun i24 ds => fI .i64 ds fun i25 ds => fI .u64 ds fun i26 ds => fI .u64 ds fun i27 ds => fI .u64 ds fun i28 ds => fI .i64 ds fun i29 ds => fV ds fun v6 _ => 
 some (.cont 0 [.sl v4, .int .i64 (IntKind.i64.wrap (i8 + (v6.length : Int))), .int .i64 (IntKind.i64.wrap (i9 + 1)), .int .i64 i10, .int .i64 i11, .int .i64 i12, .int .i64 i13, .int .i64 i22, .sl v5, .int .i64 i23, .int .i64 i24, .int .i64 i25, .int .u64 i26, .int .u64 i27, .int .u64 i28, .int .i64 i29]))
 (cond b0
 (cond ((i8 : Int) == 1)
 (cond (((v3.length : Int) : Int) == 0)
 (Option.bind (submit_Busy [.int .i64 i14, .sl v3, .int .i64 i15, .int .i64 i16, .int .i64 i17, .int .u64 i18, .int .u64 i19, .int .u64 i20, .int .i64 i21]) fun ds => fB ds fun b1 _ => 
 cond (!b1)
 (Option.bind (cell_Load [.sl v2, .int .i64 0]) fun ds => fI .u64 ds fun i22 _ => 
 cond ((i22 : Int) == 1)
 (Option.bind (submit_Same [.int .i64 i14, .sl v3, .int .i64 i15, .int .i64 i16, .int .i64 i17, .int .u64 i18, .int .u64 i19, .int .u64 i20, .int .i64 i21, .int .i64 i14, .sl v3, .int .i64 i15, .int .i64 i16, .int .i64 i17, .int .u64 i18, .int .u64 i19, .int .u64 i20, .int .i64 i21]) fun ds => fB ds fun b2 _ => 
 some (.ret [.bool b2]))
 (some (.ret [.bool false])))
 (some (.ret [.bool false])))
 (some (.ret [.bool false])))
 (some (.ret [.bool false])))
 (some (.ret [.bool false]))))
 [.sl v0, .int .i64 0, .int .i64 0, .int .i64 1, .int .i64 1, .int .i64 1, .int .i64 0, .int .i64 i0, .sl v1, .int .i64 i1, .int .i64 i2, .int .i64 i3, .int .u64 i4, .int .u64 i5, .int .u64 i6, .int .i64 i7]) outR
noncomputable def poacherlaw04_Few (ds : List Dat) : Option (List Dat) :=
 fV ds fun v0 _ => 
 Option.bind (loopE 0 (fun ds => fB ds fun b0 ds => fJ ds fun i0 _ => 
 cond (decide ((i0 : Int) < (v0.length : Int)))
 (cond (decide ((i0 : Int) ≤ 40))
 (ixK v0 i0 (ldK v0 (Int.toNat i0) 2 1 fun ds => fV ds fun v2 _ => 
 cond (decide (((v2.length : Int) : Int) > 40))
 (some (.ret [.bool false]))
 (some (.cont 0 [.bool b0, .int .i64 (IntKind.i64.wrap (i0 + 1))]))))
 (some (.ret [.bool (decide (((v0.length : Int) : Int) ≤ 40))])))
 (some (.ret [.bool (decide (((v0.length : Int) : Int) ≤ 40))])))
 [.bool false, .int .i64 0]) outR
noncomputable def poacherlaw19_SubmitOnce (ds : List Dat) : Option (List Dat) :=
 fI .i64 ds fun i0 ds => fI .i64 ds fun i1 ds => fI .i64 ds fun i2 ds => fI .i64 ds fun i3 ds => fV ds fun v0 ds => fV ds fun v1 ds => fI .i64 ds fun i4 ds => fI .i64 ds fun i5 ds => fV ds fun v2 ds => fI .i64 ds fun i6 ds => fI .i64 ds fun i7 ds => fI .i64 ds fun i8 ds => fI .u64 ds fun i9 ds => fI .u64 ds fun i10 ds => fI .u64 ds fun i11 ds => fI .i64 ds fun i12 _ => 
 Option.bind (Option.bind (poacherlaw19_awake []) fun ds => fB ds fun b0 _ => 
 Option.bind (poacherlaw04_Few [.sl v0]) fun ds => fB ds fun b1 _ => 
 cond (!b0)
 (some (.ret [.bool b0]))
 (cond (!b1)
 (some (.ret [.bool b0]))
 (cond (decide (((v1.length : Int) : Int) > 500))
 (some (.ret [.bool b0]))
 (cond (decide (((v2.length : Int) : Int) > 60))
 (some (.ret [.bool b0]))
 (Option.bind (submit_Step [.int .i64 i0, .int .i64 i1, .int .i64 i2, .int .i64 i3, .sl v0, .sl v1, .int .i64 i4, .int .i64 i5, .sl v2, .int .i64 i6, .int .i64 i7, .int .i64 i8, .int .u64 i9, .int .u64 i10, .int .u64 i11, .int .i64 i12]) fun ds => fV ds fun v3 ds => fI .i64 ds fun i13 ds => fV ds fun v4 ds => fI .i64 ds fun i14 ds => fI .i64 ds fun i15 ds => fI .i64 ds fun i16 ds => fI .u64 ds fun i17 ds => fI .u64 ds fun i18 ds => fI .u64 ds fun i19 ds => fI .i64 ds fun i20 ds => fV ds fun v5 _ => 
 cond (((v3.length : Int) : Int) != (v1.length : Int))
 (some (.ret [.bool false]))
 (cond (decide (((v5.length : Int) : Int) > 2))
 (some (.ret [.bool false]))
 (loopE 0 (fun ds => fV ds fun v3 ds => fV ds fun v5 ds => fJ ds fun i21 ds => fJ ds fun i22 _ => 
 cond (decide ((i22 : Int) < (v1.length : Int)))
 (ixK v3 i22 (ldK v3 (Int.toNat i22) 1 0 fun ds => fI .u64 ds fun i23 _ => 
 ixK v1 i22 (ldK v1 (Int.toNat i22) 1 0 fun ds => fI .u64 ds fun i24 _ => 
 cond ((i23 : Int) != i24)
 (some (.cont 0 [.sl v3, .sl v5, .int .i64 (IntKind.i64.wrap (i21 + 1)), .int .i64 (IntKind.i64.wrap (i22 + 1))]))
 (some (.cont 0 [.sl v3, .sl v5, .int .i64 i21, .int .i64 (IntKind.i64.wrap (i22 + 1))])))))
 (Option.bind (submit_May [.int .i64 i0, .int .i64 i1, .int .i64 i2, .int .i64 i3, .sl v0, .sl v1, .int .i64 i5, .sl v2, .int .i64 i6, .int .i64 i7, .int .i64 i8, .int .u64 i9, .int .u64 i10, .int .u64 i11, .int .i64 i12]) fun ds => fB ds fun b2 _ => 
 cond (!b2)
 (cond ((i21 : Int) == 0)
 (cond (((v5.length : Int) : Int) == 0)
 (Option.bind (submit_Same [.int .i64 i5, .sl v2, .int .i64 i6, .int .i64 i7, .int .i64 i8, .int .u64 i9, .int .u64 i10, .int .u64 i11, .int .i64 i12, .int .i64 i13, .sl v4, .int .i64 i14, .int .i64 i15, .int .i64 i16, .int .u64 i17, .int .u64 i18, .int .u64 i19, .int .i64 i20]) fun ds => fB ds fun b3 _ => 
 some (.ret [.bool b3]))
 (some (.ret [.bool false])))
 (some (.ret [.bool false])))
 (cond (((v2.length : Int) : Int) == 0)
 (cond ((i21 : Int) == 0)
 (cond (((v5.length : Int) : Int) == 0)
 (Option.bind (submit_Same [.int .i64 i5, .sl v2, .int .i64 i6, .int .i64 i7, .int .i64 i8, .int .u64 i9, .int .u64 i10, .int .u64 i11, .int .i64 i12, .int .i64 i13, .sl v4, .int .i64 i14, .int .i64 i15, .int .i64 i16, .int .u64 i17, .int .u64 i18, .int .u64 i19, .int .i64 i20]) fun ds => fB ds fun b3 _ => 
 some (.ret [.bool b3]))
 (some (.ret [.bool false])))
 (some (.ret [.bool false])))
 (cond (decide (((v5.length : Int) : Int) > 0))
 (ixK v5 0 (ldK v5 (Int.toNat 0) 3 1 fun ds => fI .i64 ds fun i23 _ => 
 ixK v2 0 (ldK v2 (Int.toNat 0) 1 0 fun ds => fI .i64 ds fun i24 _ => 
 cond ((i23 : Int) == i24)
 (ixK v5 0 (ldK v5 (Int.toNat 0) 3 2 fun ds => fI .i64 ds fun i25 _ => 
 cond ((i25 : Int) == i4)
 (ixK v5 0 (ldK v5 (Int.toNat 0) 3 0 fun ds => fI .i64 ds fun i26 _ => 
 ixK v5 0 (ldK v5 (Int.toNat 0) 3 0 fun ds => fI .i64 ds fun i27 _ => 
 cond (decide ((i21 : Int) ≤ 1))
 (cond (((v4.length : Int) : Int) == (IntKind.i64.wrap ((v2.length : Int) - 1)))
 (Option.bind (submit_Busy [.int .i64 i13, .sl v4, .int .i64 i14, .int .i64 i15, .int .i64 i16, .int .u64 i17, .int .u64 i18, .int .u64 i19, .int .i64 i20]) fun ds => fB ds fun b3 _ => 
 cond (!b3)
 (cond (((v5.length : Int) : Int) == 0)
 (some (.ret [.bool true]))
 (cond ((i26 : Int) == 1)
 (some (.ret [.bool true]))
 (cond (((v4.length : Int) : Int) == (v2.length : Int))
 (cond ((i27 : Int) == 0)
 (some (.ret [.bool (((v5.length : Int) : Int) == 1)]))
 (some (.ret [.bool false])))
 (some (.ret [.bool false])))))
 (cond (((v4.length : Int) : Int) == (v2.length : Int))
 (cond (((v5.length : Int) : Int) == 0)
 (some (.ret [.bool true]))
 (cond ((i27 : Int) == 0)
 (some (.ret [.bool (((v5.length : Int) : Int) == 1)]))
 (some (.ret [.bool false]))))
 (some (.ret [.bool false]))))
 (cond (((v4.length : Int) : Int) == (v2.length : Int))
 (cond (((v5.length : Int) : Int) == 0)
 (some (.ret [.bool true]))
 (cond ((i27 : Int) == 0)
 (some (.ret [.bool (((v5.length : Int) : Int) == 1)]))
 (some (.ret [.bool false]))))
 (some (.ret [.bool false]))))
 (some (.ret [.bool false])))))
 (cond (decide ((i21 : Int) ≤ 1))
 (cond (((v4.length : Int) : Int) == (IntKind.i64.wrap ((v2.length : Int) - 1)))
 (Option.bind (submit_Busy [.int .i64 i13, .sl v4, .int .i64 i14, .int .i64 i15, .int .i64 i16, .int .u64 i17, .int .u64 i18, .int .u64 i19, .int .i64 i20]) fun ds => fB ds fun b3 _ => 
 cond (!b3)
 (cond (((v5.length : Int) : Int) == 0)
 (some (.ret [.bool true]))
 (cond (((v4.length : Int) : Int) == (v2.length : Int))
 (some (.ret [.bool false]))
 (some (.ret [.bool false]))))
 (cond (((v4.length : Int) : Int) == (v2.length : Int))
 (cond (((v5.length : Int) : Int) == 0)
 (some (.ret [.bool true]))
 (some (.ret [.bool false])))
 (some (.ret [.bool false]))))
 (cond (((v4.length : Int) : Int) == (v2.length : Int))
 (cond (((v5.length : Int) : Int) == 0)
 (some (.ret [.bool true]))
 (some (.ret [.bool false])))
 (some (.ret [.bool false]))))
 (some (.ret [.bool false])))))
 (cond (decide ((i21 : Int) ≤ 1))
 (cond (((v4.length : Int) : Int) == (IntKind.i64.wrap ((v2.length : Int) - 1)))
 (Option.bind (submit_Busy [.int .i64 i13, .sl v4, .int .i64 i14, .int .i64 i15, .int .i64 i16, .int .u64 i17, .int .u64 i18, .int .u64 i19, .int .i64 i20]) fun ds => fB ds fun b3 _ => 
 cond (!b3)
 (cond (((v5.length : Int) : Int) == 0)
 (some (.ret [.bool true]))
 (cond (((v4.length : Int) : Int) == (v2.length : Int))
 (some (.ret [.bool false]))
 (some (.ret [.bool false]))))
 (cond (((v4.length : Int) : Int) == (v2.length : Int))
 (cond (((v5.length : Int) : Int) == 0)
 (some (.ret [.bool true]))
 (some (.ret [.bool false])))
 (some (.ret [.bool false]))))
 (cond (((v4.length : Int) : Int) == (v2.length : Int))
 (cond (((v5.length : Int) : Int) == 0)
 (some (.ret [.bool true]))
 (some (.ret [.bool false])))
 (some (.ret [.bool false]))))
 (some (.ret [.bool false]))))))
 (cond (decide ((i21 : Int) ≤ 1))
 (cond (((v4.length : Int) : Int) == (IntKind.i64.wrap ((v2.length : Int) - 1)))
 (Option.bind (submit_Busy [.int .i64 i13, .sl v4, .int .i64 i14, .int .i64 i15, .int .i64 i16, .int .u64 i17, .int .u64 i18, .int .u64 i19, .int .i64 i20]) fun ds => fB ds fun b3 _ => 
 cond (!b3)
 (cond (((v5.length : Int) : Int) == 0)
 (some (.ret [.bool true]))
 (cond (((v4.length : Int) : Int) == (v2.length : Int))
 (some (.ret [.bool false]))
 (some (.ret [.bool false]))))
 (cond (((v4.length : Int) : Int) == (v2.length : Int))
 (cond (((v5.length : Int) : Int) == 0)
 (some (.ret [.bool true]))
 (some (.ret [.bool false])))
 (some (.ret [.bool false]))))
 (cond (((v4.length : Int) : Int) == (v2.length : Int))
 (cond (((v5.length : Int) : Int) == 0)
 (some (.ret [.bool true]))
 (some (.ret [.bool false])))
 (some (.ret [.bool false]))))
 (some (.ret [.bool false])))))))
 [.sl v3, .sl v5, .int .i64 0, .int .i64 0]))))))) outR
end Pq
