/- AX: known answers are specs: printed by memotab.py. -/
/- AX: SpanChain's run: its start. -/
/- AX: SpanChain's run: 8 rules. -/
/- AX: SpanChain's run: 7 rules. -/
/- AX: SpanChain's run: 6 rules. -/
/- AX: SpanChain's run: 5 rules. -/
/- AX: SpanChain's run: 4 rules. -/
/- AX: SpanChain's run: 3 rules. -/
/- AX: SpanChain's run: 2 rules. -/
import Derived.Test.YtmbhjdkbcgngiaaGreatDoorZ15
import Derived.Test.YtmbhjdkbcgngiaaGreatDoorZ16
import Derived.Test.YtmbhjdkbcgngiaaGreatDoorZ17
import Derived.Test.YtmbhjdkbcgngiaaGreatDoorZ18
import Derived.Test.YtmbhjdkbcgngiaaGreatDoorZ19
import Derived.Test.YtmbhjdkbcgngiaaGreatDoorZ20
import Derived.Test.YtmbhjdkbcgngiaaGreatDoorZ21
import Derived.Test.YtmbhjdkbcgngiaaGreatDoorZ22
import Derived.Test.YtmbhjdkbcgngiaaGreatDoorZ23
import Derived.Test.YtmbhjdkbcgngiaaGreatDoorZ24
import Derived.Test.YtmbhjdkbcgngiaaGreatDoorZ25
import Derived.Test.YtmbhjdkbcgngiaaGreatDoorZ26
import Derived.Test.YtmbhjdkbcgngiaaGreatDoorZ27
import Derived.Test.YtmbhjdkbcgngiaaGreatDoorZ28
import Derived.Test.YtmbhjdkbcgngiaaGreatDoorZ29
import Derived.Test.YtmbhjdkbcgngiaaGreatDoorZ30
import Derived.Test.YtmbhjdkbcgngiaaGreatDoorZ31
import Derived.Test.YtmbhjdkbcgngiaaGreatDoorZ32
import Derived.Test.YtmbhjdkbcgngiaaGreatDoorZ33
import Derived.Test.YtmbhjdkbcgngiaaGreatDoorZ34
import Derived.Test.YtmbhjdkbcgngiaaGreatDoorZ35
import Derived.Test.YtmbhjdkbcgngiaaGreatDoorZ36
import Derived.Test.YtmbhjdkbcgngiaaGreatDoorZ37
import Derived.Test.YtmbhjdkbcgngiaaGreatDoorZ38
import Derived.Test.YtmbhjdkbcgngiaaGreatDoorZ11
import Derived.Test.YtmbhjdkbcgngiaaGreatDoorZ14
import Derived.KernelRfl
section
namespace Go.Proofs.YtmbhjdkbcgngiaaGreatDoor
open Go Go.Ax
theorem spS0_ok : spS0.All (SpecOk Tryz.prog (ground.env .nil)) := ⟨⟨sok9, sok131⟩, ⟨sok155, ⟨sok233, sok273⟩⟩⟩
theorem sokS232 : SpecOk Tryz.prog (ground.env .nil) 232 (memoSpec tS232) := groundOk.memo spS0_ok mixed (F := fnOf Tryz.f232) (by kernel_rfl) (.cons 100000 aS232_0 (.cons 100000 aS232_1 (.cons 100000 aS232_2 (.cons 100000 aS232_3 (.cons 100000 aS232_4 (.cons 100000 aS232_5 (.cons 100000 aS232_6 (.cons 100000 aS232_7 (.cons 100000 aS232_8 (.nil))))))))))
theorem spS1_ok : spS1.All (SpecOk Tryz.prog (ground.env .nil)) := ⟨⟨sok9, ⟨sok131, sok155⟩⟩, ⟨sokS232, ⟨sok233, sok273⟩⟩⟩
theorem sokS205 : SpecOk Tryz.prog (ground.env .nil) 205 (memoSpec tS205) := groundOk.memo spS1_ok mixed (F := fnOf Tryz.f205) (by kernel_rfl) (.cons 100000 aS205_0 (.cons 100000 aS205_1 (.cons 100000 aS205_2 (.cons 100000 aS205_3 (.cons 100000 aS205_4 (.cons 100000 aS205_5 (.cons 100000 aS205_6 (.cons 100000 aS205_7 (.cons 100000 aS205_8 (.cons 100000 aS205_9 (.cons 100000 aS205_10 (.cons 100000 aS205_11 (.cons 100000 aS205_12 (.cons 100000 aS205_13 (.cons 100000 aS205_14 (.cons 100000 aS205_15 (.nil)))))))))))))))))
theorem spS2_ok : spS2.All (SpecOk Tryz.prog (ground.env .nil)) := ⟨⟨sok9, ⟨sok131, sok155⟩⟩, ⟨⟨sokS205, sokS232⟩, ⟨sok233, sok273⟩⟩⟩
theorem sokS172 : SpecOk Tryz.prog (ground.env .nil) 172 (memoSpec tS172) := groundOk.memo spS2_ok mixed (F := fnOf Tryz.f172) (by kernel_rfl) (.cons 100000 aS172_0 (.cons 100000 aS172_1 (.cons 100000 aS172_2 (.cons 100000 aS172_3 (.cons 100000 aS172_4 (.cons 100000 aS172_5 (.cons 100000 aS172_6 (.cons 100000 aS172_7 (.cons 100000 aS172_8 (.cons 100000 aS172_9 (.cons 100000 aS172_10 (.cons 100000 aS172_11 (.cons 100000 aS172_12 (.cons 100000 aS172_13 (.cons 100000 aS172_14 (.cons 100000 aS172_15 (.nil)))))))))))))))))
theorem spS3_ok : spS3.All (SpecOk Tryz.prog (ground.env .nil)) := ⟨⟨⟨sok9, sok131⟩, ⟨sok155, sokS172⟩⟩, ⟨⟨sokS205, sokS232⟩, ⟨sok233, sok273⟩⟩⟩
theorem sokS185 : SpecOk Tryz.prog (ground.env .nil) 185 (memoSpec tS185) := groundOk.memo spS3_ok mixed (F := fnOf Tryz.f185) (by kernel_rfl) (.cons 100000 aS185_0 (.cons 100000 aS185_1 (.cons 100000 aS185_2 (.cons 100000 aS185_3 (.cons 100000 aS185_4 (.cons 100000 aS185_5 (.cons 100000 aS185_6 (.cons 100000 aS185_7 (.cons 100000 aS185_8 (.cons 100000 aS185_9 (.cons 100000 aS185_10 (.cons 100000 aS185_11 (.cons 100000 aS185_12 (.cons 100000 aS185_13 (.cons 100000 aS185_14 (.cons 100000 aS185_15 (.nil)))))))))))))))))
theorem spS4_ok : spS4.All (SpecOk Tryz.prog (ground.env .nil)) := ⟨⟨⟨sok9, sok131⟩, ⟨sok155, sokS172⟩⟩, ⟨⟨sokS185, sokS205⟩, ⟨sokS232, ⟨sok233, sok273⟩⟩⟩⟩
theorem sokS122 : SpecOk Tryz.prog (ground.env .nil) 122 (memoSpec tS122) := groundOk.memo spS4_ok mixed (F := fnOf Tryz.f122) (by kernel_rfl) (.cons 100000 aS122_0 (.cons 100000 aS122_1 (.cons 100000 aS122_2 (.cons 100000 aS122_3 (.cons 100000 aS122_4 (.cons 100000 aS122_5 (.cons 100000 aS122_6 (.cons 100000 aS122_7 (.cons 100000 aS122_8 (.cons 100000 aS122_9 (.cons 100000 aS122_10 (.cons 100000 aS122_11 (.cons 100000 aS122_12 (.cons 100000 aS122_13 (.cons 100000 aS122_14 (.nil))))))))))))))))
theorem spS5_ok : spS5.All (SpecOk Tryz.prog (ground.env .nil)) := ⟨⟨⟨sok9, sokS122⟩, ⟨sok131, ⟨sok155, sokS172⟩⟩⟩, ⟨⟨sokS185, sokS205⟩, ⟨sokS232, ⟨sok233, sok273⟩⟩⟩⟩
theorem sokS188 : SpecOk Tryz.prog (ground.env .nil) 188 (memoSpec tS188) := groundOk.memo spS5_ok mixed (F := fnOf Tryz.f188) (by kernel_rfl) (.cons 100000 aS188_0 (.cons 100000 aS188_1 (.cons 100000 aS188_2 (.cons 100000 aS188_3 (.cons 100000 aS188_4 (.cons 100000 aS188_5 (.cons 100000 aS188_6 (.cons 100000 aS188_7 (.cons 100000 aS188_8 (.cons 100000 aS188_9 (.cons 100000 aS188_10 (.cons 100000 aS188_11 (.cons 100000 aS188_12 (.cons 100000 aS188_13 (.cons 100000 aS188_14 (.cons 100000 aS188_15 (.cons 100000 aS188_16 (.cons 100000 aS188_17 (.cons 100000 aS188_18 (.cons 100000 aS188_19 (.cons 100000 aS188_20 (.cons 100000 aS188_21 (.cons 100000 aS188_22 (.nil))))))))))))))))))))))))
theorem spS6_ok : spS6.All (SpecOk Tryz.prog (ground.env .nil)) := ⟨⟨⟨sok9, sokS122⟩, ⟨sok131, ⟨sok155, sokS172⟩⟩⟩, ⟨⟨sokS185, ⟨sokS188, sokS205⟩⟩, ⟨sokS232, ⟨sok233, sok273⟩⟩⟩⟩
theorem sokS121 : SpecOk Tryz.prog (ground.env .nil) 121 (memoSpec tS121) := groundOk.memo spS6_ok mixed (F := fnOf Tryz.f121) (by kernel_rfl) (.cons 100000 aS121_0 (.cons 100000 aS121_1 (.cons 100000 aS121_2 (.cons 100000 aS121_3 (.cons 100000 aS121_4 (.cons 100000 aS121_5 (.cons 100000 aS121_6 (.cons 100000 aS121_7 (.cons 100000 aS121_8 (.cons 100000 aS121_9 (.cons 100000 aS121_10 (.cons 100000 aS121_11 (.cons 100000 aS121_12 (.cons 100000 aS121_13 (.cons 100000 aS121_14 (.cons 100000 aS121_15 (.cons 100000 aS121_16 (.cons 100000 aS121_17 (.cons 100000 aS121_18 (.cons 100000 aS121_19 (.cons 100000 aS121_20 (.cons 100000 aS121_21 (.cons 100000 aS121_22 (.cons 100000 aS121_23 (.cons 100000 aS121_24 (.cons 100000 aS121_25 (.cons 100000 aS121_26 (.cons 100000 aS121_27 (.nil)))))))))))))))))))))))))))))
theorem spS7_ok : spS7.All (SpecOk Tryz.prog (ground.env .nil)) := ⟨⟨⟨sok9, ⟨sokS121, sokS122⟩⟩, ⟨sok131, ⟨sok155, sokS172⟩⟩⟩, ⟨⟨sokS185, ⟨sokS188, sokS205⟩⟩, ⟨sokS232, ⟨sok233, sok273⟩⟩⟩⟩
theorem sokS97 : SpecOk Tryz.prog (ground.env .nil) 97 (memoSpec tS97) := groundOk.memo spS7_ok mixed (F := fnOf Tryz.f97) (by kernel_rfl) (.cons 100000 aS97_0 (.cons 100000 aS97_1 (.cons 100000 aS97_2 (.cons 100000 aS97_3 (.cons 100000 aS97_4 (.cons 100000 aS97_5 (.cons 100000 aS97_6 (.cons 100000 aS97_7 (.cons 100000 aS97_8 (.cons 100000 aS97_9 (.cons 100000 aS97_10 (.cons 100000 aS97_11 (.cons 100000 aS97_12 (.cons 100000 aS97_13 (.cons 100000 aS97_14 (.cons 100000 aS97_15 (.cons 100000 aS97_16 (.cons 100000 aS97_17 (.cons 100000 aS97_18 (.cons 100000 aS97_19 (.cons 100000 aS97_20 (.cons 100000 aS97_21 (.cons 100000 aS97_22 (.cons 100000 aS97_23 (.cons 100000 aS97_24 (.cons 100000 aS97_25 (.cons 100000 aS97_26 (.cons 100000 aS97_27 (.nil)))))))))))))))))))))))))))))
theorem spS8_ok : spS8.All (SpecOk Tryz.prog (ground.env .nil)) := ⟨⟨⟨sok9, ⟨sokS97, sokS121⟩⟩, ⟨sokS122, ⟨sok131, sok155⟩⟩⟩, ⟨⟨sokS172, ⟨sokS185, sokS188⟩⟩, ⟨⟨sokS205, sokS232⟩, ⟨sok233, sok273⟩⟩⟩⟩
theorem sokS130 : SpecOk Tryz.prog (ground.env .nil) 130 (memoSpec tS130) := groundOk.memo spS8_ok mixed (F := fnOf Tryz.f130) (by kernel_rfl) (.cons 100000 aS130_0 (.cons 100000 aS130_1 (.cons 100000 aS130_2 (.cons 100000 aS130_3 (.cons 100000 aS130_4 (.cons 100000 aS130_5 (.cons 100000 aS130_6 (.cons 100000 aS130_7 (.cons 100000 aS130_8 (.cons 100000 aS130_9 (.cons 100000 aS130_10 (.cons 100000 aS130_11 (.cons 100000 aS130_12 (.cons 100000 aS130_13 (.cons 100000 aS130_14 (.cons 100000 aS130_15 (.cons 100000 aS130_16 (.cons 100000 aS130_17 (.cons 100000 aS130_18 (.cons 100000 aS130_19 (.cons 100000 aS130_20 (.cons 100000 aS130_21 (.cons 100000 aS130_22 (.cons 100000 aS130_23 (.cons 100000 aS130_24 (.cons 100000 aS130_25 (.cons 100000 aS130_26 (.cons 100000 aS130_27 (.nil)))))))))))))))))))))))))))))
theorem spS9_ok : spS9.All (SpecOk Tryz.prog (ground.env .nil)) := ⟨⟨⟨sok9, ⟨sokS97, sokS121⟩⟩, ⟨⟨sokS122, sokS130⟩, ⟨sok131, sok155⟩⟩⟩, ⟨⟨sokS172, ⟨sokS185, sokS188⟩⟩, ⟨⟨sokS205, sokS232⟩, ⟨sok233, sok273⟩⟩⟩⟩
theorem sokS98 : SpecOk Tryz.prog (ground.env .nil) 98 (memoSpec tS98) := groundOk.memo spS9_ok mixed (F := fnOf Tryz.f98) (by kernel_rfl) (.cons 100000 aS98_0 (.cons 100000 aS98_1 (.cons 100000 aS98_2 (.cons 100000 aS98_3 (.cons 100000 aS98_4 (.cons 100000 aS98_5 (.cons 100000 aS98_6 (.cons 100000 aS98_7 (.cons 100000 aS98_8 (.cons 100000 aS98_9 (.cons 100000 aS98_10 (.cons 100000 aS98_11 (.cons 100000 aS98_12 (.cons 100000 aS98_13 (.cons 100000 aS98_14 (.cons 100000 aS98_15 (.cons 100000 aS98_16 (.cons 100000 aS98_17 (.cons 100000 aS98_18 (.cons 100000 aS98_19 (.cons 100000 aS98_20 (.cons 100000 aS98_21 (.cons 100000 aS98_22 (.cons 100000 aS98_23 (.cons 100000 aS98_24 (.cons 100000 aS98_25 (.cons 100000 aS98_26 (.cons 100000 aS98_27 (.nil)))))))))))))))))))))))))))))
theorem spS10_ok : spS10.All (SpecOk Tryz.prog (ground.env .nil)) := ⟨⟨⟨sok9, ⟨sokS97, sokS98⟩⟩, ⟨⟨sokS121, sokS122⟩, ⟨sokS130, sok131⟩⟩⟩, ⟨⟨⟨sok155, sokS172⟩, ⟨sokS185, sokS188⟩⟩, ⟨⟨sokS205, sokS232⟩, ⟨sok233, sok273⟩⟩⟩⟩
theorem sokS57 : SpecOk Tryz.prog (ground.env .nil) 57 (memoSpec tS57) := groundOk.memo spS10_ok mixed (F := fnOf Tryz.f57) (by kernel_rfl) (.cons 100000 aS57_0 (.cons 100000 aS57_1 (.cons 100000 aS57_2 (.cons 100000 aS57_3 (.cons 100000 aS57_4 (.cons 100000 aS57_5 (.cons 100000 aS57_6 (.cons 100000 aS57_7 (.cons 100000 aS57_8 (.cons 100000 aS57_9 (.cons 100000 aS57_10 (.cons 100000 aS57_11 (.cons 100000 aS57_12 (.cons 100000 aS57_13 (.cons 100000 aS57_14 (.cons 100000 aS57_15 (.cons 100000 aS57_16 (.cons 100000 aS57_17 (.cons 100000 aS57_18 (.cons 100000 aS57_19 (.cons 100000 aS57_20 (.cons 100000 aS57_21 (.cons 100000 aS57_22 (.cons 100000 aS57_23 (.cons 100000 aS57_24 (.cons 100000 aS57_25 (.cons 100000 aS57_26 (.cons 100000 aS57_27 (.nil)))))))))))))))))))))))))))))
theorem spS11_ok : spS11.All (SpecOk Tryz.prog (ground.env .nil)) := ⟨⟨⟨⟨sok9, sokS57⟩, ⟨sokS97, sokS98⟩⟩, ⟨⟨sokS121, sokS122⟩, ⟨sokS130, sok131⟩⟩⟩, ⟨⟨⟨sok155, sokS172⟩, ⟨sokS185, sokS188⟩⟩, ⟨⟨sokS205, sokS232⟩, ⟨sok233, sok273⟩⟩⟩⟩
theorem sokS70 : SpecOk Tryz.prog (ground.env .nil) 70 (memoSpec tS70) := groundOk.memo spS11_ok mixed (F := fnOf Tryz.f70) (by kernel_rfl) (.cons 100000 aS70_0 (.cons 100000 aS70_1 (.cons 100000 aS70_2 (.cons 100000 aS70_3 (.cons 100000 aS70_4 (.cons 100000 aS70_5 (.cons 100000 aS70_6 (.cons 100000 aS70_7 (.cons 100000 aS70_8 (.cons 100000 aS70_9 (.cons 100000 aS70_10 (.cons 100000 aS70_11 (.cons 100000 aS70_12 (.cons 100000 aS70_13 (.cons 100000 aS70_14 (.cons 100000 aS70_15 (.cons 100000 aS70_16 (.cons 100000 aS70_17 (.cons 100000 aS70_18 (.cons 100000 aS70_19 (.cons 100000 aS70_20 (.cons 100000 aS70_21 (.cons 100000 aS70_22 (.cons 100000 aS70_23 (.cons 100000 aS70_24 (.cons 100000 aS70_25 (.cons 100000 aS70_26 (.cons 100000 aS70_27 (.nil)))))))))))))))))))))))))))))
theorem spS12_ok : spS12.All (SpecOk Tryz.prog (ground.env .nil)) := ⟨⟨⟨⟨sok9, sokS57⟩, ⟨sokS70, sokS97⟩⟩, ⟨⟨sokS98, sokS121⟩, ⟨sokS122, sokS130⟩⟩⟩, ⟨⟨⟨sok131, sok155⟩, ⟨sokS172, sokS185⟩⟩, ⟨⟨sokS188, sokS205⟩, ⟨sokS232, ⟨sok233, sok273⟩⟩⟩⟩⟩
theorem sokS46 : SpecOk Tryz.prog (ground.env .nil) 46 (memoSpec tS46) := groundOk.memo spS12_ok mixed (F := fnOf Tryz.f46) (by kernel_rfl) (.cons 100000 aS46_0 (.cons 100000 aS46_1 (.cons 100000 aS46_2 (.cons 100000 aS46_3 (.cons 100000 aS46_4 (.cons 100000 aS46_5 (.cons 100000 aS46_6 (.cons 100000 aS46_7 (.cons 100000 aS46_8 (.cons 100000 aS46_9 (.cons 100000 aS46_10 (.cons 100000 aS46_11 (.cons 100000 aS46_12 (.cons 100000 aS46_13 (.cons 100000 aS46_14 (.cons 100000 aS46_15 (.cons 100000 aS46_16 (.cons 100000 aS46_17 (.cons 100000 aS46_18 (.cons 100000 aS46_19 (.cons 100000 aS46_20 (.cons 100000 aS46_21 (.cons 100000 aS46_22 (.cons 100000 aS46_23 (.cons 100000 aS46_24 (.cons 100000 aS46_25 (.cons 100000 aS46_26 (.cons 100000 aS46_27 (.nil)))))))))))))))))))))))))))))
theorem spS13_ok : spS13.All (SpecOk Tryz.prog (ground.env .nil)) := ⟨⟨⟨⟨sok9, sokS46⟩, ⟨sokS57, sokS70⟩⟩, ⟨⟨sokS97, sokS98⟩, ⟨sokS121, ⟨sokS122, sokS130⟩⟩⟩⟩, ⟨⟨⟨sok131, sok155⟩, ⟨sokS172, sokS185⟩⟩, ⟨⟨sokS188, sokS205⟩, ⟨sokS232, ⟨sok233, sok273⟩⟩⟩⟩⟩
theorem sokS73 : SpecOk Tryz.prog (ground.env .nil) 73 (memoSpec tS73) := groundOk.memo spS13_ok mixed (F := fnOf Tryz.f73) (by kernel_rfl) (.cons 100000 aS73_0 (.cons 100000 aS73_1 (.cons 100000 aS73_2 (.cons 100000 aS73_3 (.cons 100000 aS73_4 (.cons 100000 aS73_5 (.cons 100000 aS73_6 (.cons 100000 aS73_7 (.cons 100000 aS73_8 (.cons 100000 aS73_9 (.cons 100000 aS73_10 (.cons 100000 aS73_11 (.cons 100000 aS73_12 (.cons 100000 aS73_13 (.cons 100000 aS73_14 (.cons 100000 aS73_15 (.cons 100000 aS73_16 (.cons 100000 aS73_17 (.cons 100000 aS73_18 (.cons 100000 aS73_19 (.cons 100000 aS73_20 (.cons 100000 aS73_21 (.cons 100000 aS73_22 (.cons 100000 aS73_23 (.cons 100000 aS73_24 (.cons 100000 aS73_25 (.cons 100000 aS73_26 (.cons 100000 aS73_27 (.nil)))))))))))))))))))))))))))))
theorem spS14_ok : spS14.All (SpecOk Tryz.prog (ground.env .nil)) := ⟨⟨⟨⟨sok9, sokS46⟩, ⟨sokS57, sokS70⟩⟩, ⟨⟨sokS73, sokS97⟩, ⟨sokS98, ⟨sokS121, sokS122⟩⟩⟩⟩, ⟨⟨⟨sokS130, sok131⟩, ⟨sok155, ⟨sokS172, sokS185⟩⟩⟩, ⟨⟨sokS188, sokS205⟩, ⟨sokS232, ⟨sok233, sok273⟩⟩⟩⟩⟩
theorem sokS42 : SpecOk Tryz.prog (ground.env .nil) 42 (memoSpec tS42) := groundOk.memo spS14_ok mixed (F := fnOf Tryz.f42) (by kernel_rfl) (.cons 100000 aS42_0 (.cons 100000 aS42_1 (.cons 100000 aS42_2 (.cons 100000 aS42_3 (.cons 100000 aS42_4 (.cons 100000 aS42_5 (.cons 100000 aS42_6 (.cons 100000 aS42_7 (.cons 100000 aS42_8 (.cons 100000 aS42_9 (.cons 100000 aS42_10 (.cons 100000 aS42_11 (.cons 100000 aS42_12 (.cons 100000 aS42_13 (.cons 100000 aS42_14 (.cons 100000 aS42_15 (.cons 100000 aS42_16 (.cons 100000 aS42_17 (.cons 100000 aS42_18 (.cons 100000 aS42_19 (.cons 100000 aS42_20 (.cons 100000 aS42_21 (.cons 100000 aS42_22 (.cons 100000 aS42_23 (.cons 100000 aS42_24 (.cons 100000 aS42_25 (.cons 100000 aS42_26 (.cons 100000 aS42_27 (.nil)))))))))))))))))))))))))))))
theorem spS15_ok : spS15.All (SpecOk Tryz.prog (ground.env .nil)) := ⟨⟨⟨⟨sok9, sokS42⟩, ⟨sokS46, ⟨sokS57, sokS70⟩⟩⟩, ⟨⟨sokS73, sokS97⟩, ⟨sokS98, ⟨sokS121, sokS122⟩⟩⟩⟩, ⟨⟨⟨sokS130, sok131⟩, ⟨sok155, ⟨sokS172, sokS185⟩⟩⟩, ⟨⟨sokS188, sokS205⟩, ⟨sokS232, ⟨sok233, sok273⟩⟩⟩⟩⟩
theorem sokS58 : SpecOk Tryz.prog (ground.env .nil) 58 (memoSpec tS58) := groundOk.memo spS15_ok mixed (F := fnOf Tryz.f58) (by kernel_rfl) (.cons 100000 aS58_0 (.cons 100000 aS58_1 (.cons 100000 aS58_2 (.cons 100000 aS58_3 (.cons 100000 aS58_4 (.cons 100000 aS58_5 (.cons 100000 aS58_6 (.cons 100000 aS58_7 (.cons 100000 aS58_8 (.cons 100000 aS58_9 (.cons 100000 aS58_10 (.cons 100000 aS58_11 (.cons 100000 aS58_12 (.cons 100000 aS58_13 (.cons 100000 aS58_14 (.cons 100000 aS58_15 (.cons 100000 aS58_16 (.cons 100000 aS58_17 (.cons 100000 aS58_18 (.cons 100000 aS58_19 (.cons 100000 aS58_20 (.cons 100000 aS58_21 (.cons 100000 aS58_22 (.cons 100000 aS58_23 (.cons 100000 aS58_24 (.cons 100000 aS58_25 (.cons 100000 aS58_26 (.cons 100000 aS58_27 (.nil)))))))))))))))))))))))))))))
theorem spS16_ok : spS16.All (SpecOk Tryz.prog (ground.env .nil)) := ⟨⟨⟨⟨sok9, sokS42⟩, ⟨sokS46, ⟨sokS57, sokS58⟩⟩⟩, ⟨⟨sokS70, sokS73⟩, ⟨sokS97, ⟨sokS98, sokS121⟩⟩⟩⟩, ⟨⟨⟨sokS122, sokS130⟩, ⟨sok131, ⟨sok155, sokS172⟩⟩⟩, ⟨⟨sokS185, ⟨sokS188, sokS205⟩⟩, ⟨sokS232, ⟨sok233, sok273⟩⟩⟩⟩⟩
theorem sokS63 : SpecOk Tryz.prog (ground.env .nil) 63 (memoSpec tS63) := groundOk.memo spS16_ok mixed (F := fnOf Tryz.f63) (by kernel_rfl) (.cons 100000 aS63_0 (.cons 100000 aS63_1 (.cons 100000 aS63_2 (.cons 100000 aS63_3 (.cons 100000 aS63_4 (.cons 100000 aS63_5 (.cons 100000 aS63_6 (.cons 100000 aS63_7 (.cons 100000 aS63_8 (.cons 100000 aS63_9 (.cons 100000 aS63_10 (.cons 100000 aS63_11 (.cons 100000 aS63_12 (.cons 100000 aS63_13 (.cons 100000 aS63_14 (.cons 100000 aS63_15 (.cons 100000 aS63_16 (.cons 100000 aS63_17 (.cons 100000 aS63_18 (.cons 100000 aS63_19 (.cons 100000 aS63_20 (.cons 100000 aS63_21 (.cons 100000 aS63_22 (.cons 100000 aS63_23 (.cons 100000 aS63_24 (.cons 100000 aS63_25 (.cons 100000 aS63_26 (.cons 100000 aS63_27 (.cons 100000 aS63_28 (.cons 100000 aS63_29 (.cons 100000 aS63_30 (.cons 100000 aS63_31 (.cons 100000 aS63_32 (.cons 100000 aS63_33 (.cons 100000 aS63_34 (.cons 100000 aS63_35 (.cons 100000 aS63_36 (.cons 100000 aS63_37 (.cons 100000 aS63_38 (.cons 100000 aS63_39 (.cons 100000 aS63_40 (.cons 100000 aS63_41 (.cons 100000 aS63_42 (.cons 100000 aS63_43 (.cons 100000 aS63_44 (.cons 100000 aS63_45 (.cons 100000 aS63_46 (.cons 100000 aS63_47 (.cons 100000 aS63_48 (.cons 100000 aS63_49 (.cons 100000 aS63_50 (.cons 100000 aS63_51 (.cons 100000 aS63_52 (.cons 100000 aS63_53 (.cons 100000 aS63_54 (.cons 100000 aS63_55 (.cons 100000 aS63_56 (.cons 100000 aS63_57 (.cons 100000 aS63_58 (.cons 100000 aS63_59 (.cons 100000 aS63_60 (.cons 100000 aS63_61 (.cons 100000 aS63_62 (.cons 100000 aS63_63 (.cons 100000 aS63_64 (.cons 100000 aS63_65 (.cons 100000 aS63_66 (.cons 100000 aS63_67 (.cons 100000 aS63_68 (.cons 100000 aS63_69 (.cons 100000 aS63_70 (.cons 100000 aS63_71 (.cons 100000 aS63_72 (.cons 100000 aS63_73 (.cons 100000 aS63_74 (.cons 100000 aS63_75 (.cons 100000 aS63_76 (.cons 100000 aS63_77 (.cons 100000 aS63_78 (.cons 100000 aS63_79 (.cons 100000 aS63_80 (.cons 100000 aS63_81 (.cons 100000 aS63_82 (.cons 100000 aS63_83 (.cons 100000 aS63_84 (.cons 100000 aS63_85 (.cons 100000 aS63_86 (.cons 100000 aS63_87 (.cons 100000 aS63_88 (.cons 100000 aS63_89 (.cons 100000 aS63_90 (.cons 100000 aS63_91 (.cons 100000 aS63_92 (.cons 100000 aS63_93 (.cons 100000 aS63_94 (.cons 100000 aS63_95 (.cons 100000 aS63_96 (.cons 100000 aS63_97 (.cons 100000 aS63_98 (.cons 100000 aS63_99 (.cons 100000 aS63_100 (.cons 100000 aS63_101 (.cons 100000 aS63_102 (.cons 100000 aS63_103 (.cons 100000 aS63_104 (.cons 100000 aS63_105 (.cons 100000 aS63_106 (.cons 100000 aS63_107 (.cons 100000 aS63_108 (.cons 100000 aS63_109 (.cons 100000 aS63_110 (.cons 100000 aS63_111 (.cons 100000 aS63_112 (.cons 100000 aS63_113 (.cons 100000 aS63_114 (.cons 100000 aS63_115 (.cons 100000 aS63_116 (.cons 100000 aS63_117 (.cons 100000 aS63_118 (.cons 100000 aS63_119 (.cons 100000 aS63_120 (.cons 100000 aS63_121 (.cons 100000 aS63_122 (.cons 100000 aS63_123 (.cons 100000 aS63_124 (.cons 100000 aS63_125 (.cons 100000 aS63_126 (.cons 100000 aS63_127 (.cons 100000 aS63_128 (.cons 100000 aS63_129 (.cons 100000 aS63_130 (.cons 100000 aS63_131 (.cons 100000 aS63_132 (.cons 100000 aS63_133 (.cons 100000 aS63_134 (.cons 100000 aS63_135 (.cons 100000 aS63_136 (.cons 100000 aS63_137 (.cons 100000 aS63_138 (.cons 100000 aS63_139 (.cons 100000 aS63_140 (.cons 100000 aS63_141 (.cons 100000 aS63_142 (.cons 100000 aS63_143 (.cons 100000 aS63_144 (.cons 100000 aS63_145 (.cons 100000 aS63_146 (.cons 100000 aS63_147 (.cons 100000 aS63_148 (.cons 100000 aS63_149 (.cons 100000 aS63_150 (.cons 100000 aS63_151 (.cons 100000 aS63_152 (.cons 100000 aS63_153 (.cons 100000 aS63_154 (.cons 100000 aS63_155 (.cons 100000 aS63_156 (.cons 100000 aS63_157 (.cons 100000 aS63_158 (.cons 100000 aS63_159 (.cons 100000 aS63_160 (.cons 100000 aS63_161 (.cons 100000 aS63_162 (.cons 100000 aS63_163 (.cons 100000 aS63_164 (.cons 100000 aS63_165 (.cons 100000 aS63_166 (.cons 100000 aS63_167 (.nil)))))))))))))))))))))))))))))))))))))))))))))))))))))))))))))))))))))))))))))))))))))))))))))))))))))))))))))))))))))))))))))))))))))))))))))))))))))))))))))))))))))))))
theorem spS17_ok : spS17.All (SpecOk Tryz.prog (ground.env .nil)) := ⟨⟨⟨⟨sok9, sokS42⟩, ⟨sokS46, ⟨sokS57, sokS58⟩⟩⟩, ⟨⟨sokS63, ⟨sokS70, sokS73⟩⟩, ⟨sokS97, ⟨sokS98, sokS121⟩⟩⟩⟩, ⟨⟨⟨sokS122, sokS130⟩, ⟨sok131, ⟨sok155, sokS172⟩⟩⟩, ⟨⟨sokS185, ⟨sokS188, sokS205⟩⟩, ⟨sokS232, ⟨sok233, sok273⟩⟩⟩⟩⟩
theorem sokS24 : SpecOk Tryz.prog (ground.env .nil) 24 (memoSpec tS24) := groundOk.memo spS17_ok mixed (F := fnOf Tryz.f24) (by kernel_rfl) (.cons 100000 aS24_0 (.cons 100000 aS24_1 (.cons 100000 aS24_2 (.cons 100000 aS24_3 (.cons 100000 aS24_4 (.cons 100000 aS24_5 (.cons 100000 aS24_6 (.cons 100000 aS24_7 (.cons 100000 aS24_8 (.cons 100000 aS24_9 (.cons 100000 aS24_10 (.cons 100000 aS24_11 (.cons 100000 aS24_12 (.cons 100000 aS24_13 (.nil)))))))))))))))
theorem spS18_ok : spS18.All (SpecOk Tryz.prog (ground.env .nil)) := ⟨⟨⟨⟨sok9, sokS24⟩, ⟨sokS42, ⟨sokS46, sokS57⟩⟩⟩, ⟨⟨sokS58, ⟨sokS63, sokS70⟩⟩, ⟨sokS73, ⟨sokS97, sokS98⟩⟩⟩⟩, ⟨⟨⟨sokS121, ⟨sokS122, sokS130⟩⟩, ⟨sok131, ⟨sok155, sokS172⟩⟩⟩, ⟨⟨sokS185, ⟨sokS188, sokS205⟩⟩, ⟨sokS232, ⟨sok233, sok273⟩⟩⟩⟩⟩
end Go.Proofs.YtmbhjdkbcgngiaaGreatDoor
end
section
set_option linter.unusedVariables false
set_option linter.unusedSimpArgs false
namespace Go.Proofs.YtmbhjdkbcgngiaaGreatDoor
open Go Go.Ax
noncomputable def SE : Env := ground.env spS18
theorem SEhs : SE.hspec 9 = none := by kernel_rfl
theorem SEsp : SE.spec 9 = some (memoSpec t9) := by kernel_rfl
theorem SEfn : SE.fn 5 = some (fnOf Tryz.f5) := by kernel_rfl
theorem get_leafS (n t : Nat) : (Fr.mk n .leaf).get t = if t < n then some .undef else none := by
  unfold Fr.get
  cases h : Nat.blt t n with
  | true => rw [Nat.blt_eq] at h; rw [if_pos h]; rfl
  | false => rw [if_neg]; intro g; rw [← Nat.blt_eq] at g; rw [h] at g; cases g
theorem c_begun {σ : Sg} {K : V → Sg → Prop} : WpCall SE 9 [] σ K = K (.bool true) σ := wpCall_spec SEhs SEsp (args' := []) (v := .bool true) rfl (by kernel_rfl) rfl
theorem mod7 (n : Int) : ∃ r : Nat, r < 7 ∧ wr .i64 (n.tmod 7 + 7) = n.tmod 7 + 7 ∧ (n.tmod 7 + 7).tmod 7 = (r : Int) ∧ wr .i64 (2 + (r : Int)) = ((r + 2 : Nat) : Int) := by
  have h1 : n.tmod 7 < 7 := Int.tmod_lt_of_pos n (by omega)
  have h2 : -7 < n.tmod 7 := by
    have := Int.lt_tmod_of_pos n (show (0 : Int) < 7 by omega)
    omega
  have wid : ∀ m : Int, 0 ≤ m → m < 100 → wr .i64 m = m := fun m a b => by
    rw [wr_old, if_pos]
    rw [Bool.and_eq_true, decide_eq_true_eq, decide_eq_true_eq]
    exact ⟨show (-9223372036854775808 : Int) ≤ m by omega, show m ≤ (9223372036854775807 : Int) by omega⟩
  have h3 : (n.tmod 7 + 7).tmod 7 = (n.tmod 7 + 7) % 7 := Int.tmod_eq_emod_of_nonneg (by omega)
  refine ⟨((n.tmod 7 + 7) % 7).toNat, by omega, wid _ (by omega) (by omega), by rw [h3]; omega, ?_⟩
  rw [wid _ (by omega) (by omega)]
  omega
def spanFr (n : Int) (r : Nat) (d : Bool) : Fr := ((((((((((((({ n := 111, f := FT.leaf } : Fr).put 0 (V.int IntKind.i64 n)).put 1 (V.bool d)).put 4 (V.bool false)).put 14 (V.bool true)).put 5 (V.bool true)).put 15 (V.bool true)).put 16 (V.bool false)).put 17 (V.int IntKind.i64 n)).put 18 (V.int IntKind.i64 (n.tmod 7))).put 19 (V.int IntKind.i64 (n.tmod 7 + 7))).put 20 (V.int IntKind.i64 (r : Nat))).put 21 (V.int IntKind.i64 ((r + 2 : Nat) : Int))).put 0 (V.int IntKind.i64 ((r + 2 : Nat) : Int))
end Go.Proofs.YtmbhjdkbcgngiaaGreatDoor
end
section
set_option linter.unusedVariables false
namespace Go.Proofs.YtmbhjdkbcgngiaaGreatDoor
open Go Go.Ax
theorem span_6true (n : Int) : evRet SE 100000 (fnOf Tryz.f5).results (cutAt [1, 1, 1, 1] (fnOf Tryz.f5).code) (spanFr n 6 true) [] = some (.bool true) := by kernel_rfl
theorem span_6false (n : Int) : evRet SE 100000 (fnOf Tryz.f5).results (cutAt [1, 1, 1, 1] (fnOf Tryz.f5).code) (spanFr n 6 false) [] = some (.bool true) := by kernel_rfl
end Go.Proofs.YtmbhjdkbcgngiaaGreatDoor
end
section
set_option linter.unusedVariables false
namespace Go.Proofs.YtmbhjdkbcgngiaaGreatDoor
open Go Go.Ax
theorem span_5true (n : Int) : evRet SE 100000 (fnOf Tryz.f5).results (cutAt [1, 1, 1, 1] (fnOf Tryz.f5).code) (spanFr n 5 true) [] = some (.bool true) := by kernel_rfl
theorem span_5false (n : Int) : evRet SE 100000 (fnOf Tryz.f5).results (cutAt [1, 1, 1, 1] (fnOf Tryz.f5).code) (spanFr n 5 false) [] = some (.bool true) := by kernel_rfl
end Go.Proofs.YtmbhjdkbcgngiaaGreatDoor
end
section
set_option linter.unusedVariables false
namespace Go.Proofs.YtmbhjdkbcgngiaaGreatDoor
open Go Go.Ax
theorem span_4true (n : Int) : evRet SE 100000 (fnOf Tryz.f5).results (cutAt [1, 1, 1, 1] (fnOf Tryz.f5).code) (spanFr n 4 true) [] = some (.bool true) := by kernel_rfl
theorem span_4false (n : Int) : evRet SE 100000 (fnOf Tryz.f5).results (cutAt [1, 1, 1, 1] (fnOf Tryz.f5).code) (spanFr n 4 false) [] = some (.bool true) := by kernel_rfl
end Go.Proofs.YtmbhjdkbcgngiaaGreatDoor
end
section
set_option linter.unusedVariables false
namespace Go.Proofs.YtmbhjdkbcgngiaaGreatDoor
open Go Go.Ax
theorem span_3true (n : Int) : evRet SE 100000 (fnOf Tryz.f5).results (cutAt [1, 1, 1, 1] (fnOf Tryz.f5).code) (spanFr n 3 true) [] = some (.bool true) := by kernel_rfl
theorem span_3false (n : Int) : evRet SE 100000 (fnOf Tryz.f5).results (cutAt [1, 1, 1, 1] (fnOf Tryz.f5).code) (spanFr n 3 false) [] = some (.bool true) := by kernel_rfl
end Go.Proofs.YtmbhjdkbcgngiaaGreatDoor
end
section
set_option linter.unusedVariables false
namespace Go.Proofs.YtmbhjdkbcgngiaaGreatDoor
open Go Go.Ax
theorem span_2true (n : Int) : evRet SE 100000 (fnOf Tryz.f5).results (cutAt [1, 1, 1, 1] (fnOf Tryz.f5).code) (spanFr n 2 true) [] = some (.bool true) := by kernel_rfl
theorem span_2false (n : Int) : evRet SE 100000 (fnOf Tryz.f5).results (cutAt [1, 1, 1, 1] (fnOf Tryz.f5).code) (spanFr n 2 false) [] = some (.bool true) := by kernel_rfl
end Go.Proofs.YtmbhjdkbcgngiaaGreatDoor
end
section
set_option linter.unusedVariables false
namespace Go.Proofs.YtmbhjdkbcgngiaaGreatDoor
open Go Go.Ax
theorem span_1true (n : Int) : evRet SE 100000 (fnOf Tryz.f5).results (cutAt [1, 1, 1, 1] (fnOf Tryz.f5).code) (spanFr n 1 true) [] = some (.bool true) := by kernel_rfl
theorem span_1false (n : Int) : evRet SE 100000 (fnOf Tryz.f5).results (cutAt [1, 1, 1, 1] (fnOf Tryz.f5).code) (spanFr n 1 false) [] = some (.bool true) := by kernel_rfl
end Go.Proofs.YtmbhjdkbcgngiaaGreatDoor
end
section
set_option linter.unusedVariables false
namespace Go.Proofs.YtmbhjdkbcgngiaaGreatDoor
open Go Go.Ax
theorem span_0true (n : Int) : evRet SE 100000 (fnOf Tryz.f5).results (cutAt [1, 1, 1, 1] (fnOf Tryz.f5).code) (spanFr n 0 true) [] = some (.bool true) := by kernel_rfl
theorem span_0false (n : Int) : evRet SE 100000 (fnOf Tryz.f5).results (cutAt [1, 1, 1, 1] (fnOf Tryz.f5).code) (spanFr n 0 false) [] = some (.bool true) := by kernel_rfl
end Go.Proofs.YtmbhjdkbcgngiaaGreatDoor
end
