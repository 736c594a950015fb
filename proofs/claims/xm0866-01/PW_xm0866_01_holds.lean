import PyProof.Rows.All
import Wide.All
import OpenK.AllK
import Wide.FinOn
import Lean
import PySem.Challenge.RW_xm0866_01
set_option Elab.async false
set_option linter.all false
section
set_option Elab.async false
set_option compiler.extract_closed false
set_option maxHeartbeats 4000000
set_option maxRecDepth 100000
set_option linter.all false
set_option tactic.hygienic false
set_option genInjectivity false
set_option genSizeOf false
local macro_rules | `(tactic| omega) => do let ts ← ("nabs64 nabs60 tn_lt tn_le le_tn tn_dec tn_succ tn_eq tn_eq' nsub_dec nsub_lt nsub_le".splitOn " ").toArray.mapM (fun s => `(Lean.Parser.Tactic.tacticSeq| ((with_reducible apply $(Lean.mkIdent (.str `RK s))) <;> omega))); `(tactic| first | with_reducible assumption | ((with_reducible apply And.intro) <;> omega) $[| $ts]* | lia | omega (splitMinMax := true))
set_option hygiene false in
local macro_rules | `(tactic| cases $h:ident) => `(tactic| first | subst $h | (injection $h; done) | (injection $h with e1_ e2_ e3_ e4_; cases e1_; cases e2_; cases e3_; cases e4_) | (injection $h with e1_ e2_ e3_; cases e1_; cases e2_; cases e3_) | (injection $h with e1_ e2_; cases e1_; cases e2_) | (injection $h with e1_; cases e1_) | cases ($h))
set_option hygiene false in
local macro_rules | `(tactic| rw [$rs,*]) => do let ts ← rs.getElems.mapM (fun r => do let t : Lean.Term := ⟨r.raw[1]⟩; if r.raw[0].isNone then `(tactic| first | with_reducible refine RK.rwt $t ?_ | rewrite [$r]) else `(tactic| first | with_reducible refine RK.rwt' $t ?_ | rewrite [$r])); `(tactic| ($[$ts:tactic];*; with_reducible try rfl))
set_option hygiene false in
local macro_rules | `(tactic| cases $x:ident $a:inductionAlts) => do let ts ← ("List Option Bool Nat Prod Or RK.V RK.E RK.AO RK.Out RK.T RK.BOp RK.COp PySem.Value PySem.Flow Except".splitOn " ").toArray.mapM (fun s => `(Lean.Parser.Tactic.tacticSeq| induction $x:ident using $(Lean.mkIdent (s.toName ++ `casesOn)) $a:inductionAlts)); `(tactic| first $[| $ts]* | cases ($x) $a:inductionAlts)
set_option hygiene false in
local macro_rules | `(tactic| cases $h:ident : $e:term $a:inductionAlts) => `(tactic| (generalize $h:ident : $e = x_; cases x_ $a:inductionAlts))
section
open PySem PySem.W PyProof.Rows
namespace RK
@[elab_as_elim] theorem rwt {α : Sort u} {a b : α} {motive : α → Prop} (h : a = b) (m : motive b) : motive a := h ▸ m
@[elab_as_elim] theorem rwt' {α : Sort u} {a b : α} {motive : α → Prop} (h : a = b) (m : motive a) : motive b := h ▸ m
theorem nabs64 {a : Int} (h : 0 ≤ a) (h1 : a < 18446744073709551616) : a.natAbs < 2 ^ 64 := Int.ofNat_lt.mp (show ((a.natAbs : Nat) : Int) < ((18446744073709551616 : Nat) : Int) by rw [Int.natAbs_of_nonneg h]; exact h1)
theorem nabs60 {a : Int} (h : 0 ≤ a) (h1 : a < 1152921504606846976) : a.natAbs < 2 ^ 60 := Int.ofNat_lt.mp (show ((a.natAbs : Nat) : Int) < ((1152921504606846976 : Nat) : Int) by rw [Int.natAbs_of_nonneg h]; exact h1)
theorem tn_lt {i : Int} {n : Nat} (h : 0 ≤ i) (h1 : i < (n : Int)) : i.toNat < n := (Int.toNat_lt h).mpr h1
theorem tn_le {i : Int} {n : Nat} (h1 : i ≤ (n : Int)) : i.toNat ≤ n := Int.toNat_le.mpr h1
theorem le_tn {i : Int} {n : Nat} (h1 : (n : Int) ≤ i) : n ≤ i.toNat := (Int.le_toNat (Int.le_trans (Int.natCast_nonneg n) h1)).mpr h1
theorem tn_dec {a b : Int} (h : a < b) (h1 : 0 < b) : a.toNat < b.toNat := (Int.toNat_lt_toNat h1).mpr h
theorem tn_eq {i : Int} {n : Nat} (h : i = (n : Int)) : i.toNat = n := by subst h; rfl
theorem tn_eq' {i : Int} {n : Nat} (h : i = (n : Int)) : n = i.toNat := by subst h; rfl
theorem tn_succ {a b : Int} (h : a = b + 1) (h0 : 0 ≤ b) : a.toNat = b.toNat + 1 := by subst h; exact Int.toNat_add h0 (by decide)
theorem nsub_dec {a i j : Nat} (h : i < j) (h1 : i < a) : a - j < a - i := Nat.sub_lt_sub_left h1 h
theorem nsub_lt {a k : Nat} (h : 0 < a) (h1 : 0 < k) : a - k < a := Nat.sub_lt h h1
theorem nsub_le {a b n : Nat} (h : a ≤ n) : a - b ≤ n := Nat.le_trans (Nat.sub_le a b) h
abbrev Nm := Nat
@[reducible] noncomputable def Nm.n : Nm := 110
@[reducible] noncomputable def Nm.MAX_32 : Nm := 84943050847026
@[reducible] noncomputable def Nm.MAX_64 : Nm := 84943050847796
@[reducible] noncomputable def Nm.data : Nm := 1684108385
@[reducible] noncomputable def Nm.«at» : Nm := 24948
@[reducible] noncomputable def Nm.seq : Nm := 7562609
@[reducible] noncomputable def Nm.kind : Nm := 1802071652
@[reducible] noncomputable def Nm.KIND_VALUE : Nm := 355529738270061630346565
@[reducible] noncomputable def Nm.KIND_DELETE : Nm := 91015612997116003338245189
@[reducible] noncomputable def Nm.MAX_SEQ : Nm := 21745421018940753
@[reducible] noncomputable def Nm.user : Nm := 1970496882
@[reducible] noncomputable def Nm.ik : Nm := 26987
@[reducible] noncomputable def Nm.TAG_LENGTH : Nm := 397882965839001348953160
@[reducible] noncomputable def Nm.self : Nm := 1936026726
@[reducible] noncomputable def Nm.a : Nm := 97
@[reducible] noncomputable def Nm.b : Nm := 98
@[reducible] noncomputable def Nm.user_order : Nm := 554645564074302529365362
@[reducible] noncomputable def Nm.tag_a : Nm := 499850370913
@[reducible] noncomputable def Nm.tag_b : Nm := 499850370914
@[reducible] noncomputable def Nm.c : Nm := 99
@[reducible] noncomputable def Nm.compare : Nm := 27988538521907813
@[reducible] noncomputable def Nm.expand_factor : Nm := 8039318474916979642221162950514
@[reducible] noncomputable def Nm.grandparent_factor : Nm := 9011487149105682638017054458543665325567858
@[reducible] noncomputable def Nm.max_mem_level : Nm := 8666035281748656604203651065196
@[reducible] noncomputable def Nm.level_factor : Nm := 33547041678661547879071772530
@[reducible] noncomputable def Nm.base_bytes : Nm := 464589564653538616042867
@[reducible] noncomputable def Nm.l0_stop : Nm := 30452484001787760
@[reducible] noncomputable def Nm.l0_trigger : Nm := 510907902113787675108722
@[reducible] noncomputable def Nm.num_levels : Nm := 521626463309340946558067
@[reducible] noncomputable def Nm.max_file_size : Nm := 8666035281619817351130328431205
@[reducible] noncomputable def Nm.filter_base_lg : Nm := 2077158301731992736011714914380903
@[reducible] noncomputable def Nm.filter_bits : Nm := 123808282716989084244997235
@[reducible] noncomputable def Nm.restart_interval : Nm := 152058755199922111748933876660160586092
@[reducible] noncomputable def Nm.block_size : Nm := 464792190058204469230181
@[reducible] noncomputable def Nm.heights : Nm := 29384900958778483
@[reducible] noncomputable def Nm.max_height : Nm := 516535954574133263034484
@[reducible] noncomputable def Nm.write_buffer : Nm := 36967031707783810144207791474
@[reducible] noncomputable def Nm.paranoid : Nm := 8097879367779051876
@[reducible] noncomputable def Nm.create_missing : Nm := 2017021937089602474359887189601895
@[reducible] noncomputable def Nm.sync_writes : Nm := 139599911902530956034336115
@[reducible] noncomputable def Nm.log_block : Nm := 2000275849697773445995
@[reducible] noncomputable def Nm.check : Nm := 426953237355
@[reducible] noncomputable def Nm.CHECK_CRC : Nm := 1241139495473663660611
@[reducible] noncomputable def Nm.number : Nm := 121450625394034
@[reducible] noncomputable def Nm.size : Nm := 1936292453
@[reducible] noncomputable def Nm.smallest : Nm := 8317411205126124404
@[reducible] noncomputable def Nm.largest : Nm := 30506441473618804
@[reducible] noncomputable def Nm.reset : Nm := 491328333172
@[reducible] noncomputable def Nm.added : Nm := 418296128868
@[reducible] noncomputable def Nm.deleted : Nm := 28259013904065892
@[reducible] noncomputable def Nm.compact_pointers : Nm := 132172136220345316077792634801244959347
@[reducible] noncomputable def Nm.last_seq : Nm := 7809650172491949425
@[reducible] noncomputable def Nm.next_file : Nm := 2036453570056175578213
@[reducible] noncomputable def Nm.log_number : Nm := 512070617535862762792306
@[reducible] noncomputable def Nm.comparator : Nm := 469569756306368051310450
@[reducible] noncomputable def Nm.files : Nm := 439855375731
@[reducible] noncomputable def Nm.ikey : Nm := 1768646009
@[reducible] noncomputable def Nm.order : Nm := 478660552050
@[reducible] noncomputable def Nm.low : Nm := 7106423
@[reducible] noncomputable def Nm.high : Nm := 1751738216
@[reducible] noncomputable def Nm.mid : Nm := 7170404
@[reducible] noncomputable def Nm.score_level : Nm := 139496039369178243862521196
@[reducible] noncomputable def Nm.score : Nm := 495589487205
@[reducible] noncomputable def Nm.refs : Nm := 1919247987
@[reducible] noncomputable def Nm.level : Nm := 465558725996
@[reducible] noncomputable def Nm.low_user : Nm := 7813595130387195250
@[reducible] noncomputable def Nm.high_user : Nm := 1926056537721578677618
@[reducible] noncomputable def Nm.found : Nm := 439956631140
@[reducible] noncomputable def Nm.i : Nm := 105
@[reducible] noncomputable def Nm.first : Nm := 439855772532
@[reducible] noncomputable def Nm.last : Nm := 1818325876
@[reducible] noncomputable def Nm.«meta» : Nm := 1835365473
@[reducible] noncomputable def Nm.level0 : Nm := 119183033855024
@[reducible] noncomputable def Nm.KIND_SEEK : Nm := 1388788040117378172235
@[reducible] noncomputable def Nm.behind : Nm := 108187682958948
@[reducible] noncomputable def Nm.before : Nm := 108187649798757
@[reducible] noncomputable def Nm.octets : Nm := 122472945251443
@[reducible] noncomputable def Nm.numbers : Nm := 31091360100872819
@[reducible] noncomputable def Nm.base : Nm := 1650553701
@[reducible] noncomputable def Nm.dropped : Nm := 28273320624416100
@[reducible] noncomputable def Nm.edit : Nm := 1701079412
@[reducible] noncomputable def Nm.within : Nm := 131294808271214
@[reducible] noncomputable def Nm.made : Nm := 1835099237
@[reducible] noncomputable def Nm.place : Nm := 482854658917
@[reducible] noncomputable def Nm.total : Nm := 500086104428
@[reducible] noncomputable def Nm.version : Nm := 33325589488824174
@[reducible] noncomputable def Nm.options : Nm := 31367367702310515
@[reducible] noncomputable def Nm.places : Nm := 123610792682867
@[reducible] noncomputable def Nm.seen_key : Nm := 8315163811731170681
@[reducible] noncomputable def Nm.grand_octets : Nm := 32015233660957918267730916467
@[reducible] noncomputable def Nm.grand_at : Nm := 7454127460009861492
@[reducible] noncomputable def Nm.manual : Nm := 120265232441708
@[reducible] noncomputable def Nm.grandparents : Nm := 32015233660962688013345649779
@[reducible] noncomputable def Nm.inputs : Nm := 115923054064755
@[reducible] noncomputable def Nm.users : Nm := 504447201907
@[reducible] noncomputable def Nm.grand_limit : Nm := 125059506488116855448627572
@[reducible] noncomputable def Nm.side : Nm := 1936286821
@[reducible] noncomputable def Nm.result : Nm := 125780054338676
@[reducible] noncomputable def Nm.best_level : Nm := 464663355852000719168876
@[reducible] noncomputable def Nm.best_bottom : Nm := 118953819098101231908056941
@[reducible] noncomputable def Nm.best_top : Nm := 7090200132019580784
@[reducible] noncomputable def Nm.top : Nm := 7630704
@[reducible] noncomputable def Nm.bottom : Nm := 108230834679661
@[reducible] noncomputable def Nm.level_octets : Nm := 33547041678661557783550588019
@[reducible] noncomputable def Nm.ends : Nm := 1701733491
@[reducible] noncomputable def Nm.pointers : Nm := 8101810177782936179
@[reducible] noncomputable def Nm.set_up_other : Nm := 35713427192650828963375506802
@[reducible] noncomputable def Nm.overlapping : Nm := 134749876588426054551039591
@[reducible] noncomputable def Nm.user_range : Nm := 554645564074315129710437
@[reducible] noncomputable def Nm.pointer : Nm := 31647696006964594
@[reducible] noncomputable def Nm.needs_compaction : Nm := 146741558000945077507121313765755809646
@[reducible] noncomputable def Nm.count : Nm := 427071729268
@[reducible] noncomputable def Nm.span : Nm := 1936744814
@[reducible] noncomputable def Nm.cost : Nm := 1668248436
@[reducible] noncomputable def Nm.room : Nm := 1919905645
@[reducible] noncomputable def Nm.grown : Nm := 444301539182
@[reducible] noncomputable def Nm.above : Nm := 418263299685
@[reducible] noncomputable def Nm.nums : Nm := 1853189491
@[reducible] noncomputable def Nm.f : Nm := 102
@[reducible] noncomputable def Nm.levels : Nm := 119183033855091
@[reducible] noncomputable def Nm.z : Nm := 122
@[reducible] noncomputable def Nm.j : Nm := 106
@[reducible] noncomputable def Nm.n_us : Nm := 95
@[reducible] noncomputable def Nm.book : Nm := 1651470187
@[reducible] noncomputable def Nm.grand : Nm := 444300619364
@[reducible] noncomputable def Nm.lower : Nm := 465726563698
@[reducible] noncomputable def Nm.upper : Nm := 504397587826
@[reducible] noncomputable def Nm.cheap : Nm := 426953236848
@[reducible] noncomputable def Nm.more : Nm := 1836020325
@[reducible] noncomputable def Nm.sort : Nm := 1936683636
@[reducible] noncomputable def Nm.x : Nm := 120
@[reducible] noncomputable def Nm.pair : Nm := 1885432178
@[reducible] noncomputable def Nm.row : Nm := 7499639
@[reducible] noncomputable def Nm.way : Nm := 7823737
@[reducible] noncomputable def Nm.stranger : Nm := 8319400174449812850
@[reducible] noncomputable def Nm.want : Nm := 2002873972
@[reducible] noncomputable def Nm.kept : Nm := 1801810036
@[reducible] noncomputable def Nm.plan : Nm := 1886151022
@[reducible] noncomputable def Nm.trivial : Nm := 32776894582186348
@[reducible] noncomputable def Nm.most : Nm := 1836020596
@[reducible] noncomputable def Nm.add_deletions : Nm := 7716201607924535324196937363059
@[reducible] noncomputable def Nm.picker : Nm := 123597941859698
@[reducible] noncomputable def Nm.pick_range : Nm := 530849118133716895295333
@[reducible] noncomputable def Nm.pick : Nm := 1885954923
@[reducible] noncomputable def Nm.t : Nm := 116
@[reducible] noncomputable def Nm.act : Nm := 6382452
@[reducible] noncomputable def Nm.overlaps : Nm := 8031718527580860531
@[reducible] noncomputable def Nm.candidates : Nm := 469311570577966398465395
@[reducible] noncomputable def Nm.there : Nm := 499967685221
@[reducible] noncomputable def Nm.script : Nm := 126870958469236
@[reducible] noncomputable def Nm.maker : Nm := 469785863538
@[reducible] noncomputable def Nm.finish : Nm := 112603010003816
@[reducible] noncomputable def Nm.apply : Nm := 418498243705
abbrev Fn := Nat
@[reducible] noncomputable def Fn.put_fixed32 : Fn := 0
@[reducible] noncomputable def Fn.put_fixed64 : Fn := 1
@[reducible] noncomputable def Fn.read_fixed32 : Fn := 2
@[reducible] noncomputable def Fn.read_fixed64 : Fn := 3
@[reducible] noncomputable def Fn.pack_tag : Fn := 4
@[reducible] noncomputable def Fn.make_ikey : Fn := 5
@[reducible] noncomputable def Fn.user_of : Fn := 6
@[reducible] noncomputable def Fn.tag_of : Fn := 7
@[reducible] noncomputable def Fn.Order_compare : Fn := 8
@[reducible] noncomputable def Fn.InternalOrder_init : Fn := 9
@[reducible] noncomputable def Fn.InternalOrder_compare : Fn := 10
@[reducible] noncomputable def Fn.Options_init : Fn := 11
@[reducible] noncomputable def Fn.FileMeta_init : Fn := 12
@[reducible] noncomputable def Fn.FileMeta_row : Fn := 13
@[reducible] noncomputable def Fn.VersionEdit_init : Fn := 14
@[reducible] noncomputable def Fn.find_file : Fn := 15
@[reducible] noncomputable def Fn.Version_init : Fn := 16
@[reducible] noncomputable def Fn.Version_overlapping : Fn := 17
@[reducible] noncomputable def Fn.Version_candidates : Fn := 18
@[reducible] noncomputable def Fn.Version_overlaps : Fn := 19
@[reducible] noncomputable def Fn.Version_level_octets : Fn := 20
@[reducible] noncomputable def Fn.Version_numbers : Fn := 21
@[reducible] noncomputable def Fn.Version_check : Fn := 22
@[reducible] noncomputable def Fn.VersionMaker_init : Fn := 23
@[reducible] noncomputable def Fn.VersionMaker_within : Fn := 24
@[reducible] noncomputable def Fn.VersionMaker_apply : Fn := 25
@[reducible] noncomputable def Fn.VersionMaker_before : Fn := 26
@[reducible] noncomputable def Fn.VersionMaker_place : Fn := 27
@[reducible] noncomputable def Fn.VersionMaker_finish : Fn := 28
@[reducible] noncomputable def Fn.total_size : Fn := 29
@[reducible] noncomputable def Fn.key_range : Fn := 30
@[reducible] noncomputable def Fn.Compaction_init : Fn := 31
@[reducible] noncomputable def Fn.Compaction_grand_limit : Fn := 32
@[reducible] noncomputable def Fn.Compaction_trivial : Fn := 33
@[reducible] noncomputable def Fn.Compaction_add_deletions : Fn := 34
@[reducible] noncomputable def Fn.max_octets_of : Fn := 35
@[reducible] noncomputable def Fn.score_of : Fn := 36
@[reducible] noncomputable def Fn.Picker_init : Fn := 37
@[reducible] noncomputable def Fn.Picker_needs_compaction : Fn := 38
@[reducible] noncomputable def Fn.Picker_user_range : Fn := 39
@[reducible] noncomputable def Fn.Picker_pick : Fn := 40
@[reducible] noncomputable def Fn.Picker_pick_range : Fn := 41
@[reducible] noncomputable def Fn.Picker_set_up_other : Fn := 42
@[reducible] noncomputable def Fn.law_draw : Fn := 43
@[reducible] noncomputable def Fn.law_user : Fn := 44
@[reducible] noncomputable def Fn.law_ikey : Fn := 45
@[reducible] noncomputable def Fn.law_rows : Fn := 46
@[reducible] noncomputable def Fn.law_octets : Fn := 47
@[reducible] noncomputable def Fn.law_lay : Fn := 48
@[reducible] noncomputable def Fn.law_touch : Fn := 49
@[reducible] noncomputable def Fn.law_joined : Fn := 50
@[reducible] noncomputable def Fn.law_span : Fn := 51
@[reducible] noncomputable def Fn.law_plan : Fn := 52
@[reducible] noncomputable def Fn.law_told : Fn := 53
@[reducible] noncomputable def Fn.law_spoil : Fn := 54
@[reducible] noncomputable def Fn.law_take : Fn := 55
@[reducible] noncomputable def Fn.law_is : Fn := 56
@[reducible] noncomputable def Fn.law_pair : Fn := 57
@[reducible] noncomputable def Fn.law_lapping : Fn := 58
@[reducible] noncomputable def Fn.law_numbers : Fn := 59
@[reducible] noncomputable def Fn.law_ask : Fn := 60
@[reducible] noncomputable def Fn.law : Fn := 61
noncomputable def nthD {α : Type} (d : α) : List α → Nat → α
 | [], _ => d
 | x :: _, 0 => x
 | _ :: xs, n + 1 => nthD d xs n
noncomputable def All2 {α β : Type} (P : α → β → Prop) : List α → List β → Prop
 | [], [] => True
 | x :: xs, y :: ys => P x y ∧ All2 P xs ys
 | _, _ => False
theorem nth2 {α β : Type} {P : α → β → Prop} {d : α} {d' : β} (hd : P d d') {xs : List α} {ys : List β} (h : All2 P xs ys) (n : Nat) : P (nthD d xs n) (nthD d' ys n) := by
 induction xs generalizing ys n with
 | nil =>
  cases ys with
  | nil => exact hd
  | cons y ys => exact h.elim
 | cons x xs ih =>
  cases ys with
  | nil => exact h.elim
  | cons y ys =>
   cases n with
   | zero => exact h.1
   | succ n => exact ih h.2 n
noncomputable def fnSs : List PySem.Str := [PySem.Str.ofString "put_fixed32", PySem.Str.ofString "put_fixed64", PySem.Str.ofString "read_fixed32", PySem.Str.ofString "read_fixed64", PySem.Str.ofString "pack_tag", PySem.Str.ofString "make_ikey", PySem.Str.ofString "user_of", PySem.Str.ofString "tag_of", PySem.Str.ofString "", PySem.Str.ofString "", PySem.Str.ofString "", PySem.Str.ofString "", PySem.Str.ofString "", PySem.Str.ofString "", PySem.Str.ofString "", PySem.Str.ofString "find_file", PySem.Str.ofString "", PySem.Str.ofString "", PySem.Str.ofString "", PySem.Str.ofString "", PySem.Str.ofString "", PySem.Str.ofString "", PySem.Str.ofString "", PySem.Str.ofString "", PySem.Str.ofString "", PySem.Str.ofString "", PySem.Str.ofString "", PySem.Str.ofString "", PySem.Str.ofString "", PySem.Str.ofString "total_size", PySem.Str.ofString "key_range", PySem.Str.ofString "", PySem.Str.ofString "", PySem.Str.ofString "", PySem.Str.ofString "", PySem.Str.ofString "max_octets_of", PySem.Str.ofString "score_of", PySem.Str.ofString "", PySem.Str.ofString "", PySem.Str.ofString "", PySem.Str.ofString "", PySem.Str.ofString "", PySem.Str.ofString "", PySem.Str.ofString "_law_draw", PySem.Str.ofString "_law_user", PySem.Str.ofString "_law_ikey", PySem.Str.ofString "_law_rows", PySem.Str.ofString "_law_octets", PySem.Str.ofString "_law_lay", PySem.Str.ofString "_law_touch", PySem.Str.ofString "_law_joined", PySem.Str.ofString "_law_span", PySem.Str.ofString "_law_plan", PySem.Str.ofString "_law_told", PySem.Str.ofString "_law_spoil", PySem.Str.ofString "_law_take", PySem.Str.ofString "_law_is", PySem.Str.ofString "_law_pair", PySem.Str.ofString "_law_lapping", PySem.Str.ofString "_law_numbers", PySem.Str.ofString "_law_ask", PySem.Str.ofString "law"]
noncomputable def Fn.S (f : Fn) : PySem.Str := nthD (PySem.Str.ofString "put_fixed32") fnSs f
inductive Cl where
 | BytesOrder | InternalOrder | Options | FileMeta | VersionEdit | Version | VersionMaker | Compaction | Picker
 deriving DecidableEq
noncomputable def dg : Nat → Nat → List Nat → List Nat
 | 0, _, acc => acc
 | f + 1, n, acc => if n = 0 then acc else dg f (n / 256) ((if n % 256 = 46 then 302 else n % 256) :: acc)
noncomputable def nmS (x : Nm) : PySem.Str := ⟨(dg x x []).toArray⟩
noncomputable def nmC (l : List Nat) : Nat := l.foldl (fun a c => a * 256 + c % 256) 0
theorem dg_succ {f n : Nat} {acc : List Nat} : dg (f + 1) n acc = if n = 0 then acc else dg f (n / 256) ((if n % 256 = 46 then 302 else n % 256) :: acc) := rfl
theorem dg_of (f n : Nat) (acc : List Nat) (h : n ≤ f) : nmC (dg f n acc) = acc.foldl (fun a c => a * 256 + c % 256) n := by
 induction f generalizing n acc with
 | zero => rw [Nat.le_zero.mp h]; rfl
 | succ f ih =>
  rw [dg_succ]
  split
  ·rename_i z; rw [z]; rfl
  ·rename_i z
   have h1 : n / 256 ≤ f := Nat.le_of_lt_succ (Nat.lt_of_lt_of_le (Nat.div_lt_self (Nat.pos_of_ne_zero z) (by decide)) h)
   have h2 : (if n % 256 = 46 then 302 else n % 256) % 256 = n % 256 := by
    split
    ·rename_i q; rw [q]
    ·exact Nat.mod_mod n 256
   rw [ih _ _ h1, List.foldl_cons, h2, Nat.mul_comm, Nat.div_add_mod]
theorem nmS_inj {x y : Nm} (h : nmS x = nmS y) : x = y := by
 have e : (dg x x []).toArray = (dg y y []).toArray := congrArg PySem.Str.cps h
 have e' : nmC (dg x x []) = nmC (dg y y []) := congrArg nmC (congrArg Array.toList e)
 rwa [dg_of _ _ _ (Nat.le_refl _), dg_of _ _ _ (Nat.le_refl _)] at e'
theorem dg_dot (f n : Nat) (acc : List Nat) (h : ∀ c ∈ acc, c ≠ 46) : ∀ c ∈ dg f n acc, c ≠ 46 := by
 induction f generalizing n acc with
 | zero => exact h
 | succ f ih =>
  rw [dg_succ]
  split
  ·exact h
  ·refine ih _ _ fun c hc => ?_
   cases hc with
   | head => split; decide; assumption
   | tail _ hc => exact h c hc
noncomputable def gval (x : Nm) : Int := (([(.MAX_32, 4294967295), (.MAX_64, 18446744073709551615), (.KIND_VALUE, 1), (.KIND_DELETE, 0), (.MAX_SEQ, 72057594037927935), (.TAG_LENGTH, 8), (.CHECK_CRC, 1), (.KIND_SEEK, 1)] : List (Nm × Int)).lookup x).getD 0
noncomputable def Cl.S : Cl → PySem.Str
 | .BytesOrder => PySem.Str.ofString "BytesOrder"
 | .InternalOrder => PySem.Str.ofString "InternalOrder"
 | .Options => PySem.Str.ofString "Options"
 | .FileMeta => PySem.Str.ofString "FileMeta"
 | .VersionEdit => PySem.Str.ofString "VersionEdit"
 | .Version => PySem.Str.ofString "Version"
 | .VersionMaker => PySem.Str.ofString "VersionMaker"
 | .Compaction => PySem.Str.ofString "Compaction"
 | .Picker => PySem.Str.ofString "Picker"
noncomputable def Cl.fields : Cl → List Nm
 | .BytesOrder => []
 | .InternalOrder => [.user_order]
 | .Options => [.check, .log_block, .sync_writes, .create_missing, .paranoid, .write_buffer, .max_height, .heights, .block_size, .restart_interval, .filter_bits, .filter_base_lg, .max_file_size, .num_levels, .l0_trigger, .l0_stop, .base_bytes, .level_factor, .max_mem_level, .grandparent_factor, .expand_factor]
 | .FileMeta => [.number, .size, .smallest, .largest]
 | .VersionEdit => [.comparator, .log_number, .next_file, .last_seq, .compact_pointers, .deleted, .added, .reset]
 | .Version => [.num_levels, .order, .files, .refs, .score, .score_level]
 | .VersionMaker => [.base, .dropped, .deleted, .added]
 | .Compaction => [.level, .version, .options, .order, .users, .inputs, .grandparents, .edit, .manual, .grand_at, .grand_octets, .seen_key, .places]
 | .Picker => [.options, .order]
noncomputable def Cl.meths : Cl → List (Nm × Fn)
 | .BytesOrder => [(.compare, .Order_compare)]
 | .InternalOrder => [(.compare, .InternalOrder_compare)]
 | .Options => []
 | .FileMeta => [(.row, .FileMeta_row)]
 | .VersionEdit => []
 | .Version => [(.overlapping, .Version_overlapping), (.candidates, .Version_candidates), (.overlaps, .Version_overlaps), (.level_octets, .Version_level_octets), (.numbers, .Version_numbers), (.check, .Version_check)]
 | .VersionMaker => [(.within, .VersionMaker_within), (.apply, .VersionMaker_apply), (.before, .VersionMaker_before), (.place, .VersionMaker_place), (.finish, .VersionMaker_finish)]
 | .Compaction => [(.grand_limit, .Compaction_grand_limit), (.trivial, .Compaction_trivial), (.add_deletions, .Compaction_add_deletions)]
 | .Picker => [(.needs_compaction, .Picker_needs_compaction), (.user_range, .Picker_user_range), (.pick, .Picker_pick), (.pick_range, .Picker_pick_range), (.set_up_other, .Picker_set_up_other)]
noncomputable def Cl.meth (C : Cl) (x : Nm) : Option Fn := C.meths.lookup x
noncomputable def Cl.init : Cl → Option Fn
 | .BytesOrder => none
 | .InternalOrder => some .InternalOrder_init
 | .Options => some .Options_init
 | .FileMeta => some .FileMeta_init
 | .VersionEdit => some .VersionEdit_init
 | .Version => some .Version_init
 | .VersionMaker => some .VersionMaker_init
 | .Compaction => some .Compaction_init
 | .Picker => some .Picker_init
inductive A3 (a1 a2 a3 : Prop) : Prop | mk (h1 : a1) (h2 : a2) (h3 : a3) : A3 a1 a2 a3
inductive A4 (a1 a2 a3 a4 : Prop) : Prop | mk (h1 : a1) (h2 : a2) (h3 : a3) (h4 : a4) : A4 a1 a2 a3 a4
inductive A5 (a1 a2 a3 a4 a5 : Prop) : Prop | mk (h1 : a1) (h2 : a2) (h3 : a3) (h4 : a4) (h5 : a5) : A5 a1 a2 a3 a4 a5
inductive A6 (a1 a2 a3 a4 a5 a6 : Prop) : Prop | mk (h1 : a1) (h2 : a2) (h3 : a3) (h4 : a4) (h5 : a5) (h6 : a6) : A6 a1 a2 a3 a4 a5 a6
inductive A7 (a1 a2 a3 a4 a5 a6 a7 : Prop) : Prop | mk (h1 : a1) (h2 : a2) (h3 : a3) (h4 : a4) (h5 : a5) (h6 : a6) (h7 : a7) : A7 a1 a2 a3 a4 a5 a6 a7
inductive A8 (a1 a2 a3 a4 a5 a6 a7 a8 : Prop) : Prop | mk (h1 : a1) (h2 : a2) (h3 : a3) (h4 : a4) (h5 : a5) (h6 : a6) (h7 : a7) (h8 : a8) : A8 a1 a2 a3 a4 a5 a6 a7 a8
inductive A9 (a1 a2 a3 a4 a5 a6 a7 a8 a9 : Prop) : Prop | mk (h1 : a1) (h2 : a2) (h3 : a3) (h4 : a4) (h5 : a5) (h6 : a6) (h7 : a7) (h8 : a8) (h9 : a9) : A9 a1 a2 a3 a4 a5 a6 a7 a8 a9
inductive A10 (a1 a2 a3 a4 a5 a6 a7 a8 a9 a10 : Prop) : Prop | mk (h1 : a1) (h2 : a2) (h3 : a3) (h4 : a4) (h5 : a5) (h6 : a6) (h7 : a7) (h8 : a8) (h9 : a9) (h10 : a10) : A10 a1 a2 a3 a4 a5 a6 a7 a8 a9 a10
inductive A11 (a1 a2 a3 a4 a5 a6 a7 a8 a9 a10 a11 : Prop) : Prop | mk (h1 : a1) (h2 : a2) (h3 : a3) (h4 : a4) (h5 : a5) (h6 : a6) (h7 : a7) (h8 : a8) (h9 : a9) (h10 : a10) (h11 : a11) : A11 a1 a2 a3 a4 a5 a6 a7 a8 a9 a10 a11
inductive A12 (a1 a2 a3 a4 a5 a6 a7 a8 a9 a10 a11 a12 : Prop) : Prop | mk (h1 : a1) (h2 : a2) (h3 : a3) (h4 : a4) (h5 : a5) (h6 : a6) (h7 : a7) (h8 : a8) (h9 : a9) (h10 : a10) (h11 : a11) (h12 : a12) : A12 a1 a2 a3 a4 a5 a6 a7 a8 a9 a10 a11 a12
inductive A13 (a1 a2 a3 a4 a5 a6 a7 a8 a9 a10 a11 a12 a13 : Prop) : Prop | mk (h1 : a1) (h2 : a2) (h3 : a3) (h4 : a4) (h5 : a5) (h6 : a6) (h7 : a7) (h8 : a8) (h9 : a9) (h10 : a10) (h11 : a11) (h12 : a12) (h13 : a13) : A13 a1 a2 a3 a4 a5 a6 a7 a8 a9 a10 a11 a12 a13
inductive A14 (a1 a2 a3 a4 a5 a6 a7 a8 a9 a10 a11 a12 a13 a14 : Prop) : Prop | mk (h1 : a1) (h2 : a2) (h3 : a3) (h4 : a4) (h5 : a5) (h6 : a6) (h7 : a7) (h8 : a8) (h9 : a9) (h10 : a10) (h11 : a11) (h12 : a12) (h13 : a13) (h14 : a14) : A14 a1 a2 a3 a4 a5 a6 a7 a8 a9 a10 a11 a12 a13 a14
inductive A15 (a1 a2 a3 a4 a5 a6 a7 a8 a9 a10 a11 a12 a13 a14 a15 : Prop) : Prop | mk (h1 : a1) (h2 : a2) (h3 : a3) (h4 : a4) (h5 : a5) (h6 : a6) (h7 : a7) (h8 : a8) (h9 : a9) (h10 : a10) (h11 : a11) (h12 : a12) (h13 : a13) (h14 : a14) (h15 : a15) : A15 a1 a2 a3 a4 a5 a6 a7 a8 a9 a10 a11 a12 a13 a14 a15
inductive A16 (a1 a2 a3 a4 a5 a6 a7 a8 a9 a10 a11 a12 a13 a14 a15 a16 : Prop) : Prop | mk (h1 : a1) (h2 : a2) (h3 : a3) (h4 : a4) (h5 : a5) (h6 : a6) (h7 : a7) (h8 : a8) (h9 : a9) (h10 : a10) (h11 : a11) (h12 : a12) (h13 : a13) (h14 : a14) (h15 : a15) (h16 : a16) : A16 a1 a2 a3 a4 a5 a6 a7 a8 a9 a10 a11 a12 a13 a14 a15 a16
inductive A17 (a1 a2 a3 a4 a5 a6 a7 a8 a9 a10 a11 a12 a13 a14 a15 a16 a17 : Prop) : Prop | mk (h1 : a1) (h2 : a2) (h3 : a3) (h4 : a4) (h5 : a5) (h6 : a6) (h7 : a7) (h8 : a8) (h9 : a9) (h10 : a10) (h11 : a11) (h12 : a12) (h13 : a13) (h14 : a14) (h15 : a15) (h16 : a16) (h17 : a17) : A17 a1 a2 a3 a4 a5 a6 a7 a8 a9 a10 a11 a12 a13 a14 a15 a16 a17
inductive A18 (a1 a2 a3 a4 a5 a6 a7 a8 a9 a10 a11 a12 a13 a14 a15 a16 a17 a18 : Prop) : Prop | mk (h1 : a1) (h2 : a2) (h3 : a3) (h4 : a4) (h5 : a5) (h6 : a6) (h7 : a7) (h8 : a8) (h9 : a9) (h10 : a10) (h11 : a11) (h12 : a12) (h13 : a13) (h14 : a14) (h15 : a15) (h16 : a16) (h17 : a17) (h18 : a18) : A18 a1 a2 a3 a4 a5 a6 a7 a8 a9 a10 a11 a12 a13 a14 a15 a16 a17 a18
inductive A19 (a1 a2 a3 a4 a5 a6 a7 a8 a9 a10 a11 a12 a13 a14 a15 a16 a17 a18 a19 : Prop) : Prop | mk (h1 : a1) (h2 : a2) (h3 : a3) (h4 : a4) (h5 : a5) (h6 : a6) (h7 : a7) (h8 : a8) (h9 : a9) (h10 : a10) (h11 : a11) (h12 : a12) (h13 : a13) (h14 : a14) (h15 : a15) (h16 : a16) (h17 : a17) (h18 : a18) (h19 : a19) : A19 a1 a2 a3 a4 a5 a6 a7 a8 a9 a10 a11 a12 a13 a14 a15 a16 a17 a18 a19
inductive A20 (a1 a2 a3 a4 a5 a6 a7 a8 a9 a10 a11 a12 a13 a14 a15 a16 a17 a18 a19 a20 : Prop) : Prop | mk (h1 : a1) (h2 : a2) (h3 : a3) (h4 : a4) (h5 : a5) (h6 : a6) (h7 : a7) (h8 : a8) (h9 : a9) (h10 : a10) (h11 : a11) (h12 : a12) (h13 : a13) (h14 : a14) (h15 : a15) (h16 : a16) (h17 : a17) (h18 : a18) (h19 : a19) (h20 : a20) : A20 a1 a2 a3 a4 a5 a6 a7 a8 a9 a10 a11 a12 a13 a14 a15 a16 a17 a18 a19 a20
inductive A21 (a1 a2 a3 a4 a5 a6 a7 a8 a9 a10 a11 a12 a13 a14 a15 a16 a17 a18 a19 a20 a21 : Prop) : Prop | mk (h1 : a1) (h2 : a2) (h3 : a3) (h4 : a4) (h5 : a5) (h6 : a6) (h7 : a7) (h8 : a8) (h9 : a9) (h10 : a10) (h11 : a11) (h12 : a12) (h13 : a13) (h14 : a14) (h15 : a15) (h16 : a16) (h17 : a17) (h18 : a18) (h19 : a19) (h20 : a20) (h21 : a21) : A21 a1 a2 a3 a4 a5 a6 a7 a8 a9 a10 a11 a12 a13 a14 a15 a16 a17 a18 a19 a20 a21
inductive A22 (a1 a2 a3 a4 a5 a6 a7 a8 a9 a10 a11 a12 a13 a14 a15 a16 a17 a18 a19 a20 a21 a22 : Prop) : Prop | mk (h1 : a1) (h2 : a2) (h3 : a3) (h4 : a4) (h5 : a5) (h6 : a6) (h7 : a7) (h8 : a8) (h9 : a9) (h10 : a10) (h11 : a11) (h12 : a12) (h13 : a13) (h14 : a14) (h15 : a15) (h16 : a16) (h17 : a17) (h18 : a18) (h19 : a19) (h20 : a20) (h21 : a21) (h22 : a22) : A22 a1 a2 a3 a4 a5 a6 a7 a8 a9 a10 a11 a12 a13 a14 a15 a16 a17 a18 a19 a20 a21 a22
inductive A23 (a1 a2 a3 a4 a5 a6 a7 a8 a9 a10 a11 a12 a13 a14 a15 a16 a17 a18 a19 a20 a21 a22 a23 : Prop) : Prop | mk (h1 : a1) (h2 : a2) (h3 : a3) (h4 : a4) (h5 : a5) (h6 : a6) (h7 : a7) (h8 : a8) (h9 : a9) (h10 : a10) (h11 : a11) (h12 : a12) (h13 : a13) (h14 : a14) (h15 : a15) (h16 : a16) (h17 : a17) (h18 : a18) (h19 : a19) (h20 : a20) (h21 : a21) (h22 : a22) (h23 : a23) : A23 a1 a2 a3 a4 a5 a6 a7 a8 a9 a10 a11 a12 a13 a14 a15 a16 a17 a18 a19 a20 a21 a22 a23
inductive A24 (a1 a2 a3 a4 a5 a6 a7 a8 a9 a10 a11 a12 a13 a14 a15 a16 a17 a18 a19 a20 a21 a22 a23 a24 : Prop) : Prop | mk (h1 : a1) (h2 : a2) (h3 : a3) (h4 : a4) (h5 : a5) (h6 : a6) (h7 : a7) (h8 : a8) (h9 : a9) (h10 : a10) (h11 : a11) (h12 : a12) (h13 : a13) (h14 : a14) (h15 : a15) (h16 : a16) (h17 : a17) (h18 : a18) (h19 : a19) (h20 : a20) (h21 : a21) (h22 : a22) (h23 : a23) (h24 : a24) : A24 a1 a2 a3 a4 a5 a6 a7 a8 a9 a10 a11 a12 a13 a14 a15 a16 a17 a18 a19 a20 a21 a22 a23 a24
inductive Sx2 {α β : Type} (p : α → β → Prop) : Prop | mk (a : α) (b : β) (h : p a b) : Sx2 p
inductive Sx3 {α β γ : Type} (p : α → β → γ → Prop) : Prop | mk (a : α) (b : β) (c : γ) (h : p a b c) : Sx3 p
inductive Sx4 {α β γ δ : Type} (p : α → β → γ → δ → Prop) : Prop | mk (a : α) (b : β) (c : γ) (d : δ) (h : p a b c d) : Sx4 p
inductive Sx5 {α β γ δ ε : Type} (p : α → β → γ → δ → ε → Prop) : Prop | mk (a : α) (b : β) (c : γ) (d : δ) (e : ε) (h : p a b c d e) : Sx5 p
inductive Sx6 {α β γ δ ε ζ : Type} (p : α → β → γ → δ → ε → ζ → Prop) : Prop | mk (a : α) (b : β) (c : γ) (d : δ) (e : ε) (f : ζ) (h : p a b c d e f) : Sx6 p
theorem no_ns {α β : Type} {f : α → Option β} {a b : α} {o : β} (z : a = b) (h : f a = none) (h2 : f b = some o) : False := by subst z; rw [h] at h2; cases h2
theorem no_ss {α β : Type} {f : α → Option β} {a b : α} {o q : β} (z : a = b) (h : f a = some o) (h2 : f b = some q) (n : o = q → False) : False := by subst z; rw [h] at h2; cases h2; exact n rfl
inductive V where
 | none | bool (b : Bool) | int (i : Int) | bytes (b : List UInt8) | ref (a : Addr) | tup (vs : List V)
abbrev Lo := Nm → Option V
noncomputable def upd (f : Lo) (x : Nm) (v : V) : Lo := fun y => if y = x then some v else f y
noncomputable def del (f : Lo) (x : Nm) : Lo := fun y => if y = x then none else f y
noncomputable def updL (f : Lo) : List Nm → List V → Lo
 | x :: xs, v :: vs => updL (upd f x v) xs vs
 | _, _ => f
inductive AO where
 | list (vs : List V)
 | rol (vs : List V)
 | inst (C : Cl) (dx : Addr)
 | ns (C : Cl) (f : Lo)
 | sdict (f : Lo)
 | idict (kvs : List (Int × V))
abbrev AH := Addr → Option AO
noncomputable def AH.set (H : AH) (a : Addr) (o : AO) : AH := fun b => if b = a then some o else H b
noncomputable def eqFs (f : V → V → Option Bool) : List V → List V → Option Bool
 | [], [] => some true
 | [], _ :: _ => some false
 | _ :: _, [] => some false
 | v :: vs, w :: ws => match f v w, eqFs f vs ws with
  | some b, some r => some (b && r)
  | _, _ => none
noncomputable def eqF (H : AH) : Nat → V → V → Option Bool
 | 0, _, _ => none
 | n + 1, v, w => match v, w with
  | .int a, .int b => some (decide (a = b))
  | .bytes a, .bytes b => some (decide (a = b))
  | .tup vs, .tup ws => eqFs (eqF H n) vs ws
  | .ref a, .ref b => match H a, H b with
   | some (.list vs), some (.list ws) => if vs.length = ws.length then eqFs (eqF H n) vs ws else some false
   | _, _ => none
  | _, _ => none
inductive BOp where | add | sub | mul | fdiv | mod | band | bor | shl | shr deriving DecidableEq
inductive COp where | eq | ne | lt | le | gt | ge deriving DecidableEq
inductive BI where | len | sum | min | max | sorted | bytes deriving DecidableEq
inductive LM where | append | pop | reverse | insert deriving DecidableEq
mutual
inductive E where
 | none | bool (b : Bool) | int (i : Int) | neg (i : Nat) | bytes (b : List UInt8)
 | var (x : Nm) | gint (x : Nm)
 | attr (e : E) (x : Nm) | key (e : E) (k : Nm) | idx (e i : E) | upto (e hi : E) | drop (e lo : E)
 | bin (op : BOp) (a b : E) | rep (e n : E) | cmp (op : COp) (a b : E) | isN (e : E) | notN (e : E) | inn (a b : E)
 | not (e : E) | and (es : Es) | or (es : Es)
 | list (es : Es) | tup (es : Es) | edict | sdict (ks : List Nm) (es : Es)
 | call (f : Fn) (es : Es) | new (C : Cl) (es : Es) | meth (e : E) (m : Nm) (es : Es) | bi (b : BI) (es : Es) | lm (o : E) (m : LM) (es : Es)
 | comp (elt : E) (x : Nm) (src : E) (cond : Es)
 | comp2 (elt : E) (x : Nm) (src : E) (y : Nm) (src2 : E)
inductive Es where
 | nil | cons (e : E) (es : Es)
end
inductive T where | nm (x : Nm) | tup (xs : List Nm)
mutual
inductive S where
 | asg (t : T) (e : E) | sattr (o : E) (x : Nm) (e : E) | sidx (o i e : E) | aug (x : Nm) (op : BOp) (e : E) | ex (e : E)
 | ite (c : E) (a b : Ss) | while (c : E) (b : Ss) | for (t : T) (e : E) (b : Ss) | forR (x : Nm) (es : Es) (b : Ss)
 | ret (e : E) | ret0 | cont | brk | bad
inductive Ss where
 | nil | cons (s : S) (ss : Ss)
end
abbrev PV := V → AH → Prop
abbrev Phi := Fn → List V → AH → PV → Prop
inductive GetA (x : Nm) (H : AH) (Q : PV) : V → Prop
 | mk {a C dx f w} : H a = some (.inst C dx) → H dx = some (.ns C f) → f x = some w → Q w H → GetA x H Q (.ref a)
noncomputable def getA (v : V) (x : Nm) (H : AH) (Q : PV) : Prop := GetA x H Q v
inductive KeyA (x : Nm) (H : AH) (Q : PV) : V → Prop
 | mk {a f w} : H a = some (.sdict f) → f x = some w → Q w H → KeyA x H Q (.ref a)
noncomputable def keyA (v : V) (x : Nm) (H : AH) (Q : PV) : Prop := KeyA x H Q v
inductive IdxA (H : AH) (Q : PV) : V → V → Prop
 | list {a vs u} {i : Int} : H a = some (.list vs) → 0 ≤ i → i < 2 ^ 63 → vs[i.toNat]? = some u → Q u H → IdxA H Q (.ref a) (.int i)
 | dict {a kvs u} {i : Int} : H a = some (.idict kvs) → kvs.lookup i = some u → Q u H → IdxA H Q (.ref a) (.int i)
 | tup {vs u} {i : Int} : 0 ≤ i → i < 2 ^ 63 → vs[i.toNat]? = some u → Q u H → IdxA H Q (.tup vs) (.int i)
 | bytes {b u} {i : Int} : b.length ≤ 100000 → 0 ≤ i → i < 2 ^ 63 → b[i.toNat]? = some u → Q (.int u.toNat) H → IdxA H Q (.bytes b) (.int i)
noncomputable def idxA (v w : V) (H : AH) (Q : PV) : Prop := IdxA H Q v w
noncomputable def newA (o : AO) (H : AH) (Q : PV) : Prop := ∀ a, H a = none → Q (.ref a) (H.set a o)
noncomputable def smallL (vs : List V) : Prop := vs.length ≤ 100000
inductive UptoA (H : AH) (Q : PV) : V → V → Prop
 | list {a vs} {i : Int} : 0 ≤ i → i < 2 ^ 63 → H a = some (.list vs) → smallL vs → newA (.list (vs.take i.toNat)) H Q → UptoA H Q (.ref a) (.int i)
 | rol {a vs} {i : Int} : 0 ≤ i → i < 2 ^ 63 → H a = some (.rol vs) → smallL vs → newA (.list (vs.take i.toNat)) H Q → UptoA H Q (.ref a) (.int i)
 | bytes {b} {i : Int} : 0 ≤ i → i < 2 ^ 63 → b.length ≤ 100000 → Q (.bytes (b.take i.toNat)) H → UptoA H Q (.bytes b) (.int i)
noncomputable def uptoA (v w : V) (H : AH) (Q : PV) : Prop := UptoA H Q v w
inductive DropA (H : AH) (Q : PV) : V → V → Prop
 | list {a vs} {i : Int} : 0 ≤ i → i < 2 ^ 63 → H a = some (.list vs) → smallL vs → newA (.list (vs.drop i.toNat)) H Q → DropA H Q (.ref a) (.int i)
noncomputable def dropA (v w : V) (H : AH) (Q : PV) : Prop := DropA H Q v w
noncomputable def binI (op : BOp) (a b : Int) (H : AH) (Q : PV) : Prop := match op with
 | .add => Q (.int (a + b)) H
 | .sub => Q (.int (a - b)) H
 | .mul => a.natAbs < 2 ^ 64 ∧ b.natAbs < 2 ^ 64 ∧ Q (.int (a * b)) H
 | .fdiv => 0 < b ∧ b < 1073741824 ∧ Q (.int (a / b)) H
 | .mod => 0 < b ∧ Q (.int (a % b)) H
 | .band => 0 ≤ a ∧ 0 ≤ b ∧ Q (.int ((a.toNat &&& b.toNat : Nat) : Int)) H
 | .bor => 0 ≤ a ∧ 0 ≤ b ∧ Q (.int ((a.toNat ||| b.toNat : Nat) : Int)) H
 | .shl => a.natAbs < 2 ^ 64 ∧ 0 ≤ b ∧ b ≤ 64 ∧ Q (.int (a * 2 ^ b.toNat)) H
 | .shr => 0 ≤ a ∧ 0 ≤ b ∧ b ≤ 64 ∧ Q (.int (a / 2 ^ b.toNat)) H
inductive BinA (op : BOp) (H : AH) (Q : PV) : V → V → Prop
 | int {a b} : binI op a b H Q → BinA op H Q (.int a) (.int b)
 | bytes {a b} : op = .add → a.length + b.length ≤ 100000 → Q (.bytes (a ++ b)) H → BinA op H Q (.bytes a) (.bytes b)
 | list {a b vs ws} : op = .add → H a = some (.list vs) → H b = some (.list ws) → smallL vs → smallL ws → newA (.list (vs ++ ws)) H Q → BinA op H Q (.ref a) (.ref b)
noncomputable def binA (op : BOp) (v w : V) (H : AH) (Q : PV) : Prop := BinA op H Q v w
noncomputable def cmpI (op : COp) (a b : Int) : Bool := match op with
 | .eq => decide (a = b) | .ne => decide (a ≠ b) | .lt => decide (a < b) | .le => decide (a ≤ b) | .gt => decide (a > b) | .ge => decide (a ≥ b)
noncomputable def bLt : List UInt8 → List UInt8 → Bool
 | [], [] => false
 | [], _ :: _ => true
 | _ :: _, [] => false
 | x :: xs, y :: ys => x < y || (x == y && bLt xs ys)
noncomputable def cmpB (op : COp) (a b : List UInt8) : Bool := match op with
 | .eq => decide (a = b) | .ne => decide (a ≠ b) | .lt => bLt a b | .le => bLt a b || decide (a = b) | .gt => bLt b a | .ge => bLt b a || decide (a = b)
inductive EqA (neg : Bool) (v w : V) (H : AH) (Q : PV) : Prop
 | mk {b} : eqF H 4 v w = some b → Q (.bool (b != neg)) H → EqA neg v w H Q
inductive CmpA (op : COp) (H : AH) (Q : PV) : V → V → Prop
 | int {a b} : Q (.bool (cmpI op a b)) H → CmpA op H Q (.int a) (.int b)
 | bytes {a b} : Q (.bool (cmpB op a b)) H → CmpA op H Q (.bytes a) (.bytes b)
 | eqb {a b} : op = .eq → Q (.bool (a == b)) H → CmpA op H Q (.bool a) (.bool b)
 | neb {a b} : op = .ne → Q (.bool (!(a == b))) H → CmpA op H Q (.bool a) (.bool b)
 | eq {v w} : op = .eq → EqA false v w H Q → CmpA op H Q v w
 | ne {v w} : op = .ne → EqA true v w H Q → CmpA op H Q v w
noncomputable def cmpA (op : COp) (v w : V) (H : AH) (Q : PV) : Prop := CmpA op H Q v w
noncomputable def V.isNone : V → Bool
 | .none => true
 | _ => false
inductive InnA (H : AH) (Q : PV) : V → V → Prop
 | mk {a kvs} {i : Int} : H a = some (.idict kvs) → Q (.bool (kvs.lookup i).isSome) H → InnA H Q (.int i) (.ref a)
noncomputable def innA (v w : V) (H : AH) (Q : PV) : Prop := InnA H Q v w
noncomputable def insI (i : Int) (v : V) : List (Int × V) → List (Int × V)
 | [] => [(i, v)]
 | (j, w) :: r => if i = j then (j, v) :: r else (j, w) :: insI i v r
theorem insI_cons {i j : Int} {v w : V} {r : List (Int × V)} : insI i v ((j, w) :: r) = if i = j then (j, v) :: r else (j, w) :: insI i v r := rfl
inductive LmA (l : Addr) (H : AH) (Q : PV) : LM → List V → Prop
 | append {xs v} : H l = some (.list xs) → smallL xs → Q .none (H.set l (.list (xs ++ [v]))) → LmA l H Q .append [v]
 | pop {xs u} : H l = some (.list xs) → smallL xs → xs.getLast? = some u → Q u (H.set l (.list xs.dropLast)) → LmA l H Q .pop []
 | reverse {xs} : H l = some (.list xs) → smallL xs → Q .none (H.set l (.list xs.reverse)) → LmA l H Q .reverse []
 | insert {xs v} {i : Int} : H l = some (.list xs) → smallL xs → 0 ≤ i → i ≤ xs.length → Q .none (H.set l (.list (xs.take i.toNat ++ v :: xs.drop i.toNat))) → LmA l H Q .insert [.int i, v]
noncomputable def lmA (m : LM) (l : Addr) (vs : List V) (H : AH) (Q : PV) : Prop := LmA l H Q m vs
noncomputable def intsV : List V → Option (List Int)
 | [] => some []
 | .int i :: r => (intsV r).map (i :: ·)
 | _ => none
inductive LenA (H : AH) (Q : PV) : List V → Prop
 | list {a xs} : H a = some (.list xs) → smallL xs → Q (.int xs.length) H → LenA H Q [.ref a]
 | bytes {b} : b.length ≤ 100000 → Q (.int b.length) H → LenA H Q [.bytes b]
noncomputable def lenA (vs : List V) (H : AH) (Q : PV) : Prop := LenA H Q vs
inductive SumA (H : AH) (Q : PV) : List V → Prop
 | mk {a xs ns} : H a = some (.list xs) → intsV xs = some ns → Q (.int ns.sum) H → SumA H Q [.ref a]
noncomputable def sumA (vs : List V) (H : AH) (Q : PV) : Prop := SumA H Q vs
inductive MinA (H : AH) (Q : PV) : List V → Prop
 | list {a xs ns} : H a = some (.list xs) → intsV xs = some ns → ns ≠ [] → (∀ M, M ∈ ns → (∀ n ∈ ns, M ≤ n) → Q (.int M) H) → MinA H Q [.ref a]
 | two {a b} : Q (.int (if b < a then b else a)) H → MinA H Q [.int a, .int b]
noncomputable def minA (vs : List V) (H : AH) (Q : PV) : Prop := MinA H Q vs
inductive MaxA (H : AH) (Q : PV) : List V → Prop
 | list {a xs ns} : H a = some (.list xs) → intsV xs = some ns → ns ≠ [] → (∀ M, M ∈ ns → (∀ n ∈ ns, n ≤ M) → Q (.int M) H) → MaxA H Q [.ref a]
 | two {a b} : Q (.int (if a < b then b else a)) H → MaxA H Q [.int a, .int b]
noncomputable def maxA (vs : List V) (H : AH) (Q : PV) : Prop := MaxA H Q vs
inductive SortedA (H : AH) (Q : PV) : List V → Prop
 | list {a xs ns} : H a = some (.list xs) → intsV xs = some ns → xs.length < 64 → (∀ ns' : List Int, ns'.Perm ns → ns'.Pairwise (· ≤ ·) → newA (.list (ns'.map .int)) H Q) → SortedA H Q [.ref a]
 | dict {a kvs} : H a = some (.idict kvs) → kvs.length < 64 → (∀ ns' : List Int, ns'.Perm (kvs.map (·.1)) → ns'.Pairwise (· ≤ ·) → newA (.list (ns'.map .int)) H Q) → SortedA H Q [.ref a]
noncomputable def sortedA (vs : List V) (H : AH) (Q : PV) : Prop := SortedA H Q vs
inductive BytesA (H : AH) (Q : PV) : List V → Prop
 | bytes {b} : b.length ≤ 100000 → Q (.bytes b) H → BytesA H Q [.bytes b]
 | list {a xs ns} : H a = some (.list xs) → intsV xs = some ns → smallL xs → (∀ n ∈ ns, 0 ≤ n ∧ n < 256) → Q (.bytes (ns.map fun n => n.toNat.toUInt8)) H → BytesA H Q [.ref a]
noncomputable def bytesA (vs : List V) (H : AH) (Q : PV) : Prop := BytesA H Q vs
noncomputable def biA (b : BI) (vs : List V) (H : AH) (Q : PV) : Prop := match b with
 | .len => lenA vs H Q
 | .sum => sumA vs H Q
 | .min => minA vs H Q
 | .max => maxA vs H Q
 | .sorted => sortedA vs H Q
 | .bytes => bytesA vs H Q
noncomputable def compA (keep : AH → Prop) (step : V → List V → AH → (List V → AH → Prop) → Prop) : List V → List V → AH → (List V → AH → Prop) → Prop
 | [], acc, H, K => K acc H
 | v :: vs, acc, H, K => step v acc H fun acc' H' => keep H' ∧ compA keep step vs acc' H' K
noncomputable def mkSd : List Nm → List V → Lo
 | x :: xs, v :: vs => upd (mkSd xs vs) x v
 | _, _ => fun _ => none
section
variable (Φ : Phi)
mutual
noncomputable def evA : E → Lo → AH → PV → Prop
 | .none, _, H, Q => Q .none H
 | .bool b, _, H, Q => Q (.bool b) H
 | .int i, _, H, Q => Q (.int i) H
 | .neg i, _, H, Q => Q (.int (-i)) H
 | .bytes b, _, H, Q => Q (.bytes b) H
 | .var x, ρ, H, Q => match ρ x with | some v => Q v H | none => False
 | .gint x, _, H, Q => Q (.int (gval x)) H
 | .attr e x, ρ, H, Q => evA e ρ H fun v H => getA v x H Q
 | .key e x, ρ, H, Q => evA e ρ H fun v H => keyA v x H Q
 | .idx e i, ρ, H, Q => evA e ρ H fun v H => evA i ρ H fun w H => idxA v w H Q
 | .upto e i, ρ, H, Q => evA e ρ H fun v H => evA i ρ H fun w H => uptoA v w H Q
 | .drop e i, ρ, H, Q => evA e ρ H fun v H => evA i ρ H fun w H => dropA v w H Q
 | .bin op a b, ρ, H, Q => evA a ρ H fun v H => evA b ρ H fun w H => binA op v w H Q
 | .rep e n, ρ, H, Q => evA e ρ H fun v H => evA n ρ H fun w H => match w with | .int k => 0 ≤ k ∧ k ≤ 1000 ∧ newA (.list (List.replicate k.toNat v)) H Q | _ => False
 | .cmp op a b, ρ, H, Q => evA a ρ H fun v H => evA b ρ H fun w H => cmpA op v w H Q
 | .isN e, ρ, H, Q => evA e ρ H fun v H => Q (.bool v.isNone) H
 | .notN e, ρ, H, Q => evA e ρ H fun v H => Q (.bool (!v.isNone)) H
 | .inn a b, ρ, H, Q => evA a ρ H fun v H => evA b ρ H fun w H => innA v w H Q
 | .not e, ρ, H, Q => evA e ρ H fun v H => match v with | .bool b => Q (.bool (!b)) H | _ => False
 | .and es, ρ, H, Q => evB true es ρ H Q
 | .or es, ρ, H, Q => evB false es ρ H Q
 | .list es, ρ, H, Q => evEs es ρ H fun vs H => smallL vs ∧ newA (.list vs) H Q
 | .tup es, ρ, H, Q => evEs es ρ H fun vs H => smallL vs ∧ Q (.tup vs) H
 | .edict, _, H, Q => newA (.idict []) H Q
 | .sdict ks es, ρ, H, Q => evEs es ρ H fun vs H => ks.length = vs.length ∧ ks.Nodup ∧ newA (.sdict (mkSd ks vs)) H Q
 | .call f es, ρ, H, Q => evEs es ρ H fun vs H => Φ f vs H Q
 | .new C es, ρ, H, Q => evEs es ρ H fun vs H => ∀ a dx, H a = none → H dx = none → a ≠ dx → match C.init with
   | some f => Φ f (.ref a :: vs) ((H.set dx (.ns C fun _ => none)).set a (.inst C dx)) fun r H' => r = .none ∧ Q (.ref a) H'
   | none => vs = [] ∧ Q (.ref a) ((H.set dx (.ns C fun _ => none)).set a (.inst C dx))
 | .meth e m es, ρ, H, Q => evA e ρ H fun v H => match v with
   | .ref a => match H a with
    | some (.inst C dx) => match H dx with
     | some (.ns C' _) => match C.meth m with
      | some f => C' = C ∧ evEs es ρ H fun vs H => Φ f (.ref a :: vs) H Q
      | none => False
     | _ => False
    | _ => False
   | _ => False
 | .bi b es, ρ, H, Q => evEs es ρ H fun vs H => biA b vs H Q
 | .lm o m es, ρ, H, Q => evA o ρ H fun v H => match v with
   | .ref l => match H l with
    | some (.list _) => evEs es ρ H fun vs H => lmA m l vs H Q
    | _ => False
   | _ => False
 | .comp elt x src cond, ρ, H, Q => evA src ρ H fun v H => match v with
   | .ref l => match H l with
    | some (.list vs) => smallL vs ∧ compA (fun H' => H' l = some (.list vs))
      (fun v acc H K => evC cond (upd ρ x v) H fun b H => if b then evA elt (upd ρ x v) H (fun w H => smallL acc ∧ K (acc ++ [w]) H) else K acc H) vs [] H
      fun ws H => newA (.list ws) H Q
    | _ => False
   | _ => False
 | .comp2 elt x src y src2, ρ, H, Q => evA src ρ H fun v H => match v with
   | .ref l => match H l with
    | some (.list vs) => smallL vs ∧ compA (fun H' => H' l = some (.list vs))
      (fun v acc H K => evA src2 (upd (del ρ y) x v) H fun u H => match u with
       | .ref l2 => match H l2 with
        | some (.list us) => smallL us ∧ compA (fun H' => H' l2 = some (.list us)) (fun u acc H K => evA elt (upd (upd ρ x v) y u) H fun w H => smallL acc ∧ K (acc ++ [w]) H) us acc H K
        | _ => False
       | _ => False) vs [] H
      fun ws H => newA (.list ws) H Q
    | _ => False
   | _ => False
noncomputable def evEs : Es → Lo → AH → (List V → AH → Prop) → Prop
 | .nil, _, H, K => K [] H
 | .cons e es, ρ, H, K => evA e ρ H fun v H => evEs es ρ H fun vs H => K (v :: vs) H
noncomputable def evB : Bool → Es → Lo → AH → PV → Prop
 | _, .nil, _, _, _ => False
 | c, .cons e es, ρ, H, Q => match es with
  | .nil => evA e ρ H Q
  | .cons _ _ => evA e ρ H fun v H => match v with
   | .bool b => if b = c then evB c es ρ H Q else Q (.bool b) H
   | _ => False
noncomputable def evC : Es → Lo → AH → (Bool → AH → Prop) → Prop
 | .nil, _, H, K => K true H
 | .cons e es, ρ, H, K => evA e ρ H fun v H => match v with
   | .bool b => if b then evC es ρ H K else K false H
   | _ => False
end
inductive Out where
 | nx | br | ct | rt (v : V)
abbrev PO := Out → Lo → AH → Prop
inductive SetA (x : Nm) (w : V) (H : AH) (K : AH → Prop) : V → Prop
 | mk {a C dx f} : H a = some (.inst C dx) → H dx = some (.ns C f) → x ∈ C.fields → K (H.set dx (.ns C (upd f x w))) → SetA x w H K (.ref a)
noncomputable def setA (v : V) (x : Nm) (w : V) (H : AH) (K : AH → Prop) : Prop := SetA x w H K v
inductive SidxA (w : V) (H : AH) (K : AH → Prop) : V → V → Prop
 | list {a vs} {i : Int} : H a = some (.list vs) → 0 ≤ i → i < vs.length → smallL vs → K (H.set a (.list (vs.set i.toNat w))) → SidxA w H K (.ref a) (.int i)
 | dict {a kvs} {i : Int} : H a = some (.idict kvs) → kvs.length ≤ 1000 → K (H.set a (.idict (insI i w kvs))) → SidxA w H K (.ref a) (.int i)
noncomputable def sidxA (v i w : V) (H : AH) (K : AH → Prop) : Prop := SidxA w H K v i
noncomputable def bindT (t : T) (v : V) (ρ : Lo) : Option Lo := match t with
 | .nm x => some (upd ρ x v)
 | .tup xs => match v with
  | .tup vs => if vs.length = xs.length then some (updL ρ xs vs) else none
  | _ => none
noncomputable def forA (keep : AH → Prop) (t : T) (body : Lo → AH → PO → Prop) : List V → Lo → AH → PO → Prop
 | [], ρ, H, Q => Q .nx ρ H
 | v :: vs, ρ, H, Q => match bindT t v ρ with
  | some ρ' => body ρ' H fun o ρ H => match o with
   | .nx => keep H ∧ forA keep t body vs ρ H Q
   | .ct => keep H ∧ forA keep t body vs ρ H Q
   | .br => Q .nx ρ H
   | .rt v => Q (.rt v) ρ H
  | none => False
noncomputable def whileA (test : Lo → AH → PV → Prop) (body : Lo → AH → PO → Prop) (ρ : Lo) (H : AH) (Q : PO) : Prop :=
 ∀ P : Lo → AH → Prop, (∀ ρ H, (test ρ H fun v H => match v with
   | .bool true => body ρ H fun o ρ H => match o with
    | .nx => P ρ H
    | .ct => P ρ H
    | .br => Q .nx ρ H
    | .rt v => Q (.rt v) ρ H
   | .bool false => Q .nx ρ H
   | _ => False) → P ρ H) → P ρ H
noncomputable def rangeV (lo n : Int) : List V := (List.range (n - lo).toNat).map fun (i : Nat) => V.int (lo + (i : Int))
noncomputable def downV (hi : Int) : List V := (List.range (hi + 1).toNat).map fun (i : Nat) => V.int (hi - (i : Int))
noncomputable def rangeA (vs : List V) : Option (List V) := match vs with
 | [.int n] => if -2 ^ 31 < n ∧ n < 2 ^ 31 then some (rangeV 0 n) else none
 | [.int a, .int b] => if -2 ^ 31 < a ∧ a < 2 ^ 31 ∧ -2 ^ 31 < b ∧ b < 2 ^ 31 then some (rangeV a b) else none
 | [.int a, .int b, .int c] => if (b = -1 ∧ c = -1) ∧ -2 ≤ a ∧ a < 2 ^ 31 then some (downV a) else none
 | _ => none
mutual
noncomputable def exA : S → Lo → AH → PO → Prop
 | .asg t e, ρ, H, Q => evA Φ e ρ H fun v H => match bindT t v ρ with | some ρ' => Q .nx ρ' H | none => False
 | .sattr o x e, ρ, H, Q => evA Φ e ρ H fun w H => evA Φ o ρ H fun v H => setA v x w H fun H => Q .nx ρ H
 | .sidx o i e, ρ, H, Q => evA Φ e ρ H fun w H => evA Φ o ρ H fun v H => evA Φ i ρ H fun u H => sidxA v u w H fun H => Q .nx ρ H
 | .aug x op e, ρ, H, Q => match ρ x with
  | some (.int a) => evA Φ e ρ H fun v H => match v with | .int b => binI op a b H (fun w H => Q .nx (upd ρ x w) H) | _ => False
  | _ => False
 | .ex e, ρ, H, Q => evA Φ e ρ H fun _ H => Q .nx ρ H
 | .ite c a b, ρ, H, Q => evA Φ c ρ H fun v H => match v with
  | .bool true => exSs a ρ H Q
  | .bool false => exSs b ρ H Q
  | _ => False
 | .while c b, ρ, H, Q => whileA (evA Φ c) (exSs b) ρ H Q
 | .for t e b, ρ, H, Q => evA Φ e ρ H fun v H => match v with
  | .ref l => match H l with
   | some (.list vs) => smallL vs ∧ forA (fun H' => H' l = some (.list vs)) t (exSs b) vs ρ H Q
   | _ => False
  | .tup vs => smallL vs ∧ forA (fun _ => True) t (exSs b) vs ρ H Q
  | _ => False
 | .forR x es b, ρ, H, Q => evEs Φ es ρ H fun vs H => match rangeA vs with
  | some us => forA (fun _ => True) (.nm x) (exSs b) us ρ H Q
  | none => False
 | .ret e, ρ, H, Q => evA Φ e ρ H fun v H => Q (.rt v) ρ H
 | .ret0, ρ, H, Q => Q (.rt .none) ρ H
 | .cont, ρ, H, Q => Q .ct ρ H
 | .brk, ρ, H, Q => Q .br ρ H
 | .bad, _, _, _ => False
noncomputable def exSs : Ss → Lo → AH → PO → Prop
 | .nil, ρ, H, Q => Q .nx ρ H
 | .cons s ss, ρ, H, Q => exA s ρ H fun o ρ H => match o with
  | .nx => exSs ss ρ H Q
  | o => Q o ρ H
end
end
@[reducible] noncomputable def put_fixed32_body : Ss :=
 (.cons (.ite (.or (.cons (.cmp .lt (.var .n) (.int 0)) (.cons (.cmp .gt (.var .n) (.gint .MAX_32)) .nil))) (.cons .bad .nil) .nil) (.cons (.ret (.bi .bytes (.cons (.list (.cons (.bin .band (.var .n) (.int 255)) (.cons (.bin .band (.bin .shr (.var .n) (.int 8)) (.int 255)) (.cons (.bin .band (.bin .shr (.var .n) (.int 16)) (.int 255)) (.cons (.bin .shr (.var .n) (.int 24)) .nil))))) .nil))) .nil))
@[reducible] noncomputable def put_fixed64_body : Ss :=
 (.cons (.ite (.or (.cons (.cmp .lt (.var .n) (.int 0)) (.cons (.cmp .gt (.var .n) (.gint .MAX_64)) .nil))) (.cons .bad .nil) .nil) (.cons (.ret (.bin .add (.call .put_fixed32 (.cons (.bin .band (.var .n) (.gint .MAX_32)) .nil)) (.call .put_fixed32 (.cons (.bin .shr (.var .n) (.int 32)) .nil)))) .nil))
@[reducible] noncomputable def read_fixed32_body : Ss :=
 (.cons (.ite (.or (.cons (.cmp .lt (.var .«at») (.int 0)) (.cons (.cmp .gt (.bin .add (.var .«at») (.int 4)) (.bi .len (.cons (.var .data) .nil))) .nil))) (.cons .bad .nil) .nil) (.cons (.ret (.bin .bor (.bin .bor (.bin .bor (.idx (.var .data) (.var .«at»)) (.bin .shl (.idx (.var .data) (.bin .add (.var .«at») (.int 1))) (.int 8))) (.bin .shl (.idx (.var .data) (.bin .add (.var .«at») (.int 2))) (.int 16))) (.bin .shl (.idx (.var .data) (.bin .add (.var .«at») (.int 3))) (.int 24)))) .nil))
@[reducible] noncomputable def read_fixed64_body : Ss :=
 (.cons (.ite (.or (.cons (.cmp .lt (.var .«at») (.int 0)) (.cons (.cmp .gt (.bin .add (.var .«at») (.int 8)) (.bi .len (.cons (.var .data) .nil))) .nil))) (.cons .bad .nil) .nil) (.cons (.ret (.bin .bor (.call .read_fixed32 (.cons (.var .data) (.cons (.var .«at») .nil))) (.bin .shl (.call .read_fixed32 (.cons (.var .data) (.cons (.bin .add (.var .«at») (.int 4)) .nil))) (.int 32)))) .nil))
@[reducible] noncomputable def pack_tag_body : Ss :=
 (.cons (.ite (.or (.cons (.cmp .lt (.var .seq) (.int 0)) (.cons (.cmp .gt (.var .seq) (.gint .MAX_SEQ)) .nil))) (.cons .bad .nil) .nil) (.cons (.ite (.and (.cons (.cmp .ne (.var .kind) (.gint .KIND_DELETE)) (.cons (.cmp .ne (.var .kind) (.gint .KIND_VALUE)) .nil))) (.cons .bad .nil) .nil) (.cons (.ret (.bin .bor (.bin .shl (.var .seq) (.int 8)) (.var .kind))) .nil)))
@[reducible] noncomputable def make_ikey_body : Ss :=
 (.cons (.ret (.bin .add (.bi .bytes (.cons (.var .user) .nil)) (.call .put_fixed64 (.cons (.call .pack_tag (.cons (.var .seq) (.cons (.var .kind) .nil))) .nil)))) .nil)
@[reducible] noncomputable def user_of_body : Ss :=
 (.cons (.ite (.cmp .lt (.bi .len (.cons (.var .ik) .nil)) (.gint .TAG_LENGTH)) (.cons .bad .nil) .nil) (.cons (.ret (.bi .bytes (.cons (.upto (.var .ik) (.bin .sub (.bi .len (.cons (.var .ik) .nil)) (.gint .TAG_LENGTH))) .nil))) .nil))
@[reducible] noncomputable def tag_of_body : Ss :=
 (.cons (.ite (.cmp .lt (.bi .len (.cons (.var .ik) .nil)) (.gint .TAG_LENGTH)) (.cons .bad .nil) .nil) (.cons (.ret (.call .read_fixed64 (.cons (.var .ik) (.cons (.bin .sub (.bi .len (.cons (.var .ik) .nil)) (.gint .TAG_LENGTH)) .nil)))) .nil))
@[reducible] noncomputable def Order_compare_body : Ss :=
 (.cons (.ite (.cmp .lt (.var .a) (.var .b)) (.cons (.ret (.neg 1)) .nil) .nil) (.cons (.ite (.cmp .gt (.var .a) (.var .b)) (.cons (.ret (.int 1)) .nil) .nil) (.cons (.ret (.int 0)) .nil)))
@[reducible] noncomputable def InternalOrder_init_body : Ss :=
 (.cons (.sattr (.var .self) .user_order (.new .BytesOrder .nil)) .nil)
@[reducible] noncomputable def InternalOrder_compare_body : Ss :=
 (.cons (.asg (.nm .c) (.meth (.attr (.var .self) .user_order) .compare (.cons (.call .user_of (.cons (.var .a) .nil)) (.cons (.call .user_of (.cons (.var .b) .nil)) .nil)))) (.cons (.ite (.cmp .ne (.var .c) (.int 0)) (.cons (.ret (.var .c)) .nil) .nil) (.cons (.asg (.nm .tag_a) (.call .tag_of (.cons (.var .a) .nil))) (.cons (.asg (.nm .tag_b) (.call .tag_of (.cons (.var .b) .nil))) (.cons (.ite (.cmp .gt (.var .tag_a) (.var .tag_b)) (.cons (.ret (.neg 1)) .nil) .nil) (.cons (.ite (.cmp .lt (.var .tag_a) (.var .tag_b)) (.cons (.ret (.int 1)) .nil) .nil) (.cons (.ret (.int 0)) .nil)))))))
@[reducible] noncomputable def Options_init_body : Ss :=
 (.cons (.sattr (.var .self) .check (.gint .CHECK_CRC)) (.cons (.sattr (.var .self) .log_block (.int 32768)) (.cons (.sattr (.var .self) .sync_writes (.bool true)) (.cons (.sattr (.var .self) .create_missing (.bool true)) (.cons (.sattr (.var .self) .paranoid (.bool false)) (.cons (.sattr (.var .self) .write_buffer (.int 4194304)) (.cons (.sattr (.var .self) .max_height (.int 12)) (.cons (.sattr (.var .self) .heights (.tup (.cons (.int 1) (.cons (.int 2) (.cons (.int 1) (.cons (.int 3) (.cons (.int 1) (.cons (.int 2) (.cons (.int 1) (.cons (.int 4) .nil)))))))))) (.cons (.sattr (.var .self) .block_size (.int 4096)) (.cons (.sattr (.var .self) .restart_interval (.int 16)) (.cons (.sattr (.var .self) .filter_bits (.int 10)) (.cons (.sattr (.var .self) .filter_base_lg (.int 11)) (.cons (.sattr (.var .self) .max_file_size (.int 2097152)) (.cons (.sattr (.var .self) .num_levels (.int 7)) (.cons (.sattr (.var .self) .l0_trigger (.int 4)) (.cons (.sattr (.var .self) .l0_stop (.int 12)) (.cons (.sattr (.var .self) .base_bytes (.int 10485760)) (.cons (.sattr (.var .self) .level_factor (.int 10)) (.cons (.sattr (.var .self) .max_mem_level (.int 2)) (.cons (.sattr (.var .self) .grandparent_factor (.int 10)) (.cons (.sattr (.var .self) .expand_factor (.int 25)) .nil)))))))))))))))))))))
@[reducible] noncomputable def FileMeta_init_body : Ss :=
 (.cons (.sattr (.var .self) .number (.var .number)) (.cons (.sattr (.var .self) .size (.var .size)) (.cons (.sattr (.var .self) .smallest (.var .smallest)) (.cons (.sattr (.var .self) .largest (.var .largest)) .nil))))
@[reducible] noncomputable def FileMeta_row_body : Ss :=
 (.cons (.ret (.tup (.cons (.attr (.var .self) .number) (.cons (.attr (.var .self) .size) (.cons (.attr (.var .self) .smallest) (.cons (.attr (.var .self) .largest) .nil)))))) .nil)
@[reducible] noncomputable def VersionEdit_init_body : Ss :=
 (.cons (.sattr (.var .self) .comparator .none) (.cons (.sattr (.var .self) .log_number .none) (.cons (.sattr (.var .self) .next_file .none) (.cons (.sattr (.var .self) .last_seq .none) (.cons (.sattr (.var .self) .compact_pointers (.list .nil)) (.cons (.sattr (.var .self) .deleted (.list .nil)) (.cons (.sattr (.var .self) .added (.list .nil)) (.cons (.sattr (.var .self) .reset (.bool false)) .nil))))))))
@[reducible] noncomputable def find_file_body : Ss :=
 (.cons (.asg (.nm .low) (.int 0)) (.cons (.asg (.nm .high) (.bi .len (.cons (.var .files) .nil))) (.cons (.while (.cmp .lt (.var .low) (.var .high)) (.cons (.asg (.nm .mid) (.bin .fdiv (.bin .add (.var .low) (.var .high)) (.int 2))) (.cons (.ite (.cmp .lt (.meth (.var .order) .compare (.cons (.attr (.idx (.var .files) (.var .mid)) .largest) (.cons (.var .ikey) .nil))) (.int 0)) (.cons (.asg (.nm .low) (.bin .add (.var .mid) (.int 1))) .nil) (.cons (.asg (.nm .high) (.var .mid)) .nil)) .nil))) (.cons (.ret (.var .low)) .nil))))
@[reducible] noncomputable def Version_init_body : Ss :=
 (.cons (.sattr (.var .self) .num_levels (.var .num_levels)) (.cons (.sattr (.var .self) .order (.var .order)) (.cons (.sattr (.var .self) .files (.list .nil)) (.cons (.forR .level (.cons (.var .num_levels) .nil) (.cons (.ex (.lm (.attr (.var .self) .files) .append (.cons (.list .nil) .nil))) .nil)) (.cons (.sattr (.var .self) .refs (.int 0)) (.cons (.sattr (.var .self) .score (.tup (.cons (.int 0) (.cons (.int 1) .nil)))) (.cons (.sattr (.var .self) .score_level (.neg 1)) .nil)))))))
@[reducible] noncomputable def Version_overlapping_body : Ss :=
 (.cons (.asg (.nm .low) (.var .low_user)) (.cons (.asg (.nm .high) (.var .high_user)) (.cons (.asg (.nm .found) (.list .nil)) (.cons (.asg (.nm .i) (.int 0)) (.cons (.while (.cmp .lt (.var .i) (.bi .len (.cons (.idx (.attr (.var .self) .files) (.var .level)) .nil))) (.cons (.asg (.nm .«meta») (.idx (.idx (.attr (.var .self) .files) (.var .level)) (.var .i))) (.cons (.asg (.nm .first) (.call .user_of (.cons (.attr (.var .«meta») .smallest) .nil))) (.cons (.asg (.nm .last) (.call .user_of (.cons (.attr (.var .«meta») .largest) .nil))) (.cons (.aug .i .add (.int 1)) (.cons (.ite (.and (.cons (.notN (.var .low)) (.cons (.cmp .lt (.var .last) (.var .low)) .nil))) (.cons .cont .nil) .nil) (.cons (.ite (.and (.cons (.notN (.var .high)) (.cons (.cmp .gt (.var .first) (.var .high)) .nil))) (.cons .cont .nil) .nil) (.cons (.ex (.lm (.var .found) .append (.cons (.var .«meta») .nil))) (.cons (.ite (.cmp .eq (.var .level) (.int 0)) (.cons (.ite (.and (.cons (.notN (.var .low)) (.cons (.cmp .lt (.var .first) (.var .low)) .nil))) (.cons (.asg (.nm .low) (.var .first)) (.cons (.asg (.nm .found) (.list .nil)) (.cons (.asg (.nm .i) (.int 0)) .nil))) (.cons (.ite (.and (.cons (.notN (.var .high)) (.cons (.cmp .gt (.var .last) (.var .high)) .nil))) (.cons (.asg (.nm .high) (.var .last)) (.cons (.asg (.nm .found) (.list .nil)) (.cons (.asg (.nm .i) (.int 0)) .nil))) .nil) .nil)) .nil) .nil) .nil))))))))) (.cons (.ret (.var .found)) .nil))))))
@[reducible] noncomputable def Version_candidates_body : Ss :=
 (.cons (.asg (.nm .user) (.call .user_of (.cons (.var .ikey) .nil))) (.cons (.asg (.nm .found) (.list .nil)) (.cons (.asg (.nm .level0) (.idx (.attr (.var .self) .files) (.int 0))) (.cons (.forR .i (.cons (.bin .sub (.bi .len (.cons (.var .level0) .nil)) (.int 1)) (.cons (.neg 1) (.cons (.neg 1) .nil))) (.cons (.asg (.nm .«meta») (.idx (.var .level0) (.var .i))) (.cons (.ite (.and (.cons (.cmp .le (.call .user_of (.cons (.attr (.var .«meta») .smallest) .nil)) (.var .user)) (.cons (.cmp .le (.var .user) (.call .user_of (.cons (.attr (.var .«meta») .largest) .nil))) .nil))) (.cons (.ex (.lm (.var .found) .append (.cons (.tup (.cons (.int 0) (.cons (.var .«meta») .nil))) .nil))) .nil) .nil) .nil))) (.cons (.forR .level (.cons (.int 1) (.cons (.attr (.var .self) .num_levels) .nil)) (.cons (.asg (.nm .files) (.idx (.attr (.var .self) .files) (.var .level))) (.cons (.asg (.nm .i) (.call .find_file (.cons (.var .files) (.cons (.var .ikey) (.cons (.attr (.var .self) .order) .nil))))) (.cons (.ite (.and (.cons (.cmp .lt (.var .i) (.bi .len (.cons (.var .files) .nil))) (.cons (.cmp .le (.call .user_of (.cons (.attr (.idx (.var .files) (.var .i)) .smallest) .nil)) (.var .user)) .nil))) (.cons (.ex (.lm (.var .found) .append (.cons (.tup (.cons (.var .level) (.cons (.idx (.var .files) (.var .i)) .nil))) .nil))) .nil) .nil) .nil)))) (.cons (.ret (.var .found)) .nil))))))
@[reducible] noncomputable def Version_overlaps_body : Ss :=
 (.cons (.asg (.nm .files) (.idx (.attr (.var .self) .files) (.var .level))) (.cons (.ite (.cmp .eq (.var .level) (.int 0)) (.cons (.for (.nm .«meta») (.var .files) (.cons (.asg (.nm .before) (.and (.cons (.notN (.var .low)) (.cons (.cmp .lt (.call .user_of (.cons (.attr (.var .«meta») .largest) .nil)) (.var .low)) .nil)))) (.cons (.asg (.nm .behind) (.and (.cons (.notN (.var .high)) (.cons (.cmp .gt (.call .user_of (.cons (.attr (.var .«meta») .smallest) .nil)) (.var .high)) .nil)))) (.cons (.ite (.and (.cons (.not (.var .before)) (.cons (.not (.var .behind)) .nil))) (.cons (.ret (.bool true)) .nil) .nil) .nil)))) (.cons (.ret (.bool false)) .nil)) .nil) (.cons (.asg (.nm .i) (.int 0)) (.cons (.ite (.notN (.var .low)) (.cons (.asg (.nm .i) (.call .find_file (.cons (.var .files) (.cons (.call .make_ikey (.cons (.var .low) (.cons (.gint .MAX_SEQ) (.cons (.gint .KIND_SEEK) .nil)))) (.cons (.attr (.var .self) .order) .nil))))) .nil) .nil) (.cons (.ite (.cmp .ge (.var .i) (.bi .len (.cons (.var .files) .nil))) (.cons (.ret (.bool false)) .nil) .nil) (.cons (.ret (.or (.cons (.isN (.var .high)) (.cons (.cmp .le (.call .user_of (.cons (.attr (.idx (.var .files) (.var .i)) .smallest) .nil)) (.var .high)) .nil)))) .nil))))))
@[reducible] noncomputable def Version_level_octets_body : Ss :=
 (.cons (.asg (.nm .octets) (.int 0)) (.cons (.for (.nm .«meta») (.idx (.attr (.var .self) .files) (.var .level)) (.cons (.aug .octets .add (.attr (.var .«meta») .size)) .nil)) (.cons (.ret (.var .octets)) .nil)))
@[reducible] noncomputable def Version_numbers_body : Ss :=
 (.cons (.asg (.nm .found) (.list .nil)) (.cons (.for (.nm .files) (.attr (.var .self) .files) (.cons (.for (.nm .«meta») (.var .files) (.cons (.ex (.lm (.var .found) .append (.cons (.attr (.var .«meta») .number) .nil))) .nil)) .nil)) (.cons (.ret (.bi .sorted (.cons (.var .found) .nil))) .nil)))
@[reducible] noncomputable def Version_check_body : Ss :=
 (.cons (.asg (.nm .numbers) (.meth (.var .self) .numbers .nil)) (.cons (.forR .i (.cons (.int 1) (.cons (.bi .len (.cons (.var .numbers) .nil)) .nil)) (.cons (.ite (.cmp .eq (.idx (.var .numbers) (.bin .sub (.var .i) (.int 1))) (.idx (.var .numbers) (.var .i))) (.cons .bad .nil) .nil) .nil)) (.cons (.forR .level (.cons (.attr (.var .self) .num_levels) .nil) (.cons (.asg (.nm .files) (.idx (.attr (.var .self) .files) (.var .level))) (.cons (.forR .i (.cons (.bi .len (.cons (.var .files) .nil)) .nil) (.cons (.asg (.nm .«meta») (.idx (.var .files) (.var .i))) (.cons (.ite (.cmp .gt (.meth (.attr (.var .self) .order) .compare (.cons (.attr (.var .«meta») .smallest) (.cons (.attr (.var .«meta») .largest) .nil))) (.int 0)) (.cons .bad .nil) .nil) (.cons (.ite (.cmp .eq (.var .i) (.int 0)) (.cons .cont .nil) .nil) (.cons (.asg (.nm .before) (.idx (.var .files) (.bin .sub (.var .i) (.int 1)))) (.cons (.ite (.cmp .eq (.var .level) (.int 0)) (.cons (.ite (.cmp .ge (.attr (.var .before) .number) (.attr (.var .«meta») .number)) (.cons .bad .nil) .nil) .nil) (.cons (.ite (.cmp .ge (.call .user_of (.cons (.attr (.var .before) .largest) .nil)) (.call .user_of (.cons (.attr (.var .«meta») .smallest) .nil))) (.cons .bad .nil) .nil) .nil)) .nil)))))) .nil))) .nil)))
@[reducible] noncomputable def VersionMaker_init_body : Ss :=
 (.cons (.sattr (.var .self) .base (.var .base)) (.cons (.sattr (.var .self) .dropped (.bool false)) (.cons (.sattr (.var .self) .deleted (.list .nil)) (.cons (.sattr (.var .self) .added (.list .nil)) (.cons (.forR .level (.cons (.attr (.var .base) .num_levels) .nil) (.cons (.ex (.lm (.attr (.var .self) .deleted) .append (.cons .edict .nil))) (.cons (.ex (.lm (.attr (.var .self) .added) .append (.cons .edict .nil))) .nil))) .nil)))))
@[reducible] noncomputable def VersionMaker_within_body : Ss :=
 (.cons (.ite (.or (.cons (.cmp .lt (.var .level) (.int 0)) (.cons (.cmp .ge (.var .level) (.attr (.attr (.var .self) .base) .num_levels)) .nil))) (.cons .bad .nil) .nil) .nil)
@[reducible] noncomputable def VersionMaker_apply_body : Ss :=
 (.cons (.for (.tup [.level, .number]) (.attr (.var .edit) .deleted) (.cons (.ex (.meth (.var .self) .within (.cons (.var .level) .nil))) .nil)) (.cons (.for (.tup [.level, .«meta»]) (.attr (.var .edit) .added) (.cons (.ex (.meth (.var .self) .within (.cons (.var .level) .nil))) .nil)) (.cons (.ite (.attr (.var .edit) .reset) (.cons (.sattr (.var .self) .dropped (.bool true)) (.cons (.forR .level (.cons (.attr (.attr (.var .self) .base) .num_levels) .nil) (.cons (.sidx (.attr (.var .self) .deleted) (.var .level) .edict) (.cons (.sidx (.attr (.var .self) .added) (.var .level) .edict) .nil))) .nil)) .nil) (.cons (.for (.tup [.level, .number]) (.attr (.var .edit) .deleted) (.cons (.sidx (.idx (.attr (.var .self) .deleted) (.var .level)) (.var .number) (.bool true)) (.cons (.ite (.inn (.var .number) (.idx (.attr (.var .self) .added) (.var .level))) (.cons .bad .nil) .nil) .nil))) (.cons (.for (.tup [.level, .«meta»]) (.attr (.var .edit) .added) (.cons (.sidx (.idx (.attr (.var .self) .added) (.var .level)) (.attr (.var .«meta») .number) (.var .«meta»)) (.cons (.ite (.inn (.attr (.var .«meta») .number) (.idx (.attr (.var .self) .deleted) (.var .level))) (.cons .bad .nil) .nil) .nil))) .nil)))))
@[reducible] noncomputable def VersionMaker_before_body : Ss :=
 (.cons (.ite (.cmp .gt (.var .level) (.int 0)) (.cons (.asg (.nm .c) (.meth (.attr (.attr (.var .self) .base) .order) .compare (.cons (.attr (.var .a) .smallest) (.cons (.attr (.var .b) .smallest) .nil)))) (.cons (.ite (.cmp .ne (.var .c) (.int 0)) (.cons (.ret (.cmp .lt (.var .c) (.int 0))) .nil) .nil) .nil)) .nil) (.cons (.ret (.cmp .lt (.attr (.var .a) .number) (.attr (.var .b) .number))) .nil))
@[reducible] noncomputable def VersionMaker_place_body : Ss :=
 (.cons (.asg (.nm .low) (.int 0)) (.cons (.asg (.nm .high) (.bi .len (.cons (.var .files) .nil))) (.cons (.while (.cmp .lt (.var .low) (.var .high)) (.cons (.asg (.nm .mid) (.bin .fdiv (.bin .add (.var .low) (.var .high)) (.int 2))) (.cons (.ite (.meth (.var .self) .before (.cons (.var .level) (.cons (.idx (.var .files) (.var .mid)) (.cons (.var .«meta») .nil)))) (.cons (.asg (.nm .low) (.bin .add (.var .mid) (.int 1))) .nil) (.cons (.asg (.nm .high) (.var .mid)) .nil)) .nil))) (.cons (.ex (.lm (.var .files) .insert (.cons (.var .low) (.cons (.var .«meta») .nil)))) .nil))))
@[reducible] noncomputable def VersionMaker_finish_body : Ss :=
 (.cons (.asg (.nm .made) (.new .Version (.cons (.attr (.attr (.var .self) .base) .num_levels) (.cons (.attr (.attr (.var .self) .base) .order) .nil)))) (.cons (.forR .level (.cons (.attr (.attr (.var .self) .base) .num_levels) .nil) (.cons (.asg (.nm .files) (.idx (.attr (.var .made) .files) (.var .level))) (.cons (.ite (.not (.attr (.var .self) .dropped)) (.cons (.for (.nm .«meta») (.idx (.attr (.attr (.var .self) .base) .files) (.var .level)) (.cons (.ite (.inn (.attr (.var .«meta») .number) (.idx (.attr (.var .self) .deleted) (.var .level))) (.cons .cont .nil) .nil) (.cons (.ite (.inn (.attr (.var .«meta») .number) (.idx (.attr (.var .self) .added) (.var .level))) (.cons .cont .nil) .nil) (.cons (.ex (.lm (.var .files) .append (.cons (.var .«meta») .nil))) .nil)))) .nil) .nil) (.cons (.for (.nm .number) (.bi .sorted (.cons (.idx (.attr (.var .self) .added) (.var .level)) .nil)) (.cons (.ex (.meth (.var .self) .place (.cons (.var .level) (.cons (.var .files) (.cons (.idx (.idx (.attr (.var .self) .added) (.var .level)) (.var .number)) .nil))))) .nil)) .nil)))) (.cons (.ex (.meth (.var .made) .check .nil)) (.cons (.ret (.var .made)) .nil))))
@[reducible] noncomputable def total_size_body : Ss :=
 (.cons (.asg (.nm .total) (.int 0)) (.cons (.for (.nm .«meta») (.var .files) (.cons (.aug .total .add (.attr (.var .«meta») .size)) .nil)) (.cons (.ret (.var .total)) .nil)))
@[reducible] noncomputable def key_range_body : Ss :=
 (.cons (.asg (.nm .smallest) (.attr (.idx (.var .files) (.int 0)) .smallest)) (.cons (.asg (.nm .largest) (.attr (.idx (.var .files) (.int 0)) .largest)) (.cons (.for (.nm .«meta») (.drop (.var .files) (.int 1)) (.cons (.ite (.cmp .lt (.meth (.var .order) .compare (.cons (.attr (.var .«meta») .smallest) (.cons (.var .smallest) .nil))) (.int 0)) (.cons (.asg (.nm .smallest) (.attr (.var .«meta») .smallest)) .nil) .nil) (.cons (.ite (.cmp .gt (.meth (.var .order) .compare (.cons (.attr (.var .«meta») .largest) (.cons (.var .largest) .nil))) (.int 0)) (.cons (.asg (.nm .largest) (.attr (.var .«meta») .largest)) .nil) .nil) .nil))) (.cons (.ret (.tup (.cons (.var .smallest) (.cons (.var .largest) .nil)))) .nil))))
@[reducible] noncomputable def Compaction_init_body : Ss :=
 (.cons (.sattr (.var .self) .level (.var .level)) (.cons (.sattr (.var .self) .version (.var .version)) (.cons (.sattr (.var .self) .options (.var .options)) (.cons (.sattr (.var .self) .order (.new .InternalOrder .nil)) (.cons (.sattr (.var .self) .users (.new .BytesOrder .nil)) (.cons (.sattr (.var .self) .inputs (.list (.cons (.list .nil) (.cons (.list .nil) .nil)))) (.cons (.sattr (.var .self) .grandparents (.list .nil)) (.cons (.sattr (.var .self) .edit (.new .VersionEdit .nil)) (.cons (.sattr (.var .self) .manual (.bool false)) (.cons (.sattr (.var .self) .grand_at (.int 0)) (.cons (.sattr (.var .self) .grand_octets (.int 0)) (.cons (.sattr (.var .self) .seen_key (.bool false)) (.cons (.sattr (.var .self) .places (.rep (.int 0) (.attr (.var .options) .num_levels))) .nil)))))))))))))
@[reducible] noncomputable def Compaction_grand_limit_body : Ss :=
 (.cons (.ret (.bin .mul (.attr (.attr (.var .self) .options) .grandparent_factor) (.attr (.attr (.var .self) .options) .max_file_size))) .nil)
@[reducible] noncomputable def Compaction_trivial_body : Ss :=
 (.cons (.ite (.or (.cons (.cmp .ne (.bi .len (.cons (.idx (.attr (.var .self) .inputs) (.int 0)) .nil)) (.int 1)) (.cons (.cmp .ne (.bi .len (.cons (.idx (.attr (.var .self) .inputs) (.int 1)) .nil)) (.int 0)) .nil))) (.cons (.ret (.bool false)) .nil) .nil) (.cons (.ret (.cmp .le (.call .total_size (.cons (.attr (.var .self) .grandparents) .nil)) (.meth (.var .self) .grand_limit .nil))) .nil))
@[reducible] noncomputable def Compaction_add_deletions_body : Ss :=
 (.cons (.forR .side (.cons (.int 2) .nil) (.cons (.for (.nm .«meta») (.idx (.attr (.var .self) .inputs) (.var .side)) (.cons (.ex (.lm (.attr (.attr (.var .self) .edit) .deleted) .append (.cons (.tup (.cons (.bin .add (.attr (.var .self) .level) (.var .side)) (.cons (.attr (.var .«meta») .number) .nil))) .nil))) .nil)) .nil)) .nil)
@[reducible] noncomputable def max_octets_of_body : Ss :=
 (.cons (.asg (.nm .result) (.attr (.var .options) .base_bytes)) (.cons (.while (.cmp .gt (.var .level) (.int 1)) (.cons (.aug .result .mul (.attr (.var .options) .level_factor)) (.cons (.aug .level .sub (.int 1)) .nil))) (.cons (.ret (.var .result)) .nil)))
@[reducible] noncomputable def score_of_body : Ss :=
 (.cons (.ite (.cmp .eq (.bi .len (.cons (.attr (.var .version) .files) .nil)) (.int 0)) (.cons (.ret (.attr (.var .version) .score)) .nil) .nil) (.cons (.asg (.nm .best_top) (.bi .len (.cons (.idx (.attr (.var .version) .files) (.int 0)) .nil))) (.cons (.asg (.nm .best_bottom) (.attr (.var .options) .l0_trigger)) (.cons (.asg (.nm .best_level) (.int 0)) (.cons (.forR .level (.cons (.int 1) (.cons (.bin .sub (.attr (.var .options) .num_levels) (.int 1)) .nil)) (.cons (.asg (.nm .top) (.meth (.var .version) .level_octets (.cons (.var .level) .nil))) (.cons (.asg (.nm .bottom) (.call .max_octets_of (.cons (.var .options) (.cons (.var .level) .nil)))) (.cons (.ite (.cmp .gt (.bin .mul (.var .top) (.var .best_bottom)) (.bin .mul (.var .best_top) (.var .bottom))) (.cons (.asg (.nm .best_top) (.var .top)) (.cons (.asg (.nm .best_bottom) (.var .bottom)) (.cons (.asg (.nm .best_level) (.var .level)) .nil))) .nil) .nil)))) (.cons (.sattr (.var .version) .score (.tup (.cons (.var .best_top) (.cons (.var .best_bottom) .nil)))) (.cons (.sattr (.var .version) .score_level (.var .best_level)) (.cons (.ret (.attr (.var .version) .score)) .nil))))))))
@[reducible] noncomputable def Picker_init_body : Ss :=
 (.cons (.sattr (.var .self) .options (.var .options)) (.cons (.sattr (.var .self) .order (.var .order)) .nil))
@[reducible] noncomputable def Picker_needs_compaction_body : Ss :=
 (.cons (.ret (.cmp .ge (.idx (.attr (.var .version) .score) (.int 0)) (.idx (.attr (.var .version) .score) (.int 1)))) .nil)
@[reducible] noncomputable def Picker_user_range_body : Ss :=
 (.cons (.asg (.nm .ends) (.call .key_range (.cons (.var .files) (.cons (.attr (.var .self) .order) .nil)))) (.cons (.ret (.tup (.cons (.call .user_of (.cons (.idx (.var .ends) (.int 0)) .nil)) (.cons (.call .user_of (.cons (.idx (.var .ends) (.int 1)) .nil)) .nil)))) .nil))
@[reducible] noncomputable def Picker_pick_body : Ss :=
 (.cons (.ite (.not (.meth (.var .self) .needs_compaction (.cons (.var .version) .nil))) (.cons (.ret .none) .nil) .nil) (.cons (.asg (.nm .level) (.attr (.var .version) .score_level)) (.cons (.asg (.nm .c) (.new .Compaction (.cons (.var .level) (.cons (.var .version) (.cons (.attr (.var .self) .options) .nil))))) (.cons (.asg (.nm .files) (.idx (.attr (.var .version) .files) (.var .level))) (.cons (.asg (.nm .pointer) (.idx (.var .pointers) (.var .level))) (.cons (.asg (.nm .first) (.idx (.var .files) (.int 0))) (.cons (.for (.nm .«meta») (.var .files) (.cons (.ite (.or (.cons (.cmp .eq (.var .pointer) (.bytes [])) (.cons (.cmp .gt (.meth (.attr (.var .self) .order) .compare (.cons (.attr (.var .«meta») .largest) (.cons (.var .pointer) .nil))) (.int 0)) .nil))) (.cons (.asg (.nm .first) (.var .«meta»)) (.cons .brk .nil)) .nil) .nil)) (.cons (.sidx (.attr (.var .c) .inputs) (.int 0) (.list (.cons (.var .first) .nil))) (.cons (.ite (.cmp .eq (.var .level) (.int 0)) (.cons (.asg (.nm .ends) (.meth (.var .self) .user_range (.cons (.idx (.attr (.var .c) .inputs) (.int 0)) .nil))) (.cons (.sidx (.attr (.var .c) .inputs) (.int 0) (.meth (.var .version) .overlapping (.cons (.int 0) (.cons (.idx (.var .ends) (.int 0)) (.cons (.idx (.var .ends) (.int 1)) .nil))))) .nil)) .nil) (.cons (.ex (.meth (.var .self) .set_up_other (.cons (.var .c) (.cons (.var .pointers) .nil)))) (.cons (.ret (.var .c)) .nil)))))))))))
@[reducible] noncomputable def Picker_pick_range_body : Ss :=
 (.cons (.ite (.or (.cons (.cmp .lt (.var .level) (.int 0)) (.cons (.cmp .ge (.var .level) (.bin .sub (.attr (.attr (.var .self) .options) .num_levels) (.int 1))) .nil))) (.cons .bad .nil) .nil) (.cons (.asg (.nm .files) (.meth (.var .version) .overlapping (.cons (.var .level) (.cons (.var .low) (.cons (.var .high) .nil))))) (.cons (.ite (.cmp .eq (.bi .len (.cons (.var .files) .nil)) (.int 0)) (.cons (.ret .none) .nil) .nil) (.cons (.ite (.cmp .gt (.var .level) (.int 0)) (.cons (.asg (.nm .total) (.int 0)) (.cons (.asg (.nm .count) (.int 0)) (.cons (.while (.and (.cons (.cmp .lt (.var .count) (.bi .len (.cons (.var .files) .nil))) (.cons (.cmp .lt (.var .total) (.attr (.attr (.var .self) .options) .max_file_size)) .nil))) (.cons (.aug .total .add (.attr (.idx (.var .files) (.var .count)) .size)) (.cons (.aug .count .add (.int 1)) .nil))) (.cons (.asg (.nm .files) (.upto (.var .files) (.var .count))) .nil)))) .nil) (.cons (.asg (.nm .c) (.new .Compaction (.cons (.var .level) (.cons (.var .version) (.cons (.attr (.var .self) .options) .nil))))) (.cons (.sattr (.var .c) .manual (.bool true)) (.cons (.sidx (.attr (.var .c) .inputs) (.int 0) (.var .files)) (.cons (.ex (.meth (.var .self) .set_up_other (.cons (.var .c) (.cons (.var .pointers) .nil)))) (.cons (.ret (.var .c)) .nil)))))))))
@[reducible] noncomputable def Picker_set_up_other_body : Ss :=
 (.cons (.asg (.nm .level) (.attr (.var .c) .level)) (.cons (.asg (.nm .version) (.attr (.var .c) .version)) (.cons (.asg (.nm .ends) (.meth (.var .self) .user_range (.cons (.idx (.attr (.var .c) .inputs) (.int 0)) .nil))) (.cons (.sidx (.attr (.var .c) .inputs) (.int 1) (.meth (.var .version) .overlapping (.cons (.bin .add (.var .level) (.int 1)) (.cons (.idx (.var .ends) (.int 0)) (.cons (.idx (.var .ends) (.int 1)) .nil))))) (.cons (.asg (.nm .span) (.meth (.var .self) .user_range (.cons (.bin .add (.idx (.attr (.var .c) .inputs) (.int 0)) (.idx (.attr (.var .c) .inputs) (.int 1))) .nil))) (.cons (.ite (.cmp .gt (.bi .len (.cons (.idx (.attr (.var .c) .inputs) (.int 1)) .nil)) (.int 0)) (.cons (.asg (.nm .grown) (.meth (.var .version) .overlapping (.cons (.var .level) (.cons (.idx (.var .span) (.int 0)) (.cons (.idx (.var .span) (.int 1)) .nil))))) (.cons (.asg (.nm .room) (.bin .mul (.attr (.attr (.var .self) .options) .expand_factor) (.attr (.attr (.var .self) .options) .max_file_size))) (.cons (.asg (.nm .cost) (.bin .add (.call .total_size (.cons (.idx (.attr (.var .c) .inputs) (.int 1)) .nil)) (.call .total_size (.cons (.var .grown) .nil)))) (.cons (.ite (.and (.cons (.cmp .gt (.bi .len (.cons (.var .grown) .nil)) (.bi .len (.cons (.idx (.attr (.var .c) .inputs) (.int 0)) .nil))) (.cons (.cmp .lt (.var .cost) (.var .room)) .nil))) (.cons (.asg (.nm .ends) (.meth (.var .self) .user_range (.cons (.var .grown) .nil))) (.cons (.asg (.nm .above) (.meth (.var .version) .overlapping (.cons (.bin .add (.var .level) (.int 1)) (.cons (.idx (.var .ends) (.int 0)) (.cons (.idx (.var .ends) (.int 1)) .nil))))) (.cons (.ite (.cmp .eq (.bi .len (.cons (.var .above) .nil)) (.bi .len (.cons (.idx (.attr (.var .c) .inputs) (.int 1)) .nil))) (.cons (.sidx (.attr (.var .c) .inputs) (.int 0) (.var .grown)) (.cons (.sidx (.attr (.var .c) .inputs) (.int 1) (.var .above)) (.cons (.asg (.nm .span) (.meth (.var .self) .user_range (.cons (.bin .add (.idx (.attr (.var .c) .inputs) (.int 0)) (.idx (.attr (.var .c) .inputs) (.int 1))) .nil))) .nil))) .nil) .nil))) .nil) .nil)))) .nil) (.cons (.ite (.cmp .lt (.bin .add (.var .level) (.int 2)) (.attr (.attr (.var .self) .options) .num_levels)) (.cons (.sattr (.var .c) .grandparents (.meth (.var .version) .overlapping (.cons (.bin .add (.var .level) (.int 2)) (.cons (.idx (.var .span) (.int 0)) (.cons (.idx (.var .span) (.int 1)) .nil))))) .nil) .nil) (.cons (.asg (.nm .largest) (.idx (.call .key_range (.cons (.idx (.attr (.var .c) .inputs) (.int 0)) (.cons (.attr (.var .self) .order) .nil))) (.int 1))) (.cons (.sidx (.var .pointers) (.var .level) (.var .largest)) (.cons (.ex (.lm (.attr (.attr (.var .c) .edit) .compact_pointers) .append (.cons (.tup (.cons (.var .level) (.cons (.var .largest) .nil))) .nil))) .nil))))))))))
@[reducible] noncomputable def law_draw_body : Ss :=
 (.cons (.ret (.bin .add (.idx (.var .nums) (.bin .mod (.var .i) (.bi .len (.cons (.var .nums) .nil)))) (.bin .mul (.int 7919) (.bin .fdiv (.var .i) (.bi .len (.cons (.var .nums) .nil)))))) .nil)
@[reducible] noncomputable def law_user_body : Ss :=
 (.cons (.ret (.idx (.list (.cons (.bytes []) (.cons (.bytes [97]) (.cons (.bytes [97, 0]) (.cons (.bytes [98]) (.cons (.bytes [98, 97]) (.cons (.bytes [99]) (.cons (.bytes [99, 255]) (.cons (.bytes [100]) (.cons .none .nil)))))))))) (.var .place))) .nil)
@[reducible] noncomputable def law_ikey_body : Ss :=
 (.cons (.ret (.bin .add (.call .law_user (.cons (.var .place) .nil)) (.bi .bytes (.cons (.list (.cons (.int 1) (.cons (.var .seq) (.cons (.int 0) (.cons (.int 0) (.cons (.int 0) (.cons (.int 0) (.cons (.int 0) (.cons (.int 0) .nil))))))))) .nil)))) .nil)
@[reducible] noncomputable def law_rows_body : Ss :=
 (.cons (.ret (.comp (.tup (.cons (.idx (.var .f) (.int 0)) (.cons (.idx (.var .f) (.int 1)) (.cons (.call .law_ikey (.cons (.idx (.var .f) (.int 2)) (.cons (.int 9) .nil))) (.cons (.call .law_ikey (.cons (.idx (.var .f) (.int 3)) (.cons (.int 1) .nil))) .nil))))) .f (.var .files) .nil)) .nil)
@[reducible] noncomputable def law_octets_body : Ss :=
 (.cons (.ret (.bi .sum (.cons (.comp (.idx (.var .f) (.int 1)) .f (.var .files) .nil) .nil))) .nil)
@[reducible] noncomputable def law_lay_body : Ss :=
 (.cons (.asg (.nm .levels) (.list (.cons (.list .nil) .nil))) (.cons (.forR .j (.cons (.bin .add (.int 1) (.bin .mod (.call .law_draw (.cons (.var .nums) (.cons (.int 1) .nil))) (.int 4))) .nil) (.cons (.asg (.nm .z) (.call .law_draw (.cons (.var .nums) (.cons (.bin .add (.int 2) (.var .j)) .nil)))) (.cons (.ex (.lm (.idx (.var .levels) (.int 0)) .append (.cons (.tup (.cons (.bin .add (.int 5) (.bin .mul (.int 3) (.var .j))) (.cons (.bin .add (.int 1) (.bin .mod (.bin .fdiv (.var .z) (.int 40)) (.int 12))) (.cons (.bin .mod (.var .z) (.int 8)) (.cons (.bi .min (.cons (.int 7) (.cons (.bin .add (.bin .mod (.var .z) (.int 8)) (.bin .mod (.bin .fdiv (.var .z) (.int 8)) (.int 4))) .nil))) .nil))))) .nil))) .nil))) (.cons (.forR .level (.cons (.int 1) (.cons (.var .count) .nil)) (.cons (.asg (.nm .z) (.call .law_draw (.cons (.var .nums) (.cons (.bin .add (.int 5) (.var .level)) .nil)))) (.cons (.asg (.nm .files) (.list .nil)) (.cons (.asg (.nm .first) (.bin .mod (.var .z) (.int 10))) (.cons (.asg (.nm .z) (.bin .fdiv (.var .z) (.int 10))) (.cons (.while (.and (.cons (.cmp .lt (.var .first) (.int 8)) (.cons (.cmp .lt (.bi .len (.cons (.var .files) .nil)) (.int 4)) .nil))) (.cons (.asg (.nm .last) (.bi .min (.cons (.int 7) (.cons (.bin .add (.var .first) (.bin .mod (.var .z) (.int 3))) .nil)))) (.cons (.ex (.lm (.var .files) .append (.cons (.tup (.cons (.bin .sub (.bin .add (.int 29) (.bin .mul (.int 10) (.var .level))) (.bi .len (.cons (.var .files) .nil))) (.cons (.bin .add (.int 1) (.bin .mod (.bin .fdiv (.var .z) (.int 9)) (.int 12))) (.cons (.var .first) (.cons (.var .last) .nil))))) .nil))) (.cons (.asg (.nm .first) (.bin .add (.bin .add (.var .last) (.int 1)) (.bin .mod (.bin .fdiv (.var .z) (.int 3)) (.int 3)))) (.cons (.asg (.nm .z) (.bin .fdiv (.var .z) (.int 7))) .nil))))) (.cons (.ex (.lm (.var .levels) .append (.cons (.var .files) .nil))) .nil))))))) (.cons (.ret (.var .levels)) .nil))))
@[reducible] noncomputable def law_touch_body : Ss :=
 (.cons (.ret (.comp (.var .f) .f (.var .files) (.cons (.and (.cons (.or (.cons (.cmp .eq (.var .low) (.int 8)) (.cons (.cmp .ge (.idx (.var .f) (.int 3)) (.var .low)) .nil))) (.cons (.or (.cons (.cmp .eq (.var .high) (.int 8)) (.cons (.cmp .le (.idx (.var .f) (.int 2)) (.var .high)) .nil))) .nil))) .nil))) .nil)
@[reducible] noncomputable def law_joined_body : Ss :=
 (.cons (.asg (.nm .found) (.call .law_touch (.cons (.idx (.var .levels) (.var .level)) (.cons (.var .low) (.cons (.var .high) .nil))))) (.cons (.ite (.cmp .eq (.var .level) (.int 0)) (.cons (.forR .n_us (.cons (.bi .len (.cons (.idx (.var .levels) (.int 0)) .nil)) .nil) (.cons (.ite (.cmp .ne (.var .low) (.int 8)) (.cons (.asg (.nm .low) (.bi .min (.cons (.bin .add (.list (.cons (.var .low) .nil)) (.comp (.idx (.var .f) (.int 2)) .f (.var .found) .nil)) .nil))) .nil) .nil) (.cons (.ite (.cmp .ne (.var .high) (.int 8)) (.cons (.asg (.nm .high) (.bi .max (.cons (.bin .add (.list (.cons (.var .high) .nil)) (.comp (.idx (.var .f) (.int 3)) .f (.var .found) .nil)) .nil))) .nil) .nil) (.cons (.asg (.nm .found) (.call .law_touch (.cons (.idx (.var .levels) (.int 0)) (.cons (.var .low) (.cons (.var .high) .nil))))) .nil)))) .nil) .nil) (.cons (.ret (.var .found)) .nil)))
@[reducible] noncomputable def law_span_body : Ss :=
 (.cons (.ret (.tup (.cons (.bi .min (.cons (.comp (.idx (.var .f) (.int 2)) .f (.var .files) .nil) .nil)) (.cons (.bi .max (.cons (.comp (.idx (.var .f) (.int 3)) .f (.var .files) .nil) .nil)) .nil)))) .nil)
@[reducible] noncomputable def law_plan_body : Ss :=
 (.cons (.asg (.nm .levels) (.key (.var .book) .levels)) (.cons (.asg (.nm .options) (.key (.var .book) .options)) (.cons (.asg (.nm .upper) (.list .nil)) (.cons (.ite (.var .manual) (.cons (.for (.nm .f) (.call .law_joined (.cons (.var .levels) (.cons (.var .level) (.cons (.var .low) (.cons (.var .high) .nil))))) (.cons (.ite (.or (.cons (.cmp .eq (.var .level) (.int 0)) (.cons (.cmp .lt (.call .law_octets (.cons (.var .upper) .nil)) (.attr (.var .options) .max_file_size)) .nil))) (.cons (.ex (.lm (.var .upper) .append (.cons (.var .f) .nil))) .nil) .nil) .nil)) .nil) (.cons (.ite (.cmp .ge (.idx (.attr (.key (.var .book) .version) .score) (.int 0)) (.idx (.attr (.key (.var .book) .version) .score) (.int 1))) (.cons (.asg (.nm .upper) (.upto (.idx (.var .levels) (.var .level)) (.int 1))) (.cons (.ite (.cmp .eq (.var .level) (.int 0)) (.cons (.asg (.nm .upper) (.call .law_joined (.cons (.var .levels) (.cons (.int 0) (.cons (.idx (.idx (.var .upper) (.int 0)) (.int 2)) (.cons (.idx (.idx (.var .upper) (.int 0)) (.int 3)) .nil)))))) .nil) .nil) .nil)) .nil) .nil)) (.cons (.ite (.cmp .eq (.bi .len (.cons (.var .upper) .nil)) (.int 0)) (.cons (.ret .none) .nil) .nil) (.cons (.asg (.tup [.low, .high]) (.call .law_span (.cons (.var .upper) .nil))) (.cons (.asg (.nm .lower) (.call .law_touch (.cons (.idx (.var .levels) (.bin .add (.var .level) (.int 1))) (.cons (.var .low) (.cons (.var .high) .nil))))) (.cons (.ite (.cmp .gt (.bi .len (.cons (.var .lower) .nil)) (.int 0)) (.cons (.asg (.tup [.low, .high]) (.call .law_span (.cons (.bin .add (.var .upper) (.var .lower)) .nil))) (.cons (.asg (.nm .more) (.call .law_joined (.cons (.var .levels) (.cons (.var .level) (.cons (.var .low) (.cons (.var .high) .nil)))))) (.cons (.asg (.tup [.first, .last]) (.call .law_span (.cons (.var .more) .nil))) (.cons (.asg (.nm .cheap) (.cmp .lt (.call .law_octets (.cons (.bin .add (.var .more) (.var .lower)) .nil)) (.bin .mul (.attr (.var .options) .expand_factor) (.attr (.var .options) .max_file_size)))) (.cons (.ite (.and (.cons (.var .cheap) (.cons (.cmp .eq (.call .law_touch (.cons (.idx (.var .levels) (.bin .add (.var .level) (.int 1))) (.cons (.var .first) (.cons (.var .last) .nil)))) (.var .lower)) .nil))) (.cons (.asg (.nm .upper) (.var .more)) (.cons (.asg (.tup [.low, .high]) (.call .law_span (.cons (.bin .add (.var .upper) (.var .lower)) .nil))) .nil)) .nil) .nil))))) .nil) (.cons (.asg (.nm .grand) (.list .nil)) (.cons (.ite (.cmp .lt (.bin .add (.var .level) (.int 2)) (.bi .len (.cons (.var .levels) .nil))) (.cons (.asg (.nm .grand) (.call .law_touch (.cons (.idx (.var .levels) (.bin .add (.var .level) (.int 2))) (.cons (.var .low) (.cons (.var .high) .nil))))) .nil) .nil) (.cons (.ret (.tup (.cons (.var .level) (.cons (.var .manual) (.cons (.var .upper) (.cons (.var .lower) (.cons (.var .grand) .nil))))))) .nil)))))))))))
@[reducible] noncomputable def law_told_body : Ss :=
 (.cons (.ite (.cmp .eq (.var .sort) (.int 0)) (.cons (.ret (.comp (.meth (.var .«meta») .row .nil) .«meta» (.var .found) .nil)) .nil) .nil) (.cons (.ite (.cmp .eq (.var .sort) (.int 1)) (.cons (.ret (.comp (.tup (.cons (.idx (.var .pair) (.int 0)) (.cons (.meth (.idx (.var .pair) (.int 1)) .row .nil) .nil))) .pair (.var .found) .nil)) .nil) .nil) (.cons (.ret (.comp (.var .x) .x (.var .found) .nil)) .nil)))
@[reducible] noncomputable def law_spoil_body : Ss :=
 (.cons (.ite (.cmp .eq (.var .way) (.int 0)) (.cons (.while (.cmp .gt (.bi .len (.cons (.var .found) .nil)) (.int 0)) (.cons (.ex (.lm (.var .found) .pop .nil)) .nil)) (.cons .ret0 .nil)) .nil) (.cons (.ite (.cmp .eq (.var .way) (.int 1)) (.cons (.ex (.lm (.var .found) .reverse .nil)) .nil) .nil) (.cons (.ex (.lm (.var .found) .append (.cons (.idx (.list (.cons (.key (.var .book) .stranger) (.cons (.tup (.cons (.int 0) (.cons (.key (.var .book) .stranger) .nil))) (.cons (.int 77) .nil)))) (.var .sort)) .nil))) .nil)))
@[reducible] noncomputable def law_take_body : Ss :=
 (.cons (.ite (.cmp .ne (.call .law_told (.cons (.var .found) (.cons (.var .sort) .nil))) (.var .want)) (.cons (.ret (.bool false)) .nil) .nil) (.cons (.ite (.cmp .eq (.var .way) (.int 3)) (.cons (.ex (.lm (.key (.var .book) .kept) .append (.cons (.tup (.cons (.var .found) (.cons (.var .sort) (.cons (.var .want) .nil)))) .nil))) .nil) (.cons (.ex (.call .law_spoil (.cons (.var .book) (.cons (.var .found) (.cons (.var .sort) (.cons (.var .way) .nil)))))) .nil)) (.cons (.ret (.bool true)) .nil)))
@[reducible] noncomputable def law_is_body : Ss :=
 (.cons (.asg (.tup [.level, .manual, .upper, .lower, .grand]) (.var .plan)) (.cons (.ite (.or (.cons (.cmp .ne (.attr (.var .c) .level) (.var .level)) (.cons (.cmp .ne (.attr (.var .c) .manual) (.var .manual)) .nil))) (.cons (.ret (.bool false)) .nil) .nil) (.cons (.ite (.or (.cons (.cmp .ne (.call .law_told (.cons (.idx (.attr (.var .c) .inputs) (.int 0)) (.cons (.int 0) .nil))) (.call .law_rows (.cons (.var .upper) .nil))) (.cons (.cmp .ne (.call .law_told (.cons (.idx (.attr (.var .c) .inputs) (.int 1)) (.cons (.int 0) .nil))) (.call .law_rows (.cons (.var .lower) .nil))) .nil))) (.cons (.ret (.bool false)) .nil) .nil) (.cons (.ite (.cmp .ne (.call .law_told (.cons (.attr (.var .c) .grandparents) (.cons (.int 0) .nil))) (.call .law_rows (.cons (.var .grand) .nil))) (.cons (.ret (.bool false)) .nil) .nil) (.cons (.asg (.nm .most) (.bin .mul (.attr (.key (.var .book) .options) .grandparent_factor) (.attr (.key (.var .book) .options) .max_file_size))) (.cons (.ite (.cmp .ne (.meth (.var .c) .trivial .nil) (.and (.cons (.cmp .eq (.bi .len (.cons (.var .upper) .nil)) (.int 1)) (.cons (.cmp .eq (.bi .len (.cons (.var .lower) .nil)) (.int 0)) (.cons (.cmp .le (.call .law_octets (.cons (.var .grand) .nil)) (.var .most)) .nil))))) (.cons (.ret (.bool false)) .nil) .nil) (.cons (.asg (.nm .last) (.idx (.call .law_span (.cons (.var .upper) .nil)) (.int 1))) (.cons (.ret (.and (.cons (.cmp .eq (.attr (.attr (.var .c) .edit) .compact_pointers) (.list (.cons (.tup (.cons (.var .level) (.cons (.call .law_ikey (.cons (.var .last) (.cons (.int 1) .nil))) .nil))) .nil))) (.cons (.cmp .eq (.attr (.attr (.var .c) .edit) .deleted) (.list .nil)) (.cons (.cmp .eq (.attr (.attr (.var .c) .edit) .added) (.list .nil)) .nil))))) .nil))))))))
@[reducible] noncomputable def law_pair_body : Ss :=
 (.cons (.asg (.nm .made) (.list .nil)) (.cons (.forR .n_us (.cons (.int 2) .nil) (.cons (.asg (.nm .pointers) (.rep (.bytes []) (.bi .len (.cons (.key (.var .book) .levels) .nil)))) (.cons (.ite (.var .manual) (.cons (.ex (.lm (.var .made) .append (.cons (.meth (.key (.var .book) .picker) .pick_range (.cons (.key (.var .book) .version) (.cons (.var .pointers) (.cons (.var .level) (.cons (.call .law_user (.cons (.var .low) .nil)) (.cons (.call .law_user (.cons (.var .high) .nil)) .nil)))))) .nil))) .nil) (.cons (.ex (.lm (.var .made) .append (.cons (.meth (.key (.var .book) .picker) .pick (.cons (.key (.var .book) .version) (.cons (.var .pointers) .nil))) .nil))) .nil)) .nil))) (.cons (.asg (.nm .plan) (.call .law_plan (.cons (.var .book) (.cons (.var .level) (.cons (.var .low) (.cons (.var .high) (.cons (.var .manual) .nil))))))) (.cons (.ite (.or (.cons (.isN (.var .plan)) (.cons (.isN (.idx (.var .made) (.int 0))) (.cons (.isN (.idx (.var .made) (.int 1))) .nil)))) (.cons (.ret (.and (.cons (.isN (.var .plan)) (.cons (.isN (.idx (.var .made) (.int 0))) (.cons (.isN (.idx (.var .made) (.int 1))) .nil))))) .nil) .nil) (.cons (.ite (.not (.call .law_is (.cons (.var .book) (.cons (.idx (.var .made) (.int 0)) (.cons (.var .plan) .nil))))) (.cons (.ret (.bool false)) .nil) .nil) (.cons (.asg (.nm .j) (.var .way)) (.cons (.for (.nm .found) (.tup (.cons (.idx (.attr (.idx (.var .made) (.int 0)) .inputs) (.int 0)) (.cons (.idx (.attr (.idx (.var .made) (.int 0)) .inputs) (.int 1)) (.cons (.attr (.idx (.var .made) (.int 0)) .grandparents) .nil)))) (.cons (.ex (.call .law_spoil (.cons (.var .book) (.cons (.var .found) (.cons (.int 0) (.cons (.bin .mod (.var .j) (.int 3)) .nil)))))) (.cons (.aug .j .add (.int 1)) .nil))) (.cons (.asg (.nm .want) (.bin .add (.comp (.tup (.cons (.var .level) (.cons (.attr (.var .«meta») .number) .nil))) .«meta» (.idx (.attr (.idx (.var .made) (.int 0)) .inputs) (.int 0)) .nil) (.comp (.tup (.cons (.bin .add (.var .level) (.int 1)) (.cons (.attr (.var .«meta») .number) .nil))) .«meta» (.idx (.attr (.idx (.var .made) (.int 0)) .inputs) (.int 1)) .nil))) (.cons (.ex (.meth (.idx (.var .made) (.int 0)) .add_deletions .nil)) (.cons (.ite (.cmp .ne (.attr (.attr (.idx (.var .made) (.int 0)) .edit) .deleted) (.var .want)) (.cons (.ret (.bool false)) .nil) .nil) (.cons (.ex (.call .law_spoil (.cons (.var .book) (.cons (.attr (.attr (.idx (.var .made) (.int 0)) .edit) .deleted) (.cons (.int 2) (.cons (.bin .mod (.var .way) (.int 3)) .nil)))))) (.cons (.ex (.call .law_spoil (.cons (.var .book) (.cons (.attr (.attr (.idx (.var .made) (.int 0)) .edit) .compact_pointers) (.cons (.int 2) (.cons (.bin .mod (.var .way) (.int 3)) .nil)))))) (.cons (.ite (.not (.call .law_is (.cons (.var .book) (.cons (.idx (.var .made) (.int 1)) (.cons (.var .plan) .nil))))) (.cons (.ret (.bool false)) .nil) .nil) (.cons (.ex (.meth (.idx (.var .made) (.int 1)) .add_deletions .nil)) (.cons (.ret (.cmp .eq (.attr (.attr (.idx (.var .made) (.int 1)) .edit) .deleted) (.bin .add (.comp (.tup (.cons (.var .level) (.cons (.idx (.var .f) (.int 0)) .nil))) .f (.idx (.var .plan) (.int 2)) .nil) (.comp (.tup (.cons (.bin .add (.var .level) (.int 1)) (.cons (.idx (.var .f) (.int 0)) .nil))) .f (.idx (.var .plan) (.int 3)) .nil)))) .nil)))))))))))))))
@[reducible] noncomputable def law_lapping_body : Ss :=
 (.cons (.asg (.nm .found) (.meth (.key (.var .book) .version) .overlapping (.cons (.var .level) (.cons (.call .law_user (.cons (.var .low) .nil)) (.cons (.call .law_user (.cons (.var .high) .nil)) .nil))))) (.cons (.ret (.call .law_take (.cons (.var .book) (.cons (.var .found) (.cons (.int 0) (.cons (.call .law_rows (.cons (.call .law_joined (.cons (.key (.var .book) .levels) (.cons (.var .level) (.cons (.var .low) (.cons (.var .high) .nil))))) .nil)) (.cons (.var .way) .nil))))))) .nil))
@[reducible] noncomputable def law_numbers_body : Ss :=
 (.cons (.asg (.nm .want) (.bi .sorted (.cons (.comp2 (.idx (.var .f) (.int 0)) .files (.key (.var .book) .levels) .f (.var .files)) .nil))) (.cons (.ret (.call .law_take (.cons (.var .book) (.cons (.meth (.key (.var .book) .version) .numbers .nil) (.cons (.int 2) (.cons (.var .want) (.cons (.var .way) .nil))))))) .nil))
@[reducible] noncomputable def law_ask_body : Ss :=
 (.cons (.asg (.nm .levels) (.key (.var .book) .levels)) (.cons (.asg (.nm .version) (.key (.var .book) .version)) (.cons (.asg (.nm .way) (.bin .mod (.var .t) (.int 4))) (.cons (.asg (.nm .act) (.bin .mod (.bin .fdiv (.var .t) (.int 4)) (.int 7))) (.cons (.asg (.nm .level) (.bin .mod (.bin .fdiv (.var .t) (.int 28)) (.bi .len (.cons (.var .levels) .nil)))) (.cons (.asg (.nm .low) (.bin .mod (.bin .fdiv (.var .t) (.int 112)) (.int 9))) (.cons (.asg (.nm .high) (.bin .mod (.bin .fdiv (.var .t) (.int 1008)) (.int 9))) (.cons (.ite (.cmp .lt (.var .act) (.int 2)) (.cons (.ret (.call .law_lapping (.cons (.var .book) (.cons (.var .level) (.cons (.var .low) (.cons (.var .high) (.cons (.var .way) .nil))))))) .nil) .nil) (.cons (.ite (.cmp .eq (.var .act) (.int 2)) (.cons (.ret (.call .law_lapping (.cons (.var .book) (.cons (.var .level) (.cons (.int 8) (.cons (.int 8) (.cons (.var .way) .nil))))))) .nil) .nil) (.cons (.ite (.cmp .eq (.var .act) (.int 3)) (.cons (.asg (.nm .want) (.list .nil)) (.cons (.forR .«at» (.cons (.bi .len (.cons (.var .levels) .nil)) .nil) (.cons (.asg (.nm .there) (.comp (.tup (.cons (.var .«at») (.cons (.var .row) .nil))) .row (.call .law_rows (.cons (.call .law_touch (.cons (.idx (.var .levels) (.var .«at»)) (.cons (.bin .mod (.var .low) (.int 8)) (.cons (.bin .mod (.var .low) (.int 8)) .nil)))) .nil)) .nil)) (.cons (.ite (.cmp .eq (.var .«at») (.int 0)) (.cons (.ex (.lm (.var .there) .reverse .nil)) .nil) .nil) (.cons (.asg (.nm .want) (.bin .add (.var .want) (.var .there))) .nil)))) (.cons (.ret (.call .law_take (.cons (.var .book) (.cons (.meth (.var .version) .candidates (.cons (.call .law_ikey (.cons (.bin .mod (.var .low) (.int 8)) (.cons (.bin .add (.int 1) (.var .high)) .nil))) .nil)) (.cons (.int 1) (.cons (.var .want) (.cons (.var .way) .nil))))))) .nil))) .nil) (.cons (.ite (.cmp .eq (.var .act) (.int 4)) (.cons (.ite (.cmp .ne (.meth (.var .version) .level_octets (.cons (.var .level) .nil)) (.call .law_octets (.cons (.idx (.var .levels) (.var .level)) .nil))) (.cons (.ret (.bool false)) .nil) .nil) (.cons (.ite (.cmp .ne (.meth (.var .version) .overlaps (.cons (.var .level) (.cons (.call .law_user (.cons (.var .low) .nil)) (.cons (.call .law_user (.cons (.var .high) .nil)) .nil)))) (.cmp .gt (.bi .len (.cons (.call .law_touch (.cons (.idx (.var .levels) (.var .level)) (.cons (.var .low) (.cons (.var .high) .nil)))) .nil)) (.int 0))) (.cons (.ret (.bool false)) .nil) .nil) (.cons (.ret (.call .law_numbers (.cons (.var .book) (.cons (.var .way) .nil)))) .nil))) .nil) (.cons (.ite (.cmp .eq (.var .act) (.int 5)) (.cons (.ite (.cmp .eq (.bin .mod (.bin .fdiv (.var .t) (.int 9072)) (.int 3)) (.int 0)) (.cons (.asg (.nm .low) (.int 8)) (.cons (.asg (.nm .high) (.int 8)) .nil)) .nil) (.cons (.ret (.call .law_pair (.cons (.var .book) (.cons (.bin .mod (.bin .fdiv (.var .t) (.int 28)) (.bin .sub (.bi .len (.cons (.var .levels) .nil)) (.int 1))) (.cons (.var .low) (.cons (.var .high) (.cons (.bool true) (.cons (.var .way) .nil)))))))) .nil)) .nil) (.cons (.ret (.call .law_pair (.cons (.var .book) (.cons (.attr (.var .version) .score_level) (.cons (.int 8) (.cons (.int 8) (.cons (.bool false) (.cons (.var .way) .nil)))))))) .nil)))))))))))))
@[reducible] noncomputable def law_body : Ss :=
 (.cons (.asg (.nm .nums) (.comp (.bin .mod (.var .x) (.int 999983)) .x (.upto (.var .script) (.int 20)) .nil)) (.cons (.ite (.cmp .eq (.bi .len (.cons (.var .nums) .nil)) (.int 0)) (.cons (.asg (.nm .nums) (.list (.cons (.int 0) .nil))) .nil) .nil) (.cons (.asg (.nm .a) (.call .law_draw (.cons (.var .nums) (.cons (.int 0) .nil)))) (.cons (.asg (.nm .b) (.call .law_draw (.cons (.var .nums) (.cons (.int 9) .nil)))) (.cons (.asg (.nm .count) (.bin .add (.int 3) (.bin .mod (.var .a) (.int 2)))) (.cons (.asg (.nm .options) (.new .Options .nil)) (.cons (.sattr (.var .options) .num_levels (.var .count)) (.cons (.sattr (.var .options) .max_file_size (.bin .add (.int 1) (.bin .mod (.bin .fdiv (.var .a) (.int 2)) (.int 12)))) (.cons (.sattr (.var .options) .expand_factor (.bin .add (.int 1) (.bin .mod (.bin .fdiv (.var .a) (.int 24)) (.int 4)))) (.cons (.sattr (.var .options) .grandparent_factor (.bin .add (.int 1) (.bin .mod (.bin .fdiv (.var .a) (.int 96)) (.int 2)))) (.cons (.sattr (.var .options) .l0_trigger (.bin .add (.int 1) (.bin .mod (.bin .fdiv (.var .a) (.int 192)) (.int 3)))) (.cons (.sattr (.var .options) .base_bytes (.bin .add (.int 1) (.bin .mod (.bin .fdiv (.var .a) (.int 576)) (.int 20)))) (.cons (.sattr (.var .options) .level_factor (.bin .add (.int 1) (.bin .mod (.bin .fdiv (.var .a) (.int 11520)) (.int 3)))) (.cons (.asg (.nm .levels) (.call .law_lay (.cons (.var .nums) (.cons (.var .count) .nil)))) (.cons (.asg (.nm .edit) (.new .VersionEdit .nil)) (.cons (.forR .level (.cons (.var .count) .nil) (.cons (.for (.nm .row) (.call .law_rows (.cons (.idx (.var .levels) (.var .level)) .nil)) (.cons (.ex (.lm (.attr (.var .edit) .added) .append (.cons (.tup (.cons (.var .level) (.cons (.new .FileMeta (.cons (.idx (.var .row) (.int 0)) (.cons (.idx (.var .row) (.int 1)) (.cons (.idx (.var .row) (.int 2)) (.cons (.idx (.var .row) (.int 3)) .nil))))) .nil))) .nil))) .nil)) .nil)) (.cons (.asg (.nm .maker) (.new .VersionMaker (.cons (.new .Version (.cons (.var .count) (.cons (.new .InternalOrder .nil) .nil))) .nil))) (.cons (.ex (.meth (.var .maker) .apply (.cons (.var .edit) .nil))) (.cons (.asg (.nm .version) (.meth (.var .maker) .finish .nil)) (.cons (.while (.cmp .gt (.bi .len (.cons (.attr (.var .edit) .added) .nil)) (.int 0)) (.cons (.ex (.lm (.attr (.var .edit) .added) .pop .nil)) .nil)) (.cons (.ex (.call .score_of (.cons (.var .version) (.cons (.var .options) .nil)))) (.cons (.asg (.nm .stranger) (.new .FileMeta (.cons (.int 77) (.cons (.int 7) (.cons (.call .law_ikey (.cons (.int 3) (.cons (.int 9) .nil))) (.cons (.call .law_ikey (.cons (.int 5) (.cons (.int 1) .nil))) .nil)))))) (.cons (.asg (.nm .book) (.sdict [.levels, .options, .version, .picker, .stranger, .kept] (.cons (.var .levels) (.cons (.var .options) (.cons (.var .version) (.cons (.new .Picker (.cons (.var .options) (.cons (.new .InternalOrder .nil) .nil))) (.cons (.var .stranger) (.cons (.list .nil) .nil)))))))) (.cons (.ite (.or (.cons (.not (.call .law_lapping (.cons (.var .book) (.cons (.bin .mod (.var .b) (.var .count)) (.cons (.int 8) (.cons (.int 8) (.cons (.int 3) .nil))))))) (.cons (.not (.call .law_lapping (.cons (.var .book) (.cons (.int 0) (.cons (.int 8) (.cons (.int 8) (.cons (.bin .mod (.bin .fdiv (.var .b) (.int 4)) (.int 3)) .nil))))))) .nil))) (.cons (.ret (.bool false)) .nil) .nil) (.cons (.ite (.not (.call .law_pair (.cons (.var .book) (.cons (.int 0) (.cons (.int 8) (.cons (.int 8) (.cons (.bool true) (.cons (.bin .mod (.bin .fdiv (.var .b) (.int 12)) (.int 3)) .nil)))))))) (.cons (.ret (.bool false)) .nil) .nil) (.cons (.forR .i (.cons (.bin .add (.int 5) (.bi .min (.cons (.int 5) (.cons (.bi .len (.cons (.var .nums) .nil)) .nil)))) .nil) (.cons (.ite (.not (.call .law_ask (.cons (.var .book) (.cons (.call .law_draw (.cons (.var .nums) (.cons (.bin .add (.int 10) (.var .i)) .nil))) .nil)))) (.cons (.ret (.bool false)) .nil) .nil) .nil)) (.cons (.for (.tup [.found, .sort, .want]) (.key (.var .book) .kept) (.cons (.ite (.cmp .ne (.call .law_told (.cons (.var .found) (.cons (.var .sort) .nil))) (.var .want)) (.cons (.ret (.bool false)) .nil) .nil) .nil)) (.cons (.forR .level (.cons (.var .count) .nil) (.cons (.ite (.or (.cons (.not (.call .law_lapping (.cons (.var .book) (.cons (.var .level) (.cons (.int 8) (.cons (.int 8) (.cons (.int 0) .nil))))))) (.cons (.cmp .ne (.call .law_told (.cons (.idx (.attr (.var .version) .files) (.var .level)) (.cons (.int 0) .nil))) (.call .law_rows (.cons (.idx (.var .levels) (.var .level)) .nil))) .nil))) (.cons (.ret (.bool false)) .nil) .nil) .nil)) (.cons (.ex (.meth (.var .version) .check .nil)) (.cons (.ret (.and (.cons (.call .law_numbers (.cons (.var .book) (.cons (.int 1) .nil))) (.cons (.call .law_numbers (.cons (.var .book) (.cons (.int 0) .nil))) .nil)))) .nil))))))))))))))))))))))))))))))
noncomputable def fnTab : List (List Nm × Ss) := [([.n], put_fixed32_body), ([.n], put_fixed64_body), ([.data, .«at»], read_fixed32_body), ([.data, .«at»], read_fixed64_body), ([.seq, .kind], pack_tag_body), ([.user, .seq, .kind], make_ikey_body), ([.ik], user_of_body), ([.ik], tag_of_body), ([.self, .a, .b], Order_compare_body), ([.self], InternalOrder_init_body), ([.self, .a, .b], InternalOrder_compare_body), ([.self], Options_init_body), ([.self, .number, .size, .smallest, .largest], FileMeta_init_body), ([.self], FileMeta_row_body), ([.self], VersionEdit_init_body), ([.files, .ikey, .order], find_file_body), ([.self, .num_levels, .order], Version_init_body), ([.self, .level, .low_user, .high_user], Version_overlapping_body), ([.self, .ikey], Version_candidates_body), ([.self, .level, .low, .high], Version_overlaps_body), ([.self, .level], Version_level_octets_body), ([.self], Version_numbers_body), ([.self], Version_check_body), ([.self, .base], VersionMaker_init_body), ([.self, .level], VersionMaker_within_body), ([.self, .edit], VersionMaker_apply_body), ([.self, .level, .a, .b], VersionMaker_before_body), ([.self, .level, .files, .«meta»], VersionMaker_place_body), ([.self], VersionMaker_finish_body), ([.files], total_size_body), ([.files, .order], key_range_body), ([.self, .level, .version, .options], Compaction_init_body), ([.self], Compaction_grand_limit_body), ([.self], Compaction_trivial_body), ([.self], Compaction_add_deletions_body), ([.options, .level], max_octets_of_body), ([.version, .options], score_of_body), ([.self, .options, .order], Picker_init_body), ([.self, .version], Picker_needs_compaction_body), ([.self, .files], Picker_user_range_body), ([.self, .version, .pointers], Picker_pick_body), ([.self, .version, .pointers, .level, .low, .high], Picker_pick_range_body), ([.self, .c, .pointers], Picker_set_up_other_body), ([.nums, .i], law_draw_body), ([.place], law_user_body), ([.place, .seq], law_ikey_body), ([.files], law_rows_body), ([.files], law_octets_body), ([.nums, .count], law_lay_body), ([.files, .low, .high], law_touch_body), ([.levels, .level, .low, .high], law_joined_body), ([.files], law_span_body), ([.book, .level, .low, .high, .manual], law_plan_body), ([.found, .sort], law_told_body), ([.book, .found, .sort, .way], law_spoil_body), ([.book, .found, .sort, .want, .way], law_take_body), ([.book, .c, .plan], law_is_body), ([.book, .level, .low, .high, .manual, .way], law_pair_body), ([.book, .level, .low, .high, .way], law_lapping_body), ([.book, .way], law_numbers_body), ([.book, .t], law_ask_body), ([.script], law_body)]
noncomputable def Fn.ent (f : Fn) : List Nm × Ss := nthD ([.n], put_fixed32_body) fnTab f
noncomputable def Fn.params (f : Fn) : List Nm := f.ent.1
noncomputable def Fn.body (f : Fn) : Ss := f.ent.2
noncomputable def phi : Nat → Phi
 | 0, _, _, _, _ => False
 | k + 1, f, vs, H, Q => vs.length = f.params.length ∧ exSs (phi k) f.body (updL (fun _ => none) f.params vs) H fun o _ H' => match o with
  | .rt v => Q v H'
  | .nx => Q .none H'
  | _ => False
end RK
end
section
open PySem
namespace RK
noncomputable def Ext (H H' : AH) : Prop := ∀ b O, H b = some O → H' b = some O
theorem Ext.refl (H : AH) : Ext H H := fun _ _ e => e
theorem Ext.trans {H H' H'' : AH} (x : Ext H H') (y : Ext H' H'') : Ext H H'' := fun b O e => y b O (x b O e)
theorem Ext.set {H0 H : AH} {a : Addr} {O : AO} (x : Ext H0 H) (h : H0 a = none) : Ext H0 (H.set a O) := fun b O' e => by
 by_cases z : b = a
 ·subst z; rw [h] at e; cases e
 ·exact (if_neg z).trans (x b O' e)
theorem set_same {H : AH} {a : Addr} {O : AO} : H.set a O a = some O := if_pos rfl
theorem set_other {H : AH} {a b : Addr} {O : AO} (n : b ≠ a) : H.set a O b = H b := if_neg n
theorem Ext.none {H H' : AH} (x : Ext H H') {a : Addr} (h : H' a = Option.none) : H a = Option.none := by
 cases z : H a with
 | none => rfl
 | some O => rw [x a O z] at h; cases h
theorem ne_of {H : AH} {a b : Addr} {O : AO} (h : H a = some O) (h' : H b = Option.none) : a ≠ b := fun z => by subst z; rw [h] at h'; cases h'
noncomputable def Fld (H : AH) (a : Addr) (C : Cl) (f : Lo) : Prop := ∃ dx, H a = some (.inst C dx) ∧ H dx = some (.ns C f)
theorem Fld.ext {H H' : AH} (x : Ext H H') {a : Addr} {C : Cl} {f : Lo} (h : Fld H a C f) : Fld H' a C f := let ⟨dx, h1, h2⟩ := h; ⟨dx, x _ _ h1, x _ _ h2⟩
theorem sm {vs : List V} (h : Nat.ble vs.length 100000 = true) : smallL vs := Nat.le_of_ble_eq_true h
noncomputable def kP (Φ : Phi) (ss : Ss) (H : AH) (Q : PO) (ρ : Lo) : Prop := exSs Φ ss ρ H Q
noncomputable def repK (v w : V) (H : AH) (Q : PV) : Prop := match w with | .int k => 0 ≤ k ∧ k ≤ 1000 ∧ newA (.list (List.replicate k.toNat v)) H Q | _ => False
noncomputable def notK (v : V) (H : AH) (Q : PV) : Prop := match v with | .bool b => Q (.bool (!b)) H | _ => False
noncomputable def newK (Φ : Phi) (C : Cl) (vs : List V) (H : AH) (Q : PV) : Prop := ∀ a dx, H a = none → H dx = none → a ≠ dx → match C.init with
   | some f => Φ f (.ref a :: vs) ((H.set dx (.ns C fun _ => none)).set a (.inst C dx)) fun r H' => r = .none ∧ Q (.ref a) H'
   | none => vs = [] ∧ Q (.ref a) ((H.set dx (.ns C fun _ => none)).set a (.inst C dx))
noncomputable def methK (Φ : Phi) (m : Nm) (es : Es) (ρ : Lo) (v : V) (H : AH) (Q : PV) : Prop := match v with
   | .ref a => match H a with
    | some (.inst C dx) => match H dx with
     | some (.ns C' _) => match C.meth m with
      | some f => C' = C ∧ evEs Φ es ρ H fun vs H => Φ f (.ref a :: vs) H Q
      | none => False
     | _ => False
    | _ => False
   | _ => False
noncomputable def lmK (Φ : Phi) (m : LM) (es : Es) (ρ : Lo) (v : V) (H : AH) (Q : PV) : Prop := match v with
   | .ref l => match H l with
    | some (.list _) => evEs Φ es ρ H fun vs H => lmA m l vs H Q
    | _ => False
   | _ => False
noncomputable def boK (Φ : Phi) (c : Bool) (es : Es) (ρ : Lo) (v : V) (H : AH) (Q : PV) : Prop := match v with
   | .bool b => if b = c then evB Φ c es ρ H Q else Q (.bool b) H
   | _ => False
noncomputable def seqK (Φ : Phi) (ss : Ss) (Q : PO) : PO := fun o ρ H => match o with
  | .nx => exSs Φ ss ρ H Q
  | o => Q o ρ H
noncomputable def asgK (t : T) (v : V) (ρ : Lo) (P : Lo → Prop) : Prop := match bindT t v ρ with | some ρ' => P ρ' | none => False
noncomputable def augK (op : BOp) (a : Int) (v : V) (H : AH) (P : V → AH → Prop) : Prop := match v with | .int b => binI op a b H P | _ => False
noncomputable def iteK (v : V) (P1 P2 : Prop) : Prop := match v with | .bool true => P1 | .bool false => P2 | _ => False
noncomputable def forK (Φ : Phi) (t : T) (b : Ss) (v : V) (ρ : Lo) (H : AH) (Q : PO) : Prop := match v with
  | .ref l => match H l with
   | some (.list vs) => smallL vs ∧ forA (fun H' => H' l = some (.list vs)) t (exSs Φ b) vs ρ H Q
   | _ => False
  | .tup vs => smallL vs ∧ forA (fun _ => True) t (exSs Φ b) vs ρ H Q
  | _ => False
noncomputable def rngK (Φ : Phi) (x : Nm) (b : Ss) (vs : List V) (ρ : Lo) (H : AH) (Q : PO) : Prop := match rangeA vs with
  | some us => forA (fun _ => True) (.nm x) (exSs Φ b) us ρ H Q
  | none => False
noncomputable def compK (Φ : Phi) (elt : E) (x : Nm) (cond : Es) (ρ : Lo) (v : V) (H : AH) (Q : PV) : Prop := match v with
   | .ref l => match H l with
    | some (.list vs) => smallL vs ∧ compA (fun H' => H' l = some (.list vs))
      (fun v acc H K => evC Φ cond (upd ρ x v) H fun b H => if b then evA Φ elt (upd ρ x v) H (fun w H => smallL acc ∧ K (acc ++ [w]) H) else K acc H) vs [] H
      fun ws H => newA (.list ws) H Q
    | _ => False
   | _ => False
noncomputable def ccK (Φ : Phi) (es : Es) (ρ : Lo) (v : V) (H : AH) (K : Bool → AH → Prop) : Prop := match v with
   | .bool b => if b then evC Φ es ρ H K else K false H
   | _ => False
noncomputable def retK (Q : PV) : PO := fun o _ H' => match o with
  | .rt v => Q v H'
  | .nx => Q .none H'
  | _ => False
noncomputable abbrev kAttr (x : Nm) (Q : PV) : PV := fun v H => getA v x H Q
noncomputable abbrev kKey (x : Nm) (Q : PV) : PV := fun v H => keyA v x H Q
noncomputable abbrev k2 (Φ : Phi) (i : E) (ρ : Lo) (F : V → PV) : PV := fun v H => evA Φ i ρ H (F v)
noncomputable abbrev fIdx (Q : PV) : V → PV := fun v w H => idxA v w H Q
noncomputable abbrev fUpto (Q : PV) : V → PV := fun v w H => uptoA v w H Q
noncomputable abbrev fDrop (Q : PV) : V → PV := fun v w H => dropA v w H Q
noncomputable abbrev fBin (op : BOp) (Q : PV) : V → PV := fun v w H => binA op v w H Q
noncomputable abbrev fCmp (op : COp) (Q : PV) : V → PV := fun v w H => cmpA op v w H Q
noncomputable abbrev fRep (Q : PV) : V → PV := fun v w H => repK v w H Q
noncomputable abbrev fInn (Q : PV) : V → PV := fun v w H => innA v w H Q
noncomputable abbrev kIsN (Q : PV) : PV := fun v H => Q (.bool v.isNone) H
noncomputable abbrev kNotN (Q : PV) : PV := fun v H => Q (.bool (!v.isNone)) H
noncomputable abbrev kNot (Q : PV) : PV := fun v H => notK v H Q
abbrev PVs := List V → AH → Prop
noncomputable abbrev kList (Q : PV) : PVs := fun vs H => smallL vs ∧ newA (.list vs) H Q
noncomputable abbrev kTup (Q : PV) : PVs := fun vs H => smallL vs ∧ Q (.tup vs) H
noncomputable abbrev kSd (ks : List Nm) (Q : PV) : PVs := fun vs H => ks.length = vs.length ∧ ks.Nodup ∧ newA (.sdict (mkSd ks vs)) H Q
noncomputable abbrev kCall (Φ : Phi) (f : Fn) (Q : PV) : PVs := fun vs H => Φ f vs H Q
noncomputable abbrev kMcall (Φ : Phi) (f : Fn) (a : Addr) (Q : PV) : PVs := fun vs H => Φ f (.ref a :: vs) H Q
noncomputable abbrev kNew (Φ : Phi) (C : Cl) (Q : PV) : PVs := fun vs H => newK Φ C vs H Q
noncomputable abbrev kMeth (Φ : Phi) (m : Nm) (es : Es) (ρ : Lo) (Q : PV) : PV := fun v H => methK Φ m es ρ v H Q
noncomputable abbrev kBi (b : BI) (Q : PV) : PVs := fun vs H => biA b vs H Q
noncomputable abbrev kLm (Φ : Phi) (m : LM) (es : Es) (ρ : Lo) (Q : PV) : PV := fun v H => lmK Φ m es ρ v H Q
noncomputable abbrev kLmA (m : LM) (l : Addr) (Q : PV) : PVs := fun vs H => lmA m l vs H Q
noncomputable abbrev kC2 (v : V) (K : PVs) : PVs := fun vs H => K (v :: vs) H
noncomputable abbrev kC1 (Φ : Phi) (es : Es) (ρ : Lo) (K : PVs) : PV := fun v H => evEs Φ es ρ H (kC2 v K)
noncomputable abbrev kBo (Φ : Phi) (c : Bool) (es : Es) (ρ : Lo) (Q : PV) : PV := fun v H => boK Φ c es ρ v H Q
noncomputable abbrev kComp (Φ : Phi) (elt : E) (x : Nm) (cond : Es) (ρ : Lo) (Q : PV) : PV := fun v H => compK Φ elt x cond ρ v H Q
noncomputable abbrev kCc (Φ : Phi) (es : Es) (ρ : Lo) (K : Bool → AH → Prop) : PV := fun v H => ccK Φ es ρ v H K
noncomputable abbrev kAsgT (Φ : Phi) (ss : Ss) (xs : List Nm) (ρ : Lo) (Q : PO) : PV := fun v H => asgK (.tup xs) v ρ (kP Φ ss H Q)
noncomputable abbrev whK (Φ : Phi) (ss : Ss) (P : Lo → AH → Prop) (Q : PO) : PO := fun o ρ H => match o with
    | .nx => P ρ H
    | .ct => P ρ H
    | .br => exSs Φ ss ρ H Q
    | .rt v => Q (.rt v) ρ H
noncomputable abbrev kWh (Φ : Phi) (b ss : Ss) (P : Lo → AH → Prop) (Q : PO) (ρ : Lo) : PV := fun v H => iteK v (exSs Φ b ρ H (whK Φ ss P Q)) (exSs Φ ss ρ H Q)
noncomputable def kAsg (Φ : Phi) (ss : Ss) (x : Nm) (ρ : Lo) (Q : PO) : PV := fun v H => exSs Φ ss (upd ρ x v) H Q
noncomputable abbrev kEx (Φ : Phi) (ss : Ss) (ρ : Lo) (Q : PO) : PV := fun _ H => exSs Φ ss ρ H Q
noncomputable abbrev kIte (Φ : Phi) (a b ss : Ss) (ρ : Lo) (Q : PO) : PV := fun v H => iteK v (exSs Φ a ρ H (seqK Φ ss Q)) (exSs Φ b ρ H (seqK Φ ss Q))
noncomputable abbrev kRet (ρ : Lo) (Q : PO) : PV := fun v H => Q (.rt v) ρ H
noncomputable abbrev kH (Φ : Phi) (ss : Ss) (ρ : Lo) (Q : PO) : AH → Prop := fun H => exSs Φ ss ρ H Q
noncomputable abbrev fSet (x : Nm) (K : AH → Prop) : V → PV := fun w v H => setA v x w H K
noncomputable abbrev k3 (Φ : Phi) (o i : E) (ρ : Lo) (F : V → V → PV) : PV := fun v H => evA Φ o ρ H (k2 Φ i ρ (F v))
noncomputable abbrev fSidx (K : AH → Prop) : V → V → PV := fun w v u H => sidxA v u w H K
noncomputable abbrev kAug (op : BOp) (n : Int) (Φ : Phi) (ss : Ss) (x : Nm) (ρ : Lo) (Q : PO) : PV := fun v H => augK op n v H (kAsg Φ ss x ρ Q)
noncomputable abbrev kFor (Φ : Phi) (t : T) (b ss : Ss) (ρ : Lo) (Q : PO) : PV := fun v H => forK Φ t b v ρ H (seqK Φ ss Q)
noncomputable abbrev kForR (Φ : Phi) (x : Nm) (b ss : Ss) (ρ : Lo) (Q : PO) : PVs := fun vs H => rngK Φ x b vs ρ H (seqK Φ ss Q)
section
variable {Φ : Phi} {ρ : Lo} {H : AH} {Q : PV} {K : List V → AH → Prop} {e e' i a b : E} {es : Es} {v w : V} {x : Nm}
theorem v_none (h : Q .none H) : evA Φ .none ρ H Q := h
theorem v_bool {b : Bool} (h : Q (.bool b) H) : evA Φ (.bool b) ρ H Q := h
theorem v_int {i : Int} (h : Q (.int i) H) : evA Φ (.int i) ρ H Q := h
theorem v_neg {i : Nat} (h : Q (.int (-i)) H) : evA Φ (.neg i) ρ H Q := h
theorem v_bytes {b : List UInt8} (h : Q (.bytes b) H) : evA Φ (.bytes b) ρ H Q := h
theorem g_MAX_32 (h : Q (.int 4294967295) H) : evA Φ (.gint .MAX_32) ρ H Q := h
theorem g_MAX_64 (h : Q (.int 18446744073709551615) H) : evA Φ (.gint .MAX_64) ρ H Q := h
theorem g_KIND_VALUE (h : Q (.int 1) H) : evA Φ (.gint .KIND_VALUE) ρ H Q := h
theorem g_KIND_DELETE (h : Q (.int 0) H) : evA Φ (.gint .KIND_DELETE) ρ H Q := h
theorem g_MAX_SEQ (h : Q (.int 72057594037927935) H) : evA Φ (.gint .MAX_SEQ) ρ H Q := h
theorem g_TAG_LENGTH (h : Q (.int 8) H) : evA Φ (.gint .TAG_LENGTH) ρ H Q := h
theorem g_CHECK_CRC (h : Q (.int 1) H) : evA Φ (.gint .CHECK_CRC) ρ H Q := h
theorem g_KIND_SEEK (h : Q (.int 1) H) : evA Φ (.gint .KIND_SEEK) ρ H Q := h
theorem v_var (hv : ρ x = some v) (h : Q v H) : evA Φ (.var x) ρ H Q := by
 show (match ρ x with | some v => Q v H | none => False)
 rw [hv]; exact h
theorem v_attr (h : evA Φ e ρ H (kAttr x Q)) : evA Φ (.attr e x) ρ H Q := h
theorem v_key (h : evA Φ e ρ H (kKey x Q)) : evA Φ (.key e x) ρ H Q := h
theorem v_idx (h : evA Φ e ρ H (k2 Φ i ρ (fIdx Q))) : evA Φ (.idx e i) ρ H Q := h
theorem v_upto (h : evA Φ e ρ H (k2 Φ i ρ (fUpto Q))) : evA Φ (.upto e i) ρ H Q := h
theorem v_drop (h : evA Φ e ρ H (k2 Φ i ρ (fDrop Q))) : evA Φ (.drop e i) ρ H Q := h
theorem v_bin {op : BOp} (h : evA Φ a ρ H (k2 Φ b ρ (fBin op Q))) : evA Φ (.bin op a b) ρ H Q := h
theorem v_rep (h : evA Φ a ρ H (k2 Φ b ρ (fRep Q))) : evA Φ (.rep a b) ρ H Q := h
theorem v_cmp {op : COp} (h : evA Φ a ρ H (k2 Φ b ρ (fCmp op Q))) : evA Φ (.cmp op a b) ρ H Q := h
theorem K_isN (h : Q (.bool v.isNone) H) : kIsN Q v H := h
theorem K_notN (h : Q (.bool (!v.isNone)) H) : kNotN Q v H := h
theorem v_isN (h : evA Φ a ρ H (kIsN Q)) : evA Φ (.isN a) ρ H Q := h
theorem v_notN (h : evA Φ a ρ H (kNotN Q)) : evA Φ (.notN a) ρ H Q := h
theorem v_inn (h : evA Φ a ρ H (k2 Φ b ρ (fInn Q))) : evA Φ (.inn a b) ρ H Q := h
theorem v_not (h : evA Φ a ρ H (kNot Q)) : evA Φ (.not a) ρ H Q := h
theorem k_not {b : Bool} (h : Q (.bool (!b)) H) : notK (.bool b) H Q := h
theorem v_and (h : evB Φ true es ρ H Q) : evA Φ (.and es) ρ H Q := h
theorem v_or (h : evB Φ false es ρ H Q) : evA Φ (.or es) ρ H Q := h
theorem v_list (h : evEs Φ es ρ H (kList Q)) : evA Φ (.list es) ρ H Q := h
theorem v_tup (h : evEs Φ es ρ H (kTup Q)) : evA Φ (.tup es) ρ H Q := h
theorem v_edict (h : newA (.idict []) H Q) : evA Φ .edict ρ H Q := h
theorem v_sdict {ks : List Nm} (h : evEs Φ es ρ H (kSd ks Q)) : evA Φ (.sdict ks es) ρ H Q := h
theorem v_call {f : Fn} (h : evEs Φ es ρ H (kCall Φ f Q)) : evA Φ (.call f es) ρ H Q := h
theorem v_new {C : Cl} (h : evEs Φ es ρ H (kNew Φ C Q)) : evA Φ (.new C es) ρ H Q := h
theorem v_meth {m : Nm} (h : evA Φ e ρ H (kMeth Φ m es ρ Q)) : evA Φ (.meth e m es) ρ H Q := h
theorem k_meth {m : Nm} {a : Addr} {C : Cl} {g : Lo} {f : Fn} (hf : Fld H a C g) (hm : C.meth m = some f) (h : evEs Φ es ρ H (kMcall Φ f a Q)) : methK Φ m es ρ (.ref a) H Q := by
 obtain ⟨dx, h1, h2⟩ := hf
 unfold methK
 dsimp only
 rw [h1]; dsimp only; rw [h2]; dsimp only; rw [hm]
 exact ⟨rfl, h⟩
theorem v_bi {b : BI} (h : evEs Φ es ρ H (kBi b Q)) : evA Φ (.bi b es) ρ H Q := h
theorem v_lm {m : LM} (h : evA Φ e ρ H (kLm Φ m es ρ Q)) : evA Φ (.lm e m es) ρ H Q := h
theorem k_lm {m : LM} {l : Addr} {vs : List V} (hl : H l = some (.list vs)) (h : evEs Φ es ρ H (kLmA m l Q)) : lmK Φ m es ρ (.ref l) H Q := by
 unfold lmK; dsimp only; rw [hl]; exact h
theorem es_nil (h : K [] H) : evEs Φ .nil ρ H K := h
theorem es_cons (h : evA Φ e ρ H (kC1 Φ es ρ K)) : evEs Φ (.cons e es) ρ H K := h
theorem b_last {c : Bool} (h : evA Φ e ρ H Q) : evB Φ c (.cons e .nil) ρ H Q := h
theorem b_cons {c : Bool} (h : evA Φ e ρ H (kBo Φ c (.cons e' es) ρ Q)) : evB Φ c (.cons e (.cons e' es)) ρ H Q := h
theorem k_and_t {b : Bool} (hb : b = true) (h : evB Φ true es ρ H Q) : boK Φ true es ρ (.bool b) H Q := by subst hb; exact h
theorem k_and_f {b : Bool} (hb : b = false) (h : Q (.bool false) H) : boK Φ true es ρ (.bool b) H Q := by subst hb; exact h
theorem k_or_f {b : Bool} (hb : b = false) (h : evB Φ false es ρ H Q) : boK Φ false es ρ (.bool b) H Q := by subst hb; exact h
theorem k_or_t {b : Bool} (hb : b = true) (h : Q (.bool true) H) : boK Φ false es ρ (.bool b) H Q := by subst hb; exact h
theorem k_and {b : Bool} (h1 : b = true → evB Φ true es ρ H Q) (h2 : b = false → Q (.bool false) H) : boK Φ true es ρ (.bool b) H Q := by cases b with | true => exact h1 rfl | false => exact h2 rfl
theorem k_or {b : Bool} (h1 : b = false → evB Φ false es ρ H Q) (h2 : b = true → Q (.bool true) H) : boK Φ false es ρ (.bool b) H Q := by cases b with | false => exact h1 rfl | true => exact h2 rfl
theorem es_var (hv : ρ x = some v) (h : evEs Φ es ρ H (kC2 v K)) : evEs Φ (.cons (.var x) es) ρ H K := es_cons (v_var hv h)
theorem es_int {i : Int} (h : evEs Φ es ρ H (kC2 (.int i) K)) : evEs Φ (.cons (.int i) es) ρ H K := h
theorem va_attr {y : Nm} (hv : ρ x = some v) (h : getA v y H Q) : evA Φ (.attr (.var x) y) ρ H Q := v_attr (v_var hv h)
theorem va_meth {m : Nm} (hv : ρ x = some v) (h : methK Φ m es ρ v H Q) : evA Φ (.meth (.var x) m es) ρ H Q := v_meth (v_var hv h)
theorem va_lm {m : LM} (hv : ρ x = some v) (h : lmK Φ m es ρ v H Q) : evA Φ (.lm (.var x) m es) ρ H Q := v_lm (v_var hv h)
theorem vb_vi {op : BOp} {i : Int} (hv : ρ x = some v) (h : binA op v (.int i) H Q) : evA Φ (.bin op (.var x) (.int i)) ρ H Q := v_bin (v_var hv h)
theorem vc_vi {op : COp} {i : Int} (hv : ρ x = some v) (h : cmpA op v (.int i) H Q) : evA Φ (.cmp op (.var x) (.int i)) ρ H Q := v_cmp (v_var hv h)
theorem vi_vi {i : Int} (hv : ρ x = some v) (h : idxA v (.int i) H Q) : evA Φ (.idx (.var x) (.int i)) ρ H Q := v_idx (v_var hv h)
theorem vb_vv {op : BOp} {y : Nm} (hv : ρ x = some v) (hw : ρ y = some w) (h : binA op v w H Q) : evA Φ (.bin op (.var x) (.var y)) ρ H Q := v_bin (v_var hv (v_var hw h))
theorem vc_vv {op : COp} {y : Nm} (hv : ρ x = some v) (hw : ρ y = some w) (h : cmpA op v w H Q) : evA Φ (.cmp op (.var x) (.var y)) ρ H Q := v_cmp (v_var hv (v_var hw h))
theorem vi_vv {y : Nm} (hv : ρ x = some v) (hw : ρ y = some w) (h : idxA v w H Q) : evA Φ (.idx (.var x) (.var y)) ρ H Q := v_idx (v_var hv (v_var hw h))
theorem g_attr {a : Addr} {C : Cl} {f : Lo} (hf : Fld H a C f) (hx : f x = some w) (h : Q w H) : getA (.ref a) x H Q := by
 obtain ⟨dx, h1, h2⟩ := hf
 exact GetA.mk h1 h2 hx h
theorem g_key {a : Addr} {f : Lo} (hf : H a = some (.sdict f)) (hx : f x = some w) (h : Q w H) : keyA (.ref a) x H Q := KeyA.mk hf hx h
theorem i_list {a : Addr} {vs : List V} {i : Int} {u : V} (hl : H a = some (.list vs)) (h0 : 0 ≤ i) (h1 : i < 2 ^ 63) (hu : vs[i.toNat]? = some u) (h : Q u H) : idxA (.ref a) (.int i) H Q := IdxA.list hl h0 h1 hu h
theorem i_dict {a : Addr} {kvs : List (Int × V)} {i : Int} {u : V} (hl : H a = some (.idict kvs)) (hu : kvs.lookup i = some u) (h : Q u H) : idxA (.ref a) (.int i) H Q := IdxA.dict hl hu h
theorem i_tup {vs : List V} {i : Int} {u : V} (h0 : 0 ≤ i) (h1 : i < 2 ^ 63) (hu : vs[i.toNat]? = some u) (h : Q u H) : idxA (.tup vs) (.int i) H Q := IdxA.tup h0 h1 hu h
theorem i_bytes {b : List UInt8} {i : Int} {u : UInt8} (hz : b.length ≤ 100000) (h0 : 0 ≤ i) (h1 : i < 2 ^ 63) (hu : b[i.toNat]? = some u) (h : Q (.int u.toNat) H) : idxA (.bytes b) (.int i) H Q := IdxA.bytes hz h0 h1 hu h
theorem n_new {o : AO} (h : ∀ a H', Ext H H' → H a = none → H' a = some o → Q (.ref a) H') : newA o H Q := fun a ha => h a _ (Ext.set (.refl H) ha) ha set_same
theorem u_list {a : Addr} {vs : List V} {i : Int} (hl : H a = some (.list vs)) (h0 : 0 ≤ i) (h1 : i < 2 ^ 63) (hs : smallL vs) (h : newA (.list (vs.take i.toNat)) H Q) : uptoA (.ref a) (.int i) H Q := UptoA.list h0 h1 hl hs h
theorem u_rol {a : Addr} {vs : List V} {i : Int} (hl : H a = some (.rol vs)) (h0 : 0 ≤ i) (h1 : i < 2 ^ 63) (hs : smallL vs) (h : newA (.list (vs.take i.toNat)) H Q) : uptoA (.ref a) (.int i) H Q := UptoA.rol h0 h1 hl hs h
theorem u_bytes {b : List UInt8} {i : Int} (h0 : 0 ≤ i) (h1 : i < 2 ^ 63) (hs : b.length ≤ 100000) (h : Q (.bytes (b.take i.toNat)) H) : uptoA (.bytes b) (.int i) H Q := UptoA.bytes h0 h1 hs h
theorem d_list {a : Addr} {vs : List V} {i : Int} (hl : H a = some (.list vs)) (h0 : 0 ≤ i) (h1 : i < 2 ^ 63) (hs : smallL vs) (h : newA (.list (vs.drop i.toNat)) H Q) : dropA (.ref a) (.int i) H Q := DropA.list h0 h1 hl hs h
theorem o_add {a b : Int} (h : Q (.int (a + b)) H) : binA .add (.int a) (.int b) H Q := BinA.int h
theorem o_sub {a b : Int} (h : Q (.int (a - b)) H) : binA .sub (.int a) (.int b) H Q := BinA.int h
theorem o_mul {a b : Int} (h1 : a.natAbs < 2 ^ 64) (h2 : b.natAbs < 2 ^ 64) (h : Q (.int (a * b)) H) : binA .mul (.int a) (.int b) H Q := BinA.int ⟨h1, h2, h⟩
theorem o_fdiv {a b : Int} (h1 : 0 < b) (h2 : b < 1073741824) (h : Q (.int (a / b)) H) : binA .fdiv (.int a) (.int b) H Q := BinA.int ⟨h1, h2, h⟩
theorem o_mod {a b : Int} (h1 : 0 < b) (h : Q (.int (a % b)) H) : binA .mod (.int a) (.int b) H Q := BinA.int ⟨h1, h⟩
theorem o_band {a b : Int} (h1 : 0 ≤ a) (h2 : 0 ≤ b) (h : Q (.int ((a.toNat &&& b.toNat : Nat) : Int)) H) : binA .band (.int a) (.int b) H Q := BinA.int ⟨h1, h2, h⟩
theorem o_bor {a b : Int} (h1 : 0 ≤ a) (h2 : 0 ≤ b) (h : Q (.int ((a.toNat ||| b.toNat : Nat) : Int)) H) : binA .bor (.int a) (.int b) H Q := BinA.int ⟨h1, h2, h⟩
theorem o_shl {a b : Int} (h1 : a.natAbs < 2 ^ 64) (h2 : 0 ≤ b) (h3 : b ≤ 64) (h : Q (.int (a * 2 ^ b.toNat)) H) : binA .shl (.int a) (.int b) H Q := BinA.int ⟨h1, h2, h3, h⟩
theorem o_shr {a b : Int} (h1 : 0 ≤ a) (h2 : 0 ≤ b) (h3 : b ≤ 64) (h : Q (.int (a / 2 ^ b.toNat)) H) : binA .shr (.int a) (.int b) H Q := BinA.int ⟨h1, h2, h3, h⟩
theorem o_addB {a b : List UInt8} (h1 : a.length + b.length ≤ 100000) (h : Q (.bytes (a ++ b)) H) : binA .add (.bytes a) (.bytes b) H Q := BinA.bytes rfl h1 h
theorem o_addL {a b : Addr} {vs ws : List V} (ha : H a = some (.list vs)) (hb : H b = some (.list ws)) (h1 : smallL vs) (h2 : smallL ws) (h : newA (.list (vs ++ ws)) H Q) : binA .add (.ref a) (.ref b) H Q := BinA.list rfl ha hb h1 h2 h
theorem c_int {op : COp} {a b : Int} (h : Q (.bool (cmpI op a b)) H) : cmpA op (.int a) (.int b) H Q := CmpA.int h
theorem c_bytes {op : COp} {a b : List UInt8} (h : Q (.bool (cmpB op a b)) H) : cmpA op (.bytes a) (.bytes b) H Q := CmpA.bytes h
theorem k_rep {v : V} {k : Int} (h0 : 0 ≤ k) (h1 : k ≤ 1000) (h : newA (.list (List.replicate k.toNat v)) H Q) : repK v (.int k) H Q := ⟨h0, h1, h⟩
theorem in_dict {a : Addr} {kvs : List (Int × V)} {i : Int} (hl : H a = some (.idict kvs)) (h : Q (.bool (kvs.lookup i).isSome) H) : innA (.int i) (.ref a) H Q := InnA.mk hl h
theorem l_append {l : Addr} {xs : List V} {v : V} (hl : H l = some (.list xs)) (hs : smallL xs) (h : Q .none (H.set l (.list (xs ++ [v])))) : lmA .append l [v] H Q := LmA.append hl hs h
theorem l_pop {l : Addr} {xs : List V} {u : V} (hl : H l = some (.list xs)) (hs : smallL xs) (hu : xs.getLast? = some u) (h : Q u (H.set l (.list xs.dropLast))) : lmA .pop l [] H Q := LmA.pop hl hs hu h
theorem l_reverse {l : Addr} {xs : List V} (hl : H l = some (.list xs)) (hs : smallL xs) (h : Q .none (H.set l (.list xs.reverse))) : lmA .reverse l [] H Q := LmA.reverse hl hs h
theorem l_insert {l : Addr} {xs : List V} {i : Int} {v : V} (hl : H l = some (.list xs)) (hs : smallL xs) (h0 : 0 ≤ i) (h1 : i ≤ xs.length) (h : Q .none (H.set l (.list (xs.take i.toNat ++ v :: xs.drop i.toNat)))) : lmA .insert l [.int i, v] H Q := LmA.insert hl hs h0 h1 h
theorem bi_lenL {a : Addr} {xs : List V} (hl : H a = some (.list xs)) (hs : smallL xs) (h : Q (.int xs.length) H) : biA .len [.ref a] H Q := LenA.list hl hs h
theorem bi_lenB {b : List UInt8} (hs : b.length ≤ 100000) (h : Q (.int b.length) H) : biA .len [.bytes b] H Q := LenA.bytes hs h
theorem bi_sum {a : Addr} {xs : List V} {ns : List Int} (hl : H a = some (.list xs)) (hn : intsV xs = some ns) (h : Q (.int ns.sum) H) : biA .sum [.ref a] H Q := SumA.mk hl hn h
theorem bi_min2 {a b : Int} (h : Q (.int (if b < a then b else a)) H) : biA .min [.int a, .int b] H Q := MinA.two h
theorem bi_minL {a : Addr} {xs : List V} {ns : List Int} (hl : H a = some (.list xs)) (hn : intsV xs = some ns) (hne : ns ≠ []) (h : ∀ M, M ∈ ns → (∀ n ∈ ns, M ≤ n) → Q (.int M) H) : biA .min [.ref a] H Q := MinA.list hl hn hne h
theorem bi_maxL {a : Addr} {xs : List V} {ns : List Int} (hl : H a = some (.list xs)) (hn : intsV xs = some ns) (hne : ns ≠ []) (h : ∀ M, M ∈ ns → (∀ n ∈ ns, n ≤ M) → Q (.int M) H) : biA .max [.ref a] H Q := MaxA.list hl hn hne h
theorem bi_sortedL {a : Addr} {xs : List V} {ns : List Int} (hl : H a = some (.list xs)) (hn : intsV xs = some ns) (hs : xs.length < 64) (h : ∀ ns' : List Int, ns'.Perm ns → ns'.Pairwise (· ≤ ·) → newA (.list (ns'.map .int)) H Q) : biA .sorted [.ref a] H Q := SortedA.list hl hn hs h
theorem bi_sortedD {a : Addr} {kvs : List (Int × V)} (hl : H a = some (.idict kvs)) (hs : kvs.length < 64) (h : ∀ ns' : List Int, ns'.Perm (kvs.map (·.1)) → ns'.Pairwise (· ≤ ·) → newA (.list (ns'.map .int)) H Q) : biA .sorted [.ref a] H Q := SortedA.dict hl hs h
theorem bi_bytesB {b : List UInt8} (hs : b.length ≤ 100000) (h : Q (.bytes b) H) : biA .bytes [.bytes b] H Q := BytesA.bytes hs h
theorem bi_bytesL {a : Addr} {xs : List V} {ns : List Int} (hl : H a = some (.list xs)) (hn : intsV xs = some ns) (hs : smallL xs) (hr : ∀ n ∈ ns, 0 ≤ n ∧ n < 256) (h : Q (.bytes (ns.map fun n => n.toNat.toUInt8)) H) : biA .bytes [.ref a] H Q := BytesA.list hl hn hs hr h
theorem s_attr {a : Addr} {C : Cl} {f : Lo} {K : AH → Prop} (hf : Fld H a C f) (hx : x ∈ C.fields) (h : ∀ dx, H a = some (.inst C dx) → H dx = some (.ns C f) → K (H.set dx (.ns C (upd f x w)))) : setA (.ref a) x w H K := by
 obtain ⟨dx, h1, h2⟩ := hf
 exact SetA.mk h1 h2 hx (h dx h1 h2)
theorem s_idxL {a : Addr} {vs : List V} {i : Int} {K : AH → Prop} (hl : H a = some (.list vs)) (h0 : 0 ≤ i) (h1 : i < vs.length) (hs : smallL vs) (h : K (H.set a (.list (vs.set i.toNat w)))) : sidxA (.ref a) (.int i) w H K := SidxA.list hl h0 h1 hs h
theorem s_idxD {a : Addr} {kvs : List (Int × V)} {i : Int} {K : AH → Prop} (hl : H a = some (.idict kvs)) (hs : kvs.length ≤ 1000) (h : K (H.set a (.idict (insI i w kvs)))) : sidxA (.ref a) (.int i) w H K := SidxA.dict hl hs h
theorem q_list {neg : Bool} {v w : V} {b : Bool} (hb : eqF H 4 v w = some b) (h : Q (.bool (b != neg)) H) : EqA neg v w H Q := EqA.mk hb h
theorem c_eqR {a b : Addr} (h : EqA false (.ref a) (.ref b) H Q) : cmpA .eq (.ref a) (.ref b) H Q := CmpA.eq rfl h
theorem c_neR {a b : Addr} (h : EqA true (.ref a) (.ref b) H Q) : cmpA .ne (.ref a) (.ref b) H Q := CmpA.ne rfl h
end
section
variable {Φ : Phi} {ρ ρ' : Lo} {H : AH} {Q : PO} {e i o : E} {es : Es} {v w : V} {x : Nm} {ss a b : Ss}
theorem x_nil (h : Q .nx ρ H) : exSs Φ .nil ρ H Q := h
theorem K_nx (h : exSs Φ ss ρ H Q) : seqK Φ ss Q .nx ρ H := h
theorem K_rt (h : Q (.rt v) ρ H) : seqK Φ ss Q (.rt v) ρ H := h
theorem K_br (h : Q .br ρ H) : seqK Φ ss Q .br ρ H := h
theorem K_ct (h : Q .ct ρ H) : seqK Φ ss Q .ct ρ H := h
theorem x_asg (h : evA Φ e ρ H (kAsg Φ ss x ρ Q)) : exSs Φ (.cons (.asg (.nm x) e) ss) ρ H Q := h
theorem x_asgT {xs : List Nm} (h : evA Φ e ρ H (kAsgT Φ ss xs ρ Q)) : exSs Φ (.cons (.asg (.tup xs) e) ss) ρ H Q := by
 have e1 : kAsgT Φ ss xs ρ Q = fun v H => match bindT (.tup xs) v ρ with | some ρ' => (fun o ρ H => match o with | .nx => exSs Φ ss ρ H Q | o => Q o ρ H : PO) .nx ρ' H | none => False := by
  funext v H; unfold kAsgT asgK; rfl
 rw [e1] at h; exact h
theorem K_asg (h : let ρ' := upd ρ x v; exSs Φ ss ρ' H Q) : kAsg Φ ss x ρ Q v H := h
theorem K_P (h : let ρ' := ρ; exSs Φ ss ρ' H Q) : kP Φ ss H Q ρ := h
theorem k_asgT {xs : List Nm} {vs : List V} {P : Lo → Prop} (hl : vs.length = xs.length) (h : P (updL ρ xs vs)) : asgK (.tup xs) (.tup vs) ρ P := by
 unfold asgK bindT; simp only [hl, if_true]; exact h
theorem x_sattr (h : evA Φ e ρ H (k2 Φ o ρ (fSet x (kH Φ ss ρ Q)))) : exSs Φ (.cons (.sattr o x e) ss) ρ H Q := h
theorem x_sidx (h : evA Φ e ρ H (k3 Φ o i ρ (fSidx (kH Φ ss ρ Q)))) : exSs Φ (.cons (.sidx o i e) ss) ρ H Q := h
theorem x_aug_ {op : BOp} {n : Int} (hx : ρ x = some (.int n)) (h : evA Φ e ρ H fun v H => augK op n v H fun w H => exSs Φ ss (upd ρ x w) H Q) : exSs Φ (.cons (.aug x op e) ss) ρ H Q := by
 show (match ρ x with
  | some (.int a) => evA Φ e ρ H fun v H => match v with | .int b => binI op a b H (fun w H => seqK Φ ss Q .nx (upd ρ x w) H) | _ => False
  | _ => False)
 rw [hx]; exact h
theorem x_aug {op : BOp} {n : Int} (hx : ρ x = some (.int n)) (h : evA Φ e ρ H (kAug op n Φ ss x ρ Q)) : exSs Φ (.cons (.aug x op e) ss) ρ H Q := x_aug_ hx h
theorem a_add {a b : Int} {P : V → AH → Prop} (h : P (.int (a + b)) H) : augK .add a (.int b) H P := h
theorem a_sub {a b : Int} {P : V → AH → Prop} (h : P (.int (a - b)) H) : augK .sub a (.int b) H P := h
theorem a_mul {a b : Int} {P : V → AH → Prop} (h1 : a.natAbs < 2 ^ 64) (h2 : b.natAbs < 2 ^ 64) (h : P (.int (a * b)) H) : augK .mul a (.int b) H P := ⟨h1, h2, h⟩
theorem x_ex (h : evA Φ e ρ H (kEx Φ ss ρ Q)) : exSs Φ (.cons (.ex e) ss) ρ H Q := h
theorem x_ite (h : evA Φ e ρ H (kIte Φ a b ss ρ Q)) : exSs Φ (.cons (.ite e a b) ss) ρ H Q := h
theorem k_t {b : Bool} {P1 P2 : Prop} (hb : b = true) (h : P1) : iteK (.bool b) P1 P2 := by subst hb; exact h
theorem k_f {b : Bool} {P1 P2 : Prop} (hb : b = false) (h : P2) : iteK (.bool b) P1 P2 := by subst hb; exact h
theorem k_ite {b : Bool} {P1 P2 : Prop} (h1 : b = true → P1) (h2 : b = false → P2) : iteK (.bool b) P1 P2 := by cases b with | true => exact h1 rfl | false => exact h2 rfl
theorem x_ret (h : evA Φ e ρ H (kRet ρ Q)) : exSs Φ (.cons (.ret e) ss) ρ H Q := h
theorem x_ret0 (h : Q (.rt .none) ρ H) : exSs Φ (.cons .ret0 ss) ρ H Q := h
theorem x_cont (h : Q .ct ρ H) : exSs Φ (.cons .cont ss) ρ H Q := h
theorem x_brk (h : Q .br ρ H) : exSs Φ (.cons .brk ss) ρ H Q := h
theorem x_while (h : ∀ P : Lo → AH → Prop, (∀ ρ H, evA Φ e ρ H (kWh Φ b ss P Q ρ) → P ρ H) → P ρ H) : exSs Φ (.cons (.while e b) ss) ρ H Q := by
 intro P hP
 refine h P fun ρ H q => hP ρ H ?_
 exact q
theorem x_for {t : T} (h : evA Φ e ρ H (kFor Φ t b ss ρ Q)) : exSs Φ (.cons (.for t e b) ss) ρ H Q := h
theorem f_list {t : T} {l : Addr} {vs : List V} (hl : H l = some (.list vs)) (hs : smallL vs) (h : forA (fun H' => H' l = some (.list vs)) t (exSs Φ b) vs ρ H Q) : forK Φ t b (.ref l) ρ H Q := by
 unfold forK; dsimp only; rw [hl]; exact ⟨hs, h⟩
theorem f_tup {t : T} {vs : List V} (hs : smallL vs) (h : forA (fun _ => True) t (exSs Φ b) vs ρ H Q) : forK Φ t b (.tup vs) ρ H Q := ⟨hs, h⟩
theorem x_forR (h : evEs Φ es ρ H (kForR Φ x b ss ρ Q)) : exSs Φ (.cons (.forR x es b) ss) ρ H Q := h
theorem r_one {n : Int} (h0 : -2 ^ 31 < n) (h1 : n < 2 ^ 31) (h : forA (fun _ => True) (.nm x) (exSs Φ b) (rangeV 0 n) ρ H Q) : rngK Φ x b [.int n] ρ H Q := by
 unfold rngK rangeA; dsimp only; rw [if_pos ⟨h0, h1⟩]; exact h
theorem r_two {n m : Int} (h : -2 ^ 31 < n ∧ n < 2 ^ 31 ∧ -2 ^ 31 < m ∧ m < 2 ^ 31) (hh : forA (fun _ => True) (.nm x) (exSs Φ b) (rangeV n m) ρ H Q) : rngK Φ x b [.int n, .int m] ρ H Q := by
 unfold rngK rangeA; dsimp only; rw [if_pos h]; exact hh
theorem r_down {n : Int} (h0 : -2 ≤ n) (h1 : n < 2 ^ 31) (h : forA (fun _ => True) (.nm x) (exSs Φ b) (downV n) ρ H Q) : rngK Φ x b [.int n, .int (-1), .int (-1)] ρ H Q := by
 have e : rangeA [.int n, .int (-1), .int (-1)] = some (downV n) := by
  show (if ((-1 : Int) = -1 ∧ (-1 : Int) = -1) ∧ -2 ≤ n ∧ n < 2 ^ 31 then some (downV n) else none) = _
  rw [if_pos ⟨⟨rfl, rfl⟩, h0, h1⟩]
 unfold rngK; rw [e]; exact h
theorem forA_inv {keep : AH → Prop} {t : T} {body : Lo → AH → PO → Prop} (I : List V → Lo → AH → Prop)
  (step : ∀ v rest ρ H, I (v :: rest) ρ H → ∀ R : PO, (∀ ρ' H', keep H' → I rest ρ' H' → R .nx ρ' H') → (∀ ρ' H', keep H' → I rest ρ' H' → R .ct ρ' H') → (∀ ρ' H', Q .nx ρ' H' → R .br ρ' H') → (∀ v ρ' H', Q (.rt v) ρ' H' → R (.rt v) ρ' H') → asgK t v ρ fun ρ' => body ρ' H R)
  (done : ∀ ρ H, I [] ρ H → Q .nx ρ H) : ∀ (vs : List V) (ρ : Lo) (H : AH), I vs ρ H → forA keep t body vs ρ H Q
 | [], ρ, H, h => done ρ H h
 | v :: vs, ρ, H, h => by
  have := step v vs ρ H h (fun o ρ H => match o with
   | .nx => keep H ∧ forA keep t body vs ρ H Q
   | .ct => keep H ∧ forA keep t body vs ρ H Q
   | .br => Q .nx ρ H
   | .rt v => Q (.rt v) ρ H) (fun ρ' H' k i => ⟨k, forA_inv I step done vs ρ' H' i⟩) (fun ρ' H' k i => ⟨k, forA_inv I step done vs ρ' H' i⟩) (fun _ _ q => q) (fun _ _ _ q => q)
  exact this
theorem compA_inv {keep : AH → Prop} {st : V → List V → AH → (List V → AH → Prop) → Prop} (I : List V → List V → AH → Prop) {K : List V → AH → Prop}
  (step : ∀ v rest acc H, I (v :: rest) acc H → ∀ R : List V → AH → Prop, (∀ acc' H', keep H' → I rest acc' H' → R acc' H') → st v acc H R)
  (done : ∀ acc H, I [] acc H → K acc H) : ∀ (vs acc : List V) (H : AH), I vs acc H → compA keep st vs acc H K
 | [], acc, H, h => done acc H h
 | v :: vs, acc, H, h => step v vs acc H h _ fun acc' H' k i => ⟨k, compA_inv I step done vs acc' H' i⟩
theorem v_comp {elt src : E} {cond : Es} {Q : PV} (h : evA Φ src ρ H (kComp Φ elt x cond ρ Q)) : evA Φ (.comp elt x src cond) ρ H Q := h
theorem k_comp {elt : E} {cond : Es} {Q : PV} {l : Addr} {vs : List V} (hl : H l = some (.list vs)) (hs : smallL vs) (h : compA (fun H' => H' l = some (.list vs))
      (fun v acc H K => evC Φ cond (upd ρ x v) H fun b H => if b then evA Φ elt (upd ρ x v) H (fun w H => smallL acc ∧ K (acc ++ [w]) H) else K acc H) vs [] H
      fun ws H => newA (.list ws) H Q) : compK Φ elt x cond ρ (.ref l) H Q := by
 unfold compK; dsimp only; rw [hl]; exact ⟨hs, h⟩
theorem cc_nil {K : Bool → AH → Prop} (h : K true H) : evC Φ .nil ρ H K := h
theorem cc_cons {K : Bool → AH → Prop} (h : evA Φ e ρ H (kCc Φ es ρ K)) : evC Φ (.cons e es) ρ H K := h
theorem k_cc {b : Bool} {K : Bool → AH → Prop} (h1 : b = true → evC Φ es ρ H K) (h2 : b = false → K false H) : ccK Φ es ρ (.bool b) H K := by
 cases b with
 | true => exact h1 rfl
 | false => exact h2 rfl
theorem R_rt {Q : PV} (h : Q v H) : retK Q (.rt v) ρ H := h
theorem R_nx {Q : PV} (h : Q .none H) : retK Q .nx ρ H := h
theorem phi_call {k : Nat} {f : Fn} {vs : List V} {Q : PV} {body : Ss} {ps : List Nm} (hb : f.ent = (ps, body)) (hl : vs.length = ps.length) (h : let ρ := updL (fun _ => none) ps vs; exSs (phi k) body ρ H (retK Q)) : phi (k + 1) f vs H Q := by
 have e1 : f.params = ps := congrArg Prod.fst hb
 have e2 : f.body = body := congrArg Prod.snd hb
 subst e1 e2; exact ⟨hl, h⟩
end
theorem ci_lt_t {a b : Int} : cmpI .lt a b = true ↔ a < b := by unfold cmpI; simp
theorem ci_lt_f {a b : Int} : cmpI .lt a b = false ↔ b ≤ a := by unfold cmpI; simp
theorem ci_le_t {a b : Int} : cmpI .le a b = true ↔ a ≤ b := by unfold cmpI; simp
theorem ci_le_f {a b : Int} : cmpI .le a b = false ↔ b < a := by unfold cmpI; simp
theorem ci_gt_t {a b : Int} : cmpI .gt a b = true ↔ b < a := by unfold cmpI; simp
theorem ci_gt_f {a b : Int} : cmpI .gt a b = false ↔ a ≤ b := by unfold cmpI; simp
theorem ci_ge_t {a b : Int} : cmpI .ge a b = true ↔ b ≤ a := by unfold cmpI; simp
theorem ci_ge_f {a b : Int} : cmpI .ge a b = false ↔ a < b := by unfold cmpI; simp
theorem ci_eq_t {a b : Int} : cmpI .eq a b = true ↔ a = b := by unfold cmpI; simp
theorem ci_eq_f {a b : Int} : cmpI .eq a b = false ↔ a ≠ b := by unfold cmpI; simp
theorem ci_ne_t {a b : Int} : cmpI .ne a b = true ↔ a ≠ b := by unfold cmpI; simp
theorem ci_ne_f {a b : Int} : cmpI .ne a b = false ↔ a = b := by unfold cmpI; simp
end RK
namespace RK
set_option hygiene false in
local macro_rules | `(tactic| walk_at "s1") => do
 let r (s : String) := (s.splitOn " ").toArray.mapM fun s => `(Lean.Parser.Tactic.tacticSeq| refine $(Lean.mkIdent (.mkSimple s)) ?_)
 let v (s : String) := (s.splitOn " ").toArray.mapM fun s => `(Lean.Parser.Tactic.tacticSeq| refine $(Lean.mkIdent (.mkSimple s)) (by with_unfolding_all first | exact rfl | assumption) ?_)
 let w (s : String) := (s.splitOn " ").toArray.mapM fun s => `(Lean.Parser.Tactic.tacticSeq| refine $(Lean.mkIdent (.mkSimple s)) (by with_unfolding_all first | exact rfl | assumption) (by with_unfolding_all first | exact rfl | assumption) ?_)
 let a1 ← v "v_var va_attr va_meth va_lm vb_vi vc_vi vi_vi"
 let a2 ← w "vb_vv vc_vv vi_vv"
 let a3 ← r "v_int v_attr v_cmp v_bin v_idx v_call v_meth v_bi v_lm v_new v_key v_none v_bool v_neg v_bytes g_MAX_32 g_MAX_64 g_KIND_VALUE g_KIND_DELETE g_MAX_SEQ g_TAG_LENGTH g_CHECK_CRC g_KIND_SEEK v_upto v_drop v_rep v_isN v_notN v_inn v_not v_and v_or v_list v_tup v_edict v_sdict v_comp"
 let e1 ← v "es_var"
 let e2 ← r "es_nil es_int es_cons"
 let x1 ← r "x_asg x_ite x_nil x_ret x_ex x_for x_sattr x_sidx x_asgT x_ret0 x_cont x_brk x_forR"
 let x2 ← v "x_aug"
 let k ← r "K_nx K_rt R_rt K_ct K_br R_nx c_int c_bytes o_add o_sub b_cons b_last cc_nil cc_cons k_not a_add a_sub"
 `(tactic| with_reducible first
  | ((fail_if_success (fail_if_success (show evA _ _ _ _ _))); first $[| $a1]* $[| $a2]* $[| $a3]*)
  | ((fail_if_success (fail_if_success (show evEs _ _ _ _ _))); first $[| $e1]* $[| $e2]*)
  | ((fail_if_success (fail_if_success (show exSs _ _ _ _ _))); first $[| $x1]* $[| $x2]*)
  | (refine K_asg ?_; intro ρρ) $[| $k]* | (refine K_P ?_; intro ρρ))
local macro_rules | `(tactic| walk_at "s") => `(tactic| repeat walk_at "s1")
local macro_rules | `(tactic| walk_at "m") => do
 let ts ← ("iIN iA iB iGP iCP iDL iAL".splitOn " ").toArray.mapM fun s => `(Lean.Parser.Tactic.tacticSeq| exact $(Lean.mkIdent (.str `RK.W7 s)))
 `(tactic| first $[| $ts]*)
local macro_rules | `(tactic| walk_at "c") => do
 let ts ← ("lt_t lt_f le_t le_f gt_t gt_f ge_t ge_f eq_t eq_f ne_t ne_f".splitOn " ").toArray.mapM fun s => `(Lean.Parser.Tactic.tacticSeq| refine $(Lean.mkIdent (.str (.mkSimple ("ci_" ++ s)) "mpr")) ?_)
 `(tactic| ((first $[| $ts]*); omega))
noncomputable def C_user_of (Φ : Phi) : Prop := ∀ (b : List UInt8) (H : AH) (Q : PV), 8 ≤ b.length → b.length ≤ 100000 → Q (.bytes (b.take (b.length - 8))) H → Φ .user_of [.bytes b] H Q
theorem c_user_of (k : Nat) : C_user_of (phi (k + 1)) := by
 intro b H Q h1 h2 h
 refine phi_call (body := user_of_body) rfl rfl ?_; intro ρ0
 walk_at "s"
 refine bi_lenB h2 ?_
 walk_at "s"
 refine k_f (by walk_at "c") ?_
 walk_at "s"
 refine bi_lenB h2 ?_
 walk_at "s"
 refine u_bytes (by omega) (by omega) h2 ?_
 walk_at "s"
 refine bi_bytesB (by rw [List.length_take]; exact Nat.le_trans (Nat.min_le_right _ _) h2) ?_
 walk_at "s"
 have e : ((b.length : Int) - 8).toNat = b.length - 8 := Int.toNat_sub b.length 8
 rw [e]; exact h
noncomputable def r32 (t0 t1 t2 t3 : UInt8) : Nat := ((t0.toNat ||| t1.toNat * 2 ^ 8) ||| t2.toNat * 2 ^ 16) ||| t3.toNat * 2 ^ 24
theorem r32_lt (t0 t1 t2 t3 : UInt8) : r32 t0 t1 t2 t3 < 2 ^ 32 := by
 have h0 := t0.toNat_lt
 have h1 := t1.toNat_lt
 have h2 := t2.toNat_lt
 have h3 := t3.toNat_lt
 unfold r32
 refine Nat.or_lt_two_pow (Nat.or_lt_two_pow (Nat.or_lt_two_pow ?_ ?_) ?_) ?_ <;> omega
noncomputable def C_read32 (Φ : Phi) : Prop := ∀ (b : List UInt8) (n : Nat) (t0 t1 t2 t3 : UInt8) (H : AH) (Q : PV), b.length ≤ 100000 → n + 4 ≤ b.length → b[n]? = some t0 → b[n + 1]? = some t1 → b[n + 2]? = some t2 → b[n + 3]? = some t3 →
 Q (.int (r32 t0 t1 t2 t3)) H → Φ .read_fixed32 [.bytes b, .int n] H Q
theorem c_read32 (k : Nat) : C_read32 (phi (k + 1)) := by
 intro b n t0 t1 t2 t3 H Q hz hn e0 e1 e2 e3 h
 have b1 := t1.toNat_lt
 have b2 := t2.toNat_lt
 have b3 := t3.toNat_lt
 refine phi_call (body := read_fixed32_body) rfl rfl ?_; intro ρ0
 walk_at "s"
 refine k_or_f (by walk_at "c") ?_
 walk_at "s"
 refine bi_lenB hz ?_
 walk_at "s"
 refine k_f (by walk_at "c") ?_
 walk_at "s"
 refine i_bytes (u := t0) hz (by omega) (by omega) (by simpa using e0) ?_
 walk_at "s"
 refine i_bytes (u := t1) hz (by omega) (by omega) (by rw [show ((n : Int) + 1).toNat = n + 1 from by omega]; exact e1) ?_
 walk_at "s"
 refine o_shl (by omega) (by decide) (by decide) ?_
 refine o_bor (by omega) (Int.mul_nonneg (by omega) (by decide)) ?_
 walk_at "s"
 refine i_bytes (u := t2) hz (by omega) (by omega) (by rw [show ((n : Int) + 2).toNat = n + 2 from by omega]; exact e2) ?_
 walk_at "s"
 refine o_shl (by omega) (by decide) (by decide) ?_
 refine o_bor (by omega) (Int.mul_nonneg (by omega) (by decide)) ?_
 walk_at "s"
 refine i_bytes (u := t3) hz (by omega) (by omega) (by rw [show ((n : Int) + 3).toNat = n + 3 from by omega]; exact e3) ?_
 walk_at "s"
 refine o_shl (by omega) (by decide) (by decide) ?_
 refine o_bor (by omega) (Int.mul_nonneg (by omega) (by decide)) ?_
 walk_at "s"
 exact h
noncomputable def t64 (t0 t1 t2 t3 t4 t5 t6 t7 : UInt8) : Nat := r32 t0 t1 t2 t3 ||| r32 t4 t5 t6 t7 * 2 ^ 32
noncomputable def C_tag_of (Φ : Phi) : Prop := ∀ (u : List UInt8) (t0 t1 t2 t3 t4 t5 t6 t7 : UInt8) (H : AH) (Q : PV), u.length ≤ 1000 → Q (.int (t64 t0 t1 t2 t3 t4 t5 t6 t7)) H → Φ .tag_of [.bytes (u ++ [t0, t1, t2, t3, t4, t5, t6, t7])] H Q
theorem c_tag_of (k : Nat) : C_tag_of (phi (k + 3)) := by
 intro u t0 t1 t2 t3 t4 t5 t6 t7 H Q hz h
 have hlen : (u ++ [t0, t1, t2, t3, t4, t5, t6, t7]).length = u.length + 8 := by simp
 refine phi_call (body := tag_of_body) rfl rfl ?_; intro ρ0
 walk_at "s"
 refine bi_lenB (by omega) ?_
 walk_at "s"
 refine k_f (by rw [hlen]; walk_at "c") ?_
 walk_at "s"
 refine bi_lenB (by omega) ?_
 walk_at "s"
 have e : (((u ++ [t0, t1, t2, t3, t4, t5, t6, t7]).length : Int) - 8) = (u.length : Int) := by rw [hlen]; omega
 rw [e]
 refine phi_call (body := read_fixed64_body) rfl rfl ?_; intro ρ0
 walk_at "s"
 refine k_or_f (by walk_at "c") ?_
 walk_at "s"
 refine bi_lenB (by omega) ?_
 walk_at "s"
 refine k_f (by rw [hlen]; walk_at "c") ?_
 walk_at "s"
 have g : ∀ (j : Nat) (x : UInt8), [t0, t1, t2, t3, t4, t5, t6, t7][j]? = some x → (u ++ [t0, t1, t2, t3, t4, t5, t6, t7])[u.length + j]? = some x := fun j x hx => by
  rw [List.getElem?_append_right (by omega), Nat.add_sub_cancel_left]; exact hx
 have b4 := r32_lt t4 t5 t6 t7
 refine c_read32 k _ u.length t0 t1 t2 t3 H _ (by omega) (by omega) (g 0 _ rfl) (g 1 _ rfl) (g 2 _ rfl) (g 3 _ rfl) ?_
 walk_at "s"
 rw [show ((u.length : Int) + 4) = ((u.length + 4 : Nat) : Int) from by omega]
 refine c_read32 k _ (u.length + 4) t4 t5 t6 t7 H _ (by omega) (by omega) (g 4 _ rfl) (g 5 _ rfl) (g 6 _ rfl) (g 7 _ rfl) ?_
 walk_at "s"
 refine o_shl (by omega) (by decide) (by decide) ?_
 refine o_bor (by omega) (Int.mul_nonneg (by omega) (by decide)) ?_
 walk_at "s"
 exact h
noncomputable def ucmp (a b : List UInt8) : Int := if bLt a b then -1 else if bLt b a then 1 else 0
noncomputable def C_ucmp (Φ : Phi) : Prop := ∀ (o : V) (a b : List UInt8) (H : AH) (Q : PV), Q (.int (ucmp a b)) H → Φ .Order_compare [o, .bytes a, .bytes b] H Q
theorem c_ucmp (k : Nat) : C_ucmp (phi (k + 1)) := by
 intro o a b H Q h
 refine phi_call (body := Order_compare_body) rfl rfl ?_; intro ρ0
 unfold ucmp at h
 walk_at "s"
 refine k_ite (fun c => ?_) (fun c => ?_)
 ·walk_at "s"
  rw [if_pos (by simpa [cmpB] using c)] at h
  exact h
 ·walk_at "s"
  rw [if_neg (by simpa [cmpB] using c)] at h
  refine k_ite (fun c => ?_) (fun c => ?_)
  ·walk_at "s"
   rw [if_pos (by simpa [cmpB] using c)] at h
   exact h
  ·walk_at "s"
   rw [if_neg (by simpa [cmpB] using c)] at h
   exact h
structure Tg where (t0 t1 t2 t3 t4 t5 t6 t7 : UInt8)
noncomputable def Tg.l (t : Tg) : List UInt8 := [t.t0, t.t1, t.t2, t.t3, t.t4, t.t5, t.t6, t.t7]
noncomputable def Tg.v (t : Tg) : Nat := t64 t.t0 t.t1 t.t2 t.t3 t.t4 t.t5 t.t6 t.t7
noncomputable def icmp (u : List UInt8) (t : Tg) (u' : List UInt8) (t' : Tg) : Int := if ucmp u u' ≠ 0 then ucmp u u' else if t'.v < t.v then -1 else if t.v < t'.v then 1 else 0
noncomputable def OrdAt (H : AH) (o : Addr) : Prop := ∃ g u gu, Fld H o .InternalOrder g ∧ g .user_order = some (.ref u) ∧ Fld H u .BytesOrder gu
theorem OrdAt.ext {H H' : AH} (x : Ext H H') {o : Addr} (h : OrdAt H o) : OrdAt H' o := let ⟨g, u, gu, h1, h2, h3⟩ := h; ⟨g, u, gu, h1.ext x, h2, h3.ext x⟩
noncomputable def C_user (Φ : Phi) : Prop := ∀ (u : List UInt8) (t : Tg) (H : AH) (Q : PV), u.length ≤ 1000 → Q (.bytes u) H → Φ .user_of [.bytes (u ++ t.l)] H Q
theorem c_user (k : Nat) : C_user (phi (k + 1)) := by
 intro u t H Q hz h
 have e : (u ++ t.l).length = u.length + 8 := by simp [Tg.l]
 refine c_user_of k _ H Q (by omega) (by omega) ?_
 rw [e, Nat.add_sub_cancel, List.take_left]; exact h
noncomputable def C_tag (Φ : Phi) : Prop := ∀ (u : List UInt8) (t : Tg) (H : AH) (Q : PV), u.length ≤ 1000 → Q (.int t.v) H → Φ .tag_of [.bytes (u ++ t.l)] H Q
theorem c_tag (k : Nat) : C_tag (phi (k + 3)) := fun u t H Q hz h => c_tag_of k u _ _ _ _ _ _ _ _ H Q hz h
noncomputable def C_icmp (Φ : Phi) : Prop := ∀ (o : Addr) (u : List UInt8) (t : Tg) (u' : List UInt8) (t' : Tg) (H : AH) (Q : PV), OrdAt H o → u.length ≤ 1000 → u'.length ≤ 1000 → Q (.int (icmp u t u' t')) H → Φ .InternalOrder_compare [.ref o, .bytes (u ++ t.l), .bytes (u' ++ t'.l)] H Q
theorem c_icmp (k : Nat) : C_icmp (phi (k + 4)) := by
 intro o u t u' t' H Q ho hz hz' h
 obtain ⟨g, uo, gu, h1, h2, h3⟩ := ho
 refine phi_call (body := InternalOrder_compare_body) rfl rfl ?_; intro ρ0
 have U : C_user (phi (k + 3)) := c_user (k + 2)
 have T : C_tag (phi (k + 3)) := c_tag k
 have O : C_ucmp (phi (k + 3)) := c_ucmp (k + 2)
 generalize phi (k + 3) = Φ at U T O ⊢
 unfold icmp at h
 walk_at "s"
 refine g_attr h1 h2 ?_
 walk_at "s"
 refine k_meth h3 rfl ?_
 walk_at "s"
 refine U _ _ _ _ hz ?_
 walk_at "s"
 refine U _ _ _ _ hz' ?_
 walk_at "s"
 refine O _ _ _ _ _ ?_
 walk_at "s"
 refine k_ite (fun c => ?_) (fun c => ?_)
 ·replace c := ci_ne_t.mp c
  rw [if_pos c] at h
  walk_at "s"
  exact h
 ·replace c := ci_ne_f.mp c
  rw [if_neg (by simpa using c)] at h
  walk_at "s"
  refine T _ _ _ _ hz ?_
  walk_at "s"
  refine T _ _ _ _ hz' ?_
  walk_at "s"
  refine k_ite (fun c => ?_) (fun c => ?_)
  ·replace c := ci_gt_t.mp c
   rw [if_pos (by omega)] at h
   walk_at "s"
   exact h
  ·replace c := ci_gt_f.mp c
   rw [if_neg (by omega)] at h
   walk_at "s"
   refine k_ite (fun c => ?_) (fun c => ?_)
   ·replace c := ci_lt_t.mp c
    rw [if_pos (by omega)] at h
    walk_at "s"
    exact h
   ·replace c := ci_lt_f.mp c
    rw [if_neg (by omega)] at h
    walk_at "s"
    exact h
noncomputable def seekT : Tg := ⟨1, 255, 255, 255, 255, 255, 255, 255⟩
noncomputable def C_put32 (Φ : Phi) : Prop := ∀ (n : Int) (H : AH) (Q : PV), 0 ≤ n → n ≤ 4294967295 →
 (∀ H', Ext H H' → Q (.bytes ([((n.toNat &&& (255 : Int).toNat : Nat) : Int), (((n / 2 ^ (8 : Int).toNat).toNat &&& (255 : Int).toNat : Nat) : Int), (((n / 2 ^ (16 : Int).toNat).toNat &&& (255 : Int).toNat : Nat) : Int), n / 2 ^ (24 : Int).toNat].map fun n => n.toNat.toUInt8)) H') → Φ .put_fixed32 [.int n] H Q
theorem and255 (x : Nat) : x &&& 255 < 256 := Nat.lt_of_le_of_lt Nat.and_le_right (by decide)
theorem c_put32 (k : Nat) : C_put32 (phi (k + 1)) := by
 intro n H Q h0 h1 h
 refine phi_call (body := put_fixed32_body) rfl rfl ?_; intro ρ0
 generalize phi k = Φ
 walk_at "s"
 refine k_or_f (by walk_at "c") ?_
 walk_at "s"
 refine k_f (by walk_at "c") ?_
 walk_at "s"
 refine o_band (by omega) (by omega) ?_
 walk_at "s"
 refine o_shr (by omega) (by omega) (by omega) ?_
 have p8 : 0 ≤ n / 2 ^ (8 : Int).toNat := Int.ediv_nonneg h0 (by decide)
 have p16 : 0 ≤ n / 2 ^ (16 : Int).toNat := Int.ediv_nonneg h0 (by decide)
 have p24 : 0 ≤ n / 2 ^ (24 : Int).toNat := Int.ediv_nonneg h0 (by decide)
 have q24 : n / 2 ^ (24 : Int).toNat < 256 := by show n / 16777216 < 256; omega
 walk_at "s"
 refine o_band (by omega) (by omega) ?_
 walk_at "s"
 refine o_shr (by omega) (by omega) (by omega) ?_
 walk_at "s"
 refine o_band (by omega) (by omega) ?_
 walk_at "s"
 refine o_shr (by omega) (by omega) (by omega) ?_
 walk_at "s"
 refine ⟨sm rfl, n_new fun a H' x ha hl => ?_⟩
 walk_at "s"
 refine bi_bytesL hl rfl (sm rfl) ?_ ?_
 ·intro m hm
  have z1 := and255 n.toNat
  have z2 := and255 (n / 2 ^ (8 : Int).toNat).toNat
  have z3 := and255 (n / 2 ^ (16 : Int).toNat).toNat
  rcases List.mem_cons.mp hm with rfl | hm
  ·exact ⟨by omega, by exact Int.ofNat_lt.mpr z1⟩
  rcases List.mem_cons.mp hm with rfl | hm
  ·exact ⟨by omega, by exact Int.ofNat_lt.mpr z2⟩
  rcases List.mem_cons.mp hm with rfl | hm
  ·exact ⟨by omega, by exact Int.ofNat_lt.mpr z3⟩
  rcases List.mem_cons.mp hm with rfl | hm
  ·exact ⟨p24, q24⟩
  cases hm
 ·walk_at "s"
  exact h H' x
noncomputable def C_seek (Φ : Phi) : Prop := ∀ (u : List UInt8) (H : AH) (Q : PV), u.length ≤ 1000 → (∀ H', Ext H H' → Q (.bytes (u ++ seekT.l)) H') → Φ .make_ikey [.bytes u, .int 72057594037927935, .int 1] H Q
theorem c_seek (k : Nat) : C_seek (phi (k + 3)) := by
 intro u H Q hz h
 refine phi_call (body := make_ikey_body) rfl rfl ?_; intro ρ0
 walk_at "s"
 refine bi_bytesB (by omega) ?_
 walk_at "s"
 refine phi_call (body := pack_tag_body) rfl rfl ?_; intro ρ0
 walk_at "s"
 refine k_or_f (by decide) ?_
 walk_at "s"
 refine k_f (by decide) ?_
 walk_at "s"
 refine k_and_t (by decide) ?_
 walk_at "s"
 refine k_f (by decide) ?_
 walk_at "s"
 refine o_shl (by decide) (by decide) (by decide) ?_
 walk_at "s"
 refine o_bor (by decide) (by decide) ?_
 walk_at "s"
 refine phi_call (body := put_fixed64_body) rfl rfl ?_; intro ρ0
 walk_at "s"
 refine k_or_f (by decide) ?_
 walk_at "s"
 refine k_f (by decide) ?_
 walk_at "s"
 refine o_band (by decide) (by decide) ?_
 walk_at "s"
 refine c_put32 k _ _ _ (by decide) (by decide) fun H1 x1 => ?_
 walk_at "s"
 refine o_shr (by decide) (by decide) (by decide) ?_
 walk_at "s"
 refine c_put32 k _ _ _ (by decide) (by decide) fun H2 x2 => ?_
 refine o_addB (by decide) ?_
 walk_at "s"
 refine o_addB (by rw [List.length_append]; simp only [List.length_map, List.length_cons, List.length_nil]; omega) ?_
 walk_at "s"
 refine (congrArg (fun z => Q (.bytes (u ++ z)) H2) (?_ : _ = seekT.l)).mpr (h H2 (x1.trans x2))
 decide
structure Fi where (n s lo hi : Int)
noncomputable def Fi.ok (f : Fi) : Prop := 0 ≤ f.lo ∧ f.lo ≤ f.hi ∧ f.hi ≤ 7
noncomputable def tch (lo hi : Int) (f : Fi) : Bool := (decide (lo = 8) || decide (lo ≤ f.hi)) && (decide (hi = 8) || decide (f.lo ≤ hi))
noncomputable def con (lo hi : Int) (f : Fi) : Bool := (decide (lo = 8) || decide (lo ≤ f.lo)) && (decide (hi = 8) || decide (f.hi ≤ hi))
theorem tch_iff {lo hi : Int} {f : Fi} : tch lo hi f = true ↔ (lo = 8 ∨ lo ≤ f.hi) ∧ (hi = 8 ∨ f.lo ≤ hi) := by simp [tch]
theorem con_iff {lo hi : Int} {f : Fi} : con lo hi f = true ↔ (lo = 8 ∨ lo ≤ f.lo) ∧ (hi = 8 ∨ f.hi ≤ hi) := by simp [con]
noncomputable def touchP (fs : List Fi) (lo hi : Int) : List Fi := fs.filter (tch lo hi)
noncomputable def lowJ (fs : List Fi) (lo hi : Int) : Int := if lo = 8 then 8 else (touchP fs lo hi).foldl (fun m f => if f.lo < m then f.lo else m) lo
noncomputable def highJ (fs : List Fi) (lo hi : Int) : Int := if hi = 8 then 8 else (touchP fs lo hi).foldl (fun m f => if m < f.hi then f.hi else m) hi
noncomputable def joinN (fs : List Fi) : Nat → Int → Int → Int × Int
 | 0, lo, hi => (lo, hi)
 | n + 1, lo, hi => joinN fs n (lowJ fs lo hi) (highJ fs lo hi)
noncomputable def joinedP (fs : List Fi) (lo hi : Int) : List Fi := touchP fs (joinN fs fs.length lo hi).1 (joinN fs fs.length lo hi).2
noncomputable def Closed (fs : List Fi) (lo hi : Int) : Prop := ∀ f ∈ fs, tch lo hi f = true → con lo hi f = true
structure Bin (lo hi lo' hi' : Int) : Prop where
 a : lo = 8 ↔ lo' = 8
 b : hi = 8 ↔ hi' = 8
 c : lo ≠ 8 → lo' ≤ lo
 d : hi ≠ 8 → hi ≤ hi'
theorem Bin.refl (lo hi : Int) : Bin lo hi lo hi := ⟨Iff.rfl, Iff.rfl, fun _ => Int.le_refl _, fun _ => Int.le_refl _⟩
theorem Bin.trans {a b c d e f : Int} (x : Bin a b c d) (y : Bin c d e f) : Bin a b e f :=
 ⟨x.a.trans y.a, x.b.trans y.b, fun h => Int.le_trans (y.c fun z => h (x.a.mpr z)) (x.c h), fun h => Int.le_trans (x.d h) (y.d fun z => h (x.b.mpr z))⟩
theorem Bin.eq {a b c d : Int} (x : Bin a b c d) (y : Bin c d a b) : a = c ∧ b = d := by
 constructor
 ·by_cases h : a = 8
  ·rw [h, x.a.mp h]
  ·exact Int.le_antisymm (y.c fun z => h (x.a.mpr z)) (x.c h)
 ·by_cases h : b = 8
  ·rw [h, x.b.mp h]
  ·exact Int.le_antisymm (x.d h) (y.d fun z => h (x.b.mpr z))
theorem Bin.tch {lo hi lo' hi' : Int} (x : Bin lo hi lo' hi') {f : Fi} (h : RK.tch lo hi f = true) : RK.tch lo' hi' f = true := by
 rw [tch_iff] at h ⊢
 refine ⟨?_, ?_⟩
 ·rcases h.1 with z | z
  ·exact .inl (x.a.mp z)
  ·by_cases q : lo = 8
   ·exact .inl (x.a.mp q)
   ·exact .inr (Int.le_trans (x.c q) z)
 ·rcases h.2 with z | z
  ·exact .inl (x.b.mp z)
  ·by_cases q : hi = 8
   ·exact .inl (x.b.mp q)
   ·exact .inr (Int.le_trans z (x.d q))
theorem foldl_lo : ∀ (l : List Fi) (m : Int), (l.foldl (fun m f => if f.lo < m then f.lo else m) m ≤ m) ∧ (∀ f ∈ l, l.foldl (fun m f => if f.lo < m then f.lo else m) m ≤ f.lo) ∧
  (l.foldl (fun m f => if f.lo < m then f.lo else m) m = m ∨ ∃ f ∈ l, l.foldl (fun m f => if f.lo < m then f.lo else m) m = f.lo)
 | [], m => ⟨Int.le_refl _, fun _ h => (by cases h), .inl rfl⟩
 | f :: l, m => by
  obtain ⟨h1, h2, h3⟩ := foldl_lo l (if f.lo < m then f.lo else m)
  rw [List.foldl_cons]
  by_cases q : f.lo < m
  ·rw [if_pos q] at h1 h2 h3 ⊢
   refine ⟨by omega, fun g hg => ?_, ?_⟩
   ·cases hg with
    | head => exact h1
    | tail _ hg => exact h2 g hg
   ·rcases h3 with h | ⟨g, hg, h⟩
    ·exact .inr ⟨f, .head _, h⟩
    ·exact .inr ⟨g, .tail _ hg, h⟩
  ·rw [if_neg q] at h1 h2 h3 ⊢
   refine ⟨h1, fun g hg => ?_, ?_⟩
   ·cases hg with
    | head => omega
    | tail _ hg => exact h2 g hg
   ·rcases h3 with h | ⟨g, hg, h⟩
    ·exact .inl h
    ·exact .inr ⟨g, .tail _ hg, h⟩
theorem foldl_hi : ∀ (l : List Fi) (m : Int), (m ≤ l.foldl (fun m f => if m < f.hi then f.hi else m) m) ∧ (∀ f ∈ l, f.hi ≤ l.foldl (fun m f => if m < f.hi then f.hi else m) m) ∧
  (l.foldl (fun m f => if m < f.hi then f.hi else m) m = m ∨ ∃ f ∈ l, l.foldl (fun m f => if m < f.hi then f.hi else m) m = f.hi)
 | [], m => ⟨Int.le_refl _, fun _ h => (by cases h), .inl rfl⟩
 | f :: l, m => by
  obtain ⟨h1, h2, h3⟩ := foldl_hi l (if m < f.hi then f.hi else m)
  rw [List.foldl_cons]
  by_cases q : m < f.hi
  ·rw [if_pos q] at h1 h2 h3 ⊢
   refine ⟨by omega, fun g hg => ?_, ?_⟩
   ·cases hg with
    | head => exact h1
    | tail _ hg => exact h2 g hg
   ·rcases h3 with h | ⟨g, hg, h⟩
    ·exact .inr ⟨f, .head _, h⟩
    ·exact .inr ⟨g, .tail _ hg, h⟩
  ·rw [if_neg q] at h1 h2 h3 ⊢
   refine ⟨h1, fun g hg => ?_, ?_⟩
   ·cases hg with
    | head => omega
    | tail _ hg => exact h2 g hg
   ·rcases h3 with h | ⟨g, hg, h⟩
    ·exact .inl h
    ·exact .inr ⟨g, .tail _ hg, h⟩
theorem touch_mem {fs : List Fi} {lo hi : Int} {f : Fi} : f ∈ touchP fs lo hi ↔ f ∈ fs ∧ tch lo hi f = true := List.mem_filter
noncomputable def FsOk (fs : List Fi) : Prop := ∀ f ∈ fs, f.ok
theorem lowJ_ne {fs : List Fi} (h : FsOk fs) {lo hi : Int} : lo = 8 ↔ lowJ fs lo hi = 8 := by
 unfold lowJ
 split
 ·rename_i q; simp [q]
 ·rename_i q
  refine ⟨fun z => absurd z q, fun z => ?_⟩
  rcases (foldl_lo (touchP fs lo hi) lo).2.2 with e | ⟨f, hf, e⟩
  ·rw [e] at z; exact z
  ·have := h f (touch_mem.mp hf).1
   unfold Fi.ok at this
   rw [e] at z; omega
theorem highJ_ne {fs : List Fi} (h : FsOk fs) {lo hi : Int} : hi = 8 ↔ highJ fs lo hi = 8 := by
 unfold highJ
 split
 ·rename_i q; simp [q]
 ·rename_i q
  refine ⟨fun z => absurd z q, fun z => ?_⟩
  rcases (foldl_hi (touchP fs lo hi) hi).2.2 with e | ⟨f, hf, e⟩
  ·rw [e] at z; exact z
  ·have := h f (touch_mem.mp hf).1
   unfold Fi.ok at this
   rw [e] at z; omega
theorem stepJ_in {fs : List Fi} (h : FsOk fs) (lo hi : Int) : Bin lo hi (lowJ fs lo hi) (highJ fs lo hi) := by
 refine ⟨lowJ_ne h, highJ_ne h, fun q => ?_, fun q => ?_⟩
 ·unfold lowJ; rw [if_neg q]; exact (foldl_lo _ _).1
 ·unfold highJ; rw [if_neg q]; exact (foldl_hi _ _).1
theorem stepJ_con {fs : List Fi} (h : FsOk fs) {lo hi : Int} {f : Fi} (hf : f ∈ fs) (ht : tch lo hi f = true) : con (lowJ fs lo hi) (highJ fs lo hi) f = true := by
 rw [con_iff]
 have hm := touch_mem.mpr ⟨hf, ht⟩
 refine ⟨?_, ?_⟩
 ·by_cases q : lo = 8
  ·exact .inl ((lowJ_ne h).mp q)
  ·right; unfold lowJ; rw [if_neg q]; exact (foldl_lo _ _).2.1 f hm
 ·by_cases q : hi = 8
  ·exact .inl ((highJ_ne h).mp q)
  ·right; unfold highJ; rw [if_neg q]; exact (foldl_hi _ _).2.1 f hm
theorem stepJ_least {fs : List Fi} (h : FsOk fs) {lo hi lo' hi' : Int} (x : Bin lo hi lo' hi') (hc : Closed fs lo' hi') : Bin (lowJ fs lo hi) (highJ fs lo hi) lo' hi' := by
 refine ⟨(lowJ_ne h).symm.trans x.a, (highJ_ne h).symm.trans x.b, fun q => ?_, fun q => ?_⟩
 ·have q' : lo ≠ 8 := fun z => q ((lowJ_ne h).mp z)
  unfold lowJ; rw [if_neg q']
  rcases (foldl_lo (touchP fs lo hi) lo).2.2 with e | ⟨f, hf, e⟩
  ·rw [e]; exact x.c q'
  ·rw [e]
   obtain ⟨m1, m2⟩ := touch_mem.mp hf
   rcases (con_iff.mp (hc f m1 (x.tch m2))).1 with z | z
   ·exact absurd (x.a.mpr z) q'
   ·exact z
 ·have q' : hi ≠ 8 := fun z => q ((highJ_ne h).mp z)
  unfold highJ; rw [if_neg q']
  rcases (foldl_hi (touchP fs lo hi) hi).2.2 with e | ⟨f, hf, e⟩
  ·rw [e]; exact x.d q'
  ·rw [e]
   obtain ⟨m1, m2⟩ := touch_mem.mp hf
   rcases (con_iff.mp (hc f m1 (x.tch m2))).2 with z | z
   ·exact absurd (x.b.mpr z) q'
   ·exact z
theorem countP_lt {α : Type} {p q : α → Bool} : ∀ {l : List α}, (∀ x ∈ l, p x = true → q x = true) → (∃ x ∈ l, p x = false ∧ q x = true) → l.countP p < l.countP q
 | [], _, h => by obtain ⟨x, hx, _⟩ := h; cases hx
 | y :: l, h1, h2 => by
  have le : l.countP p ≤ l.countP q := List.countP_mono_left fun x hx => h1 x (.tail _ hx)
  rw [List.countP_cons, List.countP_cons]
  obtain ⟨x, hx, a, b⟩ := h2
  cases hx with
  | head => rw [a, b]; simp only [Bool.false_eq_true, if_false, if_true]; omega
  | tail _ hx =>
   have ih := countP_lt (l := l) (fun x hx => h1 x (.tail _ hx)) ⟨x, hx, a, b⟩
   have := h1 y (.head _)
   split <;> split <;> first | omega | (rename_i z1 z2; exact absurd (this z1) z2)
theorem closed_step {fs : List Fi} {lo hi : Int} (hc : Closed fs lo hi) : lowJ fs lo hi = lo ∧ highJ fs lo hi = hi := by
 refine ⟨?_, ?_⟩
 ·unfold lowJ
  split
  ·rename_i q; exact q.symm
  ·rename_i q
   have f1 := foldl_lo (touchP fs lo hi) lo
   rcases f1.2.2 with e | ⟨f, hf, e⟩
   ·exact e
   ·obtain ⟨m1, m2⟩ := touch_mem.mp hf
    rcases (con_iff.mp (hc f m1 m2)).1 with z | z
    ·exact absurd z q
    ·have := f1.1; rw [e] at this ⊢; omega
 ·unfold highJ
  split
  ·rename_i q; exact q.symm
  ·rename_i q
   have f1 := foldl_hi (touchP fs lo hi) hi
   rcases f1.2.2 with e | ⟨f, hf, e⟩
   ·exact e
   ·obtain ⟨m1, m2⟩ := touch_mem.mp hf
    rcases (con_iff.mp (hc f m1 m2)).2 with z | z
    ·exact absurd z q
    ·have := f1.1; rw [e] at this ⊢; omega
theorem joinN_closed {fs : List Fi} (h : FsOk fs) : ∀ (n : Nat) (lo hi : Int), (Closed fs lo hi ∨ fs.length ≤ n + fs.countP (fun f => tch lo hi f && con lo hi f)) → Closed fs (joinN fs n lo hi).1 (joinN fs n lo hi).2
 | 0, lo, hi, q => by
  rcases q with q | q
  ·exact q
  ·intro f hf ht
   rw [Nat.zero_add] at q
   have e : fs.countP (fun f => tch lo hi f && con lo hi f) = fs.length := Nat.le_antisymm List.countP_le_length q
   have := List.countP_eq_length.mp e f hf
   simp only [Bool.and_eq_true] at this
   exact this.2
 | n + 1, lo, hi, q => by
  refine joinN_closed h n _ _ ?_
  rcases q with q | q
  ·obtain ⟨e1, e2⟩ := closed_step q
   rw [e1, e2]; exact .inl q
  ·by_cases hc : Closed fs lo hi
   ·obtain ⟨e1, e2⟩ := closed_step hc
    rw [e1, e2]; exact .inl hc
   ·right
    have : fs.countP (fun f => tch lo hi f && con lo hi f) < fs.countP (fun f => tch (lowJ fs lo hi) (highJ fs lo hi) f && con (lowJ fs lo hi) (highJ fs lo hi) f) := by
     refine countP_lt (fun f hf hp => ?_) ?_
     ·simp only [Bool.and_eq_true] at hp ⊢
      exact ⟨(stepJ_in h lo hi).tch hp.1, stepJ_con h hf hp.1⟩
     ·unfold Closed at hc
      simp only [Classical.not_forall] at hc
      obtain ⟨f, hf, ht, hn⟩ := hc
      refine ⟨f, hf, ?_, ?_⟩
      ·simp only [Bool.and_eq_false_iff]; right; simpa using hn
      ·simp only [Bool.and_eq_true]; exact ⟨(stepJ_in h lo hi).tch ht, stepJ_con h hf ht⟩
    omega
theorem joinN_in {fs : List Fi} (h : FsOk fs) : ∀ (n : Nat) (lo hi : Int), Bin lo hi (joinN fs n lo hi).1 (joinN fs n lo hi).2
 | 0, lo, hi => .refl _ _
 | n + 1, lo, hi => (stepJ_in h lo hi).trans (joinN_in h n _ _)
theorem joinN_least {fs : List Fi} (h : FsOk fs) {lo' hi' : Int} (hc : Closed fs lo' hi') : ∀ (n : Nat) (lo hi : Int), Bin lo hi lo' hi' → Bin (joinN fs n lo hi).1 (joinN fs n lo hi).2 lo' hi'
 | 0, lo, hi, x => x
 | n + 1, lo, hi, x => joinN_least h hc n _ _ (stepJ_least h x hc)
theorem joined_eq {fs : List Fi} (h : FsOk fs) {lo hi lo' hi' : Int} (hc : Closed fs lo' hi') (x : Bin lo hi lo' hi') (hl : ∀ a b, Closed fs a b → Bin lo hi a b → Bin lo' hi' a b) : touchP fs lo' hi' = joinedP fs lo hi := by
 have c2 := joinN_closed h fs.length lo hi (.inr (by omega))
 have x2 := joinN_in h fs.length lo hi
 obtain ⟨e1, e2⟩ := (hl _ _ c2 x2).eq (joinN_least h hc fs.length lo hi x)
 unfold joinedP
 rw [← e1, ← e2]
noncomputable def U (p : Int) : List UInt8 := match p.toNat with
 | 0 => [] | 1 => [97] | 2 => [97, 0] | 3 => [98] | 4 => [98, 97] | 5 => [99] | 6 => [99, 255] | _ => [100]
noncomputable def Pl (p : Int) : Prop := 0 ≤ p ∧ p ≤ 7
theorem Pl.cases {p : Int} (h : Pl p) : p = 0 ∨ p = 1 ∨ p = 2 ∨ p = 3 ∨ p = 4 ∨ p = 5 ∨ p = 6 ∨ p = 7 := by unfold Pl at h; omega
theorem U_len (p : Int) : (U p).length ≤ 1000 := by
 unfold U
 generalize p.toNat = n
 iterate 8 (rcases n with _ | n; exact Nat.le_of_ble_eq_true rfl)
 exact Nat.le_of_ble_eq_true rfl
theorem U_lt {p q : Int} (hp : Pl p) (hq : Pl q) : bLt (U p) (U q) = decide (p < q) := by
 rcases hp.cases with rfl | rfl | rfl | rfl | rfl | rfl | rfl | rfl <;> rcases hq.cases with rfl | rfl | rfl | rfl | rfl | rfl | rfl | rfl <;> rfl
theorem U_inj {p q : Int} (hp : Pl p) (hq : Pl q) (h : U p = U q) : p = q := by
 have h1 := U_lt hp hq
 have h2 := U_lt hq hp
 rw [h] at h1
 rw [h] at h2
 have e : ∀ b : List UInt8, bLt b b = false := by
  intro b
  induction b with
  | nil => rfl
  | cons x b ih => show (decide (x < x) || (x == x && bLt b b)) = false; rw [ih]; simp
 rw [e] at h1 h2
 have := of_decide_eq_false h1.symm
 have := of_decide_eq_false h2.symm
 omega
noncomputable def ucP (p q : Int) : Int := if p < q then -1 else if q < p then 1 else 0
theorem ucmp_U {p q : Int} (hp : Pl p) (hq : Pl q) : ucmp (U p) (U q) = ucP p q := by
 unfold ucmp ucP
 rw [U_lt hp hq, U_lt hq hp]
 simp only [decide_eq_true_eq]
noncomputable def ub (p : Int) : V := if p = 8 then .none else .bytes (U p)
noncomputable def Pb (p : Int) : Prop := 0 ≤ p ∧ p ≤ 8
noncomputable def tq (q : Int) : Tg := ⟨1, q.toNat.toUInt8, 0, 0, 0, 0, 0, 0⟩
noncomputable def ikb (p q : Int) : List UInt8 := U p ++ (tq q).l
section
variable {Φ : Phi} {ρ : Lo} {H : AH} {Q : PV} {x y : Nm} {p q : Int}
theorem ev_ltlow (hy : ρ y = some (ub p)) (hx : ρ x = some (.bytes (U q))) (hp : Pb p) (hq : Pl q) (h : Q (.bool (decide (p ≠ 8 ∧ q < p))) H) :
  boK Φ true (.cons (.cmp .lt (.var x) (.var y)) .nil) ρ (.bool (!(ub p).isNone)) H Q := by
 by_cases h8 : p = 8
 ·unfold ub; rw [if_pos h8]
  refine k_and_f rfl ?_
  rw [decide_eq_false (fun z => z.1 h8)] at h; exact h
 ·have e : ub p = .bytes (U p) := if_neg h8
  rw [e] at hy ⊢
  refine k_and_t rfl ?_
  walk_at "s"
  show Q (.bool (bLt (U q) (U p))) H
  rw [U_lt hq ⟨hp.1, by have := hp.2; omega⟩]
  have : decide (p ≠ 8 ∧ q < p) = decide (q < p) := by simp [h8]
  rw [this] at h; exact h
theorem ev_gthigh (hy : ρ y = some (ub p)) (hx : ρ x = some (.bytes (U q))) (hp : Pb p) (hq : Pl q) (h : Q (.bool (decide (p ≠ 8 ∧ p < q))) H) :
  boK Φ true (.cons (.cmp .gt (.var x) (.var y)) .nil) ρ (.bool (!(ub p).isNone)) H Q := by
 by_cases h8 : p = 8
 ·unfold ub; rw [if_pos h8]
  refine k_and_f rfl ?_
  rw [decide_eq_false (fun z => z.1 h8)] at h; exact h
 ·have e : ub p = .bytes (U p) := if_neg h8
  rw [e] at hy ⊢
  refine k_and_t rfl ?_
  walk_at "s"
  show Q (.bool (bLt (U p) (U q))) H
  rw [U_lt ⟨hp.1, by have := hp.2; omega⟩ hq]
  have : decide (p ≠ 8 ∧ p < q) = decide (p < q) := by simp [h8]
  rw [this] at h; exact h
end
noncomputable def MetaAt (H : AH) (a : Addr) (f : Fi) : Prop := ∃ g, Fld H a .FileMeta g ∧ A4 (g .number = some (.int f.n)) (g .size = some (.int f.s)) (g .smallest = some (.bytes (ikb f.lo 9))) (g .largest = some (.bytes (ikb f.hi 1)))
theorem MetaAt.ext {H H' : AH} (x : Ext H H') {a : Addr} {f : Fi} (h : MetaAt H a f) : MetaAt H' a f := let ⟨g, h1, r⟩ := h; ⟨g, h1.ext x, r⟩
inductive Ms (H : AH) : List V → List Fi → Prop
 | nil : Ms H [] []
 | cons {a f vs fs} : MetaAt H a f → Ms H vs fs → Ms H (.ref a :: vs) (f :: fs)
theorem Ms.mono {H H' : AH} {vs fs} (h : Ms H vs fs) (t : ∀ {a f}, MetaAt H a f → MetaAt H' a f) : Ms H' vs fs := by
 induction h with
 | nil => exact .nil
 | cons a _ ih => exact .cons (t a) ih
theorem Ms.ext {H H' : AH} (x : Ext H H') {vs fs} (h : Ms H vs fs) : Ms H' vs fs := h.mono fun a => a.ext x
theorem Ms.len {H : AH} {vs fs} (h : Ms H vs fs) : vs.length = fs.length := by
 induction h with
 | nil => rfl
 | cons _ _ ih => exact congrArg Nat.succ ih
theorem Ms.app {H : AH} {vs fs ws gs} (h : Ms H vs fs) (q : Ms H ws gs) : Ms H (vs ++ ws) (fs ++ gs) := by
 induction h with
 | nil => exact q
 | cons a _ ih => exact .cons a ih
theorem Ms.get {H : AH} {vs fs} {i : Nat} {f} (h : Ms H vs fs) : fs[i]? = some f → ∃ a, vs[i]? = some (.ref a) ∧ MetaAt H a f := by
 induction h generalizing i with
 | nil => exact fun e => nomatch e
 | cons m _ ih => cases i with
  | zero => exact fun e => ⟨_, rfl, Option.some.inj e ▸ m⟩
  | succ i => exact ih
theorem Ms.take {H : AH} (n : Nat) {vs fs} (h : Ms H vs fs) : Ms H (vs.take n) (fs.take n) := by
 induction h generalizing n with
 | nil => rw [List.take_nil, List.take_nil]; exact .nil
 | cons a _ ih => cases n with
  | zero => exact .nil
  | succ n => exact .cons a (ih n)
theorem Ms.drop {H : AH} (n : Nat) {vs fs} (h : Ms H vs fs) : Ms H (vs.drop n) (fs.drop n) := by
 induction h generalizing n with
 | nil => rw [List.drop_nil, List.drop_nil]; exact .nil
 | cons a r ih => cases n with
  | zero => exact .cons a r
  | succ n => exact ih n
theorem Ms.rev {H : AH} {vs fs} (h : Ms H vs fs) : Ms H vs.reverse fs.reverse := by
 induction h with
 | nil => exact .nil
 | cons a _ ih => rw [List.reverse_cons, List.reverse_cons]; exact ih.app (.cons a .nil)
noncomputable def ML (H : AH) (l : Addr) (fs : List Fi) : Prop := ∃ vs, H l = some (.list vs) ∧ Ms H vs fs
theorem ML.ext {H H' : AH} (x : Ext H H') {l : Addr} {fs : List Fi} (h : ML H l fs) : ML H' l fs := let ⟨vs, h1, h2⟩ := h; ⟨vs, x _ _ h1, h2.ext x⟩
inductive Lv (H : AH) : List V → List (List Fi) → Prop
 | nil : Lv H [] []
 | cons {l fs vs L} : ML H l fs → Lv H vs L → Lv H (.ref l :: vs) (fs :: L)
theorem Lv.mono {H H' : AH} {vs L} (h : Lv H vs L) (t : ∀ {a f}, ML H a f → ML H' a f) : Lv H' vs L := by
 induction h with
 | nil => exact .nil
 | cons a _ ih => exact .cons (t a) ih
theorem Lv.ext {H H' : AH} (x : Ext H H') {vs L} (h : Lv H vs L) : Lv H' vs L := h.mono fun a => a.ext x
theorem Lv.len {H : AH} {vs L} (h : Lv H vs L) : vs.length = L.length := by
 induction h with
 | nil => rfl
 | cons _ _ ih => exact congrArg Nat.succ ih
theorem Lv.get {H : AH} {vs L} {i : Nat} {fs} (h : Lv H vs L) : L[i]? = some fs → ∃ l, vs[i]? = some (.ref l) ∧ ML H l fs := by
 induction h generalizing i with
 | nil => exact fun e => nomatch e
 | cons m _ ih => cases i with
  | zero => exact fun e => ⟨_, rfl, Option.some.inj e ▸ m⟩
  | succ i => exact ih
noncomputable def VerAt (H : AH) (v : Addr) (L : List (List Fi)) (top bot lev : Int) : Prop := Sx4 fun g FL vs o => Fld H v .Version g ∧ A7 (g .files = some (.ref FL)) (H FL = some (.list vs)) (Lv H vs L) (g .num_levels = some (.int L.length)) (g .order = some (.ref o)) (OrdAt H o) (g .score = some (.tup [.int top, .int bot]) ∧ g .score_level = some (.int lev))
theorem VerAt.ext {H H' : AH} (x : Ext H H') {v : Addr} {L : List (List Fi)} {a b c : Int} (h : VerAt H v L a b c) : VerAt H' v L a b c :=
 let ⟨g, FL, vs, o, h1, h2, h3, h4, h5, h6, h7, h8⟩ := h; ⟨g, FL, vs, o, h1.ext x, h2, x _ _ h3, h4.ext x, h5, h6, h7.ext x, h8⟩
structure LOk (L : List (List Fi)) : Prop where
 few : L.length ≤ 100
 each : ∀ fs ∈ L, fs.length ≤ 100 ∧ FsOk fs
theorem small_of {α : Type} {vs : List V} {fs : List α} (h : vs.length = fs.length) (k : fs.length ≤ 1000) : smallL vs := by unfold smallL; omega
noncomputable def Vl (b : Int) : Int := b
section
variable {Φ : Phi} {ρ : Lo} {H : AH} {Q : PV} {v : Addr} {L : List (List Fi)} {T B lv : Int} {i : Int} {fs : List Fi} {e : E}
theorem ver_files (hv : VerAt H v L T B lv) (h : ∀ FL vs, H FL = some (.list vs) → Lv H vs L → Q (.ref FL) H) : getA (.ref v) .files H Q := by
 obtain ⟨g, FL, vs, o, h1, h2, h3, h4, h5, h6, h7, h8⟩ := hv
 exact g_attr h1 h2 (h FL vs h3 h4)
theorem ver_num (hv : VerAt H v L T B lv) (h : Q (.int L.length) H) : getA (.ref v) .num_levels H Q := by
 obtain ⟨g, FL, vs, o, h1, h2, h3, h4, h5, h6, h7, h8⟩ := hv
 exact g_attr h1 h5 h
theorem ver_order (hv : VerAt H v L T B lv) (h : ∀ o, OrdAt H o → Q (.ref o) H) : getA (.ref v) .order H Q := by
 obtain ⟨g, FL, vs, o, h1, h2, h3, h4, h5, h6, h7, h8⟩ := hv
 exact g_attr h1 h6 (h o h7)
theorem ver_score (hv : VerAt H v L T B lv) (h : Q (.tup [.int T, .int B]) H) : getA (.ref v) .score H Q := by
 obtain ⟨g, FL, vs, o, h1, h2, h3, h4, h5, h6, h7, h8⟩ := hv
 exact g_attr h1 h8.1 h
theorem ver_lev (hv : VerAt H v L T B lv) (h : Q (.int lv) H) : getA (.ref v) .score_level H Q := by
 obtain ⟨g, FL, vs, o, h1, h2, h3, h4, h5, h6, h7, h8⟩ := hv
 exact g_attr h1 h8.2 h
theorem lv_idx {FL : Addr} {vs : List V} (hF : H FL = some (.list vs)) (hL : Lv H vs L) (h0 : 0 ≤ i) (hf : L.length ≤ 100) (hi : L[i.toNat]? = some fs) (h : ∀ l ms, H l = some (.list ms) → Ms H ms fs → Q (.ref l) H) : idxA (.ref FL) (.int i) H Q := by
 obtain ⟨l, e1, ms, e2, e3⟩ := hL.get hi
 have := (List.getElem?_eq_some_iff.mp hi).1
 exact i_list hF h0 (by omega) e1 (h l ms e2 e3)
theorem ms_idx {l : Addr} {ms : List V} {f : Fi} (hl : H l = some (.list ms)) (hm : Ms H ms fs) (h0 : 0 ≤ i) (hz : fs.length ≤ 1000) (hi : fs[i.toNat]? = some f) (h : ∀ a, MetaAt H a f → ms[i.toNat]? = some (.ref a) → Q (.ref a) H) : idxA (.ref l) (.int i) H Q := by
 obtain ⟨a, e1, e2⟩ := hm.get hi
 have := (List.getElem?_eq_some_iff.mp hi).1
 exact i_list hl h0 (by omega) e1 (h a e2 e1)
theorem ms_len {l : Addr} {ms : List V} (hl : H l = some (.list ms)) (hm : Ms H ms fs) (hz : fs.length ≤ 1000) (h : Q (.int fs.length) H) : biA .len [.ref l] H Q := by
 have := hm.len
 refine bi_lenL hl (small_of this hz) ?_
 rw [this]; exact h
variable {a : Addr} {f : Fi}
theorem m_number (hm : MetaAt H a f) (h : Q (.int f.n) H) : getA (.ref a) .number H Q := by obtain ⟨g, h1, h2, h3, h4, h5⟩ := hm; exact g_attr h1 h2 h
theorem m_size (hm : MetaAt H a f) (h : Q (.int f.s) H) : getA (.ref a) .size H Q := by obtain ⟨g, h1, h2, h3, h4, h5⟩ := hm; exact g_attr h1 h3 h
theorem m_smallest (hm : MetaAt H a f) (h : Q (.bytes (ikb f.lo 9)) H) : getA (.ref a) .smallest H Q := by obtain ⟨g, h1, h2, h3, h4, h5⟩ := hm; exact g_attr h1 h4 h
theorem m_largest (hm : MetaAt H a f) (h : Q (.bytes (ikb f.hi 1)) H) : getA (.ref a) .largest H Q := by obtain ⟨g, h1, h2, h3, h4, h5⟩ := hm; exact g_attr h1 h5 h
end
theorem while_ind {P : Lo → AH → Prop} (I : Nat → Lo → AH → Prop) (step : ∀ n ρ H, I n ρ H → (∀ m ρ' H', m < n → I m ρ' H' → P ρ' H') → P ρ H) : ∀ n ρ H, I n ρ H → P ρ H := by
 intro n
 induction n using Nat.strongRecOn with
 | ind n ih => intro ρ H h; exact step n ρ H h fun m ρ' H' hm h' => ih m hm ρ' H' h'
noncomputable def overP (level : Int) (fs : List Fi) (lo hi : Int) : List Fi := if level = 0 then joinedP fs lo hi else touchP fs lo hi
theorem meas_lt {a' a n i : Nat} (h : a' < a) : a' * (n + 1) + (n - 0) < a * (n + 1) + (n - i) :=
 Nat.lt_of_lt_of_le (Nat.lt_of_lt_of_eq (Nat.add_lt_add_left (Nat.lt_succ_self n) _) (Nat.succ_mul a' (n + 1)).symm) (Nat.le_trans (Nat.mul_le_mul_right _ h) (Nat.le_add_right _ _))
noncomputable def C_over (Φ : Phi) : Prop := ∀ (v : Addr) (L : List (List Fi)) (T B lv level lo hi : Int) (fs : List Fi) (H : AH) (Q : PV), VerAt H v L T B lv → LOk L → 0 ≤ level → L[level.toNat]? = some fs → Pb lo → Pb hi →
 (∀ a vs H', Ext H H' → H a = none → H' a = some (.list vs) → Ms H' vs (overP level fs lo hi) → Q (.ref a) H') → Φ .Version_overlapping [.ref v, .int level, ub lo, ub hi] H Q
theorem take_succ {α : Type} {fs : List α} {i : Nat} {f : α} (h : fs[i]? = some f) : fs.take (i + 1) = fs.take i ++ [f] := by
 rw [List.take_add_one, h]; rfl
theorem touch_succ {fs : List Fi} {i : Nat} {f : Fi} (h : fs[i]? = some f) (lo hi : Int) : touchP (fs.take (i + 1)) lo hi = touchP (fs.take i) lo hi ++ (if tch lo hi f = true then [f] else []) := by
 unfold touchP
 rw [take_succ h, List.filter_append]
 congr 1
 by_cases c : tch lo hi f = true <;> simp [List.filter, c]
set_option tactic.hygienic true in
theorem c_over (k : Nat) : C_over (phi (k + 2)) := by
 intro v L T B lv level lo0 hi0 fs H0 Q hV hL h0 hi0' hlo0 hhi0 hQ
 have hmem : fs ∈ L := List.mem_of_getElem? hi0'
 obtain ⟨hlen, hok⟩ := hL.each fs hmem
 have hlt := (List.getElem?_eq_some_iff.mp hi0').1
 have hfew := hL.few
 obtain ⟨gv, FL, vv, ov, hf1, hf2, hf3, hf4, hf5⟩ := hV
 obtain ⟨l, q1, ms, q2, q3⟩ := hf4.get hi0'
 have hms := q3.len
 refine phi_call (body := Version_overlapping_body) rfl rfl ?_; intro ρ0
 have CU : C_user (phi (k + 1)) := c_user k
 generalize phi (k + 1) = Φ at CU ⊢
 walk_at "s"
 refine ⟨sm rfl, n_new fun af H1 x1 haf hl1 => ?_⟩
 walk_at "s"
 refine x_while fun P hP => ?_
 let I1 : Nat → Lo → AH → Prop := fun n ρ H => Sx5 fun (lo hi : Int) (i : Nat) (af : Addr) (vs : List V) => A18 (Ext H0 H) (H0 af = none) (H af = some (.list vs)) (Ms H0 vs (touchP (fs.take i) lo hi)) (ρ .self = some (.ref v)) (ρ .level = some (.int level)) (ρ .low = some (ub lo)) (ρ .high = some (ub hi)) (ρ .found = some (.ref af)) (ρ .i = some (.int i)) (i ≤ fs.length) (Pb lo) (Pb hi) (Bin lo0 hi0 lo hi) (∀ a b, Closed fs a b → Bin lo0 hi0 a b → Bin lo hi a b) (level ≠ 0 → lo = lo0 ∧ hi = hi0) (level = 0 → ∀ f ∈ fs.take i, tch lo hi f = true → con lo hi f = true) (n = (lo.toNat + (8 - hi).toNat) * (fs.length + 1) + (fs.length - i))
 refine while_ind (P := P) I1 ?_ _ _ _
  ⟨lo0, hi0, 0, af, [], x1, haf, hl1, by simp [touchP]; exact .nil, rfl, rfl, rfl, rfl, rfl, rfl, by omega, hlo0, hhi0, .refl _ _, fun a b _ q => q, fun _ => ⟨rfl, rfl⟩, fun _ f hf => by simp at hf, rfl⟩
 rintro n ρ H ⟨lo, hi, i, af, vs, X, haf, hl, hM, r1, r2, r3, r4, r5, r6, hile, hlo, hhi, hB, hleast, hne, hcl, rfl⟩ ih
 refine hP ρ H ?_
 have hMeas : ∀ lo' hi' : Int, lo'.toNat + (8 - hi').toNat < lo.toNat + (8 - hi).toNat → (lo'.toNat + (8 - hi').toNat) * (fs.length + 1) + (fs.length - 0) < (lo.toNat + (8 - hi).toNat) * (fs.length + 1) + (fs.length - i) := fun lo' hi' h => meas_lt h
 walk_at "s"
 refine g_attr (hf1.ext X) hf2 ?_
 walk_at "s"
 refine i_list (X _ _ hf3) h0 (by omega) q1 ?_
 walk_at "s"
 refine bi_lenL (X _ _ q2) (small_of hms (by omega)) ?_
 rw [hms]
 walk_at "s"
 refine k_ite (fun c => ?_) (fun c => ?_)
 ·replace c := ci_lt_t.mp c
  have hi' : i < fs.length := by omega
  have hf : fs[i]? = some fs[i] := List.getElem?_eq_getElem hi'
  generalize fs[i] = f at hf
  have hfm : f ∈ fs := List.mem_of_getElem? hf
  have hfo := hok f hfm
  have pl : Pl f.lo := ⟨hfo.1, by have := hfo.2.1; have := hfo.2.2; omega⟩
  have ph : Pl f.hi := ⟨by have := hfo.1; have := hfo.2.1; omega, hfo.2.2⟩
  walk_at "s"
  refine g_attr (hf1.ext X) hf2 ?_
  walk_at "s"
  refine i_list (X _ _ hf3) h0 (by omega) q1 ?_
  walk_at "s"
  obtain ⟨am, gm, hm0⟩ := q3.get hf
  have hm := hm0.ext X
  refine i_list (X _ _ q2) (by omega) (by omega) (by simpa using gm) ?_
  walk_at "s"
  refine m_smallest hm ?_
  walk_at "s"
  refine CU _ _ _ _ (U_len _) ?_
  walk_at "s"
  refine m_largest hm ?_
  walk_at "s"
  refine CU _ _ _ _ (U_len _) ?_
  walk_at "s"
  refine ev_ltlow (p := lo) (q := f.hi) (by exact r3) (by exact rfl) hlo ph ?_
  have next : ∀ (R : Prop) , tch lo hi f = false → (∀ ρ', ρ' .self = some (.ref v) → ρ' .level = some (.int level) → ρ' .low = some (ub lo) → ρ' .high = some (ub hi) → ρ' .found = some (.ref af) → ρ' .i = some (.int (i + 1)) → P ρ' H) := fun R ht ρ' s1 s2 s3 s4 s5 s6 => by
   refine ih _ ρ' H ?_ ⟨lo, hi, i + 1, af, vs, X, haf, hl, ?_, s1, s2, s3, s4, s5, s6, hi', hlo, hhi, hB, hleast, hne, fun z g hg ht' => ?_, rfl⟩
   ·exact Nat.add_lt_add_left (nsub_dec (Nat.lt_succ_self i) (by omega)) _
   ·rw [touch_succ hf, ht]; simpa using hM
   ·rw [take_succ hf] at hg
    rcases List.mem_append.mp hg with hg | hg
    ·exact hcl z g hg ht'
    ·rw [List.mem_singleton.mp hg, ht] at ht'; cases ht'
  refine k_ite (fun c1 => ?_) (fun c1 => ?_)
  ·have c1 := of_decide_eq_true c1
   walk_at "s"
   refine next True ?_ _ (by exact r1) (by exact r2) (by exact r3) (by exact r4) (by exact r5) rfl
   rw [Bool.eq_false_iff]; intro z; rw [tch_iff] at z; omega
  ·have c1 := of_decide_eq_false c1
   walk_at "s"
   refine ev_gthigh (p := hi) (q := f.lo) (by exact r4) (by exact rfl) hhi pl ?_
   refine k_ite (fun c2 => ?_) (fun c2 => ?_)
   ·have c2 := of_decide_eq_true c2
    walk_at "s"
    refine next True ?_ _ (by exact r1) (by exact r2) (by exact r3) (by exact r4) (by exact r5) rfl
    rw [Bool.eq_false_iff]; intro z; rw [tch_iff] at z; omega
   ·have c2 := of_decide_eq_false c2
    have ht : tch lo hi f = true := by rw [tch_iff]; omega
    have hvl := hM.len
    have hvs : vs.length ≤ 1000 := by
     rw [hvl]; unfold touchP
     exact Nat.le_trans (List.length_filter_le _ _) (by rw [List.length_take]; omega)
    walk_at "s"
    refine k_lm hl ?_
    walk_at "s"
    refine l_append hl (by unfold smallL; omega) ?_
    have X2 : Ext H0 (H.set af (.list (vs ++ [.ref am]))) := X.set haf
    have hM2 : Ms H0 (vs ++ [.ref am]) (touchP (fs.take (i + 1)) lo hi) := by
     rw [touch_succ hf, ht]; exact hM.app (.cons hm0 .nil)
    have hgo : ∀ ρ', ρ' .self = some (.ref v) → ρ' .level = some (.int level) → ρ' .low = some (ub lo) → ρ' .high = some (ub hi) → ρ' .found = some (.ref af) → ρ' .i = some (.int (i + 1)) → (level = 0 → con lo hi f = true) → P ρ' (H.set af (.list (vs ++ [.ref am]))) := fun ρ' s1 s2 s3 s4 s5 s6 s7 => by
     refine ih _ ρ' _ ?_ ⟨lo, hi, i + 1, af, _, X2, haf, set_same, hM2, s1, s2, s3, s4, s5, s6, hi', hlo, hhi, hB, hleast, hne, fun z g hg ht' => ?_, rfl⟩
     ·omega
     ·rw [take_succ hf] at hg
      rcases List.mem_append.mp hg with hg | hg
      ·exact hcl z g hg ht'
      ·rw [List.mem_singleton.mp hg]; exact s7 z
    have hre : ∀ (lo' hi' : Int) ρ' H' a', Ext (H.set af (.list (vs ++ [.ref am]))) H' → (H.set af (.list (vs ++ [.ref am]))) a' = none → H' a' = some (.list []) → ρ' .self = some (.ref v) → ρ' .level = some (.int level) → ρ' .low = some (ub lo') → ρ' .high = some (ub hi') → ρ' .found = some (.ref a') → ρ' .i = some (.int 0) →
      level = 0 → Pb lo' → Pb hi' → lo'.toNat + (8 - hi').toNat < lo.toNat + (8 - hi).toNat → Bin lo hi lo' hi' → (∀ a b, Closed fs a b → Bin lo hi a b → Bin lo' hi' a b) → P ρ' H' := fun lo' hi' ρ' H' a' x' ha' hl' s1 s2 s3 s4 s5 s6 s7 s8 s9 s10 s11 s12 => by
     refine ih _ ρ' _ (hMeas lo' hi' s10) ⟨lo', hi', 0, a', [], X2.trans x', X2.none ha', hl', by simp [touchP]; exact .nil, s1, s2, s3, s4, s5, s6, by omega, s8, s9, hB.trans s11, fun a b z1 z2 => s12 a b z1 (hleast a b z1 z2), fun z => absurd s7 z, fun _ g hg => by simp at hg, rfl⟩
    walk_at "s"
    refine k_ite (fun c3 => ?_) (fun c3 => ?_)
    ·replace c3 := ci_eq_t.mp c3
     walk_at "s"
     refine ev_ltlow (p := lo) (q := f.lo) (by exact r3) (by exact rfl) hlo pl ?_
     refine k_ite (fun c4 => ?_) (fun c4 => ?_)
     ·have c4 := of_decide_eq_true c4
      walk_at "s"
      refine ⟨sm rfl, n_new fun a' H' x' ha' hl' => ?_⟩
      walk_at "s"
      have e8 : f.lo ≠ 8 := by have := pl.2; omega
      refine hre f.lo hi _ H' a' x' ha' hl' (by exact r1) (by exact r2) (by show some _ = _; unfold ub; rw [if_neg e8]) (by exact r4) rfl rfl c3 ⟨pl.1, by have := pl.2; omega⟩ hhi (Nat.add_lt_add_right (tn_dec c4.2 (Int.lt_of_le_of_lt pl.1 c4.2)) _) ⟨by omega, Iff.rfl, fun _ => by omega, fun _ => Int.le_refl _⟩ ?_
      intro a b z1 z2
      refine ⟨?_, z2.b, fun _ => ?_, z2.d⟩
      ·have := z2.a; omega
      ·rcases (con_iff.mp (z1 f hfm (z2.tch ht))).1 with z | z
       ·have := z2.a; omega
       ·exact z
     ·have c4 := of_decide_eq_false c4
      walk_at "s"
      refine ev_gthigh (p := hi) (q := f.hi) (by exact r4) (by exact rfl) hhi ph ?_
      refine k_ite (fun c5 => ?_) (fun c5 => ?_)
      ·have c5 := of_decide_eq_true c5
       walk_at "s"
       refine ⟨sm rfl, n_new fun a' H' x' ha' hl' => ?_⟩
       walk_at "s"
       have e8 : f.hi ≠ 8 := by have := ph.2; omega
       refine hre lo f.hi _ H' a' x' ha' hl' (by exact r1) (by exact r2) (by exact r3) (by show some _ = _; unfold ub; rw [if_neg e8]) rfl rfl c3 hlo ⟨ph.1, by have := ph.2; omega⟩ (Nat.add_lt_add_left (tn_dec (Int.sub_lt_sub_left c5.2 8) (Int.sub_pos_of_lt (Int.lt_of_lt_of_le c5.2 (Int.le_trans ph.2 (by decide))))) _) ⟨Iff.rfl, by omega, fun _ => Int.le_refl _, fun _ => by omega⟩ ?_
       intro a b z1 z2
       refine ⟨z2.a, ?_, z2.c, fun _ => ?_⟩
       ·have := z2.b; omega
       ·rcases (con_iff.mp (z1 f hfm (z2.tch ht))).2 with z | z
        ·have := z2.b; omega
        ·exact z
      ·have c5 := of_decide_eq_false c5
       walk_at "s"
       refine hgo _ (by exact r1) (by exact r2) (by exact r3) (by exact r4) (by exact r5) rfl fun _ => ?_
       rw [con_iff]; omega
    ·replace c3 := ci_eq_f.mp c3
     walk_at "s"
     exact hgo _ (by exact r1) (by exact r2) (by exact r3) (by exact r4) (by exact r5) rfl fun z => absurd z c3
 ·replace c := ci_lt_f.mp c
  have hie : i = fs.length := by omega
  subst hie
  walk_at "s"
  refine hQ af vs H X haf hl ?_
  rw [List.take_length] at hM hcl
  have : overP level fs lo0 hi0 = touchP fs lo hi := by
   unfold overP
   split
   ·rename_i z; exact (joined_eq hok (fun f hf => hcl z f hf) hB hleast).symm
   ·rename_i z; obtain ⟨z1, z2⟩ := hne z; rw [z1, z2]
  rw [this]; exact hM.ext X
noncomputable def sumS (fs : List Fi) : Int := (fs.map (·.s)).sum
theorem sumS_cons (f : Fi) (fs : List Fi) : sumS (f :: fs) = f.s + sumS fs := by simp [sumS]
theorem sumS_app (fs gs : List Fi) : sumS (fs ++ gs) = sumS fs + sumS gs := by simp [sumS]
noncomputable def C_total (Φ : Phi) : Prop := ∀ (l : Addr) (fs : List Fi) (H : AH) (Q : PV), ML H l fs → fs.length ≤ 1000 → Q (.int (sumS fs)) H → Φ .total_size [.ref l] H Q
theorem c_total (k : Nat) : C_total (phi (k + 1)) := by
 intro l fs H Q hl hz hQ
 obtain ⟨vs, h1, h2⟩ := hl
 refine phi_call (body := total_size_body) rfl rfl ?_; intro ρ0
 generalize phi k = Φ
 walk_at "s"
 refine f_list h1 (small_of h2.len hz) ?_
 let I1 : List V → Lo → AH → Prop := fun rest ρ H' => H' = H ∧ Sx2 fun gs t => A3 (Ms H rest gs) (ρ .total = some (.int t)) (t + sumS gs = sumS fs)
 refine forA_inv I1 ?_ ?_ _ _ _ ⟨rfl, fs, 0, h2, rfl, by omega⟩
 ·rintro v rest ρ H' ⟨rfl, gs, t, hm, ht, hs⟩ R rnx rct rbr rrt
  cases hm with
  | cons m hm =>
   rw [sumS_cons] at hs
   show exSs Φ _ _ _ _
   walk_at "s"
   refine m_size m ?_
   walk_at "s"
   exact rnx _ _ h1 ⟨rfl, _, _, hm, rfl, by omega⟩
 ·rintro ρ H' ⟨rfl, gs, t, hm, ht, hs⟩
  cases hm
  walk_at "s"
  rw [show t = sumS fs from by simp [sumS] at hs ⊢; omega]
  exact hQ
noncomputable def C_octets (Φ : Phi) : Prop := ∀ (v : Addr) (L : List (List Fi)) (T B lv level : Int) (fs : List Fi) (H : AH) (Q : PV), VerAt H v L T B lv → LOk L → 0 ≤ level → L[level.toNat]? = some fs → Q (.int (sumS fs)) H → Φ .Version_level_octets [.ref v, .int level] H Q
theorem c_octets (k : Nat) : C_octets (phi (k + 1)) := by
 intro v L T B lv level fs H Q hV hL h0 hi hQ
 obtain ⟨hz, hok⟩ := hL.each fs (List.mem_of_getElem? hi)
 refine phi_call (body := Version_level_octets_body) rfl rfl ?_; intro ρ0
 generalize phi k = Φ
 walk_at "s"
 refine ver_files hV fun FL vv e1 e2 => ?_
 walk_at "s"
 refine lv_idx e1 e2 h0 hL.few hi fun l vs h1 h2 => ?_
 walk_at "s"
 refine f_list h1 (small_of h2.len (by omega)) ?_
 let I2 : List V → Lo → AH → Prop := fun rest ρ H' => H' = H ∧ Sx2 fun gs t => A3 (Ms H rest gs) (ρ .octets = some (.int t)) (t + sumS gs = sumS fs)
 refine forA_inv I2 ?_ ?_ _ _ _ ⟨rfl, fs, 0, h2, rfl, by omega⟩
 ·rintro v rest ρ H' ⟨rfl, gs, t, hm, ht, hs⟩ R rnx rct rbr rrt
  cases hm with
  | cons m hm =>
   rw [sumS_cons] at hs
   show exSs Φ _ _ _ _
   walk_at "s"
   refine m_size m ?_
   walk_at "s"
   exact rnx _ _ h1 ⟨rfl, _, _, hm, rfl, by omega⟩
 ·rintro ρ H' ⟨rfl, gs, t, hm, ht, hs⟩
  cases hm
  walk_at "s"
  rw [show t = sumS fs from by simp [sumS] at hs ⊢; omega]
  exact hQ
noncomputable def loOf (fs : List Fi) : Int := match fs with | [] => 0 | f :: r => r.foldl (fun m f => if f.lo < m then f.lo else m) f.lo
noncomputable def hiOf (fs : List Fi) : Int := match fs with | [] => 0 | f :: r => r.foldl (fun m f => if m < f.hi then f.hi else m) f.hi
theorem icmp_lo {p q : Int} (hp : Pl p) (hq : Pl q) (t : Tg) : icmp (U p) t (U q) t < 0 ↔ p < q := by
 unfold icmp
 rw [ucmp_U hp hq]
 unfold ucP
 split <;> split <;> omega
theorem icmp_hi {p q : Int} (hp : Pl p) (hq : Pl q) (t : Tg) : 0 < icmp (U p) t (U q) t ↔ q < p := by
 unfold icmp
 rw [ucmp_U hp hq]
 unfold ucP
 split <;> split <;> omega
theorem FsOk.pl {fs : List Fi} (h : FsOk fs) {f : Fi} (hf : f ∈ fs) : Pl f.lo ∧ Pl f.hi := by
 have := h f hf
 unfold Fi.ok at this
 unfold Pl; omega
theorem FsOk.tail {f : Fi} {fs : List Fi} (h : FsOk (f :: fs)) : FsOk fs := fun g hg => h g (.tail _ hg)
theorem FsOk.sub {fs gs : List Fi} (h : FsOk fs) (k : ∀ g ∈ gs, g ∈ fs) : FsOk gs := fun g hg => h g (k g hg)
noncomputable def C_range (Φ : Phi) : Prop := ∀ (l o : Addr) (fs : List Fi) (H : AH) (Q : PV), ML H l fs → OrdAt H o → fs.length ≤ 1000 → fs ≠ [] → FsOk fs → (∀ H', Ext H H' → Q (.tup [.bytes (ikb (loOf fs) 9), .bytes (ikb (hiOf fs) 1)]) H') → Φ .key_range [.ref l, .ref o] H Q
set_option tactic.hygienic true in
theorem c_range (k : Nat) : C_range (phi (k + 5)) := by
 intro l o fs H Q hl ho hz hne hok hQ
 obtain ⟨vs, h1, h2⟩ := hl
 cases fs with
 | nil => exact absurd rfl hne
 | cons f0 fs =>
 cases h2 with
 | cons m0 h2 =>
 rename_i a0 vs
 refine phi_call (body := key_range_body) rfl rfl ?_; intro ρ0
 have CI : C_icmp (phi (k + 4)) := c_icmp k
 generalize phi (k + 4) = Φ at CI ⊢
 have hlen := h2.len
 have hz' : (V.ref a0 :: vs).length ≤ 1000 := by simp at hz ⊢; omega
 walk_at "s"
 refine i_list h1 (by decide) (by decide) (u := .ref a0) rfl ?_
 refine m_smallest m0 ?_
 walk_at "s"
 refine i_list h1 (by decide) (by decide) (u := .ref a0) rfl ?_
 refine m_largest m0 ?_
 walk_at "s"
 refine d_list h1 (by decide) (by decide) (by unfold smallL; omega) ?_
 refine n_new fun b H' x hb hlb => ?_
 have hdrop : List.drop (Int.toNat 1) (V.ref a0 :: vs) = vs := rfl
 rw [hdrop] at hlb
 refine f_list hlb (by unfold smallL; simp at hz'; omega) ?_
 obtain ⟨g, u, gu, o1, o2, o3⟩ := ho.ext x
 let I3 : List V → Lo → AH → Prop := fun rest ρ H'' => H' = H'' ∧ Sx3 fun gs s t => A9 (Ms H' rest gs) (ρ .smallest = some (.bytes (ikb s 9))) (ρ .largest = some (.bytes (ikb t 1))) (ρ .order = some (.ref o)) (Pl s) (Pl t) (FsOk gs) (gs.foldl (fun m f => if f.lo < m then f.lo else m) s = loOf (f0 :: fs)) (gs.foldl (fun m f => if m < f.hi then f.hi else m) t = hiOf (f0 :: fs))
 refine forA_inv I3 ?_ ?_ _ _ _
  ⟨rfl, fs, f0.lo, f0.hi, h2.ext x, rfl, rfl, rfl, (hok.pl (.head _)).1, (hok.pl (.head _)).2, hok.tail, rfl, rfl⟩
 ·rintro v rest ρ H'' ⟨rfl, gs, s, t, hm, r1, r2, r3, ps, pt, hgs, e1, e2⟩ R rnx rct rbr rrt
  cases hm with
  | cons m hm =>
   rename_i a f gs
   obtain ⟨pl, ph⟩ := hgs.pl (.head _)
   show exSs Φ _ _ _ _
   walk_at "s"
   refine k_meth o1 rfl ?_
   walk_at "s"
   refine m_smallest m ?_
   walk_at "s"
   refine CI _ _ _ _ _ _ _ ⟨g, u, gu, o1, o2, o3⟩ (U_len _) (U_len _) ?_
   walk_at "s"
   rw [List.foldl_cons] at e1 e2
   have hi2 : ∀ (s' : Int) (ρ' : Lo), s' = (if f.lo < s then f.lo else s) → ρ' .meta = some (.ref a) → ρ' .smallest = some (.bytes (ikb s' 9)) → ρ' .largest = some (.bytes (ikb t 1)) → ρ' .order = some (.ref o) → exSs Φ (.cons (.ite (.cmp .gt (.meth (.var .order) .compare (.cons (.attr (.var .«meta») .largest) (.cons (.var .largest) .nil))) (.int 0)) (.cons (.asg (.nm .largest) (.attr (.var .«meta») .largest)) .nil) .nil) .nil) ρ' H' R := fun s' ρ' es q1 q2 q3 q4 => by
    have ps' : Pl s' := by rw [es]; split <;> assumption
    walk_at "s"
    refine k_meth o1 rfl ?_
    walk_at "s"
    refine m_largest m ?_
    walk_at "s"
    refine CI _ _ _ _ _ _ _ ⟨g, u, gu, o1, o2, o3⟩ (U_len _) (U_len _) ?_
    walk_at "s"
    refine k_ite (fun c => ?_) (fun c => ?_)
    ·rw [ci_gt_t, icmp_hi ph pt] at c
     rw [if_pos c] at e2
     walk_at "s"
     refine m_largest m ?_
     walk_at "s"
     exact rnx _ _ hlb ⟨rfl, gs, s', f.hi, hm, by exact q2, rfl, by exact q4, ps', ph, hgs.tail, by rw [es]; exact e1, e2⟩
    ·replace c := ci_gt_f.mp c
     have c : ¬ t < f.hi := fun z => by have := (icmp_hi ph pt (tq 1)).mpr z; omega
     rw [if_neg c] at e2
     walk_at "s"
     exact rnx _ _ hlb ⟨rfl, gs, s', t, hm, q2, q3, q4, ps', pt, hgs.tail, by rw [es]; exact e1, e2⟩
   refine k_ite (fun c => ?_) (fun c => ?_)
   ·rw [ci_lt_t, icmp_lo pl ps] at c
    walk_at "s"
    refine m_smallest m ?_
    refine x_nil (K_nx ?_)
    exact hi2 f.lo _ (by rw [if_pos c]) (by exact rfl) (by exact rfl) (by exact r2) (by exact r3)
   ·replace c := ci_lt_f.mp c
    have c : ¬ f.lo < s := fun z => by have := (icmp_lo pl ps (tq 9)).mpr z; omega
    refine x_nil (K_nx ?_)
    exact hi2 s _ (by rw [if_neg c]) (by exact rfl) (by exact r1) (by exact r2) (by exact r3)
 ·rintro ρ H'' ⟨rfl, gs, s, t, hm, r1, r2, r3, ps, pt, hgs, e1, e2⟩
  cases hm
  walk_at "s"
  refine ⟨sm rfl, ?_⟩
  rw [List.foldl_nil] at e1 e2
  rw [e1, e2]
  exact hQ _ x
noncomputable def PickAt (H : AH) (p op : Addr) : Prop := ∃ g o, Fld H p .Picker g ∧ g .order = some (.ref o) ∧ OrdAt H o ∧ g .options = some (.ref op)
theorem PickAt.ext {H H' : AH} (x : Ext H H') {p op : Addr} (h : PickAt H p op) : PickAt H' p op := let ⟨g, o, h1, h2, h3, h4⟩ := h; ⟨g, o, h1.ext x, h2, h3.ext x, h4⟩
noncomputable def C_urange (Φ : Phi) : Prop := ∀ (p op l : Addr) (fs : List Fi) (H : AH) (Q : PV), PickAt H p op → ML H l fs → fs.length ≤ 1000 → fs ≠ [] → FsOk fs → (∀ H', Ext H H' → Q (.tup [.bytes (U (loOf fs)), .bytes (U (hiOf fs))]) H') → Φ .Picker_user_range [.ref p, .ref l] H Q
theorem c_urange (k : Nat) : C_urange (phi (k + 6)) := by
 intro p op l fs H Q hp hl hz hne hok hQ
 obtain ⟨g, o, h1, h2, h3, h4⟩ := hp
 refine phi_call (body := Picker_user_range_body) rfl rfl ?_; intro ρ0
 have CR : C_range (phi (k + 5)) := c_range k
 have CU : C_user (phi (k + 5)) := c_user (k + 4)
 generalize phi (k + 5) = Φ at CR CU ⊢
 walk_at "s"
 refine g_attr h1 h2 ?_
 walk_at "s"
 refine CR _ _ _ _ _ hl h3 hz hne hok fun H' x => ?_
 walk_at "s"
 refine i_tup (by decide) (by decide) (u := .bytes (ikb (loOf fs) 9)) rfl ?_
 walk_at "s"
 refine CU _ _ _ _ (U_len _) ?_
 walk_at "s"
 refine i_tup (by decide) (by decide) (u := .bytes (ikb (hiOf fs) 1)) rfl ?_
 walk_at "s"
 refine CU _ _ _ _ (U_len _) ?_
 walk_at "s"
 refine ⟨sm rfl, ?_⟩
 walk_at "s"
 exact hQ _ x
noncomputable def kLt (f : Fi) (u : List UInt8) (t : Tg) : Prop := icmp (U f.hi) (tq 1) u t < 0
set_option tactic.hygienic true in
theorem icmp_le {p q : Int} (hp : Pl p) (hq : Pl q) {t t' : Tg} (h : ¬ t'.v < t.v) : icmp (U p) t (U q) t' < 0 ↔ p < q := by
 unfold icmp
 rw [ucmp_U hp hq, if_neg h]
 unfold ucP
 constructor
 ·intro z
  split at z <;> rename_i c
  ·split at z <;> omega
  ·split at z <;> omega
 ·intro z
  rw [if_pos z, if_pos (by omega)]; omega
theorem tq_le {q : Int} (h1 : 1 ≤ q) (h2 : q ≤ 9) : ¬ (tq q).v < (tq 1).v := by
 have : q = 1 ∨ q = 2 ∨ q = 3 ∨ q = 4 ∨ q = 5 ∨ q = 6 ∨ q = 7 ∨ q = 8 ∨ q = 9 := by omega
 rcases this with rfl | rfl | rfl | rfl | rfl | rfl | rfl | rfl | rfl <;> decide
theorem seek_le : ¬ seekT.v < (tq 1).v := by decide
noncomputable def C_find (Φ : Phi) : Prop := ∀ (l o : Addr) (fs : List Fi) (u : List UInt8) (t : Tg) (H : AH) (Q : PV), ML H l fs → OrdAt H o → fs.length ≤ 100 → u.length ≤ 1000 →
 (∀ (i j : Nat) f g, i ≤ j → fs[i]? = some f → fs[j]? = some g → kLt g u t → kLt f u t) →
 (∀ r : Nat, r ≤ fs.length → (∀ (i : Nat) f, i < r → fs[i]? = some f → kLt f u t) → (∀ f, fs[r]? = some f → ¬ kLt f u t) → Q (.int r) H) → Φ .find_file [.ref l, .bytes (u ++ t.l), .ref o] H Q
theorem c_find (k : Nat) : C_find (phi (k + 5)) := by
 intro l o fs u t H Q hl ho hz hu hmono hQ
 obtain ⟨ms, h1, h2⟩ := hl
 have hlen := h2.len
 obtain ⟨g, uo, gu, o1, o2, o3⟩ := ho
 refine phi_call (body := find_file_body) rfl rfl ?_; intro ρ0
 have CI : C_icmp (phi (k + 4)) := c_icmp k
 generalize phi (k + 4) = Φ at CI ⊢
 walk_at "s"
 refine ms_len h1 h2 (by omega) ?_
 walk_at "s"
 refine x_while fun P hP => ?_
 let I1 : Nat → Lo → AH → Prop := fun n ρ H' => H = H' ∧ Sx2 fun (lo hi : Nat) => A10 (ρ .low = some (.int lo)) (ρ .high = some (.int hi)) (ρ .files = some (.ref l)) (ρ .order = some (.ref o)) (ρ .ikey = some (.bytes (u ++ t.l))) (lo ≤ hi) (hi ≤ fs.length) (∀ (i : Nat) f, i < lo → fs[i]? = some f → kLt f u t) (∀ (i : Nat) f, hi ≤ i → fs[i]? = some f → ¬ kLt f u t) (n = hi - lo)
 refine while_ind (P := P) I1 ?_ _ _ _
  ⟨rfl, 0, fs.length, rfl, rfl, rfl, rfl, rfl, by omega, by omega, fun i f hi => by omega, fun i f hi hf => (by rw [List.getElem?_eq_none hi] at hf; cases hf), rfl⟩
 rintro n ρ H' ⟨rfl, lo, hi, r1, r2, r3, r4, r5, hle, hhi, hA, hB, rfl⟩ ih
 refine hP ρ H ?_
 walk_at "s"
 refine k_ite (fun c => ?_) (fun c => ?_)
 ·replace c := ci_lt_t.mp c
  walk_at "s"
  refine o_fdiv (by decide) (by decide) ?_
  have em : (((lo : Int) + hi) / 2) = (((lo + hi) / 2 : Nat) : Int) := by omega
  rw [em]
  have hm1 : lo ≤ (lo + hi) / 2 := by omega
  have hm2 : (lo + hi) / 2 < hi := by omega
  generalize (lo + hi) / 2 = mid at hm1 hm2
  have hmi : mid < fs.length := by omega
  have hf : fs[mid]? = some fs[mid] := List.getElem?_eq_getElem hmi
  generalize fs[mid] = f at hf
  walk_at "s"
  refine k_meth o1 rfl ?_
  walk_at "s"
  refine ms_idx (i := (mid : Int)) h1 h2 (by omega) (by omega) (by simpa using hf) fun am hm _ => ?_
  walk_at "s"
  refine m_largest hm ?_
  walk_at "s"
  refine CI _ _ _ _ _ _ _ ⟨g, uo, gu, o1, o2, o3⟩ (U_len _) hu ?_
  walk_at "s"
  refine k_ite (fun c => ?_) (fun c => ?_)
  ·replace c := ci_lt_t.mp c
   walk_at "s"
   refine ih (hi - (mid + 1)) _ _ (by omega) ⟨rfl, mid + 1, hi, by exact rfl, by exact r2, by exact r3, by exact r4, by exact r5, by omega, hhi, fun i f' hi' hf' => ?_, hB, rfl⟩
   by_cases q : i < lo
   ·exact hA i f' q hf'
   ·exact hmono i mid f' f (by omega) hf' hf c
  ·replace c := ci_lt_f.mp c
   walk_at "s"
   refine ih (mid - lo) _ _ (by omega) ⟨rfl, lo, mid, by exact r1, by exact rfl, by exact r3, by exact r4, by exact r5, by omega, by omega, hA, fun i f' hi' hf' z => ?_, rfl⟩
   have := hmono mid i f f' hi' hf hf' z
   unfold kLt at this; omega
 ·replace c := ci_lt_f.mp c
  have e : lo = hi := by omega
  subst e
  walk_at "s"
  exact hQ lo hhi hA fun f hf => hB lo f (Nat.le_refl _) hf
noncomputable def Srt (fs : List Fi) : Prop := ∀ (i j : Nat) f g, i < j → fs[i]? = some f → fs[j]? = some g → f.hi < g.lo
theorem Srt.tail {f : Fi} {fs : List Fi} (h : Srt (f :: fs)) : Srt fs := fun i j a b hij ha hb => h (i + 1) (j + 1) a b (by omega) (by simpa using ha) (by simpa using hb)
theorem touch_from {p : Int} : ∀ {fs : List Fi} {r : Nat}, FsOk fs → Srt fs → (∀ (i : Nat) f, i < r → fs[i]? = some f → f.hi < p) → p ≠ 8 → ∀ hi, touchP fs p hi = touchP (fs.drop r) p hi
 | [], r, _, _, _, _, hi => by simp
 | f :: fs, 0, _, _, _, _, hi => rfl
 | f :: fs, r + 1, hok, hs, h, h8, hi => by
  have h0 := h 0 f (by omega) rfl
  have ih := touch_from (r := r) hok.tail hs.tail (fun i g hi hg => h (i + 1) g (by omega) (by simpa using hg)) h8 hi
  rw [List.drop_succ_cons, ← ih]
  unfold touchP
  rw [List.filter_cons, if_neg (by rw [tch_iff]; omega)]
theorem touch_one {p : Int} {fs : List Fi} {r : Nat} (hok : FsOk fs) (hs : Srt fs) (hp : Pl p) (hr : r ≤ fs.length) (h1 : ∀ (i : Nat) f, i < r → fs[i]? = some f → f.hi < p) (h2 : ∀ f, fs[r]? = some f → ¬ f.hi < p) :
  touchP fs p p = match fs[r]? with | some f => if f.lo ≤ p then [f] else [] | none => [] := by
 have h8 : p ≠ 8 := by have := hp.2; omega
 rw [touch_from hok hs h1 h8]
 cases hf : fs[r]? with
 | none =>
  have : fs.drop r = [] := by rw [List.drop_eq_nil_iff]; exact List.getElem?_eq_none_iff.mp hf
  rw [this]; rfl
 | some f =>
  have hlt := (List.getElem?_eq_some_iff.mp hf).1
  have e : fs.drop r = f :: fs.drop (r + 1) := by
   rw [List.drop_eq_getElem_cons hlt, (List.getElem?_eq_some_iff.mp hf).2]
  rw [e]
  have n2 := h2 f hf
  have z : touchP (fs.drop (r + 1)) p p = [] := by
   unfold touchP
   rw [List.filter_eq_nil_iff]
   intro g hg
   obtain ⟨j, hj, rfl⟩ := List.getElem_of_mem hg
   rw [List.getElem_drop]
   have hj' : r + 1 + j < fs.length := by simp at hj; omega
   have := hs r (r + 1 + j) f _ (by omega) hf (List.getElem?_eq_getElem hj')
   rw [tch_iff]; omega
  have : touchP (f :: fs.drop (r + 1)) p p = (if tch p p f = true then [f] else []) ++ touchP (fs.drop (r + 1)) p p := by
   unfold touchP; rw [List.filter_cons]; split <;> rfl
  rw [this, z, List.append_nil]
  dsimp only
  by_cases c : f.lo ≤ p
  ·rw [if_pos c, if_pos (by rw [tch_iff]; omega)]
  ·rw [if_neg c, if_neg (by rw [tch_iff]; omega)]
theorem mono_of {fs : List Fi} (hok : FsOk fs) (hs : Srt fs) {p : Int} (hp : Pl p) {t : Tg} (ht : ¬ t.v < (tq 1).v) : ∀ (i j : Nat) f g, i ≤ j → fs[i]? = some f → fs[j]? = some g → kLt g (U p) t → kLt f (U p) t := by
 intro i j f g hij hf hg h
 have pf := hok.pl (List.mem_of_getElem? hf)
 have pg := hok.pl (List.mem_of_getElem? hg)
 unfold kLt at h ⊢
 rw [icmp_le pg.2 hp ht] at h
 rw [icmp_le pf.2 hp ht]
 by_cases q : i = j
 ·subst q; rw [hf] at hg; cases hg; exact h
 ·have := hs i j f g (by omega) hf hg
  have := (hok g (List.mem_of_getElem? hg)).2.1
  omega
theorem rangeV_inv {a b : Int} {v : V} {rest : List V} (h : v :: rest = rangeV a b) : a < b ∧ v = .int a ∧ rest = rangeV (a + 1) b := by
 by_cases q : a < b
 ·obtain ⟨n, hn⟩ : ∃ n : Nat, (b - a).toNat = n + 1 := ⟨(b - a).toNat - 1, by omega⟩
  have hn' : (b - (a + 1)).toNat = n := by omega
  unfold rangeV at h ⊢
  rw [hn, List.range_succ_eq_map, List.map_cons, List.map_map] at h
  injection h with h1 h2
  refine ⟨q, by rw [h1]; simp, ?_⟩
  rw [h2, hn']
  refine List.map_congr_left fun i _ => ?_
  simp only [Function.comp]
  congr 1; omega
 ·exfalso
  unfold rangeV at h
  rw [show (b - a).toNat = 0 from by omega] at h
  cases h
theorem rangeV_nil_inv {a b : Int} (h : [] = rangeV a b) : b ≤ a := by
 by_cases q : a < b
 ·exfalso
  obtain ⟨n, hn⟩ : ∃ n : Nat, (b - a).toNat = n + 1 := ⟨(b - a).toNat - 1, by omega⟩
  unfold rangeV at h
  rw [hn, List.range_succ_eq_map] at h
  cases h
 ·omega
theorem downV_inv {a : Int} {v : V} {rest : List V} (h : v :: rest = downV a) : 0 ≤ a ∧ v = .int a ∧ rest = downV (a - 1) := by
 by_cases q : 0 ≤ a
 ·obtain ⟨n, hn⟩ : ∃ n : Nat, (a + 1).toNat = n + 1 := ⟨(a + 1).toNat - 1, by omega⟩
  have hn' : (a - 1 + 1).toNat = n := by omega
  unfold downV at h ⊢
  rw [hn, List.range_succ_eq_map, List.map_cons, List.map_map] at h
  injection h with h1 h2
  refine ⟨q, by rw [h1]; simp, ?_⟩
  rw [h2, hn']
  refine List.map_congr_left fun i _ => ?_
  simp only [Function.comp]
  congr 1; omega
 ·exfalso
  unfold downV at h
  rw [show (a + 1).toNat = 0 from by omega] at h
  cases h
theorem downV_nil_inv {a : Int} (h : [] = downV a) : a < 0 := by
 by_cases q : 0 ≤ a
 ·exfalso
  obtain ⟨n, hn⟩ : ∃ n : Nat, (a + 1).toNat = n + 1 := ⟨(a + 1).toNat - 1, by omega⟩
  unfold downV at h
  rw [hn, List.range_succ_eq_map] at h
  cases h
 ·omega
theorem cB_le {p q : Int} (hp : Pl p) (hq : Pl q) : cmpB .le (U p) (U q) = decide (p ≤ q) := by
 show (bLt (U p) (U q) || decide (U p = U q)) = _
 rw [U_lt hp hq]
 by_cases h : p = q
 ·subst h; simp
 ·have : U p ≠ U q := fun z => h (U_inj hp hq z)
  simp only [this, decide_false, Bool.or_false, decide_eq_decide]; omega
theorem cB_ge {p q : Int} (hp : Pl p) (hq : Pl q) : cmpB .ge (U p) (U q) = decide (q ≤ p) := by
 show (bLt (U q) (U p) || decide (U p = U q)) = _
 rw [U_lt hq hp]
 by_cases h : p = q
 ·subst h; simp
 ·have : U p ≠ U q := fun z => h (U_inj hp hq z)
  simp only [this, decide_false, Bool.or_false, decide_eq_decide]; omega
theorem cB_lt {p q : Int} (hp : Pl p) (hq : Pl q) : cmpB .lt (U p) (U q) = decide (p < q) := U_lt hp hq
theorem cB_gt {p q : Int} (hp : Pl p) (hq : Pl q) : cmpB .gt (U p) (U q) = decide (q < p) := U_lt hq hp
structure LvOk (L : List (List Fi)) : Prop where
 ok : LOk L
 srt : ∀ (i : Nat) fs, 1 ≤ i → L[i]? = some fs → Srt fs
 inc : ∀ fs, L[0]? = some fs → ∀ (i j : Nat) f g, i < j → fs[i]? = some f → fs[j]? = some g → f.n < g.n
 nod : (L.flatten.map (·.n)).Nodup
 tot : L.flatten.length < 64
 pos : 0 < L.length
inductive Cs (H : AH) : List V → List (Int × Fi) → Prop
 | nil : Cs H [] []
 | cons {a f l vs cs} : MetaAt H a f → Cs H vs cs → Cs H (.tup [.int l, .ref a] :: vs) ((l, f) :: cs)
theorem Cs.mono {H H' : AH} {vs cs} (h : Cs H vs cs) (t : ∀ {a f}, MetaAt H a f → MetaAt H' a f) : Cs H' vs cs := by
 induction h with
 | nil => exact .nil
 | cons a _ ih => exact .cons (t a) ih
theorem Cs.ext {H H' : AH} (x : Ext H H') {vs fs} (h : Cs H vs fs) : Cs H' vs fs := h.mono fun a => a.ext x
theorem Cs.len {H : AH} {vs fs} (h : Cs H vs fs) : vs.length = fs.length := by
 induction h with
 | nil => rfl
 | cons _ _ ih => exact congrArg Nat.succ ih
theorem Cs.app {H : AH} {vs fs ws gs} (h : Cs H vs fs) (q : Cs H ws gs) : Cs H (vs ++ ws) (fs ++ gs) := by
 induction h with
 | nil => exact q
 | cons a _ ih => exact .cons a ih
noncomputable def candLv (p : Int) : Int → List (List Fi) → List (Int × Fi)
 | _, [] => []
 | j, fs :: r => (touchP fs p p).map (j, ·) ++ candLv p (j + 1) r
noncomputable def candP (p : Int) (L : List (List Fi)) : List (Int × Fi) := match L with
 | [] => []
 | fs :: r => (touchP fs p p).reverse.map (0, ·) ++ candLv p 1 r
theorem candLv_cons {p j : Int} {fs : List Fi} {r : List (List Fi)} : candLv p j (fs :: r) = (touchP fs p p).map (j, ·) ++ candLv p (j + 1) r := rfl
theorem candLv_len {p : Int} {L : List (List Fi)} {j : Int} : (candLv p j L).length ≤ L.flatten.length := by
 induction L generalizing j with
 | nil => exact Nat.le_refl _
 | cons fs r ih =>
  rw [candLv_cons, List.length_append, List.length_map, List.flatten_cons, List.length_append]
  exact Nat.add_le_add (List.length_filter_le _ _) ih
theorem candP_len {p : Int} {L : List (List Fi)} : (candP p L).length ≤ L.flatten.length := by
 cases L with
 | nil => simp [candP]
 | cons fs r =>
  have := candLv_len (p := p) (L := r) (j := 1)
  have h2 : (touchP fs p p).length ≤ fs.length := List.length_filter_le _ _
  simp only [candP, List.length_append, List.length_map, List.length_reverse, List.flatten_cons]; omega
theorem drop_get {α : Type} {L : List α} {i : Nat} {x : α} (h : L[i]? = some x) : L.drop i = x :: L.drop (i + 1) := by
 have hlt := (List.getElem?_eq_some_iff.mp h).1
 rw [List.drop_eq_getElem_cons hlt, (List.getElem?_eq_some_iff.mp h).2]
noncomputable def C_cand (Φ : Phi) : Prop := ∀ (v : Addr) (L : List (List Fi)) (T B lv p q : Int) (H : AH) (Q : PV), VerAt H v L T B lv → LvOk L → Pl p → 1 ≤ q → q ≤ 9 →
 (∀ a vs H', Ext H H' → H a = none → H' a = some (.list vs) → Cs H' vs (candP p L) → Q (.ref a) H') → Φ .Version_candidates [.ref v, .bytes (ikb p q)] H Q
theorem c_cand (k : Nat) : C_cand (phi (k + 6)) := by
 intro v L T B lv p q H0 Q hV hL hp hq1 hq2 hQ
 obtain ⟨gv, FL, vv, ov, hf1, hf2, hf3, hf4, hf5, hf6, hf7, hf8⟩ := hV
 have h8 : p ≠ 8 := by have := hp.2; omega
 have hfew := hL.ok.few
 have htot := hL.tot
 refine phi_call (body := Version_candidates_body) rfl rfl ?_; intro ρ0
 have CU : C_user (phi (k + 5)) := c_user (k + 4)
 have CF : C_find (phi (k + 5)) := c_find k
 generalize phi (k + 5) = Φ at CU CF ⊢
 have hLne : ∃ fs0, L[0]? = some fs0 := ⟨L[0]'hL.pos, List.getElem?_eq_getElem hL.pos⟩
 obtain ⟨fs0, hfs0⟩ := hLne
 obtain ⟨hz0, hok0⟩ := hL.ok.each fs0 (List.mem_of_getElem? hfs0)
 obtain ⟨l0, q1, ms0, q2, q3⟩ := hf4.get hfs0
 have hms0 := q3.len
 walk_at "s"
 refine CU _ _ _ _ (U_len _) ?_
 walk_at "s"
 refine ⟨sm rfl, n_new fun af H1 x1 haf hl1 => ?_⟩
 walk_at "s"
 refine g_attr (hf1.ext x1) hf2 ?_
 walk_at "s"
 refine i_list (x1 _ _ hf3) (by decide) (by decide) q1 ?_
 walk_at "s"
 refine bi_lenL (x1 _ _ q2) (small_of hms0 (by omega)) ?_
 rw [hms0]
 walk_at "s"
 refine r_down (by omega) (by omega) ?_
 let I1 : List V → Lo → AH → Prop := fun rest ρ H => Sx2 fun (n : Nat) (vs : List V) => A10 (n ≤ fs0.length) (rest = downV ((n : Int) - 1)) (Ext H0 H) (H af = some (.list vs)) (Cs H0 vs ((touchP (fs0.drop n) p p).reverse.map (0, ·))) (ρ .level0 = some (.ref l0)) (ρ .user = some (.bytes (U p))) (ρ .found = some (.ref af)) (ρ .self = some (.ref v)) (ρ .ikey = some (.bytes (ikb p q)))
 refine forA_inv I1 ?_ ?_ _ _ _
  ⟨fs0.length, [], Nat.le_refl _, rfl, x1, hl1, by simp [touchP]; exact .nil, rfl, rfl, rfl, rfl, rfl⟩
 ·rintro w rest ρ H ⟨n, vs, hn, hr, X, hl, hC, r1, r2, r3, r4, r5⟩ R rnx rct rbr rrt
  obtain ⟨e1, rfl, rfl⟩ := downV_inv hr
  obtain ⟨m, rfl⟩ : ∃ m, n = m + 1 := ⟨n - 1, by omega⟩
  have hmf : fs0[m]? = some fs0[m] := List.getElem?_eq_getElem (by omega)
  generalize fs0[m] = f at hmf
  obtain ⟨am, gm, hm0⟩ := q3.get hmf
  have hm := hm0.ext X
  obtain ⟨pl, ph⟩ := hok0.pl (List.mem_of_getElem? hmf)
  have ev : (((m + 1 : Nat) : Int) - 1) = (m : Int) := by omega
  rw [ev]
  show exSs Φ _ _ _ _
  walk_at "s"
  refine i_list (X _ _ q2) (by omega) (by omega) (by simpa using gm) ?_
  walk_at "s"
  refine m_smallest hm ?_
  walk_at "s"
  refine CU _ _ _ _ (U_len _) ?_
  walk_at "s"
  rw [cB_le pl hp]
  have hvl := hC.len
  have hts : (touchP (fs0.drop (m + 1)) p p).length ≤ 100 := Nat.le_trans (List.length_filter_le _ _) (by rw [List.length_drop]; omega)
  rw [List.length_map, List.length_reverse] at hvl
  have hd : touchP (fs0.drop m) p p = (if tch p p f = true then [f] else []) ++ touchP (fs0.drop (m + 1)) p p := by
   rw [drop_get hmf]; unfold touchP; rw [List.filter_cons]; split <;> rfl
  have no : tch p p f = false → R .nx (upd (upd ρ .i (.int m)) .«meta» (.ref am)) H := fun ht => by
   refine rnx _ _ trivial ⟨m, vs, by omega, by rw [ev], X, hl, ?_, by exact r1, by exact r2, by exact r3, by exact r4, by exact r5⟩
   rw [hd, ht]; simpa using hC
  refine k_and (fun c => ?_) (fun c => ?_)
  ·have c := of_decide_eq_true c
   walk_at "s"
   refine m_largest hm ?_
   walk_at "s"
   refine CU _ _ _ _ (U_len _) ?_
   walk_at "s"
   rw [cB_le hp ph]
   refine k_ite (fun c2 => ?_) (fun c2 => ?_)
   ·have c2 := of_decide_eq_true c2
    walk_at "s"
    refine k_lm hl ?_
    walk_at "s"
    refine ⟨sm rfl, ?_⟩
    walk_at "s"
    refine l_append hl (by unfold smallL; omega) ?_
    walk_at "s"
    refine rnx _ _ trivial ⟨m, _, by omega, by rw [ev], X.set haf, set_same, ?_, by exact r1, by exact r2, by exact r3, by exact r4, by exact r5⟩
    rw [hd, if_pos (by rw [tch_iff]; omega), List.singleton_append, List.reverse_cons, List.map_append]
    exact hC.app (.cons hm0 .nil)
   ·have c2 := of_decide_eq_false c2
    walk_at "s"
    exact no (by rw [Bool.eq_false_iff]; intro z; rw [tch_iff] at z; omega)
  ·have c := of_decide_eq_false c
   refine k_f rfl ?_
   walk_at "s"
   exact no (by rw [Bool.eq_false_iff]; intro z; rw [tch_iff] at z; omega)
 ·rintro ρ H ⟨n, vs, hn, hr, X, hl, hC, r1, r2, r3, r4, r5⟩
  have hn0 := downV_nil_inv hr
  have : n = 0 := by omega
  subst this
  rw [List.drop_zero] at hC
  walk_at "s"
  refine g_attr (hf1.ext X) hf5 ?_
  walk_at "s"
  have hrr : -2 ^ 31 < (1 : Int) ∧ (1 : Int) < 2 ^ 31 ∧ -2 ^ 31 < (L.length : Int) ∧ (L.length : Int) < 2 ^ 31 := by refine ⟨by decide, by decide, ?_, ?_⟩ <;> omega
  with_reducible refine r_two hrr ?_
  have eL : L = fs0 :: L.drop 1 := by have := drop_get hfs0; simpa using this
  let I2 : List V → Lo → AH → Prop := fun rest ρ H => Sx3 fun (n : Nat) (vs : List V) (done : List (Int × Fi)) => A11 (1 ≤ n) (n ≤ L.length) (rest = rangeV n L.length) (Ext H0 H) (H af = some (.list vs)) (Cs H0 vs done) (done ++ candLv p n (L.drop n) = candP p L) (ρ .user = some (.bytes (U p))) (ρ .found = some (.ref af)) (ρ .self = some (.ref v)) (ρ .ikey = some (.bytes (ikb p q)))
  refine forA_inv I2 ?_ ?_ _ _ _
   ⟨1, vs, _, Nat.le_refl _, hL.pos, rfl, X, hl, hC, by rw [eL]; simp [candP], by exact r2, by exact r3, by exact r4, by exact r5⟩
  ·rintro w rest ρ H ⟨n, vs, done, hn1, hn2, hr, X, hl, hC, hcat, r2, r3, r4, r5⟩ R rnx rct rbr rrt
   obtain ⟨e1, rfl, rfl⟩ := rangeV_inv hr
   have hlt : n < L.length := by omega
   have hfs : L[n]? = some L[n] := List.getElem?_eq_getElem hlt
   generalize L[n] = fs at hfs
   obtain ⟨hz, hok⟩ := hL.ok.each fs (List.mem_of_getElem? hfs)
   have hsr := hL.srt n fs hn1 hfs
   obtain ⟨l, s1, ms, s2, s3⟩ := hf4.get hfs
   have hms := s3.len
   have hvl := hC.len
   have hdl : done.length ≤ 64 := by
    have := congrArg List.length hcat
    have h3 := candP_len (p := p) (L := L)
    rw [List.length_append] at this; omega
   show exSs Φ _ _ _ _
   walk_at "s"
   refine g_attr (hf1.ext X) hf2 ?_
   walk_at "s"
   refine i_list (X _ _ hf3) (by omega) (by omega) (by simpa using s1) ?_
   walk_at "s"
   refine g_attr (hf1.ext X) hf6 ?_
   walk_at "s"
   refine CF l ov fs (U p) (tq q) _ _ ⟨ms, X _ _ s2, s3.ext X⟩ (hf7.ext X) hz (U_len _) (mono_of hok hsr hp (tq_le hq1 hq2)) fun r hr1 hr2 hr3 => ?_
   have ht1 := touch_one hok hsr hp hr1 (fun i f hi hf => by have := hr2 i f hi hf; unfold kLt at this; rwa [icmp_le (hok.pl (List.mem_of_getElem? hf)).2 hp (tq_le hq1 hq2)] at this)
    (fun f hf z => hr3 f hf (by unfold kLt; rwa [icmp_le (hok.pl (List.mem_of_getElem? hf)).2 hp (tq_le hq1 hq2)]))
   have hdrop : candLv p n (L.drop n) = (touchP fs p p).map ((n : Int), ·) ++ candLv p ((n : Int) + 1) (L.drop (n + 1)) := by rw [drop_get hfs]; rfl
   rw [hdrop] at hcat
   have no : touchP fs p p = [] → R .nx (upd (upd (upd ρ .level (.int n)) .files (.ref l)) .i (.int r)) H := fun ht => by
    refine rnx _ _ trivial ⟨n + 1, vs, done, by omega, hlt, by rw [Int.natCast_add]; rfl, X, hl, hC, ?_, by exact r2, by exact r3, by exact r4, by exact r5⟩
    rw [ht] at hcat; simpa using hcat
   walk_at "s"
   refine bi_lenL (X _ _ s2) (small_of hms (by omega)) ?_
   rw [hms]
   walk_at "s"
   refine k_and (fun c => ?_) (fun c => ?_)
   ·replace c := ci_lt_t.mp c
    have hrl : r < fs.length := by omega
    have hrf : fs[r]? = some fs[r] := List.getElem?_eq_getElem hrl
    generalize fs[r] = f at hrf
    obtain ⟨am, gm, hm0⟩ := s3.get hrf
    have hm := hm0.ext X
    obtain ⟨pl, ph⟩ := hok.pl (List.mem_of_getElem? hrf)
    simp only [hrf] at ht1
    walk_at "s"
    refine i_list (X _ _ s2) (by omega) (by omega) (by simpa using gm) ?_
    refine m_smallest hm ?_
    walk_at "s"
    refine CU _ _ _ _ (U_len _) ?_
    walk_at "s"
    rw [cB_le pl hp]
    refine k_ite (fun c2 => ?_) (fun c2 => ?_)
    ·have c2 := of_decide_eq_true c2
     rw [if_pos c2] at ht1
     walk_at "s"
     refine k_lm hl ?_
     walk_at "s"
     refine i_list (X _ _ s2) (by omega) (by omega) (by simpa using gm) ?_
     walk_at "s"
     refine ⟨sm rfl, ?_⟩
     walk_at "s"
     refine l_append hl (by unfold smallL; omega) ?_
     walk_at "s"
     refine rnx _ _ trivial ⟨n + 1, _, done ++ [((n : Int), f)], by omega, hlt, by rw [Int.natCast_add]; rfl, X.set haf, set_same, hC.app (.cons hm0 .nil), ?_, by exact r2, by exact r3, by exact r4, by exact r5⟩
     rw [ht1] at hcat; rw [List.append_assoc]; simpa using hcat
    ·have c2 := of_decide_eq_false c2
     rw [if_neg c2] at ht1
     walk_at "s"
     exact no ht1
   ·replace c := ci_lt_f.mp c
    have : fs[r]? = none := List.getElem?_eq_none (by omega)
    simp only [this] at ht1
    refine k_f rfl ?_
    walk_at "s"
    exact no ht1
  ·rintro ρ H ⟨n, vs, done, hn1, hn2, hr, X, hl, hC, hcat, r2, r3, r4, r5⟩
   have hn0 := rangeV_nil_inv hr
   have : n = L.length := by omega
   subst this
   walk_at "s"
   refine hQ af vs H X haf hl ?_
   rw [List.drop_length] at hcat
   rw [← hcat]
   rw [show candLv p (L.length : Int) [] = [] from rfl, List.append_nil]
   exact hC.ext X
theorem touch_ne {fs : List Fi} {r : Nat} {lo hi : Int} (hok : FsOk fs) (hs : Srt fs) (h1 : ∀ (i : Nat) f, i < r → fs[i]? = some f → tch lo hi f = false) (h2 : ∀ f, fs[r]? = some f → lo = 8 ∨ lo ≤ f.hi) :
  touchP fs lo hi ≠ [] ↔ ∃ f, fs[r]? = some f ∧ (hi = 8 ∨ f.lo ≤ hi) := by
 constructor
 ·intro h
  obtain ⟨g, hg⟩ := List.exists_mem_of_ne_nil _ h
  obtain ⟨hm, ht⟩ := touch_mem.mp hg
  obtain ⟨j, hj, rfl⟩ := List.getElem_of_mem hm
  have ej : fs[j]? = some fs[j] := List.getElem?_eq_getElem hj
  have t2 := (tch_iff.mp ht).2
  by_cases q : j < r
  ·rw [h1 j _ q ej] at ht; cases ht
  ·by_cases q2 : j = r
   ·subst q2; exact ⟨_, ej, t2⟩
   ·have hr : r < fs.length := by omega
    refine ⟨fs[r], List.getElem?_eq_getElem hr, ?_⟩
    have := hs r j fs[r] fs[j] (by omega) (List.getElem?_eq_getElem hr) ej
    have := (hok fs[r] (List.getElem_mem hr)).2.1
    omega
 ·rintro ⟨f, hf, h⟩ z
  have : f ∈ touchP fs lo hi := touch_mem.mpr ⟨List.mem_of_getElem? hf, tch_iff.mpr ⟨h2 f hf, h⟩⟩
  rw [z] at this; cases this
section
variable {Φ : Phi} {ρ : Lo} {H : AH} {Q : PV} {x y : Nm} {p : Int} {a : Addr} {f : Fi}
theorem ev_ltC (CU : C_user Φ) (hm : MetaAt H a f) (hy : ρ y = some (ub p)) (hx : ρ x = some (.ref a)) (hp : Pb p) (hq : Pl f.hi) (h : Q (.bool (decide (p ≠ 8 ∧ f.hi < p))) H) :
  boK Φ true (.cons (.cmp .lt (.call .user_of (.cons (.attr (.var x) .largest) .nil)) (.var y)) .nil) ρ (.bool (!(ub p).isNone)) H Q := by
 by_cases h8 : p = 8
 ·unfold ub; rw [if_pos h8]
  refine k_and_f rfl ?_
  rw [decide_eq_false (fun z => z.1 h8)] at h; exact h
 ·have e : ub p = .bytes (U p) := if_neg h8
  rw [e] at hy ⊢
  refine k_and_t rfl ?_
  walk_at "s"
  refine m_largest hm ?_
  walk_at "s"
  refine CU _ _ _ _ (U_len _) ?_
  walk_at "s"
  rw [cB_lt hq ⟨hp.1, by have := hp.2; omega⟩]
  have : decide (p ≠ 8 ∧ f.hi < p) = decide (f.hi < p) := by simp [h8]
  rw [this] at h; exact h
theorem ev_gtC (CU : C_user Φ) (hm : MetaAt H a f) (hy : ρ y = some (ub p)) (hx : ρ x = some (.ref a)) (hp : Pb p) (hq : Pl f.lo) (h : Q (.bool (decide (p ≠ 8 ∧ p < f.lo))) H) :
  boK Φ true (.cons (.cmp .gt (.call .user_of (.cons (.attr (.var x) .smallest) .nil)) (.var y)) .nil) ρ (.bool (!(ub p).isNone)) H Q := by
 by_cases h8 : p = 8
 ·unfold ub; rw [if_pos h8]
  refine k_and_f rfl ?_
  rw [decide_eq_false (fun z => z.1 h8)] at h; exact h
 ·have e : ub p = .bytes (U p) := if_neg h8
  rw [e] at hy ⊢
  refine k_and_t rfl ?_
  walk_at "s"
  refine m_smallest hm ?_
  walk_at "s"
  refine CU _ _ _ _ (U_len _) ?_
  walk_at "s"
  rw [cB_gt hq ⟨hp.1, by have := hp.2; omega⟩]
  have : decide (p ≠ 8 ∧ p < f.lo) = decide (p < f.lo) := by simp [h8]
  rw [this] at h; exact h
end
noncomputable def C_laps (Φ : Phi) : Prop := ∀ (v : Addr) (L : List (List Fi)) (T B lv level lo hi : Int) (fs : List Fi) (H : AH) (Q : PV), VerAt H v L T B lv → LvOk L → 0 ≤ level → L[level.toNat]? = some fs → Pb lo → Pb hi →
 (∀ b H', Ext H H' → (b = true ↔ touchP fs lo hi ≠ []) → Q (.bool b) H') → Φ .Version_overlaps [.ref v, .int level, ub lo, ub hi] H Q
theorem c_laps (k : Nat) : C_laps (phi (k + 6)) := by
 intro v L T B lv level lo hi fs H0 Q hV hL h0 hfs hlo hhi hQ
 obtain ⟨gv, FL, vv, ov, hf1, hf2, hf3, hf4, hf5, hf6, hf7, hf8⟩ := hV
 have hfew := hL.ok.few
 obtain ⟨hz, hok⟩ := hL.ok.each fs (List.mem_of_getElem? hfs)
 obtain ⟨l, q1, ms, q2, q3⟩ := hf4.get hfs
 have hms := q3.len
 have hlt := (List.getElem?_eq_some_iff.mp hfs).1
 refine phi_call (body := Version_overlaps_body) rfl rfl ?_; intro ρ0
 have CU : C_user (phi (k + 5)) := c_user (k + 4)
 have CF : C_find (phi (k + 5)) := c_find k
 have CK : C_seek (phi (k + 5)) := c_seek (k + 2)
 generalize phi (k + 5) = Φ at CU CF CK ⊢
 walk_at "s"
 refine g_attr hf1 hf2 ?_
 walk_at "s"
 refine i_list hf3 h0 (by omega) q1 ?_
 walk_at "s"
 refine k_ite (fun c => ?_) (fun c => ?_)
 ·replace c := ci_eq_t.mp c
  walk_at "s"
  refine f_list q2 (small_of hms (by omega)) ?_
  let I1 : List V → Lo → AH → Prop := fun rest ρ H => H0 = H ∧ ∃ n : Nat, A5 (n ≤ fs.length) (rest = ms.drop n) (∀ (i : Nat) f, i < n → fs[i]? = some f → tch lo hi f = false) (ρ .low = some (ub lo)) (ρ .high = some (ub hi))
  refine forA_inv I1 ?_ ?_ _ _ _
   ⟨rfl, 0, by omega, rfl, fun i f hi => by omega, rfl, rfl⟩
  ·rintro w rest ρ H ⟨rfl, n, hn, hr, hno, r1, r2⟩ R rnx rct rbr rrt
   have hlt2 : n < ms.length := by
    by_cases q : n < ms.length
    ·exact q
    ·rw [List.drop_of_length_le (by omega)] at hr; cases hr
   have hf : fs[n]? = some fs[n] := List.getElem?_eq_getElem (by omega)
   generalize fs[n] = f at hf
   obtain ⟨am, gm, hm⟩ := q3.get hf
   rw [drop_get gm] at hr
   cases hr
   obtain ⟨pl, ph⟩ := hok.pl (List.mem_of_getElem? hf)
   show exSs Φ _ _ _ _
   walk_at "s"
   refine ev_ltC CU hm (by exact r1) (by exact rfl) hlo ph ?_
   walk_at "s"
   refine ev_gtC CU hm (by exact r2) (by exact rfl) hhi pl ?_
   walk_at "s"
   have no : tch lo hi f = false → ∀ ρ', ρ' .low = some (ub lo) → ρ' .high = some (ub hi) → R .nx ρ' H0 := fun ht ρ' s1 s2 => by
    refine rnx _ _ q2 ⟨rfl, n + 1, by omega, rfl, fun i g hi hg => ?_, s1, s2⟩
    by_cases q : i = n
    ·subst q; rw [hf] at hg; cases hg; exact ht
    ·exact hno i g (by omega) hg
   refine k_and (fun c1 => ?_) (fun c1 => ?_)
   ·walk_at "s"
    refine k_ite (fun c2 => ?_) (fun c2 => ?_)
    ·walk_at "s"
     refine rrt _ _ _ ?_
     walk_at "s"
     refine hQ true _ (.refl _) ⟨fun _ => ?_, fun _ => rfl⟩
     simp only [Bool.not_eq_true', decide_eq_false_iff_not] at c1 c2
     have : f ∈ touchP fs lo hi := touch_mem.mpr ⟨List.mem_of_getElem? hf, by rw [tch_iff]; omega⟩
     exact List.ne_nil_of_mem this
    ·walk_at "s"
     simp only [Bool.not_eq_true', Bool.not_eq_false', decide_eq_false_iff_not, decide_eq_true_eq] at c1 c2
     exact no (by rw [Bool.eq_false_iff]; intro z; rw [tch_iff] at z; omega) _ (by exact r1) (by exact r2)
   ·refine k_f rfl ?_
    walk_at "s"
    simp only [Bool.not_eq_false', decide_eq_true_eq] at c1
    exact no (by rw [Bool.eq_false_iff]; intro z; rw [tch_iff] at z; omega) _ (by exact r1) (by exact r2)
  ·rintro ρ H ⟨rfl, n, hn, hr, hno, r1, r2⟩
   have : n = fs.length := by
    have := List.drop_eq_nil_iff.mp hr.symm; omega
   subst this
   walk_at "s"
   refine hQ false _ (.refl _) ⟨fun z => (by cases z), fun z => absurd ?_ z⟩
   unfold touchP
   rw [List.filter_eq_nil_iff]
   intro f hf
   obtain ⟨j, hj, rfl⟩ := List.getElem_of_mem hf
   rw [hno j _ hj (List.getElem?_eq_getElem hj)]; decide
 ·replace c := ci_eq_f.mp c
  have hsr := hL.srt level.toNat fs (by omega) hfs
  have fin : ∀ (r : Nat) (ρ : Lo) (H : AH), Ext H0 H → r ≤ fs.length → (∀ (i : Nat) f, i < r → fs[i]? = some f → tch lo hi f = false) → (∀ f, fs[r]? = some f → lo = 8 ∨ lo ≤ f.hi) → ρ .i = some (.int r) → ρ .files = some (.ref l) → ρ .high = some (ub hi) →
    exSs Φ (.cons (.ite (.cmp .ge (.var .i) (.bi .len (.cons (.var .files) .nil))) (.cons (.ret (.bool false)) .nil) .nil) (.cons (.ret (.or (.cons (.isN (.var .high)) (.cons (.cmp .le (.call .user_of (.cons (.attr (.idx (.var .files) (.var .i)) .smallest) .nil)) (.var .high)) .nil)))) .nil)) ρ H (retK Q) := fun r ρ H X hr h1 h2 s1 s2 s3 => by
   have key := touch_ne (hi := hi) hok hsr h1 h2
   walk_at "s"
   refine bi_lenL (X _ _ q2) (small_of hms (by omega)) ?_
   rw [hms]
   walk_at "s"
   refine k_ite (fun c => ?_) (fun c => ?_)
   ·replace c := ci_ge_t.mp c
    walk_at "s"
    refine hQ false _ X ⟨fun z => (by cases z), fun z => ?_⟩
    obtain ⟨f, hf, _⟩ := key.mp z
    have := (List.getElem?_eq_some_iff.mp hf).1
    omega
   ·replace c := ci_ge_f.mp c
    have hf : fs[r]? = some fs[r] := List.getElem?_eq_getElem (by omega)
    generalize fs[r] = f at hf
    obtain ⟨am, gm, hm0⟩ := q3.get hf
    have hm := hm0.ext X
    obtain ⟨pl, ph⟩ := hok.pl (List.mem_of_getElem? hf)
    walk_at "s"
    by_cases h8 : hi = 8
    ·have e : (ub hi).isNone = true := by unfold ub; rw [if_pos h8]; rfl
     refine K_isN ?_
     rw [e]
     refine k_or_t rfl ?_
     walk_at "s"
     exact hQ true _ X ⟨fun _ => key.mpr ⟨f, hf, .inl h8⟩, fun _ => rfl⟩
    ·have e : ub hi = .bytes (U hi) := if_neg h8
     rw [e] at s3 ⊢
     refine k_or_f rfl ?_
     walk_at "s"
     refine i_list (X _ _ q2) (by omega) (by omega) (by simpa using gm) ?_
     refine m_smallest hm ?_
     walk_at "s"
     refine CU _ _ _ _ (U_len _) ?_
     walk_at "s"
     rw [cB_le pl ⟨hhi.1, by have := hhi.2; omega⟩]
     refine hQ _ _ X ?_
     rw [decide_eq_true_eq, key]
     constructor
     ·exact fun z => ⟨f, hf, .inr z⟩
     ·rintro ⟨g, hg, z⟩
      rw [hf] at hg; cases hg
      omega
  refine x_nil (K_nx (x_asg (v_int (K_asg ?_)))); intro r
  refine x_ite (v_notN (v_var (by exact rfl) (K_notN ?_)))
  by_cases h8 : lo = 8
  ·have e : (ub lo).isNone = true := by unfold ub; rw [if_pos h8]; rfl
   rw [e]
   refine k_f rfl (x_nil (K_nx ?_))
   exact fin 0 _ _ (.refl _) (by omega) (fun i f hi => by omega) (fun f _ => .inl h8) (by exact rfl) (by exact rfl) (by exact rfl)
  ·have e : ub lo = .bytes (U lo) := if_neg h8
   have e2 : (ub lo).isNone = false := by rw [e]; rfl
   rw [e2]
   have plo : Pl lo := ⟨hlo.1, by have := hlo.2; omega⟩
   refine k_t rfl ?_
   walk_at "s"
   rw [e]
   refine CK _ _ _ (U_len _) fun H1 x1 => ?_
   walk_at "s"
   refine g_attr (hf1.ext x1) hf6 ?_
   walk_at "s"
   refine CF l ov fs (U lo) seekT _ _ ⟨ms, x1 _ _ q2, q3.ext x1⟩ (hf7.ext x1) hz (U_len _) (mono_of hok hsr plo seek_le) fun r hr1 hr2 hr3 => ?_
   refine x_nil (K_nx ?_)
   refine fin r _ _ x1 hr1 (fun i f hi' hf => ?_) (fun f hf => ?_) (by exact rfl) (by exact rfl) (by exact rfl)
   ·have := hr2 i f hi' hf
    unfold kLt at this
    rw [icmp_le (hok.pl (List.mem_of_getElem? hf)).2 plo seek_le] at this
    rw [Bool.eq_false_iff]; intro z; rw [tch_iff] at z; omega
   ·have := hr3 f hf
    unfold kLt at this
    rw [icmp_le (hok.pl (List.mem_of_getElem? hf)).2 plo seek_le] at this
    right; omega
noncomputable def numsOf (L : List (List Fi)) : List Int := L.flatten.map (·.n)
noncomputable def C_numbers (Φ : Phi) : Prop := ∀ (v : Addr) (L : List (List Fi)) (T B lv : Int) (H : AH) (Q : PV), VerAt H v L T B lv → LvOk L →
 (∀ (a : Addr) (ns : List Int) H', Ext H H' → H a = none → H' a = some (.list (ns.map .int)) → ns.Perm (numsOf L) → ns.Pairwise (· ≤ ·) → Q (.ref a) H') → Φ .Version_numbers [.ref v] H Q
theorem intsV_map : ∀ ns : List Int, intsV (ns.map .int) = some ns
 | [] => rfl
 | n :: ns => by show (intsV (ns.map .int)).map (n :: ·) = _; rw [intsV_map ns]; rfl
theorem Lv.inv {H : AH} {v : V} {vs : List V} {L : List (List Fi)} (h : Lv H (v :: vs) L) : ∃ l fs L', v = .ref l ∧ L = fs :: L' ∧ ML H l fs ∧ Lv H vs L' := by
 cases h with
 | cons a r => exact ⟨_, _, _, rfl, rfl, a, r⟩
theorem Ms.inv {H : AH} {v : V} {vs : List V} {fs : List Fi} (h : Ms H (v :: vs) fs) : ∃ a f gs, v = .ref a ∧ fs = f :: gs ∧ MetaAt H a f ∧ Ms H vs gs := by
 cases h with
 | cons a r => exact ⟨_, _, _, rfl, rfl, a, r⟩
theorem c_numbers (k : Nat) : C_numbers (phi (k + 1)) := by
 intro v L T B lv H0 Q hV hL hQ
 obtain ⟨gv, FL, vv, ov, hf1, hf2, hf3, hf4, hf5, hf6, hf7, hf8⟩ := hV
 have hfew := hL.ok.few
 have htot := hL.tot
 have hvv := hf4.len
 refine phi_call (body := Version_numbers_body) rfl rfl ?_; intro ρ0
 generalize phi k = Φ
 walk_at "s"
 refine ⟨sm rfl, n_new fun af H1 x1 haf hl1 => ?_⟩
 walk_at "s"
 refine g_attr (hf1.ext x1) hf2 ?_
 refine f_list (x1 _ _ hf3) (small_of hvv (by omega)) ?_
 let I1 : List V → Lo → AH → Prop := fun rest ρ H => Sx2 fun (ns : List Int) (L' : List (List Fi)) => A5 (Ext H0 H) (Lv H0 rest L') (H af = some (.list (ns.map .int))) (ns ++ numsOf L' = numsOf L) (ρ .found = some (.ref af))
 refine forA_inv I1 ?_ ?_ _ _ _
  ⟨[], L, x1, hf4, hl1, rfl, rfl⟩
 ·rintro w rest ρ H ⟨ns, L', X, hL', hl, hcat, r1⟩ R rnx rct rbr rrt
  obtain ⟨l, fs, L'', rfl, rfl, ⟨ms, e1, e2⟩, hL''⟩ := hL'.inv
  have hms := e2.len
  have hcl : ns.length + fs.length + L''.flatten.length = L.flatten.length := by
   have := congrArg List.length hcat
   simp only [numsOf, List.length_append, List.length_map, List.flatten_cons] at this
   omega
  show exSs Φ _ _ _ _
  walk_at "s"
  refine f_list (X _ _ e1) (small_of hms (by omega)) ?_
  let I2 : List V → Lo → AH → Prop := fun rest2 ρ H => Sx2 fun (ms' : List Int) (gs : List Fi) => A5 (Ext H0 H) (Ms H0 rest2 gs) (H af = some (.list (ms'.map .int))) (ms' ++ gs.map (·.n) = ns ++ fs.map (·.n)) (ρ .found = some (.ref af))
  refine forA_inv I2 ?_ ?_ _ _ _
   ⟨ns, fs, X, e2, hl, rfl, by exact r1⟩
  ·rintro w2 rest2 ρ2 H2 ⟨ms', gs, X2, hgs, hl2, hcat2, s1⟩ R2 rnx2 rct2 rbr2 rrt2
   obtain ⟨a, f, gs', rfl, rfl, hm0, hgs'⟩ := hgs.inv
   have hm := hm0.ext X2
   have hlen : ms'.length + gs'.length + 1 = ns.length + fs.length := by
    have := congrArg List.length hcat2
    simp only [List.length_append, List.length_map, List.length_cons] at this
    omega
   show exSs Φ _ _ _ _
   walk_at "s"
   refine k_lm hl2 ?_
   walk_at "s"
   refine m_number hm ?_
   walk_at "s"
   refine l_append hl2 (by unfold smallL; rw [List.length_map]; omega) ?_
   walk_at "s"
   have XX := X2.set (O := .list (ms'.map .int ++ [.int f.n])) haf
   refine rnx2 _ _ ?_ ⟨ms' ++ [f.n], gs', XX, hgs', by rw [set_same, List.map_append]; rfl, by rw [List.append_assoc]; simpa using hcat2, by exact s1⟩
   exact XX _ _ e1
  ·rintro ρ2 H2 ⟨ms', gs, X2, hgs, hl2, hcat2, s1⟩
   cases hgs
   walk_at "s"
   refine rnx _ _ (X2 _ _ hf3) ⟨ms', L'', X2, hL'', hl2, ?_, s1⟩
   rw [List.map_nil, List.append_nil] at hcat2
   rw [hcat2, List.append_assoc, ← hcat]
   simp [numsOf]
 ·rintro ρ H ⟨ns, L', X, hL', hl, hcat, r1⟩
  cases hL'
  have e : ns = numsOf L := by simpa [numsOf] using hcat
  subst e
  walk_at "s"
  refine bi_sortedL hl (intsV_map _) (by rw [List.length_map]; unfold numsOf; rw [List.length_map]; exact htot) fun ns' h1 h2 => ?_
  refine n_new fun a2 H2 x2 ha2 hl2 => ?_
  walk_at "s"
  exact hQ a2 ns' H2 (X.trans x2) (X.none ha2) hl2 h1 h2
theorem icmp_self {f : Fi} (hl : Pl f.lo) (hh : Pl f.hi) (h : f.lo ≤ f.hi) : ¬ 0 < icmp (U f.lo) (tq 9) (U f.hi) (tq 1) := by
 unfold icmp
 rw [ucmp_U hl hh]
 unfold ucP
 have : (tq 1).v < (tq 9).v := by decide
 rw [if_pos this]
 split <;> split <;> omega
noncomputable def C_check (Φ : Phi) : Prop := ∀ (v : Addr) (L : List (List Fi)) (T B lv : Int) (H : AH) (Q : PV), VerAt H v L T B lv → LvOk L → (∀ H', Ext H H' → Q .none H') → Φ .Version_check [.ref v] H Q
theorem c_check (k : Nat) : C_check (phi (k + 5)) := by
 intro v L T B lv H0 Q hV hL hQ
 have hV0 := hV
 obtain ⟨gv, FL, vv, ov, hf1, hf2, hf3, hf4, hf5, hf6, hf7, hf8⟩ := hV
 have hfew := hL.ok.few
 have htot := hL.tot
 have hvv := hf4.len
 refine phi_call (body := Version_check_body) rfl rfl ?_; intro ρ0
 have CN : C_numbers (phi (k + 4)) := c_numbers (k + 3)
 have CU : C_user (phi (k + 4)) := c_user (k + 3)
 have CI : C_icmp (phi (k + 4)) := c_icmp k
 generalize phi (k + 4) = Φ at CN CU CI ⊢
 walk_at "s"
 refine k_meth hf1 rfl ?_
 walk_at "s"
 refine CN v L T B lv _ _ hV0 hL fun an ns H1 x1 han hln hperm hsort => ?_
 have hnl : ns.length < 64 := by rw [hperm.length_eq]; unfold numsOf; rw [List.length_map]; exact htot
 have hnod : ns.Nodup := hperm.nodup_iff.mpr hL.nod
 walk_at "s"
 refine bi_lenL hln (by unfold smallL; rw [List.length_map]; omega) ?_
 walk_at "s"
 rw [List.length_map]
 with_reducible refine r_two (by refine ⟨?_, ?_, ?_, ?_⟩ <;> omega) ?_
 let I3 : List V → Lo → AH → Prop := fun rest ρ H => H1 = H ∧ ∃ n : Nat, A4 (1 ≤ n) (rest = rangeV n ns.length) (ρ .numbers = some (.ref an)) (ρ .self = some (.ref v))
 refine forA_inv I3 ?_ ?_ _ _ _ ⟨rfl, 1, Nat.le_refl _, rfl, rfl, rfl⟩
 ·rintro w rest ρ H ⟨rfl, n, hn1, hr, r1, r2⟩ R rnx rct rbr rrt
  obtain ⟨e1, rfl, rfl⟩ := rangeV_inv hr
  have hlt : n < ns.length := by omega
  have ea : (ns.map V.int)[((n : Int) - 1).toNat]? = some (.int ns[n - 1]) := by
   rw [show ((n : Int) - 1).toNat = n - 1 from by omega, List.getElem?_map, List.getElem?_eq_getElem (by omega)]; rfl
  have eb : (ns.map V.int)[(n : Int).toNat]? = some (.int ns[n]) := by
   rw [show (n : Int).toNat = n from rfl, List.getElem?_map, List.getElem?_eq_getElem hlt]; rfl
  show exSs Φ _ _ _ _
  walk_at "s"
  refine i_list hln (by omega) (by omega) ea ?_
  walk_at "s"
  refine i_list hln (by omega) (by omega) eb ?_
  walk_at "s"
  refine k_f ?_ ?_
  ·rw [ci_eq_f]
   intro z
   exact List.pairwise_iff_getElem.mp hnod (n - 1) n (by omega) hlt (by omega) z
  ·walk_at "s"
   exact rnx _ _ trivial ⟨rfl, n + 1, by omega, by rw [Int.natCast_add]; rfl, by exact r1, by exact r2⟩
 ·rintro ρ H ⟨rfl, n, hn1, hr, r1, r2⟩
  walk_at "s"
  refine g_attr (hf1.ext x1) hf5 ?_
  walk_at "s"
  with_reducible refine r_one (by omega) (by omega) ?_
  let I4 : List V → Lo → AH → Prop := fun rest ρ H => H1 = H ∧ ∃ n : Nat, rest = rangeV n L.length ∧ ρ .self = some (.ref v)
  refine forA_inv I4 ?_ ?_ _ _ _ ⟨rfl, 0, rfl, by exact r2⟩
  ·rintro w rest ρ H ⟨rfl, n, hr, r1⟩ R rnx rct rbr rrt
   obtain ⟨e1, rfl, rfl⟩ := rangeV_inv hr
   have hlt : n < L.length := by omega
   have hfs : L[n]? = some L[n] := List.getElem?_eq_getElem hlt
   generalize L[n] = fs at hfs
   obtain ⟨hz, hok⟩ := hL.ok.each fs (List.mem_of_getElem? hfs)
   obtain ⟨l, q1, ms, q2, q3⟩ := hf4.get hfs
   have hms := q3.len
   have q2' := x1 _ _ q2
   have q3' := q3.ext x1
   obtain ⟨g, uo, gu, o1, o2, o3⟩ := hf7.ext x1
   show exSs Φ _ _ _ _
   walk_at "s"
   refine g_attr (hf1.ext x1) hf2 ?_
   walk_at "s"
   refine i_list (x1 _ _ hf3) (by omega) (by omega) (by simpa using q1) ?_
   walk_at "s"
   refine bi_lenL q2' (small_of hms (by omega)) ?_
   rw [hms]
   walk_at "s"
   with_reducible refine r_one (by omega) (by omega) ?_
   let I5 : List V → Lo → AH → Prop := fun rest ρ H => H1 = H ∧ ∃ i : Nat, A4 (rest = rangeV i fs.length) (ρ .self = some (.ref v)) (ρ .files = some (.ref l)) (ρ .level = some (.int n))
   refine forA_inv I5 ?_ ?_ _ _ _ ⟨rfl, 0, rfl, by exact r1, by exact rfl, by exact rfl⟩
   ·rintro w rest ρ H ⟨rfl, i, hr2, s1, s2, s3⟩ R2 rnx2 rct2 rbr2 rrt2
    obtain ⟨e2, rfl, rfl⟩ := rangeV_inv hr2
    have hil : i < fs.length := by omega
    have hf : fs[i]? = some fs[i] := List.getElem?_eq_getElem hil
    generalize fs[i] = f at hf
    obtain ⟨pl, ph⟩ := hok.pl (List.mem_of_getElem? hf)
    obtain ⟨am, gm, hm⟩ := q3'.get hf
    show exSs Φ _ _ _ _
    walk_at "s"
    refine i_list q2' (by omega) (by omega) (by simpa using gm) ?_
    walk_at "s"
    refine g_attr (hf1.ext x1) hf6 ?_
    refine k_meth o1 rfl ?_
    walk_at "s"
    refine m_smallest hm ?_
    walk_at "s"
    refine m_largest hm ?_
    walk_at "s"
    refine CI _ _ _ _ _ _ _ ⟨g, uo, gu, o1, o2, o3⟩ (U_len _) (U_len _) ?_
    walk_at "s"
    refine k_f ?_ ?_
    ·rw [ci_gt_f]
     have := icmp_self pl ph (hok f (List.mem_of_getElem? hf)).2.1
     omega
    ·walk_at "s"
     refine k_ite (fun c => ?_) (fun c => ?_)
     ·walk_at "s"
      exact rct2 _ _ trivial ⟨rfl, i + 1, by rw [Int.natCast_add]; rfl, by exact s1, by exact s2, by exact s3⟩
     ·replace c := ci_eq_f.mp c
      have hf' : fs[i - 1]? = some fs[i - 1] := List.getElem?_eq_getElem (by omega)
      generalize fs[i - 1] = f' at hf'
      obtain ⟨pl', ph'⟩ := hok.pl (List.mem_of_getElem? hf')
      obtain ⟨am', gm', hm'⟩ := q3'.get hf'
      walk_at "s"
      refine i_list q2' (by omega) (by omega) (u := .ref am') (by rw [show ((i : Int) - 1).toNat = i - 1 from by omega]; exact gm') ?_
      walk_at "s"
      refine k_ite (fun c2 => ?_) (fun c2 => ?_)
      ·replace c2 := ci_eq_t.mp c2
       have : n = 0 := by omega
       subst this
       walk_at "s"
       refine m_number hm' ?_
       walk_at "s"
       refine m_number hm ?_
       walk_at "s"
       refine k_f ?_ ?_
       ·rw [ci_ge_f]; exact hL.inc fs hfs (i - 1) i f' f (by omega) hf' hf
       ·walk_at "s"
        exact rnx2 _ _ trivial ⟨rfl, i + 1, by rw [Int.natCast_add]; rfl, by exact s1, by exact s2, by exact s3⟩
      ·replace c2 := ci_eq_f.mp c2
       have hs := hL.srt n fs (by omega) hfs (i - 1) i f' f (by omega) hf' hf
       walk_at "s"
       refine m_largest hm' ?_
       walk_at "s"
       refine CU _ _ _ _ (U_len _) ?_
       walk_at "s"
       refine m_smallest hm ?_
       walk_at "s"
       refine CU _ _ _ _ (U_len _) ?_
       walk_at "s"
       refine k_f ?_ ?_
       ·rw [cB_ge ph' pl, decide_eq_false_iff_not]; omega
       ·walk_at "s"
        exact rnx2 _ _ trivial ⟨rfl, i + 1, by rw [Int.natCast_add]; rfl, by exact s1, by exact s2, by exact s3⟩
   ·rintro ρ2 H ⟨rfl, i, hr2, s1, s2, s3⟩
    walk_at "s"
    exact rnx _ _ trivial ⟨rfl, n + 1, by rw [Int.natCast_add]; rfl, by exact s1⟩
  ·rintro ρ H ⟨rfl, n, hr, r1⟩
   walk_at "s"
   exact hQ _ x1
noncomputable def Evo (d : Addr) (H H' : AH) : Prop := ∀ b O, b ≠ d → H b = some O → H' b = some O
theorem Evo.trans {d : Addr} {H H' H'' : AH} (x : Evo d H H') (y : Evo d H' H'') : Evo d H H'' := fun b O n e => y b O n (x b O n e)
theorem Ext.evo {d : Addr} {H H' : AH} (x : Ext H H') : Evo d H H' := fun b O _ e => x b O e
section
variable {Φ : Phi} {ρ : Lo} {H : AH} {Q : PV} {vs : List V}
theorem k_new {C : Cl} {f : Fn} (hI : C.init = some f) (h : ∀ a dx H1, Ext H H1 → H a = none → H dx = none → a ≠ dx → H1 a = some (.inst C dx) → H1 dx = some (.ns C fun _ => none) → Φ f (.ref a :: vs) H1 fun r H' => r = .none ∧ Q (.ref a) H') : newK Φ C vs H Q := by
 intro a dx ha hd ne
 rw [hI]
 have x1 : Ext H (H.set dx (.ns C fun _ => none)) := Ext.set (.refl H) hd
 exact h a dx _ (Ext.set x1 ha) ha hd ne set_same (by rw [set_other (Ne.symm ne), set_same])
theorem k_new0 {C : Cl} (hI : C.init = none) (h : ∀ a dx H1, Ext H H1 → H a = none → H dx = none → a ≠ dx → H1 a = some (.inst C dx) → H1 dx = some (.ns C fun _ => none) → Q (.ref a) H1) : newK Φ C [] H Q := by
 intro a dx ha hd ne
 rw [hI]
 have x1 : Ext H (H.set dx (.ns C fun _ => none)) := Ext.set (.refl H) hd
 exact ⟨rfl, h a dx _ (Ext.set x1 ha) ha hd ne set_same (by rw [set_other (Ne.symm ne), set_same])⟩
theorem i_attr {a dx : Addr} {C : Cl} {g : Lo} {x : Nm} {w : V} {K : AH → Prop} (h1 : H a = some (.inst C dx)) (h2 : H dx = some (.ns C g)) (hx : x ∈ C.fields) (h : ∀ H', Evo dx H H' → H' a = some (.inst C dx) → H' dx = some (.ns C (upd g x w)) → K H') : setA (.ref a) x w H K := by
 have ne : a ≠ dx := fun z => (no_ss z h1 h2 nofun)
 refine SetA.mk h1 h2 hx (h _ (fun b O n e => ?_) ?_ set_same)
 ·rw [set_other n]; exact e
 ·rw [set_other ne]; exact h1
theorem new_bytes (h : ∀ a H', Ext H H' → H a = none → (∃ g, Fld H' a .BytesOrder g) → Q (.ref a) H') : newK Φ .BytesOrder [] H Q :=
 k_new0 rfl fun a dx H1 x ha hd ne h1 h2 => h a H1 x ha ⟨_, dx, h1, h2⟩
end
noncomputable def C_order (Φ : Phi) : Prop := ∀ (H : AH) (Q : PV), (∀ o H', Ext H H' → H o = none → OrdAt H' o → Q (.ref o) H') → newK Φ .InternalOrder [] H Q
theorem c_order (k : Nat) : C_order (phi (k + 1)) := by
 intro H Q hQ
 refine k_new rfl fun a dx H1 x1 ha hd ne h1 h2 => ?_
 refine phi_call (body := InternalOrder_init_body) rfl rfl ?_; intro ρ0
 generalize phi k = Φ
 walk_at "s"
 refine new_bytes fun u H2 x2 hu hg => ?_
 obtain ⟨gu, hgu⟩ := hg
 walk_at "s"
 have nu : ∀ d O, H1 d = some O → d ≠ u := fun d O e z => (no_ns z.symm hu e)
 refine i_attr (x2 _ _ h1) (x2 _ _ h2) (by decide) fun H3 x3 h3 h4 => ?_
 walk_at "s"
 refine ⟨rfl, hQ a H3 (fun b O e => x3 b O (fun z => (no_ns z.symm hd e)) (x2 _ _ (x1 _ _ e))) ha ?_⟩
 refine ⟨_, u, gu, ⟨dx, h3, h4⟩, rfl, ?_⟩
 obtain ⟨du, g1, g2⟩ := hgu
 refine ⟨du, x3 _ _ (fun z => ?_) g1, x3 _ _ (fun z => ?_) g2⟩
 ·exact nu dx _ h2 z.symm
 ·subst z; rw [x2 _ _ h2] at g2; cases g2
structure EdAt (H : AH) (ed CP DL AL : Addr) (cps dels adds : List V) (rs : Bool) : Prop where
 fl : ∃ g, Fld H ed .VersionEdit g ∧ A4 (g .compact_pointers = some (.ref CP)) (g .deleted = some (.ref DL)) (g .added = some (.ref AL)) (g .reset = some (.bool rs))
 cp : H CP = some (.list cps)
 dl : H DL = some (.list dels)
 al : H AL = some (.list adds)
noncomputable def C_edit (Φ : Phi) : Prop := ∀ (H : AH) (Q : PV), (∀ ed CP DL AL H', Ext H H' → H ed = none → H CP = none → H DL = none → H AL = none → CP ≠ DL → CP ≠ AL → DL ≠ AL → EdAt H' ed CP DL AL [] [] [] false → Q (.ref ed) H') → newK Φ .VersionEdit [] H Q
theorem c_edit (k : Nat) : C_edit (phi (k + 1)) := by
 intro H Q hQ
 refine k_new rfl fun a dx H1 x1 ha hd ne h1 h2 => ?_
 refine phi_call (body := VersionEdit_init_body) rfl rfl ?_; intro ρ0
 generalize phi k = Φ
 walk_at "s"
 refine i_attr h1 h2 (by decide) fun H2 y2 h1 h2 => ?_
 walk_at "s"
 refine i_attr h1 h2 (by decide) fun H3 y3 h1 h2 => ?_
 walk_at "s"
 refine i_attr h1 h2 (by decide) fun H4 y4 h1 h2 => ?_
 walk_at "s"
 refine i_attr h1 h2 (by decide) fun H5 y5 h1 h2 => ?_
 walk_at "s"
 refine ⟨sm rfl, n_new fun CP H6 z6 f6 l6 => ?_⟩
 have n6 : CP ≠ dx := fun z => (no_ns z f6 h2)
 walk_at "s"
 refine i_attr (z6 _ _ h1) (z6 _ _ h2) (by decide) fun H7 y7 h1 h2 => ?_
 walk_at "s"
 refine ⟨sm rfl, n_new fun DL H8 z8 f8 l8 => ?_⟩
 have n8 : DL ≠ dx := fun z => (no_ns z f8 h2)
 have l6' := y7 _ _ n6 l6
 have n68 : CP ≠ DL := fun z => (no_ns z.symm f8 l6')
 walk_at "s"
 refine i_attr (z8 _ _ h1) (z8 _ _ h2) (by decide) fun H9 y9 h1 h2 => ?_
 walk_at "s"
 refine ⟨sm rfl, n_new fun AL H10 z10 f10 l10 => ?_⟩
 have n10 : AL ≠ dx := fun z => (no_ns z f10 h2)
 have l6'' := y9 _ _ n6 (z8 _ _ l6')
 have l8' := y9 _ _ n8 l8
 have n610 : CP ≠ AL := fun z => (no_ns z.symm f10 l6'')
 have n810 : DL ≠ AL := fun z => (no_ns z.symm f10 l8')
 walk_at "s"
 refine i_attr (z10 _ _ h1) (z10 _ _ h2) (by decide) fun H11 y11 h1 h2 => ?_
 walk_at "s"
 refine i_attr h1 h2 (by decide) fun H12 y12 h1 h2 => ?_
 walk_at "s"
 have E5 : Evo dx H1 H5 := ((y2.trans y3).trans y4).trans y5
 have E7 : Evo dx H1 H7 := (E5.trans z6.evo).trans y7
 have E9 : Evo dx H1 H9 := (E7.trans z8.evo).trans y9
 have E12 : Evo dx H1 H12 := ((E9.trans z10.evo).trans y11).trans y12
 have base : ∀ b, H b = none ∨ (b ≠ dx ∧ ∃ O, H b = some O) := fun b => by
  cases q : H b with
  | none => exact .inl rfl
  | some O => exact .inr ⟨fun z => (no_ns z.symm hd q), O, rfl⟩
 have fresh : ∀ {Hi : AH} {b : Addr}, Evo dx H1 Hi → Hi b = none → H b = none := fun e hb => by
  rcases base _ with q | ⟨n, O, q⟩
  ·exact q
  ·rw [e _ _ n (x1 _ _ q)] at hb; cases hb
 refine ⟨rfl, hQ a CP DL AL H12 (fun b O e => E12 _ _ (fun z => (no_ns z.symm hd e)) (x1 _ _ e)) ha (fresh E5 f6) (fresh E7 f8) (fresh E9 f10) n68 n610 n810 ⟨⟨_, ⟨dx, h1, h2⟩, rfl, rfl, rfl, rfl⟩, ?_, ?_, ?_⟩⟩
 ·exact y12 _ _ n6 (y11 _ _ n6 (z10 _ _ l6''))
 ·exact y12 _ _ n8 (y11 _ _ n8 (z10 _ _ l8'))
 ·exact y12 _ _ n10 (y11 _ _ n10 l10)
structure Op where (nl mfs ef gf l0 bb lf : Int)
noncomputable def OptAt (H : AH) (a : Addr) (o : Op) : Prop := ∃ g, Fld H a .Options g ∧ A7 (g .num_levels = some (.int o.nl)) (g .max_file_size = some (.int o.mfs)) (g .expand_factor = some (.int o.ef)) (g .grandparent_factor = some (.int o.gf)) (g .l0_trigger = some (.int o.l0)) (g .base_bytes = some (.int o.bb)) (g .level_factor = some (.int o.lf))
theorem OptAt.ext {H H' : AH} (x : Ext H H') {a : Addr} {o : Op} (h : OptAt H a o) : OptAt H' a o := let ⟨g, h1, r⟩ := h; ⟨g, h1.ext x, r⟩
structure W7 where (dx IN A B GP ed CP DL AL : Addr)
noncomputable def W7.l (w : W7) : List Addr := [w.IN, w.A, w.B, w.GP, w.CP, w.DL, w.AL]
theorem W7.iIN {w : W7} : w.IN ∈ w.l := .head _
theorem W7.iA {w : W7} : w.A ∈ w.l := .tail _ (.head _)
theorem W7.iB {w : W7} : w.B ∈ w.l := .tail _ (.tail _ (.head _))
theorem W7.iGP {w : W7} : w.GP ∈ w.l := .tail _ (.tail _ (.tail _ (.head _)))
theorem W7.iCP {w : W7} : w.CP ∈ w.l := .tail _ (.tail _ (.tail _ (.tail _ (.head _))))
theorem W7.iDL {w : W7} : w.DL ∈ w.l := .tail _ (.tail _ (.tail _ (.tail _ (.tail _ (.head _)))))
theorem W7.iAL {w : W7} : w.AL ∈ w.l := .tail _ (.tail _ (.tail _ (.tail _ (.tail _ (.tail _ (.head _))))))
theorem W7.all {P : Addr → Prop} {w : W7} (h0 : P w.IN) (h1 : P w.A) (h2 : P w.B) (h3 : P w.GP) (h4 : P w.CP) (h5 : P w.DL) (h6 : P w.AL) : ∀ x ∈ w.l, P x := fun x h => by
 cases h with
 | head => exact h0
 | tail _ h => cases h with
   | head => exact h1
   | tail _ h => cases h with
    | head => exact h2
    | tail _ h => cases h with
     | head => exact h3
     | tail _ h => cases h with
      | head => exact h4
      | tail _ h => cases h with
       | head => exact h5
       | tail _ h => cases h with
        | head => exact h6
        | tail _ h => cases h
theorem W7.allA {P : Addr → Prop} {w : W7} {a : Addr} (h : ∀ x ∈ w.l, P x) (p : P a) : ∀ x ∈ W7.l { w with A := a }, P x := W7.all (h _ iIN) p (h _ iB) (h _ iGP) (h _ iCP) (h _ iDL) (h _ iAL)
theorem W7.allB {P : Addr → Prop} {w : W7} {a : Addr} (h : ∀ x ∈ w.l, P x) (p : P a) : ∀ x ∈ W7.l { w with B := a }, P x := W7.all (h _ iIN) (h _ iA) p (h _ iGP) (h _ iCP) (h _ iDL) (h _ iAL)
theorem W7.allGP {P : Addr → Prop} {w : W7} {a : Addr} (h : ∀ x ∈ w.l, P x) (p : P a) : ∀ x ∈ W7.l { w with GP := a }, P x := W7.all (h _ iIN) (h _ iA) (h _ iB) p (h _ iCP) (h _ iDL) (h _ iAL)
theorem W7.ninA {w : W7} {a x : Addr} (h : x ∉ w.l) (p : x ≠ a) : x ∉ W7.l { w with A := a } := fun z => W7.allA (P := fun y => x ≠ y) (fun y hy e => h (e ▸ hy)) p x z rfl
theorem W7.ne {w : W7} (h : w.l.Nodup) : A21 (w.IN ≠ w.A) (w.IN ≠ w.B) (w.IN ≠ w.GP) (w.IN ≠ w.CP) (w.IN ≠ w.DL) (w.IN ≠ w.AL) (w.A ≠ w.B) (w.A ≠ w.GP) (w.A ≠ w.CP) (w.A ≠ w.DL) (w.A ≠ w.AL) (w.B ≠ w.GP) (w.B ≠ w.CP) (w.B ≠ w.DL) (w.B ≠ w.AL) (w.GP ≠ w.CP) (w.GP ≠ w.DL) (w.GP ≠ w.AL) (w.CP ≠ w.DL) (w.CP ≠ w.AL) (w.DL ≠ w.AL) :=
 match h with
 | .cons a (.cons b (.cons c (.cons d (.cons e (.cons f _))))) => ⟨a _ (.head _), a _ (.tail _ (.head _)), a _ (.tail _ (.tail _ (.head _))), a _ (.tail _ (.tail _ (.tail _ (.head _)))), a _ (.tail _ (.tail _ (.tail _ (.tail _ (.head _))))), a _ (.tail _ (.tail _ (.tail _ (.tail _ (.tail _ (.head _)))))), b _ (.head _), b _ (.tail _ (.head _)), b _ (.tail _ (.tail _ (.head _))), b _ (.tail _ (.tail _ (.tail _ (.head _)))), b _ (.tail _ (.tail _ (.tail _ (.tail _ (.head _))))), c _ (.head _), c _ (.tail _ (.head _)), c _ (.tail _ (.tail _ (.head _))), c _ (.tail _ (.tail _ (.tail _ (.head _)))), d _ (.head _), d _ (.tail _ (.head _)), d _ (.tail _ (.tail _ (.head _))), e _ (.head _), e _ (.tail _ (.head _)), f _ (.head _)⟩
theorem fa_nil {P : Addr → Prop} : ∀ x ∈ ([] : List Addr), P x := fun _ h => nomatch h
theorem fa_cons {P : Addr → Prop} {a : Addr} {l : List Addr} (h : P a) (k : ∀ x ∈ l, P x) : ∀ x ∈ a :: l, P x := List.forall_mem_cons.mpr ⟨h, k⟩
theorem W7.nd {w : W7} (h : A21 (w.IN ≠ w.A) (w.IN ≠ w.B) (w.IN ≠ w.GP) (w.IN ≠ w.CP) (w.IN ≠ w.DL) (w.IN ≠ w.AL) (w.A ≠ w.B) (w.A ≠ w.GP) (w.A ≠ w.CP) (w.A ≠ w.DL) (w.A ≠ w.AL) (w.B ≠ w.GP) (w.B ≠ w.CP) (w.B ≠ w.DL) (w.B ≠ w.AL) (w.GP ≠ w.CP) (w.GP ≠ w.DL) (w.GP ≠ w.AL) (w.CP ≠ w.DL) (w.CP ≠ w.AL) (w.DL ≠ w.AL)) : w.l.Nodup := by
 obtain ⟨n1, n2, n3, n4, n5, n6, n7, n8, n9, n10, n11, n12, n13, n14, n15, n16, n17, n18, n19, n20, n21⟩ := h
 exact .cons (fa_cons n1 (fa_cons n2 (fa_cons n3 (fa_cons n4 (fa_cons n5 (fa_cons n6 (fa_nil))))))) (.cons (fa_cons n7 (fa_cons n8 (fa_cons n9 (fa_cons n10 (fa_cons n11 (fa_nil)))))) (.cons (fa_cons n12 (fa_cons n13 (fa_cons n14 (fa_cons n15 (fa_nil))))) (.cons (fa_cons n16 (fa_cons n17 (fa_cons n18 (fa_nil)))) (.cons (fa_cons n19 (fa_cons n20 (fa_nil))) (.cons (fa_cons n21 (fa_nil)) (.cons (fa_nil) .nil))))))
theorem W7.ndA {w : W7} {a : Addr} (h : w.l.Nodup) (n : a ∉ w.l) : (W7.l { w with A := a }).Nodup := by
 obtain ⟨n1, n2, n3, n4, n5, n6, n7, n8, n9, n10, n11, n12, n13, n14, n15, n16, n17, n18, n19, n20, n21⟩ := W7.ne h
 have m : ∀ {x}, x ∈ w.l → a ≠ x := fun hx e => n (e ▸ hx)
 exact W7.nd ⟨Ne.symm (m iIN), n2, n3, n4, n5, n6, m iB, m iGP, m iCP, m iDL, m iAL, n12, n13, n14, n15, n16, n17, n18, n19, n20, n21⟩
theorem W7.ndB {w : W7} {a : Addr} (h : w.l.Nodup) (n : a ∉ w.l) : (W7.l { w with B := a }).Nodup := by
 obtain ⟨n1, n2, n3, n4, n5, n6, n7, n8, n9, n10, n11, n12, n13, n14, n15, n16, n17, n18, n19, n20, n21⟩ := W7.ne h
 have m : ∀ {x}, x ∈ w.l → a ≠ x := fun hx e => n (e ▸ hx)
 exact W7.nd ⟨n1, Ne.symm (m iIN), n3, n4, n5, n6, Ne.symm (m iA), n8, n9, n10, n11, m iGP, m iCP, m iDL, m iAL, n16, n17, n18, n19, n20, n21⟩
theorem W7.ndGP {w : W7} {a : Addr} (h : w.l.Nodup) (n : a ∉ w.l) : (W7.l { w with GP := a }).Nodup := by
 obtain ⟨n1, n2, n3, n4, n5, n6, n7, n8, n9, n10, n11, n12, n13, n14, n15, n16, n17, n18, n19, n20, n21⟩ := W7.ne h
 have m : ∀ {x}, x ∈ w.l → a ≠ x := fun hx e => n (e ▸ hx)
 exact W7.nd ⟨n1, n2, Ne.symm (m iIN), n4, n5, n6, n7, Ne.symm (m iA), n9, n10, n11, Ne.symm (m iB), n13, n14, n15, m iCP, m iDL, m iAL, n19, n20, n21⟩
noncomputable def CFl (H : AH) (c op v : Addr) (w : W7) (level : Int) (man : Bool) : Prop := ∃ g, H c = some (.inst .Compaction w.dx) ∧ H w.dx = some (.ns .Compaction g) ∧ A7 (g .level = some (.int level)) (g .version = some (.ref v)) (g .options = some (.ref op)) (g .inputs = some (.ref w.IN)) (g .grandparents = some (.ref w.GP)) (g .edit = some (.ref w.ed)) (g .manual = some (.bool man))
structure CAt (H : AH) (c op v : Addr) (w : W7) (level : Int) (man : Bool) (up low gr : List Fi) (cps dels : List V) : Prop where
 fl : CFl H c op v w level man
 ins : H w.IN = some (.list [.ref w.A, .ref w.B])
 a : ML H w.A up
 b : ML H w.B low
 gp : ML H w.GP gr
 edit : EdAt H w.ed w.CP w.DL w.AL cps dels [] false
 nd : w.l.Nodup
noncomputable def C_comp (Φ : Phi) : Prop := ∀ (level : Int) (v op : Addr) (o : Op) (H : AH) (Q : PV), OptAt H op o → 0 ≤ o.nl → o.nl ≤ 1000 → (∀ c w H', Ext H H' → H c = none → H (W7.dx w) = none → (∀ x ∈ W7.l w, H x = none) → CAt H' c op v w level false [] [] [] [] [] → Q (.ref c) H') → newK Φ .Compaction [.int level, .ref v, .ref op] H Q
theorem c_comp (k : Nat) : C_comp (phi (k + 2)) := by
 intro level v op o H Q ho hn0 hn1 hQ
 refine k_new rfl fun a dx H1 x1 ha hd ne h1 h2 => ?_
 refine phi_call (body := Compaction_init_body) rfl rfl ?_; intro ρ0
 have CO : C_order (phi (k + 1)) := c_order k
 have CE : C_edit (phi (k + 1)) := c_edit k
 generalize phi (k + 1) = Φ at CO CE ⊢
 walk_at "s"
 refine i_attr h1 h2 (by decide) fun H2 y2 h1 h2 => ?_
 walk_at "s"
 refine i_attr h1 h2 (by decide) fun H3 y3 h1 h2 => ?_
 walk_at "s"
 refine i_attr h1 h2 (by decide) fun H4 y4 h1 h2 => ?_
 walk_at "s"
 refine CO _ _ fun oo H5 z5 f5 _ => ?_
 walk_at "s"
 refine i_attr (z5 _ _ h1) (z5 _ _ h2) (by decide) fun H6 y6 h1 h2 => ?_
 walk_at "s"
 refine new_bytes fun ub H7 z7 f7 _ => ?_
 walk_at "s"
 refine i_attr (z7 _ _ h1) (z7 _ _ h2) (by decide) fun H8 y8 h1 h2 => ?_
 have E8 : Evo dx H1 H8 := (((((y2.trans y3).trans y4).trans z5.evo).trans y6).trans z7.evo).trans y8
 walk_at "s"
 refine ⟨sm rfl, n_new fun A H9 z9 fA lA => ?_⟩
 have nA : A ≠ dx := fun z => (no_ns z fA h2)
 walk_at "s"
 refine ⟨sm rfl, n_new fun B H10 z10 fB lB => ?_⟩
 have nB : B ≠ dx := fun z => (no_ns z fB (z9 _ _ h2))
 have nAB : A ≠ B := fun z => (no_ns z.symm fB lA)
 have lA := z10 _ _ lA
 walk_at "s"
 refine ⟨sm rfl, n_new fun IN H11 z11 fI lI => ?_⟩
 have h1 := z11 _ _ (z10 _ _ (z9 _ _ h1))
 have h2' := z10 _ _ (z9 _ _ h2)
 have nI : IN ≠ dx := fun z => (no_ns z fI h2')
 have nIA : IN ≠ A := fun z => (no_ns z fI lA)
 have nIB : IN ≠ B := fun z => (no_ns z fI lB)
 have h2 := z11 _ _ h2'
 have lA := z11 _ _ lA
 have lB := z11 _ _ lB
 have E10 : Evo dx H1 H10 := (E8.trans z9.evo).trans z10.evo
 have E11 : Evo dx H1 H11 := E10.trans z11.evo
 walk_at "s"
 refine i_attr h1 h2 (by decide) fun H12 y12 h1 h2 => ?_
 have lA := y12 _ _ nA lA
 have lB := y12 _ _ nB lB
 have lI := y12 _ _ nI lI
 have E12 := E11.trans y12
 walk_at "s"
 refine ⟨sm rfl, n_new fun GP H13 z13 fG lG => ?_⟩
 have nG : GP ≠ dx := fun z => (no_ns z fG h2)
 have nGA : GP ≠ A := fun z => (no_ns z fG lA)
 have nGB : GP ≠ B := fun z => (no_ns z fG lB)
 have nGI : GP ≠ IN := fun z => (no_ns z fG lI)
 walk_at "s"
 refine i_attr (z13 _ _ h1) (z13 _ _ h2) (by decide) fun H14 y14 h1 h2 => ?_
 have lA := y14 _ _ nA (z13 _ _ lA)
 have lB := y14 _ _ nB (z13 _ _ lB)
 have lI := y14 _ _ nI (z13 _ _ lI)
 have lG := y14 _ _ nG lG
 have E14 := (E12.trans z13.evo).trans y14
 walk_at "s"
 refine CE _ _ fun ed CP DL AL H15 z15 fe fC fD fL n1 n2 n3 hed => ?_
 have dead : ∀ {b : Addr} {O : AO} {d : Addr}, H14 d = some O → H14 b = none → b ≠ d := fun e hb z => (no_ns z hb e)
 walk_at "s"
 refine i_attr (z15 _ _ h1) (z15 _ _ h2) (by decide) fun H16 y16 h1' h2' => ?_
 have ndx : ∀ {b : Addr}, H14 b = none → b ≠ dx := fun hb => dead h2 hb
 have lA' := y16 _ _ nA (z15 _ _ lA)
 have lB' := y16 _ _ nB (z15 _ _ lB)
 have lI' := y16 _ _ nI (z15 _ _ lI)
 have lG' := y16 _ _ nG (z15 _ _ lG)
 have E16 := (E14.trans z15.evo).trans y16
 walk_at "s"
 refine i_attr h1' h2' (by decide) fun H17 y17 h1' h2' => ?_
 walk_at "s"
 refine i_attr h1' h2' (by decide) fun H18 y18 h1' h2' => ?_
 walk_at "s"
 refine i_attr h1' h2' (by decide) fun H19 y19 h1' h2' => ?_
 walk_at "s"
 refine i_attr h1' h2' (by decide) fun H20 y20 h1' h2' => ?_
 have Y := ((y17.trans y18).trans y19).trans y20
 have E20 := E16.trans Y
 have X0 : Ext H H20 := fun b O e => E20 _ _ (fun z => (no_ns z.symm hd e)) (x1 _ _ e)
 obtain ⟨go, g1, g2, _⟩ := ho.ext X0
 walk_at "s"
 refine g_attr g1 g2 ?_
 refine k_rep hn0 hn1 (n_new fun pl H21 z21 f21 l21 => ?_)
 walk_at "s"
 refine i_attr (z21 _ _ h1') (z21 _ _ h2') (by decide) fun H22 y22 h1' h2' => ?_
 walk_at "s"
 have Y2 : Evo dx H16 H22 := (Y.trans z21.evo).trans y22
 have E22 := E16.trans Y2
 have base : ∀ {Hi : AH} {b : Addr}, Evo dx H1 Hi → Hi b = none → H b = none := fun {Hi b} e hb => by
  cases q : H b with
  | none => rfl
  | some O => rw [e _ _ (fun z => (no_ns z.symm hd q)) (x1 _ _ q)] at hb; cases hb
 have tr : ∀ {b : Addr} {O : AO}, b ≠ dx → H15 b = some O → H22 b = some O := fun n e => Y2 _ _ n (y16 _ _ n e)
 obtain ⟨⟨ge, ⟨de, e1, e2⟩, e3⟩, e4, e5, e6⟩ := hed
 refine ⟨rfl, hQ a ⟨dx, IN, A, B, GP, ed, CP, DL, AL⟩ H22 (fun b O e => E22 _ _ (fun z => (no_ns z.symm hd e)) (x1 _ _ e)) ha hd ?_ ⟨⟨_, h1', h2', rfl, rfl, rfl, rfl, rfl, rfl, rfl⟩, Y2 _ _ nI lI', ⟨[], Y2 _ _ nA lA', .nil⟩, ⟨[], Y2 _ _ nB lB', .nil⟩, ⟨[], Y2 _ _ nG lG', .nil⟩, ⟨⟨ge, ⟨de, tr (ndx fe) e1, tr ?_ e2⟩, e3⟩, tr (ndx fC) e4, tr (ndx fD) e5, tr (ndx fL) e6⟩, ?_⟩⟩
 ·exact W7.all (base E10 fI) (base E8 fA) (base (E8.trans z9.evo) fB) (base E12 fG) (base E14 fC) (base E14 fD) (base E14 fL)
 ·intro z; subst z; rw [z15 _ _ h2] at e2; cases e2
 ·have q1 := dead lI fC
  have q2 := dead lA fC
  have q3 := dead lB fC
  have q4 := dead lG fC
  have q5 := dead lI fD
  have q6 := dead lA fD
  have q7 := dead lB fD
  have q8 := dead lG fD
  have q9 := dead lI fL
  have q10 := dead lA fL
  have q11 := dead lB fL
  have q12 := dead lG fL
  exact W7.nd ⟨nIA, nIB, Ne.symm nGI, Ne.symm q1, Ne.symm q5, Ne.symm q9, nAB, Ne.symm nGA, Ne.symm q2, Ne.symm q6, Ne.symm q10, Ne.symm nGB, Ne.symm q3, Ne.symm q7, Ne.symm q11, Ne.symm q4, Ne.symm q8, Ne.symm q12, n1, n2, n3⟩
section
variable {H : AH} {l : Addr} {xs ws : List V}
theorem Fld.setl (hl : H l = some (.list xs)) {a : Addr} {C : Cl} {f : Lo} (h : Fld H a C f) : Fld (H.set l (.list ws)) a C f := by
 obtain ⟨dx, h1, h2⟩ := h
 refine ⟨dx, ?_, ?_⟩
 ·rw [set_other (fun z => (no_ss z h1 hl nofun))]; exact h1
 ·rw [set_other (fun z => (no_ss z h2 hl nofun))]; exact h2
theorem MetaAt.setl (hl : H l = some (.list xs)) {a : Addr} {f : Fi} (h : MetaAt H a f) : MetaAt (H.set l (.list ws)) a f := let ⟨g, h1, r⟩ := h; ⟨g, h1.setl hl, r⟩
theorem Ms.setl (hl : H l = some (.list xs)) {vs fs} (h : Ms H vs fs) : Ms (H.set l (.list ws)) vs fs := h.mono fun a => a.setl hl
theorem ML.setl (hl : H l = some (.list xs)) {m : Addr} {fs : List Fi} (ne : m ≠ l) (h : ML H m fs) : ML (H.set l (.list ws)) m fs := let ⟨vs, h1, h2⟩ := h; ⟨vs, by rw [set_other ne]; exact h1, h2.setl hl⟩
theorem EdAt.setl (hl : H l = some (.list xs)) {ed CP DL AL : Addr} {a b c : List V} {r : Bool} (n1 : CP ≠ l) (n2 : DL ≠ l) (n3 : AL ≠ l) (h : EdAt H ed CP DL AL a b c r) : EdAt (H.set l (.list ws)) ed CP DL AL a b c r := by
 obtain ⟨⟨g, h1, r⟩, h2, h3, h4⟩ := h
 exact ⟨⟨g, h1.setl hl, r⟩, by rw [set_other n1]; exact h2, by rw [set_other n2]; exact h3, by rw [set_other n3]; exact h4⟩
theorem EdAt.ext {H' : AH} (x : Ext H H') {ed CP DL AL : Addr} {a b c : List V} {r : Bool} (h : EdAt H ed CP DL AL a b c r) : EdAt H' ed CP DL AL a b c r := by
 obtain ⟨⟨g, h1, r⟩, h2, h3, h4⟩ := h
 exact ⟨⟨g, h1.ext x, r⟩, x _ _ h2, x _ _ h3, x _ _ h4⟩
variable {dx : Addr} {g g' : Lo}
theorem Fld.setn (hd : H dx = some (.ns .Compaction g)) {a : Addr} {C : Cl} {f : Lo} (hC : C ≠ .Compaction) (h : Fld H a C f) : Fld (H.set dx (.ns .Compaction g')) a C f := by
 obtain ⟨d, h1, h2⟩ := h
 refine ⟨d, ?_, ?_⟩
 ·rw [set_other (fun z => (no_ss z h1 hd nofun))]; exact h1
 ·rw [set_other (fun z => by subst z; rw [hd] at h2; cases h2; exact hC rfl)]; exact h2
theorem MetaAt.setn (hd : H dx = some (.ns .Compaction g)) {a : Addr} {f : Fi} (h : MetaAt H a f) : MetaAt (H.set dx (.ns .Compaction g')) a f := let ⟨g, h1, r⟩ := h; ⟨g, h1.setn hd (by decide), r⟩
theorem Ms.setn (hd : H dx = some (.ns .Compaction g)) {vs fs} (h : Ms H vs fs) : Ms (H.set dx (.ns .Compaction g')) vs fs := h.mono fun a => a.setn hd
theorem ML.setn (hd : H dx = some (.ns .Compaction g)) {m : Addr} {fs : List Fi} (h : ML H m fs) : ML (H.set dx (.ns .Compaction g')) m fs := by
 obtain ⟨vs, h1, h2⟩ := h
 exact ⟨vs, by rw [set_other (fun z => (no_ss z h1 hd nofun))]; exact h1, h2.setn hd⟩
theorem EdAt.setn (hd : H dx = some (.ns .Compaction g)) {ed CP DL AL : Addr} {a b c : List V} {r : Bool} (h : EdAt H ed CP DL AL a b c r) : EdAt (H.set dx (.ns .Compaction g')) ed CP DL AL a b c r := by
 obtain ⟨⟨g, h1, r⟩, h2, h3, h4⟩ := h
 refine ⟨⟨g, h1.setn hd (by decide), r⟩, ?_, ?_, ?_⟩
 ·rw [set_other (fun z => (no_ss z h2 hd nofun))]; exact h2
 ·rw [set_other (fun z => (no_ss z h3 hd nofun))]; exact h3
 ·rw [set_other (fun z => (no_ss z h4 hd nofun))]; exact h4
end
section
variable {H : AH} {c op v : Addr} {w : W7} {level : Int} {man : Bool} {up low gr : List Fi} {cps dels : List V}
theorem CAt.ext {H' : AH} (x : Ext H H') (h : CAt H c op v w level man up low gr cps dels) : CAt H' c op v w level man up low gr cps dels := by
 obtain ⟨⟨g, h1, h2, r⟩, a2, a3, a4, a5, a6, a7⟩ := h
 exact ⟨⟨g, x _ _ h1, x _ _ h2, r⟩, x _ _ a2, a3.ext x, a4.ext x, a5.ext x, a6.ext x, a7⟩
theorem CFl.setl {l : Addr} {xs ws : List V} (hl : H l = some (.list xs)) (h : CFl H c op v w level man) : CFl (H.set l (.list ws)) c op v w level man :=
 let ⟨g, h1, h2, r⟩ := h; ⟨g, (set_other fun z => no_ss z h1 hl nofun).trans h1, (set_other fun z => no_ss z h2 hl nofun).trans h2, r⟩
theorem CAt.setl {l : Addr} {xs ws : List V} (hl : H l = some (.list xs)) (hn : l ∉ w.l) (h : CAt H c op v w level man up low gr cps dels) : CAt (H.set l (.list ws)) c op v w level man up low gr cps dels :=
 have ne : ∀ {b}, b ∈ w.l → b ≠ l := fun hb z => hn (z ▸ hb)
 ⟨h.fl.setl hl, (set_other (ne W7.iIN)).trans h.ins, h.a.setl hl (ne W7.iA), h.b.setl hl (ne W7.iB), h.gp.setl hl (ne W7.iGP), h.edit.setl hl (ne W7.iCP) (ne W7.iDL) (ne W7.iAL), h.nd⟩
theorem CAt.setB {B' : Addr} {low' : List Fi} (h : CAt H c op v w level man up low gr cps dels) (hB : ML H B' low') (hn : B' ∉ w.l) : CAt (H.set w.IN (.list [.ref w.A, .ref B'])) c op v { w with B := B' } level man up low' gr cps dels :=
 let ⟨n1, n2, n3, n4, n5, n6, n7, n8, n9, n10, n11, n12, n13, n14, n15, n16, n17, n18, n19, n20, n21⟩ := W7.ne h.nd
 ⟨h.fl.setl h.ins, set_same, h.a.setl h.ins (Ne.symm n1), hB.setl h.ins fun (z : B' = w.IN) => hn (z ▸ W7.iIN), h.gp.setl h.ins (Ne.symm n3), h.edit.setl h.ins (Ne.symm n4) (Ne.symm n5) (Ne.symm n6), W7.ndB h.nd hn⟩
theorem CAt.setA {A' : Addr} {up' : List Fi} (h : CAt H c op v w level man up low gr cps dels) (hA : ML H A' up') (hn : A' ∉ w.l) : CAt (H.set w.IN (.list [.ref A', .ref w.B])) c op v { w with A := A' } level man up' low gr cps dels :=
 let ⟨n1, n2, n3, n4, n5, n6, n7, n8, n9, n10, n11, n12, n13, n14, n15, n16, n17, n18, n19, n20, n21⟩ := W7.ne h.nd
 ⟨h.fl.setl h.ins, set_same, hA.setl h.ins fun (z : A' = w.IN) => hn (z ▸ W7.iIN), h.b.setl h.ins (Ne.symm n2), h.gp.setl h.ins (Ne.symm n3), h.edit.setl h.ins (Ne.symm n4) (Ne.symm n5) (Ne.symm n6), W7.ndA h.nd hn⟩
theorem CAt.setGP {G' : Addr} {gr' : List Fi} {K : AH → Prop} (h : CAt H c op v w level man up low gr cps dels) (hG : ML H G' gr') (hn : G' ∉ w.l) (hK : ∀ O, CAt (H.set w.dx O) c op v { w with GP := G' } level man up low gr' cps dels → K (H.set w.dx O)) : RK.setA (.ref c) .grandparents (.ref G') H K := by
 obtain ⟨g, h1, h2, r1, r2, r3, r4, r5, r6, r7⟩ := h.fl
 refine s_attr (w := .ref G') ⟨_, h1, h2⟩ (by decide) fun dx e1 e2 => ?_
 rw [h1] at e1; cases e1
 exact hK _ ⟨⟨_, (set_other fun z => no_ss z h1 h2 nofun).trans h1, set_same, r1, r2, r3, r4, rfl, r6, r7⟩, (set_other fun z => no_ss z h.ins h2 nofun).trans h.ins, h.a.setn h2, h.b.setn h2, hG.setn h2, h.edit.setn h2, W7.ndGP h.nd hn⟩
theorem CAt.setMan {K : AH → Prop} {b : Bool} (h : CAt H c op v w level man up low gr cps dels) (hK : ∀ O, CAt (H.set w.dx O) c op v w level b up low gr cps dels → K (H.set w.dx O)) : RK.setA (.ref c) .manual (.bool b) H K := by
 obtain ⟨g, h1, h2, r1, r2, r3, r4, r5, r6, r7⟩ := h.fl
 refine s_attr (w := .bool b) ⟨_, h1, h2⟩ (by decide) fun dx e1 e2 => ?_
 rw [h1] at e1; cases e1
 exact hK _ ⟨⟨_, (set_other fun z => no_ss z h1 h2 nofun).trans h1, set_same, r1, r2, r3, r4, r5, r6, rfl⟩, (set_other fun z => no_ss z h.ins h2 nofun).trans h.ins, h.a.setn h2, h.b.setn h2, h.gp.setn h2, h.edit.setn h2, h.nd⟩
theorem CAt.setCP {cps' : List V} (h : CAt H c op v w level man up low gr cps dels) : CAt (H.set w.CP (.list cps')) c op v w level man up low gr cps' dels :=
 let ⟨n1, n2, n3, n4, n5, n6, n7, n8, n9, n10, n11, n12, n13, n14, n15, n16, n17, n18, n19, n20, n21⟩ := W7.ne h.nd
 let ⟨⟨ge, e1, e2⟩, e3, e4, e5⟩ := h.edit
 ⟨h.fl.setl e3, (set_other n4).trans h.ins, h.a.setl e3 n9, h.b.setl e3 n13, h.gp.setl e3 n16, ⟨⟨ge, e1.setl e3, e2⟩, set_same, (set_other (Ne.symm n19)).trans e4, (set_other (Ne.symm n20)).trans e5⟩, h.nd⟩
theorem CAt.setDL {dels' : List V} (h : CAt H c op v w level man up low gr cps dels) : CAt (H.set w.DL (.list dels')) c op v w level man up low gr cps dels' :=
 let ⟨n1, n2, n3, n4, n5, n6, n7, n8, n9, n10, n11, n12, n13, n14, n15, n16, n17, n18, n19, n20, n21⟩ := W7.ne h.nd
 let ⟨⟨ge, e1, e2⟩, e3, e4, e5⟩ := h.edit
 ⟨h.fl.setl e4, (set_other n5).trans h.ins, h.a.setl e4 n10, h.b.setl e4 n14, h.gp.setl e4 n17, ⟨⟨ge, e1.setl e4, e2⟩, (set_other n19).trans e3, set_same, (set_other (Ne.symm n21)).trans e5⟩, h.nd⟩
variable {Φ : Phi} {Q : PV}
theorem c_level (h : CAt H c op v w level man up low gr cps dels) (q : Q (.int level) H) : getA (.ref c) .level H Q := let ⟨_, h1, h2, r, _, _, _, _, _, _⟩ := h.fl; GetA.mk h1 h2 r q
theorem c_version (h : CAt H c op v w level man up low gr cps dels) (q : Q (.ref v) H) : getA (.ref c) .version H Q := let ⟨_, h1, h2, _, r, _, _, _, _, _⟩ := h.fl; GetA.mk h1 h2 r q
theorem c_options (h : CAt H c op v w level man up low gr cps dels) (q : Q (.ref op) H) : getA (.ref c) .options H Q := let ⟨_, h1, h2, _, _, r, _, _, _, _⟩ := h.fl; GetA.mk h1 h2 r q
theorem c_inputs (h : CAt H c op v w level man up low gr cps dels) (q : Q (.ref w.IN) H) : getA (.ref c) .inputs H Q := let ⟨_, h1, h2, _, _, _, r, _, _, _⟩ := h.fl; GetA.mk h1 h2 r q
theorem c_gp (h : CAt H c op v w level man up low gr cps dels) (q : Q (.ref w.GP) H) : getA (.ref c) .grandparents H Q := let ⟨_, h1, h2, _, _, _, _, r, _, _⟩ := h.fl; GetA.mk h1 h2 r q
theorem c_edit_ (h : CAt H c op v w level man up low gr cps dels) (q : Q (.ref w.ed) H) : getA (.ref c) .edit H Q := let ⟨_, h1, h2, _, _, _, _, _, r, _⟩ := h.fl; GetA.mk h1 h2 r q
theorem c_manual (h : CAt H c op v w level man up low gr cps dels) (q : Q (.bool man) H) : getA (.ref c) .manual H Q := let ⟨_, h1, h2, _, _, _, _, _, _, r⟩ := h.fl; GetA.mk h1 h2 r q
theorem c_in0 (h : CAt H c op v w level man up low gr cps dels) (q : Q (.ref w.A) H) : idxA (.ref w.IN) (.int 0) H Q := i_list h.ins (by decide) (by decide) rfl q
theorem c_in1 (h : CAt H c op v w level man up low gr cps dels) (q : Q (.ref w.B) H) : idxA (.ref w.IN) (.int 1) H Q := i_list h.ins (by decide) (by decide) rfl q
theorem ML.small {l : Addr} {fs : List Fi} (h : ML H l fs) (hz : fs.length ≤ 1000) (q : Q (.int fs.length) H) : biA .len [.ref l] H Q := let ⟨_, h1, h2⟩ := h; ms_len h1 h2 hz q
end
noncomputable def C_glimit (Φ : Phi) : Prop := ∀ (c op v : Addr) (w : W7) (level : Int) (man : Bool) (up low gr : List Fi) (cps dels : List V) (o : Op) (H : AH) (Q : PV), CAt H c op v w level man up low gr cps dels → OptAt H op o → o.gf.natAbs < 2 ^ 60 → o.mfs.natAbs < 2 ^ 60 → Q (.int (o.gf * o.mfs)) H → Φ .Compaction_grand_limit [.ref c] H Q
theorem c_glimit (k : Nat) : C_glimit (phi (k + 1)) := by
 intro c op v w level man up low gr cps dels o H Q hc ho h1 h2 hQ
 obtain ⟨g, o1, o2, o3, o4, o5, o6, o7, o8⟩ := ho
 refine phi_call (body := Compaction_grand_limit_body) rfl rfl ?_; intro ρ0
 generalize phi k = Φ
 walk_at "s"
 refine c_options hc ?_
 refine g_attr o1 o5 ?_
 walk_at "s"
 refine c_options hc ?_
 refine g_attr o1 o3 ?_
 refine o_mul (by omega) (by omega) ?_
 walk_at "s"
 exact hQ
noncomputable def C_trivial (Φ : Phi) : Prop := ∀ (c op v : Addr) (w : W7) (level : Int) (man : Bool) (up low gr : List Fi) (cps dels : List V) (o : Op) (H : AH) (Q : PV), CAt H c op v w level man up low gr cps dels → OptAt H op o → o.gf.natAbs < 2 ^ 60 → o.mfs.natAbs < 2 ^ 60 → up.length ≤ 1000 → low.length ≤ 1000 → gr.length ≤ 1000 →
 Q (.bool (decide (up.length = 1 ∧ low.length = 0 ∧ sumS gr ≤ o.gf * o.mfs))) H → Φ .Compaction_trivial [.ref c] H Q
theorem c_trivial (k : Nat) : C_trivial (phi (k + 2)) := by
 intro c op v w level man up low gr cps dels o H Q hc ho h1 h2 z1 z2 z3 hQ
 refine phi_call (body := Compaction_trivial_body) rfl rfl ?_; intro ρ0
 have CG : C_glimit (phi (k + 1)) := c_glimit k
 have CT : C_total (phi (k + 1)) := c_total k
 generalize phi (k + 1) = Φ at CG CT ⊢
 obtain ⟨g, f1, f2, _⟩ := hc.fl
 walk_at "s"
 refine c_inputs hc ?_
 walk_at "s"
 refine c_in0 hc ?_
 walk_at "s"
 refine hc.a.small z1 ?_
 walk_at "s"
 have no : ¬ (up.length = 1 ∧ low.length = 0) → Q (.bool false) H := fun h => by
  rw [decide_eq_false (fun z => h ⟨z.1, z.2.1⟩)] at hQ; exact hQ
 refine k_or (fun c1 => ?_) (fun c1 => ?_)
 ·replace c1 := ci_ne_f.mp c1
  walk_at "s"
  refine c_inputs hc ?_
  walk_at "s"
  refine c_in1 hc ?_
  walk_at "s"
  refine hc.b.small z2 ?_
  walk_at "s"
  refine k_ite (fun c2 => ?_) (fun c2 => ?_)
  ·replace c2 := ci_ne_t.mp c2
   walk_at "s"
   exact no (by omega)
  ·replace c2 := ci_ne_f.mp c2
   walk_at "s"
   refine c_gp hc ?_
   walk_at "s"
   refine CT _ _ _ _ hc.gp z3 ?_
   walk_at "s"
   refine k_meth ⟨_, f1, f2⟩ rfl ?_
   walk_at "s"
   refine CG _ _ _ _ _ _ _ _ _ _ _ _ _ _ hc ho h1 h2 ?_
   walk_at "s"
   have : cmpI .le (sumS gr) (o.gf * o.mfs) = decide (up.length = 1 ∧ low.length = 0 ∧ sumS gr ≤ o.gf * o.mfs) := by
    unfold cmpI
    simp only [decide_eq_decide]
    constructor
    ·exact fun z => ⟨by omega, by omega, z⟩
    ·exact fun z => z.2.2
   rw [this]; exact hQ
 ·replace c1 := ci_ne_t.mp c1
  refine k_t rfl ?_
  walk_at "s"
  exact no (by omega)
noncomputable def delV (level : Int) (fs : List Fi) : List V := fs.map fun f => .tup [.int level, .int f.n]
noncomputable def C_adddel (Φ : Phi) : Prop := ∀ (c op v : Addr) (w : W7) (level : Int) (man : Bool) (up low gr : List Fi) (cps dels : List V) (H : AH) (Q : PV), CAt H c op v w level man up low gr cps dels → up.length ≤ 1000 → low.length ≤ 1000 → dels.length ≤ 1000 →
 (∀ O, CAt (H.set w.DL O) c op v w level man up low gr cps (dels ++ delV level up ++ delV (level + 1) low) → Q .none (H.set w.DL O)) → Φ .Compaction_add_deletions [.ref c] H Q
theorem set_set {H : AH} {a : Addr} {O O' : AO} : (H.set a O).set a O' = H.set a O' := by
 funext b
 unfold AH.set
 split <;> rfl
set_option tactic.hygienic true in
theorem set_id {H : AH} {a : Addr} {O : AO} (h : H a = some O) : H.set a O = H := by
 funext b
 unfold AH.set
 split
 ·rename_i z; rw [z, h]
 ·rfl
theorem c_adddel (k : Nat) : C_adddel (phi (k + 1)) := by
 intro c op v w level man up low gr cps dels H Q hc z1 z2 z3 hQ
 refine phi_call (body := Compaction_add_deletions_body) rfl rfl ?_; intro ρ0
 generalize phi k = Φ
 walk_at "s"
 with_reducible refine r_one (by omega) (by omega) ?_
 -- one side
 have side : ∀ (lst : Addr) (fs : List Fi) (j : Int) (ds : List V) (H1 : AH) (ρ : Lo) (R : PO), (∃ O, H1 = H.set w.DL O) → CAt H1 c op v w level man up low gr cps ds → ML H1 lst fs → lst ≠ w.DL → fs.length ≤ 1000 → ds.length ≤ 3000 → ρ .self = some (.ref c) → ρ .side = some (.int j) →
   (∀ ρ' O, ρ' .self = some (.ref c) → CAt (H.set w.DL O) c op v w level man up low gr cps (ds ++ delV (level + j) fs) → R .nx ρ' (H.set w.DL O)) →
   forK Φ (.nm .«meta») (.cons (.ex (.lm (.attr (.attr (.var .self) .edit) .deleted) .append (.cons (.tup (.cons (.bin .add (.attr (.var .self) .level) (.var .side)) (.cons (.attr (.var .«meta») .number) .nil))) .nil))) .nil) (.ref lst) ρ H1 R := by
  intro lst fs j ds H1 ρ R hO hc1 hl ne hz hdz s1 s2 hR
  obtain ⟨vs, l1, l2⟩ := hl
  refine f_list l1 (small_of l2.len hz) ?_
  let I1 : List V → Lo → AH → Prop := fun rest ρ H2 => Sx2 fun (gs : List Fi) (es : List V) => A7 (∃ O, H2 = H.set w.DL O) (H2 lst = some (.list vs)) (Ms H2 rest gs) (CAt H2 c op v w level man up low gr cps es) (es ++ delV (level + j) gs = ds ++ delV (level + j) fs) (ρ .self = some (.ref c)) (ρ .side = some (.int j))
  refine forA_inv I1 ?_ ?_ _ _ _
   ⟨fs, ds, hO, l1, l2, hc1, rfl, s1, s2⟩
  ·rintro x rest ρ H2 ⟨gs, es, ⟨O, rfl⟩, k1, k2, k3, k4, k5, k6⟩ R2 rnx rct rbr rrt
   obtain ⟨a, f, gs', rfl, rfl, hm, hgs'⟩ := k2.inv
   obtain ⟨⟨ge, e1, e2, e3, e4, e5⟩, e6, e7, e8⟩ := k3.edit
   have hes : es.length ≤ 5000 := by
    have := congrArg List.length k4
    simp only [List.length_append, delV, List.length_map, List.length_cons] at this
    omega
   show exSs Φ _ _ _ _
   walk_at "s"
   refine c_edit_ k3 ?_
   refine g_attr e1 e3 ?_
   refine k_lm e7 ?_
   walk_at "s"
   refine c_level k3 ?_
   walk_at "s"
   refine m_number hm ?_
   walk_at "s"
   refine ⟨sm rfl, ?_⟩
   walk_at "s"
   refine l_append e7 (by unfold smallL; omega) ?_
   walk_at "s"
   refine rnx _ _ ?_ ⟨gs', _, ⟨_, set_set⟩, ?_, hgs'.setl e7, k3.setDL, ?_, by exact k5, by exact k6⟩
   ·rw [set_other ne]; exact k1
   ·rw [set_other ne]; exact k1
   ·rw [List.append_assoc]; exact k4
  ·rintro ρ H2 ⟨gs, es, ⟨O, rfl⟩, k1, k2, k3, k4, k5, k6⟩
   cases k2
   have : es = ds ++ delV (level + j) fs := by simpa [delV] using k4
   subst this
   exact hR ρ O k5 k3
 obtain ⟨n1, n2, n3, n4, n5, n6, n7, n8, n9, n10, n11, n12, n13, n14, n15, n16, n17, n18, n19, n20, n21⟩ := w.ne hc.nd
 have hr : rangeV 0 2 = [.int 0, .int 1] := rfl
 rw [hr]
 have hdl : H w.DL = some (.list dels) := hc.edit.dl
 let I2 : List V → Lo → AH → Prop := fun rest ρ H1 => A3 (ρ .self = some (.ref c)) (∃ O, H1 = H.set w.DL O) ((rest = [.int 0, .int 1] ∧ CAt H1 c op v w level man up low gr cps dels) ∨ (rest = [.int 1] ∧ CAt H1 c op v w level man up low gr cps (dels ++ delV (level + 0) up)) ∨ (rest = [] ∧ CAt H1 c op v w level man up low gr cps (dels ++ delV (level + 0) up ++ delV (level + 1) low)))
 refine forA_inv I2 ?_ ?_ _ _ _
  ⟨rfl, ⟨_, (set_id hdl).symm⟩, .inl ⟨rfl, hc⟩⟩
 ·rintro x rest ρ H1 ⟨s1, hO, h⟩ R rnx rct rbr rrt
  rcases h with ⟨e, h⟩ | ⟨e, h⟩ | ⟨e, h⟩
  ·cases e
   show exSs Φ _ _ _ _
   walk_at "s"
   refine c_inputs h ?_
   walk_at "s"
   refine c_in0 h ?_
   refine side w.A up 0 dels H1 _ _ hO h h.a n10 z1 (by omega) (by exact s1) (by exact rfl) fun ρ' O q1 q2 => ?_
   walk_at "s"
   exact rnx _ _ trivial ⟨q1, ⟨O, rfl⟩, .inr (.inl ⟨rfl, q2⟩)⟩
  ·cases e
   show exSs Φ _ _ _ _
   walk_at "s"
   refine c_inputs h ?_
   walk_at "s"
   refine c_in1 h ?_
   refine side w.B low 1 _ H1 _ _ hO h h.b n14 z2 (by rw [List.length_append, delV, List.length_map]; omega) (by exact s1) (by exact rfl) fun ρ' O q1 q2 => ?_
   walk_at "s"
   exact rnx _ _ trivial ⟨q1, ⟨O, rfl⟩, .inr (.inr ⟨rfl, q2⟩)⟩
  ·cases e
 ·rintro ρ H1 ⟨s1, ⟨O, rfl⟩, h⟩
  rcases h with ⟨e, h⟩ | ⟨e, h⟩ | ⟨e, h⟩
  ·cases e
  ·cases e
  ·walk_at "s"
   rw [Int.add_zero] at h
   exact hQ O h
noncomputable def lvl (L : List (List Fi)) (i : Int) : List Fi := (L[i.toNat]?).getD []
structure Pk where (up low gr : List Fi)
noncomputable def grownP (L : List (List Fi)) (level : Int) (up : List Fi) : List Fi :=
 overP level (lvl L level) (loOf (up ++ touchP (lvl L (level + 1)) (loOf up) (hiOf up))) (hiOf (up ++ touchP (lvl L (level + 1)) (loOf up) (hiOf up)))
noncomputable def growOk (o : Op) (L : List (List Fi)) (level : Int) (up : List Fi) : Prop :=
 0 < (touchP (lvl L (level + 1)) (loOf up) (hiOf up)).length ∧ up.length < (grownP L level up).length ∧ sumS (touchP (lvl L (level + 1)) (loOf up) (hiOf up)) + sumS (grownP L level up) < o.ef * o.mfs ∧
  (touchP (lvl L (level + 1)) (loOf (grownP L level up)) (hiOf (grownP L level up))).length = (touchP (lvl L (level + 1)) (loOf up) (hiOf up)).length
noncomputable def grandP (o : Op) (L : List (List Fi)) (level : Int) (sp : List Fi) : List Fi := if level + 2 < o.nl then touchP (lvl L (level + 2)) (loOf sp) (hiOf sp) else []
noncomputable def IsPk (o : Op) (L : List (List Fi)) (level : Int) (up : List Fi) (p : Pk) : Prop :=
 (growOk o L level up ∧ p.up = grownP L level up ∧ p.low = touchP (lvl L (level + 1)) (loOf p.up) (hiOf p.up) ∨ ¬ growOk o L level up ∧ p.up = up ∧ p.low = touchP (lvl L (level + 1)) (loOf up) (hiOf up)) ∧ p.gr = grandP o L level (p.up ++ p.low)
theorem span_pl {fs : List Fi} (h : FsOk fs) (ne : fs ≠ []) : Pl (loOf fs) ∧ Pl (hiOf fs) := by
 cases fs with
 | nil => exact absurd rfl ne
 | cons f r =>
  unfold loOf hiOf
  dsimp only
  constructor
  ·rcases (foldl_lo r f.lo).2.2 with e | ⟨g, hg, e⟩
   ·rw [e]; exact (h.pl (.head _)).1
   ·rw [e]; exact (h.pl (.tail _ hg)).1
  ·rcases (foldl_hi r f.hi).2.2 with e | ⟨g, hg, e⟩
   ·rw [e]; exact (h.pl (.head _)).2
   ·rw [e]; exact (h.pl (.tail _ hg)).2
theorem Pl.pb {p : Int} (h : Pl p) : Pb p := ⟨h.1, by have := h.2; omega⟩
theorem Pl.ub {p : Int} (h : Pl p) : RK.ub p = .bytes (U p) := if_neg (by have := h.2; omega)
theorem FsOk.app {a b : List Fi} (x : FsOk a) (y : FsOk b) : FsOk (a ++ b) := fun f hf => (List.mem_append.mp hf).elim (x f) (y f)
theorem FsOk.touch {a : List Fi} (x : FsOk a) {lo hi : Int} : FsOk (touchP a lo hi) := x.sub fun g hg => (touch_mem.mp hg).1
theorem FsOk.over {a : List Fi} (x : FsOk a) {lo hi level : Int} : FsOk (overP level a lo hi) := by
 unfold overP joinedP; split <;> exact x.touch
theorem touch_len {a : List Fi} {lo hi : Int} : (touchP a lo hi).length ≤ a.length := List.length_filter_le _ _
theorem over_len {a : List Fi} {lo hi level : Int} : (overP level a lo hi).length ≤ a.length := by
 unfold overP joinedP; split <;> exact touch_len
theorem over_pos {level : Int} {fs : List Fi} {lo hi : Int} (h : level ≠ 0) : overP level fs lo hi = touchP fs lo hi := if_neg h
theorem lvl_get {L : List (List Fi)} {i : Int} (h0 : 0 ≤ i) (h : i < L.length) : L[i.toNat]? = some (lvl L i) := by
 have : i.toNat < L.length := by omega
 unfold lvl
 rw [List.getElem?_eq_getElem this]; rfl
theorem CAt.live {H : AH} {c op v : Addr} {w : W7} {level : Int} {man : Bool} {up low gr : List Fi} {cps dels : List V} (h : CAt H c op v w level man up low gr cps dels) : ∀ x ∈ w.l, ∃ xs, H x = some (.list xs) := by
 obtain ⟨va, a1, _⟩ := h.a
 obtain ⟨vb, b1, _⟩ := h.b
 obtain ⟨vg, g1, _⟩ := h.gp
 exact W7.all ⟨_, h.ins⟩ ⟨_, a1⟩ ⟨_, b1⟩ ⟨_, g1⟩ ⟨_, h.edit.cp⟩ ⟨_, h.edit.dl⟩ ⟨_, h.edit.al⟩
theorem CAt.fresh {H : AH} {c op v : Addr} {w : W7} {level : Int} {man : Bool} {up low gr : List Fi} {cps dels : List V} (h : CAt H c op v w level man up low gr cps dels) {b : Addr} (hb : H b = none) : b ∉ w.l := fun z => by
 obtain ⟨xs, e⟩ := h.live b z
 rw [hb] at e; cases e
structure OpB (o : Op) (n : Nat) : Prop where
 nl : o.nl = n
 mfs : 1 ≤ o.mfs ∧ o.mfs ≤ 1000
 ef : 1 ≤ o.ef ∧ o.ef ≤ 1000
 gf : 1 ≤ o.gf ∧ o.gf ≤ 1000
 l0 : 1 ≤ o.l0 ∧ o.l0 ≤ 1000
 bb : 1 ≤ o.bb ∧ o.bb ≤ 1000
 lf : 1 ≤ o.lf ∧ o.lf ≤ 1000
noncomputable def setup_rest : Ss := (.cons (.ite (.cmp .lt (.bin .add (.var .level) (.int 2)) (.attr (.attr (.var .self) .options) .num_levels)) (.cons (.sattr (.var .c) .grandparents (.meth (.var .version) .overlapping (.cons (.bin .add (.var .level) (.int 2)) (.cons (.idx (.var .span) (.int 0)) (.cons (.idx (.var .span) (.int 1)) .nil))))) .nil) .nil) (.cons (.asg (.nm .largest) (.idx (.call .key_range (.cons (.idx (.attr (.var .c) .inputs) (.int 0)) (.cons (.attr (.var .self) .order) .nil))) (.int 1))) (.cons (.sidx (.var .pointers) (.var .level) (.var .largest)) (.cons (.ex (.lm (.attr (.attr (.var .c) .edit) .compact_pointers) .append (.cons (.tup (.cons (.var .level) (.cons (.var .largest) .nil))) .nil))) .nil))))
noncomputable def cpV (level : Int) (up : List Fi) : List V := [.tup [.int level, .bytes (ikb (hiOf up) 1)]]
noncomputable def C_setup (Φ : Phi) : Prop := ∀ (p op v c ptr : Addr) (o : Op) (L : List (List Fi)) (T B lv level : Int) (w : W7) (man : Bool) (up : List Fi) (ps : List V) (H0 H : AH) (Q : PV),
 VerAt H0 v L T B lv → LvOk L → PickAt H0 p op → OptAt H0 op o → OpB o L.length → Ext H0 H → CAt H c op v w level man up [] [] [] [] → H0 c = none → H0 w.dx = none → (∀ x ∈ w.l, H0 x = none) → H0 ptr = some (.list ps) → ps.length = L.length →
 0 ≤ level → level + 1 < L.length → up ≠ [] → up.length ≤ 100 → (∀ f ∈ up, f ∈ lvl L level) →
 (∀ w' pk H', Evo ptr H0 H' → IsPk o L level up pk → H0 (W7.dx w') = none → (∀ x ∈ W7.l w', H0 x = none) → CAt H' c op v w' level man (Pk.up pk) (Pk.low pk) (Pk.gr pk) (cpV level (Pk.up pk)) [] → Q .none H') →
 Φ .Picker_set_up_other [.ref p, .ref c, .ref ptr] H Q
theorem c_setup (k : Nat) : C_setup (phi (k + 7)) := by
 intro p op v c ptr o L T B lv level w man up ps H0 H Q hV hL hP hO hOB X hc fc fd fw hptr hps hl0 hl1 hne hup hsub hQ
 obtain ⟨gv, FL, vv, ov, hf1, _⟩ := id hV
 obtain ⟨gp, oo, p1, p2, p3, p4⟩ := id hP
 obtain ⟨go, o1, o2, o3, o4, o5, _⟩ := id hO
 have hfew := hL.ok.few
 have hm1 := lvl_get (L := L) hl0 (by omega)
 have hm2 := lvl_get (L := L) (i := level + 1) (by omega) hl1
 obtain ⟨hz1, hok1⟩ := hL.ok.each _ (List.mem_of_getElem? hm1)
 obtain ⟨hz2, hok2⟩ := hL.ok.each _ (List.mem_of_getElem? hm2)
 have hoku : FsOk up := hok1.sub hsub
 obtain ⟨pu1, pu2⟩ := span_pl hoku hne
 refine phi_call (body := Picker_set_up_other_body) rfl rfl ?_; intro ρ0
 have CR : C_range (phi (k + 6)) := c_range (k + 1)
 have CUR : C_urange (phi (k + 6)) := c_urange k
 have CO : C_over (phi (k + 6)) := c_over (k + 4)
 have CT : C_total (phi (k + 6)) := c_total (k + 5)
 generalize phi (k + 6) = Φ at CR CUR CO CT ⊢
 have fin : ∀ (w : W7) (up' low' : List Fi) (ρ : Lo) (H : AH), Ext H0 H → CAt H c op v w level man up' low' [] [] [] → H0 w.dx = none → (∀ x ∈ w.l, H0 x = none) → up' ≠ [] → up'.length ≤ 100 → FsOk up' → FsOk low' →
   (growOk o L level up ∧ up' = grownP L level up ∧ low' = touchP (lvl L (level + 1)) (loOf up') (hiOf up') ∨ ¬ growOk o L level up ∧ up' = up ∧ low' = touchP (lvl L (level + 1)) (loOf up) (hiOf up)) →
   ρ .self = some (.ref p) → ρ .c = some (.ref c) → ρ .pointers = some (.ref ptr) → ρ .level = some (.int level) → ρ .version = some (.ref v) → ρ .span = some (.tup [.bytes (U (loOf (up' ++ low'))), .bytes (U (hiOf (up' ++ low')))]) →
   exSs Φ setup_rest ρ H (retK Q) := by
  intro w up' low' ρ H X hc fd fw hne' hup' hoku' hokl' hpk r1 r2 r3 r4 r5 r6
  have hsp : up' ++ low' ≠ [] := by simp [hne']
  obtain ⟨ps1, ps2⟩ := span_pl (hoku'.app hokl') hsp
  have fin2 : ∀ (w : W7) (gr : List Fi) (ρ : Lo) (H : AH), Ext H0 H → CAt H c op v w level man up' low' gr [] [] → H0 w.dx = none → (∀ x ∈ w.l, H0 x = none) → gr = grandP o L level (up' ++ low') → ρ .self = some (.ref p) → ρ .c = some (.ref c) → ρ .pointers = some (.ref ptr) → ρ .level = some (.int level) →
    exSs Φ (.cons (.asg (.nm .largest) (.idx (.call .key_range (.cons (.idx (.attr (.var .c) .inputs) (.int 0)) (.cons (.attr (.var .self) .order) .nil))) (.int 1))) (.cons (.sidx (.var .pointers) (.var .level) (.var .largest)) (.cons (.ex (.lm (.attr (.attr (.var .c) .edit) .compact_pointers) .append (.cons (.tup (.cons (.var .level) (.cons (.var .largest) .nil))) .nil))) .nil))) ρ H (retK Q) := by
   intro w gr ρ H X hc fd fw hgr r1 r2 r3 r4
   walk_at "s"
   refine c_inputs hc ?_
   walk_at "s"
   refine c_in0 hc ?_
   walk_at "s"
   refine g_attr (p1.ext X) p2 ?_
   walk_at "s"
   refine CR _ _ _ _ _ hc.a (p3.ext X) (by omega) hne' hoku' fun H1 x1 => ?_
   walk_at "s"
   refine i_tup (by decide) (by decide) (u := .bytes (ikb (hiOf up') 1)) rfl ?_
   walk_at "s"
   have hp1 := x1 _ _ (X _ _ hptr)
   refine s_idxL hp1 hl0 (by omega) (by unfold smallL; omega) ?_
   have hc1 := hc.ext x1
   have hpw : ptr ∉ w.l := fun z => by rw [fw ptr z] at hptr; cases hptr
   have hc2 := hc1.setl (ws := ps.set level.toNat (.bytes (ikb (hiOf up') 1))) hp1 hpw
   walk_at "s"
   refine c_edit_ hc2 ?_
   obtain ⟨⟨ge, e1, e2, e3, e4, e5⟩, e6, e7, e8⟩ := hc2.edit
   refine g_attr e1 e2 ?_
   refine k_lm e6 ?_
   walk_at "s"
   refine ⟨sm rfl, ?_⟩
   walk_at "s"
   refine l_append e6 (sm rfl) ?_
   walk_at "s"
   refine hQ w ⟨up', low', gr⟩ _ ?_ ⟨hpk, hgr⟩ fd fw hc2.setCP
   intro b O nb e
   have hb : b ≠ w.CP := fun z => by rw [z, fw w.CP (by walk_at "m")] at e; cases e
   rw [set_other hb, set_other nb]
   exact x1 _ _ (X _ _ e)
  unfold setup_rest
  walk_at "s"
  refine g_attr (p1.ext X) p4 ?_
  refine g_attr (o1.ext X) o2 ?_
  walk_at "s"
  refine k_ite (fun cc => ?_) (fun cc => ?_)
  ·replace cc := ci_lt_t.mp cc
   have hnl := hOB.nl
   have hm3 := lvl_get (L := L) (i := level + 2) (by omega) (by omega)
   obtain ⟨hz3, hok3⟩ := hL.ok.each _ (List.mem_of_getElem? hm3)
   walk_at "s"
   refine k_meth (hf1.ext X) rfl ?_
   walk_at "s"
   refine i_tup (by decide) (by decide) (u := .bytes (U (loOf (up' ++ low')))) rfl ?_
   walk_at "s"
   refine i_tup (by decide) (by decide) (u := .bytes (U (hiOf (up' ++ low')))) rfl ?_
   walk_at "s"
   rw [← ps1.ub, ← ps2.ub]
   refine CO v L T B lv (level + 2) _ _ _ _ _ (hV.ext X) hL.ok (by omega) hm3 ps1.pb ps2.pb fun a vs H1 x1 ha hl hms => ?_
   rw [over_pos (by omega)] at hms
   walk_at "s"
   have hc1 := hc.ext x1
   refine hc1.setGP ⟨vs, hl, hms⟩ (fun z => hc.fresh ha z) fun O hc2 => ?_
   refine x_nil (K_nx ?_)
   refine fin2 { w with GP := a } _ _ _ ((X.trans x1).set fd) hc2 fd (W7.allGP fw (X.none ha)) ?_ r1 r2 r3 r4
   ·unfold grandP; rw [if_pos cc]
  ·replace cc := ci_lt_f.mp cc
   refine x_nil (K_nx ?_)
   refine fin2 w [] ρ H X hc fd fw ?_ r1 r2 r3 r4
   unfold grandP; rw [if_neg (by omega)]
 walk_at "s"
 refine c_level hc ?_
 walk_at "s"
 refine c_version hc ?_
 walk_at "s"
 refine k_meth (p1.ext X) rfl ?_
 walk_at "s"
 refine c_inputs hc ?_
 walk_at "s"
 refine c_in0 hc ?_
 walk_at "s"
 refine CUR p op _ _ _ _ (hP.ext X) hc.a (by omega) hne hoku fun H1 x1 => ?_
 have X1 := X.trans x1
 have hc1 := hc.ext x1
 walk_at "s"
 refine k_meth (hf1.ext X1) rfl ?_
 walk_at "s"
 refine i_tup (by decide) (by decide) (u := .bytes (U (loOf up))) rfl ?_
 walk_at "s"
 refine i_tup (by decide) (by decide) (u := .bytes (U (hiOf up))) rfl ?_
 walk_at "s"
 rw [← pu1.ub, ← pu2.ub]
 refine CO v L T B lv (level + 1) _ _ _ _ _ (hV.ext X1) hL.ok (by omega) hm2 pu1.pb pu2.pb fun B1 vs H2 x2 fB hlB hmB => ?_
 rw [over_pos (by omega)] at hmB
 have hc2 := hc1.ext x2
 walk_at "s"
 refine c_inputs hc2 ?_
 walk_at "s"
 refine s_idxL hc2.ins (by decide) (by simp) (sm rfl) ?_
 have hc3 := hc2.setB (B' := B1) ⟨vs, hlB, hmB⟩ (hc1.fresh fB)
 have X3 : Ext H0 (H2.set w.IN (.list [.ref w.A, .ref B1])) := (X1.trans x2).set (fw _ (by walk_at "m"))
 have eset : ([.ref w.A, .ref w.B] : List V).set (Int.toNat 1) (.ref B1) = [.ref w.A, .ref B1] := rfl
 rw [eset]
 have fw3 : ∀ x ∈ W7.l { w with B := B1 }, H0 x = none := W7.allB fw (X1.none fB)
 generalize H2.set w.IN (.list [.ref w.A, .ref B1]) = H3 at hc3 X3 ⊢
 generalize hw3 : ({ w with B := B1 } : W7) = w3 at hc3 fw3
 have fd3 : H0 w3.dx = none := by rw [← hw3]; exact fd
 generalize hlo : touchP (lvl L (level + 1)) (loOf up) (hiOf up) = low1 at hc3
 have hokl : FsOk low1 := by rw [← hlo]; exact hok2.touch
 have hzl : low1.length ≤ 100 := by rw [← hlo]; exact Nat.le_trans touch_len hz2
 have hsp : up ++ low1 ≠ [] := by simp [hne]
 obtain ⟨pp1, pp2⟩ := span_pl (hoku.app hokl) hsp
 walk_at "s"
 refine k_meth (p1.ext X3) rfl ?_
 walk_at "s"
 refine c_inputs hc3 ?_
 walk_at "s"
 refine c_in0 hc3 ?_
 walk_at "s"
 refine c_inputs hc3 ?_
 walk_at "s"
 refine c_in1 hc3 ?_
 obtain ⟨vu, u1, u2⟩ := hc3.a
 obtain ⟨vl, l1, l2⟩ := hc3.b
 refine o_addL u1 l1 (small_of u2.len (by omega)) (small_of l2.len (by omega)) (n_new fun sp H4 x4 f4 hl4 => ?_)
 walk_at "s"
 refine CUR p op sp (up ++ low1) _ _ (hP.ext (X3.trans x4)) ⟨_, hl4, (u2.app l2).ext x4⟩ (by rw [List.length_append]; omega) hsp (hoku.app hokl) fun H5 x5 => ?_
 have X5 := (X3.trans x4).trans x5
 have hc5 := (hc3.ext x4).ext x5
 walk_at "s"
 refine c_inputs hc5 ?_
 walk_at "s"
 refine c_in1 hc5 ?_
 walk_at "s"
 refine hc5.b.small (by omega) ?_
 walk_at "s"
 have nogrow : ¬ growOk o L level up → ∀ (ρ : Lo) (H : AH), Ext H0 H → CAt H c op v w3 level man up low1 [] [] [] → ρ .self = some (.ref p) → ρ .c = some (.ref c) → ρ .pointers = some (.ref ptr) → ρ .level = some (.int level) → ρ .version = some (.ref v) → ρ .span = some (.tup [.bytes (U (loOf (up ++ low1))), .bytes (U (hiOf (up ++ low1)))]) →
   exSs Φ setup_rest ρ H (retK Q) := fun hng ρ H X hc r1 r2 r3 r4 r5 r6 => fin w3 up low1 ρ H X hc fd3 fw3 hne hup hoku hokl (.inr ⟨hng, rfl, hlo.symm⟩) r1 r2 r3 r4 r5 r6
 refine k_ite (fun cc => ?_) (fun cc => ?_)
 ·replace cc := ci_gt_t.mp cc
  walk_at "s"
  refine k_meth (hf1.ext X5) rfl ?_
  walk_at "s"
  refine i_tup (by decide) (by decide) (u := .bytes (U (loOf (up ++ low1)))) rfl ?_
  walk_at "s"
  refine i_tup (by decide) (by decide) (u := .bytes (U (hiOf (up ++ low1)))) rfl ?_
  walk_at "s"
  rw [← pp1.ub, ← pp2.ub]
  refine CO v L T B lv level _ _ _ _ _ (hV.ext X5) hL.ok hl0 hm1 pp1.pb pp2.pb fun G vg H6 x6 fG hlG hmG => ?_
  have hgr : overP level (lvl L level) (loOf (up ++ low1)) (hiOf (up ++ low1)) = grownP L level up := by unfold grownP; rw [hlo]
  rw [hgr] at hmG
  have hokg : FsOk (grownP L level up) := hok1.over
  have hzg : (grownP L level up).length ≤ 100 := Nat.le_trans over_len hz1
  have X6 := X5.trans x6
  have hc6 := hc5.ext x6
  walk_at "s"
  refine g_attr (p1.ext X6) p4 ?_
  refine g_attr (o1.ext X6) o4 ?_
  walk_at "s"
  refine g_attr (p1.ext X6) p4 ?_
  refine g_attr (o1.ext X6) o3 ?_
  have b1 := hOB.ef
  have b2 := hOB.mfs
  refine o_mul (by omega) (by omega) ?_
  walk_at "s"
  refine c_inputs hc6 ?_
  walk_at "s"
  refine c_in1 hc6 ?_
  walk_at "s"
  refine CT _ _ _ _ hc6.b (by omega) ?_
  walk_at "s"
  refine CT _ _ _ _ ⟨vg, hlG, hmG⟩ (by omega) ?_
  walk_at "s"
  refine ML.small (l := G) (fs := grownP L level up) ⟨vg, hlG, hmG⟩ (by omega) ?_
  walk_at "s"
  refine c_inputs hc6 ?_
  walk_at "s"
  refine c_in0 hc6 ?_
  walk_at "s"
  refine hc6.a.small (by omega) ?_
  walk_at "s"
  refine k_and (fun c1 => ?_) (fun c1 => ?_)
  ·replace c1 := ci_gt_t.mp c1
   walk_at "s"
   refine k_ite (fun c2 => ?_) (fun c2 => ?_)
   ·replace c2 := ci_lt_t.mp c2
    have hneg : grownP L level up ≠ [] := fun z => by rw [z] at c1; simp at c1; omega
    obtain ⟨pg1, pg2⟩ := span_pl hokg hneg
    walk_at "s"
    refine k_meth (p1.ext X6) rfl ?_
    walk_at "s"
    refine CUR p op G _ _ _ (hP.ext X6) ⟨vg, hlG, hmG⟩ (by omega) hneg hokg fun H7 x7 => ?_
    have X7 := X6.trans x7
    walk_at "s"
    refine k_meth (hf1.ext X7) rfl ?_
    walk_at "s"
    refine i_tup (by decide) (by decide) (u := .bytes (U (loOf (grownP L level up)))) rfl ?_
    walk_at "s"
    refine i_tup (by decide) (by decide) (u := .bytes (U (hiOf (grownP L level up)))) rfl ?_
    walk_at "s"
    rw [← pg1.ub, ← pg2.ub]
    refine CO v L T B lv (level + 1) _ _ _ _ _ (hV.ext X7) hL.ok (by omega) hm2 pg1.pb pg2.pb fun AB va H8 x8 fA hlA hmA => ?_
    rw [over_pos (by omega)] at hmA
    generalize hab : touchP (lvl L (level + 1)) (loOf (grownP L level up)) (hiOf (grownP L level up)) = above at hmA
    have hoka : FsOk above := by rw [← hab]; exact hok2.touch
    have hza : above.length ≤ 100 := by rw [← hab]; exact Nat.le_trans touch_len hz2
    have X8 := X7.trans x8
    have hc8 := (hc6.ext x7).ext x8
    walk_at "s"
    refine ML.small (l := AB) (fs := above) ⟨va, hlA, hmA⟩ (by omega) ?_
    walk_at "s"
    refine c_inputs hc8 ?_
    walk_at "s"
    refine c_in1 hc8 ?_
    walk_at "s"
    refine hc8.b.small (by omega) ?_
    walk_at "s"
    refine k_ite (fun c3 => ?_) (fun c3 => ?_)
    ·replace c3 := ci_eq_t.mp c3
     have hgo : growOk o L level up := by
      refine ⟨?_, by omega, ?_, ?_⟩
      ·rw [hlo]; omega
      ·rw [hlo]; omega
      ·rw [hlo, hab]; omega
     have hfG : G ∉ w3.l := hc5.fresh fG
     have hfA : AB ∉ w3.l := (hc6.ext x7).fresh fA
     have hAG : AB ≠ G := fun z => (no_ns z fA (x7 _ _ hlG))
     walk_at "s"
     refine c_inputs hc8 ?_
     walk_at "s"
     refine s_idxL hc8.ins (by decide) (by simp) (sm rfl) ?_
     have eset : ([.ref w3.A, .ref w3.B] : List V).set (Int.toNat 0) (.ref G) = [.ref G, .ref w3.B] := rfl
     rw [eset]
     have hc9 := hc8.setA (A' := G) ⟨vg, x8 _ _ (x7 _ _ hlG), (hmG.ext x7).ext x8⟩ hfG
     have X9 : Ext H0 (H8.set w3.IN (.list [.ref G, .ref w3.B])) := X8.set (fw3 _ (by walk_at "m"))
     have hAB9 : ML (H8.set w3.IN (.list [.ref G, .ref w3.B])) AB above := ML.setl (m := AB) (fs := above) (H := H8) (xs := [.ref w3.A, .ref w3.B]) hc8.ins (fun z => hfA (by rw [z]; walk_at "m")) ⟨va, hlA, hmA⟩
     generalize H8.set w3.IN (.list [.ref G, .ref w3.B]) = H9 at hc9 X9 hAB9 ⊢
     walk_at "s"
     refine c_inputs hc9 ?_
     walk_at "s"
     refine s_idxL hc9.ins (by decide) (by simp) (sm rfl) ?_
     have eset : ([.ref G, .ref w3.B] : List V).set (Int.toNat 1) (.ref AB) = [.ref G, .ref AB] := rfl
     rw [eset]
     have hc10 := hc9.setB (B' := AB) hAB9 (W7.ninA hfA hAG)
     have X10 : Ext H0 (H9.set w3.IN (.list [.ref G, .ref AB])) := X9.set (fw3 _ (by walk_at "m"))
     have fw10 : ∀ x ∈ W7.l { { w3 with A := G } with B := AB }, H0 x = none := W7.allB (W7.allA fw3 (X5.none fG)) (X7.none fA)
     have hc10' : CAt (H9.set w3.IN (.list [.ref G, .ref AB])) c op v { { w3 with A := G } with B := AB } level man (grownP L level up) above [] [] [] := hc10
     have fd10 : H0 ({ { w3 with A := G } with B := AB } : W7).dx = none := fd3
     generalize H9.set w3.IN (.list [.ref G, .ref AB]) = H10 at hc10' X10 ⊢
     generalize ({ { w3 with A := G } with B := AB } : W7) = w10 at hc10' fw10 fd10
     have hspg : grownP L level up ++ above ≠ [] := by simp [hneg]
     walk_at "s"
     refine k_meth (p1.ext X10) rfl ?_
     walk_at "s"
     refine c_inputs hc10' ?_
     walk_at "s"
     refine c_in0 hc10' ?_
     walk_at "s"
     refine c_inputs hc10' ?_
     walk_at "s"
     refine c_in1 hc10' ?_
     obtain ⟨vu', u1', u2'⟩ := hc10'.a
     obtain ⟨vl', l1', l2'⟩ := hc10'.b
     refine o_addL u1' l1' (small_of u2'.len (by omega)) (small_of l2'.len (by omega)) (n_new fun sp2 H11 x11 f11 hl11 => ?_)
     walk_at "s"
     refine CUR p op sp2 (grownP L level up ++ above) _ _ (hP.ext (X10.trans x11)) ⟨_, hl11, (u2'.app l2').ext x11⟩ (by rw [List.length_append]; omega) hspg (hokg.app hoka) fun H12 x12 => ?_
     refine x_nil (K_nx (x_nil (K_nx (x_nil (K_nx ?_)))))
     refine fin w10 (grownP L level up) above _ H12 ((X10.trans x11).trans x12) ((hc10'.ext x11).ext x12) fd10 fw10 hneg hzg hokg hoka (.inl ⟨hgo, rfl, hab.symm⟩) ?_ ?_ ?_ ?_ ?_ ?_ <;> exact rfl
    ·replace c3 := ci_eq_f.mp c3
     refine x_nil (K_nx (x_nil (K_nx (x_nil (K_nx ?_)))))
     refine nogrow (fun z => c3 (by have := z.2.2.2; rw [hlo, hab] at this; omega)) _ H8 X8 hc8 ?_ ?_ ?_ ?_ ?_ ?_ <;> first | exact rfl | (show some (V.tup [ub _, ub _]) = _; rw [pp1.ub, pp2.ub])
   ·replace c2 := ci_lt_f.mp c2
    refine x_nil (K_nx (x_nil (K_nx ?_)))
    refine nogrow (fun z => by have := z.2.2.1; rw [hlo] at this; omega) _ H6 X6 hc6 ?_ ?_ ?_ ?_ ?_ ?_ <;> first | exact rfl | (show some (V.tup [ub _, ub _]) = _; rw [pp1.ub, pp2.ub])
  ·replace c1 := ci_gt_f.mp c1
   refine k_f rfl ?_
   refine x_nil (K_nx (x_nil (K_nx ?_)))
   refine nogrow (fun z => by have := z.2.1; omega) _ H6 X6 hc6 ?_ ?_ ?_ ?_ ?_ ?_ <;> first | exact rfl | (show some (V.tup [ub _, ub _]) = _; rw [pp1.ub, pp2.ub])
 ·replace cc := ci_gt_f.mp cc
  refine x_nil (K_nx ?_)
  refine nogrow (fun z => by have := z.1; rw [hlo] at this; omega) _ H5 X5 hc5 ?_ ?_ ?_ ?_ ?_ ?_ <;> exact rfl
theorem joined_mem {fs : List Fi} (h : FsOk fs) {lo hi : Int} {f : Fi} (hf : f ∈ fs) (ht : tch lo hi f = true) : f ∈ joinedP fs lo hi := touch_mem.mpr ⟨hf, (joinN_in h fs.length lo hi).tch ht⟩
noncomputable def firstP (L : List (List Fi)) (lev : Int) : List Fi := match lvl L lev with
 | [] => []
 | f :: _ => if lev = 0 then overP 0 (lvl L 0) f.lo f.hi else [f]
noncomputable def C_needs (Φ : Phi) : Prop := ∀ (p v : V) (a : Addr) (L : List (List Fi)) (T B lv : Int) (H : AH) (Q : PV), v = .ref a → VerAt H a L T B lv → Q (.bool (decide (B ≤ T))) H → Φ .Picker_needs_compaction [p, v] H Q
theorem c_needs (k : Nat) : C_needs (phi (k + 1)) := by
 intro p v a L T B lv H Q hv hV hQ
 subst hv
 refine phi_call (body := Picker_needs_compaction_body) rfl rfl ?_; intro ρ0
 generalize phi k = Φ
 walk_at "s"
 refine ver_score hV ?_
 walk_at "s"
 refine i_tup (by decide) (by decide) (u := .int T) rfl ?_
 walk_at "s"
 refine ver_score hV ?_
 walk_at "s"
 refine i_tup (by decide) (by decide) (u := .int B) rfl ?_
 walk_at "s"
 exact hQ
noncomputable def C_pick (Φ : Phi) : Prop := ∀ (p op v ptr : Addr) (o : Op) (L : List (List Fi)) (T B lev : Int) (H0 : AH) (Q : PV),
 VerAt H0 v L T B lev → LvOk L → PickAt H0 p op → OptAt H0 op o → OpB o L.length → H0 ptr = some (.list (List.replicate L.length (.bytes []))) → (B ≤ T → 0 ≤ lev ∧ lev + 1 < L.length ∧ lvl L lev ≠ []) →
 (T < B → Q .none H0) → (B ≤ T → ∀ c w pk H', Evo ptr H0 H' → IsPk o L lev (firstP L lev) pk → H0 c = none → H0 (W7.dx w) = none → (∀ x ∈ W7.l w, H0 x = none) → CAt H' c op v w lev false (Pk.up pk) (Pk.low pk) (Pk.gr pk) (cpV lev (Pk.up pk)) [] → Q (.ref c) H') →
 Φ .Picker_pick [.ref p, .ref v, .ref ptr] H0 Q
theorem c_pick (k : Nat) : C_pick (phi (k + 8)) := by
 intro p op v ptr o L T B lev H0 Q hV hL hP hO hOB hptr hlev hQ0 hQ1
 obtain ⟨gv, FL, vv, ov, hf1, hf2, hf3, hf4, hf5⟩ := id hV
 obtain ⟨gp, oo, p1, p2, p3, p4⟩ := id hP
 have hfew := hL.ok.few
 have hnl := hOB.nl
 refine phi_call (body := Picker_pick_body) rfl rfl ?_; intro ρ0
 have CN : C_needs (phi (k + 7)) := c_needs (k + 6)
 have CC : C_comp (phi (k + 7)) := c_comp (k + 5)
 have CUR : C_urange (phi (k + 7)) := c_urange (k + 1)
 have CO : C_over (phi (k + 7)) := c_over (k + 5)
 have CS : C_setup (phi (k + 7)) := c_setup k
 generalize phi (k + 7) = Φ at CN CC CUR CO CS ⊢
 walk_at "s"
 refine k_meth p1 rfl ?_
 walk_at "s"
 refine CN _ _ v _ _ _ _ _ _ rfl hV ?_
 walk_at "s"
 refine k_ite (fun c => ?_) (fun c => ?_)
 ·simp only [Bool.not_eq_true', decide_eq_false_iff_not] at c
  walk_at "s"
  exact hQ0 (by omega)
 ·simp only [Bool.not_eq_false', decide_eq_true_eq] at c
  obtain ⟨h0, h1, hne⟩ := hlev c
  have hQ := hQ1 c
  have hm := lvl_get (L := L) h0 (by omega)
  obtain ⟨hz, hok⟩ := hL.ok.each _ (List.mem_of_getElem? hm)
  obtain ⟨l, q1, ms, q2, q3⟩ := hf4.get hm
  walk_at "s"
  refine ver_lev hV ?_
  walk_at "s"
  refine g_attr p1 p4 ?_
  walk_at "s"
  refine CC lev v op o _ _ hO (by omega) (by omega) fun cc w H1 x1 fc fd fw hc => ?_
  walk_at "s"
  refine g_attr (hf1.ext x1) hf2 ?_
  walk_at "s"
  refine i_list (x1 _ _ hf3) h0 (by omega) q1 ?_
  walk_at "s"
  refine i_list (x1 _ _ hptr) h0 (by omega) (u := .bytes []) (by rw [List.getElem?_replicate, if_pos (by omega)]) ?_
  walk_at "s"
  cases hfs : lvl L lev with
  | nil => exact absurd hfs hne
  | cons f fr =>
  rw [hfs] at q3 hok hz
  obtain ⟨a, ms', g1, g2, hma, hms⟩ : ∃ a ms', ms = .ref a :: ms' ∧ True ∧ MetaAt H0 a f ∧ Ms H0 ms' fr := by
   cases q3 with
   | cons m r => exact ⟨_, _, rfl, trivial, m, r⟩
  subst g1
  obtain ⟨pl, ph⟩ := hok.pl (.head _)
  have hlenm := hms.len
  refine i_list (x1 _ _ q2) (by decide) (by decide) (u := .ref a) rfl ?_
  walk_at "s"
  refine f_list (x1 _ _ q2) (by unfold smallL; simp at hz ⊢; omega) ?_
  have after : ∀ (ρ : Lo), ρ .self = some (.ref p) → ρ .version = some (.ref v) → ρ .pointers = some (.ref ptr) → ρ .level = some (.int lev) → ρ .c = some (.ref cc) → ρ .first = some (.ref a) →
    exSs Φ (.cons (.sidx (.attr (.var .c) .inputs) (.int 0) (.list (.cons (.var .first) .nil))) (.cons (.ite (.cmp .eq (.var .level) (.int 0)) (.cons (.asg (.nm .ends) (.meth (.var .self) .user_range (.cons (.idx (.attr (.var .c) .inputs) (.int 0)) .nil))) (.cons (.sidx (.attr (.var .c) .inputs) (.int 0) (.meth (.var .version) .overlapping (.cons (.int 0) (.cons (.idx (.var .ends) (.int 0)) (.cons (.idx (.var .ends) (.int 1)) .nil))))) .nil)) .nil) (.cons (.ex (.meth (.var .self) .set_up_other (.cons (.var .c) (.cons (.var .pointers) .nil)))) (.cons (.ret (.var .c)) .nil)))) ρ H1 (retK Q) := by
   intro ρ r1 r2 r3 r4 r5 r6
   walk_at "s"
   refine ⟨sm rfl, n_new fun A1 H2 x2 fA lA => ?_⟩
   have hc2 := hc.ext x2
   walk_at "s"
   refine c_inputs hc2 ?_
   walk_at "s"
   refine s_idxL hc2.ins (by decide) (by simp) (sm rfl) ?_
   have eset : ([.ref w.A, .ref w.B] : List V).set (Int.toNat 0) (.ref A1) = [.ref A1, .ref w.B] := rfl
   rw [eset]
   have hc3 := hc2.setA (A' := A1) (up' := [f]) ⟨_, lA, .cons ((hma.ext x1).ext x2) .nil⟩ (hc.fresh fA)
   have X3 : Ext H0 (H2.set w.IN (.list [.ref A1, .ref w.B])) := (x1.trans x2).set (fw _ (by walk_at "m"))
   have fw3 : ∀ x ∈ W7.l { w with A := A1 }, H0 x = none := W7.allA fw (x1.none fA)
   have fd3 : H0 ({ w with A := A1 } : W7).dx = none := fd
   generalize H2.set w.IN (.list [.ref A1, .ref w.B]) = H3 at hc3 X3 ⊢
   generalize ({ w with A := A1 } : W7) = w3 at hc3 fw3 fd3
   have fin : ∀ (w : W7) (up : List Fi) (ρ : Lo) (H : AH), Ext H0 H → CAt H cc op v w lev false up [] [] [] [] → H0 w.dx = none → (∀ x ∈ w.l, H0 x = none) → up = firstP L lev → up ≠ [] → up.length ≤ 100 → (∀ f ∈ up, f ∈ lvl L lev) → ρ .self = some (.ref p) → ρ .c = some (.ref cc) → ρ .pointers = some (.ref ptr) →
     exSs Φ (.cons (.ex (.meth (.var .self) .set_up_other (.cons (.var .c) (.cons (.var .pointers) .nil)))) (.cons (.ret (.var .c)) .nil)) ρ H (retK Q) := by
    intro w up ρ H X hc fd fw hup hne hz hsub s1 s2 s3
    walk_at "s"
    refine k_meth (p1.ext X) rfl ?_
    walk_at "s"
    refine CS p op v cc ptr o L T B lev lev w false up _ H0 H _ hV hL hP hO hOB X hc fc fd fw hptr (by rw [List.length_replicate]) h0 h1 hne hz hsub fun w' pk H' e hpk fd' fw' hc' => ?_
    walk_at "s"
    exact hQ cc w' pk H' e (hup ▸ hpk) fc fd' fw' hc'
   walk_at "s"
   refine k_ite (fun c => ?_) (fun c => ?_)
   ·replace c := ci_eq_t.mp c
    subst c
    walk_at "s"
    refine k_meth (p1.ext X3) rfl ?_
    walk_at "s"
    refine c_inputs hc3 ?_
    walk_at "s"
    refine c_in0 hc3 ?_
    walk_at "s"
    refine CUR p op _ [f] _ _ (hP.ext X3) hc3.a (by simp) (by simp) (hok.sub fun g hg => by rw [List.mem_singleton.mp hg]; exact .head _) fun H4 x4 => ?_
    have X4 := X3.trans x4
    have hc4 := hc3.ext x4
    walk_at "s"
    refine k_meth (hf1.ext X4) rfl ?_
    walk_at "s"
    refine i_tup (by decide) (by decide) (u := .bytes (U f.lo)) rfl ?_
    walk_at "s"
    refine i_tup (by decide) (by decide) (u := .bytes (U f.hi)) rfl ?_
    walk_at "s"
    rw [← pl.ub, ← ph.ub]
    refine CO v L T B 0 0 _ _ _ _ _ (hV.ext X4) hL.ok (by decide) hm pl.pb ph.pb fun G vg H5 x5 fG hlG hmG => ?_
    have hc5 := hc4.ext x5
    walk_at "s"
    refine c_inputs hc5 ?_
    walk_at "s"
    refine s_idxL hc5.ins (by decide) (by simp) (sm rfl) ?_
    have eset : ([.ref w3.A, .ref w3.B] : List V).set (Int.toNat 0) (.ref G) = [.ref G, .ref w3.B] := rfl
    rw [eset]
    have hc6 := hc5.setA (A' := G) ⟨vg, hlG, hmG⟩ (hc4.fresh fG)
    refine x_nil (K_nx ?_)
    have hokL : FsOk (lvl L 0) := by rw [hfs]; exact hok
    refine fin { w3 with A := G } (overP 0 (lvl L 0) f.lo f.hi) _ _ ((X4.trans x5).set (fw3 _ (by walk_at "m"))) hc6 fd3 (W7.allA fw3 (X4.none fG)) ?_ ?_ (Nat.le_trans over_len (by rw [hfs]; exact hz)) ?_ (by exact r1) (by exact r5) (by exact r3)
    ·unfold firstP; rw [hfs]; dsimp only; rw [if_pos rfl]
    ·have : f ∈ overP 0 (lvl L 0) f.lo f.hi := by
      unfold overP; rw [if_pos rfl]
      have := hok f (.head _)
      unfold Fi.ok at this
      exact joined_mem hokL (by rw [hfs]; exact .head _) (by rw [tch_iff]; omega)
     exact List.ne_nil_of_mem this
    ·intro g hg
     unfold overP joinedP at hg
     rw [if_pos rfl] at hg
     exact (touch_mem.mp hg).1
   ·replace c := ci_eq_f.mp c
    refine x_nil (K_nx ?_)
    refine fin w3 [f] _ H3 X3 hc3 fd3 fw3 ?_ (by simp) (by simp) (fun g hg => by rw [List.mem_singleton.mp hg, hfs]; exact .head _) (by exact r1) (by exact r5) (by exact r3)
    unfold firstP; rw [hfs]; dsimp only; rw [if_neg c]
  -- the first file is taken at once
  show forA _ _ _ (V.ref a :: ms') _ _ _
  show exSs Φ _ _ _ _
  walk_at "s"
  refine k_or_t (by rfl) ?_
  refine k_t rfl ?_
  refine x_asg (v_var (by exact rfl) (x_brk (K_br ?_)))
  show seqK Φ _ _ .nx _ _
  refine K_nx ?_
  refine after _ ?_ ?_ ?_ ?_ ?_ ?_ <;> exact rfl
noncomputable def cutF (m : Int) : Int → List Fi → List Fi
 | _, [] => []
 | t, f :: r => if t < m then f :: cutF m (t + f.s) r else []
theorem cutF_cons {m t : Int} {f : Fi} {r : List Fi} : cutF m t (f :: r) = if t < m then f :: cutF m (t + f.s) r else [] := rfl
noncomputable def handP (o : Op) (L : List (List Fi)) (level lo hi : Int) : List Fi := if 0 < level then cutF o.mfs 0 (overP level (lvl L level) lo hi) else overP level (lvl L level) lo hi
noncomputable def C_hand (Φ : Phi) : Prop := ∀ (p op v ptr : Addr) (o : Op) (L : List (List Fi)) (T B lev level lo hi : Int) (H0 : AH) (Q : PV),
 VerAt H0 v L T B lev → LvOk L → PickAt H0 p op → OptAt H0 op o → OpB o L.length → H0 ptr = some (.list (List.replicate L.length (.bytes []))) → 0 ≤ level → level + 1 < L.length → Pb lo → Pb hi →
 (∀ H', Ext H0 H' → overP level (lvl L level) lo hi = [] → Q .none H') → (overP level (lvl L level) lo hi ≠ [] → ∀ c w pk H', Evo ptr H0 H' → IsPk o L level (handP o L level lo hi) pk → H0 c = none → H0 (W7.dx w) = none → (∀ x ∈ W7.l w, H0 x = none) → CAt H' c op v w level true (Pk.up pk) (Pk.low pk) (Pk.gr pk) (cpV level (Pk.up pk)) [] → Q (.ref c) H') →
 Φ .Picker_pick_range [.ref p, .ref v, .ref ptr, .int level, ub lo, ub hi] H0 Q
theorem over_sub {level : Int} {fs : List Fi} {lo hi : Int} : ∀ f ∈ overP level fs lo hi, f ∈ fs := by
 intro f hf
 unfold overP joinedP at hf
 split at hf <;> exact (touch_mem.mp hf).1
theorem cut_take {m : Int} (fs : List Fi) (t : Int) : ∃ n, n ≤ fs.length ∧ cutF m t fs = fs.take n := by
 induction fs generalizing t with
 | nil => exact ⟨0, Nat.le_refl _, rfl⟩
 | cons f r ih =>
  obtain ⟨n, h1, h2⟩ := ih (t + f.s)
  rw [cutF_cons]
  split
  ·exact ⟨n + 1, Nat.succ_le_succ h1, by rw [h2]; rfl⟩
  ·exact ⟨0, Nat.zero_le _, rfl⟩
theorem c_hand (k : Nat) : C_hand (phi (k + 8)) := by
 intro p op v ptr o L T B lev level lo hi H0 Q hV hL hP hO hOB hptr h0 h1 hlo hhi hQ0 hQ
 obtain ⟨gv, FL, vv, ov, hf1, hf2, hf3, hf4, hf5⟩ := id hV
 obtain ⟨gp, oo, p1, p2, p3, p4⟩ := id hP
 obtain ⟨go, o1, o2, o3, o4⟩ := id hO
 have hfew := hL.ok.few
 have hnl := hOB.nl
 have hm := lvl_get (L := L) h0 (by omega)
 obtain ⟨hz, hok⟩ := hL.ok.each _ (List.mem_of_getElem? hm)
 refine phi_call (body := Picker_pick_range_body) rfl rfl ?_; intro ρ0
 have CC : C_comp (phi (k + 7)) := c_comp (k + 5)
 have CO : C_over (phi (k + 7)) := c_over (k + 5)
 have CS : C_setup (phi (k + 7)) := c_setup k
 generalize phi (k + 7) = Φ at CC CO CS ⊢
 have fin : ∀ (fl : Addr) (up : List Fi) (ρ : Lo) (H : AH), Ext H0 H → ML H fl up → H0 fl = none → up = handP o L level lo hi → up ≠ [] → up.length ≤ 100 → (∀ f ∈ up, f ∈ lvl L level) → overP level (lvl L level) lo hi ≠ [] → ρ .self = some (.ref p) → ρ .version = some (.ref v) → ρ .pointers = some (.ref ptr) → ρ .level = some (.int level) → ρ .files = some (.ref fl) →
   exSs Φ (.cons (.asg (.nm .c) (.new .Compaction (.cons (.var .level) (.cons (.var .version) (.cons (.attr (.var .self) .options) .nil))))) (.cons (.sattr (.var .c) .manual (.bool true)) (.cons (.sidx (.attr (.var .c) .inputs) (.int 0) (.var .files)) (.cons (.ex (.meth (.var .self) .set_up_other (.cons (.var .c) (.cons (.var .pointers) .nil)))) (.cons (.ret (.var .c)) .nil))))) ρ H (retK Q) := by
  intro fl up ρ H X hfl hff hup hne hzu hsub hne2 r1 r2 r3 r4 r5
  walk_at "s"
  refine g_attr (p1.ext X) p4 ?_
  walk_at "s"
  refine CC level v op o _ _ (hO.ext X) (by omega) (by omega) fun cc w H1 x1 fc fd fw hc => ?_
  have X1 := X.trans x1
  walk_at "s"
  refine hc.setMan fun O hc2 => ?_
  have X2 : Ext H0 (H1.set w.dx O) := X1.set (X.none fd)
  obtain ⟨vfl, fl1, fl2⟩ := hfl
  have hfl2 : ML (H1.set w.dx O) fl up := by
   refine ⟨vfl, ?_, ?_⟩
   ·rw [set_other (fun z => (no_ns z.symm fd fl1))]; exact x1 _ _ fl1
   ·have xx : Ext H (H1.set w.dx O) := x1.set fd
    exact fl2.ext xx
  have hflw : fl ∉ w.l := fun z => by rw [fw fl z] at fl1; cases fl1
  generalize H1.set w.dx O = H2 at hc2 X2 hfl2 ⊢
  walk_at "s"
  refine c_inputs hc2 ?_
  walk_at "s"
  refine s_idxL hc2.ins (by decide) (by simp) (sm rfl) ?_
  have eset : ([.ref w.A, .ref w.B] : List V).set (Int.toNat 0) (.ref fl) = [.ref fl, .ref w.B] := rfl
  rw [eset]
  have hc3 := hc2.setA hfl2 hflw
  have X3 : Ext H0 (H2.set w.IN (.list [.ref fl, .ref w.B])) := X2.set (X.none (fw _ (by walk_at "m")))
  have fw3 : ∀ x ∈ W7.l { w with A := fl }, H0 x = none := W7.allA (fun x hx => X.none (fw x hx)) hff
  walk_at "s"
  refine k_meth (p1.ext X3) rfl ?_
  walk_at "s"
  refine CS p op v cc ptr o L T B lev level { w with A := fl } true up _ H0 _ _ hV hL hP hO hOB X3 hc3 (X.none fc) (X.none fd) fw3 hptr (by rw [List.length_replicate]) h0 h1 hne hzu hsub fun w' pk H' e hpk fd' fw' hc' => ?_
  walk_at "s"
  exact hQ hne2 cc w' pk H' e (hup ▸ hpk) (X.none fc) fd' fw' hc'
 walk_at "s"
 refine k_or_f (by walk_at "c") ?_
 walk_at "s"
 refine g_attr p1 p4 ?_
 refine g_attr o1 o2 ?_
 walk_at "s"
 refine k_f (by walk_at "c") ?_
 walk_at "s"
 refine k_meth hf1 rfl ?_
 walk_at "s"
 refine CO v L T B lev level _ _ _ _ _ hV hL.ok h0 hm hlo hhi fun a vs H1 x1 fa hla hma => ?_
 generalize hov : overP level (lvl L level) lo hi = ov at hma
 have hzo : ov.length ≤ 100 := by rw [← hov]; exact Nat.le_trans over_len hz
 have hso : ∀ f ∈ ov, f ∈ lvl L level := by rw [← hov]; exact over_sub
 have hlen := hma.len
 walk_at "s"
 refine ML.small (l := a) (fs := ov) ⟨vs, hla, hma⟩ (by omega) ?_
 walk_at "s"
 refine k_ite (fun c => ?_) (fun c => ?_)
 ·replace c := ci_eq_t.mp c
  walk_at "s"
  exact hQ0 _ x1 (by rw [hov]; exact List.length_eq_zero_iff.mp (by omega))
 ·replace c := ci_eq_f.mp c
  have hne : ov ≠ [] := fun z => by rw [z] at c; exact c rfl
  walk_at "s"
  refine k_ite (fun c2 => ?_) (fun c2 => ?_)
  ·replace c2 := ci_gt_t.mp c2
   walk_at "s"
   refine x_while fun P hP => ?_
   let I1 : Nat → Lo → AH → Prop := fun n ρ H => H1 = H ∧ Sx2 fun (i : Nat) (t : Int) => A10 (i ≤ ov.length) (ρ .total = some (.int t)) (ρ .count = some (.int i)) (ov.take i ++ cutF o.mfs t (ov.drop i) = cutF o.mfs 0 ov) (n = ov.length - i) (ρ .self = some (.ref p)) (ρ .version = some (.ref v)) (ρ .pointers = some (.ref ptr)) (ρ .level = some (.int level)) (ρ .files = some (.ref a))
   refine while_ind (P := P) I1 ?_ _ _ _
    ⟨rfl, 0, 0, Nat.zero_le _, rfl, rfl, rfl, rfl, rfl, rfl, rfl, rfl, rfl⟩
   rintro n ρ H ⟨rfl, i, t, hi_, s1, s2, hcut, rfl, r1, r2, r3, r4, r5⟩ ih
   refine hP ρ H1 ?_
   walk_at "s"
   refine ML.small (l := a) (fs := ov) ⟨vs, hla, hma⟩ (by omega) ?_
   walk_at "s"
   have stop : cutF o.mfs t (ov.drop i) = [] → exSs Φ (.cons (.asg (.nm .files) (.upto (.var .files) (.var .count))) .nil) ρ H1 (seqK Φ (.cons (.asg (.nm .c) (.new .Compaction (.cons (.var .level) (.cons (.var .version) (.cons (.attr (.var .self) .options) .nil))))) (.cons (.sattr (.var .c) .manual (.bool true)) (.cons (.sidx (.attr (.var .c) .inputs) (.int 0) (.var .files)) (.cons (.ex (.meth (.var .self) .set_up_other (.cons (.var .c) (.cons (.var .pointers) .nil)))) (.cons (.ret (.var .c)) .nil))))) (retK Q)) := fun hnil => by
    rw [hnil, List.append_nil] at hcut
    walk_at "s"
    refine u_list hla (by omega) (by omega) (by unfold smallL; omega) (n_new fun b H2 x2 fb hlb => ?_)
    refine x_nil (K_nx ?_)
    have htk : (ov.take i) = handP o L level lo hi := by unfold handP; rw [if_pos c2, hov]; exact hcut
    refine fin b (ov.take i) _ H2 (x1.trans x2) ⟨_, hlb, (hma.take _).ext x2⟩ (x1.none fb) htk ?_ (by rw [List.length_take]; omega) (fun f hf => hso f (List.mem_of_mem_take hf)) (by rw [hov]; exact hne) (by exact r1) (by exact r2) (by exact r3) (by exact r4) (by exact rfl)
    rw [hcut]
    cases ov with
    | nil => exact absurd rfl hne
    | cons f r => rw [cutF_cons, if_pos (by have := hOB.mfs; omega)]; simp
   refine k_and (fun d1 => ?_) (fun d1 => ?_)
   ·replace d1 := ci_lt_t.mp d1
    have hil : i < ov.length := by omega
    have hf : ov[i]? = some ov[i] := List.getElem?_eq_getElem hil
    generalize ov[i] = f at hf
    walk_at "s"
    refine g_attr (p1.ext x1) p4 ?_
    refine g_attr (o1.ext x1) o3 ?_
    walk_at "s"
    refine k_ite (fun d2 => ?_) (fun d2 => ?_)
    ·replace d2 := ci_lt_t.mp d2
     walk_at "s"
     refine ms_idx (i := (i : Int)) hla hma (by omega) (by omega) (by simpa using hf) fun am hm _ => ?_
     refine m_size hm ?_
     walk_at "s"
     refine ih (ov.length - (i + 1)) _ _ (by omega) ⟨rfl, i + 1, t + f.s, by omega, by exact rfl, by exact rfl, ?_, rfl, by exact r1, by exact r2, by exact r3, by exact r4, by exact r5⟩
     rw [drop_get hf, cutF_cons, if_pos d2] at hcut
     rw [take_succ hf, List.append_assoc]
     exact hcut
    ·replace d2 := ci_lt_f.mp d2
     refine stop ?_
     rw [drop_get hf, cutF_cons, if_neg (by omega)]
   ·replace d1 := ci_lt_f.mp d1
    refine k_f rfl ?_
    refine stop ?_
    rw [List.drop_of_length_le (by omega)]; rfl
  ·replace c2 := ci_gt_f.mp c2
   refine x_nil (K_nx ?_)
   refine fin a ov _ H1 x1 ⟨vs, hla, hma⟩ fa ?_ hne hzo hso (by rw [hov]; exact hne) ?_ ?_ ?_ ?_ ?_ <;> first | exact rfl | skip
   unfold handP; rw [if_neg (by omega), hov]
section
variable {H H' : AH} {dx : Addr} {C' : Cl} {g' : Lo}
theorem Fld.evo (hd : H dx = some (.ns C' g')) (e : Evo dx H H') {a : Addr} {C : Cl} {f : Lo} (hC : C ≠ C') (h : Fld H a C f) : Fld H' a C f := by
 obtain ⟨d, h1, h2⟩ := h
 refine ⟨d, e _ _ (fun z => ?_) h1, e _ _ (fun z => ?_) h2⟩
 ·rw [z, hd] at h1; cases h1
 ·rw [z, hd] at h2; cases h2; exact hC rfl
theorem MetaAt.evo (hd : H dx = some (.ns C' g')) (e : Evo dx H H') (hC : C' ≠ .FileMeta) {a : Addr} {f : Fi} (h : MetaAt H a f) : MetaAt H' a f := let ⟨g, h1, r⟩ := h; ⟨g, h1.evo hd e (Ne.symm hC), r⟩
theorem Ms.evo (hd : H dx = some (.ns C' g')) (e : Evo dx H H') (hC : C' ≠ .FileMeta) {vs fs} (h : Ms H vs fs) : Ms H' vs fs := h.mono fun a => a.evo hd e hC
theorem list_evo (hd : H dx = some (.ns C' g')) (e : Evo dx H H') {l : Addr} {xs : List V} (h : H l = some (.list xs)) : H' l = some (.list xs) := e _ _ (fun z => (no_ss z h hd nofun)) h
theorem ML.evo (hd : H dx = some (.ns C' g')) (e : Evo dx H H') (hC : C' ≠ .FileMeta) {m : Addr} {fs : List Fi} (h : ML H m fs) : ML H' m fs := let ⟨vs, h1, h2⟩ := h; ⟨vs, list_evo hd e h1, h2.evo hd e hC⟩
theorem Lv.evo (hd : H dx = some (.ns C' g')) (e : Evo dx H H') (hC : C' ≠ .FileMeta) {vs L} (h : Lv H vs L) : Lv H' vs L := h.mono fun a => a.evo hd e hC
theorem OrdAt.evo (hd : H dx = some (.ns C' g')) (e : Evo dx H H') (h1 : C' ≠ .InternalOrder) (h2 : C' ≠ .BytesOrder) {o : Addr} (h : OrdAt H o) : OrdAt H' o := let ⟨g, u, gu, a, b, c⟩ := h; ⟨g, u, gu, a.evo hd e (Ne.symm h1), b, c.evo hd e (Ne.symm h2)⟩
theorem OptAt.evo (hd : H dx = some (.ns C' g')) (e : Evo dx H H') (hC : C' ≠ .Options) {a : Addr} {o : Op} (h : OptAt H a o) : OptAt H' a o := let ⟨g, h1, r⟩ := h; ⟨g, h1.evo hd e (Ne.symm hC), r⟩
end
noncomputable def C_maxo (Φ : Phi) : Prop := ∀ (op : Addr) (o : Op) (level : Int) (n : Nat) (H : AH) (Q : PV), OptAt H op o → OpB o n → 1 ≤ level → level ≤ 3 → (∀ b, 1 ≤ b → b ≤ 1000000000 → Q (.int b) H) → Φ .max_octets_of [.ref op, .int level] H Q
theorem lvl3 {l b : Int} (h1 : 1 ≤ l) (h3 : l ≤ 3) (hb : b ≤ 1000) : (l = 3 ∧ b ≤ 1000) ∨ (l = 2 ∧ b ≤ 1000000) ∨ (l = 1 ∧ b ≤ 1000000000) := by
 by_cases e3 : l = 3
 ·exact .inl ⟨e3, hb⟩
 ·by_cases e2 : l = 2
  ·exact .inr (.inl ⟨e2, Int.le_trans hb (by decide)⟩)
  ·exact .inr (.inr ⟨by omega, Int.le_trans hb (by decide)⟩)
theorem c_maxo (k : Nat) : C_maxo (phi (k + 1)) := by
 intro op o level n H0 Q hO hB h1 h3 hQ
 obtain ⟨g, o1, o2, o3, o4, o5, o6, o7, o8⟩ := hO
 have b1 := hB.bb
 have b2 := hB.lf
 refine phi_call (body := max_octets_of_body) rfl rfl ?_; intro ρ0
 generalize phi k = Φ
 walk_at "s"
 refine g_attr o1 o7 ?_
 walk_at "s"
 refine x_while fun P hP => ?_
 let I1 : Nat → Lo → AH → Prop := fun m ρ H => H0 = H ∧ Sx2 fun (l r : Int) => A7 (ρ .level = some (.int l)) (ρ .result = some (.int r)) (ρ .options = some (.ref op)) (1 ≤ l) (1 ≤ r) ((l = 3 ∧ r ≤ 1000) ∨ (l = 2 ∧ r ≤ 1000000) ∨ (l = 1 ∧ r ≤ 1000000000)) (m = l.toNat)
 refine while_ind (P := P) I1 ?_ _ _ _
  ⟨rfl, level, o.bb, rfl, rfl, rfl, h1, b1.1, lvl3 h1 h3 b1.2, rfl⟩
 rintro m ρ H ⟨rfl, l, r, r1, r2, r3, hl, hr, hb, rfl⟩ ih
 refine hP ρ H0 ?_
 walk_at "s"
 refine k_ite (fun c => ?_) (fun c => ?_)
 ·replace c := ci_gt_t.mp c
  have hmul : 1 ≤ r * o.lf := Int.le_trans (by decide) (Int.mul_le_mul hr b2.1 (by decide) (Int.le_trans (by decide) hr))
  have hmul2 : r * o.lf ≤ r * 1000 := Int.mul_le_mul_of_nonneg_left b2.2 (Int.le_trans (by decide) hr)
  have hr9 : r ≤ 1000000 := by
   rcases hb with ⟨_, h⟩ | ⟨_, h⟩ | ⟨e, _⟩
   ·exact Int.le_trans h (by decide)
   ·exact h
   ·rw [e] at c; exact absurd c (by decide)
  have hb' : (l - 1 = 3 ∧ r * o.lf ≤ 1000) ∨ (l - 1 = 2 ∧ r * o.lf ≤ 1000000) ∨ (l - 1 = 1 ∧ r * o.lf ≤ 1000000000) := by
   rcases hb with ⟨e, h⟩ | ⟨e, h⟩ | ⟨e, _⟩
   ·exact .inr (.inl ⟨by rw [e]; rfl, Int.le_trans hmul2 (Int.mul_le_mul_of_nonneg_right h (by decide))⟩)
   ·exact .inr (.inr ⟨by rw [e]; rfl, Int.le_trans hmul2 (Int.mul_le_mul_of_nonneg_right h (by decide))⟩)
   ·rw [e] at c; exact absurd c (by decide)
  clear hb
  walk_at "s"
  refine g_attr o1 o8 ?_
  refine a_mul (by omega) (by omega) ?_
  walk_at "s"
  refine ih (l - 1).toNat _ _ (by omega) ⟨rfl, l - 1, r * o.lf, by exact rfl, by exact rfl, by exact r3, by omega, hmul, hb', rfl⟩
 ·replace c := ci_gt_f.mp c
  walk_at "s"
  exact hQ r hr (hb.elim (fun h => Int.le_trans h.2 (by decide)) fun h => h.elim (fun h => Int.le_trans h.2 (by decide)) fun h => h.2)
noncomputable def C_score (Φ : Phi) : Prop := ∀ (v op : Addr) (o : Op) (L : List (List Fi)) (T0 B0 lv0 : Int) (H0 : AH) (Q : PV), VerAt H0 v L T0 B0 lv0 → LvOk L → OptAt H0 op o → OpB o L.length → 2 ≤ L.length → L.length ≤ 5 → (∀ fs ∈ L, ∀ f ∈ fs, 0 ≤ f.s ∧ f.s ≤ 1000) → lvl L 0 ≠ [] →
 (∀ r T B lev H' dx g, H0 v = some (.inst .Version dx) → H0 dx = some (.ns .Version g) → Evo dx H0 H' → VerAt H' v L T B lev → (B ≤ T → 0 ≤ lev ∧ lev + 1 < L.length ∧ lvl L lev ≠ []) → Q r H') → Φ .score_of [.ref v, .ref op] H0 Q
theorem sumS_bound : ∀ {fs : List Fi}, (∀ f ∈ fs, 0 ≤ f.s ∧ f.s ≤ 1000) → 0 ≤ sumS fs ∧ sumS fs ≤ 1000 * fs.length
 | [], _ => by simp [sumS]
 | f :: r, h => by
  have ih := sumS_bound (fs := r) fun g hg => h g (.tail _ hg)
  have := h f (.head _)
  rw [sumS_cons, List.length_cons]; omega
theorem c_score (k : Nat) : C_score (phi (k + 2)) := by
 intro v op o L T0 B0 lv0 H0 Q hV hL hO hB hn2 hn5 hs hne hQ
 have hV0 := hV
 obtain ⟨gv, FL, vv, ov, ⟨dx, v1, v2⟩, hf2, hf3, hf4, hf5, hf6, hf7, hf8⟩ := hV
 have hfv : Fld H0 v .Version gv := ⟨dx, v1, v2⟩
 have hvv := hf4.len
 have hnl := hB.nl
 have hl0 := hB.l0
 obtain ⟨go, o1, o2, o3, o4, o5, o6, o7, o8⟩ := id hO
 have hm0 := lvl_get (L := L) (i := 0) (by decide) (by omega)
 obtain ⟨hz0, hok0⟩ := hL.ok.each _ (List.mem_of_getElem? hm0)
 obtain ⟨l0, q1, ms0, q2, q3⟩ := hf4.get hm0
 have hms0 := q3.len
 refine phi_call (body := score_of_body) rfl rfl ?_; intro ρ0
 have CM : C_maxo (phi (k + 1)) := c_maxo k
 have CO : C_octets (phi (k + 1)) := c_octets k
 generalize phi (k + 1) = Φ at CM CO ⊢
 walk_at "s"
 refine g_attr hfv hf2 ?_
 walk_at "s"
 refine bi_lenL hf3 (small_of hvv (by omega)) ?_
 walk_at "s"
 refine k_f (by rw [ci_eq_f]; omega) ?_
 walk_at "s"
 refine g_attr hfv hf2 ?_
 walk_at "s"
 refine i_list hf3 (by decide) (by decide) q1 ?_
 walk_at "s"
 refine bi_lenL q2 (small_of hms0 (by omega)) ?_
 rw [hms0]
 walk_at "s"
 refine g_attr o1 o6 ?_
 walk_at "s"
 refine g_attr o1 o2 ?_
 walk_at "s"
 rw [hnl]
 with_reducible refine r_two (by refine ⟨?_, ?_, ?_, ?_⟩ <;> omega) ?_
 let I2 : List V → Lo → AH → Prop := fun rest ρ H => H0 = H ∧ Sx4 fun (n : Nat) (T B lev : Int) => A12 (1 ≤ n) (rest = rangeV n ((L.length : Int) - 1)) (0 ≤ T) (T ≤ 1000000) (1 ≤ B) (B ≤ 1000000000) (B ≤ T → 0 ≤ lev ∧ lev + 1 < L.length ∧ lvl L lev ≠ []) (ρ .version = some (.ref v)) (ρ .options = some (.ref op)) (ρ .best_top = some (.int T)) (ρ .best_bottom = some (.int B)) (ρ .best_level = some (.int lev))
 refine forA_inv I2 ?_ ?_ _ _ _
  ⟨rfl, 1, _, _, 0, Nat.le_refl _, rfl, by omega, by omega, by omega, by omega, fun _ => ⟨by decide, by omega, hne⟩, rfl, rfl, rfl, rfl, rfl⟩
 ·rintro w rest ρ H ⟨rfl, n, T, B, lev, hn1, hr, t0, t1, b0, b1, hlev, r1, r2, r3, r4, r5⟩ R rnx rct rbr rrt
  obtain ⟨e1, rfl, rfl⟩ := rangeV_inv hr
  have hm := lvl_get (L := L) (i := (n : Int)) (by omega) (by omega)
  obtain ⟨hz, hok⟩ := hL.ok.each _ (List.mem_of_getElem? hm)
  have hb := sumS_bound (hs _ (List.mem_of_getElem? hm))
  show exSs Φ _ _ _ _
  walk_at "s"
  refine k_meth hfv rfl ?_
  walk_at "s"
  refine CO v L T0 B0 lv0 n _ _ _ hV0 hL.ok (by omega) hm ?_
  walk_at "s"
  refine CM op o n _ _ _ hO hB (by omega) (by omega) fun bt hb1 hb2 => ?_
  walk_at "s"
  refine o_mul (by omega) (by omega) ?_
  walk_at "s"
  refine o_mul (by omega) (by omega) ?_
  walk_at "s"
  refine k_ite (fun c => ?_) (fun c => ?_)
  ·replace c := ci_gt_t.mp c
   have hpos : 0 ≤ T * bt := Int.mul_nonneg t0 (by omega)
   have hne' : lvl L n ≠ [] := fun z => by
    rw [z] at c
    simp [sumS] at c; omega
   walk_at "s"
   exact rnx _ _ trivial ⟨rfl, n + 1, sumS (lvl L n), bt, n, by omega, by rw [Int.natCast_add]; rfl, hb.1, by omega, hb1, hb2, fun _ => ⟨by omega, by omega, hne'⟩, by exact r1, by exact r2, by exact rfl, by exact rfl, by exact rfl⟩
  ·walk_at "s"
   exact rnx _ _ trivial ⟨rfl, n + 1, T, B, lev, by omega, by rw [Int.natCast_add]; rfl, t0, t1, b0, b1, hlev, by exact r1, by exact r2, by exact r3, by exact r4, by exact r5⟩
 ·rintro ρ H ⟨rfl, n, T, B, lev, hn1, hr, t0, t1, b0, b1, hlev, r1, r2, r3, r4, r5⟩
  walk_at "s"
  refine ⟨sm rfl, ?_⟩
  walk_at "s"
  refine i_attr v1 v2 (by decide) fun H1 e1 h1 h2 => ?_
  walk_at "s"
  refine i_attr h1 h2 (by decide) fun H2 e2 h1 h2 => ?_
  have E := e1.trans e2
  walk_at "s"
  refine g_attr ⟨dx, h1, h2⟩ (w := .tup [.int T, .int B]) rfl ?_
  walk_at "s"
  refine hQ _ T B lev H2 dx gv v1 v2 E ⟨_, FL, vv, ov, ⟨dx, h1, h2⟩, by exact hf2, list_evo v2 E hf3, hf4.evo v2 E (by decide), by exact hf5, by exact hf6, hf7.evo v2 E (by decide) (by decide), rfl, rfl⟩ hlev
structure Os {α : Type} (mk : α → AO) (H : AH) (as : List Addr) (X : List α) : Prop where
 len : as.length = X.length
 nd : as.Nodup
 at_ : ∀ (i : Nat) a x, as[i]? = some a → X[i]? = some x → H a = some (mk x)
section
variable {α : Type} {mk : α → AO} {H H' : AH} {as : List Addr} {X : List α} {a : Addr}
theorem Os.nil : Os mk H [] ([] : List α) := ⟨rfl, .nil, fun _ _ _ h => by simp at h⟩
theorem Os.mono (h : Os mk H as X) (x : ∀ a ∈ as, ∀ O, H a = some O → H' a = some O) : Os mk H' as X := ⟨h.len, h.nd, fun i b y e1 e2 => x _ (List.mem_of_getElem? e1) _ (h.at_ i b y e1 e2)⟩
theorem Os.ext (h : Os mk H as X) (x : Ext H H') : Os mk H' as X := h.mono fun a _ O e => x a O e
theorem Os.other {O : AO} (h : Os mk H as X) (n : a ∉ as) : Os mk (H.set a O) as X := h.mono fun b hb O' e => by rw [set_other (fun z => by subst z; exact n hb)]; exact e
theorem Os.set {j : Nat} {y : α} (h : Os mk H as X) (ha : as[j]? = some a) : Os mk (H.set a (mk y)) as (X.set j y) := by
 refine ⟨by rw [List.length_set]; exact h.len, h.nd, fun i b x e1 e2 => ?_⟩
 by_cases hij : j = i
 ·subst hij
  rw [e1] at ha; cases ha
  rw [List.getElem?_set_self (by have := (List.getElem?_eq_some_iff.mp e1).1; rw [← h.len]; exact this)] at e2
  cases e2; exact set_same
 ·rw [List.getElem?_set_ne hij] at e2
  rw [set_other (fun z => by
   subst z
   have l1 := (List.getElem?_eq_some_iff.mp e1).1
   exact hij ((List.getElem?_inj l1 h.nd).mp (e1.trans ha.symm)).symm)]
  exact h.at_ i b x e1 e2
set_option tactic.hygienic true in
theorem Os.snoc {y : α} (h : Os mk H as X) (hn : a ∉ as) (ha : H a = some (mk y)) : Os mk H (as ++ [a]) (X ++ [y]) := by
 refine ⟨by simp [h.len], ?_, fun i b x e1 e2 => ?_⟩
 ·rw [List.nodup_append]
  refine ⟨h.nd, by simp, fun c hc d hd => ?_⟩
  simp at hd; subst hd
  exact fun z => hn (z ▸ hc)
 ·rw [List.getElem?_append] at e1 e2
  rw [← h.len] at e2
  split at e1
  ·rename_i hi; rw [if_pos hi] at e2; exact h.at_ i b x e1 e2
  ·rename_i hi
   rw [if_neg hi] at e2
   have := (List.getElem?_eq_some_iff.mp e1).1
   simp at this
   rw [this] at e1 e2
   simp at e1 e2
   rw [← e1, ← e2]; exact ha
theorem Os.get {j : Nat} {x : α} (h : Os mk H as X) (hj : X[j]? = some x) : ∃ a, as[j]? = some a ∧ H a = some (mk x) := by
 have l := (List.getElem?_eq_some_iff.mp hj).1
 have l' : j < as.length := by rw [h.len]; exact l
 exact ⟨as[j], List.getElem?_eq_getElem l', h.at_ j _ x (List.getElem?_eq_getElem l') hj⟩
theorem ref_get {as : List Addr} {j : Nat} {a : Addr} (h : as[j]? = some a) : (as.map V.ref)[j]? = some (.ref a) := by simp [h]
noncomputable def wo (H : AH) (as : List Addr) : AH := fun b => if b ∈ as then none else H b
theorem wo_in (h : a ∈ as) : wo H as a = none := if_pos h
theorem wo_out (h : a ∉ as) : wo H as a = H a := if_neg h
theorem wo_ext : Ext (wo H as) H := fun b O e => by
 unfold wo at e; split at e
 ·cases e
 ·exact e
theorem Ext.wo (x : Ext H' H) (h : ∀ a ∈ as, H' a = Option.none) : Ext H' (wo H as) := fun b O e => by
 rw [wo_out (fun z => by rw [h b z] at e; cases e)]; exact x b O e
theorem Fld.mono {C : Cl} {f : Lo} (h : Fld H a C f) (x : ∀ b O, H b = some O → (b = a ∨ ∃ g, O = .ns C g) → H' b = some O) : Fld H' a C f := by
 obtain ⟨dx, h1, h2⟩ := h
 exact ⟨dx, x _ _ h1 (.inl rfl), x _ _ h2 (.inr ⟨_, rfl⟩)⟩
end
noncomputable def VA (H : AH) (v FL : Addr) (as : List Addr) (n : Int) (o : Addr) : Prop := ∃ g, Fld H v .Version g ∧ g .files = some (.ref FL) ∧ H FL = some (.list (as.map .ref)) ∧ g .num_levels = some (.int n) ∧ g .order = some (.ref o) ∧ g .score = some (.tup [.int 0, .int 1]) ∧ g .score_level = some (.int (-1))
theorem VA.ext {H H' : AH} {v FL : Addr} {as : List Addr} {n : Int} {o : Addr} (x : Ext H H') (h : VA H v FL as n o) : VA H' v FL as n o := by
 obtain ⟨g, h1, h2, h3, h4⟩ := h
 exact ⟨g, h1.ext x, h2, x _ _ h3, h4⟩
noncomputable def C_ver (Φ : Phi) : Prop := ∀ (n : Int) (o : Addr) (H : AH) (Q : PV), 0 ≤ n → n ≤ 100 → (∀ v FL as H', Ext H H' → H v = none → H FL = none → (∀ a ∈ as, H a = none) → FL ∉ as → VA H' v FL as n o → Os .list H' as (List.replicate n.toNat []) → Q (.ref v) H') → newK Φ .Version [.int n, .ref o] H Q
theorem c_ver (k : Nat) : C_ver (phi (k + 1)) := by
 intro n o H Q hn0 hn hQ
 refine k_new rfl fun a dx H1 x1 ha hd ne h1 h2 => ?_
 refine phi_call (body := Version_init_body) rfl rfl ?_; intro ρ0
 generalize phi k = Φ
 walk_at "s"
 refine i_attr h1 h2 (by decide) fun H2 y2 h1 h2 => ?_
 walk_at "s"
 refine i_attr h1 h2 (by decide) fun H3 y3 h1 h2 => ?_
 walk_at "s"
 refine ⟨sm rfl, n_new fun FL H4 z4 f4 l4 => ?_⟩
 have nF : FL ≠ dx := fun z => (no_ns z f4 h2)
 walk_at "s"
 refine i_attr (z4 _ _ h1) (z4 _ _ h2) (by decide) fun H5 y5 h1 h2 => ?_
 have lF := y5 _ _ nF l4
 have E5 : Evo dx H1 H5 := ((y2.trans y3).trans z4.evo).trans y5
 have base : ∀ {Hi : AH} {b : Addr}, Evo dx H1 Hi → Hi b = none → H b = none := fun {Hi b} e hb => by
  cases q : H b with
  | none => rfl
  | some O => rw [e _ _ (fun z => (no_ns z.symm hd q)) (x1 _ _ q)] at hb; cases hb
 have fF : H FL = none := base (y2.trans y3) f4
 have nFa : FL ≠ a := fun z => (no_ss z lF h1 nofun)
 walk_at "s"
 with_reducible refine r_one (by omega) (by omega) ?_
 let I1 : List V → Lo → AH → Prop := fun rest ρ H6 => ∃ as : List Addr, A7 (Evo FL H5 H6) (H6 FL = some (.list (as.map .ref))) (Os .list H6 as (List.replicate as.length [])) (rest = rangeV as.length n) (∀ b ∈ as, H5 b = none) (as.length ≤ n) (ρ .self = some (.ref a))
 refine forA_inv I1 ?_ ?_ _ _ _ ⟨[], fun _ _ _ e => e, lF, Os.nil, rfl, by simp, by simpa using hn0, rfl⟩
 ·rintro v rest ρ H6 ⟨as, e, l, os, hr, hf, hz, r1⟩ R Rn - - -
  obtain ⟨c1, rfl, rfl⟩ := rangeV_inv hr
  show exSs Φ _ _ _ _
  walk_at "s"
  refine g_attr ⟨dx, e _ _ (Ne.symm nFa) h1, e _ _ (Ne.symm nF) h2⟩ rfl ?_
  refine k_lm l ?_
  walk_at "s"
  refine ⟨sm rfl, n_new fun b H7 z7 f7 l7 => ?_⟩
  have hb5 : H5 b = none := by
   cases q : H5 b with
   | none => rfl
   | some O => rw [e _ _ (fun z => (no_ns z f7 l)) q] at f7; cases f7
  have nbF : b ≠ FL := fun z => (no_ns z f7 l)
  have nb : b ∉ as := fun z => by
   obtain ⟨i, hi, ei⟩ := List.getElem_of_mem z
   have := os.at_ i b [] (by rw [List.getElem?_eq_getElem hi, ei]) (by simp [hi])
   rw [this] at f7; cases f7
  walk_at "s"
  refine l_append (z7 _ _ l) (by unfold smallL; simp; omega) ?_
  walk_at "s"
  refine Rn _ _ trivial ⟨as ++ [b], fun c O n5 e5 => ?_, ?_, ?_, ?_, ?_, ?_, r1⟩
  ·rw [set_other n5]; exact z7 _ _ (e _ _ n5 e5)
  ·rw [set_same]; simp
  ·have o2 := ((os.ext z7).snoc nb l7).other (a := FL) (O := .list (as.map V.ref ++ [.ref b])) (by
    simp only [List.mem_append, List.mem_singleton, not_or]
    refine ⟨fun z => ?_, Ne.symm nbF⟩
    have := hf _ z
    rw [lF] at this; cases this)
   rw [show List.replicate (as ++ [b]).length ([] : List V) = List.replicate as.length [] ++ [[]] from by
    rw [List.length_append]; exact List.replicate_succ']
   exact o2
  ·simp
  ·intro c hc
   simp only [List.mem_append, List.mem_singleton] at hc
   rcases hc with hc | rfl
   ·exact hf _ hc
   ·exact hb5
  ·simp; omega
 ·rintro ρ H6 ⟨as, e, l, os, hr, hf, hz, r1⟩
  have hnl := rangeV_nil_inv hr
  have h25 := h2
  have h1 := e _ _ (Ne.symm nFa) h1
  have h2 := e _ _ (Ne.symm nF) h2
  have len : as.length = n.toNat := by omega
  walk_at "s"
  refine i_attr h1 h2 (by decide) fun H7 y7 h1 h2 => ?_
  walk_at "s"
  refine ⟨sm rfl, ?_⟩
  walk_at "s"
  refine i_attr h1 h2 (by decide) fun H8 y8 h1 h2 => ?_
  walk_at "s"
  refine i_attr h1 h2 (by decide) fun H9 y9 h1 h2 => ?_
  walk_at "s"
  have Y : Evo dx H6 H9 := (y7.trans y8).trans y9
  refine ⟨rfl, hQ a FL as H9 (fun b O eb => ?_) ha fF (fun b hb => base E5 (hf b hb)) (fun z => ?_) ⟨_, ⟨dx, h1, h2⟩, rfl, Y _ _ nF l, rfl, rfl, rfl, rfl⟩ ?_⟩
  ·have n1 : b ≠ dx := fun z => (no_ns z.symm hd eb)
   have n2 : b ≠ FL := fun z => (no_ns z.symm fF eb)
   exact Y _ _ n1 (e _ _ n2 (E5 _ _ n1 (x1 _ _ eb)))
  ·have := hf _ z
   rw [lF] at this; cases this
  ·rw [← len]
   refine os.mono fun b hb O eb => Y _ _ (fun z => ?_) eb
   subst z
   have := hf _ hb
   rw [h25] at this; cases this
noncomputable def MkA (H : AH) (m base DD AA : Addr) (dd ad : List Addr) : Prop := ∃ g, Fld H m .VersionMaker g ∧ A6 (g .base = some (.ref base)) (g .dropped = some (.bool false)) (g .deleted = some (.ref DD)) (g .added = some (.ref AA)) (H DD = some (.list (dd.map .ref))) (H AA = some (.list (ad.map .ref)))
theorem MkA.ext {H H' : AH} {m base DD AA : Addr} {dd ad : List Addr} (x : Ext H H') (h : MkA H m base DD AA dd ad) : MkA H' m base DD AA dd ad := by
 obtain ⟨g, h1, h2, h3, h4, h5, h6, h7⟩ := h
 exact ⟨g, h1.ext x, h2, h3, h4, h5, x _ _ h6, x _ _ h7⟩
theorem live_of {α : Type} {mk : α → AO} {H : AH} {as : List Addr} {X : List α} (h : Os mk H as X) {a : Addr} (ha : a ∈ as) : ∃ x, H a = some (mk x) := by
 obtain ⟨i, hi, ei⟩ := List.getElem_of_mem ha
 have hX : i < X.length := by rw [← h.len]; exact hi
 exact ⟨X[i], h.at_ i a _ (by rw [List.getElem?_eq_getElem hi, ei]) (List.getElem?_eq_getElem hX)⟩
noncomputable def C_maker (Φ : Phi) : Prop := ∀ (n : Int) (base FL o : Addr) (bs : List Addr) (H : AH) (Q : PV), 0 ≤ n → n ≤ 100 → VA H base FL bs n o →
 (∀ m DD AA dd ad Hb H', Ext H Hb → Ext Hb H' → (∀ a ∈ ad, Hb a = none) → MkA Hb m base DD AA dd ad → Os .idict Hb dd (List.replicate n.toNat []) → Os .idict H' ad (List.replicate n.toNat []) → Q (.ref m) H') → newK Φ .VersionMaker [.ref base] H Q
theorem c_maker (k : Nat) : C_maker (phi (k + 1)) := by
 intro n vb FL o bs H Q hn0 hn hV hQ
 refine k_new rfl fun a dx H1 x1 ha hd ne h1 h2 => ?_
 refine phi_call (body := VersionMaker_init_body) rfl rfl ?_; intro ρ0
 generalize phi k = Φ
 walk_at "s"
 refine i_attr h1 h2 (by decide) fun H2 y2 h1 h2 => ?_
 walk_at "s"
 refine i_attr h1 h2 (by decide) fun H3 y3 h1 h2 => ?_
 walk_at "s"
 refine ⟨sm rfl, n_new fun DD H4 z4 f4 l4 => ?_⟩
 have nD : DD ≠ dx := fun z => (no_ns z f4 h2)
 walk_at "s"
 refine i_attr (z4 _ _ h1) (z4 _ _ h2) (by decide) fun H5 y5 h1 h2 => ?_
 have lD := y5 _ _ nD l4
 walk_at "s"
 refine ⟨sm rfl, n_new fun AA H6 z6 f6 l6 => ?_⟩
 have nA : AA ≠ dx := fun z => (no_ns z f6 h2)
 have nDA : DD ≠ AA := fun z => (no_ns z.symm f6 lD)
 walk_at "s"
 refine i_attr (z6 _ _ h1) (z6 _ _ h2) (by decide) fun H7 y7 h1 h2 => ?_
 have lD := y7 _ _ nD (z6 _ _ lD)
 have lA := y7 _ _ nA l6
 have E5 : Evo dx H1 H5 := ((y2.trans y3).trans z4.evo).trans y5
 have E7 : Evo dx H1 H7 := (E5.trans z6.evo).trans y7
 have base : ∀ {Hi : AH} {b : Addr}, Evo dx H1 Hi → Hi b = none → H b = none := fun {Hi b} e hb => by
  cases q : H b with
  | none => rfl
  | some O => rw [e _ _ (fun z => (no_ns z.symm hd q)) (x1 _ _ q)] at hb; cases hb
 have fD : H DD = none := base (y2.trans y3) f4
 have fA : H AA = none := base E5 f6
 have nDa : DD ≠ a := fun z => (no_ss z lD h1 nofun)
 have nAa : AA ≠ a := fun z => (no_ss z lA h1 nofun)
 have X7 : Ext H H7 := fun b O e => E7 _ _ (fun z => (no_ns z.symm hd e)) (x1 _ _ e)
 obtain ⟨gb, v1, v2, v3, v4, v5⟩ := id hV
 walk_at "s"
 refine g_attr (v1.ext X7) v4 ?_
 walk_at "s"
 with_reducible refine r_one (by omega) (by omega) ?_
 let I1 : List V → Lo → AH → Prop := fun rest ρ H8 => Sx3 fun (dd ad : List Addr) (n0 : Int) => A12 (∀ b O, b ≠ DD → b ≠ AA → H7 b = some O → H8 b = some O) (H8 DD = some (.list (dd.map .ref))) (H8 AA = some (.list (ad.map .ref))) (Os .idict H8 dd (List.replicate dd.length [])) (Os .idict H8 ad (List.replicate ad.length [])) (∀ b ∈ dd, H7 b = none ∧ b ∉ ad) (∀ b ∈ ad, H7 b = none) (rest = rangeV n0 n) (n0 = dd.length) (ad.length = dd.length) (n0 ≤ n) (ρ .self = some (.ref a))
 refine forA_inv I1 ?_ ?_ _ _ _ ⟨[], [], 0, fun _ _ _ _ e => e, lD, lA, Os.nil, Os.nil, by simp, by simp, rfl, rfl, rfl, hn0, rfl⟩
 ·rintro v rest ρ H8 ⟨dd, ad, n0, e, l1, l2, os1, os2, hf1, hf2, hr, hn1, hl, hz, r1⟩ R Rn - - -
  obtain ⟨c1, rfl, rfl⟩ := rangeV_inv hr
  have h1 := e _ _ (Ne.symm nDa) (Ne.symm nAa) h1
  have h2 := e _ _ (Ne.symm nD) (Ne.symm nA) h2
  have fr : ∀ {b : Addr}, H8 b = none → H7 b = none := fun {b} hb => by
   cases q : H7 b with
   | none => rfl
   | some O => rw [e _ _ (fun z => (no_ns z hb l1)) (fun z => (no_ns z hb l2)) q] at hb; cases hb
  show exSs Φ _ _ _ _
  walk_at "s"
  refine g_attr ⟨dx, h1, h2⟩ rfl ?_
  refine k_lm l1 ?_
  walk_at "s"
  refine n_new fun b H9 z9 f9 l9 => ?_
  have nbD : b ≠ DD := fun z => (no_ns z f9 l1)
  have nbA : b ≠ AA := fun z => (no_ns z f9 l2)
  have nb1 : b ∉ dd := fun z => by obtain ⟨_, q⟩ := live_of os1 z; rw [q] at f9; cases f9
  have nb2 : b ∉ ad := fun z => by obtain ⟨_, q⟩ := live_of os2 z; rw [q] at f9; cases f9
  walk_at "s"
  refine l_append (z9 _ _ l1) (by unfold smallL; simp; omega) ?_
  have h1 := z9 _ _ h1
  have h2 := z9 _ _ h2
  walk_at "s"
  refine g_attr ⟨dx, by rw [set_other (Ne.symm nDa)]; exact h1, by rw [set_other (Ne.symm nD)]; exact h2⟩ rfl ?_
  have l2' : (H9.set DD (.list (dd.map .ref ++ [.ref b]))) AA = some (.list (ad.map .ref)) := by rw [set_other (Ne.symm nDA)]; exact z9 _ _ l2
  refine k_lm l2' ?_
  walk_at "s"
  refine n_new fun c H10 z10 f10 l10 => ?_
  have ncD : c ≠ DD := fun z => (no_ns z f10 set_same)
  rw [set_other ncD] at f10
  have f10' : H8 c = none := z9.none f10
  have ncA : c ≠ AA := fun z => (no_ns z f10' l2)
  have ncb : c ≠ b := fun z => (no_ns z f10 l9)
  have nc1 : c ∉ dd := fun z => by obtain ⟨_, q⟩ := live_of os1 z; rw [q] at f10'; cases f10'
  have nc2 : c ∉ ad := fun z => by obtain ⟨_, q⟩ := live_of os2 z; rw [q] at f10'; cases f10'
  walk_at "s"
  refine l_append (z10 _ _ l2') (by unfold smallL; simp; omega) ?_
  walk_at "s"
  have tr : ∀ {x : Addr} {O : AO}, x ≠ DD → x ≠ AA → H9 x = some O → (H10.set AA (.list (ad.map .ref ++ [.ref c]))) x = some O := fun n1 n2 ex => by
   rw [set_other n2]; exact z10 _ _ (by rw [set_other n1]; exact ex)
  have ne7 : ∀ {x : Addr}, H7 x = none → x ≠ DD ∧ x ≠ AA := fun hx => ⟨fun z => (no_ns z hx lD), fun z => (no_ns z hx lA)⟩
  refine Rn _ _ trivial ⟨dd ++ [b], ad ++ [c], n0 + 1, fun x O n5 n6 e5 => tr n5 n6 (z9 _ _ (e _ _ n5 n6 e5)), ?_, ?_, ?_, ?_, ?_, ?_, rfl, ?_, ?_, ?_, r1⟩
  ·rw [set_other nDA, z10 _ _ set_same]; simp
  ·rw [set_same]; simp
  ·rw [show List.replicate (dd ++ [b]).length ([] : List (Int × V)) = List.replicate dd.length [] ++ [[]] from by
    rw [List.length_append]; exact List.replicate_succ']
   exact (os1.mono fun x hx O ex => tr (ne7 (hf1 _ hx).1).1 (ne7 (hf1 _ hx).1).2 (z9 _ _ ex)).snoc nb1 (tr nbD nbA l9)
  ·rw [show List.replicate (ad ++ [c]).length ([] : List (Int × V)) = List.replicate ad.length [] ++ [[]] from by
    rw [List.length_append]; exact List.replicate_succ']
   exact (os2.mono fun x hx O ex => tr (ne7 (hf2 _ hx)).1 (ne7 (hf2 _ hx)).2 (z9 _ _ ex)).snoc nc2 (by rw [set_other ncA]; exact l10)
  ·intro x hx
   simp only [List.mem_append, List.mem_singleton] at hx ⊢
   rcases hx with hx | rfl
   ·exact ⟨(hf1 _ hx).1, fun z => z.elim (hf1 _ hx).2 fun z => nc1 (z ▸ hx)⟩
   ·exact ⟨fr f9, fun z => z.elim nb2 fun z => ncb z.symm⟩
  ·intro x hx
   simp only [List.mem_append, List.mem_singleton] at hx
   rcases hx with hx | rfl
   ·exact hf2 _ hx
   ·exact fr f10'
  ·simp; omega
  ·simp; omega
  ·omega
 ·rintro ρ H8 ⟨dd, ad, n0, e, l1, l2, os1, os2, hf1, hf2, hr, hn1, hl, hz, r1⟩
  have hnl := rangeV_nil_inv hr
  have h27 := h2
  have h17 := h1
  have h1 := e _ _ (Ne.symm nDa) (Ne.symm nAa) h1
  have h2 := e _ _ (Ne.symm nD) (Ne.symm nA) h2
  walk_at "s"
  have len1 : dd.length = n.toNat := by omega
  have len2 : ad.length = n.toNat := by omega
  have nin : ∀ {x : Addr} {O : AO}, H7 x = some O → x ∉ ad := fun hx z => by have := hf2 _ z; rw [hx] at this; cases this
  have X8 : Ext H H8 := fun b O eb => e _ _ (fun z => (no_ns z.symm fD eb)) (fun z => (no_ns z.symm fA eb)) (X7 _ _ eb)
  have frH : ∀ x ∈ ad, H x = none := fun x hx => X7.none (hf2 x hx)
  have w1 := (wo_out (H := H8) (nin h17)).trans h1
  have w2 := (wo_out (H := H8) (nin h27)).trans h2
  refine ⟨rfl, hQ a DD AA dd ad (wo H8 ad) H8 (X8.wo frH) wo_ext (fun x hx => wo_in hx) ⟨_, ⟨dx, w1, w2⟩, rfl, rfl, rfl, rfl, ?_, ?_⟩ ?_ ?_⟩
  ·rw [wo_out (nin lD)]; exact l1
  ·rw [wo_out (nin lA)]; exact l2
  ·rw [← len1]; exact os1.mono fun x hx O ex => by rw [wo_out (hf1 _ hx).2]; exact ex
  ·rw [← len2]; exact os2
noncomputable def MkB (H : AH) (m base o : Addr) (n : Int) : Prop := ∃ g gb, Fld H m .VersionMaker g ∧ g .base = some (.ref base) ∧ Fld H base .Version gb ∧ gb .order = some (.ref o) ∧ gb .num_levels = some (.int n) ∧ OrdAt H o
theorem MkB.ext {H H' : AH} {m base o : Addr} {n : Int} (x : Ext H H') (h : MkB H m base o n) : MkB H' m base o n := by
 obtain ⟨g, gb, h1, h2, h3, h4, h5, h6⟩ := h
 exact ⟨g, gb, h1.ext x, h2, h3.ext x, h4, h5, h6.ext x⟩
noncomputable def C_within (Φ : Phi) : Prop := ∀ (m base o : Addr) (n level : Int) (H : AH) (Q : PV), MkB H m base o n → 0 ≤ level → level < n → Q .none H → Φ .VersionMaker_within [.ref m, .int level] H Q
theorem c_within (k : Nat) : C_within (phi (k + 1)) := by
 intro m base o n level H Q hM h0 h1 hQ
 obtain ⟨g, gb, m1, m2, m3, m4, m5, m6⟩ := hM
 refine phi_call (body := VersionMaker_within_body) rfl rfl ?_; intro ρ0
 generalize phi k = Φ
 walk_at "s"
 refine k_or_f (by rw [ci_lt_f]; omega) ?_
 walk_at "s"
 refine g_attr m1 m2 ?_
 refine g_attr m3 m5 ?_
 walk_at "s"
 refine k_f (by rw [ci_ge_f]; omega) ?_
 walk_at "s"
 exact hQ
abbrev befP (level : Int) (f g : Fi) : Prop := if level = 0 then f.n < g.n else f.lo < g.lo
noncomputable def C_before (Φ : Phi) : Prop := ∀ (m base o a b : Addr) (n level : Int) (f g : Fi) (H : AH) (Q : PV), MkB H m base o n → MetaAt H a f → MetaAt H b g → f.ok → g.ok → 0 ≤ level → (level = 0 ∨ f.lo ≠ g.lo) → Q (.bool (decide (befP level f g))) H → Φ .VersionMaker_before [.ref m, .int level, .ref a, .ref b] H Q
theorem c_before (k : Nat) : C_before (phi (k + 5)) := by
 intro m base o a b n level f g H Q hM ha hb hf hg h0 hne hQ
 obtain ⟨gm, gb, m1, m2, m3, m4, m5, m6⟩ := hM
 have pf : Pl f.lo := ⟨hf.1, by have := hf.2.1; have := hf.2.2; omega⟩
 have pg : Pl g.lo := ⟨hg.1, by have := hg.2.1; have := hg.2.2; omega⟩
 refine phi_call (body := VersionMaker_before_body) rfl rfl ?_; intro ρ0
 have CI : C_icmp (phi (k + 4)) := c_icmp k
 generalize phi (k + 4) = Φ at CI ⊢
 walk_at "s"
 refine k_ite (fun c => ?_) (fun c => ?_)
 ·replace c := ci_gt_t.mp c
  have n0 : level ≠ 0 := by omega
  have hne := hne.resolve_left n0
  walk_at "s"
  refine g_attr m1 m2 ?_
  refine g_attr m3 m4 ?_
  obtain ⟨go, u, gu, o1, o2⟩ := id m6
  refine k_meth o1 rfl ?_
  walk_at "s"
  refine m_smallest ha ?_
  walk_at "s"
  refine m_smallest hb ?_
  walk_at "s"
  refine CI _ _ _ _ _ _ _ m6 (U_len _) (U_len _) ?_
  have i1 := icmp_lo pf pg (tq 9)
  have i2 := icmp_hi pf pg (tq 9)
  walk_at "s"
  refine k_t (by rw [ci_ne_t]; by_cases z : f.lo < g.lo <;> omega) ?_
  walk_at "s"
  rw [show cmpI .lt (icmp (U f.lo) (tq 9) (U g.lo) (tq 9)) 0 = decide (befP level f g) from by
   have hb : befP level f g ↔ f.lo < g.lo := by unfold befP; rw [if_neg n0]
   by_cases z : f.lo < g.lo
   ·rw [decide_eq_true (hb.mpr z)]; rw [ci_lt_t]; exact i1.mpr z
   ·rw [decide_eq_false (mt hb.mp z)]; rw [ci_lt_f]; have := mt i1.mp z; omega]
  exact hQ
 ·replace c := ci_gt_f.mp c
  have n0 : level = 0 := by omega
  walk_at "s"
  refine m_number ha ?_
  walk_at "s"
  refine m_number hb ?_
  walk_at "s"
  rw [show cmpI .lt f.n g.n = decide (befP level f g) from by
   have hb : befP level f g ↔ f.n < g.n := by unfold befP; rw [if_pos n0]
   by_cases z : f.n < g.n
   ·rw [decide_eq_true (hb.mpr z)]; rw [ci_lt_t]; exact z
   ·rw [decide_eq_false (mt hb.mp z)]; rw [ci_lt_f]; omega]
  exact hQ
noncomputable def C_place (Φ : Phi) : Prop := ∀ (m base o l a : Addr) (n level : Int) (vs : List V) (fs : List Fi) (f : Fi) (b : Bool) (H : AH) (Q : PV), MkB H m base o n → H l = some (.list vs) → Ms H vs fs → fs.length ≤ 100 → FsOk fs → f.ok → MetaAt H a f → 0 ≤ level →
 (∀ g ∈ fs, (level = 0 ∨ g.lo ≠ f.lo) ∧ decide (befP level g f) = b) → Q .none (H.set l (.list (if b = true then vs ++ [.ref a] else .ref a :: vs))) → Φ .VersionMaker_place [.ref m, .int level, .ref l, .ref a] H Q
theorem c_place (k : Nat) : C_place (phi (k + 6)) := by
 intro m base o l a n level vs fs f b H0 Q hM hl hms hz hok hf ha h0 hb hQ
 refine phi_call (body := VersionMaker_place_body) rfl rfl ?_; intro ρ0
 have CB : C_before (phi (k + 5)) := c_before k
 generalize phi (k + 5) = Φ at CB ⊢
 have hlen := hms.len
 obtain ⟨N, hN⟩ : ∃ N : Int, N = fs.length := ⟨_, rfl⟩
 walk_at "s"
 refine ms_len hl hms (by omega) ?_
 rw [← hN]
 walk_at "s"
 refine x_while fun P hP => ?_
 let I1 : Nat → Lo → AH → Prop := fun mm ρ H => H0 = H ∧ Sx2 fun (lo hi : Int) => A12 (ρ .low = some (.int lo)) (ρ .high = some (.int hi)) (ρ .self = some (.ref m)) (ρ .level = some (.int level)) (ρ .files = some (.ref l)) (ρ .«meta» = some (.ref a)) (0 ≤ lo) (lo ≤ hi) (hi ≤ N) (b = true → hi = N) (b = false → lo = 0) (mm = (hi - lo).toNat)
 refine while_ind (P := P) I1 ?_ _ _ _
  ⟨rfl, 0, N, rfl, rfl, rfl, rfl, rfl, rfl, by omega, by omega, by omega, fun _ => rfl, fun _ => rfl, rfl⟩
 rintro mm ρ H ⟨rfl, lo, hi, r1, r2, r3, r4, r5, r6, q0, q1, q2, q3, q4, rfl⟩ ih
 refine hP ρ H0 ?_
 walk_at "s"
 refine k_ite (fun c => ?_) (fun c => ?_)
 ·replace c := ci_lt_t.mp c
  walk_at "s"
  refine o_fdiv (by decide) (by decide) ?_
  obtain ⟨mid, hmid⟩ : ∃ mid : Int, mid = (lo + hi) / 2 := ⟨_, rfl⟩
  rw [← hmid]
  have b1 : lo ≤ mid := by omega
  have b2 : mid < hi := by omega
  obtain ⟨g, hg⟩ : ∃ g, fs[mid.toNat]? = some g := ⟨_, List.getElem?_eq_getElem (by omega)⟩
  have hgm := List.mem_of_getElem? hg
  walk_at "s"
  obtain ⟨gm, gb, m1, m2⟩ := id hM
  refine k_meth m1 rfl ?_
  walk_at "s"
  refine ms_idx hl hms (by omega) (by omega) hg fun a' ha' _ => ?_
  walk_at "s"
  refine CB _ _ _ _ _ _ _ g f _ _ hM ha' ha (hok _ hgm) hf h0 (hb g hgm).1 ?_
  rw [(hb g hgm).2]
  refine k_ite (fun c => ?_) (fun c => ?_)
  ·subst c
   walk_at "s"
   exact ih ((hi - (mid + 1)).toNat) _ _ (by omega) ⟨rfl, mid + 1, hi, rfl, r2, r3, r4, r5, r6, by omega, by omega, by omega, q3, fun z => (by cases z), rfl⟩
  ·subst c
   walk_at "s"
   exact ih ((mid - lo).toNat) _ _ (by omega) ⟨rfl, lo, mid, r1, rfl, r3, r4, r5, r6, by omega, by omega, by omega, fun z => (by cases z), q4, rfl⟩
 ·replace c := ci_lt_f.mp c
  have e : lo = hi := by omega
  walk_at "s"
  refine k_lm hl ?_
  walk_at "s"
  refine l_insert hl (small_of hlen (by omega)) q0 (by omega) ?_
  walk_at "s"
  rw [show vs.take lo.toNat ++ V.ref a :: vs.drop lo.toNat = if b = true then vs ++ [.ref a] else .ref a :: vs from by
   cases b with
   | true =>
    have := q3 rfl
    rw [if_pos rfl, List.take_of_length_le (by omega), List.drop_of_length_le (by omega)]
   | false =>
    have := q4 rfl
    subst this
    simp]
  exact hQ
noncomputable def flatC : Int → List (List Fi) → List (Int × Fi)
 | _, [] => []
 | j, fs :: r => fs.map (j, ·) ++ flatC (j + 1) r
noncomputable def pickC (j : Int) (cs : List (Int × Fi)) : List Fi := (cs.filter (fun c => decide (c.1 = j))).map (·.2)
theorem pickC_app {j : Int} {a b : List (Int × Fi)} : pickC j (a ++ b) = pickC j a ++ pickC j b := by simp [pickC]
theorem pickC_self {j : Int} {fs : List Fi} : pickC j (fs.map (j, ·)) = fs := by
 induction fs with
 | nil => rfl
 | cons f fs ih =>
  unfold pickC at ih ⊢
  rw [List.map_cons, List.filter_cons_of_pos (by simp), List.map_cons, ih]
theorem pickC_ne {i j : Int} {fs : List Fi} (h : i ≠ j) : pickC j (fs.map (i, ·)) = [] := by
 induction fs with
 | nil => rfl
 | cons f fs ih =>
  unfold pickC at ih ⊢
  rw [List.map_cons, List.filter_cons_of_neg (by simpa using h), ih]
theorem flatC_cons {i : Int} {fs : List Fi} {r : List (List Fi)} : flatC i (fs :: r) = fs.map (i, ·) ++ flatC (i + 1) r := rfl
theorem pickC_lt {L : List (List Fi)} {i j : Int} : j < i → pickC j (flatC i L) = [] := by
 induction L generalizing i with
 | nil => exact fun _ => rfl
 | cons fs r ih =>
  intro h
  rw [flatC_cons, pickC_app, pickC_ne (Int.ne_of_gt h), ih (Int.lt_add_one_of_le (Int.le_of_lt h))]; rfl
theorem pickC_flat {L : List (List Fi)} {i : Int} {k : Nat} {fs : List Fi} : L[k]? = some fs → pickC (i + k) (flatC i L) = fs := by
 induction L generalizing i k with
 | nil => exact fun h => nomatch h
 | cons g r ih =>
  intro h
  rw [flatC_cons, pickC_app]
  cases k with
  | zero =>
   cases h
   rw [show i + ((0 : Nat) : Int) = i from Int.add_zero i, pickC_self, pickC_lt (Int.lt_succ i), List.append_nil]
  | succ k =>
   rw [pickC_ne (by omega), List.nil_append, show i + ((k + 1 : Nat) : Int) = i + 1 + (k : Int) from by omega]
   exact ih h
theorem flatC_mem {L : List (List Fi)} {i l : Int} {f : Fi} : (l, f) ∈ flatC i L → ∃ k : Nat, ∃ fs, l = i + k ∧ L[k]? = some fs ∧ f ∈ fs := by
 induction L generalizing i with
 | nil => exact fun h => nomatch h
 | cons g r ih =>
  intro h
  rw [flatC_cons] at h
  rcases List.mem_append.mp h with h | h
  ·obtain ⟨x, hx, e⟩ := List.mem_map.mp h
   cases e
   exact ⟨0, g, (Int.add_zero _).symm, rfl, hx⟩
  ·obtain ⟨k, fs, h1, h2, h3⟩ := ih h
   exact ⟨k + 1, fs, by omega, h2, h3⟩
theorem flatC_len {L : List (List Fi)} {i : Int} : (flatC i L).length = L.flatten.length := by
 induction L generalizing i with
 | nil => rfl
 | cons g r ih => rw [flatC_cons, List.length_append, List.length_map, ih, List.flatten_cons, List.length_append]
inductive Dk (H : AH) : List (Int × V) → List Fi → Prop
 | nil : Dk H [] []
 | cons {a f d fs} : MetaAt H a f → Dk H d fs → Dk H ((f.n, .ref a) :: d) (f :: fs)
theorem Dk.mono {H H' : AH} {d fs} (h : Dk H d fs) (t : ∀ {a f}, MetaAt H a f → MetaAt H' a f) : Dk H' d fs := by
 induction h with
 | nil => exact .nil
 | cons a _ ih => exact .cons (t a) ih
theorem Dk.ext {H H' : AH} (x : Ext H H') {d fs} (h : Dk H d fs) : Dk H' d fs := h.mono fun a => a.ext x
theorem Dk.keys {H : AH} {d fs} (h : Dk H d fs) : d.map (·.1) = fs.map (·.n) := by
 induction h with
 | nil => rfl
 | cons _ _ ih => rw [List.map_cons, List.map_cons, ih]
theorem Dk.len {H : AH} {d : List (Int × V)} {fs : List Fi} (h : Dk H d fs) : d.length = fs.length := by
 have := congrArg List.length h.keys
 simpa using this
theorem Dk.ins {H : AH} {a : Addr} {f : Fi} (hm : MetaAt H a f) {d fs} (h : Dk H d fs) : f.n ∉ fs.map (·.n) → Dk H (insI f.n (.ref a) d) (fs ++ [f]) := by
 induction h with
 | nil => exact fun _ => .cons hm .nil
 | cons m r ih =>
  intro hn
  rw [List.map_cons, List.mem_cons, not_or] at hn
  rw [insI_cons, if_neg hn.1]
  exact .cons m (ih hn.2)
theorem Dk.look {H : AH} {f : Fi} {d fs} (h : Dk H d fs) : (fs.map (·.n)).Nodup → f ∈ fs → ∃ a, d.lookup f.n = some (.ref a) ∧ MetaAt H a f := by
 induction h with
 | nil => exact fun _ hf => nomatch hf
 | @cons a g _ _ m r ih =>
  intro hn hf
  rw [List.map_cons, List.nodup_cons] at hn
  rcases List.mem_cons.mp hf with rfl | hf
  ·exact ⟨a, by simp [List.lookup], m⟩
  ·obtain ⟨b, h1, h2⟩ := ih hn.2 hf
   have : f.n ≠ g.n := fun z => hn.1 (z ▸ List.mem_map_of_mem hf)
   exact ⟨b, by rw [List.lookup_cons, show (f.n == g.n) = false from by simpa using this]; exact h1, h2⟩
theorem Cs.inv {H : AH} {v : V} {vs : List V} {cs : List (Int × Fi)} (h : Cs H (v :: vs) cs) : ∃ a f l cs', v = .tup [.int l, .ref a] ∧ cs = (l, f) :: cs' ∧ MetaAt H a f ∧ Cs H vs cs' := by
 cases h with
 | cons m r => exact ⟨_, _, _, _, rfl, rfl, m, r⟩
theorem f_nil {keep : AH → Prop} {t : T} {body : Lo → AH → PO → Prop} {ρ : Lo} {H : AH} {Q : PO} (h : Q .nx ρ H) : forA keep t body [] ρ H Q := h
noncomputable def C_apply (Φ : Phi) : Prop := ∀ (m base o DD AA ed CP DL AL : Addr) (dd ad : List Addr) (n : Int) (cps adds : List V) (L : List (List Fi)) (Hb H : AH) (Q : PV), Ext Hb H → (∀ a ∈ ad, Hb a = none) → MkB Hb m base o n → MkA Hb m base DD AA dd ad → n = L.length →
 Os .idict Hb dd (List.replicate n.toNat []) → EdAt Hb ed CP DL AL cps [] adds false → Cs Hb adds (flatC 0 L) → L.length ≤ 100 → L.flatten.length ≤ 1000 → (∀ fs ∈ L, (fs.map (·.n)).Nodup) → Os .idict H ad (List.replicate n.toNat []) →
 (∀ H' D, Ext Hb H' → Os .idict H' ad D → D.length = L.length → (∀ (j : Nat) d fs, D[j]? = some d → L[j]? = some fs → Dk Hb d fs) → Q .none H') → Φ .VersionMaker_apply [.ref m, .ref ed] H Q
theorem c_apply (k : Nat) : C_apply (phi (k + 2)) := by
 intro m base o DD AA ed CP DL AL dd ad n cps adds L Hb H0 Q X0 hfr hB hA hn hdd hE hC hz1 hz2 hnd had hQ
 obtain ⟨⟨ge, e1, e2, e3, e4, e5⟩, e6, e7, e8⟩ := hE
 obtain ⟨ga, a1, a2, a3, a4, a5, a6, a7⟩ := id hA
 refine phi_call (body := VersionMaker_apply_body) rfl rfl ?_; intro ρ0
 have CW : C_within (phi (k + 1)) := c_within k
 generalize phi (k + 1) = Φ at CW ⊢
 have sA : smallL adds := small_of (fs := flatC 0 L) hC.len (by rw [flatC_len]; omega)
 walk_at "s"
 refine g_attr (e1.ext X0) e3 ?_
 refine f_list (X0 _ _ e7) (sm rfl) (f_nil ?_)
 walk_at "s"
 refine g_attr (e1.ext X0) e4 ?_
 refine f_list (X0 _ _ e8) sA ?_
 let I1 : List V → Lo → AH → Prop := fun vs ρ H => H0 = H ∧ Sx2 fun done todo => A4 (flatC 0 L = done ++ todo) (Cs Hb vs todo) (ρ .self = some (.ref m)) (ρ .edit = some (.ref ed))
 refine forA_inv I1 ?_ ?_ _ _ _ ⟨rfl, [], _, rfl, hC, rfl, rfl⟩
 ·rintro v rest ρ H ⟨rfl, done, todo, q1, q2, r1, r2⟩ R Rn - - -
  obtain ⟨a, f, l, cs, rfl, rfl, hm, q3⟩ := q2.inv
  obtain ⟨kk, fs, l1, l2, l3⟩ := flatC_mem (L := L) (i := 0) (l := l) (f := f) (by rw [q1]; simp)
  have := (List.getElem?_eq_some_iff.mp l2).1
  refine k_asgT rfl ?_
  show exSs Φ _ _ _ _
  walk_at "s"
  refine k_meth (a1.ext X0) rfl ?_
  walk_at "s"
  refine CW _ _ _ _ _ _ _ (hB.ext X0) (by omega) (by omega) ?_
  walk_at "s"
  exact Rn _ _ (X0 _ _ e8) ⟨rfl, done ++ [(l, f)], cs, by rw [q1]; simp, q3, by exact r1, by exact r2⟩
 rintro ρ H ⟨rfl, -, -, -, -, r1, r2⟩
 refine K_nx ?_
 walk_at "s"
 refine g_attr (e1.ext X0) e5 ?_
 refine k_f rfl ?_
 walk_at "s"
 refine g_attr (e1.ext X0) e3 ?_
 refine f_list (X0 _ _ e7) (sm rfl) (f_nil ?_)
 walk_at "s"
 refine g_attr (e1.ext X0) e4 ?_
 refine f_list (X0 _ _ e8) sA ?_
 let I2 : List V → Lo → AH → Prop := fun vs ρ H => Ext Hb H ∧ Sx3 fun done todo D => A6 (flatC 0 L = done ++ todo) (Cs Hb vs todo) (Os .idict H ad D) (D.length = L.length) (∀ (j : Nat) d, D[j]? = some d → Dk Hb d (pickC j done)) (ρ .self = some (.ref m))
 refine forA_inv I2 ?_ ?_ _ _ _
  ⟨X0, [], _, _, rfl, hC, had, by simp; omega, fun j d hd => (by obtain ⟨_, rfl⟩ := List.mem_replicate.mp (List.mem_of_getElem? hd); exact .nil), r1⟩
 ·rintro v rest ρ H ⟨X, done, todo, D, q1, q2, os, q4, q5, r1⟩ R Rn - - -
  obtain ⟨a, f, l, cs, rfl, rfl, hm, q3⟩ := q2.inv
  obtain ⟨kk, fs, l1, l2, l3⟩ := flatC_mem (L := L) (i := 0) (l := l) (f := f) (by rw [q1]; simp)
  have hk := (List.getElem?_eq_some_iff.mp l2).1
  obtain ⟨d, hd⟩ : ∃ d, D[kk]? = some d := ⟨_, List.getElem?_eq_getElem (by omega)⟩
  obtain ⟨x, x1, x2⟩ := os.get hd
  have hxa : Hb x = none := hfr _ (List.mem_of_getElem? x1)
  obtain ⟨y, y1, y2⟩ := hdd.get (j := kk) (x := []) (by rw [List.getElem?_replicate, if_pos (by omega)])
  have hl : l.toNat = kk := by omega
  have hdk := q5 _ _ hd
  have hfl : (pickC kk (flatC 0 L)) = fs := by
   have := pickC_flat (i := 0) l2
   rwa [Int.zero_add] at this
  have hlk : l = (kk : Int) := by omega
  have hsplit : pickC kk done ++ [f] ++ pickC kk cs = fs := by
   rw [q1, show done ++ (l, f) :: cs = done ++ [(l, f)] ++ cs from by simp, pickC_app, pickC_app] at hfl
   rw [show pickC kk [(l, f)] = [f] from by simp [pickC, hlk]] at hfl
   exact hfl
  have hnot : f.n ∉ (pickC kk done).map (·.n) := by
   have := hnd fs (List.mem_of_getElem? l2)
   rw [← hsplit, List.map_append, List.map_append, List.append_assoc, List.nodup_append] at this
   intro z
   exact this.2.2 _ z _ (by simp) rfl
  have hdl : d.length ≤ 1000 := by
   rw [hdk.len]
   have h1 : (pickC kk done).length ≤ fs.length := by rw [← hsplit]; simp [Nat.add_assoc]
   have h2 : fs.length ≤ L.flatten.length := by
    have := List.sublist_flatten_of_mem (List.mem_of_getElem? l2)
    exact this.length_le
   omega
  refine k_asgT rfl ?_
  show exSs Φ _ _ _ _
  walk_at "s"
  refine g_attr (a1.ext X) a5 ?_
  walk_at "s"
  refine i_list (X _ _ a7) (by omega) (by omega) (by rw [hl]; exact ref_get x1) ?_
  walk_at "s"
  refine m_number (hm.ext X) ?_
  refine s_idxD x2 hdl ?_
  have X' : Ext Hb (H.set x (.idict (insI f.n (.ref a) d))) := Ext.set X hxa
  walk_at "s"
  refine m_number (hm.ext X') ?_
  walk_at "s"
  refine g_attr (a1.ext X') a4 ?_
  walk_at "s"
  refine i_list (X' _ _ a6) (by omega) (by omega) (by rw [hl]; exact ref_get y1) ?_
  refine in_dict (X' _ _ y2) ?_
  refine k_f rfl ?_
  walk_at "s"
  refine Rn _ _ (X' _ _ e8) ⟨X', done ++ [(l, f)], cs, _, by rw [q1]; simp, q3, os.set (j := kk) x1, by simpa using q4, fun j d' hd' => ?_, by exact r1⟩
  rw [pickC_app]
  by_cases hj : j = kk
  ·subst hj
   rw [List.getElem?_set_self (by omega)] at hd'
   cases hd'
   rw [show pickC j [(l, f)] = [f] from by simp [pickC, hlk]]
   exact hdk.ins hm hnot
  ·rw [List.getElem?_set_ne (Ne.symm hj)] at hd'
   rw [show pickC j [(l, f)] = [] from by
    unfold pickC
    rw [List.filter_cons_of_neg (by simp; omega), List.filter_nil, List.map_nil], List.append_nil]
   exact q5 _ _ hd'
 ·rintro ρ H ⟨X, done, todo, D, q1, q2, os, q4, q5, r1⟩
  have : todo = [] := by cases q2; rfl
  subst this
  rw [List.append_nil] at q1
  walk_at "s"
  refine hQ _ D X os q4 fun j d fs h1 h2 => ?_
  have := q5 _ _ h1
  rw [← q1] at this
  have e := pickC_flat (i := 0) h2
  rw [Int.zero_add] at e
  rw [e] at this; exact this
theorem lv_of {H : AH} : ∀ {as : List Addr} {X : List (List V)} {L : List (List Fi)}, as.length = X.length → X.length = L.length → (∀ (i : Nat) a x, as[i]? = some a → X[i]? = some x → H a = some (.list x)) → (∀ (i : Nat) x fs, X[i]? = some x → L[i]? = some fs → Ms H x fs) → Lv H (as.map .ref) L
 | [], [], [], _, _, _, _ => .nil
 | a :: as, x :: X, fs :: L, h1, h2, h3, h4 => by
  rw [List.map_cons]
  refine .cons ⟨x, h3 0 a x (by simp) (by simp), h4 0 x fs (by simp) (by simp)⟩ (lv_of (X := X) (by simpa using h1) (by simpa using h2) (fun i b y e1 e2 => h3 (i + 1) b y (by simpa using e1) (by simpa using e2)) (fun i y gs e1 e2 => h4 (i + 1) y gs (by simpa using e1) (by simpa using e2)))
 | [], _ :: _, _, h, _, _, _ => by simp at h
 | _ :: _, [], _, h, _, _, _ => by simp at h
 | _, [], _ :: _, _, h, _, _ => by simp at h
 | _, _ :: _, [], _, h, _, _ => by simp at h
theorem ver_of {H : AH} {v FL o : Addr} {as : List Addr} {n : Int} {X : List (List V)} {L : List (List Fi)} (hV : VA H v FL as n o) (ho : OrdAt H o) (os : Os .list H as X) (h1 : X.length = L.length) (hn : n = L.length) (h2 : ∀ (i : Nat) x fs, X[i]? = some x → L[i]? = some fs → Ms H x fs) : VerAt H v L 0 1 (-1) := by
 obtain ⟨g, v1, v2, v3, v4, v5, v6, v7⟩ := hV
 subst hn
 exact ⟨g, FL, _, o, v1, v2, v3, lv_of os.len h1 os.at_ h2, v4, v5, ho, v6, v7⟩
theorem VA.setl {H : AH} {v FL o l : Addr} {as : List Addr} {n : Int} {xs ws : List V} (hl : H l = some (.list xs)) (ne : FL ≠ l) (h : VA H v FL as n o) : VA (H.set l (.list ws)) v FL as n o := by
 obtain ⟨g, v1, v2, v3, v4⟩ := h
 exact ⟨g, v1.setl hl, v2, by rw [set_other ne]; exact v3, v4⟩
noncomputable def ordL (level : Int) (fs : List Fi) : List Fi := if level = 0 then fs else fs.reverse
theorem ordL_ordL {level : Int} {fs : List Fi} : ordL level (ordL level fs) = fs := by
 unfold ordL; split <;> simp
theorem ordL_mem {level : Int} {fs : List Fi} {f : Fi} : f ∈ ordL level fs ↔ f ∈ fs := by
 unfold ordL; split <;> simp
theorem ordL_len {level : Int} {fs : List Fi} : (ordL level fs).length = fs.length := by
 unfold ordL; split <;> simp
noncomputable def RlP (level : Int) (g f : Fi) : Prop := g.n < f.n ∧ (level ≠ 0 → f.lo < g.lo)
structure Nmd (L : List (List Fi)) : Prop where
 dec : ∀ (i : Nat) fs, 1 ≤ i → L[i]? = some fs → fs.Pairwise (fun f g => g.n < f.n)
set_option tactic.hygienic true in
theorem ord_pw {L : List (List Fi)} (hL : LvOk L) (hN : Nmd L) {j : Nat} {fs : List Fi} (h : L[j]? = some fs) : (ordL j fs).Pairwise (RlP j) := by
 unfold ordL RlP
 split
 ·rename_i z
  have : j = 0 := by omega
  subst this
  rw [List.pairwise_iff_getElem]
  intro a b ha hb hab
  exact ⟨hL.inc fs h a b _ _ hab (List.getElem?_eq_getElem ha) (List.getElem?_eq_getElem hb), fun q => absurd rfl q⟩
 ·rename_i z
  rw [List.pairwise_reverse]
  have h1 := hN.dec j fs (by omega) h
  have h2 := hL.srt j fs (by omega) h
  rw [List.pairwise_iff_getElem] at h1 ⊢
  intro a b ha hb hab
  have q := h2 a b _ _ hab (List.getElem?_eq_getElem ha) (List.getElem?_eq_getElem hb)
  have ok := ((hL.ok.each fs (List.mem_of_getElem? h)).2 fs[a] (List.getElem_mem ha)).2.1
  exact ⟨h1 a b ha hb hab, fun _ => by omega⟩
noncomputable def C_finish (Φ : Phi) : Prop := ∀ (m base FL DD AA o : Addr) (bs dd ad : List Addr) (n : Int) (D : List (List (Int × V))) (L : List (List Fi)) (H : AH) (Q : PV),
 MkA H m base DD AA dd ad → VA H base FL bs n o → OrdAt H o → n = L.length → LvOk L → Nmd L → Os .list H bs (List.replicate n.toNat []) → Os .idict H ad D → D.length = L.length → (∀ (j : Nat) d fs, D[j]? = some d → L[j]? = some fs → Dk H d fs) →
 (∀ v FL' as vss H', Ext H H' → H v = none → H FL' = none → (∀ a ∈ as, H a = none) → FL' ∉ as → VA H' v FL' as n o → Os .list H' as vss → vss.length = L.length → (∀ (j : Nat) vs fs, vss[j]? = some vs → L[j]? = some fs → Ms H vs fs) → Q (.ref v) H') → Φ .VersionMaker_finish [.ref m] H Q
theorem c_finish (k : Nat) : C_finish (phi (k + 7)) := by
 intro m base FL DD AA o bs dd ad n D L H Q hA hV hO hn hL hN hbs had hDl hD hQ
 obtain ⟨ga, a1, a2, a3, a4, a5, a6, a7⟩ := id hA
 obtain ⟨gb, b1, b2, b3, b4, b5, b6⟩ := id hV
 have hB : MkB H m base o n := ⟨ga, gb, a1, a2, b1, b5, b4, hO⟩
 have hfew := hL.ok.few
 refine phi_call (body := VersionMaker_finish_body) rfl rfl ?_; intro ρ0
 have CV : C_ver (phi (k + 6)) := c_ver _
 have CP : C_place (phi (k + 6)) := c_place k
 have CK : C_check (phi (k + 6)) := c_check (k + 1)
 generalize phi (k + 6) = Φ at CV CP CK ⊢
 walk_at "s"
 refine g_attr a1 a2 ?_
 refine g_attr b1 b4 ?_
 walk_at "s"
 refine g_attr a1 a2 ?_
 refine g_attr b1 b5 ?_
 walk_at "s"
 refine CV n o _ _ (by omega) (by omega) fun v FL' as H1 X1 fv fF fas nF hv os => ?_
 have lasn : as.length = n.toNat := by rw [os.len]; simp
 walk_at "s"
 refine g_attr (a1.ext X1) a2 ?_
 refine g_attr (b1.ext X1) b4 ?_
 walk_at "s"
 with_reducible refine r_one (by omega) (by omega) ?_
 let I1 : List V → Lo → AH → Prop := fun rest ρ H2 => Sx2 fun (j : Int) (vss : List (List V)) => A11 (rest = rangeV j n) (0 ≤ j) (j ≤ n) (Ext H H2) (VA H2 v FL' as n o) (Os .list H2 as vss) (vss.length = L.length) (∀ (i : Nat) vs fs, (i : Int) < j → vss[i]? = some vs → L[i]? = some fs → Ms H vs fs) (∀ (i : Nat) vs, j ≤ (i : Int) → vss[i]? = some vs → vs = []) (ρ .self = some (.ref m)) (ρ .made = some (.ref v))
 refine forA_inv I1 ?_ ?_ _ _ _
  ⟨0, _, rfl, by omega, by omega, X1, hv, os, by simp; omega, fun i vs fs hi => by omega, fun i vs _ hi => List.eq_of_mem_replicate (List.mem_of_getElem? hi), rfl, rfl⟩
 ·rintro u rest ρ H2 ⟨j, vss, hr, j0, j1, X2, hv, os, hvl, hdone, hnew, r1, r2⟩ R Rn - - -
  obtain ⟨c1, rfl, rfl⟩ := rangeV_inv hr
  obtain ⟨J, rfl⟩ : ∃ J : Nat, j = J := ⟨j.toNat, by omega⟩
  obtain ⟨gv, v1, v2, v3, v4⟩ := id hv
  obtain ⟨la, la1⟩ : ∃ la, as[J]? = some la := ⟨_, List.getElem?_eq_getElem (by omega)⟩
  obtain ⟨x0, hx0⟩ : ∃ x, vss[J]? = some x := ⟨_, List.getElem?_eq_getElem (by omega)⟩
  obtain ⟨d, hd⟩ : ∃ d, D[J]? = some d := ⟨_, List.getElem?_eq_getElem (by omega)⟩
  obtain ⟨fs, hfs⟩ : ∃ fs, L[J]? = some fs := ⟨_, List.getElem?_eq_getElem (by omega)⟩
  obtain ⟨x, x1, x2⟩ := had.get hd
  obtain ⟨y, y1, y2⟩ := hbs.get (j := J) (x := []) (by rw [List.getElem?_replicate, if_pos (by omega)])
  have hdk := hD _ _ _ hd hfs
  have hx0 := hnew J x0 (by omega) hx0 ▸ hx0
  have hfz := hL.ok.each fs (List.mem_of_getElem? hfs)
  have nla : FL' ≠ la := fun z => nF (z ▸ List.mem_of_getElem? la1)
  have fla : H la = none := fas _ (List.mem_of_getElem? la1)
  have pw := ord_pw hL hN hfs
  have hnd : (fs.map (·.n)).Nodup := by
   have := hL.nod
   exact (List.Sublist.map _ (List.sublist_flatten_of_mem (List.mem_of_getElem? hfs))).nodup this
  show exSs Φ _ _ _ _
  walk_at "s"
  refine g_attr v1 v2 ?_
  walk_at "s"
  refine i_list v3 (by omega) (by omega) (ref_get (by simpa using la1)) ?_
  walk_at "s"
  refine g_attr (a1.ext X2) a3 ?_
  walk_at "s"
  refine k_t rfl ?_
  walk_at "s"
  refine g_attr (a1.ext X2) a2 ?_
  refine g_attr (b1.ext X2) b2 ?_
  walk_at "s"
  refine i_list (X2 _ _ b3) (by omega) (by omega) (ref_get (by simpa using y1)) ?_
  refine f_list (X2 _ _ y2) (sm rfl) (f_nil ?_)
  walk_at "s"
  refine g_attr (a1.ext X2) a5 ?_
  walk_at "s"
  refine i_list (X2 _ _ a7) (by omega) (by omega) (ref_get (by simpa using x1)) ?_
  walk_at "s"
  refine bi_sortedD (X2 _ _ x2) (by rw [hdk.len]; have := (List.sublist_flatten_of_mem (List.mem_of_getElem? hfs)).length_le; have := hL.tot; omega) fun ns' hp hs => ?_
  have hns : ns' = (ordL J fs).map (·.n) := by
   refine List.Perm.eq_of_pairwise (le := (· ≤ ·)) (fun a b _ _ h1 h2 => Int.le_antisymm h1 h2) hs ?_ ?_
   ·rw [List.pairwise_map]
    exact pw.imp fun h => Int.le_of_lt h.1
   ·refine hp.trans ?_
    rw [hdk.keys]
    refine List.Perm.map _ ?_
    unfold ordL; split
    ·exact .refl _
    ·exact (List.reverse_perm _).symm
  subst hns
  refine n_new fun b H3 z3 fb lb => ?_
  have nbl : b ≠ la := fun z => (no_ns z fb (os.at_ J _ _ la1 hx0))
  refine f_list lb (by unfold smallL; simp [ordL_len]; omega) ?_
  let I2 : List V → Lo → AH → Prop := fun rest ρ H4 => Sx3 fun (gs1 gs2 : List Fi) (ws : List V) => A11 (ordL J fs = gs1 ++ gs2) (rest = (gs2.map (·.n)).map .int) (Ext H H4) (VA H4 v FL' as n o) (Os .list H4 as (vss.set J ws)) (Ms H ws (ordL J gs1)) (H4 b = some (.list (((ordL J fs).map (·.n)).map .int))) (ρ .self = some (.ref m)) (ρ .made = some (.ref v)) (ρ .level = some (.int J)) (ρ .files = some (.ref la))
  refine forA_inv I2 ?_ ?_ _ _ _ ⟨[], _, [], rfl, rfl, X2.trans z3, hv.ext z3, ?_, ?_, lb, by exact r1, by exact r2, rfl, rfl⟩
  ·rintro u rest ρ H4 ⟨gs1, gs2, ws, q1, q2, X4, hv4, os4, hms, lb4, r1, r2, r3, r4⟩ R' Rn' - - -
   cases gs2 with
   | nil => cases q2
   | cons f gs2 =>
    cases q2
    have hf : f ∈ fs := ordL_mem.mp (by rw [q1]; simp)
    have hl4 : H4 la = some (.list ws) := os4.at_ J _ _ la1 (by rw [List.getElem?_set_self (by omega)])
    obtain ⟨a, e1, e2⟩ := hdk.look hnd hf
    have sub : ∀ g ∈ ordL J gs1, g ∈ fs := fun g hg => ordL_mem.mp (by rw [q1]; exact List.mem_append_left _ (ordL_mem.mp hg))
    have len1 : gs1.length ≤ fs.length := by
     have := congrArg List.length q1
     rw [ordL_len, List.length_append] at this; omega
    show exSs Φ _ _ _ _
    walk_at "s"
    refine k_meth (a1.ext X4) rfl ?_
    walk_at "s"
    refine g_attr (a1.ext X4) a5 ?_
    walk_at "s"
    refine i_list (X4 _ _ a7) (by omega) (by omega) (ref_get (by simpa using x1)) ?_
    walk_at "s"
    refine i_dict (X4 _ _ x2) e1 ?_
    walk_at "s"
    have pw1 : ∀ g ∈ gs1, RlP J g f := fun g hg => by
     rw [q1, List.pairwise_append] at pw
     exact pw.2.2 g hg f (.head _)
    refine CP m base o la a n J ws (ordL J gs1) f (decide ((J : Int) = 0)) _ _ (hB.ext X4) hl4 (hms.ext X4) (by rw [ordL_len]; omega) (fun g hg => hfz.2 g (sub g hg)) (hfz.2 f hf) (e2.ext X4) (by omega) (fun g hg => ?_) ?_
    ·have rl := pw1 g (ordL_mem.mp hg)
     unfold befP
     by_cases z : (J : Int) = 0
     ·refine ⟨.inl z, ?_⟩
      rw [decide_eq_true z]
      simp only [if_pos z]; exact decide_eq_true rl.1
     ·have := rl.2 z
      refine ⟨.inr (by omega), ?_⟩
      rw [decide_eq_false z]
      simp only [if_neg z]; exact decide_eq_false (by omega)
    ·walk_at "s"
     have os5 := os4.set (j := J) (y := if decide ((J : Int) = 0) = true then ws ++ [.ref a] else .ref a :: ws) la1
     rw [List.set_set] at os5
     refine Rn' _ _ ?_ ⟨gs1 ++ [f], gs2, _, by rw [q1]; simp, rfl, Ext.set X4 fla, hv4.setl hl4 nla, os5, ?_, ?_, by exact r1, by exact r2, by exact r3, by exact r4⟩
     ·rw [set_other nbl]; exact lb4
     ·by_cases z : (J : Int) = 0
      ·simp only [decide_eq_true z, if_true]
       unfold ordL at hms ⊢
       rw [if_pos z] at hms ⊢
       exact hms.app (.cons e2 .nil)
      ·simp only [decide_eq_false z]
       unfold ordL at hms ⊢
       rw [if_neg z] at hms ⊢
       rw [List.reverse_append]
       exact .cons e2 hms
     ·rw [set_other nbl]; exact lb4
  ·rintro ρ H4 ⟨gs1, gs2, ws, q1, q2, X4, hv4, os4, hms, lb4, r1, r2, r3, r4⟩
   cases gs2 with
   | cons _ _ => cases q2
   | nil =>
    rw [List.append_nil] at q1
    have : ordL J gs1 = fs := by rw [← q1, ordL_ordL]
    rw [this] at hms
    refine K_nx (x_nil ?_)
    refine Rn _ _ trivial ⟨(J : Int) + 1, _, rfl, by omega, by omega, X4, hv4, os4, by simpa using hvl, fun i vs gs hi e1 e2 => ?_, fun i vs hi e1 => ?_, r1, r2⟩
    ·by_cases z : i = J
     ·subst z
      rw [List.getElem?_set_self (by omega)] at e1
      cases e1
      rw [hfs] at e2; cases e2; exact hms
     ·rw [List.getElem?_set_ne (Ne.symm z)] at e1
      exact hdone i vs gs (by omega) e1 e2
    ·rw [List.getElem?_set_ne (by omega)] at e1
     exact hnew i vs (by omega) e1
  ·have := (os.ext z3).set (j := J) (y := []) la1
   rw [set_id (z3 _ _ (os.at_ J _ _ la1 hx0))] at this
   exact this
  ·unfold ordL; split <;> exact .nil
 ·rintro ρ H2 ⟨j, vss, hr, j0, j1, X2, hv, os, hvl, hdone, hnew, r1, r2⟩
  have hnl := rangeV_nil_inv hr
  obtain ⟨gv, v1, v2⟩ := id hv
  have hms : ∀ (i : Nat) vs fs, vss[i]? = some vs → L[i]? = some fs → Ms H vs fs := fun i vs fs e1 e2 => hdone i vs fs (by have := (List.getElem?_eq_some_iff.mp e2).1; omega) e1 e2
  refine K_nx ?_
  walk_at "s"
  refine k_meth v1 rfl ?_
  walk_at "s"
  refine CK _ _ _ _ _ _ _ (ver_of hv (hO.ext X2) os hvl hn fun i vs fs e1 e2 => (hms i vs fs e1 e2).ext X2) hL fun H3 X3 => ?_
  walk_at "s"
  exact hQ v FL' as vss H3 (X2.trans X3) fv fF fas nF (hv.ext X3) (os.ext X3) hvl hms
noncomputable def row4 (f : Fi) : V := .tup [.int f.n, .int f.s, .int f.lo, .int f.hi]
noncomputable def rowK (f : Fi) : V := .tup [.int f.n, .int f.s, .bytes (ikb f.lo 9), .bytes (ikb f.hi 1)]
noncomputable def rowC (c : Int × Fi) : V := .tup [.int c.1, rowK c.2]
noncomputable def TV (H : AH) (LB : Addr) (L : List (List Fi)) : Prop := ∃ as, H LB = some (.list (as.map .ref)) ∧ Os .list H as (L.map fun fs => fs.map row4)
theorem TV.ext {H H' : AH} (x : Ext H H') {LB : Addr} {L : List (List Fi)} (h : TV H LB L) : TV H' LB L := let ⟨as, h1, h2⟩ := h; ⟨as, x _ _ h1, h2.ext x⟩
noncomputable def C_draw (Φ : Phi) : Prop := ∀ (l : Addr) (ns : List Int) (i : Int) (H : AH) (Q : PV), H l = some (.list (ns.map .int)) → ns ≠ [] → ns.length ≤ 100 → (∀ x ∈ ns, 0 ≤ x ∧ x < 1000000) → 0 ≤ i → i ≤ 1000 → (∀ r, 0 ≤ r → r ≤ 10000000 → Q (.int r) H) → Φ .law_draw [.ref l, .int i] H Q
theorem c_draw (k : Nat) : C_draw (phi (k + 1)) := by
 intro l ns i H Q hl hne hz hb h0 h1 hQ
 refine phi_call (body := law_draw_body) rfl rfl ?_; intro ρ0
 generalize phi k = Φ
 obtain ⟨N, hN⟩ : ∃ N : Int, N = ns.length := ⟨_, rfl⟩
 have hpos : 0 < ns.length := List.length_pos_iff.mpr hne
 walk_at "s"
 refine bi_lenL hl (by unfold smallL; simp; omega) ?_
 rw [List.length_map, ← hN]
 refine o_mod (by omega) ?_
 obtain ⟨r, hr⟩ : ∃ r : Int, r = i % N := ⟨_, rfl⟩
 have hr0 : 0 ≤ r := by rw [hr]; exact Int.emod_nonneg _ (by omega)
 have hr1 : r < N := by rw [hr]; exact Int.emod_lt_of_pos _ (by omega)
 rw [← hr]
 obtain ⟨x, hx⟩ : ∃ x, ns[r.toNat]? = some x := ⟨_, List.getElem?_eq_getElem (by omega)⟩
 have hxb := hb x (List.mem_of_getElem? hx)
 refine i_list hl hr0 (by omega) (u := .int x) (by simp [hx]) ?_
 walk_at "s"
 refine bi_lenL hl (by unfold smallL; simp; omega) ?_
 rw [List.length_map, ← hN]
 refine o_fdiv (by omega) (by omega) ?_
 have hd0 : 0 ≤ i / N := Int.ediv_nonneg h0 (by omega)
 have hd1 : i / N ≤ i := Int.ediv_le_self _ h0
 generalize i / N = q at hd0 hd1
 refine o_mul (by decide) (by omega) ?_
 walk_at "s"
 exact hQ _ (by omega) (by omega)
noncomputable def C_luser (Φ : Phi) : Prop := ∀ (p : Int) (H : AH) (Q : PV), Pb p → (∀ H', Ext H H' → Q (ub p) H') → Φ .law_user [.int p] H Q
theorem c_luser (k : Nat) : C_luser (phi (k + 1)) := by
 intro p H Q hp hQ
 refine phi_call (body := law_user_body) rfl rfl ?_; intro ρ0
 generalize phi k = Φ
 walk_at "s"
 refine ⟨sm rfl, n_new fun a H1 x1 ha hl => ?_⟩
 walk_at "s"
 have hc : p = 0 ∨ p = 1 ∨ p = 2 ∨ p = 3 ∨ p = 4 ∨ p = 5 ∨ p = 6 ∨ p = 7 ∨ p = 8 := by unfold Pb at hp; omega
 have := hQ H1 x1
 rcases hc with rfl | rfl | rfl | rfl | rfl | rfl | rfl | rfl | rfl <;> exact i_list hl (by decide) (by decide) rfl this
noncomputable def C_likey (Φ : Phi) : Prop := ∀ (p q : Int) (H : AH) (Q : PV), Pl p → 0 ≤ q → q < 256 → (∀ H', Ext H H' → Q (.bytes (ikb p q)) H') → Φ .law_ikey [.int p, .int q] H Q
theorem c_likey (k : Nat) : C_likey (phi (k + 2)) := by
 intro p q H Q hp h0 h1 hQ
 refine phi_call (body := law_ikey_body) rfl rfl ?_; intro ρ0
 have CU : C_luser (phi (k + 1)) := c_luser k
 generalize phi (k + 1) = Φ at CU ⊢
 walk_at "s"
 refine CU _ _ _ ⟨hp.1, by have := hp.2; omega⟩ fun H1 x1 => ?_
 have hu : ub p = .bytes (U p) := by unfold ub; rw [if_neg (by have := hp.2; omega)]
 rw [hu]
 walk_at "s"
 refine ⟨sm rfl, n_new fun a H2 x2 ha hl => ?_⟩
 walk_at "s"
 refine bi_bytesL (ns := [1, q, 0, 0, 0, 0, 0, 0]) hl rfl (sm rfl) (by simp; omega) ?_
 refine o_addB (by have := U_len p; simp; omega) ?_
 walk_at "s"
 exact hQ H2 (x1.trans x2)
theorem ub_key {p : Int} (h : Pl p) : Pb p := ⟨h.1, by have := h.2; omega⟩
noncomputable def C_lrows (Φ : Phi) : Prop := ∀ (l : Addr) (fs : List Fi) (H : AH) (Q : PV), H l = some (.list (fs.map row4)) → fs.length ≤ 1000 → FsOk fs → (∀ a H', Ext H H' → H a = none → H' a = some (.list (fs.map rowK)) → Q (.ref a) H') → Φ .law_rows [.ref l] H Q
theorem c_lrows (k : Nat) : C_lrows (phi (k + 3)) := by
 intro l fs H Q hl hz hok hQ
 refine phi_call (body := law_rows_body) rfl rfl ?_; intro ρ0
 have CK : C_likey (phi (k + 2)) := c_likey k
 generalize phi (k + 2) = Φ at CK ⊢
 walk_at "s"
 refine k_comp hl (by unfold smallL; simp; omega) ?_
 let I1 : List V → List V → AH → Prop := fun vs acc H' => Ext H H' ∧ Sx2 fun done todo => A3 (fs = done ++ todo) (vs = todo.map row4) (acc = done.map rowK)
 refine compA_inv I1 ?_ ?_ _ _ _ ⟨.refl _, [], fs, rfl, rfl, rfl⟩
 ·rintro v rest acc H1 ⟨x1, done, todo, q1, q2, rfl⟩ R hR
  cases todo with
  | nil => cases q2
  | cons f todo =>
   cases q2
   have hf := hok f (by rw [q1]; simp)
   have pl := hok.pl (f := f) (by rw [q1]; simp)
   have hdl : done.length ≤ fs.length := by rw [q1]; simp
   refine cc_nil ?_
   show evA _ _ _ _ _
   walk_at "s"
   refine i_tup (by decide) (by decide) rfl ?_
   walk_at "s"
   refine i_tup (by decide) (by decide) rfl ?_
   walk_at "s"
   refine i_tup (by decide) (by decide) rfl ?_
   walk_at "s"
   refine CK _ _ _ _ pl.1 (by decide) (by decide) fun H2 x2 => ?_
   walk_at "s"
   refine i_tup (by decide) (by decide) rfl ?_
   walk_at "s"
   refine CK _ _ _ _ pl.2 (by decide) (by decide) fun H3 x3 => ?_
   walk_at "s"
   have x := (x1.trans x2).trans x3
   refine ⟨sm rfl, by unfold smallL; simp; omega, hR _ _ (x _ _ hl) ⟨x, done ++ [f], todo, by rw [q1]; simp, rfl, by simp [rowK]⟩⟩
 ·rintro acc H1 ⟨x1, done, todo, q1, q2, rfl⟩
  have : todo = [] := by cases todo with | nil => rfl | cons _ _ => cases q2
  subst this
  rw [List.append_nil] at q1
  subst q1
  refine n_new fun a H2 x2 ha hl2 => ?_
  walk_at "s"
  exact hQ a H2 (x1.trans x2) (x1.none ha) hl2
noncomputable def C_loct (Φ : Phi) : Prop := ∀ (l : Addr) (fs : List Fi) (H : AH) (Q : PV), H l = some (.list (fs.map row4)) → fs.length ≤ 1000 → (∀ H', Ext H H' → Q (.int (sumS fs)) H') → Φ .law_octets [.ref l] H Q
theorem comp_col {Φ : Phi} {ρ : Lo} {H : AH} {Q : PV} {l : Addr} {fs : List Fi} {g : Fi → Int} {i : Int} (hi : 0 ≤ i ∧ i < 4) (hg : ∀ f : Fi, [V.int f.n, .int f.s, .int f.lo, .int f.hi][i.toNat]? = some (.int (g f))) (hl : H l = some (.list (fs.map row4))) (hz : fs.length ≤ 1000)
  (hQ : ∀ a H', Ext H H' → H a = none → H' a = some (.list ((fs.map g).map .int)) → Q (.ref a) H') : compK Φ (.idx (.var .f) (.int i)) .f .nil ρ (.ref l) H Q := by
 refine k_comp hl (by unfold smallL; simp; omega) ?_
 let I2 : List V → List V → AH → Prop := fun vs acc H' => H = H' ∧ Sx2 fun done todo => A3 (fs = done ++ todo) (vs = todo.map row4) (acc = (done.map g).map .int)
 refine compA_inv I2 ?_ ?_ _ _ _ ⟨rfl, [], fs, rfl, rfl, rfl⟩
 ·rintro v rest acc H1 ⟨rfl, done, todo, q1, q2, rfl⟩ R hR
  cases todo with
  | nil => cases q2
  | cons f todo =>
   cases q2
   have hdl : done.length ≤ fs.length := by rw [q1]; simp
   refine cc_nil ?_
   show evA _ _ _ _ _
   walk_at "s"
   refine i_tup hi.1 (by omega) (hg f) ?_
   exact ⟨by unfold smallL; simp; omega, hR _ _ hl ⟨rfl, done ++ [f], todo, by rw [q1]; simp, rfl, by simp⟩⟩
 ·rintro acc H1 ⟨rfl, done, todo, q1, q2, rfl⟩
  have : todo = [] := by cases todo with | nil => rfl | cons _ _ => cases q2
  subst this
  rw [List.append_nil] at q1
  subst q1
  exact n_new fun a H2 x2 ha hl2 => hQ a H2 x2 ha hl2
theorem c_loct (k : Nat) : C_loct (phi (k + 1)) := by
 intro l fs H Q hl hz hQ
 refine phi_call (body := law_octets_body) rfl rfl ?_; intro ρ0
 generalize phi k = Φ
 walk_at "s"
 refine comp_col (g := (·.s)) (by decide) (fun f => rfl) hl hz fun a H1 x1 ha ha1 => ?_
 walk_at "s"
 refine bi_sum ha1 (intsV_map _) ?_
 walk_at "s"
 exact hQ H1 x1
noncomputable def C_ltouch (Φ : Phi) : Prop := ∀ (l : Addr) (fs : List Fi) (lo hi : Int) (H : AH) (Q : PV), H l = some (.list (fs.map row4)) → fs.length ≤ 1000 → (∀ a H', Ext H H' → H a = none → H' a = some (.list ((touchP fs lo hi).map row4)) → Q (.ref a) H') → Φ .law_touch [.ref l, .int lo, .int hi] H Q
theorem c_ltouch (k : Nat) : C_ltouch (phi (k + 1)) := by
 intro l fs lo hi H Q hl hz hQ
 refine phi_call (body := law_touch_body) rfl rfl ?_; intro ρ0
 generalize phi k = Φ
 walk_at "s"
 refine k_comp hl (by unfold smallL; simp; omega) ?_
 let I3 : List V → List V → AH → Prop := fun vs acc H' => H = H' ∧ Sx2 fun done todo => A3 (fs = done ++ todo) (vs = todo.map row4) (acc = (touchP done lo hi).map row4)
 refine compA_inv I3 ?_ ?_ _ _ _ ⟨rfl, [], fs, rfl, rfl, rfl⟩
 ·rintro v rest acc H1 ⟨rfl, done, todo, q1, q2, rfl⟩ R hR
  cases todo with
  | nil => cases q2
  | cons f todo =>
   cases q2
   have hdl : done.length ≤ fs.length := by rw [q1]; simp
   have htl : (touchP done lo hi).length ≤ done.length := List.length_filter_le _ _
   have tf : tch lo hi f = true → touchP (done ++ [f]) lo hi = touchP done lo hi ++ [f] := fun t => by simp [touchP, t]
   have ff : tch lo hi f = false → touchP (done ++ [f]) lo hi = touchP done lo hi := fun t => by simp [touchP, t]
   have key : ∀ b : Bool, b = tch lo hi f → ccK Φ .nil (upd (updL (fun _ => none) Fn.law_touch.params [.ref l, .int lo, .int hi]) .f (row4 f)) (.bool b) H fun b H => if b = true then evA Φ (.var .f) (upd (updL (fun _ => none) Fn.law_touch.params [.ref l, .int lo, .int hi]) .f (row4 f)) H (fun w H => smallL ((touchP done lo hi).map row4) ∧ R ((touchP done lo hi).map row4 ++ [w]) H) else R ((touchP done lo hi).map row4) H := by
    rintro b hb
    refine k_cc (fun c => ?_) (fun c => ?_)
    ·refine cc_nil ?_
     rw [if_pos rfl]
     walk_at "s"
     exact ⟨by unfold smallL; simp; omega, hR _ _ hl ⟨rfl, done ++ [f], todo, by rw [q1]; simp, rfl, by rw [tf (hb ▸ c)]; simp⟩⟩
    ·rw [if_neg (by simp)]
     exact hR _ _ hl ⟨rfl, done ++ [f], todo, by rw [q1]; simp, rfl, by rw [ff (hb ▸ c)]⟩
   refine cc_cons ?_
   walk_at "s"
   have second : ∀ (b0 : Bool), b0 = true → tch lo hi f = decide (hi = 8 ∨ f.lo ≤ hi) → boK Φ true (.cons (.or (.cons (.cmp .eq (.var .high) (.int 8)) (.cons (.cmp .le (.idx (.var .f) (.int 2)) (.var .high)) .nil))) .nil) (upd (updL (fun _ => none) Fn.law_touch.params [.ref l, .int lo, .int hi]) .f (row4 f)) (.bool b0) H fun v H => ccK Φ .nil (upd (updL (fun _ => none) Fn.law_touch.params [.ref l, .int lo, .int hi]) .f (row4 f)) v H fun b H => if b = true then evA Φ (.var .f) (upd (updL (fun _ => none) Fn.law_touch.params [.ref l, .int lo, .int hi]) .f (row4 f)) H (fun w H => smallL ((touchP done lo hi).map row4) ∧ R ((touchP done lo hi).map row4 ++ [w]) H) else R ((touchP done lo hi).map row4) H := by
    rintro b0 rfl ht
    refine k_and_t rfl ?_
    walk_at "s"
    refine k_or (fun c => ?_) (fun c => ?_)
    ·replace c := ci_eq_f.mp c
     walk_at "s"
     refine i_tup (by decide) (by decide) rfl ?_
     walk_at "s"
     refine key _ ?_
     rw [ht]
     by_cases z : f.lo ≤ hi
     ·rw [decide_eq_true (.inr z)]; rw [ci_le_t]; exact z
     ·rw [decide_eq_false (by omega)]; rw [ci_le_f]; omega
    ·replace c := ci_eq_t.mp c
     exact key _ (by rw [ht, decide_eq_true (.inl c)])
   refine k_or (fun c => ?_) (fun c => ?_)
   ·replace c := ci_eq_f.mp c
    walk_at "s"
    refine i_tup (by decide) (by decide) rfl ?_
    walk_at "s"
    by_cases z : lo ≤ f.hi
    ·refine second _ (by rw [ci_ge_t]; exact z) ?_
     unfold tch; by_cases z1 : hi = 8 <;> by_cases z2 : f.lo ≤ hi <;> simp [z, z1, z2]
    ·refine k_and_f (by rw [ci_ge_f]; omega) ?_
     refine key _ ?_
     unfold tch; simp [z, c]
   ·replace c := ci_eq_t.mp c
    refine second _ rfl ?_
    unfold tch; by_cases z1 : hi = 8 <;> by_cases z2 : f.lo ≤ hi <;> simp [c, z1, z2]
 ·rintro acc H1 ⟨rfl, done, todo, q1, q2, rfl⟩
  have : todo = [] := by cases todo with | nil => rfl | cons _ _ => cases q2
  subst this
  rw [List.append_nil] at q1
  subst q1
  refine n_new fun a H2 x2 ha hl2 => ?_
  walk_at "s"
  exact hQ a H2 x2 ha hl2
section
variable {Φ : Phi} {ρ : Lo} {H : AH} {Q : PO} {ss a a' : Ss}
theorem k_iteJ {b : Bool} (J : Lo → AH → Prop) (h1 : b = true → ∀ R : PO, (∀ ρ' H', J ρ' H' → R .nx ρ' H') → exSs Φ a ρ H R) (h2 : b = false → ∀ R : PO, (∀ ρ' H', J ρ' H' → R .nx ρ' H') → exSs Φ a' ρ H R)
  (h3 : ∀ ρ' H', J ρ' H' → exSs Φ ss ρ' H' Q) : iteK (.bool b) (exSs Φ a ρ H (seqK Φ ss Q)) (exSs Φ a' ρ H (seqK Φ ss Q)) := by
 cases b with
 | true => exact h1 rfl _ fun ρ' H' j => h3 ρ' H' j
 | false => exact h2 rfl _ fun ρ' H' j => h3 ρ' H' j
end
theorem loOf_of {fs : List Fi} {M : Int} (h1 : M ∈ fs.map (·.lo)) (h2 : ∀ n ∈ fs.map (·.lo), M ≤ n) : M = loOf fs := by
 cases fs with
 | nil => simp at h1
 | cons f r =>
  obtain ⟨p1, p2, p3⟩ := foldl_lo r f.lo
  show M = r.foldl _ f.lo
  rw [List.map_cons, List.mem_cons] at h1
  have up : M ≤ r.foldl (fun m f => if f.lo < m then f.lo else m) f.lo := by
   rcases p3 with e | ⟨g, hg, e⟩
   ·rw [e]; exact h2 _ (by simp)
   ·rw [e]; exact h2 _ (by simp; exact .inr ⟨g, hg, rfl⟩)
  rcases h1 with e | e
  ·omega
  ·rw [List.mem_map] at e
   obtain ⟨g, hg, e⟩ := e
   have := p2 g hg; omega
theorem hiOf_of {fs : List Fi} {M : Int} (h1 : M ∈ fs.map (·.hi)) (h2 : ∀ n ∈ fs.map (·.hi), n ≤ M) : M = hiOf fs := by
 cases fs with
 | nil => simp at h1
 | cons f r =>
  obtain ⟨p1, p2, p3⟩ := foldl_hi r f.hi
  show M = r.foldl _ f.hi
  rw [List.map_cons, List.mem_cons] at h1
  have up : r.foldl (fun m f => if m < f.hi then f.hi else m) f.hi ≤ M := by
   rcases p3 with e | ⟨g, hg, e⟩
   ·rw [e]; exact h2 _ (by simp)
   ·rw [e]; exact h2 _ (by simp; exact .inr ⟨g, hg, rfl⟩)
  rcases h1 with e | e
  ·omega
  ·rw [List.mem_map] at e
   obtain ⟨g, hg, e⟩ := e
   have := p2 g hg; omega
theorem lowJ_of {fs : List Fi} {lo hi M : Int} (h : lo ≠ 8) (h1 : M ∈ lo :: (touchP fs lo hi).map (·.lo)) (h2 : ∀ n ∈ lo :: (touchP fs lo hi).map (·.lo), M ≤ n) : M = lowJ fs lo hi := by
 unfold lowJ
 rw [if_neg h]
 obtain ⟨p1, p2, p3⟩ := foldl_lo (touchP fs lo hi) lo
 rw [List.mem_cons] at h1
 have up : M ≤ (touchP fs lo hi).foldl (fun m f => if f.lo < m then f.lo else m) lo := by
  rcases p3 with e | ⟨g, hg, e⟩
  ·rw [e]; exact h2 _ (by simp)
  ·rw [e]; exact h2 _ (by simp; exact .inr ⟨g, hg, rfl⟩)
 rcases h1 with e | e
 ·omega
 ·rw [List.mem_map] at e
  obtain ⟨g, hg, e⟩ := e
  have := p2 g hg; omega
theorem highJ_of {fs : List Fi} {lo hi M : Int} (h : hi ≠ 8) (h1 : M ∈ hi :: (touchP fs lo hi).map (·.hi)) (h2 : ∀ n ∈ hi :: (touchP fs lo hi).map (·.hi), n ≤ M) : M = highJ fs lo hi := by
 unfold highJ
 rw [if_neg h]
 obtain ⟨p1, p2, p3⟩ := foldl_hi (touchP fs lo hi) hi
 rw [List.mem_cons] at h1
 have up : (touchP fs lo hi).foldl (fun m f => if m < f.hi then f.hi else m) hi ≤ M := by
  rcases p3 with e | ⟨g, hg, e⟩
  ·rw [e]; exact h2 _ (by simp)
  ·rw [e]; exact h2 _ (by simp; exact .inr ⟨g, hg, rfl⟩)
 rcases h1 with e | e
 ·omega
 ·rw [List.mem_map] at e
  obtain ⟨g, hg, e⟩ := e
  have := p2 g hg; omega
noncomputable def C_lspan (Φ : Phi) : Prop := ∀ (l : Addr) (fs : List Fi) (H : AH) (Q : PV), H l = some (.list (fs.map row4)) → fs.length ≤ 1000 → fs ≠ [] → (∀ H', Ext H H' → Q (.tup [.int (loOf fs), .int (hiOf fs)]) H') → Φ .law_span [.ref l] H Q
theorem c_lspan (k : Nat) : C_lspan (phi (k + 1)) := by
 intro l fs H Q hl hz hne hQ
 refine phi_call (body := law_span_body) rfl rfl ?_; intro ρ0
 generalize phi k = Φ
 walk_at "s"
 refine comp_col (g := (·.lo)) (by decide) (fun f => rfl) hl hz fun a H1 x1 ha ha1 => ?_
 walk_at "s"
 refine bi_minL ha1 (intsV_map _) (by simpa using hne) fun M m1 m2 => ?_
 have e1 := loOf_of m1 m2
 subst e1
 walk_at "s"
 refine comp_col (g := (·.hi)) (by decide) (fun f => rfl) (x1 _ _ hl) hz fun b H2 x2 hb hb1 => ?_
 walk_at "s"
 refine bi_maxL hb1 (intsV_map _) (by simpa using hne) fun M m1 m2 => ?_
 have e1 := hiOf_of m1 m2
 subst e1
 walk_at "s"
 refine ⟨sm rfl, ?_⟩
 walk_at "s"
 exact hQ H2 (x1.trans x2)
theorem bi_lenN {H : AH} {Q : PV} {a : Addr} {xs : List V} {N : Int} (hl : H a = some (.list xs)) (hs : smallL xs) (hN : N = xs.length) (h : Q (.int N) H) : biA .len [.ref a] H Q := by subst hN; exact bi_lenL hl hs h
noncomputable def C_ljoin (Φ : Phi) : Prop := ∀ (LB : Addr) (L : List (List Fi)) (level lo hi : Int) (fs : List Fi) (H : AH) (Q : PV), TV H LB L → L.length ≤ 100 → 0 ≤ level → L[level.toNat]? = some fs → fs.length ≤ 1000 →
 (∀ a H', Ext H H' → H a = none → H' a = some (.list ((overP level fs lo hi).map row4)) → Q (.ref a) H') → Φ .law_joined [.ref LB, .int level, .int lo, .int hi] H Q
theorem c_ljoin (k : Nat) : C_ljoin (phi (k + 2)) := by
 intro LB L level lo hi fs H Q hT hLz h0 hfs hz hQ
 obtain ⟨as, t1, t2⟩ := hT
 refine phi_call (body := law_joined_body) rfl rfl ?_; intro ρ0
 have CT : C_ltouch (phi (k + 1)) := c_ltouch k
 generalize phi (k + 1) = Φ at CT ⊢
 have hi0 := (List.getElem?_eq_some_iff.mp hfs).1
 obtain ⟨la, l1, l2⟩ := t2.get (j := level.toNat) (x := fs.map row4) (by rw [List.getElem?_map, hfs]; rfl)
 walk_at "s"
 refine i_list t1 h0 (by omega) (ref_get l1) ?_
 walk_at "s"
 refine CT _ _ _ _ _ _ l2 hz fun fa H1 x1 hfa hfa1 => ?_
 walk_at "s"
 refine k_ite (fun c => ?_) (fun c => ?_)
 ·replace c := ci_eq_t.mp c
  subst c
  walk_at "s"
  refine i_list (x1 _ _ t1) (by decide) (by decide) (ref_get l1) ?_
  walk_at "s"
  obtain ⟨N, hN⟩ : ∃ N : Int, N = fs.length := ⟨_, rfl⟩
  refine bi_lenN (N := N) (x1 _ _ l2) (by unfold smallL; simp; omega) (by simpa using hN) ?_
  walk_at "s"
  with_reducible refine r_one (by omega) (by omega) ?_
  let I1 : List V → Lo → AH → Prop := fun rest ρ H2 => Sx4 fun (i lo' hi' : Int) (fb : Addr) => A11 (rest = rangeV i N) (0 ≤ i) (i ≤ N) (Ext H H2) (H fb = none) (H2 fb = some (.list ((touchP fs lo' hi').map row4))) (joinN fs (N - i).toNat lo' hi' = joinN fs fs.length lo hi) (ρ .low = some (.int lo')) (ρ .high = some (.int hi')) (ρ .found = some (.ref fb)) (ρ .levels = some (.ref LB))
  refine forA_inv I1 ?_ ?_ _ _ _ ⟨0, lo, hi, fa, rfl, by omega, by omega, x1, hfa, hfa1, by rw [show (N - 0).toNat = fs.length from by omega], rfl, rfl, rfl, rfl⟩
  ·rintro v rest ρ H2 ⟨i, lo', hi', fb, hr, i0, i1, x2, hfb, hfb1, hj, r1, r2, r3, r4⟩ R Rn - - -
   obtain ⟨c1, rfl, rfl⟩ := rangeV_inv hr
   have hjs : joinN fs (N - i).toNat lo' hi' = joinN fs (N - (i + 1)).toNat (lowJ fs lo' hi') (highJ fs lo' hi') := by
    rw [show (N - i).toNat = (N - (i + 1)).toNat + 1 from by omega]; rfl
   have htl : (touchP fs lo' hi').length ≤ fs.length := List.length_filter_le _ _
   show exSs Φ _ _ _ _
   walk_at "s"
   refine k_iteJ (fun ρ' H3 => Ext H2 H3 ∧ ρ' .low = some (.int (lowJ fs lo' hi')) ∧ ρ' .high = some (.int hi') ∧ ρ' .found = some (.ref fb) ∧ ρ' .levels = some (.ref LB)) (fun c R hR => ?_) (fun c R hR => ?_) ?_
   ·replace c := ci_ne_t.mp c
    walk_at "s"
    refine ⟨sm rfl, n_new fun b1 H3 x3 hb1 hb2 => ?_⟩
    walk_at "s"
    refine comp_col (g := (·.lo)) (by decide) (fun f => rfl) (x3 _ _ hfb1) (by omega) fun b2 H4 x4 _ hb4 => ?_
    refine o_addL (x4 _ _ hb2) hb4 (sm rfl) (by unfold smallL; simp; omega) (n_new fun b3 H5 x5 _ hb5 => ?_)
    walk_at "s"
    refine bi_minL (ns := lo' :: (touchP fs lo' hi').map Fi.lo) hb5 (intsV_map (lo' :: (touchP fs lo' hi').map Fi.lo)) (by simp) fun M m1 m2 => ?_
    have e := lowJ_of c m1 m2
    subst e
    walk_at "s"
    exact hR _ _ ⟨(x3.trans x4).trans x5, rfl, by exact r2, by exact r3, by exact r4⟩
   ·replace c := ci_ne_f.mp c
    refine x_nil (hR _ _ ⟨.refl _, ?_, by exact r2, by exact r3, by exact r4⟩)
    rw [show lowJ fs lo' hi' = lo' from by unfold lowJ; rw [if_pos c]; exact c.symm]
    exact r1
   ·rintro ρ' H3 ⟨x3, r1, r2, r3, r4⟩
    walk_at "s"
    refine k_iteJ (fun ρ' H4 => Ext H3 H4 ∧ ρ' .low = some (.int (lowJ fs lo' hi')) ∧ ρ' .high = some (.int (highJ fs lo' hi')) ∧ ρ' .levels = some (.ref LB)) (fun c R hR => ?_) (fun c R hR => ?_) ?_
    ·replace c := ci_ne_t.mp c
     walk_at "s"
     refine ⟨sm rfl, n_new fun b1 H4 x4 hb1 hb2 => ?_⟩
     walk_at "s"
     refine comp_col (g := (·.hi)) (by decide) (fun f => rfl) (x4 _ _ (x3 _ _ hfb1)) (by omega) fun b2 H5 x5 _ hb4 => ?_
     refine o_addL (x5 _ _ hb2) hb4 (sm rfl) (by unfold smallL; simp; omega) (n_new fun b3 H6 x6 _ hb5 => ?_)
     walk_at "s"
     refine bi_maxL (ns := hi' :: (touchP fs lo' hi').map Fi.hi) hb5 (intsV_map (hi' :: (touchP fs lo' hi').map Fi.hi)) (by simp) fun M m1 m2 => ?_
     have e := highJ_of c m1 m2
     subst e
     walk_at "s"
     exact hR _ _ ⟨(x4.trans x5).trans x6, by exact r1, rfl, by exact r4⟩
    ·replace c := ci_ne_f.mp c
     refine x_nil (hR _ _ ⟨.refl _, by exact r1, ?_, by exact r4⟩)
     rw [show highJ fs lo' hi' = hi' from by unfold highJ; rw [if_pos c]; exact c.symm]
     exact r2
    ·rintro ρ' H4 ⟨x4, r1, r2, r4⟩
     have x := (x2.trans x3).trans x4
     walk_at "s"
     refine i_list (x _ _ t1) (by decide) (by decide) (ref_get l1) ?_
     walk_at "s"
     refine CT _ _ _ _ _ _ (x _ _ l2) hz fun fc H5 x5 hfc hfc1 => ?_
     walk_at "s"
     exact Rn _ _ trivial ⟨i + 1, _, _, fc, rfl, by omega, by omega, x.trans x5, x.none hfc, hfc1, by rw [← hjs]; exact hj, by exact r1, by exact r2, rfl, by exact r4⟩
  ·rintro ρ H2 ⟨i, lo', hi', fb, hr, i0, i1, x2, hfb, hfb1, hj, r1, r2, r3, r4⟩
   have hnl := rangeV_nil_inv hr
   rw [show (N - i).toNat = 0 from by omega] at hj
   have e1 : (lo', hi') = joinN fs fs.length lo hi := hj
   refine K_nx (x_nil (K_nx ?_))
   walk_at "s"
   refine hQ fb H2 x2 hfb ?_
   rw [hfb1]
   unfold overP joinedP
   rw [if_pos rfl, ← e1]
 ·replace c := ci_eq_f.mp c
  walk_at "s"
  refine hQ fa H1 x1 hfa ?_
  rw [hfa1]
  unfold overP
  rw [if_neg c]
noncomputable def C_row (Φ : Phi) : Prop := ∀ (a : Addr) (f : Fi) (H : AH) (Q : PV), MetaAt H a f → Q (rowK f) H → Φ .FileMeta_row [.ref a] H Q
theorem c_row (k : Nat) : C_row (phi (k + 1)) := by
 intro a f H Q hm hQ
 refine phi_call (body := FileMeta_row_body) rfl rfl ?_; intro ρ0
 generalize phi k = Φ
 walk_at "s"
 refine m_number hm ?_
 walk_at "s"
 refine m_size hm ?_
 walk_at "s"
 refine m_smallest hm ?_
 walk_at "s"
 refine m_largest hm ?_
 walk_at "s"
 refine ⟨sm rfl, ?_⟩
 walk_at "s"
 exact hQ
noncomputable def Sh (H : AH) (s : Int) (vs ws : List V) : Prop := (s = 0 ∧ ∃ fs, Ms H vs fs ∧ ws = fs.map rowK) ∨ (s = 1 ∧ ∃ cs, Cs H vs cs ∧ ws = cs.map rowC) ∨ (s = 2 ∧ ∃ ns : List Int, vs = ns.map .int ∧ ws = vs)
theorem Sh.ext {H H' : AH} (x : Ext H H') {s : Int} {vs ws : List V} (h : Sh H s vs ws) : Sh H' s vs ws := by
 rcases h with ⟨e, fs, h, q⟩ | ⟨e, cs, h, q⟩ | ⟨e, ns, h, q⟩
 ·exact .inl ⟨e, fs, h.ext x, q⟩
 ·exact .inr (.inl ⟨e, cs, h.ext x, q⟩)
 ·exact .inr (.inr ⟨e, ns, h, q⟩)
theorem Fld.wo1 {H : AH} {l a : Addr} {xs : List V} {C : Cl} {f : Lo} (hl : H l = some (.list xs)) (h : Fld H a C f) : Fld (wo H [l]) a C f := by
 obtain ⟨dx, h1, h2⟩ := h
 refine ⟨dx, ?_, ?_⟩
 ·rw [wo_out (fun z => by simp at z; subst z; rw [hl] at h1; cases h1)]; exact h1
 ·rw [wo_out (fun z => by simp at z; subst z; rw [hl] at h2; cases h2)]; exact h2
theorem MetaAt.wo1 {H : AH} {l a : Addr} {xs : List V} {f : Fi} (hl : H l = some (.list xs)) (h : MetaAt H a f) : MetaAt (wo H [l]) a f := let ⟨g, h1, r⟩ := h; ⟨g, h1.wo1 hl, r⟩
theorem Ms.wo1 {H : AH} {l : Addr} {xs : List V} (hl : H l = some (.list xs)) {vs fs} (h : Ms H vs fs) : Ms (wo H [l]) vs fs := h.mono fun a => a.wo1 hl
theorem Cs.wo1 {H : AH} {l : Addr} {xs : List V} (hl : H l = some (.list xs)) {vs cs} (h : Cs H vs cs) : Cs (wo H [l]) vs cs := h.mono fun a => a.wo1 hl
theorem Sh.wo1 {H : AH} {l : Addr} {xs : List V} (hl : H l = some (.list xs)) {s : Int} {vs ws : List V} (h : Sh H s vs ws) : Sh (wo H [l]) s vs ws := by
 rcases h with ⟨e, fs, h, q⟩ | ⟨e, cs, h, q⟩ | ⟨e, ns, h, q⟩
 ·exact .inl ⟨e, fs, h.wo1 hl, q⟩
 ·exact .inr (.inl ⟨e, cs, h.wo1 hl, q⟩)
 ·exact .inr (.inr ⟨e, ns, h, q⟩)
theorem eqFs_step {f : V → V → Option Bool} {v w : V} {vs ws : List V} {a b : Bool} (h1 : f v w = some a) (h2 : eqFs f vs ws = some b) : eqFs f (v :: vs) (w :: ws) = some (a && b) := by
 show (match f v w, eqFs f vs ws with | some a, some b => some (a && b) | _, _ => none) = _
 rw [h1, h2]
theorem eqF_tup {H : AH} {n : Nat} {vs ws : List V} : eqF H (n + 1) (.tup vs) (.tup ws) = eqFs (eqF H n) vs ws := rfl
theorem eqFs_nil {f : V → V → Option Bool} : eqFs f [] [] = some true := rfl
theorem eqFs_same_map {α : Type} {f : V → V → Option Bool} {g : α → V} (h : ∀ x, f (g x) (g x) = some true) (l : List α) : eqFs f (l.map g) (l.map g) = some true := by
 induction l with
 | nil => rfl
 | cons x l ih => exact eqFs_step (h x) ih
theorem int_eq {H : AH} {n : Nat} (i : Int) : eqF H (n + 1) (.int i) (.int i) = some true := congrArg some (decide_eq_true rfl)
theorem bytes_eq {H : AH} {n : Nat} (b : List UInt8) : eqF H (n + 1) (.bytes b) (.bytes b) = some true := congrArg some (decide_eq_true rfl)
theorem rowK_eq {H : AH} {n : Nat} (f : Fi) : eqF H (n + 2) (rowK f) (rowK f) = some true :=
 eqF_tup.trans <| eqFs_step (int_eq _) (eqFs_step (int_eq _) (eqFs_step (bytes_eq _) (eqFs_step (bytes_eq _) eqFs_nil)))
theorem rowC_eq {H : AH} {n : Nat} (c : Int × Fi) : eqF H (n + 3) (rowC c) (rowC c) = some true :=
 eqF_tup.trans <| eqFs_step (int_eq _) (eqFs_step (rowK_eq _) eqFs_nil)
theorem Sh.same {H H' : AH} {s : Int} {vs ws : List V} (h : Sh H s vs ws) : eqFs (eqF H' 3) ws ws = some true := by
 rcases h with ⟨e, fs, h, rfl⟩ | ⟨e, cs, h, rfl⟩ | ⟨e, ns, rfl, rfl⟩
 ·exact eqFs_same_map rowK_eq _
 ·exact eqFs_same_map rowC_eq _
 ·exact eqFs_same_map int_eq _
theorem eq_lists {H : AH} {a b : Addr} {vs ws : List V} {r : Bool} (ha : H a = some (.list vs)) (hb : H b = some (.list ws)) (hl : vs.length = ws.length) (h : eqFs (eqF H 3) vs ws = some r) : eqF H 4 (.ref a) (.ref b) = some r := by
 show (match H a, H b with
  | some (.list vs), some (.list ws) => if vs.length = ws.length then eqFs (eqF H 3) vs ws else some false
  | _, _ => none) = _
 rw [ha, hb]
 exact (if_pos hl).trans h
noncomputable def C_told (Φ : Phi) : Prop := ∀ (l : Addr) (s : Int) (vs ws : List V) (H : AH) (Q : PV), H l = some (.list vs) → vs.length ≤ 1000 → Sh H s vs ws → (∀ a H', Ext H H' → H a = none → H' a = some (.list ws) → Q (.ref a) H') → Φ .law_told [.ref l, .int s] H Q
theorem c_told (k : Nat) : C_told (phi (k + 2)) := by
 intro l s vs ws H Q hl hz hs hQ
 refine phi_call (body := law_told_body) rfl rfl ?_; intro ρ0
 have CR : C_row (phi (k + 1)) := c_row k
 generalize phi (k + 1) = Φ at CR ⊢
 walk_at "s"
 rcases hs with ⟨rfl, fs, hm, rfl⟩ | ⟨rfl, cs, hm, rfl⟩ | ⟨rfl, ns, rfl, rfl⟩
 ·refine k_t rfl ?_
  walk_at "s"
  refine k_comp hl (by unfold smallL; omega) ?_
  let I1 : List V → List V → AH → Prop := fun us acc H' => H = H' ∧ Sx2 fun done todo => A3 (fs = done ++ todo) (Ms H us todo) (acc = done.map rowK)
  refine compA_inv I1 ?_ ?_ _ _ _ ⟨rfl, [], fs, rfl, hm, rfl⟩
  ·rintro v rest acc H1 ⟨rfl, done, todo, q1, q2, rfl⟩ R hR
   obtain ⟨a, f, gs, rfl, rfl, ma, mr⟩ := q2.inv
   have hdl : done.length ≤ fs.length := by rw [q1]; simp
   have := hm.len
   refine cc_nil ?_
   show evA _ _ _ _ _
   walk_at "s"
   obtain ⟨gg, ma1, _⟩ := id ma
   refine k_meth ma1 rfl ?_
   walk_at "s"
   refine CR _ _ _ _ ma ?_
   exact ⟨by unfold smallL; simp; omega, hR _ _ hl ⟨rfl, done ++ [f], gs, by rw [q1]; simp, mr, by simp⟩⟩
  ·rintro acc H1 ⟨rfl, done, todo, q1, q2, rfl⟩
   have : todo = [] := by cases q2; rfl
   subst this
   rw [List.append_nil] at q1
   subst q1
   refine n_new fun a H2 x2 ha hl2 => ?_
   walk_at "s"
   exact hQ a H2 x2 ha hl2
 ·refine k_f rfl ?_
  walk_at "s"
  refine k_t rfl ?_
  walk_at "s"
  refine k_comp hl (by unfold smallL; omega) ?_
  let I2 : List V → List V → AH → Prop := fun us acc H' => H = H' ∧ Sx2 fun done todo => A3 (cs = done ++ todo) (Cs H us todo) (acc = done.map rowC)
  refine compA_inv I2 ?_ ?_ _ _ _ ⟨rfl, [], cs, rfl, hm, rfl⟩
  ·rintro v rest acc H1 ⟨rfl, done, todo, q1, q2, rfl⟩ R hR
   obtain ⟨a, f, j, gs, rfl, rfl, ma, mr⟩ := q2.inv
   have hdl : done.length ≤ cs.length := by rw [q1]; simp
   have := hm.len
   refine cc_nil ?_
   show evA _ _ _ _ _
   walk_at "s"
   refine i_tup (by decide) (by decide) rfl ?_
   walk_at "s"
   refine i_tup (by decide) (by decide) rfl ?_
   obtain ⟨gg, ma1, _⟩ := id ma
   refine k_meth ma1 rfl ?_
   walk_at "s"
   refine CR _ _ _ _ ma ?_
   walk_at "s"
   exact ⟨sm rfl, by unfold smallL; simp; omega, hR _ _ hl ⟨rfl, done ++ [(j, f)], gs, by rw [q1]; simp, mr, by simp [rowC]⟩⟩
  ·rintro acc H1 ⟨rfl, done, todo, q1, q2, rfl⟩
   have : todo = [] := by cases q2; rfl
   subst this
   rw [List.append_nil] at q1
   subst q1
   refine n_new fun a H2 x2 ha hl2 => ?_
   walk_at "s"
   exact hQ a H2 x2 ha hl2
 ·refine k_f rfl ?_
  walk_at "s"
  refine k_f rfl ?_
  walk_at "s"
  refine k_comp hl (by unfold smallL; omega) ?_
  let I3 : List V → List V → AH → Prop := fun us acc H' => H = H' ∧ ns.map V.int = acc ++ us
  refine compA_inv I3 ?_ ?_ _ _ _ ⟨rfl, rfl⟩
  ·rintro v rest acc H1 ⟨rfl, q1⟩ R hR
   have hdl : acc.length ≤ (ns.map V.int).length := by rw [q1]; simp
   refine cc_nil ?_
   show evA _ _ _ _ _
   walk_at "s"
   exact ⟨by unfold smallL; omega, hR _ _ hl ⟨rfl, by rw [q1]; simp⟩⟩
  ·rintro acc H1 ⟨rfl, q1⟩
   rw [List.append_nil] at q1
   subst q1
   refine n_new fun a H2 x2 ha hl2 => ?_
   walk_at "s"
   exact hQ a H2 x2 ha hl2
noncomputable def spoilV (s : Int) (st : V) : V := if s = 0 then st else if s = 1 then .tup [.int 0, st] else .int 77
noncomputable def Spl (vs ws : List V) (u : V) : Prop := ws = [] ∨ ws = vs.reverse ++ [u] ∨ ws = vs ++ [u]
noncomputable def C_spoil (Φ : Phi) : Prop := ∀ (bk l : Addr) (g : Lo) (s way : Int) (vs : List V) (st : V) (H : AH) (Q : PV), H bk = some (.sdict g) → g .stranger = some st → H l = some (.list vs) → vs.length ≤ 2000 → 0 ≤ s → s ≤ 2 → 0 ≤ way → way ≤ 2 → (∀ H' ws, Evo l H H' → H' l = some (.list ws) → Spl vs ws (spoilV s st) → Q .none H') → Φ .law_spoil [.ref bk, .ref l, .int s, .int way] H Q
theorem c_spoil (k : Nat) : C_spoil (phi (k + 1)) := by
 intro bk l g s way vs st H Q hbk hst hl hz s0 s1 w0 w1 hQ
 have nbl : bk ≠ l := fun z => (no_ss z hbk hl nofun)
 refine phi_call (body := law_spoil_body) rfl rfl ?_; intro ρ0
 generalize phi k = Φ
 walk_at "s"
 refine k_ite (fun c => ?_) (fun c => ?_)
 ·walk_at "s"
  refine x_while fun P hP => ?_
  let I4 : Nat → Lo → AH → Prop := fun n ρ H' => Evo l H H' ∧ ∃ xs : List V, A4 (H' l = some (.list xs)) (xs.length = n) (xs.length ≤ 2000) (ρ .found = some (.ref l))
  refine while_ind (P := P) I4 ?_ _ _ _ ⟨fun _ _ _ e => e, vs, hl, rfl, hz, rfl⟩
  rintro n ρ H' ⟨ev, xs, e1, rfl, e3, r1⟩ ih
  refine hP ρ H' ?_
  walk_at "s"
  refine bi_lenL e1 (by unfold smallL; omega) ?_
  walk_at "s"
  refine k_ite (fun c => ?_) (fun c => ?_)
  ·replace c := ci_gt_t.mp c
   have hne : xs ≠ [] := fun z => by subst z; simp at c
   walk_at "s"
   refine k_lm e1 ?_
   walk_at "s"
   refine l_pop e1 (by unfold smallL; omega) (List.getLast?_eq_some_getLast hne) ?_
   walk_at "s"
   refine ih _ _ _ (by rw [List.length_dropLast]; have := List.length_pos_iff.mpr hne; omega) ⟨fun b O nb eb => by rw [set_other nb]; exact ev b O nb eb, _, set_same, rfl, by rw [List.length_dropLast]; omega, r1⟩
  ·replace c := ci_gt_f.mp c
   walk_at "s"
   exact hQ _ _ ev e1 (.inl (List.eq_nil_of_length_eq_zero (by omega)))
 ·replace c := ci_eq_f.mp c
  walk_at "s"
  refine k_iteJ (fun ρ' H1 => Evo l H H1 ∧ (∃ xs : List V, H1 l = some (.list xs) ∧ xs.length ≤ 2000 ∧ (xs = vs.reverse ∨ xs = vs)) ∧ ρ' .found = some (.ref l) ∧ ρ' .book = some (.ref bk) ∧ ρ' .sort = some (.int s)) (fun c R hR => ?_) (fun c R hR => ?_) ?_
  ·walk_at "s"
   refine k_lm hl ?_
   walk_at "s"
   refine l_reverse hl (by unfold smallL; omega) ?_
   walk_at "s"
   exact hR _ _ ⟨fun b O nb eb => by rw [set_other nb]; exact eb, ⟨_, set_same, by simpa using hz, .inl rfl⟩, rfl, rfl, rfl⟩
  ·exact x_nil (hR _ _ ⟨fun b O nb eb => eb, ⟨_, hl, hz, .inr rfl⟩, rfl, rfl, rfl⟩)
  ·rintro ρ' H1 ⟨ev, ⟨xs, e1, e2, e3⟩, r1, r2, r3⟩
   have b1 := ev _ _ nbl hbk
   walk_at "s"
   refine k_lm e1 ?_
   walk_at "s"
   refine g_key b1 hst ?_
   walk_at "s"
   refine g_key b1 hst ?_
   walk_at "s"
   refine ⟨sm rfl, ?_⟩
   walk_at "s"
   refine ⟨sm rfl, n_new fun a H2 x2 ha hl2 => ?_⟩
   walk_at "s"
   have hc : s = 0 ∨ s = 1 ∨ s = 2 := by omega
   have fin : ∀ u, u = spoilV s st → lmA .append l [u] H2 fun x H => exSs Φ Ss.nil ρ' H (retK Q) := fun u hu => by
    refine l_append (x2 _ _ e1) (by unfold smallL; omega) ?_
    walk_at "s"
    exact hQ _ _ (fun b O nb eb => by rw [set_other nb]; exact x2 _ _ (ev b O nb eb)) set_same (by subst hu; rcases e3 with rfl | rfl; exact .inr (.inl rfl); exact .inr (.inr rfl))
   rcases hc with rfl | rfl | rfl <;> exact i_list hl2 (by decide) (by decide) rfl (fin _ rfl)
structure Wd where (bk LB op v p KP : Addr) (st : V) (L : List (List Fi)) (o : Op) (T B lev : Int) (Hf : AH)
noncomputable def StrA (H : AH) (W : Wd) : Prop := ∃ a f, W.st = .ref a ∧ MetaAt H a f
structure Bk (H : AH) (W : Wd) : Prop where
 sd : ∃ g, H W.bk = some (.sdict g) ∧ A6 (g .levels = some (.ref W.LB)) (g .options = some (.ref W.op)) (g .version = some (.ref W.v)) (g .picker = some (.ref W.p)) (g .stranger = some W.st) (g .kept = some (.ref W.KP) ∧ Ext W.Hf H)
 tv : TV H W.LB W.L
 opt : OptAt H W.op W.o
 ver : VerAt H W.v W.L W.T W.B W.lev
 pk : PickAt H W.p W.op
 str : StrA H W
theorem Bk.ext {H H' : AH} {W : Wd} (x : Ext H H') (h : Bk H W) : Bk H' W := by
 obtain ⟨⟨g, s1, s2, s3, s4, s5, s6, s7, s8⟩, h2, h3, h4, h5, a, f, h6, h7⟩ := h
 exact ⟨⟨g, x _ _ s1, s2, s3, s4, s5, s6, s7, s8.trans x⟩, h2.ext x, h3.ext x, h4.ext x, h5.ext x, a, f, h6, h7.ext x⟩
structure Wok (W : Wd) : Prop where
 L : LvOk W.L
 ob : OpB W.o W.L.length
 n3 : 3 ≤ W.L.length
 n4 : W.L.length ≤ 4
 dr : W.B ≤ W.T → 0 ≤ W.lev ∧ W.lev + 1 < W.L.length ∧ lvl W.L W.lev ≠ []
noncomputable def Kept (H : AH) (xs : List V) : Prop := ∀ x ∈ xs, ∃ f s w vs ws, x = .tup [.ref f, .int s, .ref w] ∧ H f = some (.list vs) ∧ H w = some (.list ws) ∧ vs.length ≤ 1000 ∧ Sh H s vs ws
theorem Kept.ext {H H' : AH} (x : Ext H H') {xs : List V} (h : Kept H xs) : Kept H' xs := fun y hy => by
 obtain ⟨f, s, w, vs, ws, h1, h2, h3, h4, h5⟩ := h y hy
 exact ⟨f, s, w, vs, ws, h1, x _ _ h2, x _ _ h3, h4, h5.ext x⟩
noncomputable def St2 (H : AH) (W : Wd) (k : Nat) : Prop := Sx2 fun Hb xs => A5 (Ext Hb H) (Hb W.KP = none) (Bk Hb W) (H W.KP = some (.list xs)) (Kept Hb xs ∧ xs.length ≤ k)
theorem St2.ext {H H' : AH} (x : Ext H H') {W : Wd} {k : Nat} (h : St2 H W k) : St2 H' W k := by
 obtain ⟨Hb, xs, h1, h2, h3, h4, h5⟩ := h
 exact ⟨Hb, xs, h1.trans x, h2, h3, x _ _ h4, h5⟩
theorem Sh.len {H : AH} {s : Int} {vs ws : List V} (h : Sh H s vs ws) : vs.length = ws.length := by
 rcases h with ⟨e, fs, h, rfl⟩ | ⟨e, cs, h, rfl⟩ | ⟨e, ns, h, rfl⟩
 ·rw [h.len, List.length_map]
 ·rw [h.len, List.length_map]
 ·rfl
theorem Sh.dom {H : AH} {s : Int} {vs ws : List V} (h : Sh H s vs ws) : 0 ≤ s ∧ s ≤ 2 := by
 rcases h with ⟨e, _⟩ | ⟨e, _⟩ | ⟨e, _⟩ <;> omega
noncomputable def C_take (Φ : Phi) : Prop := ∀ (W : Wd) (fnd wnt : Addr) (s way : Int) (xs vs ws : List V) (k : Nat) (Hb H : AH) (Q : PV), Ext Hb H → Hb W.KP = none → Bk Hb W → H W.KP = some (.list xs) → Kept Hb xs → xs.length ≤ k → k ≤ 1000 →
 H fnd = some (.list vs) → H wnt = some (.list ws) → vs.length ≤ 1000 → Sh H s vs ws → Hb fnd = none → fnd ≠ W.KP → wnt ≠ W.KP → 0 ≤ way → way ≤ 3 → (∀ H', St2 H' W (k + 1) → Q (.bool true) H') → Φ .law_take [.ref W.bk, .ref fnd, .int s, .ref wnt, .int way] H Q
theorem c_take (n : Nat) : C_take (phi (n + 3)) := by
 intro W fnd wnt s way xs vs ws k Hb H Q X hKP hB hK hKept hxk hk hf hw hz hs hfb nfK nwK w0 w3 hQ
 refine phi_call (body := law_take_body) rfl rfl ?_; intro ρ0
 have CT : C_told (phi (n + 2)) := c_told n
 have CS : C_spoil (phi (n + 2)) := c_spoil (n + 1)
 generalize phi (n + 2) = Φ at CT CS ⊢
 obtain ⟨⟨g, s1, s2, s3, s4, s5, s6, s7⟩, _⟩ := id hB
 walk_at "s"
 refine CT _ _ _ _ _ _ hf hz hs fun a H1 x1 ha ha1 => ?_
 walk_at "s"
 refine c_neR (q_list (eq_lists ha1 (x1 _ _ hw) rfl hs.same) ?_)
 refine k_f rfl ?_
 walk_at "s"
 have hK1 := x1 _ _ hK
 refine k_ite (fun c => ?_) (fun c => ?_)
 ·walk_at "s"
  refine g_key (x1 _ _ (X _ _ s1)) s7.1 ?_
  refine k_lm hK1 ?_
  walk_at "s"
  refine ⟨sm rfl, ?_⟩
  walk_at "s"
  refine l_append hK1 (by unfold smallL; omega) ?_
  walk_at "s"
  have XB : Ext Hb (wo H1 [W.KP]) := (X.trans x1).wo (by simpa using hKP)
  refine hQ _ ⟨wo H1 [W.KP], _, fun b O e => ?_, wo_in (by simp), hB.ext XB, set_same, ?_, by simp; omega⟩
  ·have nb : b ≠ W.KP := fun z => (no_ns z.symm (wo_in (by simp)) e)
   rw [set_other nb]; exact wo_ext b O e
  ·intro x hx
   rw [List.mem_append] at hx
   rcases hx with hx | hx
   ·exact (hKept.ext XB) x hx
   ·simp at hx
    subst hx
    exact ⟨fnd, s, wnt, vs, ws, rfl, by rw [wo_out (by simpa using nfK)]; exact x1 _ _ hf, by rw [wo_out (by simpa using nwK)]; exact x1 _ _ hw, hz, (hs.ext x1).wo1 hK1⟩
 ·replace c := ci_eq_f.mp c
  walk_at "s"
  refine CS _ _ _ _ _ _ _ _ _ (x1 _ _ (X _ _ s1)) s6 (x1 _ _ hf) (by omega) hs.dom.1 hs.dom.2 w0 (by omega) fun H2 ws' e2 l2 _ => ?_
  walk_at "s"
  refine hQ _ ⟨Hb, xs, fun b O e => e2 _ _ (fun z => (no_ns z.symm hfb e)) (x1 _ _ (X _ _ e)), hKP, hB, e2 _ _ (Ne.symm nfK) hK1, hKept, by omega⟩
noncomputable def C_lapp (Φ : Phi) : Prop := ∀ (W : Wd) (level lo hi way : Int) (k : Nat) (H : AH) (Q : PV), Wok W → St2 H W k → k ≤ 1000 → 0 ≤ level → level < W.L.length → Pb lo → Pb hi → 0 ≤ way → way ≤ 3 → (∀ H', St2 H' W (k + 1) → Q (.bool true) H') → Φ .law_lapping [.ref W.bk, .int level, .int lo, .int hi, .int way] H Q
theorem c_lapp (n : Nat) : C_lapp (phi (n + 4)) := by
 intro W level lo hi way k H Q hW hS hk h0 h1 hlo hhi w0 w3 hQ
 refine phi_call (body := law_lapping_body) rfl rfl ?_; intro ρ0
 have CO : C_over (phi (n + 3)) := c_over (n + 1)
 have CU : C_luser (phi (n + 3)) := c_luser (n + 2)
 have CR : C_lrows (phi (n + 3)) := c_lrows n
 have CJ : C_ljoin (phi (n + 3)) := c_ljoin (n + 1)
 have CT : C_take (phi (n + 3)) := c_take n
 generalize phi (n + 3) = Φ at CO CU CR CJ CT ⊢
 obtain ⟨Hb, xs, X, hKP, hB, hK, hKept, hxk⟩ := hS
 obtain ⟨⟨g, s1, s2, s3, s4, s5, s6, s7⟩, htv, hop, hver, hpk, hst⟩ := id hB
 obtain ⟨fs, hfs⟩ : ∃ fs, W.L[level.toNat]? = some fs := ⟨_, List.getElem?_eq_getElem (by omega)⟩
 obtain ⟨hz, hok⟩ := hW.L.ok.each fs (List.mem_of_getElem? hfs)
 have hol := over_len (level := level) (a := fs) (lo := lo) (hi := hi)
 have hov : FsOk (overP level fs lo hi) := hok.sub over_sub
 walk_at "s"
 refine g_key (X _ _ s1) s4 ?_
 obtain ⟨gv, _, _, _, v1, _⟩ := id hver
 refine k_meth (v1.ext X) rfl ?_
 walk_at "s"
 refine CU _ _ _ hlo fun H1 x1 => ?_
 walk_at "s"
 refine CU _ _ _ hhi fun H2 x2 => ?_
 have X2 := (X.trans x1).trans x2
 walk_at "s"
 refine CO _ _ _ _ _ _ _ _ _ _ _ (hver.ext X2) hW.L.ok h0 hfs hlo hhi fun a vs H3 x3 ha ha1 ha2 => ?_
 have X3 := X2.trans x3
 have hK3 := x3 _ _ (x2 _ _ (x1 _ _ hK))
 walk_at "s"
 refine g_key (X3 _ _ s1) s2 ?_
 walk_at "s"
 refine CJ _ _ _ _ _ _ _ _ (htv.ext X3) hW.L.ok.few h0 hfs (by omega) fun b H4 x4 hb hb1 => ?_
 walk_at "s"
 refine CR _ _ _ _ hb1 (by omega) hov fun c H5 x5 hc hc1 => ?_
 walk_at "s"
 have naK : a ≠ W.KP := fun z => (no_ns z ha (x2 _ _ (x1 _ _ hK)))
 have ncK : c ≠ W.KP := fun z => (no_ns z hc (x4 _ _ hK3))
 exact CT W _ _ _ _ xs vs _ k Hb _ _ ((X3.trans x4).trans x5) hKP hB (x5 _ _ (x4 _ _ hK3)) hKept hxk hk (x5 _ _ (x4 _ _ ha1)) hc1 (by rw [ha2.len]; omega) (.inl ⟨rfl, _, (ha2.ext x4).ext x5, rfl⟩) (X2.none ha) naK ncK w0 w3 fun H' h' => by
  walk_at "s"
  exact hQ H' h'
section
variable {Φ : Phi} {ρ : Lo} {H : AH} {Q : PV} {elt src src2 : E} {x y : Nm} {l : Addr} {vs : List V} {v : V}
noncomputable def comp2K (Φ : Phi) (elt : E) (x y : Nm) (src2 : E) (ρ : Lo) (v : V) (H : AH) (Q : PV) : Prop := match v with
   | .ref l => match H l with
    | some (.list vs) => smallL vs ∧ compA (fun H' => H' l = some (.list vs))
      (fun v acc H K => evA Φ src2 (upd (del ρ y) x v) H fun u H => match u with
       | .ref l2 => match H l2 with
        | some (.list us) => smallL us ∧ compA (fun H' => H' l2 = some (.list us)) (fun u acc H K => evA Φ elt (upd (upd ρ x v) y u) H fun w H => smallL acc ∧ K (acc ++ [w]) H) us acc H K
        | _ => False
       | _ => False) vs [] H
      fun ws H => newA (.list ws) H Q
    | _ => False
   | _ => False
theorem v_comp2 (h : evA Φ src ρ H fun v H => comp2K Φ elt x y src2 ρ v H Q) : evA Φ (.comp2 elt x src y src2) ρ H Q := h
noncomputable def in2K (Φ : Phi) (elt : E) (x y : Nm) (ρ : Lo) (v u : V) (acc : List V) (H : AH) (K : List V → AH → Prop) : Prop := match u with
       | .ref l2 => match H l2 with
        | some (.list us) => smallL us ∧ compA (fun H' => H' l2 = some (.list us)) (fun u acc H K => evA Φ elt (upd (upd ρ x v) y u) H fun w H => smallL acc ∧ K (acc ++ [w]) H) us acc H K
        | _ => False
       | _ => False
theorem k_comp2 (hl : H l = some (.list vs)) (hs : smallL vs) (h : compA (fun H' => H' l = some (.list vs)) (fun v acc H K => evA Φ src2 (upd (del ρ y) x v) H fun u H => in2K Φ elt x y ρ v u acc H K) vs [] H fun ws H => newA (.list ws) H Q) : comp2K Φ elt x y src2 ρ (.ref l) H Q := by
 unfold comp2K; dsimp only; rw [hl]; exact ⟨hs, h⟩
theorem k_in2 {us acc : List V} {K : List V → AH → Prop} (hl : H l = some (.list us)) (hs : smallL us) (h : compA (fun H' => H' l = some (.list us)) (fun u acc H K => evA Φ elt (upd (upd ρ x v) y u) H fun w H => smallL acc ∧ K (acc ++ [w]) H) us acc H K) : in2K Φ elt x y ρ v (.ref l) acc H K := by
 unfold in2K; dsimp only; rw [hl]; exact ⟨hs, h⟩
end
inductive Tl (H : AH) : List V → List (List Fi) → Prop
 | nil : Tl H [] []
 | cons {l fs vs L} : H l = some (.list (fs.map row4)) → Tl H vs L → Tl H (.ref l :: vs) (fs :: L)
theorem tl_of {H : AH} : ∀ {as : List Addr} {L : List (List Fi)}, as.length = L.length → (∀ (i : Nat) a fs, as[i]? = some a → L[i]? = some fs → H a = some (.list (fs.map row4))) → Tl H (as.map .ref) L
 | [], [], _, _ => .nil
 | a :: as, fs :: L, h, k => .cons (k 0 a fs (by simp) (by simp)) (tl_of (by simpa using h) fun i b gs e1 e2 => k (i + 1) b gs (by simpa using e1) (by simpa using e2))
 | [], _ :: _, h, _ => by simp at h
 | _ :: _, [], h, _ => by simp at h
theorem TV.tl {H : AH} {LB : Addr} {L : List (List Fi)} (h : TV H LB L) : ∃ vs, H LB = some (.list vs) ∧ Tl H vs L ∧ vs.length = L.length := by
 obtain ⟨as, h1, h2⟩ := h
 have hl : as.length = L.length := by rw [h2.len]; simp
 refine ⟨_, h1, tl_of hl fun i a fs e1 e2 => h2.at_ i a _ e1 (by rw [List.getElem?_map, e2]; rfl), by simpa using hl⟩
theorem numsOf_len {L : List (List Fi)} : (numsOf L).length = L.flatten.length := by unfold numsOf; rw [List.length_map]
theorem numsOf_app {a b : List (List Fi)} : numsOf (a ++ b) = numsOf a ++ numsOf b := by simp [numsOf]
noncomputable def C_lnum (Φ : Phi) : Prop := ∀ (W : Wd) (way : Int) (k : Nat) (H : AH) (Q : PV), Wok W → St2 H W k → k ≤ 1000 → 0 ≤ way → way ≤ 3 → (∀ H', St2 H' W (k + 1) → Q (.bool true) H') → Φ .law_numbers [.ref W.bk, .int way] H Q
set_option tactic.hygienic true in
theorem c_lnum (n : Nat) : C_lnum (phi (n + 4)) := by
 intro W way k H Q hW hS hk w0 w3 hQ
 refine phi_call (body := law_numbers_body) rfl rfl ?_; intro ρ0
 have CN : C_numbers (phi (n + 3)) := c_numbers (n + 2)
 have CT : C_take (phi (n + 3)) := c_take n
 generalize phi (n + 3) = Φ at CN CT ⊢
 obtain ⟨Hb, xs, X, hKP, hB, hK, hKept, hxk⟩ := hS
 obtain ⟨⟨g, s1, s2, s3, s4, s5, s6, s7⟩, htv, hop, hver, hpk, hst⟩ := id hB
 obtain ⟨vs, t1, t2, t3⟩ := (htv.ext X).tl
 have htot := hW.L.tot
 have hn4 := hW.n4
 walk_at "s"
 refine v_comp2 ?_
 walk_at "s"
 refine g_key (X _ _ s1) s2 ?_
 refine k_comp2 t1 (by unfold smallL; omega) ?_
 let I1 : List V → List V → AH → Prop := fun us acc H' => H = H' ∧ Sx2 fun d t => A3 (W.L = d ++ t) (Tl H us t) (acc = (numsOf d).map .int)
 refine compA_inv I1 ?_ ?_ _ _ _ ⟨rfl, [], _, rfl, t2, rfl⟩
 ·rintro v rest acc H1 ⟨rfl, d, t, q1, q2, rfl⟩ R hR
  cases q2 with
  | cons hl htl =>
   rename_i l fs t'
   have hzl : (numsOf d).length + fs.length ≤ W.L.flatten.length := by rw [numsOf_len, q1, List.flatten_append, List.length_append, List.flatten_cons, List.length_append]; omega
   show evA _ _ _ _ _
   walk_at "s"
   refine k_in2 hl (by unfold smallL; simp; omega) ?_
   let I2 : List V → List V → AH → Prop := fun us acc H' => H = H' ∧ Sx2 fun d1 t1 => A3 (fs = d1 ++ t1) (us = t1.map row4) (acc = (numsOf d ++ d1.map (·.n)).map .int)
   refine compA_inv I2 ?_ ?_ _ _ _ ⟨rfl, [], fs, rfl, rfl, by simp⟩
   ·rintro u rest1 acc1 H1 ⟨rfl, d1, t1', p1, p2, rfl⟩ R1 hR1
    cases t1' with
    | nil => cases p2
    | cons f t1' =>
     cases p2
     have : d1.length ≤ fs.length := by rw [p1]; simp
     show evA _ _ _ _ _
     walk_at "s"
     refine i_tup (by decide) (by decide) rfl ?_
     exact ⟨by unfold smallL; simp; omega, hR1 _ _ hl ⟨rfl, d1 ++ [f], t1', by rw [p1]; simp, rfl, by simp⟩⟩
   ·rintro acc1 H1 ⟨rfl, d1, t1', p1, p2, rfl⟩
    have : t1' = [] := by cases t1' with | nil => rfl | cons _ _ => cases p2
    subst this
    rw [List.append_nil] at p1
    subst p1
    exact hR _ _ t1 ⟨rfl, d ++ [fs], t', by rw [q1]; simp, htl, by rw [numsOf_app]; simp [numsOf]⟩
 ·rintro acc H1 ⟨rfl, d, t, q1, q2, rfl⟩
  have : t = [] := by cases q2; rfl
  subst this
  rw [List.append_nil] at q1
  rw [← q1]
  refine n_new fun a H1 x1 ha ha1 => ?_
  walk_at "s"
  refine bi_sortedL ha1 (intsV_map _) (by rw [List.length_map, numsOf_len]; exact htot) fun ns' p1 p2 => n_new fun b H2 x2 hb hb1 => ?_
  have X2 := (X.trans x1).trans x2
  walk_at "s"
  refine g_key (X2 _ _ s1) s4 ?_
  obtain ⟨gv, _, _, _, v1, _⟩ := id hver
  refine k_meth (v1.ext X2) rfl ?_
  walk_at "s"
  refine CN _ _ _ _ _ _ _ (hver.ext X2) hW.L fun c ns H3 x3 hc hc1 p3 p4 => ?_
  have hns : ns' = ns := List.Perm.eq_of_pairwise (le := (· ≤ ·)) (fun a b _ _ h1 h2 => Int.le_antisymm h1 h2) p2 p4 (p1.trans p3.symm)
  subst hns
  have hnl : ns'.length ≤ 1000 := by
   have := p1.length_eq
   rw [numsOf_len] at this; omega
  have hK2 := x2 _ _ (x1 _ _ hK)
  have naK : c ≠ W.KP := fun z => (no_ns z hc hK2)
  have nbK : b ≠ W.KP := fun z => (no_ns z hb (x1 _ _ hK))
  walk_at "s"
  exact CT W _ _ _ _ xs _ _ k Hb _ _ (X2.trans x3) hKP hB (x3 _ _ hK2) hKept hxk hk hc1 (x3 _ _ hb1) (by simpa using hnl) (.inr (.inr ⟨rfl, ns', rfl, rfl⟩)) (X2.none hc) naK nbK w0 w3 fun H' h' => by
   walk_at "s"
   exact hQ H' h'
theorem loOf_le {fs : List Fi} {f : Fi} (h : f ∈ fs) : loOf fs ≤ f.lo := by
 cases fs with
 | nil => cases h
 | cons g r =>
  obtain ⟨p1, p2, p3⟩ := foldl_lo r g.lo
  show r.foldl _ g.lo ≤ _
  rcases List.mem_cons.mp h with rfl | h
  ·exact p1
  ·exact p2 f h
theorem hiOf_ge {fs : List Fi} {f : Fi} (h : f ∈ fs) : f.hi ≤ hiOf fs := by
 cases fs with
 | nil => cases h
 | cons g r =>
  obtain ⟨p1, p2, p3⟩ := foldl_hi r g.hi
  show _ ≤ r.foldl _ g.hi
  rcases List.mem_cons.mp h with rfl | h
  ·exact p1
  ·exact p2 f h
theorem loOf_mem {fs : List Fi} (h : fs ≠ []) : ∃ f ∈ fs, f.lo = loOf fs := by
 cases fs with
 | nil => exact absurd rfl h
 | cons g r =>
  obtain ⟨p1, p2, p3⟩ := foldl_lo r g.lo
  rcases p3 with e | ⟨f, hf, e⟩
  ·exact ⟨g, .head _, e.symm⟩
  ·exact ⟨f, .tail _ hf, e.symm⟩
theorem hiOf_mem {fs : List Fi} (h : fs ≠ []) : ∃ f ∈ fs, f.hi = hiOf fs := by
 cases fs with
 | nil => exact absurd rfl h
 | cons g r =>
  obtain ⟨p1, p2, p3⟩ := foldl_hi r g.hi
  rcases p3 with e | ⟨f, hf, e⟩
  ·exact ⟨g, .head _, e.symm⟩
  ·exact ⟨f, .tail _ hf, e.symm⟩
theorem filter_sub {p q : Fi → Bool} {l : List Fi} (h : ∀ f ∈ l, p f = true → q f = true) : (l.filter p).Sublist (l.filter q) := by
 have : l.filter p = (l.filter q).filter p := by
  rw [List.filter_filter]
  refine List.filter_congr fun f hf => ?_
  cases hp : p f with
  | false => rfl
  | true => rw [h f hf hp]; rfl
 rw [this]; exact List.filter_sublist
theorem over_filter {level : Int} {fs : List Fi} (hok : FsOk fs) (lo hi : Int) : ∃ lo' hi', overP level fs lo hi = touchP fs lo' hi' ∧ Bin lo hi lo' hi' := by
 unfold overP joinedP
 split
 ·exact ⟨_, _, rfl, joinN_in hok _ _ _⟩
 ·exact ⟨lo, hi, rfl, .refl _ _⟩
theorem over_sublist {level : Int} {fs : List Fi} {lo hi : Int} : (overP level fs lo hi).Sublist fs := by
 unfold overP joinedP touchP; split <;> exact List.filter_sublist
theorem up_sub {level : Int} {fs up low : List Fi} (hok : FsOk fs) (hs : up.Sublist fs) : up.Sublist (overP level fs (loOf (up ++ low)) (hiOf (up ++ low))) := by
 obtain ⟨lo', hi', e, hb⟩ := over_filter (level := level) hok (loOf (up ++ low)) (hiOf (up ++ low))
 rw [e]
 have : up.filter (tch lo' hi') = up := by
  rw [List.filter_eq_self]
  intro f hf
  refine hb.tch (tch_iff.mpr ⟨.inr ?_, .inr ?_⟩)
  ·have h1 := loOf_le (List.mem_append_left low hf)
   have := (hok f (hs.subset hf)).2.1
   omega
  ·have h1 := hiOf_ge (List.mem_append_left low hf)
   have := (hok f (hs.subset hf)).2.1
   omega
 rw [← this]
 exact hs.filter _
theorem low_sub {fs up grown : List Fi} (hg : FsOk grown) (ne : up ≠ []) (hs : up.Sublist grown) : (touchP fs (loOf up) (hiOf up)).Sublist (touchP fs (loOf grown) (hiOf grown)) := by
 refine filter_sub fun f hf ht => ?_
 have nu : FsOk up := hg.sub fun g h => hs.subset h
 obtain ⟨⟨u0, u1⟩, u2, u3⟩ := span_pl nu ne
 obtain ⟨a, ha, ea⟩ := loOf_mem ne
 obtain ⟨b, hb, eb⟩ := hiOf_mem ne
 have l1 := loOf_le (hs.subset ha)
 have l2 := hiOf_ge (hs.subset hb)
 rw [tch_iff] at ht ⊢
 exact ⟨.inr (by omega), .inr (by omega)⟩
theorem isPk_ex (o : Op) (L : List (List Fi)) (level : Int) (up : List Fi) : ∃ p, IsPk o L level up p := by
 by_cases h : growOk o L level up
 ·exact ⟨⟨grownP L level up, touchP (lvl L (level + 1)) (loOf (grownP L level up)) (hiOf (grownP L level up)), grandP o L level (grownP L level up ++ touchP (lvl L (level + 1)) (loOf (grownP L level up)) (hiOf (grownP L level up)))⟩, .inl ⟨h, rfl, rfl⟩, rfl⟩
 ·exact ⟨⟨up, touchP (lvl L (level + 1)) (loOf up) (hiOf up), grandP o L level (up ++ touchP (lvl L (level + 1)) (loOf up) (hiOf up))⟩, .inr ⟨h, rfl, rfl⟩, rfl⟩
theorem isPk_un {o : Op} {L : List (List Fi)} {level : Int} {up : List Fi} {p q : Pk} (hp : IsPk o L level up p) (hq : IsPk o L level up q) : p = q := by
 obtain ⟨a1, b1⟩ := hp
 obtain ⟨a2, b2⟩ := hq
 obtain ⟨pu, pl, pg⟩ := p
 obtain ⟨qu, ql, qg⟩ := q
 dsimp only at a1 a2 b1 b2
 rcases a1 with ⟨h1, rfl, e1⟩ | ⟨h1, rfl, e1⟩ <;> rcases a2 with ⟨h2, rfl, e2⟩ | ⟨h2, e3, e2⟩
 ·subst e1; subst e2; rw [b1, b2]
 ·exact absurd h1 h2
 ·exact absurd h2 h1
 ·subst e3; subst e1; subst e2; rw [b1, b2]
noncomputable def moreOk (o : Op) (L : List (List Fi)) (level : Int) (up : List Fi) : Prop := touchP (lvl L (level + 1)) (loOf up) (hiOf up) ≠ [] ∧ sumS (grownP L level up ++ touchP (lvl L (level + 1)) (loOf up) (hiOf up)) < o.ef * o.mfs ∧
 touchP (lvl L (level + 1)) (loOf (grownP L level up)) (hiOf (grownP L level up)) = touchP (lvl L (level + 1)) (loOf up) (hiOf up)
theorem plan_cases {o : Op} {L : List (List Fi)} {level : Int} {up : List Fi} {p : Pk} (hIs : IsPk o L level up p) (hok : FsOk (lvl L level)) (hs : up.Sublist (lvl L level)) (ne : up ≠ []) :
  (moreOk o L level up → p.up = grownP L level up ∧ p.low = touchP (lvl L (level + 1)) (loOf up) (hiOf up)) ∧ (¬ moreOk o L level up → p.up = up ∧ p.low = touchP (lvl L (level + 1)) (loOf up) (hiOf up)) := by
 have s1 : up.Sublist (grownP L level up) := up_sub hok hs
 have hg : FsOk (grownP L level up) := hok.over
 have s2 : (touchP (lvl L (level + 1)) (loOf up) (hiOf up)).Sublist (touchP (lvl L (level + 1)) (loOf (grownP L level up)) (hiOf (grownP L level up))) := low_sub hg ne s1
 refine ⟨fun hm => ?_, fun hm => ?_⟩
 ·obtain ⟨m1, m2, m3⟩ := hm
  rw [sumS_app] at m2
  rcases hIs.1 with ⟨g1, g2, g3⟩ | ⟨g1, g2, g3⟩
  ·refine ⟨g2, ?_⟩
   rw [g3, g2]; exact m3
  ·refine ⟨?_, g3⟩
   rw [g2]
   refine s1.eq_of_length ?_
   have := s1.length_le
   by_cases z : up.length < (grownP L level up).length
   ·exact absurd ⟨List.length_pos_iff.mpr m1, z, by omega, by rw [m3]⟩ g1
   ·omega
 ·rcases hIs.1 with ⟨g1, g2, g3⟩ | ⟨g1, g2, g3⟩
  ·obtain ⟨q1, q2, q3, q4⟩ := g1
   refine absurd ⟨List.length_pos_iff.mp q1, by rw [sumS_app]; omega, (s2.eq_of_length q4.symm).symm⟩ hm
  ·exact ⟨g2, g3⟩
theorem cut_nil {m : Int} (hm : 1 ≤ m) {l : List Fi} : cutF m 0 l = [] ↔ l = [] := by
 cases l with
 | nil => simp [cutF]
 | cons f r => simp [cutF_cons]; omega
theorem hand_nil {o : Op} {L : List (List Fi)} {level lo hi : Int} (hm : 1 ≤ o.mfs) : handP o L level lo hi = [] ↔ overP level (lvl L level) lo hi = [] := by
 unfold handP; split
 ·exact cut_nil hm
 ·exact Iff.rfl
theorem hand_sub {o : Op} {L : List (List Fi)} {level lo hi : Int} : (handP o L level lo hi).Sublist (lvl L level) := by
 unfold handP; split
 ·obtain ⟨n, _, e⟩ := cut_take (m := o.mfs) (overP level (lvl L level) lo hi) 0
  rw [e]
  exact (List.take_sublist _ _).trans over_sublist
 ·exact over_sublist
set_option tactic.hygienic true in
theorem first_sub {L : List (List Fi)} {lev : Int} : (firstP L lev).Sublist (lvl L lev) := by
 unfold firstP
 split
 ·rename_i e; exact List.nil_sublist _
 ·rename_i f r e
  split
  ·rename_i z; subst z; exact over_sublist
  ·rw [e]; simp
set_option tactic.hygienic true in
theorem first_ne {L : List (List Fi)} {lev : Int} (hok : FsOk (lvl L lev)) (h : lvl L lev ≠ []) : firstP L lev ≠ [] := by
 unfold firstP
 split
 ·rename_i e; exact absurd e h
 ·rename_i f r e
  split
  ·rename_i z
   subst z
   have hf : f ∈ lvl L 0 := by rw [e]; exact .head _
   have ok := hok f hf
   have : f ∈ overP 0 (lvl L 0) f.lo f.hi := by
    unfold overP; rw [if_pos rfl]
    exact joined_mem hok hf (tch_iff.mpr ⟨.inr ok.2.1, .inr ok.2.1⟩)
   exact List.ne_nil_of_mem this
  ·simp
theorem row4_eq {H : AH} {n : Nat} (f g : Fi) : ∃ r, eqF H (n + 2) (row4 f) (row4 g) = some r ∧ (r = true ↔ f = g) := by
 obtain ⟨a, b, c, d⟩ := f
 obtain ⟨a', b', c', d'⟩ := g
 refine ⟨_, eqF_tup.trans <| eqFs_step rfl (eqFs_step rfl (eqFs_step rfl (eqFs_step rfl eqFs_nil))), ?_⟩
 simp
 exact ⟨fun ⟨h1, h2, h3, h4⟩ => by rw [h1, h2, h3, h4], fun h => by injection h with h1 h2 h3 h4; exact ⟨h1, h2, h3, h4⟩⟩
theorem rows_eq {H : AH} : ∀ (fs gs : List Fi), ∃ r, eqFs (eqF H 3) (fs.map row4) (gs.map row4) = some r ∧ (r = true ↔ fs = gs)
 | [], [] => ⟨true, rfl, by simp⟩
 | [], _ :: _ => ⟨false, rfl, by simp⟩
 | _ :: _, [] => ⟨false, rfl, by simp⟩
 | f :: fs, g :: gs =>
  let ⟨r1, e1, q1⟩ := row4_eq (H := H) (n := 1) f g
  let ⟨r2, e2, q2⟩ := rows_eq fs gs
  ⟨r1 && r2, eqFs_step e1 e2, by rw [Bool.and_eq_true, q1, q2, List.cons.injEq]⟩
theorem eq_rows {H : AH} {a b : Addr} {fs gs : List Fi} (ha : H a = some (.list (fs.map row4))) (hb : H b = some (.list (gs.map row4))) : ∃ r, eqF H 4 (.ref a) (.ref b) = some r ∧ (r = true ↔ fs = gs) := by
 by_cases h : (fs.map row4).length = (gs.map row4).length
 ·obtain ⟨r, e, q⟩ := rows_eq (H := H) fs gs
  exact ⟨r, eq_lists ha hb h e, q⟩
 ·refine ⟨false, ?_, ?_⟩
  ·show (match H a, H b with
    | some (.list vs), some (.list ws) => if vs.length = ws.length then eqFs (eqF H 3) vs ws else some false
    | _, _ => none) = _
   rw [ha, hb]
   exact if_neg h
  ·simp
   rintro rfl
   exact h rfl
noncomputable def upOf (W : Wd) (level lo hi : Int) (man : Bool) : List Fi := if man = true then handP W.o W.L level lo hi else if W.B ≤ W.T then firstP W.L level else []
noncomputable def stepF (level m : Int) (cur todo : List Fi) : List Fi := if 0 < level then cutF m (sumS cur) todo else todo
theorem cut_over {m t : Int} (h : m ≤ t) (l : List Fi) : cutF m t l = [] := by
 cases l with
 | nil => rfl
 | cons f r => rw [cutF_cons, if_neg (by omega)]
noncomputable def C_lplan (Φ : Phi) : Prop := ∀ (W : Wd) (level lo hi : Int) (man : Bool) (H : AH) (Q : PV), Wok W → Bk H W → (man = true → 0 ≤ level ∧ level + 1 < W.L.length) → (man = false → level = W.lev) →
 (upOf W level lo hi man = [] → ∀ H', Ext H H' → Q .none H') →
 (upOf W level lo hi man ≠ [] → ∀ p u l g H', IsPk W.o W.L level (upOf W level lo hi man) p → 0 ≤ level → level + 1 < W.L.length → Ext H H' → H u = none → H l = none → H g = none → H' u = some (.list ((Pk.up p).map row4)) → H' l = some (.list ((Pk.low p).map row4)) → H' g = some (.list ((Pk.gr p).map row4)) → Q (.tup [.int level, .bool man, .ref u, .ref l, .ref g]) H') →
 Φ .law_plan [.ref W.bk, .int level, .int lo, .int hi, .bool man] H Q
theorem TV.at {H : AH} {LB : Addr} {L : List (List Fi)} (h : TV H LB L) {i : Int} (h0 : 0 ≤ i) (h1 : i < L.length) (h2 : L.length ≤ 100) {Q : PV} (hQ : ∀ l, H l = some (.list ((lvl L i).map row4)) → Q (.ref l) H) : idxA (.ref LB) (.int i) H Q := by
 obtain ⟨as, t1, t2⟩ := h
 obtain ⟨l, l1, l2⟩ := t2.get (j := i.toNat) (x := (lvl L i).map row4) (by rw [List.getElem?_map, lvl_get h0 h1]; rfl)
 exact i_list t1 h0 (by omega) (ref_get l1) (hQ l l2)
theorem c_lplan (n : Nat) : C_lplan (phi (n + 3)) := by
 intro W level lo hi man H Q hW hB hm hau hN hQ
 refine phi_call (body := law_plan_body) rfl rfl ?_; intro ρ0
 have CO : C_loct (phi (n + 2)) := c_loct (n + 1)
 have CT : C_ltouch (phi (n + 2)) := c_ltouch (n + 1)
 have CS : C_lspan (phi (n + 2)) := c_lspan (n + 1)
 have CJ : C_ljoin (phi (n + 2)) := c_ljoin n
 generalize phi (n + 2) = Φ at CO CT CS CJ ⊢
 obtain ⟨⟨g, s1, s2, s3, s4, s5, s6, s7⟩, htv, hop, hver, hpk, hst⟩ := id hB
 have hfew := hW.L.ok.few
 have n3 := hW.n3
 have n4 := hW.n4
 have lz : ∀ i : Int, (lvl W.L i).length ≤ 100 ∧ FsOk (lvl W.L i) := fun i => by
  unfold lvl
  cases q : W.L[i.toNat]? with
  | none => exact ⟨by simp, fun f hf => by simp at hf⟩
  | some fs => exact hW.L.ok.each fs (List.mem_of_getElem? q)
 obtain ⟨go, o1, o2, o3, o4, o5, o6, o7, o8⟩ := id hop
 have hbm := hW.ob.mfs
 have hbe := hW.ob.ef
 have hnl := hW.ob.nl
 obtain ⟨up, hup⟩ : ∃ up, up = upOf W level lo hi man := ⟨_, rfl⟩
 rw [← hup] at hN hQ
 have hsub : up.Sublist (lvl W.L level) := by
  rw [hup]; unfold upOf
  split
  ·exact hand_sub
  ·split
   ·exact first_sub
   ·exact List.nil_sublist _
 have hupz : up.length ≤ 100 := Nat.le_trans hsub.length_le (lz level).1
 walk_at "s"
 refine g_key s1 s2 ?_
 walk_at "s"
 refine g_key s1 s3 ?_
 walk_at "s"
 refine ⟨sm rfl, n_new fun u0 H1 x1 hu0 hu1 => ?_⟩
 walk_at "s"
 refine k_iteJ (fun ρ' H' => Ext H H' ∧ (∃ u, ρ' .upper = some (.ref u) ∧ H' u = some (.list (up.map row4)) ∧ H u = none) ∧ (up ≠ [] → 0 ≤ level ∧ level + 1 < W.L.length) ∧ ρ' .levels = some (.ref W.LB) ∧ ρ' .level = some (.int level) ∧ ρ' .options = some (.ref W.op) ∧ ρ' .manual = some (.bool man)) (fun c R hR => ?_) (fun c R hR => ?_) ?_
 ·subst c
  obtain ⟨l0, l1⟩ := hm rfl
  have hup' : up = handP W.o W.L level lo hi := hup
  walk_at "s"
  refine CJ _ _ _ _ _ _ _ _ (htv.ext x1) hfew l0 (lvl_get l0 (by omega)) (by have := (lz level).1; omega) fun a H2 x2 ha ha1 => ?_
  have nau : a ≠ u0 := fun z => (no_ns z ha hu1)
  have hoz := over_len (level := level) (a := lvl W.L level) (lo := lo) (hi := hi)
  have hlz := (lz level).1
  refine f_list ha1 (by unfold smallL; simp; omega) ?_
  let I1 : List V → Lo → AH → Prop := fun vs ρ H3 => Ext H H3 ∧ Sx3 fun done cur todo => A11 (overP level (lvl W.L level) lo hi = done ++ todo) (vs = todo.map row4) (H3 u0 = some (.list (cur.map row4))) (cur.length ≤ done.length) (up = cur ++ stepF level W.o.mfs cur todo) (H3 a = some (.list ((overP level (lvl W.L level) lo hi).map row4))) (ρ .upper = some (.ref u0)) (ρ .levels = some (.ref W.LB)) (ρ .level = some (.int level)) (ρ .options = some (.ref W.op)) (ρ .manual = some (.bool true))
  refine forA_inv I1 ?_ ?_ _ _ _ ⟨x1.trans x2, [], [], _, rfl, rfl, x2 _ _ hu1, by simp, ?_, ha1, rfl, rfl, rfl, rfl, rfl⟩
  ·rintro v rest ρ H3 ⟨X, done, cur, todo, q1, q2, q3, q4, q5, q6, r1, r2, r3, r4, r5⟩ R' Rn' - - -
   cases todo with
   | nil => cases q2
   | cons f todo =>
    cases q2
    have hdl : done.length ≤ (overP level (lvl W.L level) lo hi).length := by rw [q1]; simp
    have app : ∀ {H4 : AH}, Ext H3 H4 → (0 < level → sumS cur < W.o.mfs) → ∀ {ρ' : Lo}, ρ' .upper = some (.ref u0) → ρ' .f = some (row4 f) → ρ' .levels = some (.ref W.LB) → ρ' .level = some (.int level) → ρ' .options = some (.ref W.op) → ρ' .manual = some (.bool true) →
      exSs Φ (.cons (.ex (.lm (.var .upper) .append (.cons (.var .f) .nil))) .nil) ρ' H4 (seqK Φ .nil R') := by
     intro H4 x4 hlt ρ' p1 p2 p3 p4 p5 p6
     walk_at "s"
     refine k_lm (x4 _ _ q3) ?_
     walk_at "s"
     refine l_append (x4 _ _ q3) (by unfold smallL; simp; omega) ?_
     walk_at "s"
     refine Rn' _ _ ?_ ⟨Ext.set (X.trans x4) hu0, done ++ [f], cur ++ [f], todo, by rw [q1]; simp, rfl, by rw [set_same]; simp, by simp; omega, ?_, ?_, p1, p3, p4, p5, p6⟩
     ·rw [set_other nau]; exact x4 _ _ q6
     ·rw [q5]
      unfold stepF
      by_cases z : 0 < level
      ·rw [if_pos z, if_pos z, cutF_cons, if_pos (hlt z), sumS_app, show sumS [f] = f.s from by simp [sumS]]; simp
      ·rw [if_neg z, if_neg z]; simp
     ·rw [set_other nau]; exact x4 _ _ q6
    show exSs Φ _ _ _ _
    walk_at "s"
    refine k_or (fun c => ?_) (fun c => ?_)
    ·replace c := ci_eq_f.mp c
     walk_at "s"
     refine CO _ _ _ _ q3 (by omega) fun H4 x4 => ?_
     walk_at "s"
     refine g_attr (o1.ext (X.trans x4)) o3 ?_
     walk_at "s"
     refine k_ite (fun c2 => ?_) (fun c2 => ?_)
     ·replace c2 := ci_lt_t.mp c2
      exact app x4 (fun _ => c2) (by exact r1) rfl (by exact r2) (by exact r3) (by exact r4) (by exact r5)
     ·replace c2 := ci_lt_f.mp c2
      walk_at "s"
      refine Rn' _ _ (x4 _ _ q6) ⟨X.trans x4, done ++ [f], cur, todo, by rw [q1]; simp, rfl, x4 _ _ q3, by simp; omega, ?_, x4 _ _ q6, by exact r1, by exact r2, by exact r3, by exact r4, by exact r5⟩
      rw [q5]
      unfold stepF
      have z : 0 < level := by omega
      rw [if_pos z, if_pos z, cut_over c2, cut_over c2]
    ·replace c := ci_eq_t.mp c
     refine k_t rfl ?_
     exact app (.refl _) (fun z => by omega) (by exact r1) rfl (by exact r2) (by exact r3) (by exact r4) (by exact r5)
  ·rintro ρ H3 ⟨X, done, cur, todo, q1, q2, q3, q4, q5, q6, r1, r2, r3, r4, r5⟩
   have : todo = [] := by cases todo with | nil => rfl | cons _ _ => cases q2
   subst this
   have e : up = cur := by
    rw [q5]; unfold stepF; split <;> simp [cutF]
   refine K_nx (x_nil (hR _ _ ⟨X, ⟨u0, r1, by rw [q3, e], hu0⟩, fun _ => ⟨l0, l1⟩, r2, r3, r4, r5⟩))
  ·rw [hup']
   unfold stepF handP
   by_cases z : 0 < level
   ·rw [if_pos z, if_pos z]; rfl
   ·rw [if_neg z, if_neg z]; rfl
 ·subst c
  have hl := hau rfl
  walk_at "s"
  refine g_key (x1 _ _ s1) s4 ?_
  refine ver_score (hver.ext x1) ?_
  walk_at "s"
  refine i_tup (by decide) (by decide) rfl ?_
  walk_at "s"
  refine g_key (x1 _ _ s1) s4 ?_
  refine ver_score (hver.ext x1) ?_
  walk_at "s"
  refine i_tup (by decide) (by decide) rfl ?_
  refine c_int (k_ite (fun c => ?_) (fun c => ?_))
  ·replace c := ci_ge_t.mp c
   have hup' : up = firstP W.L level := by rw [hup]; unfold upOf; rw [if_neg (by simp), if_pos c]
   obtain ⟨d0, d1, d2⟩ := hW.dr c
   rw [← hl] at d0 d1 d2
   have hlz := (lz level).1
   walk_at "s"
   refine (htv.ext x1).at d0 (by omega) hfew fun la hla => ?_
   walk_at "s"
   refine u_list hla (by decide) (by decide) (by unfold smallL; simp; omega) (n_new fun u1 H2 x2 hu2 hu3 => ?_)
   cases hlv : lvl W.L level with
   | nil => exact absurd hlv d2
   | cons f r =>
    rw [hlv] at hu3
    walk_at "s"
    refine k_ite (fun c2 => ?_) (fun c2 => ?_)
    ·replace c2 := ci_eq_t.mp c2
     subst c2
     walk_at "s"
     refine i_list hu3 (by decide) (by decide) rfl ?_
     walk_at "s"
     refine i_tup (by decide) (by decide) rfl ?_
     walk_at "s"
     refine i_list hu3 (by decide) (by decide) rfl ?_
     walk_at "s"
     refine i_tup (by decide) (by decide) rfl ?_
     walk_at "s"
     refine CJ _ _ _ _ _ _ _ _ ((htv.ext x1).ext x2) hfew (by decide) (lvl_get (i := 0) (by omega) (by omega)) (by omega) fun a H3 x3 ha ha1 => ?_
     walk_at "s"
     refine hR _ _ ⟨(x1.trans x2).trans x3, ⟨a, rfl, ?_, (x1.trans x2).none ha⟩, fun _ => ⟨d0, d1⟩, rfl, rfl, rfl, rfl⟩
     rw [ha1, hup']
     unfold firstP
     rw [hlv]
     rfl
    ·replace c2 := ci_eq_f.mp c2
     walk_at "s"
     refine hR _ _ ⟨x1.trans x2, ⟨u1, rfl, ?_, x1.none hu2⟩, fun _ => ⟨d0, d1⟩, rfl, rfl, rfl, rfl⟩
     rw [hu3, hup']
     unfold firstP
     rw [hlv]
     simp only [if_neg c2]
     rfl
  ·replace c := ci_ge_f.mp c
   have hup' : up = [] := by rw [hup]; unfold upOf; rw [if_neg (by simp), if_neg (by omega)]
   walk_at "s"
   exact hR _ _ ⟨x1, ⟨u0, rfl, by rw [hu1, hup']; rfl, hu0⟩, fun z => absurd hup' z, rfl, rfl, rfl, rfl⟩
 ·rintro ρ1 H2 ⟨X2, ⟨u, r1, hu1, hu2⟩, hlv, r2, r3, r4, r5⟩
  walk_at "s"
  refine bi_lenL hu1 (by unfold smallL; simp; omega) ?_
  walk_at "s"
  refine k_ite (fun c => ?_) (fun c => ?_)
  ·replace c := ci_eq_t.mp c
   have : up = [] := by
    rw [List.length_map] at c
    exact List.eq_nil_of_length_eq_zero (by omega)
   walk_at "s"
   exact hN this _ X2
  ·replace c := ci_eq_f.mp c
   have une : up ≠ [] := fun z => by rw [z] at c; exact c rfl
   obtain ⟨l0, l1⟩ := hlv une
   obtain ⟨p, hp⟩ := isPk_ex W.o W.L level up
   obtain ⟨pc1, pc2⟩ := plan_cases hp (lz level).2 hsub une
   have hgr := hp.2
   have zz1 := (lz (level + 1)).1
   have zzl := (lz level).1
   walk_at "s"
   refine CS _ _ _ _ hu1 (by omega) une fun H3 x3 => ?_
   refine k_asgT rfl ?_
   have X3 := X2.trans x3
   walk_at "s"
   refine (htv.ext X3).at (by omega) (by omega) hfew fun la hla => ?_
   walk_at "s"
   refine CT _ _ _ _ _ _ hla (by omega) fun lw H4 x4 hlw0 hlw => ?_
   have X4 := X3.trans x4
   have hu4 := x4 _ _ (x3 _ _ hu1)
   obtain ⟨low0, hlow0⟩ : ∃ l, l = touchP (lvl W.L (level + 1)) (loOf up) (hiOf up) := ⟨_, rfl⟩
   rw [← hlow0] at hlw pc1 pc2
   have zlow : low0.length ≤ 100 := by rw [hlow0]; exact Nat.le_trans touch_len zz1
   have moreE : moreOk W.o W.L level up ↔ (low0 ≠ [] ∧ sumS (grownP W.L level up ++ low0) < W.o.ef * W.o.mfs ∧ touchP (lvl W.L (level + 1)) (loOf (grownP W.L level up)) (hiOf (grownP W.L level up)) = low0) := by rw [hlow0]; exact Iff.rfl
   walk_at "s"
   refine bi_lenL hlw (by unfold smallL; simp; omega) ?_
   walk_at "s"
   refine k_iteJ (fun ρ' H' => Ext H H' ∧ (∃ u, ρ' .upper = some (.ref u) ∧ H' u = some (.list (p.up.map row4)) ∧ H u = none) ∧ (∃ l, ρ' .lower = some (.ref l) ∧ H' l = some (.list (p.low.map row4)) ∧ H l = none) ∧ ρ' .low = some (.int (loOf (p.up ++ p.low))) ∧ ρ' .high = some (.int (hiOf (p.up ++ p.low))) ∧
    ρ' .levels = some (.ref W.LB) ∧ ρ' .level = some (.int level) ∧ ρ' .manual = some (.bool man)) (fun c R hR => ?_) (fun c R hR => ?_) ?_
   ·replace c := ci_gt_t.mp c
    rw [List.length_map] at c
    have lne : low0 ≠ [] := fun z => by rw [z] at c; simp at c
    have hgz : (grownP W.L level up).length ≤ 100 := Nat.le_trans over_len zzl
    have gs : up.Sublist (grownP W.L level up) := up_sub (lz level).2 hsub
    have gne : grownP W.L level up ≠ [] := fun z => by rw [z] at gs; exact une (List.sublist_nil.mp gs)
    have egr : overP level (lvl W.L level) (loOf (up ++ low0)) (hiOf (up ++ low0)) = grownP W.L level up := by rw [hlow0]; rfl
    walk_at "s"
    refine o_addL hu4 hlw (by unfold smallL; simp; omega) (by unfold smallL; simp; omega) (n_new fun ul H5 x5 hul hul1 => ?_)
    rw [← List.map_append] at hul1
    walk_at "s"
    refine CS _ _ _ _ hul1 (by simp; omega) (by simp [une]) fun H6 x6 => ?_
    refine k_asgT rfl ?_
    have X6 := (X4.trans x5).trans x6
    walk_at "s"
    refine CJ _ _ _ _ _ _ _ _ (htv.ext X6) hfew l0 (lvl_get l0 (by omega)) (by omega) fun mo H7 x7 hmo hmo1 => ?_
    rw [egr] at hmo1
    have X7 := X6.trans x7
    walk_at "s"
    refine CS _ _ _ _ hmo1 (by omega) gne fun H8 x8 => ?_
    refine k_asgT rfl ?_
    have X8 := X7.trans x8
    have x48 : Ext H4 H8 := ((x5.trans x6).trans x7).trans x8
    walk_at "s"
    refine o_addL (x8 _ _ hmo1) (x48 _ _ hlw) (by unfold smallL; simp; omega) (by unfold smallL; simp; omega) (n_new fun ml H9 x9 hml hml1 => ?_)
    rw [← List.map_append] at hml1
    walk_at "s"
    refine CO _ _ _ _ hml1 (by simp; omega) fun H10 x10 => ?_
    have X10 := (X8.trans x9).trans x10
    walk_at "s"
    refine g_attr (o1.ext X10) o4 ?_
    walk_at "s"
    refine g_attr (o1.ext X10) o3 ?_
    refine o_mul (by omega) (by omega) ?_
    walk_at "s"
    have x810 : Ext H8 H10 := x9.trans x10
    have no : ∀ {H' : AH}, Ext H10 H' → ¬ moreOk W.o W.L level up → ∀ {ρ' : Lo}, ρ' .upper = some (.ref u) → ρ' .lower = some (.ref lw) → ρ' .low = some (.int (loOf (up ++ low0))) → ρ' .high = some (.int (hiOf (up ++ low0))) → ρ' .levels = some (.ref W.LB) → ρ' .level = some (.int level) → ρ' .manual = some (.bool man) → R .nx ρ' H' := by
     intro H' x nm ρ' p1 p2 p3 p4 p5 p6 p7
     obtain ⟨e1, e2⟩ := pc2 nm
     refine hR _ _ ⟨X10.trans x, ⟨u, p1, ?_, hu2⟩, ⟨lw, p2, ?_, X3.none hlw0⟩, ?_, ?_, p5, p6, p7⟩
     ·rw [e1]; exact x _ _ (x810 _ _ (x48 _ _ hu4))
     ·rw [e2]; exact x _ _ (x810 _ _ (x48 _ _ hlw))
     ·rw [e1, e2]; exact p3
     ·rw [e1, e2]; exact p4
    refine k_and (fun c2 => ?_) (fun c2 => ?_)
    ·replace c2 := ci_lt_t.mp c2
     walk_at "s"
     refine (htv.ext X10).at (by omega) (by omega) hfew fun lb hlb => ?_
     walk_at "s"
     refine CT _ _ _ _ _ _ hlb (by omega) fun ab H11 x11 hab hab1 => ?_
     walk_at "s"
     obtain ⟨r, er, qr⟩ := eq_rows hab1 (x11 _ _ (x810 _ _ (x48 _ _ hlw)))
     refine c_eqR (q_list er ?_)
     refine k_ite (fun c3 => ?_) (fun c3 => ?_)
     ·have c4 : r = true := by simpa using c3
      obtain ⟨e1, e2⟩ := pc1 (moreE.mpr ⟨lne, c2, qr.mp c4⟩)
      have hmo11 := x11 _ _ (x810 _ _ (x8 _ _ hmo1))
      have hlw11 := x11 _ _ (x810 _ _ (x48 _ _ hlw))
      walk_at "s"
      refine o_addL hmo11 hlw11 (by unfold smallL; simp; omega) (by unfold smallL; simp; omega) (n_new fun ul2 H12 x12 hul2 hul3 => ?_)
      rw [← List.map_append] at hul3
      walk_at "s"
      refine CS _ _ _ _ hul3 (by simp; omega) (by simp [gne]) fun H13 x13 => ?_
      refine k_asgT rfl ?_
      walk_at "s"
      refine hR _ _ ⟨((X10.trans x11).trans x12).trans x13, ⟨mo, rfl, ?_, X6.none hmo⟩, ⟨lw, by exact rfl, ?_, X3.none hlw0⟩, ?_, ?_, by exact r2, by exact r3, by exact r5⟩
      ·rw [e1]; exact x13 _ _ (x12 _ _ hmo11)
      ·rw [e2]; exact x13 _ _ (x12 _ _ hlw11)
      ·rw [e1, e2]; rfl
      ·rw [e1, e2]; rfl
     ·have c4 : r = false := by simpa using c3
      walk_at "s"
      exact no x11 (fun z => by have := qr.mpr (moreE.mp z).2.2; rw [c4] at this; cases this) (by exact r1) rfl rfl rfl (by exact r2) (by exact r3) (by exact r5)
    ·replace c2 := ci_lt_f.mp c2
     refine k_f rfl ?_
     walk_at "s"
     exact no (.refl _) (fun z => by have := (moreE.mp z).2.1; omega) (by exact r1) rfl rfl rfl (by exact r2) (by exact r3) (by exact r5)
   ·replace c := ci_gt_f.mp c
    rw [List.length_map] at c
    have le : low0 = [] := List.eq_nil_of_length_eq_zero (by omega)
    obtain ⟨e1, e2⟩ := pc2 fun z => (moreE.mp z).1 le
    refine x_nil (hR _ _ ⟨X4, ⟨u, by exact r1, by rw [e1]; exact hu4, hu2⟩, ⟨lw, rfl, by rw [e2]; exact hlw, X3.none hlw0⟩, ?_, ?_, by exact r2, by exact r3, by exact r5⟩)
    ·rw [e1, e2, le, List.append_nil]; rfl
    ·rw [e1, e2, le, List.append_nil]; rfl
   ·rintro ρ2 H5 ⟨X5, ⟨u', r1, hu', hu0'⟩, ⟨l', r2', hl', hl0'⟩, r3', r4', r5', r6', r7'⟩
    obtain ⟨vs, t1, t2, t3⟩ := (htv.ext X5).tl
    walk_at "s"
    refine ⟨sm rfl, n_new fun g0 H6 x6 hg0 hg1 => ?_⟩
    walk_at "s"
    refine bi_lenL (x6 _ _ t1) (by unfold smallL; omega) ?_
    walk_at "s"
    refine k_iteJ (fun ρ' H' => Ext H H' ∧ (∃ g, ρ' .grand = some (.ref g) ∧ H' g = some (.list (p.gr.map row4)) ∧ H g = none) ∧ Ext H5 H' ∧ ρ' .upper = some (.ref u') ∧ ρ' .lower = some (.ref l') ∧ ρ' .level = some (.int level) ∧ ρ' .manual = some (.bool man)) (fun c R hR => ?_) (fun c R hR => ?_) ?_
    ·replace c := ci_lt_t.mp c
     walk_at "s"
     refine ((htv.ext X5).ext x6).at (by omega) (by omega) hfew fun lb hlb => ?_
     walk_at "s"
     refine CT _ _ _ _ _ _ hlb (by have := (lz (level + 2)).1; omega) fun gg H7 x7 hgg hgg1 => ?_
     walk_at "s"
     refine hR _ _ ⟨(X5.trans x6).trans x7, ⟨gg, rfl, ?_, (X5.trans x6).none hgg⟩, x6.trans x7, by exact r1, by exact r2', by exact r6', by exact r7'⟩
     rw [hgg1, hgr]
     unfold grandP
     rw [if_pos (by omega)]
    ·replace c := ci_lt_f.mp c
     refine x_nil (hR _ _ ⟨X5.trans x6, ⟨g0, rfl, ?_, X5.none hg0⟩, x6, by exact r1, by exact r2', by exact r6', by exact r7'⟩)
     rw [hg1, hgr]
     unfold grandP
     rw [if_neg (by omega)]; rfl
    ·rintro ρ3 H7 ⟨X7, ⟨g', r1, hg', hg0'⟩, x57, r2, r3, r4, r5⟩
     walk_at "s"
     refine ⟨sm rfl, ?_⟩
     walk_at "s"
     exact hQ une p u' l' g' H7 hp l0 l1 X7 hu0' hl0' hg0' (x57 _ _ hu') (x57 _ _ hl') hg'
theorem c_neB {H : AH} {Q : PV} {a b : Bool} (h : Q (.bool (!(a == b))) H) : cmpA .ne (.bool a) (.bool b) H Q := CmpA.neb rfl h
theorem c_eqB {H : AH} {Q : PV} {a b : Bool} (h : Q (.bool (a == b)) H) : cmpA .eq (.bool a) (.bool b) H Q := CmpA.eqb rfl h
theorem ne_dec {H : AH} {Q : PV} {P : Prop} [Decidable P] {b : Bool} (h : b = true ↔ P) (hQ : Q (.bool false) H) : cmpA .ne (.bool (decide P)) (.bool b) H Q := by
 refine c_neB ?_
 have : decide P = b := by
  cases b with
  | true => exact decide_eq_true (h.mp rfl)
  | false => exact decide_eq_false fun z => by have := h.mpr z; cases this
 rw [this]; simpa using hQ
theorem eqFs_self {f : V → V → Option Bool} {l : List V} : (∀ x ∈ l, f x x = some true) → eqFs f l l = some true := by
 induction l with
 | nil => exact fun _ => rfl
 | cons x l ih => exact fun h => eqFs_step (h x (.head _)) (ih fun y hy => h y (.tail _ hy))
theorem ML.sh {H : AH} {l : Addr} {fs : List Fi} (h : ML H l fs) : ∃ vs, H l = some (.list vs) ∧ vs.length = fs.length ∧ Sh H 0 vs (fs.map rowK) := let ⟨vs, h1, h2⟩ := h; ⟨vs, h1, h2.len, .inl ⟨rfl, fs, h2, rfl⟩⟩
noncomputable def C_lis (Φ : Phi) : Prop := ∀ (W : Wd) (c u l g : Addr) (w : W7) (level : Int) (man : Bool) (p : Pk) (H : AH) (Q : PV), Wok W → Bk H W → CAt H c W.op W.v w level man (Pk.up p) (Pk.low p) (Pk.gr p) (cpV level (Pk.up p)) [] →
 H u = some (.list ((Pk.up p).map row4)) → H l = some (.list ((Pk.low p).map row4)) → H g = some (.list ((Pk.gr p).map row4)) → Pk.up p ≠ [] → (Pk.up p).length ≤ 100 → (Pk.low p).length ≤ 100 → (Pk.gr p).length ≤ 100 → FsOk (Pk.up p) → FsOk (Pk.low p) → FsOk (Pk.gr p) →
 (∀ H', Ext H H' → Q (.bool true) H') → Φ .law_is [.ref W.bk, .ref c, .tup [.int level, .bool man, .ref u, .ref l, .ref g]] H Q
theorem c_lis (n : Nat) : C_lis (phi (n + 4)) := by
 intro W c u l g w level man p H Q hW hB hc hu hl hg une z1 z2 z3 k1 k2 k3 hQ
 refine phi_call (body := law_is_body) rfl rfl ?_; intro ρ0
 have CTo : C_told (phi (n + 3)) := c_told (n + 1)
 have CR : C_lrows (phi (n + 3)) := c_lrows n
 have CO : C_loct (phi (n + 3)) := c_loct (n + 2)
 have CS : C_lspan (phi (n + 3)) := c_lspan (n + 2)
 have CK : C_likey (phi (n + 3)) := c_likey (n + 1)
 have CTr : C_trivial (phi (n + 3)) := c_trivial (n + 1)
 generalize phi (n + 3) = Φ at CTo CR CO CS CK CTr ⊢
 obtain ⟨⟨gk, s1, s2, s3, s4, s5, s6, s7⟩, htv, hop, hver, hpk, hst⟩ := id hB
 obtain ⟨go, o1, o2, o3, o4, o5, o6, o7, o8⟩ := id hop
 have hbm := hW.ob.mfs
 have hbg := hW.ob.gf
 obtain ⟨va, a1, a2, a3⟩ := hc.a.sh
 obtain ⟨vb, b1, b2, b3⟩ := hc.b.sh
 obtain ⟨vg, g1, g2, g3⟩ := hc.gp.sh
 walk_at "s"
 refine k_asgT rfl ?_
 walk_at "s"
 refine c_level hc ?_
 walk_at "s"
 refine k_or_f (by rw [ci_ne_f]) ?_
 walk_at "s"
 refine c_manual hc ?_
 walk_at "s"
 refine c_neB (k_f (by simp) ?_)
 walk_at "s"
 refine c_inputs hc (c_in0 hc ?_)
 walk_at "s"
 refine CTo _ _ _ _ _ _ a1 (by omega) a3 fun t1 H1 x1 ht1 ht1' => ?_
 walk_at "s"
 refine CR _ _ _ _ (x1 _ _ hu) (by omega) k1 fun t2 H2 x2 ht2 ht2' => ?_
 refine c_neR (q_list (eq_lists (x2 _ _ ht1') ht2' rfl a3.same) ?_)
 refine k_or_f rfl ?_
 have X2 := x1.trans x2
 walk_at "s"
 refine c_inputs (hc.ext X2) (c_in1 (hc.ext X2) ?_)
 walk_at "s"
 refine CTo _ _ _ _ _ _ (X2 _ _ b1) (by omega) (b3.ext X2) fun t3 H3 x3 ht3 ht3' => ?_
 walk_at "s"
 refine CR _ _ _ _ (x3 _ _ (X2 _ _ hl)) (by omega) k2 fun t4 H4 x4 ht4 ht4' => ?_
 refine c_neR (q_list (eq_lists (x4 _ _ ht3') ht4' rfl b3.same) ?_)
 refine k_f rfl ?_
 have X4 := (X2.trans x3).trans x4
 walk_at "s"
 refine c_gp (hc.ext X4) ?_
 walk_at "s"
 refine CTo _ _ _ _ _ _ (X4 _ _ g1) (by omega) (g3.ext X4) fun t5 H5 x5 ht5 ht5' => ?_
 walk_at "s"
 refine CR _ _ _ _ (x5 _ _ (X4 _ _ hg)) (by omega) k3 fun t6 H6 x6 ht6 ht6' => ?_
 refine c_neR (q_list (eq_lists (x6 _ _ ht5') ht6' rfl g3.same) ?_)
 refine k_f rfl ?_
 have X6 := (X4.trans x5).trans x6
 walk_at "s"
 refine g_key (X6 _ _ s1) s3 ?_
 refine g_attr (o1.ext X6) o5 ?_
 walk_at "s"
 refine g_key (X6 _ _ s1) s3 ?_
 refine g_attr (o1.ext X6) o3 ?_
 refine o_mul (by omega) (by omega) ?_
 walk_at "s"
 obtain ⟨gc, gc1, gc2, gc3⟩ := (hc.ext X6).fl
 refine k_meth ⟨_, gc1, gc2⟩ rfl ?_
 walk_at "s"
 have andE : ∀ (ρ : Lo) (K : PV), ρ .upper = some (.ref u) → ρ .lower = some (.ref l) → ρ .grand = some (.ref g) → ρ .most = some (.int (W.o.gf * W.o.mfs)) → (∀ (b : Bool) H', Ext H6 H' → (b = true ↔ p.up.length = 1 ∧ p.low.length = 0 ∧ sumS p.gr ≤ W.o.gf * W.o.mfs) → K (.bool b) H') →
   evA Φ (.and (.cons (.cmp .eq (.bi .len (.cons (.var .upper) .nil)) (.int 1)) (.cons (.cmp .eq (.bi .len (.cons (.var .lower) .nil)) (.int 0)) (.cons (.cmp .le (.call .law_octets (.cons (.var .grand) .nil)) (.var .most)) .nil)))) ρ H6 K := by
  intro ρ K r1 r2 r3 r4 hK
  walk_at "s"
  refine bi_lenL (X6 _ _ hu) (by unfold smallL; simp; omega) ?_
  walk_at "s"
  refine k_and (fun c1 => ?_) (fun c1 => ?_)
  ·rw [ci_eq_t, List.length_map] at c1
   walk_at "s"
   refine bi_lenL (X6 _ _ hl) (by unfold smallL; simp; omega) ?_
   walk_at "s"
   refine k_and (fun c2 => ?_) (fun c2 => ?_)
   ·rw [ci_eq_t, List.length_map] at c2
    walk_at "s"
    refine CO _ _ _ _ (X6 _ _ hg) (by omega) fun H7 x7 => ?_
    walk_at "s"
    refine hK _ _ x7 ?_
    rw [ci_le_t]
    exact ⟨fun z => ⟨by omega, by omega, z⟩, fun z => z.2.2⟩
   ·rw [ci_eq_f, List.length_map] at c2
    exact hK _ _ (.refl _) ⟨fun z => (by cases z), fun z => by omega⟩
  ·rw [ci_eq_f, List.length_map] at c1
   exact hK _ _ (.refl _) ⟨fun z => (by cases z), fun z => by omega⟩
 refine CTr _ _ _ _ _ _ _ _ _ _ _ _ _ _ (hc.ext X6) (hop.ext X6) (by omega) (by omega) (by omega) (by omega) (by omega) ?_
 refine andE _ _ rfl rfl rfl rfl fun b H7 x7 hb => ?_
 have X7 := X6.trans x7
 refine ne_dec hb (k_f rfl ?_)
 walk_at "s"
 refine CS _ _ _ _ (X7 _ _ hu) (by omega) une fun H8 x8 => ?_
 walk_at "s"
 refine i_tup (by decide) (by decide) rfl ?_
 have X8 := X7.trans x8
 walk_at "s"
 obtain ⟨⟨ge, e1, e2, e3, e4, e5⟩, e6, e7, e8⟩ := (hc.ext X8).edit
 refine c_edit_ (hc.ext X8) ?_
 refine g_attr e1 e2 ?_
 walk_at "s"
 refine CK _ _ _ _ (span_pl k1 une).2 (by decide) (by decide) fun H9 x9 => ?_
 walk_at "s"
 refine ⟨sm rfl, ?_⟩
 walk_at "s"
 refine ⟨sm rfl, n_new fun t7 H10 x10 ht7 ht7' => ?_⟩
 have x810 := x9.trans x10
 refine c_eqR (q_list (eq_lists (x810 _ _ e6) ht7' rfl (b := t7) (r := true) (eqFs_step (eqF_tup.trans (eqFs_step (int_eq _) (eqFs_step (bytes_eq _) eqFs_nil))) eqFs_nil)) ?_)
 refine k_and_t rfl ?_
 walk_at "s"
 refine c_edit_ (hc.ext (X8.trans x810)) ?_
 refine g_attr (e1.ext x810) e3 ?_
 walk_at "s"
 refine ⟨sm rfl, n_new fun t8 H11 x11 ht8 ht8' => ?_⟩
 have x811 := x810.trans x11
 refine c_eqR (q_list (eq_lists (x811 _ _ e7) ht8' rfl rfl) ?_)
 refine k_and_t rfl ?_
 walk_at "s"
 refine c_edit_ (hc.ext (X8.trans x811)) ?_
 refine g_attr (e1.ext x811) e4 ?_
 walk_at "s"
 refine ⟨sm rfl, n_new fun t9 H12 x12 ht9 ht9' => ?_⟩
 have x812 := x811.trans x12
 refine c_eqR (q_list (eq_lists (x812 _ _ e8) ht9' rfl rfl) ?_)
 exact hQ _ (X8.trans x812)
section
variable {H : AH} {as : List Addr} (hl : ∀ x ∈ as, ∃ xs, H x = some (.list xs))
include hl
theorem nl_of {a : Addr} {O : AO} (h : H a = some O) (hO : ∀ xs, O ≠ .list xs) : a ∉ as := fun z => by
 obtain ⟨xs, e⟩ := hl a z
 rw [h] at e; cases e; exact hO _ rfl
theorem Fld.woL {a : Addr} {C : Cl} {f : Lo} (h : Fld H a C f) : Fld (wo H as) a C f := by
 obtain ⟨dx, h1, h2⟩ := h
 exact ⟨dx, by rw [wo_out (nl_of hl h1 (fun _ z => by cases z))]; exact h1, by rw [wo_out (nl_of hl h2 (fun _ z => by cases z))]; exact h2⟩
theorem MetaAt.woL {a : Addr} {f : Fi} (h : MetaAt H a f) : MetaAt (wo H as) a f := let ⟨g, h1, r⟩ := h; ⟨g, h1.woL hl, r⟩
theorem Ms.woL {vs fs} (h : Ms H vs fs) : Ms (wo H as) vs fs := h.mono fun a => a.woL hl
theorem ML.woL {m : Addr} {fs : List Fi} (n : m ∉ as) (h : ML H m fs) : ML (wo H as) m fs := let ⟨vs, h1, h2⟩ := h; ⟨vs, by rw [wo_out n]; exact h1, h2.woL hl⟩
theorem CAt.woL {c op v : Addr} {w : W7} {level : Int} {man : Bool} {up low gr : List Fi} {cps dels : List V} (hd : ∀ x ∈ w.l, x ∉ as) (h : CAt H c op v w level man up low gr cps dels) : CAt (wo H as) c op v w level man up low gr cps dels := by
 obtain ⟨⟨g, h1, h2, r⟩, a2, a3, a4, a5, ⟨⟨ge, e1, e2⟩, e3, e4, e5⟩, a7⟩ := h
 refine ⟨⟨g, ?_, ?_, r⟩, ?_, a3.woL hl (hd _ (by walk_at "m")), a4.woL hl (hd _ (by walk_at "m")), a5.woL hl (hd _ (by walk_at "m")), ⟨⟨ge, e1.woL hl, e2⟩, ?_, ?_, ?_⟩, a7⟩
 ·rw [wo_out (nl_of hl h1 (fun _ z => by cases z))]; exact h1
 ·rw [wo_out (nl_of hl h2 (fun _ z => by cases z))]; exact h2
 ·rw [wo_out (hd _ (by walk_at "m"))]; exact a2
 ·rw [wo_out (hd _ (by walk_at "m"))]; exact e3
 ·rw [wo_out (hd _ (by walk_at "m"))]; exact e4
 ·rw [wo_out (hd _ (by walk_at "m"))]; exact e5
end
theorem evo_ext {l : Addr} {H H' : AH} {ws : List V} (e : Evo l H H') (h : H' l = some (.list ws)) : Ext (H.set l (.list ws)) H' := fun b O eb => by
 by_cases z : b = l
 ·subst z; rw [set_same] at eb; cases eb; exact h
 ·rw [set_other z] at eb; exact e b O z eb
theorem Ms.spl {H : AH} {vs ws : List V} {fs : List Fi} {a : Addr} {f : Fi} (h : Ms H vs fs) (hm : MetaAt H a f) (s : Spl vs ws (.ref a)) : ∃ gs, Ms H ws gs ∧ gs.length ≤ fs.length + 1 := by
 rcases s with rfl | rfl | rfl
 ·exact ⟨[], .nil, by simp⟩
 ·exact ⟨fs.reverse ++ [f], h.rev.app (.cons hm .nil), by simp⟩
 ·exact ⟨fs ++ [f], h.app (.cons hm .nil), by simp⟩
section
variable {H H' : AH} {c op v : Addr} {w : W7} {level : Int} {man : Bool} {up low gr : List Fi} {cps dels ws : List V} {a : Addr} {f : Fi}
theorem CAt.splA (h : CAt H c op v w level man up low gr cps dels) (hm : MetaAt H a f) (e : Evo w.A H H') (hl : H' w.A = some (.list ws)) (sp : ∀ vs, H w.A = some (.list vs) → Spl vs ws (.ref a)) : ∃ up', up'.length ≤ up.length + 1 ∧ CAt H' c op v w level man up' low gr cps dels := by
 obtain ⟨⟨g, h1, h2, r⟩, a2, ⟨vs, a3, a3'⟩, a4, a5, a6, a7⟩ := h
 obtain ⟨n1, n2, n3, n4, n5, n6, n7, n8, n9, n10, n11, n12, n13, n14, n15, n16, n17, n18, n19, n20, n21⟩ := w.ne a7
 obtain ⟨gs, q1, q2⟩ := a3'.spl hm (sp vs a3)
 refine ⟨gs, q2, CAt.ext (evo_ext e hl) ⟨⟨g, ?_, ?_, r⟩, ?_, ⟨ws, set_same, q1.setl a3⟩, a4.setl a3 (Ne.symm n7), a5.setl a3 (Ne.symm n8), a6.setl a3 (Ne.symm n9) (Ne.symm n10) (Ne.symm n11), a7⟩⟩
 ·rw [set_other (fun z => (no_ss z h1 a3 nofun))]; exact h1
 ·rw [set_other (fun z => (no_ss z h2 a3 nofun))]; exact h2
 ·rw [set_other n1]; exact a2
theorem CAt.splB (h : CAt H c op v w level man up low gr cps dels) (hm : MetaAt H a f) (e : Evo w.B H H') (hl : H' w.B = some (.list ws)) (sp : ∀ vs, H w.B = some (.list vs) → Spl vs ws (.ref a)) : ∃ low', low'.length ≤ low.length + 1 ∧ CAt H' c op v w level man up low' gr cps dels := by
 obtain ⟨⟨g, h1, h2, r⟩, a2, a3, ⟨vs, a4, a4'⟩, a5, a6, a7⟩ := h
 obtain ⟨n1, n2, n3, n4, n5, n6, n7, n8, n9, n10, n11, n12, n13, n14, n15, n16, n17, n18, n19, n20, n21⟩ := w.ne a7
 obtain ⟨gs, q1, q2⟩ := a4'.spl hm (sp vs a4)
 refine ⟨gs, q2, CAt.ext (evo_ext e hl) ⟨⟨g, ?_, ?_, r⟩, ?_, a3.setl a4 n7, ⟨ws, set_same, q1.setl a4⟩, a5.setl a4 (Ne.symm n12), a6.setl a4 (Ne.symm n13) (Ne.symm n14) (Ne.symm n15), a7⟩⟩
 ·rw [set_other (fun z => (no_ss z h1 a4 nofun))]; exact h1
 ·rw [set_other (fun z => (no_ss z h2 a4 nofun))]; exact h2
 ·rw [set_other n2]; exact a2
theorem CAt.splG (h : CAt H c op v w level man up low gr cps dels) (hm : MetaAt H a f) (e : Evo w.GP H H') (hl : H' w.GP = some (.list ws)) (sp : ∀ vs, H w.GP = some (.list vs) → Spl vs ws (.ref a)) : ∃ gr', gr'.length ≤ gr.length + 1 ∧ CAt H' c op v w level man up low gr' cps dels := by
 obtain ⟨⟨g, h1, h2, r⟩, a2, a3, a4, ⟨vs, a5, a5'⟩, a6, a7⟩ := h
 obtain ⟨n1, n2, n3, n4, n5, n6, n7, n8, n9, n10, n11, n12, n13, n14, n15, n16, n17, n18, n19, n20, n21⟩ := w.ne a7
 obtain ⟨gs, q1, q2⟩ := a5'.spl hm (sp vs a5)
 refine ⟨gs, q2, CAt.ext (evo_ext e hl) ⟨⟨g, ?_, ?_, r⟩, ?_, a3.setl a5 n8, a4.setl a5 n12, ⟨ws, set_same, q1.setl a5⟩, a6.setl a5 (Ne.symm n16) (Ne.symm n17) (Ne.symm n18), a7⟩⟩
 ·rw [set_other (fun z => (no_ss z h1 a5 nofun))]; exact h1
 ·rw [set_other (fun z => (no_ss z h2 a5 nofun))]; exact h2
 ·rw [set_other n3]; exact a2
end
section
variable {Φ : Phi} {ρ : Lo} {H : AH} {Q : PV} {l : Addr} {fs : List Fi} {e : E} {j : Int}
theorem comp_num (he : ∀ (v : V) (H : AH) (Q : PV), Q (.int j) H → evA Φ e (upd ρ .«meta» v) H Q) (hl : ML H l fs) (hz : fs.length ≤ 1000) (hQ : ∀ a H', Ext H H' → H a = none → H' a = some (.list (delV j fs)) → Q (.ref a) H') :
  compK Φ (.tup (.cons e (.cons (.attr (.var .«meta») .number) .nil))) .«meta» .nil ρ (.ref l) H Q := by
 obtain ⟨vs, h1, h2⟩ := hl
 have hlen := h2.len
 refine k_comp h1 (by unfold smallL; omega) ?_
 let I1 : List V → List V → AH → Prop := fun us acc H' => H = H' ∧ Sx2 fun done todo => A3 (fs = done ++ todo) (Ms H us todo) (acc = delV j done)
 refine compA_inv I1 ?_ ?_ _ _ _ ⟨rfl, [], fs, rfl, h2, rfl⟩
 ·rintro v rest acc H1 ⟨rfl, done, todo, q1, q2, rfl⟩ R hR
  obtain ⟨a, f, gs, rfl, rfl, ma, mr⟩ := q2.inv
  have hdl : done.length ≤ fs.length := by rw [q1]; simp
  refine cc_nil ?_
  show evA _ _ _ _ _
  refine v_tup (es_cons (he _ _ _ ?_))
  walk_at "s"
  refine m_number ma ?_
  walk_at "s"
  exact ⟨sm rfl, by unfold smallL delV; simp; omega, hR _ _ h1 ⟨rfl, done ++ [f], gs, by rw [q1]; simp, mr, by simp [delV]⟩⟩
 ·rintro acc H1 ⟨rfl, done, todo, q1, q2, rfl⟩
  have : todo = [] := by cases q2; rfl
  subst this
  rw [List.append_nil] at q1
  subst q1
  exact n_new fun a H2 x2 ha hl2 => hQ a H2 x2 ha hl2
theorem comp_num4 (he : ∀ (v : V) (H : AH) (Q : PV), Q (.int j) H → evA Φ e (upd ρ .f v) H Q) (hl : H l = some (.list (fs.map row4))) (hz : fs.length ≤ 1000) (hQ : ∀ a H', Ext H H' → H a = none → H' a = some (.list (delV j fs)) → Q (.ref a) H') :
  compK Φ (.tup (.cons e (.cons (.idx (.var .f) (.int 0)) .nil))) .f .nil ρ (.ref l) H Q := by
 refine k_comp hl (by unfold smallL; simp; omega) ?_
 let I2 : List V → List V → AH → Prop := fun us acc H' => H = H' ∧ Sx2 fun done todo => A3 (fs = done ++ todo) (us = todo.map row4) (acc = delV j done)
 refine compA_inv I2 ?_ ?_ _ _ _ ⟨rfl, [], fs, rfl, rfl, rfl⟩
 ·rintro v rest acc H1 ⟨rfl, done, todo, q1, q2, rfl⟩ R hR
  cases todo with
  | nil => cases q2
  | cons f todo =>
   cases q2
   have hdl : done.length ≤ fs.length := by rw [q1]; simp
   refine cc_nil ?_
   show evA _ _ _ _ _
   refine v_tup (es_cons (he _ _ _ ?_))
   walk_at "s"
   refine i_tup (by decide) (by decide) rfl ?_
   walk_at "s"
   exact ⟨sm rfl, by unfold smallL delV; simp; omega, hR _ _ hl ⟨rfl, done ++ [f], todo, by rw [q1]; simp, rfl, by simp [delV]⟩⟩
 ·rintro acc H1 ⟨rfl, done, todo, q1, q2, rfl⟩
  have : todo = [] := by cases todo with | nil => rfl | cons _ _ => cases q2
  subst this
  rw [List.append_nil] at q1
  subst q1
  exact n_new fun a H2 x2 ha hl2 => hQ a H2 x2 ha hl2
end
theorem delV_eq {H : AH} {j : Int} {fs : List Fi} : ∀ x ∈ delV j fs, eqF H 3 x x = some true := fun x hx => by
 unfold delV at hx
 rw [List.mem_map] at hx
 obtain ⟨f, _, rfl⟩ := hx
 exact eqF_tup.trans <| eqFs_step (int_eq _) (eqFs_step (int_eq _) eqFs_nil)
noncomputable def One (Hb H : AH) (W : Wd) (m0 : Addr) (level : Int) (man : Bool) (up : List Fi) (x : V) (w : W7) : Prop := (up = [] ∧ x = .none) ∨ (up ≠ [] ∧ ∃ c p, x = .ref c ∧ IsPk W.o W.L level up p ∧ CAt H c W.op W.v w level man (Pk.up p) (Pk.low p) (Pk.gr p) (cpV level (Pk.up p)) [] ∧ m0 ∉ w.l ∧ W.KP ∉ w.l ∧ ∀ y ∈ w.l, Hb y = none)
theorem One.ext {Hb H H' : AH} {W : Wd} {m0 : Addr} {level : Int} {man : Bool} {up : List Fi} {x : V} {w : W7} (e : Ext H H') (h : One Hb H W m0 level man up x w) : One Hb H' W m0 level man up x w := by
 rcases h with h | ⟨h0, c, p, h1, h2, h3, h4⟩
 ·exact .inl h
 ·exact .inr ⟨h0, c, p, h1, h2, h3.ext e, h4⟩
theorem One.put {Hb H : AH} {W : Wd} {m0 : Addr} {level : Int} {man : Bool} {up : List Fi} {x : V} {w : W7} {vs ws : List V} (hm : H m0 = some (.list vs)) (h : One Hb H W m0 level man up x w) : One Hb (H.set m0 (.list ws)) W m0 level man up x w := by
 rcases h with h | ⟨h0, c, p, h1, h2, h3, h4, h5⟩
 ·exact .inl h
 ·exact .inr ⟨h0, c, p, h1, h2, h3.setl hm h4, h4, h5⟩
noncomputable def C_lpair (Φ : Phi) : Prop := ∀ (W : Wd) (level lo hi way : Int) (man : Bool) (k : Nat) (H : AH) (Q : PV), Wok W → St2 H W k → (man = true → 0 ≤ level ∧ level + 1 < W.L.length) → (man = false → level = W.lev) → Pb lo → Pb hi → 0 ≤ way → way ≤ 3 →
 (∀ H', St2 H' W k → Q (.bool true) H') → Φ .law_pair [.ref W.bk, .int level, .int lo, .int hi, .bool man, .int way] H Q
theorem c_lpair (n : Nat) : C_lpair (phi (n + 9)) := by
 intro W level lo hi way man k H Q hW hS hm hau hlo hhi w0 w3 hQ
 refine phi_call (body := law_pair_body) rfl rfl ?_; intro ρ0
 have CH : C_hand (phi (n + 8)) := c_hand n
 have CP : C_pick (phi (n + 8)) := c_pick n
 have CU : C_luser (phi (n + 8)) := c_luser (n + 7)
 have CL : C_lplan (phi (n + 8)) := c_lplan (n + 5)
 have CI : C_lis (phi (n + 8)) := c_lis (n + 4)
 have CS : C_spoil (phi (n + 8)) := c_spoil (n + 7)
 have CA : C_adddel (phi (n + 8)) := c_adddel (n + 7)
 generalize phi (n + 8) = Φ at CH CP CU CL CI CS CA ⊢
 obtain ⟨Hb, xs, X, hKP, hB, hK, hKept, hxk⟩ := hS
 obtain ⟨⟨g, s1, s2, s3, s4, s5, s6, s7⟩, htv, hop, hver, hpk, sta, stf, hst1, hst2⟩ := id hB
 obtain ⟨gp, oo, p1, p2, p3, p4⟩ := id hpk
 have n4 := hW.n4
 have hfew := hW.L.ok.few
 have lz : ∀ i : Int, (lvl W.L i).length ≤ 100 ∧ FsOk (lvl W.L i) := fun i => by
  unfold lvl
  cases q : W.L[i.toNat]? with
  | none => exact ⟨by simp, fun f hf => by simp at hf⟩
  | some fs => exact hW.L.ok.each fs (List.mem_of_getElem? q)
 obtain ⟨up, hup⟩ : ∃ up, up = upOf W level lo hi man := ⟨_, rfl⟩
 walk_at "s"
 refine ⟨sm rfl, n_new fun m0 H1 x1 hm0 hm1 => ?_⟩
 have hm0b : Hb m0 = none := X.none hm0
 have nKm : W.KP ≠ m0 := fun z => (no_ns z.symm hm0 hK)
 walk_at "s"
 with_reducible refine r_one (by decide) (by decide) ?_
 let I1 : List V → Lo → AH → Prop := fun rest ρ H' => Sx2 fun (j : Int) (qs : List (V × W7)) => A16 (rest = rangeV j 2) (0 ≤ j) (j ≤ 2) (j = qs.length) (Ext Hb H') (H' W.KP = some (.list xs)) (H' m0 = some (.list (qs.map (·.1)))) (∀ q ∈ qs, One Hb H' W m0 level man up q.1 q.2) (qs.Pairwise (fun a b => up ≠ [] → ∀ y ∈ W7.l b.2, y ∉ W7.l a.2)) (ρ .made = some (.ref m0)) (ρ .book = some (.ref W.bk)) (ρ .level = some (.int level)) (ρ .low = some (.int lo)) (ρ .high = some (.int hi)) (ρ .manual = some (.bool man)) (ρ .way = some (.int way))
 refine forA_inv I1 ?_ ?_ _ _ _
  ⟨0, [], rfl, by omega, by omega, rfl, X.trans x1, x1 _ _ hK, hm1, by simp, .nil, rfl, rfl, rfl, rfl, rfl, rfl, rfl⟩
 ·rintro v rest ρ H1 ⟨j, qs, hr, j0, j1, hj, X1, hK1, hm1, hone, hpw, r1, r2, r3, r4, r5, r6, r7⟩ R Rn - - -
  obtain ⟨c1, rfl, rfl⟩ := rangeV_inv hr
  have fin : ∀ (ρ' : Lo) x w H4, Ext H1 H4 → One Hb H4 W m0 level man up x w → (up ≠ [] → ∀ y ∈ W7.l w, H1 y = none) → ρ' .made = some (.ref m0) → ρ' .book = some (.ref W.bk) → ρ' .level = some (.int level) → ρ' .low = some (.int lo) → ρ' .high = some (.int hi) → ρ' .manual = some (.bool man) → ρ' .way = some (.int way) →
    R .nx ρ' (H4.set m0 (.list (qs.map (·.1) ++ [x]))) := by
   intro ρ' x w H4 x4 ho hfr a1 a2 a3 a4 a5 a6 a7
   refine Rn _ _ trivial ⟨j + 1, qs ++ [(x, w)], rfl, by omega, by omega, by simp; omega, Ext.set (X1.trans x4) hm0b, ?_, ?_, ?_, ?_, a1, a2, a3, a4, a5, a6, a7⟩
   ·rw [set_other nKm]; exact x4 _ _ hK1
   ·rw [set_same]; simp
   ·intro q hq
    rw [List.mem_append] at hq
    rcases hq with hq | hq
    ·exact ((hone q hq).ext x4).put (x4 _ _ hm1)
    ·simp at hq; subst hq
     exact ho.put (x4 _ _ hm1)
   ·rw [List.pairwise_append]
    refine ⟨hpw, by simp, fun a ha b hb une y hy => ?_⟩
    simp at hb; subst hb
    rcases hone a ha with h | ⟨_, c, p, _, _, hc, _⟩
    ·exact absurd h.1 une
    ·exact hc.fresh (hfr une y hy)
  show exSs Φ _ _ _ _
  walk_at "s"
  refine g_key (X1 _ _ s1) s2 ?_
  obtain ⟨as, t1, t2⟩ := id htv
  have tl : (as.map V.ref).length = W.L.length := by rw [List.length_map, t2.len, List.length_map]
  walk_at "s"
  refine bi_lenN (N := (W.L.length : Int)) (X1 _ _ t1) (by unfold smallL; omega) (by rw [tl]) ?_
  refine k_rep (by omega) (by omega) (n_new fun ptr H2 x2 hp0 hp1 => ?_)
  rw [Int.toNat_natCast] at hp1
  have X2 := X1.trans x2
  have nbp : ∀ {b : Addr} {O : AO}, H1 b = some O → b ≠ ptr := fun e z => (no_ns z.symm hp0 e)
  walk_at "s"
  cases man with
  | true =>
   obtain ⟨l0, l1⟩ := hm rfl
   refine k_t rfl ?_
   walk_at "s"
   refine k_lm (x2 _ _ hm1) ?_
   walk_at "s"
   refine g_key (X2 _ _ s1) s5 ?_
   refine k_meth (p1.ext X2) rfl ?_
   walk_at "s"
   refine g_key (X2 _ _ s1) s4 ?_
   walk_at "s"
   refine CU _ _ _ hlo fun H3 x3 => ?_
   walk_at "s"
   refine CU _ _ _ hhi fun H4 x4 => ?_
   have X4 := (X2.trans x3).trans x4
   have hp4 := x4 _ _ (x3 _ _ hp1)
   have up1 : up = handP W.o W.L level lo hi := by rw [hup]; unfold upOf; rw [if_pos rfl]
   have nil1 := hand_nil (o := W.o) (L := W.L) (level := level) (lo := lo) (hi := hi) hW.ob.mfs.1
   rw [← up1] at nil1
   walk_at "s"
   refine CH W.p W.op W.v ptr W.o W.L W.T W.B W.lev level lo hi _ _ (hver.ext X4) hW.L (hpk.ext X4) (hop.ext X4) hW.ob hp4 l0 l1 hlo hhi (fun H5 x5 e => ?_) fun ne c w pk H5 e5 hIs hc0 hcd hcw hcat => ?_
   ·have x15 := ((x2.trans x3).trans x4).trans x5
    walk_at "s"
    refine l_append (x15 _ _ hm1) (by unfold smallL; simp; omega) ?_
    walk_at "s"
    exact fin _ .none ⟨0, 0, 0, 0, 0, 0, 0, 0, 0⟩ H5 x15 (.inl ⟨nil1.mpr e, rfl⟩) (fun une => absurd (nil1.mpr e) une) (by exact r1) (by exact r2) (by exact r3) (by exact r4) (by exact r5) (by exact r6) (by exact r7)
   ·have x14 := (x2.trans x3).trans x4
    have x15 : Ext H1 H5 := fun b O eb => e5 _ _ (nbp eb) (x14 _ _ eb)
    walk_at "s"
    refine l_append (x15 _ _ hm1) (by unfold smallL; simp; omega) ?_
    walk_at "s"
    rw [← up1] at hIs
    exact fin _ (.ref c) w H5 x15 (.inr ⟨fun z => ne (nil1.mp z), c, pk, rfl, hIs, hcat, fun z => (by have := hcw _ z; rw [x14 _ _ hm1] at this; cases this), fun z => (by have := hcw _ z; rw [x14 _ _ hK1] at this; cases this), fun y hy => X4.none (hcw y hy)⟩) (fun une y hy => x14.none (hcw y hy)) (by exact r1) (by exact r2) (by exact r3) (by exact r4) (by exact r5) (by exact r6) (by exact r7)
  | false =>
   have hl := hau rfl
   refine k_f rfl ?_
   walk_at "s"
   refine k_lm (x2 _ _ hm1) ?_
   walk_at "s"
   refine g_key (X2 _ _ s1) s5 ?_
   refine k_meth (p1.ext X2) rfl ?_
   walk_at "s"
   refine g_key (X2 _ _ s1) s4 ?_
   walk_at "s"
   refine CP W.p W.op W.v ptr W.o W.L W.T W.B W.lev _ _ (hver.ext X2) hW.L (hpk.ext X2) (hop.ext X2) hW.ob hp1 hW.dr (fun hlt => ?_) fun hge c w pk H5 e5 hIs hc0 hcd hcw hcat => ?_
   ·have up1 : up = [] := by rw [hup]; unfold upOf; rw [if_neg (by simp), if_neg (by omega)]
    walk_at "s"
    refine l_append (x2 _ _ hm1) (by unfold smallL; simp; omega) ?_
    walk_at "s"
    exact fin _ .none ⟨0, 0, 0, 0, 0, 0, 0, 0, 0⟩ H2 x2 (.inl ⟨up1, rfl⟩) (fun une => absurd up1 une) (by exact r1) (by exact r2) (by exact r3) (by exact r4) (by exact r5) (by exact r6) (by exact r7)
   ·have up1 : up = firstP W.L level := by rw [hup]; unfold upOf; rw [if_neg (by simp), if_pos hge]
    have une : up ≠ [] := by
     rw [up1, hl]
     exact first_ne (lz _).2 (hW.dr hge).2.2
    rw [← hl, ← up1] at hIs
    rw [← hl] at hcat
    have x15 : Ext H1 H5 := fun b O eb => e5 _ _ (nbp eb) (x2 _ _ eb)
    walk_at "s"
    refine l_append (x15 _ _ hm1) (by unfold smallL; simp; omega) ?_
    walk_at "s"
    exact fin _ (.ref c) w H5 x15 (.inr ⟨une, c, pk, rfl, hIs, hcat, fun z => (by have := hcw _ z; rw [x2 _ _ hm1] at this; cases this), fun z => (by have := hcw _ z; rw [x2 _ _ hK1] at this; cases this), fun y hy => X2.none (hcw y hy)⟩) (fun une y hy => x2.none (hcw y hy)) (by exact r1) (by exact r2) (by exact r3) (by exact r4) (by exact r5) (by exact r6) (by exact r7)
 ·rintro ρ H1 ⟨j, qs, hr, j0, j1, hj, X1, hK1, hm1, hone, hpw, r1, r2, r3, r4, r5, r6, r7⟩
  have hnl := rangeV_nil_inv hr
  have hql : qs.length = 2 := by omega
  match qs, hql with
  | [(y0, v0), (y1, v1)], _ =>
  have o0 := hone (y0, v0) (by simp)
  have o1 := hone (y1, v1) (by simp)
  have sep : up ≠ [] → ∀ y ∈ W7.l v1, y ∉ W7.l v0 := by
   have := (List.pairwise_cons.mp hpw).1 (y1, v1) (by simp)
   exact this
  dsimp only at o0 o1
  simp only [List.map_cons, List.map_nil] at hm1
  refine K_nx ?_
  walk_at "s"
  refine CL W level lo hi man _ _ hW (hB.ext X1) hm hau (fun hnil H2 x2 => ?_) fun une p u l gr H2 hIs l0 l1 x2 hu0 hl0 hg0 hu hl hgr => ?_
  ·rw [← hup] at hnil
   have e0 : y0 = .none := by rcases o0 with h | h; exact h.2; exact absurd hnil h.1
   have e1 : y1 = .none := by rcases o1 with h | h; exact h.2; exact absurd hnil h.1
   subst e0; subst e1
   walk_at "s"
   refine k_or_t rfl ?_
   refine k_t rfl ?_
   walk_at "s"
   refine k_and_t rfl ?_
   walk_at "s"
   refine i_list (x2 _ _ hm1) (by decide) (by decide) rfl ?_
   refine k_and_t rfl ?_
   walk_at "s"
   refine i_list (x2 _ _ hm1) (by decide) (by decide) rfl ?_
   exact hQ _ ⟨Hb, xs, X1.trans x2, hKP, hB, x2 _ _ hK1, hKept, hxk⟩
  ·rw [← hup] at une hIs
   rcases o0 with h | ⟨_, c0, p0, rfl, i0, hc0, a1, a2, a3⟩
   ·exact absurd h.1 une
   rcases o1 with h | ⟨_, c1, p1', rfl, i1, hc1, b1, b2, b3⟩
   ·exact absurd h.1 une
   have ep0 := isPk_un i0 hIs
   have ep1 := isPk_un i1 hIs
   subst ep0; subst ep1
   have sep := sep une
   obtain ⟨e1, e2⟩ := hIs
   -- facts on the lists
   have hsub : up.Sublist (lvl W.L level) := by
    rw [hup]; unfold upOf
    split
    ·exact hand_sub
    ·split
     ·exact first_sub
     ·exact List.nil_sublist _
   obtain ⟨pc1, pc2⟩ := plan_cases ⟨e1, e2⟩ (lz level).2 hsub une
   have gsub : up.Sublist (grownP W.L level up) := up_sub (lz level).2 hsub
   have fu : p1'.up ≠ [] ∧ p1'.up.length ≤ 100 ∧ FsOk p1'.up := by
    by_cases hmo : moreOk W.o W.L level up
    ·rw [(pc1 hmo).1]
     exact ⟨fun z => (by rw [z] at gsub; exact une (List.sublist_nil.mp gsub)), Nat.le_trans over_len (lz level).1, (lz level).2.over⟩
    ·rw [(pc2 hmo).1]
     exact ⟨une, Nat.le_trans hsub.length_le (lz level).1, (lz level).2.sub fun g hg => hsub.subset hg⟩
   have fl : p1'.low.length ≤ 100 ∧ FsOk p1'.low := by
    by_cases hmo : moreOk W.o W.L level up
    ·rw [(pc1 hmo).2]
     exact ⟨Nat.le_trans touch_len (lz _).1, (lz _).2.touch⟩
    ·rw [(pc2 hmo).2]
     exact ⟨Nat.le_trans touch_len (lz _).1, (lz _).2.touch⟩
   have fg : p1'.gr.length ≤ 100 ∧ FsOk p1'.gr := by
    rw [e2]; unfold grandP; split
    ·exact ⟨Nat.le_trans touch_len (lz _).1, (lz _).2.touch⟩
    ·exact ⟨by simp, fun f hf => by simp at hf⟩
   obtain ⟨f1, f2, f3⟩ := fu
   obtain ⟨f4, f5⟩ := fl
   obtain ⟨f6, f7⟩ := fg
   have hc02 := hc0.ext x2
   have hc12 := hc1.ext x2
   -- a heap without the lists of the first
   have live0 := hc02.live
   have nin0 : ∀ {x : Addr}, H1 x = none → x ∉ v0.l := fun hx => hc0.fresh hx
   obtain ⟨Hc, hHc⟩ : ∃ Hc, Hc = wo H2 v0.l := ⟨_, rfl⟩
   have Xc : Ext Hc H2 := by rw [hHc]; exact wo_ext
   have Xbc : Ext Hb Hc := by rw [hHc]; exact (X1.trans x2).wo a3
   have c_m0 : Hc m0 = some (.list [.ref c0, .ref c1]) := by rw [hHc, wo_out a1]; exact x2 _ _ hm1
   have c_KP : Hc W.KP = some (.list xs) := by rw [hHc, wo_out a2]; exact x2 _ _ hK1
   have c_u : Hc u = some (.list (p1'.up.map row4)) := by rw [hHc, wo_out (nin0 hu0)]; exact hu
   have c_l : Hc l = some (.list (p1'.low.map row4)) := by rw [hHc, wo_out (nin0 hl0)]; exact hl
   have c_g : Hc gr = some (.list (p1'.gr.map row4)) := by rw [hHc, wo_out (nin0 hg0)]; exact hgr
   have c_1 : CAt Hc c1 W.op W.v v1 level man p1'.up p1'.low p1'.gr (cpV level p1'.up) [] := by rw [hHc]; exact hc12.woL live0 sep
   have c_none : ∀ x ∈ v0.l, Hc x = none := fun x hx => by rw [hHc]; exact wo_in hx
   have hBc := hB.ext Xbc
   have hstc := hst2.ext Xbc
   have sk : Hc W.bk = some (.sdict g) := Xbc _ _ s1
   have inl0 : v0.A ∈ v0.l ∧ v0.B ∈ v0.l ∧ v0.GP ∈ v0.l ∧ v0.DL ∈ v0.l ∧ v0.CP ∈ v0.l := ⟨W7.iA, W7.iB, W7.iGP, W7.iDL, W7.iCP⟩
   obtain ⟨in1, in2, in3, in4, in5⟩ := inl0
   walk_at "s"
   refine k_or_f rfl ?_
   walk_at "s"
   refine i_list (x2 _ _ hm1) (by decide) (by decide) rfl ?_
   refine k_or_f rfl ?_
   walk_at "s"
   refine i_list (x2 _ _ hm1) (by decide) (by decide) rfl ?_
   refine k_f rfl ?_
   walk_at "s"
   refine i_list (x2 _ _ hm1) (by decide) (by decide) rfl ?_
   walk_at "s"
   refine CI W _ _ _ _ _ _ _ _ _ _ hW (hB.ext (X1.trans x2)) hc02 hu hl hgr f1 f2 f4 f6 f3 f5 f7 fun H3 x3 => ?_
   have Xc3 := Xc.trans x3
   have hc03 := hc02.ext x3
   walk_at "s"
   refine k_f rfl ?_
   walk_at "s"
   refine i_list (Xc3 _ _ c_m0) (by decide) (by decide) rfl ?_
   refine c_inputs hc03 ?_
   walk_at "s"
   refine c_in0 hc03 ?_
   walk_at "s"
   refine i_list (Xc3 _ _ c_m0) (by decide) (by decide) rfl ?_
   refine c_inputs hc03 ?_
   walk_at "s"
   refine c_in1 hc03 ?_
   walk_at "s"
   refine i_list (Xc3 _ _ c_m0) (by decide) (by decide) rfl ?_
   refine c_gp hc03 ?_
   walk_at "s"
   refine ⟨sm rfl, ?_⟩
   refine f_tup (sm rfl) ?_
   let I2 : List V → Lo → AH → Prop := fun vs ρ H' => Sx4 fun (up0 low0 gr0 : List Fi) (jj : Int) => A13 (vs = [.ref v0.A, .ref v0.B, .ref v0.GP] ∨ vs = [.ref v0.B, .ref v0.GP] ∨ vs = [.ref v0.GP] ∨ vs = []) (Ext Hc H') (CAt H' c0 W.op W.v v0 level man up0 low0 gr0 (cpV level p1'.up) []) (up0.length + vs.length ≤ 103) (low0.length + vs.length ≤ 103) (gr0.length + vs.length ≤ 103) (ρ .j = some (.int jj)) (0 ≤ jj) (ρ .made = some (.ref m0)) (ρ .book = some (.ref W.bk)) (ρ .level = some (.int level)) (ρ .way = some (.int way)) (ρ .plan = some (.tup [.int level, .bool man, .ref u, .ref l, .ref gr]))
   refine forA_inv I2 ?_ ?_ _ _ _
    ⟨_, _, _, way, .inl rfl, Xc3, hc03, by simp; omega, by simp; omega, by simp; omega, rfl, w0, by exact r1, by exact r2, by exact r3, by exact r7, rfl⟩
   ·rintro v rest ρ H4 ⟨up0, low0, gr0, jj, hvs, X4, hc04, z1, z2, z3, q1, q2, q3, q4, q5, q6, q7⟩ R Rn - - -
    have m0' := Int.emod_nonneg jj (b := 3) (by decide)
    have m1' := Int.emod_lt_of_pos jj (b := 3) (by decide)
    rw [List.length_cons] at z1 z2 z3
    have fin : ∀ (H5 : AH) (ρ' : Lo) (up0 low0 gr0 : List Fi), Ext Hc H5 → CAt H5 c0 W.op W.v v0 level man up0 low0 gr0 (cpV level p1'.up) [] → up0.length + rest.length ≤ 103 → low0.length + rest.length ≤ 103 → gr0.length + rest.length ≤ 103 → (rest = [.ref v0.B, .ref v0.GP] ∨ rest = [.ref v0.GP] ∨ rest = []) → ρ' .j = some (.int (jj + 1)) →
      ρ' .made = some (.ref m0) → ρ' .book = some (.ref W.bk) → ρ' .level = some (.int level) → ρ' .way = some (.int way) → ρ' .plan = some (.tup [.int level, .bool man, .ref u, .ref l, .ref gr]) → R .nx ρ' H5 := by
     intro H5 ρ' up0 low0 gr0 X5 hc05 z1 z2 z3 hvs t1 t2 t3 t4 t5 t6
     exact Rn _ _ trivial ⟨up0, low0, gr0, jj + 1, .inr hvs, X5, hc05, z1, z2, z3, t1, by omega, t2, t3, t4, t5, t6⟩
    show exSs Φ _ _ _ _
    rcases hvs with hvs | hvs | hvs | hvs
    ·cases hvs
     walk_at "s"
     refine o_mod (by decide) ?_
     walk_at "s"
     obtain ⟨vs, l1', l2'⟩ := id hc04.a
     refine CS _ _ _ _ _ _ _ _ _ (X4 _ _ sk) s6 l1' (by rw [l2'.len]; omega) (by decide) (by decide) m0' (by omega) fun H5 ws ev hl5 sp => ?_
     rw [show spoilV 0 W.st = .ref sta from hst1] at sp
     obtain ⟨up0', z1', hc05⟩ := hc04.splA (hstc.ext X4) ev hl5 (fun vs' e => by rw [l1'] at e; cases e; exact sp)
     walk_at "s"
     exact fin H5 _ up0' low0 gr0 (fun b O eb => ev _ _ (fun z => (no_ns z.symm (c_none _ in1) eb)) (X4 _ _ eb)) hc05 (by omega) (by omega) (by omega) (.inl rfl) rfl (by exact q3) (by exact q4) (by exact q5) (by exact q6) (by exact q7)
    ·cases hvs
     walk_at "s"
     refine o_mod (by decide) ?_
     walk_at "s"
     obtain ⟨vs, l1', l2'⟩ := id hc04.b
     refine CS _ _ _ _ _ _ _ _ _ (X4 _ _ sk) s6 l1' (by rw [l2'.len]; omega) (by decide) (by decide) m0' (by omega) fun H5 ws ev hl5 sp => ?_
     rw [show spoilV 0 W.st = .ref sta from hst1] at sp
     obtain ⟨low0', z1', hc05⟩ := hc04.splB (hstc.ext X4) ev hl5 (fun vs' e => by rw [l1'] at e; cases e; exact sp)
     walk_at "s"
     exact fin H5 _ up0 low0' gr0 (fun b O eb => ev _ _ (fun z => (no_ns z.symm (c_none _ in2) eb)) (X4 _ _ eb)) hc05 (by omega) (by omega) (by omega) (.inr (.inl rfl)) rfl (by exact q3) (by exact q4) (by exact q5) (by exact q6) (by exact q7)
    ·cases hvs
     walk_at "s"
     refine o_mod (by decide) ?_
     walk_at "s"
     obtain ⟨vs, l1', l2'⟩ := id hc04.gp
     refine CS _ _ _ _ _ _ _ _ _ (X4 _ _ sk) s6 l1' (by rw [l2'.len]; omega) (by decide) (by decide) m0' (by omega) fun H5 ws ev hl5 sp => ?_
     rw [show spoilV 0 W.st = .ref sta from hst1] at sp
     obtain ⟨gr0', z1', hc05⟩ := hc04.splG (hstc.ext X4) ev hl5 (fun vs' e => by rw [l1'] at e; cases e; exact sp)
     walk_at "s"
     exact fin H5 _ up0 low0 gr0' (fun b O eb => ev _ _ (fun z => (no_ns z.symm (c_none _ in3) eb)) (X4 _ _ eb)) hc05 (by omega) (by omega) (by omega) (.inr (.inr rfl)) rfl (by exact q3) (by exact q4) (by exact q5) (by exact q6) (by exact q7)
    ·cases hvs
   ·rintro ρ H4 ⟨up0, low0, gr0, jj, -, X4, hc04, z1, z2, z3, q1, q2, q3, q4, q5, q6, q7⟩
    simp only [List.length_nil, Nat.add_zero] at z1 z2 z3
    have m0' := Int.emod_nonneg way (b := 3) (by decide)
    have m1' := Int.emod_lt_of_pos way (b := 3) (by decide)
    refine K_nx ?_
    walk_at "s"
    refine i_list (X4 _ _ c_m0) (by decide) (by decide) rfl ?_
    refine c_inputs hc04 ?_
    walk_at "s"
    refine c_in0 hc04 ?_
    refine comp_num (j := level) (fun v H Q hq => v_var (by exact q5) hq) hc04.a (by omega) fun t1 H5 x5 ht1 ht1' => ?_
    walk_at "s"
    have X5 := X4.trans x5
    refine i_list (X5 _ _ c_m0) (by decide) (by decide) rfl ?_
    refine c_inputs (hc04.ext x5) ?_
    walk_at "s"
    refine c_in1 (hc04.ext x5) ?_
    refine comp_num (j := level + 1) (fun v H Q hq => v_bin (v_var (by exact q5) (v_int (o_add hq)))) (hc04.ext x5).b (by omega) fun t2 H6 x6 ht2 ht2' => ?_
    refine o_addL (x6 _ _ ht1') ht2' (by unfold smallL delV; simp; omega) (by unfold smallL delV; simp; omega) (n_new fun t3 H7 x7 ht3 ht3' => ?_)
    have X7 := (X5.trans x6).trans x7
    have hc07 := ((hc04.ext x5).ext x6).ext x7
    walk_at "s"
    refine i_list (X7 _ _ c_m0) (by decide) (by decide) rfl ?_
    obtain ⟨gc, gc1, gc2, gc3⟩ := id hc07.fl
    refine k_meth ⟨_, gc1, gc2⟩ rfl ?_
    walk_at "s"
    refine CA _ _ _ _ _ _ _ _ _ _ _ _ _ hc07 (by omega) (by omega) (by simp) fun O hc08 => ?_
    have nt3 : t3 ≠ v0.DL := fun z => by
     have := ((hc04.ext x5).ext x6).edit.dl
     rw [← z, ht3] at this; cases this
    have X8 : Ext Hc (H7.set v0.DL O) := Ext.set X7 (c_none _ in4)
    have ht8 : (H7.set v0.DL O) t3 = some (.list (delV level up0 ++ delV (level + 1) low0)) := by rw [set_other nt3]; exact ht3'
    generalize H7.set v0.DL O = H8 at hc08 X8 ht8 ⊢
    walk_at "s"
    refine i_list (X8 _ _ c_m0) (by decide) (by decide) rfl ?_
    refine c_edit_ hc08 ?_
    obtain ⟨⟨ge, g1, g2, g3, g4, g5⟩, g6, g7, g8⟩ := id hc08.edit
    refine g_attr g1 g3 ?_
    walk_at "s"
    refine c_neR (q_list (eq_lists g7 ht8 (by simp) (eqFs_self (by simpa using fun x hx => hx.elim (delV_eq x) (delV_eq x)))) ?_)
    refine k_f rfl ?_
    walk_at "s"
    refine i_list (X8 _ _ c_m0) (by decide) (by decide) rfl ?_
    refine c_edit_ hc08 ?_
    refine g_attr g1 g3 ?_
    walk_at "s"
    refine o_mod (by decide) ?_
    walk_at "s"
    refine CS _ _ _ _ _ _ _ _ _ (X8 _ _ sk) s6 g7 (by simp [delV]; omega) (by decide) (by decide) m0' (by omega) fun H9 ws ev hl9 _ => ?_
    have X9 : Ext Hc H9 := fun b O eb => ev _ _ (fun z => (no_ns z.symm (c_none _ in4) eb)) (X8 _ _ eb)
    have hc09 := CAt.ext (evo_ext ev hl9) hc08.setDL
    walk_at "s"
    refine i_list (X9 _ _ c_m0) (by decide) (by decide) rfl ?_
    refine c_edit_ hc09 ?_
    obtain ⟨⟨ge, g1, g2, g3, g4, g5⟩, g6, g7, g8⟩ := id hc09.edit
    refine g_attr g1 g2 ?_
    walk_at "s"
    refine o_mod (by decide) ?_
    walk_at "s"
    refine CS _ _ _ _ _ _ _ _ _ (X9 _ _ sk) s6 g6 (by simp [cpV]) (by decide) (by decide) m0' (by omega) fun H10 ws ev hl10 _ => ?_
    have X10 : Ext Hc H10 := fun b O eb => ev _ _ (fun z => (no_ns z.symm (c_none _ in5) eb)) (X9 _ _ eb)
    walk_at "s"
    refine i_list (X10 _ _ c_m0) (by decide) (by decide) rfl ?_
    walk_at "s"
    refine CI W _ _ _ _ _ _ _ _ _ _ hW (hBc.ext X10) (c_1.ext X10) (X10 _ _ c_u) (X10 _ _ c_l) (X10 _ _ c_g) f1 f2 f4 f6 f3 f5 f7 fun H11 x11 => ?_
    have X11 := X10.trans x11
    have hc11 := c_1.ext X11
    walk_at "s"
    refine k_f rfl ?_
    walk_at "s"
    refine i_list (X11 _ _ c_m0) (by decide) (by decide) rfl ?_
    obtain ⟨gc, gc1, gc2, gc3⟩ := id hc11.fl
    refine k_meth ⟨_, gc1, gc2⟩ rfl ?_
    walk_at "s"
    refine CA _ _ _ _ _ _ _ _ _ _ _ _ _ hc11 (by omega) (by omega) (by simp) fun O hc12 => ?_
    have dlin : v1.DL ∈ v1.l := W7.iDL
    have Xb12 : Ext Hb (H11.set v1.DL O) := Ext.set (Xbc.trans X11) (b3 _ dlin)
    have k12 : (H11.set v1.DL O) W.KP = some (.list xs) := by rw [set_other (fun z => b2 (by rw [z]; exact dlin))]; exact X11 _ _ c_KP
    have m12 : (H11.set v1.DL O) m0 = some (.list [.ref c0, .ref c1]) := by rw [set_other (fun z => b1 (by rw [z]; exact dlin))]; exact X11 _ _ c_m0
    have live1 := hc1.edit.dl
    have u12 : (H11.set v1.DL O) u = some (.list (p1'.up.map row4)) := by rw [set_other (fun z => (no_ns z hu0 live1))]; exact X11 _ _ c_u
    have l12 : (H11.set v1.DL O) l = some (.list (p1'.low.map row4)) := by rw [set_other (fun z => (no_ns z hl0 live1))]; exact X11 _ _ c_l
    generalize H11.set v1.DL O = H12 at hc12 Xb12 k12 m12 u12 l12 ⊢
    walk_at "s"
    refine i_list m12 (by decide) (by decide) rfl ?_
    refine c_edit_ hc12 ?_
    obtain ⟨⟨ge, g1, g2, g3, g4, g5⟩, g6, g7, g8⟩ := id hc12.edit
    refine g_attr g1 g3 ?_
    walk_at "s"
    refine i_tup (by decide) (by decide) rfl ?_
    refine comp_num4 (j := level) (fun v H Q hq => v_var (by exact q5) hq) u12 (by omega) fun t4 H13 x13 ht4 ht4' => ?_
    walk_at "s"
    refine i_tup (by decide) (by decide) rfl ?_
    refine comp_num4 (j := level + 1) (fun v H Q hq => v_bin (v_var (by exact q5) (v_int (o_add hq)))) (x13 _ _ l12) (by omega) fun t5 H14 x14 ht5 ht5' => ?_
    refine o_addL (x14 _ _ ht4') ht5' (by unfold smallL delV; simp; omega) (by unfold smallL delV; simp; omega) (n_new fun t6 H15 x15 ht6 ht6' => ?_)
    have X15 := (x13.trans x14).trans x15
    refine c_eqR (q_list (eq_lists (X15 _ _ g7) ht6' (by simp) (eqFs_self (by simpa using fun x hx => hx.elim (delV_eq x) (delV_eq x)))) ?_)
    walk_at "s"
    exact hQ _ ⟨Hb, xs, Xb12.trans X15, hKP, hB, X15 _ _ k12, hKept, hxk⟩
theorem St2.mono {H : AH} {W : Wd} {k m : Nat} (h : St2 H W k) (l : k ≤ m) : St2 H W m := by
 obtain ⟨Hb, xs, h1, h2, h3, h4, h5, h6⟩ := h
 exact ⟨Hb, xs, h1, h2, h3, h4, h5, by omega⟩
theorem candLv_snoc {p : Int} {fs : List Fi} {a : List (List Fi)} {i : Int} : candLv p i (a ++ [fs]) = candLv p i a ++ (touchP fs p p).map (i + a.length, ·) := by
 induction a generalizing i with
 | nil => rw [List.nil_append, candLv_cons, show i + (([] : List (List Fi)).length : Int) = i from Int.add_zero i]; exact List.append_nil _
 | cons g a ih => rw [List.cons_append, candLv_cons, candLv_cons, ih, List.append_assoc, List.length_cons, show i + 1 + (a.length : Int) = i + ((a.length + 1 : Nat) : Int) from by omega]
noncomputable def candS (p : Int) (j : Int) (fs : List Fi) : List (Int × Fi) := if j = 0 then (touchP fs p p).reverse.map (j, ·) else (touchP fs p p).map (j, ·)
theorem candP_take {p : Int} {L : List (List Fi)} {j : Nat} {fs : List Fi} (h : L[j]? = some fs) : candP p (L.take (j + 1)) = candP p (L.take j) ++ candS p j fs := by
 rw [take_succ h]
 cases L with
 | nil => simp at h
 | cons g r =>
  cases j with
  | zero =>
   cases h
   exact List.append_nil _
  | succ j =>
   simp at h
   rw [List.take_succ_cons, List.cons_append]
   unfold candP
   dsimp only
   have hl := (List.getElem?_eq_some_iff.mp h).1
   rw [candLv_snoc, List.append_assoc]
   unfold candS
   rw [if_neg (by omega)]
   rw [List.length_take, Nat.min_eq_left (by omega), show (1 : Int) + (j : Int) = ((j + 1 : Nat) : Int) from by omega]
theorem touch_lvlen {L : List (List Fi)} {i : Nat} {fs : List Fi} (h : L[i]? = some fs) : fs.length ≤ L.flatten.length := (List.sublist_flatten_of_mem (List.mem_of_getElem? h)).length_le
theorem comp_at {Φ : Phi} {ρ : Lo} {H : AH} {Q : PV} {l : Addr} {fs : List Fi} {j : Int} (hj : ρ .«at» = some (.int j)) (hl : H l = some (.list (fs.map rowK))) (hz : fs.length ≤ 1000) (hQ : ∀ a H', Ext H H' → H a = none → H' a = some (.list ((fs.map (j, ·)).map rowC)) → Q (.ref a) H') :
  compK Φ (.tup (.cons (.var .«at») (.cons (.var .row) .nil))) .row .nil ρ (.ref l) H Q := by
 refine k_comp hl (by unfold smallL; simp; omega) ?_
 let I1 : List V → List V → AH → Prop := fun us acc H' => H = H' ∧ Sx2 fun done todo => A3 (fs = done ++ todo) (us = todo.map rowK) (acc = (done.map (j, ·)).map rowC)
 refine compA_inv I1 ?_ ?_ _ _ _ ⟨rfl, [], fs, rfl, rfl, rfl⟩
 ·rintro v rest acc H1 ⟨rfl, done, todo, q1, q2, rfl⟩ R hR
  cases todo with
  | nil => cases q2
  | cons f todo =>
   cases q2
   have hdl : done.length ≤ fs.length := by rw [q1]; simp
   refine cc_nil ?_
   show evA _ _ _ _ _
   refine v_tup (es_cons (v_var (by exact hj) (es_cons (v_var (by exact rfl) (es_nil ?_)))))
   exact ⟨sm rfl, by unfold smallL; simp; omega, hR _ _ hl ⟨rfl, done ++ [f], todo, by rw [q1]; simp, rfl, by simp [rowC]⟩⟩
 ·rintro acc H1 ⟨rfl, done, todo, q1, q2, rfl⟩
  have : todo = [] := by cases todo with | nil => rfl | cons _ _ => cases q2
  subst this
  rw [List.append_nil] at q1
  subst q1
  exact n_new fun a H2 x2 ha hl2 => hQ a H2 x2 ha hl2
noncomputable def C_lask (Φ : Phi) : Prop := ∀ (W : Wd) (t : Int) (k : Nat) (H : AH) (Q : PV), Wok W → St2 H W k → k ≤ 900 → 0 ≤ t → (∀ H', St2 H' W (k + 1) → Q (.bool true) H') → Φ .law_ask [.ref W.bk, .int t] H Q
theorem c_lask (n : Nat) : C_lask (phi (n + 10)) := by
 intro W t k H Q hW hS hk ht hQ
 refine phi_call (body := law_ask_body) rfl rfl ?_; intro ρ0
 have CL : C_lapp (phi (n + 9)) := c_lapp (n + 5)
 have CN : C_lnum (phi (n + 9)) := c_lnum (n + 5)
 have CP : C_lpair (phi (n + 9)) := c_lpair n
 have CT : C_take (phi (n + 9)) := c_take (n + 6)
 have CLt : C_ltouch (phi (n + 9)) := c_ltouch (n + 8)
 have CR : C_lrows (phi (n + 9)) := c_lrows (n + 6)
 have CC : C_cand (phi (n + 9)) := c_cand (n + 3)
 have CK : C_likey (phi (n + 9)) := c_likey (n + 7)
 have CO : C_octets (phi (n + 9)) := c_octets (n + 8)
 have CLo : C_loct (phi (n + 9)) := c_loct (n + 8)
 have CLa : C_laps (phi (n + 9)) := c_laps (n + 3)
 have CU : C_luser (phi (n + 9)) := c_luser (n + 8)
 generalize phi (n + 9) = Φ at CL CN CP CT CLt CR CC CK CO CLo CLa CU ⊢
 have hS0 := hS
 obtain ⟨Hb, xs, X, hKP, hB, hK, hKept, hxk⟩ := hS
 obtain ⟨⟨g, s1, s2, s3, s4, s5, s6, s7⟩, htv, hop, hver, hpk, hst⟩ := id hB
 have n3 := hW.n3
 have n4 := hW.n4
 have hfew := hW.L.ok.few
 have htot := hW.L.tot
 obtain ⟨gv, _, _, _, v1, _⟩ := id hver
 obtain ⟨as, t1, t2⟩ := id htv
 have tl : (as.map V.ref).length = W.L.length := by rw [List.length_map, t2.len, List.length_map]
 obtain ⟨N, hN⟩ : ∃ N : Int, N = W.L.length := ⟨_, rfl⟩
 obtain ⟨way, hway⟩ : ∃ way : Int, way = t % 4 := ⟨_, rfl⟩
 obtain ⟨act, hact⟩ : ∃ act : Int, act = t / 4 % 7 := ⟨_, rfl⟩
 obtain ⟨level, hlevel⟩ : ∃ level : Int, level = t / 28 % N := ⟨_, rfl⟩
 obtain ⟨lo, hlo⟩ : ∃ lo : Int, lo = t / 112 % 9 := ⟨_, rfl⟩
 obtain ⟨hi, hhi⟩ : ∃ hi : Int, hi = t / 1008 % 9 := ⟨_, rfl⟩
 have w0 : 0 ≤ way ∧ way ≤ 3 := by omega
 have a0 : 0 ≤ act ∧ act ≤ 6 := by omega
 have l0 : 0 ≤ level := by rw [hlevel]; exact Int.emod_nonneg _ (by omega)
 have l1 : level < N := by rw [hlevel]; exact Int.emod_lt_of_pos _ (by omega)
 have plo : Pb lo := by unfold Pb; omega
 have phi' : Pb hi := by unfold Pb; omega
 have p8 : Pb 8 := by unfold Pb; omega
 walk_at "s"
 refine g_key (X _ _ s1) s2 ?_
 walk_at "s"
 refine g_key (X _ _ s1) s4 ?_
 walk_at "s"
 refine o_mod (by decide) ?_
 rw [← hway]
 walk_at "s"
 refine o_fdiv (by decide) (by decide) ?_
 walk_at "s"
 refine o_mod (by decide) ?_
 rw [← hact]
 walk_at "s"
 refine o_fdiv (by decide) (by decide) ?_
 walk_at "s"
 refine bi_lenN (N := N) (X _ _ t1) (by unfold smallL; omega) (by rw [tl]; exact hN) ?_
 refine o_mod (by omega) ?_
 rw [← hlevel]
 walk_at "s"
 refine o_fdiv (by decide) (by decide) ?_
 walk_at "s"
 refine o_mod (by decide) ?_
 rw [← hlo]
 walk_at "s"
 refine o_fdiv (by decide) (by decide) ?_
 walk_at "s"
 refine o_mod (by decide) ?_
 rw [← hhi]
 walk_at "s"
 have lz : ∀ i : Int, (lvl W.L i).length ≤ 100 ∧ FsOk (lvl W.L i) := fun i => by
  unfold lvl
  cases q : W.L[i.toNat]? with
  | none => exact ⟨by simp, fun f hf => by simp at hf⟩
  | some fs => exact hW.L.ok.each fs (List.mem_of_getElem? q)
 refine k_ite (fun c => ?_) (fun c => ?_)
 ·walk_at "s"
  refine CL W level lo hi way k _ _ hW hS0 (by omega) l0 (by omega) plo phi' w0.1 w0.2 fun H' h' => ?_
  walk_at "s"
  exact hQ H' h'
 replace c := ci_lt_f.mp c
 walk_at "s"
 refine k_ite (fun c => ?_) (fun c => ?_)
 ·walk_at "s"
  refine CL W level 8 8 way k _ _ hW hS0 (by omega) l0 (by omega) p8 p8 w0.1 w0.2 fun H' h' => ?_
  walk_at "s"
  exact hQ H' h'
 walk_at "s"
 refine k_ite (fun c => ?_) (fun c => ?_)
 ·obtain ⟨p, hp⟩ : ∃ p : Int, p = lo % 8 := ⟨_, rfl⟩
  have pl : Pl p := by unfold Pl; omega
  walk_at "s"
  refine ⟨sm rfl, n_new fun w1 H1 x1 hw0 hw1 => ?_⟩
  have nwK : w1 ≠ W.KP := fun z => (no_ns z hw0 hK)
  walk_at "s"
  refine bi_lenN (N := N) (x1 _ _ (X _ _ t1)) (by unfold smallL; omega) (by rw [tl]; exact hN) ?_
  walk_at "s"
  with_reducible refine r_one (by omega) (by omega) ?_
  let I2 : List V → Lo → AH → Prop := fun rest ρ H2 => Sx2 fun (j : Int) (wa : Addr) => A13 (rest = rangeV j N) (0 ≤ j) (j ≤ N) (Ext H H2) (H2 wa = some (.list ((candP p (W.L.take j.toNat)).map rowC))) (wa ≠ W.KP) (ρ .want = some (.ref wa)) (ρ .levels = some (.ref W.LB)) (ρ .version = some (.ref W.v)) (ρ .book = some (.ref W.bk)) (ρ .low = some (.int lo)) (ρ .high = some (.int hi)) (ρ .way = some (.int way))
  refine forA_inv I2 ?_ ?_ _ _ _
   ⟨0, w1, rfl, by omega, by omega, x1, by rw [hw1]; rfl, nwK, rfl, rfl, rfl, rfl, rfl, rfl, rfl⟩
  ·rintro v rest ρ H2 ⟨j, wa, hr, j0, j1, x2, hwa, nwa, r1, r2, r3, r4, r5, r6, r7⟩ R Rn - - -
   obtain ⟨c1, rfl, rfl⟩ := rangeV_inv hr
   have hlj := lvl_get (L := W.L) (i := j) j0 (by omega)
   have hz := (lz j).1
   have hcl : (candP p (W.L.take j.toNat)).length ≤ 63 := by
    have h1 := candP_len (p := p) (L := W.L.take j.toNat)
    have h2 : (W.L.take j.toNat).flatten.length ≤ W.L.flatten.length := by
     have := congrArg (fun l => l.flatten.length) (List.take_append_drop j.toNat W.L)
     simp only [List.flatten_append, List.length_append] at this
     omega
    omega
   have htz : (touchP (lvl W.L j) p p).length ≤ 100 := Nat.le_trans touch_len hz
   have X2 := X.trans x2
   show exSs Φ _ _ _ _
   walk_at "s"
   refine (htv.ext X2).at j0 (by omega) hfew fun la hla => ?_
   walk_at "s"
   refine o_mod (by decide) ?_
   rw [← hp]
   walk_at "s"
   refine o_mod (by decide) ?_
   rw [← hp]
   walk_at "s"
   refine CLt _ _ _ _ _ _ hla (by omega) fun ta H3 x3 hta hta' => ?_
   walk_at "s"
   refine CR _ _ _ _ hta' (by omega) (lz j).2.touch fun ra H4 x4 hra hra' => ?_
   refine comp_at (j := j) (by exact rfl) hra' (by omega) fun ca H5 x5 hca hca' => ?_
   have x25 := (x3.trans x4).trans x5
   have nca : ca ≠ wa := fun z => (no_ns z hca (x4 _ _ (x3 _ _ hwa)))
   have hcaH : H ca = none := ((x2.trans x3).trans x4).none hca
   have hstep : candP p (W.L.take (j + 1).toNat) = candP p (W.L.take j.toNat) ++ candS p j (lvl W.L j) := by
    have := candP_take (p := p) hlj
    rw [show (j.toNat : Int) = j from by omega] at this
    rw [show (j + 1).toNat = j.toNat + 1 from by omega]; exact this
   walk_at "s"
   refine k_iteJ (fun ρ' H6 => Ext H H6 ∧ H6 ca = some (.list ((candS p j (lvl W.L j)).map rowC)) ∧ H6 wa = some (.list ((candP p (W.L.take j.toNat)).map rowC)) ∧ H6 W.KP = some (.list xs) ∧ ρ' .there = some (.ref ca) ∧ ρ' .want = some (.ref wa) ∧ ρ' .levels = some (.ref W.LB) ∧ ρ' .version = some (.ref W.v) ∧ ρ' .book = some (.ref W.bk) ∧ ρ' .low = some (.int lo) ∧ ρ' .high = some (.int hi) ∧ ρ' .way = some (.int way)) (fun c R hR => ?_) (fun c R hR => ?_) ?_
   ·replace c := ci_eq_t.mp c
    walk_at "s"
    refine k_lm hca' ?_
    walk_at "s"
    refine l_reverse hca' (by unfold smallL; simp; omega) ?_
    walk_at "s"
    refine hR _ _ ⟨Ext.set (x2.trans x25) hcaH, ?_, ?_, ?_, rfl, by exact r1, by exact r2, by exact r3, by exact r4, by exact r5, by exact r6, by exact r7⟩
    ·rw [set_same]
     unfold candS; rw [if_pos c]; simp
    ·rw [set_other (Ne.symm nca)]; exact x25 _ _ hwa
    ·rw [set_other (fun z => (no_ns z.symm hca (x4 _ _ (x3 _ _ (x2 _ _ hK)))))]; exact x25 _ _ (x2 _ _ hK)
   ·replace c := ci_eq_f.mp c
    refine x_nil (hR _ _ ⟨x2.trans x25, ?_, x25 _ _ hwa, x25 _ _ (x2 _ _ hK), rfl, by exact r1, by exact r2, by exact r3, by exact r4, by exact r5, by exact r6, by exact r7⟩)
    rw [hca']; unfold candS; rw [if_neg c]
   ·rintro ρ' H6 ⟨x6, hca6, hwa6, hK6, q0, q1, q2, q3, q4, q5, q6, q7⟩
    have hsz : (candS p j (lvl W.L j)).length ≤ 100 := by unfold candS; split <;> simpa using htz
    walk_at "s"
    refine o_addL hwa6 hca6 (by unfold smallL; simp; omega) (by unfold smallL; simp; omega) (n_new fun wb H7 x7 hwb hwb' => ?_)
    walk_at "s"
    refine Rn _ _ trivial ⟨j + 1, wb, rfl, by omega, by omega, x6.trans x7, ?_, fun z => (no_ns z hwb hK6), rfl, by exact q2, by exact q3, by exact q4, by exact q5, by exact q6, by exact q7⟩
    rw [hwb', hstep, List.map_append]
  ·rintro ρ H2 ⟨j, wa, hr, j0, j1, x2, hwa, nwa, r1, r2, r3, r4, r5, r6, r7⟩
   have hnl := rangeV_nil_inv hr
   rw [List.take_of_length_le (by omega)] at hwa
   have X2 := X.trans x2
   refine K_nx ?_
   walk_at "s"
   refine k_meth (v1.ext X2) rfl ?_
   walk_at "s"
   refine o_mod (by decide) ?_
   rw [← hp]
   walk_at "s"
   refine CK _ _ _ _ pl (by omega) (by omega) fun H3 x3 => ?_
   walk_at "s"
   refine CC _ _ _ _ _ _ _ _ _ (hver.ext (X2.trans x3)) hW.L pl (by omega) (by omega) fun a vs H4 x4 ha ha1 ha2 => ?_
   have X4 := (X2.trans x3).trans x4
   have hK4 := x4 _ _ (x3 _ _ (x2 _ _ hK))
   have naK : a ≠ W.KP := fun z => (no_ns z ha (x3 _ _ (x2 _ _ hK)))
   have hcz := candP_len (p := p) (L := W.L)
   walk_at "s"
   refine CT W _ _ _ _ xs vs _ k Hb _ _ X4 hKP hB hK4 hKept hxk (by omega) ha1 (x4 _ _ (x3 _ _ hwa)) (by rw [ha2.len]; omega) (.inr (.inl ⟨rfl, _, ha2, rfl⟩)) ((X2.trans x3).none ha) naK nwa w0.1 w0.2 fun H' h' => ?_
   walk_at "s"
   exact hQ H' h'
 walk_at "s"
 refine k_ite (fun c => ?_) (fun c => ?_)
 ·have hlv := lvl_get (L := W.L) (i := level) l0 (by omega)
  have hz := (lz level).1
  walk_at "s"
  refine k_meth (v1.ext X) rfl ?_
  walk_at "s"
  refine CO _ _ _ _ _ _ _ _ _ (hver.ext X) hW.L.ok l0 hlv ?_
  walk_at "s"
  refine (htv.ext X).at l0 (by omega) hfew fun la hla => ?_
  walk_at "s"
  refine CLo _ _ _ _ hla (by omega) fun H1 x1 => ?_
  walk_at "s"
  refine k_f (by rw [ci_ne_f]) ?_
  have X1 := X.trans x1
  walk_at "s"
  refine k_meth (v1.ext X1) rfl ?_
  walk_at "s"
  refine CU _ _ _ plo fun H2 x2 => ?_
  walk_at "s"
  refine CU _ _ _ phi' fun H3 x3 => ?_
  walk_at "s"
  have X3 := (X1.trans x2).trans x3
  refine CLa _ _ _ _ _ _ _ _ _ _ _ (hver.ext X3) hW.L l0 hlv plo phi' fun b H4 x4 hb => ?_
  have X4 := X3.trans x4
  walk_at "s"
  refine (htv.ext X4).at l0 (by omega) hfew fun lb hlb => ?_
  walk_at "s"
  refine CLt _ _ _ _ _ _ hlb (by omega) fun ta H5 x5 hta hta' => ?_
  walk_at "s"
  have htz : (touchP (lvl W.L level) lo hi).length ≤ 100 := Nat.le_trans touch_len hz
  refine bi_lenL hta' (by unfold smallL; simp; omega) ?_
  walk_at "s"
  refine c_neB (k_f ?_ ?_)
  ·have : cmpI .gt (((touchP (lvl W.L level) lo hi).map row4).length : Int) 0 = b := by
    cases b with
    | true =>
     have := hb.mp rfl
     rw [ci_gt_t, List.length_map]
     have := List.length_pos_iff.mpr this
     omega
    | false =>
     have : touchP (lvl W.L level) lo hi = [] := by
      by_cases z : touchP (lvl W.L level) lo hi = []
      ·exact z
      ·have := hb.mpr z; cases this
     rw [this]; rfl
   rw [this]; simp
  ·walk_at "s"
   refine CN W way k _ _ hW (hS0.ext ((((x1.trans x2).trans x3).trans x4).trans x5)) (by omega) w0.1 w0.2 fun H' h' => ?_
   walk_at "s"
   exact hQ H' h'
 walk_at "s"
 refine k_ite (fun c => ?_) (fun c => ?_)
 ·walk_at "s"
  refine o_fdiv (by decide) (by decide) ?_
  walk_at "s"
  refine o_mod (by decide) ?_
  walk_at "s"
  refine k_iteJ (fun ρ' H1 => H = H1 ∧ ∃ lo' hi', Pb lo' ∧ Pb hi' ∧ ρ' .low = some (.int lo') ∧ ρ' .high = some (.int hi') ∧ ρ' .t = some (.int t) ∧ ρ' .book = some (.ref W.bk) ∧ ρ' .levels = some (.ref W.LB) ∧ ρ' .way = some (.int way)) (fun c R hR => ?_) (fun c R hR => ?_) ?_
  ·walk_at "s"
   exact hR _ _ ⟨rfl, 8, 8, p8, p8, rfl, rfl, rfl, rfl, rfl, rfl⟩
  ·exact x_nil (hR _ _ ⟨rfl, lo, hi, plo, phi', rfl, rfl, rfl, rfl, rfl, rfl⟩)
  ·rintro ρ' H1 ⟨rfl, lo', hi', q1, q2, r1, r2, r3, r4, r5, r6⟩
   walk_at "s"
   refine o_fdiv (by decide) (by decide) ?_
   walk_at "s"
   refine bi_lenN (N := N) (X _ _ t1) (by unfold smallL; omega) (by rw [tl]; exact hN) ?_
   walk_at "s"
   refine o_mod (by omega) ?_
   have m0 : 0 ≤ t / 28 % (N - 1) := Int.emod_nonneg _ (by omega)
   have m1 : t / 28 % (N - 1) < N - 1 := Int.emod_lt_of_pos _ (by omega)
   generalize t / 28 % (N - 1) = lv at m0 m1 ⊢
   walk_at "s"
   refine CP W lv lo' hi' way true k _ _ hW hS0 (fun _ => ⟨m0, by omega⟩) (fun z => by cases z) q1 q2 w0.1 w0.2 fun H' h' => ?_
   walk_at "s"
   exact hQ H' (h'.mono (by omega))
 ·walk_at "s"
  refine ver_lev (hver.ext X) ?_
  walk_at "s"
  refine CP W W.lev 8 8 way false k _ _ hW hS0 (fun z => by cases z) (fun _ => rfl) p8 p8 w0.1 w0.2 fun H' h' => ?_
  walk_at "s"
  exact hQ H' (h'.mono (by omega))
noncomputable def FZ (f : Fi) : Prop := f.ok ∧ 1 ≤ f.s ∧ f.s ≤ 12
noncomputable def Lay0 (fs : List Fi) : Prop := fs.length ≤ 4 ∧ ∀ (k : Nat) f, fs[k]? = some f → f.n = 5 + 3 * k ∧ FZ f
noncomputable def Lay1 (i : Nat) (fs : List Fi) : Prop := fs.length ≤ 4 ∧ Srt fs ∧ ∀ (k : Nat) f, fs[k]? = some f → f.n = 29 + 10 * i - k ∧ FZ f
structure LayOk (L : List (List Fi)) : Prop where
 z0 : ∃ fs, L[0]? = some fs ∧ fs ≠ [] ∧ Lay0 fs
 zi : ∀ (i : Nat) fs, 1 ≤ i → L[i]? = some fs → Lay1 i fs
set_option tactic.hygienic true in
theorem get_snoc {α : Type} {l : List α} {x y : α} {k : Nat} (h : (l ++ [x])[k]? = some y) : l[k]? = some y ∨ (k = l.length ∧ y = x) := by
 rw [List.getElem?_append] at h
 split at h
 ·exact .inl h
 ·rename_i hk
  have := (List.getElem?_eq_some_iff.mp h).1
  simp at this
  have e : k = l.length := by omega
  subst e
  simp at h
  exact .inr ⟨rfl, h.symm⟩
theorem LayOk.each {L : List (List Fi)} (h : LayOk L) {i : Nat} {fs : List Fi} (hi : L[i]? = some fs) : fs.length ≤ 4 ∧ (∀ f ∈ fs, FZ f) ∧ (∀ f ∈ fs, f.n ≤ 29 + 10 * (i : Int) ∧ (1 ≤ i → 26 + 10 * (i : Int) ≤ f.n)) ∧ (fs.map (·.n)).Nodup := by
 by_cases z : i = 0
 ·subst z
  obtain ⟨gs, g1, g2, g3, g4⟩ := h.z0
  rw [hi] at g1; cases g1
  refine ⟨g3, fun f hf => ?_, fun f hf => ?_, ?_⟩
  ·obtain ⟨k, hk, e⟩ := List.getElem_of_mem hf
   exact (g4 k f (by rw [List.getElem?_eq_getElem hk, e])).2
  ·obtain ⟨k, hk, e⟩ := List.getElem_of_mem hf
   have := (g4 k f (by rw [List.getElem?_eq_getElem hk, e])).1
   exact ⟨by omega, fun z => by omega⟩
  ·unfold List.Nodup
   rw [List.pairwise_map, List.pairwise_iff_getElem]
   intro a b ha hb hab
   have h1 := (g4 a _ (List.getElem?_eq_getElem ha)).1
   have h2 := (g4 b _ (List.getElem?_eq_getElem hb)).1
   omega
 ·obtain ⟨g3, g5, g4⟩ := h.zi i fs (by omega) hi
  refine ⟨g3, fun f hf => ?_, fun f hf => ?_, ?_⟩
  ·obtain ⟨k, hk, e⟩ := List.getElem_of_mem hf
   exact (g4 k f (by rw [List.getElem?_eq_getElem hk, e])).2
  ·obtain ⟨k, hk, e⟩ := List.getElem_of_mem hf
   have := (g4 k f (by rw [List.getElem?_eq_getElem hk, e])).1
   exact ⟨by omega, fun z => by omega⟩
  ·unfold List.Nodup
   rw [List.pairwise_map, List.pairwise_iff_getElem]
   intro a b ha hb hab
   have h1 := (g4 a _ (List.getElem?_eq_getElem ha)).1
   have h2 := (g4 b _ (List.getElem?_eq_getElem hb)).1
   omega
theorem flat_len {L : List (List Fi)} (h : ∀ fs ∈ L, fs.length ≤ 4) : L.flatten.length ≤ 4 * L.length := by
 induction L with
 | nil => simp
 | cons g r ih =>
  have h1 := h g (.head _)
  have h2 := ih fun fs hf => h fs (.tail _ hf)
  rw [List.flatten_cons, List.length_append, List.length_cons]; omega
theorem LayOk.mem {L : List (List Fi)} {fs : List Fi} (hf : fs ∈ L) : ∃ i : Nat, L[i]? = some fs := by
 obtain ⟨i, hi, e⟩ := List.getElem_of_mem hf
 exact ⟨i, by rw [List.getElem?_eq_getElem hi, e]⟩
theorem LayOk.lv {L : List (List Fi)} (h : LayOk L) (hl : L.length ≤ 4) (h0 : 0 < L.length) : LvOk L where
 ok := ⟨by omega, fun fs hf => by
  obtain ⟨i, hi⟩ := LayOk.mem hf
  obtain ⟨q1, q2, _⟩ := h.each hi
  exact ⟨by omega, fun f hf => (q2 f hf).1⟩⟩
 srt := fun i fs hi e => (h.zi i fs hi e).2.1
 inc := fun fs e a b f g hab ha hb => by
  obtain ⟨gs, g1, g2, g3, g4⟩ := h.z0
  rw [e] at g1; cases g1
  have h1 := (g4 a _ ha).1
  have h2 := (g4 b _ hb).1
  omega
 nod := by
  unfold List.Nodup
  rw [List.pairwise_map, List.pairwise_flatten]
  refine ⟨fun fs hf => ?_, ?_⟩
  ·obtain ⟨i, hi⟩ := LayOk.mem hf
   have := (h.each hi).2.2.2
   unfold List.Nodup at this
   rw [List.pairwise_map] at this; exact this
  ·rw [List.pairwise_iff_getElem]
   intro a b ha hb hab x hx y hy
   have h1 := ((h.each (List.getElem?_eq_getElem ha)).2.2.1 x hx).1
   have h2 := ((h.each (List.getElem?_eq_getElem hb)).2.2.1 y hy).2 (by omega)
   omega
 tot := by
  have := flat_len (L := L) fun fs hf => by obtain ⟨i, hi⟩ := LayOk.mem hf; exact (h.each hi).1
  omega
 pos := h0
theorem LayOk.nmd {L : List (List Fi)} (h : LayOk L) : Nmd L := ⟨fun i fs hi e => by
 obtain ⟨g3, g5, g4⟩ := h.zi i fs hi e
 rw [List.pairwise_iff_getElem]
 intro a b ha hb hab
 have h1 := (g4 a _ (List.getElem?_eq_getElem ha)).1
 have h2 := (g4 b _ (List.getElem?_eq_getElem hb)).1
 omega⟩
noncomputable def C_lay (Φ : Phi) : Prop := ∀ (l : Addr) (ns : List Int) (count : Int) (H : AH) (Q : PV), H l = some (.list (ns.map .int)) → ns ≠ [] → ns.length ≤ 100 → (∀ x ∈ ns, 0 ≤ x ∧ x < 1000000) → 1 ≤ count → count ≤ 4 →
 (∀ LB L H', Ext H H' → TV H' LB L → LayOk L → (L.length : Int) = count → Q (.ref LB) H') → Φ .law_lay [.ref l, .int count] H Q
theorem c_lay (n : Nat) : C_lay (phi (n + 2)) := by
 intro l ns count H Q hl hne hz hb c0 c4 hQ
 refine phi_call (body := law_lay_body) rfl rfl ?_; intro ρ0
 have CD : C_draw (phi (n + 1)) := c_draw n
 generalize phi (n + 1) = Φ at CD ⊢
 walk_at "s"
 refine ⟨sm rfl, n_new fun l0 H1 x1 hl0 hl0' => ?_⟩
 walk_at "s"
 refine ⟨sm rfl, n_new fun LB H2 x2 hLB hLB' => ?_⟩
 have nLl : LB ≠ l0 := fun z => (no_ns z hLB hl0')
 have fLB : H LB = none := x1.none hLB
 have X2 := x1.trans x2
 walk_at "s"
 refine CD _ _ _ _ _ (X2 _ _ hl) hne hz hb (by omega) (by omega) fun r hr0 hr1 => ?_
 refine v_int ?_
 refine o_mod (by decide) ?_
 obtain ⟨N0, hN0⟩ : ∃ N0 : Int, N0 = 1 + r % 4 := ⟨_, rfl⟩
 refine o_add ?_
 rw [← hN0]
 have hn0 : 1 ≤ N0 ∧ N0 ≤ 4 := by omega
 clear hN0
 refine es_nil ?_
 with_reducible refine r_one (by omega) (by omega) ?_
 let I1 : List V → Lo → AH → Prop := fun rest ρ H3 => Sx2 fun (j : Int) (fs : List Fi) => A11 (rest = rangeV j N0) (0 ≤ j) (j ≤ N0) ((fs.length : Int) = j) (Ext H H3) (H3 LB = some (.list [.ref l0])) (H3 l0 = some (.list (fs.map row4))) (Lay0 fs) (ρ .nums = some (.ref l)) (ρ .count = some (.int count)) (ρ .levels = some (.ref LB))
 refine forA_inv I1 ?_ ?_ _ _ _
  ⟨0, [], rfl, by omega, by omega, rfl, X2, hLB', x2 _ _ hl0', ⟨by simp, fun k f h => by simp at h⟩, rfl, rfl, rfl⟩
 ·rintro v rest ρ H3 ⟨j, fs, hr, j0, j1, hj, x3, e1, e2, hlay, r1, r2, r3⟩ R Rn - - -
  obtain ⟨c1, rfl, rfl⟩ := rangeV_inv hr
  show exSs Φ _ _ _ _
  walk_at "s"
  refine CD _ _ _ _ _ (x3 _ _ hl) hne hz hb (by omega) (by omega) fun z hz0 hz1 => ?_
  walk_at "s"
  refine i_list e1 (by decide) (by decide) rfl ?_
  refine k_lm e2 ?_
  walk_at "s"
  refine o_mul (by decide) (by omega) ?_
  walk_at "s"
  refine o_fdiv (by decide) (by decide) ?_
  walk_at "s"
  refine o_mod (by decide) ?_
  walk_at "s"
  refine o_mod (by decide) ?_
  walk_at "s"
  refine o_mod (by decide) ?_
  walk_at "s"
  refine o_fdiv (by decide) (by decide) ?_
  walk_at "s"
  refine o_mod (by decide) ?_
  walk_at "s"
  refine bi_min2 ?_
  obtain ⟨h, hh⟩ : ∃ h : Int, h = if z % 8 + z / 8 % 4 < 7 then z % 8 + z / 8 % 4 else 7 := ⟨_, rfl⟩
  rw [← hh]
  have hb1 : z % 8 ≤ h ∧ h ≤ 7 := by rw [hh]; split <;> omega
  walk_at "s"
  refine ⟨sm rfl, ?_⟩
  walk_at "s"
  refine l_append e2 (by unfold smallL; simp; omega) ?_
  walk_at "s"
  refine Rn _ _ trivial ⟨j + 1, fs ++ [⟨5 + 3 * j, 1 + z / 40 % 12, z % 8, h⟩], rfl, by omega, by omega, by simp; omega, Ext.set x3 hl0, ?_, ?_, ⟨by simp; omega, fun k f hk => ?_⟩, r1, r2, r3⟩
  ·rw [set_other nLl]; exact e1
  ·rw [set_same, List.map_append]; rfl
  ·rcases get_snoc hk with hk | ⟨rfl, rfl⟩
   ·exact hlay.2 k f hk
   ·refine ⟨?_, ⟨?_, ?_, ?_⟩, ?_, ?_⟩ <;> dsimp only <;> omega
 ·rintro ρ H3 ⟨j, fs0, hr, j0, j1, hj, x3, e1, e2, hlay, r1, r2, r3⟩
  have hnl := rangeV_nil_inv hr
  refine K_nx ?_
  walk_at "s"
  with_reducible refine r_two (by refine ⟨?_, ?_, ?_, ?_⟩ <;> omega) ?_
  let I2 : List V → Lo → AH → Prop := fun rest ρ H4 => Sx3 fun (i : Int) (as : List Addr) (L : List (List Fi)) => A11 (rest = rangeV i count) (1 ≤ i) (i ≤ count) ((L.length : Int) = i) (Ext H H4) (H4 LB = some (.list (as.map .ref))) (Os .list H4 as (L.map fun fs => fs.map row4)) (LB ∉ as) (LayOk L) (ρ .nums = some (.ref l)) (ρ .levels = some (.ref LB))
  refine forA_inv I2 ?_ ?_ _ _ _
   ⟨1, [l0], [fs0], rfl, by omega, by omega, rfl, x3, e1, ⟨rfl, by simp, fun i a x h1 h2 => ?_⟩, by simpa using nLl, ⟨⟨fs0, rfl, fun z => (by rw [z] at hj; simp at hj; omega), hlay⟩, fun i fs hi h => ?_⟩, r1, r3⟩
  ·rintro v rest ρ H4 ⟨i, as, L, hr, i0, i1, hi, x4, t1, t2, nLa, hL, r1, r2⟩ R Rn - - -
   obtain ⟨c1, rfl, rfl⟩ := rangeV_inv hr
   show exSs Φ _ _ _ _
   walk_at "s"
   refine CD _ _ _ _ _ (x4 _ _ hl) hne hz hb (by omega) (by omega) fun z hz0 hz1 => ?_
   walk_at "s"
   refine ⟨sm rfl, n_new fun fl H5 x5 hfl hfl' => ?_⟩
   walk_at "s"
   refine o_mod (by decide) ?_
   walk_at "s"
   refine o_fdiv (by decide) (by decide) ?_
   walk_at "s"
   refine x_while fun P hP => ?_
   let I3 : Nat → Lo → AH → Prop := fun m ρ H6 => Ext H4 H6 ∧ Sx3 fun (fs : List Fi) (first z : Int) => A12 (H6 fl = some (.list (fs.map row4))) (Lay1 i.toNat fs) (∀ f ∈ fs, f.hi < first) (0 ≤ first) (0 ≤ z) (m = 4 - fs.length) (ρ .files = some (.ref fl)) (ρ .first = some (.int first)) (ρ .z = some (.int z)) (ρ .level = some (.int i)) (ρ .nums = some (.ref l)) (ρ .levels = some (.ref LB))
   refine while_ind (P := P) I3 ?_ _ _ _
    ⟨x5, [], z % 10, z / 10, hfl', ⟨by simp, fun a b f g _ h => by simp at h, fun k f h => by simp at h⟩, by simp, by omega, by omega, rfl, rfl, rfl, rfl, rfl, by exact r1, by exact r2⟩
   rintro m ρ H6 ⟨x6, fs, first, z, q1, q2, q3, q4, q5, rfl, p1, p2, p3, p4, p5, p6⟩ ih
   refine hP ρ H6 ?_
   have done : ∀ {ρ' : Lo}, ρ' .files = some (.ref fl) → ρ' .nums = some (.ref l) → ρ' .levels = some (.ref LB) → exSs Φ (.cons (.ex (.lm (.var .levels) .append (.cons (.var .files) .nil))) .nil) ρ' H6 R := by
    intro ρ' u1 u2 u3
    walk_at "s"
    refine k_lm (x6 _ _ t1) ?_
    walk_at "s"
    have asl : as.length = L.length := by rw [t2.len, List.length_map]
    refine l_append (x6 _ _ t1) (by unfold smallL; simp; omega) ?_
    walk_at "s"
    have nfa : fl ∉ as := fun z => by obtain ⟨x, e⟩ := live_of t2 z; rw [e] at hfl; cases hfl
    have nfL : fl ≠ LB := fun z => (no_ns z hfl t1)
    refine Rn _ _ trivial ⟨i + 1, as ++ [fl], L ++ [fs], rfl, by omega, by omega, by simp; omega, Ext.set (x4.trans x6) fLB, by rw [set_same]; simp, ?_, ?_, ⟨?_, fun k gs hk1 hk => ?_⟩, u2, u3⟩
    ·rw [List.map_append]
     exact ((t2.ext x6).other nLa).snoc nfa (by rw [set_other nfL]; exact q1)
    ·simp only [List.mem_append, List.mem_singleton, not_or]
     exact ⟨nLa, Ne.symm nfL⟩
    ·obtain ⟨gs, g1, g2⟩ := hL.z0
     exact ⟨gs, by rw [List.getElem?_append_left (List.getElem?_eq_some_iff.mp g1).1]; exact g1, g2⟩
    ·rcases get_snoc hk with hk | ⟨hk, rfl⟩
     ·exact hL.zi k gs hk1 hk
     ·rw [show k = i.toNat from by omega]; exact q2
   walk_at "s"
   refine k_and (fun cc => ?_) (fun cc => ?_)
   ·replace cc := ci_lt_t.mp cc
    walk_at "s"
    refine bi_lenL q1 (by unfold smallL; simp; have := q2.1; omega) ?_
    walk_at "s"
    refine k_ite (fun c2 => ?_) (fun c2 => ?_)
    ·rw [ci_lt_t, List.length_map] at c2
     walk_at "s"
     refine o_mod (by decide) ?_
     walk_at "s"
     refine bi_min2 ?_
     obtain ⟨h, hh⟩ : ∃ h : Int, h = if first + z % 3 < 7 then first + z % 3 else 7 := ⟨_, rfl⟩
     rw [← hh]
     have hb1 : first ≤ h ∧ h ≤ 7 := by rw [hh]; split <;> omega
     walk_at "s"
     refine k_lm q1 ?_
     walk_at "s"
     refine o_mul (by decide) (by omega) ?_
     walk_at "s"
     refine bi_lenL q1 (by unfold smallL; simp; omega) ?_
     walk_at "s"
     refine o_fdiv (by decide) (by decide) ?_
     walk_at "s"
     refine o_mod (by decide) ?_
     walk_at "s"
     refine ⟨sm rfl, ?_⟩
     walk_at "s"
     refine l_append q1 (by unfold smallL; simp; omega) ?_
     walk_at "s"
     refine o_fdiv (by decide) (by decide) ?_
     walk_at "s"
     refine o_mod (by decide) ?_
     walk_at "s"
     refine o_fdiv (by decide) (by decide) ?_
     walk_at "s"
     refine ih (4 - (fs.length + 1)) _ _ (by omega) ⟨Ext.set x6 hfl, fs ++ [⟨29 + 10 * i - ((fs.map row4).length : Nat), 1 + z / 9 % 12, first, h⟩], h + 1 + z / 3 % 3, z / 7, ?_, ⟨by simp; omega, fun a b f g hab ha hb => ?_, fun k f hk => ?_⟩, fun f hf => ?_, by omega, by omega, by simp, by exact p1, rfl, rfl, by exact p4, by exact p5, by exact p6⟩
     ·rw [set_same, List.map_append]; rfl
     ·rcases get_snoc hb with hb | ⟨hb, rfl⟩
      ·rcases get_snoc ha with ha | ⟨ha, rfl⟩
       ·exact q2.2.1 a b f g hab ha hb
       ·have := (List.getElem?_eq_some_iff.mp hb).1; omega
      ·rcases get_snoc ha with ha | ⟨ha, rfl⟩
       ·exact q3 f (List.mem_of_getElem? ha)
       ·omega
     ·rcases get_snoc hk with hk | ⟨rfl, rfl⟩
      ·exact q2.2.2 k f hk
      ·refine ⟨?_, ⟨?_, ?_, ?_⟩, ?_, ?_⟩
       ·dsimp only
        rw [List.length_map]; omega
       all_goals (dsimp only; omega)
     ·rw [List.mem_append] at hf
      rcases hf with hf | hf
      ·have := q3 f hf
       omega
      ·simp at hf; subst hf; dsimp only; omega
    ·exact done p1 p5 p6
   ·refine k_f rfl ?_
    exact done p1 p5 p6
  ·rintro ρ H4 ⟨i, as, L, hr, i0, i1, hi, x4, t1, t2, nLa, hL, r1, r2⟩
   have hnl := rangeV_nil_inv hr
   refine K_nx ?_
   walk_at "s"
   exact hQ LB L H4 x4 ⟨as, t1, t2⟩ hL (by omega)
  ·cases i with
   | zero => simp at h1 h2; subst h1; subst h2; exact e2
   | succ i => simp at h1
  ·cases i with
   | zero => omega
   | succ i => simp at h
noncomputable def C_onew (Φ : Phi) : Prop := ∀ (H : AH) (Q : PV), (∀ a dx g H', Ext H H' → H a = none → H dx = none → a ≠ dx → H' a = some (.inst .Options dx) → H' dx = some (.ns .Options g) → Q (.ref a) H') → newK Φ .Options [] H Q
theorem c_onew (k : Nat) : C_onew (phi (k + 1)) := by
 intro H Q hQ
 refine k_new rfl fun a dx H1 x1 ha hd ne h1 h2 => ?_
 refine phi_call (body := Options_init_body) rfl rfl ?_; intro ρ0
 generalize phi k = Φ
 walk_at "s"
 refine i_attr h1 h2 (by decide) fun H2 y h1 h2 => ?_
 have E2 : Evo dx H1 H2 := y
 clear y
 walk_at "s"
 refine i_attr h1 h2 (by decide) fun H3 y h1 h2 => ?_
 have E3 : Evo dx H1 H3 := E2.trans y
 clear y
 walk_at "s"
 refine i_attr h1 h2 (by decide) fun H4 y h1 h2 => ?_
 have E4 : Evo dx H1 H4 := E3.trans y
 clear y
 walk_at "s"
 refine i_attr h1 h2 (by decide) fun H5 y h1 h2 => ?_
 have E5 : Evo dx H1 H5 := E4.trans y
 clear y
 walk_at "s"
 refine i_attr h1 h2 (by decide) fun H6 y h1 h2 => ?_
 have E6 : Evo dx H1 H6 := E5.trans y
 clear y
 walk_at "s"
 refine i_attr h1 h2 (by decide) fun H7 y h1 h2 => ?_
 have E7 : Evo dx H1 H7 := E6.trans y
 clear y
 walk_at "s"
 refine i_attr h1 h2 (by decide) fun H8 y h1 h2 => ?_
 have E8 : Evo dx H1 H8 := E7.trans y
 clear y
 walk_at "s"
 refine ⟨sm rfl, ?_⟩
 walk_at "s"
 refine i_attr h1 h2 (by decide) fun H9 y h1 h2 => ?_
 have E9 : Evo dx H1 H9 := E8.trans y
 clear y
 walk_at "s"
 refine i_attr h1 h2 (by decide) fun H10 y h1 h2 => ?_
 have E10 : Evo dx H1 H10 := E9.trans y
 clear y
 walk_at "s"
 refine i_attr h1 h2 (by decide) fun H11 y h1 h2 => ?_
 have E11 : Evo dx H1 H11 := E10.trans y
 clear y
 walk_at "s"
 refine i_attr h1 h2 (by decide) fun H12 y h1 h2 => ?_
 have E12 : Evo dx H1 H12 := E11.trans y
 clear y
 walk_at "s"
 refine i_attr h1 h2 (by decide) fun H13 y h1 h2 => ?_
 have E13 : Evo dx H1 H13 := E12.trans y
 clear y
 walk_at "s"
 refine i_attr h1 h2 (by decide) fun H14 y h1 h2 => ?_
 have E14 : Evo dx H1 H14 := E13.trans y
 clear y
 walk_at "s"
 refine i_attr h1 h2 (by decide) fun H15 y h1 h2 => ?_
 have E15 : Evo dx H1 H15 := E14.trans y
 clear y
 walk_at "s"
 refine i_attr h1 h2 (by decide) fun H16 y h1 h2 => ?_
 have E16 : Evo dx H1 H16 := E15.trans y
 clear y
 walk_at "s"
 refine i_attr h1 h2 (by decide) fun H17 y h1 h2 => ?_
 have E17 : Evo dx H1 H17 := E16.trans y
 clear y
 walk_at "s"
 refine i_attr h1 h2 (by decide) fun H18 y h1 h2 => ?_
 have E18 : Evo dx H1 H18 := E17.trans y
 clear y
 walk_at "s"
 refine i_attr h1 h2 (by decide) fun H19 y h1 h2 => ?_
 have E19 : Evo dx H1 H19 := E18.trans y
 clear y
 walk_at "s"
 refine i_attr h1 h2 (by decide) fun H20 y h1 h2 => ?_
 have E20 : Evo dx H1 H20 := E19.trans y
 clear y
 walk_at "s"
 refine i_attr h1 h2 (by decide) fun H21 y h1 h2 => ?_
 have E21 : Evo dx H1 H21 := E20.trans y
 clear y
 walk_at "s"
 refine i_attr h1 h2 (by decide) fun H22 y h1 h2 => ?_
 have E22 : Evo dx H1 H22 := E21.trans y
 clear y
 walk_at "s"
 exact ⟨rfl, hQ a dx _ H22 (fun b O e => E22 _ _ (fun z => (no_ns z.symm hd e)) (x1 _ _ e)) ha hd ne h1 h2⟩
noncomputable def C_mnew (Φ : Phi) : Prop := ∀ (f : Fi) (H : AH) (Q : PV), (∀ a H', Ext H H' → H a = none → MetaAt H' a f → Q (.ref a) H') → newK Φ .FileMeta [.int f.n, .int f.s, .bytes (ikb f.lo 9), .bytes (ikb f.hi 1)] H Q
theorem c_mnew (k : Nat) : C_mnew (phi (k + 1)) := by
 intro f H Q hQ
 refine k_new rfl fun a dx H1 x1 ha hd ne h1 h2 => ?_
 refine phi_call (body := FileMeta_init_body) rfl rfl ?_; intro ρ0
 generalize phi k = Φ
 walk_at "s"
 refine i_attr h1 h2 (by decide) fun H2 y2 h1 h2 => ?_
 walk_at "s"
 refine i_attr h1 h2 (by decide) fun H3 y3 h1 h2 => ?_
 walk_at "s"
 refine i_attr h1 h2 (by decide) fun H4 y4 h1 h2 => ?_
 walk_at "s"
 refine i_attr h1 h2 (by decide) fun H5 y5 h1 h2 => ?_
 walk_at "s"
 have E5 : Evo dx H1 H5 := ((y2.trans y3).trans y4).trans y5
 exact ⟨rfl, hQ a H5 (fun b O e => E5 _ _ (fun z => (no_ns z.symm hd e)) (x1 _ _ e)) ha ⟨_, ⟨dx, h1, h2⟩, rfl, rfl, rfl, rfl⟩⟩
noncomputable def C_pnew (Φ : Phi) : Prop := ∀ (op o : Addr) (H : AH) (Q : PV), OrdAt H o → (∀ a H', Ext H H' → H a = none → PickAt H' a op → Q (.ref a) H') → newK Φ .Picker [.ref op, .ref o] H Q
theorem c_pnew (k : Nat) : C_pnew (phi (k + 1)) := by
 intro op o H Q ho hQ
 refine k_new rfl fun a dx H1 x1 ha hd ne h1 h2 => ?_
 refine phi_call (body := Picker_init_body) rfl rfl ?_; intro ρ0
 generalize phi k = Φ
 walk_at "s"
 refine i_attr h1 h2 (by decide) fun H2 y2 h1 h2 => ?_
 walk_at "s"
 refine i_attr h1 h2 (by decide) fun H3 y3 h1 h2 => ?_
 walk_at "s"
 have E3 : Evo dx H1 H3 := y2.trans y3
 have X3 : Ext H H3 := fun b O e => E3 _ _ (fun z => (no_ns z.symm hd e)) (x1 _ _ e)
 exact ⟨rfl, hQ a H3 X3 ha ⟨_, o, ⟨dx, h1, h2⟩, rfl, ho.ext X3, rfl⟩⟩
theorem flatC_snoc {fs : List Fi} {a : List (List Fi)} {i : Int} : flatC i (a ++ [fs]) = flatC i a ++ fs.map (i + a.length, ·) := by
 induction a generalizing i with
 | nil => rw [List.nil_append, flatC_cons, show i + (([] : List (List Fi)).length : Int) = i from Int.add_zero i]; exact List.append_nil _
 | cons g a ih => rw [List.cons_append, flatC_cons, flatC_cons, ih, List.append_assoc, List.length_cons, show i + 1 + (a.length : Int) = i + ((a.length + 1 : Nat) : Int) from by omega]
theorem Cs.setl {H : AH} {l : Addr} {xs ws : List V} (hl : H l = some (.list xs)) {vs cs} (h : Cs H vs cs) : Cs (H.set l (.list ws)) vs cs := h.mono fun a => a.setl hl
theorem EdAt.setAL {H : AH} {ed CP DL AL : Addr} {a b c ws : List V} {r : Bool} (n1 : CP ≠ AL) (n2 : DL ≠ AL) (h : EdAt H ed CP DL AL a b c r) : EdAt (H.set AL (.list ws)) ed CP DL AL a b ws r := by
 obtain ⟨⟨g, h1, r⟩, h2, h3, h4⟩ := h
 exact ⟨⟨g, h1.setl h4, r⟩, by rw [set_other n1]; exact h2, by rw [set_other n2]; exact h3, set_same⟩
theorem OrdAt.setl {H : AH} {l o : Addr} {xs ws : List V} (hl : H l = some (.list xs)) (h : OrdAt H o) : OrdAt (H.set l (.list ws)) o := let ⟨g, u, gu, a, b, c⟩ := h; ⟨g, u, gu, a.setl hl, b, c.setl hl⟩
theorem law_main : ∀ (ns : List Int) (sa : Addr), ns.length ≤ 63 → exSs (phi 60) Fn.law.body (updL (fun _ => none) [.script] [.ref sa]) (fun a => if a = sa then some (.rol (ns.map .int)) else none) (fun o _ _ => o = .rt (.bool true)) := by
 intro ns sa hns
 have hsa : (fun a => if a = sa then some (AO.rol (ns.map .int)) else none : AH) sa = some (.rol (ns.map .int)) := if_pos rfl
 generalize (fun a => if a = sa then some (AO.rol (ns.map .int)) else none : AH) = H0 at hsa
 have CD : C_draw (phi 60) := c_draw 59
 have CO : C_onew (phi 60) := c_onew 59
 have CLy : C_lay (phi 60) := c_lay 58
 have CE : C_edit (phi 60) := c_edit 59
 have CR : C_lrows (phi 60) := c_lrows 57
 have CM : C_mnew (phi 60) := c_mnew 59
 have COr : C_order (phi 60) := c_order 59
 have CV : C_ver (phi 60) := c_ver 59
 have CMk : C_maker (phi 60) := c_maker 59
 have CAp : C_apply (phi 60) := c_apply 58
 have CF : C_finish (phi 60) := c_finish 53
 have CSc : C_score (phi 60) := c_score 58
 have CK : C_likey (phi 60) := c_likey 58
 have CPn : C_pnew (phi 60) := c_pnew 59
 have CLp : C_lapp (phi 60) := c_lapp 56
 have CPr : C_lpair (phi 60) := c_lpair 51
 have CA : C_lask (phi 60) := c_lask 50
 have CTo : C_told (phi 60) := c_told 58
 have CCk : C_check (phi 60) := c_check 55
 have CNm : C_lnum (phi 60) := c_lnum 56
 show exSs (phi 60) law_body _ _ _
 generalize phi 60 = Φ at CD CO CLy CE CR CM COr CV CMk CAp CF CSc CK CPn CLp CPr CA CTo CCk CNm ⊢
 walk_at "s"
 refine u_rol hsa (by decide) (by decide) (by unfold smallL; simp; omega) (n_new fun s0 H1 x1 hs0 hs1 => ?_)
 rw [show (20 : Int).toNat = 20 from rfl, ← List.map_take] at hs1
 have htk : (ns.take 20).length ≤ 20 := by rw [List.length_take]; omega
 refine k_comp hs1 (by unfold smallL; rw [List.length_map]; omega) ?_
 let I1 : List V → List V → AH → Prop := fun us acc H' => H1 = H' ∧ Sx3 fun (done todo ms : List Int) => A5 (ns.take 20 = done ++ todo) (us = todo.map .int) (acc = ms.map .int) (ms.length = done.length) (∀ x ∈ ms, 0 ≤ x ∧ x < 1000000)
 refine compA_inv I1 ?_ ?_ _ _ _ ⟨rfl, [], _, [], rfl, rfl, rfl, rfl, by simp⟩
 ·rintro v rest acc H2 ⟨rfl, done, todo, ms, q1, q2, rfl, q4, q5⟩ R hR
  cases todo with
  | nil => cases q2
  | cons f todo =>
   cases q2
   have hdl : done.length ≤ (ns.take 20).length := by rw [q1]; simp
   refine cc_nil ?_
   show evA _ _ _ _ _
   walk_at "s"
   refine o_mod (by decide) ?_
   refine ⟨by unfold smallL; simp; omega, hR _ _ hs1 ⟨rfl, done ++ [f], todo, ms ++ [f % 999983], by rw [q1]; simp, rfl, by simp, by simp; omega, fun x hx => ?_⟩⟩
   rw [List.mem_append] at hx
   rcases hx with hx | hx
   ·exact q5 x hx
   ·simp at hx; subst hx; omega
 rintro acc H2 ⟨rfl, done, todo, ms, q1, q2, rfl, q4, q5⟩
 have : todo = [] := by cases todo with | nil => rfl | cons _ _ => cases q2
 subst this
 rw [List.append_nil] at q1
 have msl : ms.length ≤ 20 := by rw [q4, ← q1]; exact htk
 refine n_new fun na0 H2 x2 _ hna0 => ?_
 walk_at "s"
 refine bi_lenL hna0 (by unfold smallL; simp; omega) ?_
 walk_at "s"
 refine k_iteJ (fun ρ' H' => ∃ na ms, ρ' .nums = some (.ref na) ∧ H' na = some (.list (ms.map .int)) ∧ ms ≠ [] ∧ ms.length ≤ 20 ∧ ∀ x ∈ ms, 0 ≤ x ∧ x < 1000000) (fun c R hR => ?_) (fun c R hR => ?_) ?_
 ·walk_at "s"
  refine ⟨sm rfl, n_new fun na H3 x3 _ hna => ?_⟩
  walk_at "s"
  exact hR _ _ ⟨na, [0], rfl, hna, by simp, by simp, by simp⟩
 ·rw [ci_eq_f, List.length_map] at c
  exact x_nil (hR _ _ ⟨na0, ms, rfl, hna0, fun z => (by rw [z] at c; exact c rfl), msl, q5⟩)
 clear hna0 q4 q5 msl q1 q2 x2 hs0 hs1 x1 hsa htk
 rintro ρ1 H1 ⟨na, ms, r1, hna, mne, mz, mb⟩
 walk_at "s"
 refine CD _ _ _ _ _ hna mne (by omega) mb (by omega) (by omega) fun a a0 a1 => ?_
 walk_at "s"
 refine CD _ _ _ _ _ hna mne (by omega) mb (by omega) (by omega) fun b b0 b1 => ?_
 walk_at "s"
 refine o_mod (by decide) ?_
 refine o_add ?_
 obtain ⟨count, hcount⟩ : ∃ c : Int, c = 3 + a % 2 := ⟨_, rfl⟩
 rw [← hcount]
 have hc : 3 ≤ count ∧ count ≤ 4 := by omega
 clear hcount
 walk_at "s"
 refine CO _ _ fun op dxo go H2 x2 hop hdxo neo h1 h2 => ?_
 walk_at "s"
 refine i_attr h1 h2 (by decide) fun H3 y3 h1 h2 => ?_
 walk_at "s"
 refine o_fdiv (by decide) (by decide) ?_
 walk_at "s"
 refine o_mod (by decide) ?_
 walk_at "s"
 refine i_attr h1 h2 (by decide) fun H4 y4 h1 h2 => ?_
 walk_at "s"
 refine o_fdiv (by decide) (by decide) ?_
 walk_at "s"
 refine o_mod (by decide) ?_
 walk_at "s"
 refine i_attr h1 h2 (by decide) fun H5 y5 h1 h2 => ?_
 walk_at "s"
 refine o_fdiv (by decide) (by decide) ?_
 walk_at "s"
 refine o_mod (by decide) ?_
 walk_at "s"
 refine i_attr h1 h2 (by decide) fun H6 y6 h1 h2 => ?_
 walk_at "s"
 refine o_fdiv (by decide) (by decide) ?_
 walk_at "s"
 refine o_mod (by decide) ?_
 walk_at "s"
 refine i_attr h1 h2 (by decide) fun H7 y7 h1 h2 => ?_
 walk_at "s"
 refine o_fdiv (by decide) (by decide) ?_
 walk_at "s"
 refine o_mod (by decide) ?_
 walk_at "s"
 refine i_attr h1 h2 (by decide) fun H8 y8 h1 h2 => ?_
 walk_at "s"
 refine o_fdiv (by decide) (by decide) ?_
 walk_at "s"
 refine o_mod (by decide) ?_
 walk_at "s"
 refine i_attr h1 h2 (by decide) fun H9 y9 h1 h2 => ?_
 have E9 : Evo dxo H2 H9 := (((((y3.trans y4).trans y5).trans y6).trans y7).trans y8).trans y9
 have X9 : Ext H1 H9 := fun b O e => E9 _ _ (fun z => (no_ns z.symm hdxo e)) (x2 _ _ e)
 obtain ⟨o, ho, hob⟩ : ∃ o : Op, OptAt H9 op o ∧ (o.nl = count ∧ (1 ≤ o.mfs ∧ o.mfs ≤ 1000) ∧ (1 ≤ o.ef ∧ o.ef ≤ 1000) ∧ (1 ≤ o.gf ∧ o.gf ≤ 1000) ∧ (1 ≤ o.l0 ∧ o.l0 ≤ 1000) ∧ (1 ≤ o.bb ∧ o.bb ≤ 1000) ∧ (1 ≤ o.lf ∧ o.lf ≤ 1000)) := by
  refine ⟨⟨count, 1 + a / 2 % 12, 1 + a / 24 % 4, 1 + a / 96 % 2, 1 + a / 192 % 3, 1 + a / 576 % 20, 1 + a / 11520 % 3⟩, ⟨_, ⟨dxo, h1, h2⟩, rfl, rfl, rfl, rfl, rfl, rfl, rfl⟩, rfl, ?_, ?_, ?_, ?_, ?_, ?_⟩ <;> dsimp only <;> omega
 have hna9 := X9 _ _ hna
 clear h1 h2 y3 y4 y5 y6 y7 y8 y9 E9 X9 hna
 walk_at "s"
 refine CLy _ _ _ _ _ hna9 mne (by omega) mb (by omega) (by omega) fun LB L He xe htv hlay hlen => ?_
 have hnae := xe _ _ hna9
 have hoe := ho.ext xe
 have hOB : OpB o L.length := ⟨by rw [hlen]; exact hob.1, hob.2.1, hob.2.2.1, hob.2.2.2.1, hob.2.2.2.2.1, hob.2.2.2.2.2.1, hob.2.2.2.2.2.2⟩
 have hL : LvOk L := hlay.lv (by omega) (by omega)
 have hNm := hlay.nmd
 have hfew := hL.ok.few
 have lz : ∀ i : Int, (lvl L i).length ≤ 100 ∧ FsOk (lvl L i) := fun i => by
  unfold lvl
  cases q : L[i.toNat]? with
  | none => exact ⟨by simp, fun f hf => by simp at hf⟩
  | some fs => exact hL.ok.each fs (List.mem_of_getElem? q)
 walk_at "s"
 refine CE _ _ fun ed CP DL AL H2 x2 hed0 hCP0 hDL0 hAL0 n1 n2 n3 hed => ?_
 walk_at "s"
 with_reducible refine r_one (by omega) (by omega) ?_
 let I2 : List V → Lo → AH → Prop := fun rest ρ H => Sx2 fun (j : Int) (adds : List V) => A12 (rest = rangeV j count) (0 ≤ j) (j ≤ count) (Ext He H) (EdAt H ed CP DL AL [] [] adds false) (Cs H adds (flatC 0 (L.take j.toNat))) (ρ .nums = some (.ref na)) (ρ .b = some (.int b)) (ρ .count = some (.int count)) (ρ .options = some (.ref op)) (ρ .levels = some (.ref LB)) (ρ .edit = some (.ref ed))
 refine forA_inv I2 ?_ ?_ _ _ _
  ⟨0, [], rfl, by omega, by omega, x2, hed, .nil, by exact r1, rfl, rfl, rfl, rfl, rfl⟩
 ·rintro v rest ρ H3 ⟨j, adds, hr, j0, j1, X3, hE, hC, p1, p2, p3, p4, p5, p6⟩ R Rn - - -
  obtain ⟨c1, rfl, rfl⟩ := rangeV_inv hr
  have hlj := lvl_get (L := L) (i := j) j0 (by omega)
  have hsz : (flatC 0 (L.take j.toNat)).length + (lvl L j).length ≤ 63 := by
   rw [flatC_len]
   have := congrArg (fun l => l.flatten.length) (List.take_append_drop j.toNat L)
   simp only [List.flatten_append, List.length_append] at this
   rw [drop_get hlj, List.flatten_cons, List.length_append] at this
   have := hL.tot
   omega
  show exSs Φ _ _ _ _
  walk_at "s"
  refine (htv.ext X3).at j0 (by omega) hfew fun la hla => ?_
  walk_at "s"
  refine CR _ _ _ _ hla (by omega) (lz j).2 fun ra H4 x4 hra0 hra => ?_
  have nra : ra ≠ AL := fun z => (no_ns z hra0 hE.al)
  refine f_list hra (by unfold smallL; simp; omega) ?_
  let I3 : List V → Lo → AH → Prop := fun rest ρ H => Sx3 fun (done todo : List Fi) (adds : List V) => A13 (lvl L j = done ++ todo) (rest = todo.map rowK) (Ext He H) (H ra = some (.list ((lvl L j).map rowK))) (EdAt H ed CP DL AL [] [] adds false) (Cs H adds (flatC 0 (L.take j.toNat) ++ done.map (j, ·))) (ρ .nums = some (.ref na)) (ρ .b = some (.int b)) (ρ .count = some (.int count)) (ρ .options = some (.ref op)) (ρ .levels = some (.ref LB)) (ρ .edit = some (.ref ed)) (ρ .level = some (.int j))
  refine forA_inv I3 ?_ ?_ _ _ _
   ⟨[], lvl L j, adds, rfl, rfl, X3.trans x4, hra, hE.ext x4, by simpa using hC.ext x4, by exact p1, by exact p2, by exact p3, by exact p4, by exact p5, by exact p6, rfl⟩
  ·rintro v rest ρ H5 ⟨done, todo, adds, q1, q2, X5, hra5, hE5, hC5, p1, p2, p3, p4, p5, p6, p7⟩ R' Rn' - - -
   cases todo with
   | nil => cases q2
   | cons f todo =>
    cases q2
    have hdl : done.length ≤ (lvl L j).length := by rw [q1]; simp
    have hal := hC5.len
    rw [List.length_append, List.length_map] at hal
    obtain ⟨g, e1, e2, e3, e4, e5⟩ := hE5.fl
    show exSs Φ _ _ _ _
    walk_at "s"
    refine g_attr e1 e4 ?_
    refine k_lm hE5.al ?_
    walk_at "s"
    refine i_tup (by decide) (by decide) rfl ?_
    walk_at "s"
    refine i_tup (by decide) (by decide) rfl ?_
    walk_at "s"
    refine i_tup (by decide) (by decide) rfl ?_
    walk_at "s"
    refine i_tup (by decide) (by decide) rfl ?_
    walk_at "s"
    refine CM f _ _ fun am H6 x6 _ ham => ?_
    walk_at "s"
    refine ⟨sm rfl, ?_⟩
    walk_at "s"
    have hE6 := hE5.ext x6
    refine l_append hE6.al (by unfold smallL; omega) ?_
    walk_at "s"
    refine Rn' _ _ (by rw [set_other nra]; exact x6 _ _ hra5) ⟨done ++ [f], todo, _, by rw [q1]; simp, rfl, Ext.set (X5.trans x6) hAL0, by rw [set_other nra]; exact x6 _ _ hra5, hE6.setAL n2 n3, ?_, by exact p1, by exact p2, by exact p3, by exact p4, by exact p5, by exact p6, by exact p7⟩
    rw [List.map_append, ← List.append_assoc]
    exact ((hC5.ext x6).setl hE6.al).app (.cons (ham.setl hE6.al) .nil)
  ·rintro ρ H5 ⟨done, todo, adds, q1, q2, X5, hra5, hE5, hC5, p1, p2, p3, p4, p5, p6, p7⟩
   have : todo = [] := by cases todo with | nil => rfl | cons _ _ => cases q2
   subst this
   rw [List.append_nil] at q1
   refine K_nx (x_nil (Rn _ _ trivial ⟨j + 1, adds, rfl, by omega, by omega, X5, hE5, ?_, p1, p2, p3, p4, p5, p6⟩))
   rw [show (j + 1).toNat = j.toNat + 1 from by omega, take_succ hlj, flatC_snoc, List.length_take, Nat.min_eq_left (by omega), show (0 : Int) + (j.toNat : Int) = j from by omega, q1]
   exact hC5
 ·rintro ρ H3 ⟨j, adds, hr, j0, j1, X3, hE, hC, p1, p2, p3, p4, p5, p6⟩
  have hnl := rangeV_nil_inv hr
  rw [List.take_of_length_le (by omega)] at hC
  refine K_nx ?_
  walk_at "s"
  refine COr _ _ fun oo H4 x4 _ hoo => ?_
  walk_at "s"
  refine CV count oo _ _ (by omega) (by omega) fun vb FLb bs H5 x5 _ _ _ _ hvb hbs => ?_
  walk_at "s"
  refine CMk count vb FLb oo bs _ _ (by omega) (by omega) hvb fun m DD AA dd ad Hb H6 xb1 xb2 hadn hmk hdd had => ?_
  walk_at "s"
  obtain ⟨gm, gm1, gm2, _⟩ := id hmk
  obtain ⟨gb, gb1, gb2, gb3, gb4, gb5, _⟩ := id hvb
  have xm : Ext H3 Hb := (x4.trans x5).trans xb1
  have hzt := hL.tot
  refine k_meth (gm1.ext xb2) rfl ?_
  walk_at "s"
  refine CAp m vb oo DD AA ed CP DL AL dd ad count [] adds L Hb H6 _ xb2 hadn ⟨gm, gb, gm1, gm2, gb1.ext xb1, gb5, gb4, (hoo.ext x5).ext xb1⟩ hmk hlen.symm hdd (hE.ext xm) (hC.ext xm) hfew (by omega) (fun fs hf => ?_) had fun H7 D xb7 hos hDl hDk => ?_
  ·obtain ⟨i, hi⟩ := LayOk.mem hf
   exact (hlay.each hi).2.2.2
  walk_at "s"
  refine k_meth (gm1.ext xb7) rfl ?_
  walk_at "s"
  refine CF m vb FLb DD AA oo bs dd ad count D L H7 _ (hmk.ext xb7) ((hvb.ext xb1).ext xb7) (((hoo.ext x5).ext xb1).ext xb7) hlen.symm hL hNm ((hbs.ext xb1).ext xb7) hos hDl (fun j d fs e1 e2 => (hDk j d fs e1 e2).ext xb7) fun v FL' as vss H8 x8 hv0 hFL0 has0 nFas hva hosv hvl hms => ?_
  have x38 : Ext H3 H8 := (xm.trans xb7).trans x8
  have hE8 := hE.ext x38
  have nFA : FL' ≠ AL := fun z => (no_ns z hFL0 (xb7 _ _ (xm _ _ hE.al)))
  have nAas : AL ∉ as := fun z => by have := has0 _ z; rw [xb7 _ _ (xm _ _ hE.al)] at this; cases this
  have hoo8 := (((hoo.ext x5).ext xb1).ext xb7).ext x8
  have X8 := X3.trans x38
  walk_at "s"
  obtain ⟨ge, e1, e2, e3, e4, e5⟩ := hE8.fl
  refine x_while fun P hP => ?_
  let I4 : Nat → Lo → AH → Prop := fun nn ρ H => Evo AL H8 H ∧ ∃ xs : List V, A10 (H AL = some (.list xs)) (xs.length = nn) (xs.length ≤ 1000) (ρ .nums = some (.ref na)) (ρ .b = some (.int b)) (ρ .count = some (.int count)) (ρ .options = some (.ref op)) (ρ .levels = some (.ref LB)) (ρ .edit = some (.ref ed)) (ρ .version = some (.ref v))
  refine while_ind (P := P) I4 ?_ _ _ _
   ⟨fun _ _ _ e => e, adds, hE8.al, rfl, by rw [hC.len, flatC_len]; omega, by exact p1, by exact p2, by exact p3, by exact p4, by exact p5, by exact p6, rfl⟩
  rintro nn ρ H9 ⟨ev, xs, hx1, rfl, hx2, p1, p2, p3, p4, p5, p6, p7⟩ ih
  refine hP ρ H9 ?_
  have XE := evo_ext ev hx1
  have e1' := (e1.setl (ws := xs) hE8.al).ext XE
  walk_at "s"
  refine g_attr e1' e4 ?_
  walk_at "s"
  refine bi_lenL hx1 (by unfold smallL; omega) ?_
  walk_at "s"
  refine k_ite (fun c => ?_) (fun c => ?_)
  ·replace c := ci_gt_t.mp c
   have hne : xs ≠ [] := fun z => by subst z; simp at c
   walk_at "s"
   refine g_attr e1' e4 ?_
   refine k_lm hx1 ?_
   walk_at "s"
   refine l_pop hx1 (by unfold smallL; omega) (List.getLast?_eq_some_getLast hne) ?_
   walk_at "s"
   exact ih _ _ _ (by rw [List.length_dropLast]; have := List.length_pos_iff.mpr hne; omega) ⟨fun b O nb eb => by rw [set_other nb]; exact ev b O nb eb, _, set_same, rfl, by rw [List.length_dropLast]; omega, p1, p2, p3, p4, p5, p6, p7⟩
  ·have hver9 : VerAt H9 v L 0 1 (-1) := by
    refine VerAt.ext XE (ver_of (hva.setl hE8.al nFA) (hoo8.setl hE8.al) (hosv.other nAas) hvl hlen.symm fun i x fs q1 q2 => ?_)
    exact ((hms i x fs q1 q2).ext x8).setl hE8.al
   have Xe9 : Ext He H9 := fun b O eb => ev _ _ (fun z => (no_ns z.symm hAL0 eb)) (X8 _ _ eb)
   have l0ne : lvl L 0 ≠ [] := by
    obtain ⟨gs, g1, g2, _⟩ := hlay.z0
    unfold lvl
    rw [show (0 : Int).toNat = 0 from rfl, g1]; exact g2
   walk_at "s"
   refine CSc v op o L 0 1 (-1) H9 _ hver9 hL (hoe.ext Xe9) hOB (by omega) (by omega) (fun fs hf f hff => ?_) l0ne fun rr T B lev H10 dxv gv hd1 hd2 ev10 hver10 hdr => ?_
   ·obtain ⟨i, hi⟩ := LayOk.mem hf
    have := (hlay.each hi).2.1 f hff
    exact ⟨by have := this.2.1; omega, by have := this.2.2; omega⟩
   have hna10 : H10 na = some (.list (ms.map .int)) := list_evo hd2 ev10 (Xe9 _ _ hnae)
   have ho10 : OptAt H10 op o := (hoe.ext Xe9).evo hd2 ev10 (by decide)
   have htv10 : TV H10 LB L := by
    obtain ⟨as', t1, t2⟩ := htv.ext Xe9
    refine ⟨as', list_evo hd2 ev10 t1, t2.mono fun a ha O ea => ?_⟩
    obtain ⟨x, ex⟩ := live_of t2 ha
    rw [ea] at ex; cases ex
    exact list_evo hd2 ev10 ea
   clear XE ih hP e1' hE8 hosv hva
   walk_at "s"
   refine CK _ _ _ _ (by unfold Pl; omega) (by decide) (by decide) fun H11 x11 => ?_
   walk_at "s"
   refine CK _ _ _ _ (by unfold Pl; omega) (by decide) (by decide) fun H12 x12 => ?_
   walk_at "s"
   refine CM ⟨77, 7, 3, 5⟩ _ _ fun st H13 x13 _ hst => ?_
   walk_at "s"
   refine COr _ _ fun o2 H14 x14 _ ho2 => ?_
   walk_at "s"
   refine CPn op o2 _ _ ho2 fun pk H15 x15 _ hpk => ?_
   walk_at "s"
   refine ⟨sm rfl, n_new fun KP H16 x16 hKP0 hKP => ?_⟩
   walk_at "s"
   refine ⟨rfl, by decide, n_new fun bk H17 x17 hbk0 hbk => ?_⟩
   have nbK : bk ≠ KP := fun z => (no_ns z hbk0 hKP)
   have x1015 : Ext H10 H15 := (((x11.trans x12).trans x13).trans x14).trans x15
   have x15b : Ext H15 (wo H17 [KP]) := (x16.trans x17).wo (by simpa using hKP0)
   have x10b := x1015.trans x15b
   obtain ⟨W, hW⟩ : ∃ W : Wd, W = ⟨bk, LB, op, v, pk, KP, .ref st, L, o, T, B, lev, H15⟩ := ⟨_, rfl⟩
   have hWok : Wok W := by rw [hW]; exact ⟨hL, hOB, (by show 3 ≤ L.length; omega), (by show L.length ≤ 4; omega), hdr⟩
   have hS : St2 H17 W 0 := by
    rw [hW]
    exact ⟨wo H17 [KP], [], wo_ext, wo_in (by simp), ⟨⟨_, by rw [wo_out (by simpa using nbK)]; exact hbk, rfl, rfl, rfl, rfl, rfl, rfl, x15b⟩, htv10.ext x10b, ho10.ext x10b, hver10.ext x10b, hpk.ext x15b, st, _, rfl, ((hst.ext x14).ext x15).ext x15b⟩, x17 _ _ hKP, fun x hx => by simp at hx, by simp⟩
   have hWbk : V.ref bk = .ref W.bk := by rw [hW]
   have hWL : W.L = L := by rw [hW]
   have hWlen : (W.L.length : Int) = count := by rw [hWL]; exact hlen
   have hWv : V.ref v = .ref W.v := by rw [hW]
   have hWLB : V.ref LB = .ref W.LB := by rw [hW]
   have nmx : ∀ {H : AH} {k : Nat}, St2 H W k → H na = some (.list (ms.map .int)) := by
    intro H k h
    obtain ⟨Hb', xs', y1, y2, y3, _⟩ := h
    obtain ⟨⟨g, s1, s2, s3, s4, s5, s6, s7, s8⟩, _⟩ := y3
    rw [hW] at s8
    exact y1 _ _ (s8 _ _ (x1015 _ _ hna10))
   rw [hWbk]
   rw [hWv] at p7
   rw [hWLB] at p5
   clear hW hbk hbk0 hKP hKP0 hWbk hWv hWLB hpk hst
   have p8' : Pb 8 := by unfold Pb; omega
   have w30 := Int.emod_nonneg (b / 4) (b := 3) (by decide)
   have w31 := Int.emod_lt_of_pos (b / 4) (b := 3) (by decide)
   have w40 := Int.emod_nonneg (b / 12) (b := 3) (by decide)
   have w41 := Int.emod_lt_of_pos (b / 12) (b := 3) (by decide)
   have w50 := Int.emod_nonneg b (b := count) (by omega)
   have w51 := Int.emod_lt_of_pos b (b := count) (by omega)
   walk_at "s"
   refine o_mod (by omega) ?_
   walk_at "s"
   refine CLp W _ 8 8 3 0 _ _ hWok hS (by omega) w50 (by rw [hWlen]; exact w51) p8' p8' (by decide) (by decide) fun H18 hS18 => ?_
   walk_at "s"
   refine k_or_f rfl ?_
   walk_at "s"
   refine o_fdiv (by decide) (by decide) ?_
   walk_at "s"
   refine o_mod (by decide) ?_
   walk_at "s"
   refine CLp W 0 8 8 _ 1 _ _ hWok hS18 (by omega) (by omega) (by omega) p8' p8' w30 (by omega) fun H19 hS19 => ?_
   walk_at "s"
   refine k_f rfl ?_
   walk_at "s"
   refine o_fdiv (by decide) (by decide) ?_
   walk_at "s"
   refine o_mod (by decide) ?_
   walk_at "s"
   refine CPr W 0 8 8 _ true 2 _ _ hWok hS19 (fun _ => ⟨by omega, by omega⟩) (fun z => by cases z) p8' p8' w40 (by omega) fun H20 hS20 => ?_
   walk_at "s"
   refine k_f rfl ?_
   walk_at "s"
   obtain ⟨N, hN⟩ : ∃ N : Int, N = ms.length := ⟨_, rfl⟩
   refine bi_lenN (N := N) (nmx hS20) (by unfold smallL; simp; omega) (by simpa using hN) ?_
   walk_at "s"
   refine bi_min2 ?_
   refine o_add ?_
   obtain ⟨M, hM⟩ : ∃ M : Int, M = 5 + if N < 5 then N else 5 := ⟨_, rfl⟩
   rw [← hM]
   have hMb : 5 ≤ M ∧ M ≤ 10 := by rw [hM]; split <;> omega
   clear hM
   refine es_nil ?_
   with_reducible refine r_one (by omega) (by omega) ?_
   let I5 : List V → Lo → AH → Prop := fun rest ρ H => Sx2 fun (i : Int) (k : Nat) => A10 (rest = rangeV i M) (0 ≤ i) (i ≤ M) (St2 H W k) ((k : Int) ≤ 2 + i) (ρ .book = some (.ref W.bk)) (ρ .nums = some (.ref na)) (ρ .version = some (.ref W.v)) (ρ .levels = some (.ref W.LB)) (ρ .count = some (.int count))
   refine forA_inv I5 ?_ ?_ _ _ _
    ⟨0, 2, rfl, by omega, by omega, hS20, by omega, rfl, by exact p1, by exact p7, by exact p5, by exact p3⟩
   ·rintro u rest ρ2 H21 ⟨i, k, hr, i0, i1, hS21, hk, q1, q2, q3, q4, q5⟩ R Rn - - -
    obtain ⟨c1, rfl, rfl⟩ := rangeV_inv hr
    show exSs Φ _ _ _ _
    walk_at "s"
    refine CD _ _ _ _ _ (nmx hS21) mne (by omega) mb (by omega) (by omega) fun t t0 t1 => ?_
    walk_at "s"
    refine CA W t k _ _ hWok hS21 (by omega) t0 fun H22 hS22 => ?_
    walk_at "s"
    refine k_f rfl ?_
    walk_at "s"
    exact Rn _ _ trivial ⟨i + 1, k + 1, rfl, by omega, by omega, hS22, by omega, by exact q1, by exact q2, by exact q3, by exact q4, by exact q5⟩
   ·rintro ρ2 H21 ⟨i, k, hr, i0, i1, hS21, hk, q1, q2, q3, q4, q5⟩
    refine K_nx ?_
    have hS21' := hS21
    obtain ⟨Hb1, xs1, X1, hKP1, hB1, hK1, hKept1, hxk1⟩ := hS21
    obtain ⟨⟨g, s1, s2, s3, s4, s5, s6, s7, s8⟩, _⟩ := id hB1
    walk_at "s"
    refine g_key (X1 _ _ s1) s7 ?_
    refine f_list hK1 (by unfold smallL; omega) ?_
    let I6 : List V → Lo → AH → Prop := fun vs ρ H => A7 (Ext H21 H) (∀ x ∈ vs, x ∈ xs1) (ρ .book = some (.ref W.bk)) (ρ .nums = some (.ref na)) (ρ .version = some (.ref W.v)) (ρ .levels = some (.ref W.LB)) (ρ .count = some (.int count))
    refine forA_inv I6 ?_ ?_ _ _ _ ⟨.refl _, fun x h => h, q1, q2, q3, q4, q5⟩
    ·rintro u rest ρ3 H22 ⟨x22, hsub, q1, q2, q3, q4, q5⟩ R Rn - - -
     obtain ⟨ff, ss, ww, vs, ws, rfl, hf, hw, hz, hsh⟩ := hKept1 u (hsub u (.head _))
     have XX := X1.trans x22
     refine k_asgT rfl ?_
     show exSs Φ _ _ _ _
     walk_at "s"
     refine CTo _ _ _ _ _ _ (XX _ _ hf) hz (hsh.ext XX) fun ta H23 x23 hta hta' => ?_
     walk_at "s"
     refine c_neR (q_list (eq_lists hta' (x23 _ _ (XX _ _ hw)) rfl hsh.same) ?_)
     refine k_f rfl ?_
     walk_at "s"
     exact Rn _ _ (x23 _ _ (x22 _ _ hK1)) ⟨x22.trans x23, fun x h => hsub x (.tail _ h), by exact q1, by exact q2, by exact q3, by exact q4, by exact q5⟩
    ·rintro ρ3 H22 ⟨x22, -, q1, q2, q3, q4, q5⟩
     have hS22 := hS21'.ext x22
     refine K_nx ?_
     walk_at "s"
     with_reducible refine r_one (by omega) (by omega) ?_
     let I7 : List V → Lo → AH → Prop := fun rest ρ H => Sx2 fun (i : Int) (k : Nat) => A8 (rest = rangeV i count) (0 ≤ i) (i ≤ count) (St2 H W k) ((k : Int) ≤ 20 + i) (ρ .book = some (.ref W.bk)) (ρ .version = some (.ref W.v)) (ρ .levels = some (.ref W.LB))
     refine forA_inv I7 ?_ ?_ _ _ _ ⟨0, k, rfl, by omega, by omega, hS22, by omega, by exact q1, by exact q3, by exact q4⟩
     ·rintro u rest ρ4 H23 ⟨i, k, hr, i0, i1, hS23, hk, q1, q2, q3⟩ R Rn - - -
      obtain ⟨c1, rfl, rfl⟩ := rangeV_inv hr
      show exSs Φ _ _ _ _
      walk_at "s"
      refine CLp W i 8 8 0 k _ _ hWok hS23 (by omega) i0 (by omega) p8' p8' (by decide) (by decide) fun H24 hS24 => ?_
      have hS24' := hS24
      obtain ⟨Hb2, xs2, X2, hKP2, hB2, hK2, hKept2, hxk2⟩ := hS24
      have hver2 := hB2.ver.ext X2
      have htv2 := hB2.tv.ext X2
      have hli := lvl_get (L := W.L) (i := i) i0 (by omega)
      have hzi := hWok.L.ok.each _ (List.mem_of_getElem? hli)
      walk_at "s"
      refine k_or_f rfl ?_
      walk_at "s"
      refine ver_files hver2 fun FL vs2 f1 f2 => ?_
      walk_at "s"
      refine lv_idx f1 f2 i0 hWok.L.ok.few hli fun la ms2 m1 m2 => ?_
      walk_at "s"
      have hml := m2.len
      refine CTo _ _ _ _ _ _ m1 (by omega) (.inl ⟨rfl, _, m2, rfl⟩) fun ta H25 x25 hta hta' => ?_
      walk_at "s"
      refine (htv2.ext x25).at i0 (by omega) hWok.L.ok.few fun lb hlb => ?_
      walk_at "s"
      refine CR _ _ _ _ hlb (by omega) hzi.2 fun tb H26 x26 htb htb' => ?_
      refine c_neR (q_list (eq_lists (x26 _ _ hta') htb' rfl (Sh.same (H := H24) (.inl ⟨rfl, _, m2, rfl⟩))) ?_)
      refine k_f rfl ?_
      walk_at "s"
      exact Rn _ _ trivial ⟨i + 1, k + 1, rfl, by omega, by omega, (hS24'.ext x25).ext x26, by omega, by exact q1, by exact q2, by exact q3⟩
     ·rintro ρ4 H23 ⟨i, k, hr, i0, i1, hS23, hk, q1, q2, q3⟩
      have hS23' := hS23
      obtain ⟨Hb2, xs2, X2, hKP2, hB2, hK2, hKept2, hxk2⟩ := hS23
      have hver2 := hB2.ver.ext X2
      obtain ⟨gv2, _, _, _, f1, _⟩ := id hver2
      refine K_nx ?_
      walk_at "s"
      refine k_meth f1 rfl ?_
      walk_at "s"
      refine CCk _ _ _ _ _ _ _ hver2 hWok.L fun H24 x24 => ?_
      walk_at "s"
      refine CNm W 1 k _ _ hWok (hS23'.ext x24) (by omega) (by decide) (by decide) fun H25 hS25 => ?_
      refine k_and_t rfl ?_
      walk_at "s"
      refine CNm W 0 (k + 1) _ _ hWok hS25 (by omega) (by decide) (by decide) fun H26 hS26 => ?_
      rfl
end RK
end
section
open PySem PySem.W PyProof.Rows
namespace RK
mutual
inductive VR (h : Heap) : V → Value → Prop
 | none : VR h .none .none
 | bool (b) : VR h (.bool b) (.bool b)
 | int (i t) : VR h (.int i) (.int i t)
 | bytes (b : List UInt8) (t) : VR h (.bytes b) (.bytes b.toArray t)
 | ref (a) : VR h (.ref a) (.ref a)
 | tup {a o n vs cs} : h.get? a = some o → o.cls = .type "tuple" → o.data = .seq cs n → VRs h vs cs.toList → VR h (.tup vs) (.ref a)
inductive VRs (h : Heap) : List V → List Value → Prop
 | nil : VRs h [] []
 | cons {v c vs cs} : VR h v c → VRs h vs cs → VRs h (v :: vs) (c :: cs)
end
noncomputable def IsT (o : Obj) : Prop := o.cls = .type "tuple" ∧ ∃ xs n, o.data = .seq xs n
noncomputable def TupKeep (h h' : Heap) : Prop := ∀ a o, h.get? a = some o → IsT o → h'.get? a = some o
theorem VR.keep {h h' : Heap} (k : TupKeep h h') {v c} (r : VR h v c) : VR h' v c :=
 VR.rec (motive_1 := fun v c _ => VR h' v c) (motive_2 := fun vs cs _ => VRs h' vs cs) .none .bool .int .bytes .ref (fun ho hc hd _ ih => .tup (k _ _ ho ⟨hc, _, _, hd⟩) hc hd ih) .nil (fun _ _ a r => .cons a r) r
theorem VRs.ind {h : Heap} {P : List V → List Value → Prop} (n : P [] []) (f : ∀ {v c vs cs}, VR h v c → VRs h vs cs → P vs cs → P (v :: vs) (c :: cs)) {vs cs} (r : VRs h vs cs) : P vs cs :=
 VRs.rec (motive_1 := fun _ _ _ => True) (motive_2 := fun vs cs _ => P vs cs) trivial (fun _ => trivial) (fun _ _ => trivial) (fun _ _ => trivial) (fun _ => trivial) (fun _ _ _ _ _ => trivial) n (fun a r _ ih => f a r ih) r
theorem VRs.keep {h h' : Heap} (k : TupKeep h h') {vs cs} (r : VRs h vs cs) : VRs h' vs cs := r.ind .nil fun a _ ih => .cons (a.keep k) ih
theorem VRs.length {h : Heap} {vs cs} (r : VRs h vs cs) : cs.length = vs.length := r.ind (P := fun vs cs => cs.length = vs.length) rfl fun _ _ ih => congrArg Nat.succ ih
theorem VR.ref_ {h : Heap} {a c} (r : VR h (.ref a) c) : c = .ref a := by cases r; rfl
theorem VR.bool_ {h : Heap} {b c} (r : VR h (.bool b) c) : c = .bool b := by cases r; rfl
theorem VR.int_ {h : Heap} {i c} (r : VR h (.int i) c) : ∃ t, c = .int i t := by cases r; exact ⟨_, rfl⟩
theorem VR.bytes_ {h : Heap} {b c} (r : VR h (.bytes b) c) : ∃ t, c = .bytes b.toArray t := by cases r; exact ⟨_, rfl⟩
theorem VR.tup_ {h : Heap} {vs c} (r : VR h (.tup vs) c) : Sx4 fun a o n cs => A5 (c = .ref a) (h.get? a = some o) (o.cls = .type "tuple") (o.data = .seq cs n) (VRs h vs cs.toList) := by
 cases r with | tup a b c d => exact ⟨_, _, _, _, rfl, a, b, c, d⟩
theorem VRs.nil_ {h : Heap} {cs} (r : VRs h [] cs) : cs = [] := by cases r; rfl
theorem VRs.cons_ {h : Heap} {v vs cs} (r : VRs h (v :: vs) cs) : ∃ c ds, cs = c :: ds ∧ VR h v c ∧ VRs h vs ds := by cases r with | cons a b => exact ⟨_, _, rfl, a, b⟩
theorem VRs.two {h : Heap} {v c vs cs} (r : VRs h (v :: vs) (c :: cs)) : VR h v c ∧ VRs h vs cs := by cases r with | cons a b => exact ⟨a, b⟩
theorem VRs.one_ {h : Heap} {v cs} (r : VRs h [v] cs) : ∃ c, cs = [c] ∧ VR h v c := by
 obtain ⟨c, ds, rfl, a, b⟩ := r.cons_
 cases b.nil_; exact ⟨c, rfl, a⟩
theorem VRs.two_ {h : Heap} {v w cs} (r : VRs h [v, w] cs) : ∃ c d, cs = [c, d] ∧ VR h v c ∧ VR h w d := by
 obtain ⟨c, ds, rfl, a, b⟩ := r.cons_
 obtain ⟨d, rfl, b'⟩ := b.one_
 exact ⟨c, d, rfl, a, b'⟩
theorem VRs.get {h : Heap} {vs cs} {i : Nat} {v} (r : VRs h vs cs) (e : vs[i]? = some v) : ∃ c, cs[i]? = some c ∧ VR h v c :=
 r.ind (P := fun vs cs => ∀ i : Nat, vs[i]? = some v → ∃ c, cs[i]? = some c ∧ VR h v c) (fun _ e => nomatch e) (fun a _ ih i e => by
  cases i with
  | zero => exact ⟨_, rfl, Option.some.inj e ▸ a⟩
  | succ i => exact ih i e) i e
theorem VRs.app {h : Heap} {vs cs ws ds} (r : VRs h vs cs) (q : VRs h ws ds) : VRs h (vs ++ ws) (cs ++ ds) := r.ind (P := fun vs cs => VRs h (vs ++ ws) (cs ++ ds)) q fun a _ ih => .cons a ih
theorem VRs.one {h : Heap} {v c} (a : VR h v c) : VRs h [v] [c] := .cons a .nil
theorem VRs.take {h : Heap} (n : Nat) {vs cs} (r : VRs h vs cs) : VRs h (vs.take n) (cs.take n) :=
 r.ind (P := fun vs cs => ∀ n, VRs h (vs.take n) (cs.take n)) (fun n => by cases n <;> exact .nil) (fun a _ ih n => by
  cases n with
  | zero => exact .nil
  | succ n => exact .cons a (ih n)) n
theorem VRs.drop {h : Heap} (n : Nat) {vs cs} (r : VRs h vs cs) : VRs h (vs.drop n) (cs.drop n) :=
 r.ind (P := fun vs cs => ∀ n, VRs h (vs.drop n) (cs.drop n)) (fun n => by cases n <;> exact .nil) (fun a r ih n => by
  cases n with
  | zero => exact .cons a r
  | succ n => exact ih n) n
theorem VRs.reverse {h : Heap} {vs cs} (r : VRs h vs cs) : VRs h vs.reverse cs.reverse :=
 r.ind (P := fun vs cs => VRs h vs.reverse cs.reverse) .nil fun a _ ih => by rw [List.reverse_cons, List.reverse_cons]; exact ih.app (.one a)
theorem VRs.set {h : Heap} (n : Nat) {vs cs v c} (r : VRs h vs cs) (q : VR h v c) : VRs h (vs.set n v) (cs.set n c) :=
 r.ind (P := fun vs cs => ∀ n, VRs h (vs.set n v) (cs.set n c)) (fun _ => .nil) (fun a r ih n => by
  cases n with
  | zero => exact .cons q r
  | succ n => exact .cons a (ih n)) n
theorem VR.intOf {h : Heap} {v c vs} {ns} (r : VR h v c) (e : intsV (v :: vs) = some ns) : Sx3 fun i t ms => A3 (c = .int i t) (intsV vs = some ms) (ns = i :: ms) := by
 cases r with
 | int i t =>
  obtain ⟨ms, e1, e2⟩ := Option.map_eq_some_iff.mp (show (intsV vs).map (i :: ·) = some ns from e)
  exact ⟨i, t, ms, rfl, e1, e2.symm⟩
 | none => cases e
 | bool _ => cases e
 | bytes _ _ => cases e
 | ref _ => cases e
 | tup _ _ _ _ => cases e
theorem VRs.ints {h : Heap} {vs cs ns} (r : VRs h vs cs) (e : intsV vs = some ns) : IntsAre cs ns :=
 r.ind (P := fun vs cs => ∀ ns, intsV vs = some ns → IntsAre cs ns) (fun ns e => by cases e; exact .nil) (fun a _ ih ns e => by
  obtain ⟨i, t, ms, rfl, e1, rfl⟩ := a.intOf e
  exact .cons _ t (ih _ e1)) ns e
structure Sg where
 prog : Program
 w : World
 K : Frag
 h₀ : Heap
 ca : Cl → Addr
 fa : Fn → Addr
inductive NsE (C : Cl) : List Nm → List DictEntry → Prop
 | nil : NsE C [] []
 | cons {x xs e es} : x ∈ C.fields → x ∉ xs → e.key.isStr (nmS x) = true → NsE C xs es → NsE C (x :: xs) (e :: es)
section
variable (G : Sg)
noncomputable def OR (h : Heap) (a : Addr) : AO → Prop
 | .list vs => ∃ cs n, IsL h a cs n ∧ VRs h vs cs.toList
 | .rol vs => ∃ cs, h.IsList a cs ∧ VRs h vs cs.toList
 | .inst C dx => h.get? a = some (instObj (G.ca C) dx)
 | .ns C f => ∃ es n xs, h.get? a = some (dictOf es n) ∧ NsE C xs es ∧ ∀ x v, f x = some v → ∃ c, getL (nmS x) es = some (some c) ∧ VR h v c
 | .sdict f => ∃ m, h.MapOf (strKind G.prog G.w) a m ∧ ∀ x v, f x = some v → ∃ c, m (nmS x) = some c ∧ VR h v c
 | .idict kvs => ∃ cvs, h.DictOf (intKind G.prog G.w) a cvs ∧ cvs.map (·.1) = kvs.map (·.1) ∧ VRs h (kvs.map (·.2)) (cvs.map (·.2)) ∧ (a == sysModules) = false
theorem OR.keep {h h' : Heap} {a : Addr} {O : AO} (k : TupKeep h h') (e : ∀ o, h.get? a = some o → h'.get? a = some o) (q : OR G h a O) : OR G h' a O := by
 cases O with
 | list vs => obtain ⟨cs, n, hl, q⟩ := q; exact ⟨cs, n, e _ hl, q.keep k⟩
 | rol vs => obtain ⟨cs, ⟨o, ho, r⟩, q⟩ := q; exact ⟨cs, ⟨o, e _ ho, r⟩, q.keep k⟩
 | inst C dx => exact e _ q
 | ns C f =>
  obtain ⟨es, n, xs, ho, hn, hf⟩ := q
  refine ⟨es, n, xs, e _ ho, hn, fun x v hv => ?_⟩
  obtain ⟨c, h1, h2⟩ := hf x v hv
  exact ⟨c, h1, h2.keep k⟩
 | sdict f =>
  obtain ⟨m, ⟨o, es, ep, ho, r⟩, hf⟩ := q
  refine ⟨m, ⟨o, es, ep, e _ ho, r⟩, fun x v hv => ?_⟩
  obtain ⟨c, h1, h2⟩ := hf x v hv
  exact ⟨c, h1, h2.keep k⟩
 | idict kvs => obtain ⟨cvs, ⟨o, es, ep, ho, r⟩, h1, h2, lo⟩ := q; exact ⟨cvs, ⟨o, es, ep, e _ ho, r⟩, h1, h2.keep k, lo⟩
theorem OR.live {h : Heap} {a : Addr} {O : AO} (q : OR G h a O) : ∃ o, h.get? a = some o := by
 cases O with
 | list vs => obtain ⟨cs, n, hl, q⟩ := q; exact ⟨_, hl⟩
 | rol vs => obtain ⟨cs, ⟨o, ho, r⟩, q⟩ := q; exact ⟨o, ho⟩
 | inst C dx => exact ⟨_, q⟩
 | ns C f => obtain ⟨es, n, xs, ho, _⟩ := q; exact ⟨_, ho⟩
 | sdict f => obtain ⟨m, ⟨o, es, ep, ho, r⟩, hf⟩ := q; exact ⟨_, ho⟩
 | idict kvs => obtain ⟨cvs, ⟨o, es, ep, ho, r⟩, _⟩ := q; exact ⟨_, ho⟩
theorem OR.noTup {h : Heap} {a : Addr} {O : AO} (q : OR G h a O) : ∀ o, h.get? a = some o → ¬ IsT o := by
 intro o e ⟨hT, xs, n, hd⟩
 revert hT
 cases O with
 | list vs => obtain ⟨cs, n, hl, q⟩ := q; rw [show h.get? a = _ from hl] at e; cases e; intro z; injection z with z; exact absurd z (by decide)
 | rol vs => obtain ⟨cs, ⟨o', ho, hc, _⟩, q⟩ := q; rw [ho] at e; cases e; rw [hc]; decide
 | inst C dx => rw [show h.get? a = _ from q] at e; cases e; intro z; cases z
 | ns C f => obtain ⟨es, n, xs, ho, _⟩ := q; rw [ho] at e; cases e; cases hd
 | sdict f => obtain ⟨m, ⟨o', es, ep, ho, hx, r⟩, hf⟩ := q; rw [ho] at e; cases e; rw [hx.1]; decide
 | idict kvs => obtain ⟨cvs, ⟨o', es, ep, ho, hx, r⟩, _⟩ := q; rw [ho] at e; cases e; rw [hx.1]; decide
noncomputable def AO.ro : AO → Bool
 | .rol _ => true
 | _ => false
structure St (H : AH) (h : Heap) : Prop where
 keep : ∀ b o, G.h₀.get? b = some o → h.get? b = some o
 obj : ∀ a O, H a = some O → OR G h a O
 own : ∀ a O, H a = some O → O.ro = false → G.h₀.get? a = none
structure Ev (P : Addr → Prop) (H : AH) (h : Heap) (H' : AH) (h' : Heap) : Prop where
 keep : ∀ b o, h.get? b = some o → ¬ P b → H b = none → h'.get? b = some o
 dom : ∀ b, H' b ≠ none → H b ≠ none ∨ h.get? b = none
 alive : ∀ b o, h.get? b = some o → ∃ o', h'.get? b = some o'
end
section
variable {G : Sg}
theorem Ev.refl {P : Addr → Prop} {H : AH} {h : Heap} : Ev P H h H h := ⟨fun _ _ e _ _ => e, fun _ q => .inl q, fun _ o e => ⟨o, e⟩⟩
theorem Ev.trans {P : Addr → Prop} {H H' H'' : AH} {h h' h'' : Heap} (x : Ev P H h H' h') (y : Ev P H' h' H'' h'') : Ev P H h H'' h'' := by
 refine ⟨fun b o e np hn => ?_, fun b q => ?_, fun b o e => ?_⟩
 ·refine y.keep b o (x.keep b o e np hn) np ?_
  cases z : H' b with
  | none => rfl
  | some O =>
   rcases x.dom b (by rw [z]; simp) with q | q
   ·exact absurd hn q
   ·rw [e] at q; cases q
 ·rcases y.dom b q with q | q
  ·exact x.dom b q
  ·cases z : h.get? b with
   | none => exact .inr rfl
   | some o => obtain ⟨o', e'⟩ := x.alive b o z; rw [q] at e'; cases e'
 ·obtain ⟨o', e'⟩ := x.alive b o e; exact y.alive b o' e'
theorem Ev.weaken {P P' : Addr → Prop} {H H' : AH} {h h' : Heap} (x : Ev P H h H' h') (k : ∀ b o, h.get? b = some o → P b → P' b) : Ev P' H h H' h' :=
 ⟨fun b o e np hn => x.keep b o e (fun p => np (k b o e p)) hn, x.dom, x.alive⟩
theorem St.noTup {H : AH} {h : Heap} (S : St G H h) {b : Addr} {o : Obj} (e : h.get? b = some o) (hc : IsT o) : H b = none := by
 cases z : H b with
 | none => rfl
 | some O => exact absurd hc ((S.obj b O z).noTup G o e)
theorem Ev.tup {P : Addr → Prop} {H H' : AH} {h h' : Heap} (x : Ev P H h H' h') (S : St G H h) (np : ∀ b o, P b → h.get? b = some o → ¬ IsT o) : TupKeep h h' :=
 fun b o e hc => x.keep b o e (fun p => np b o p e hc) (S.noTup e hc)
theorem St.dead {H : AH} {h : Heap} (S : St G H h) {a : Addr} (e : h.get? a = none) : H a = none := by
 cases z : H a with
 | none => rfl
 | some O => obtain ⟨o, q⟩ := (S.obj a O z).live G; rw [e] at q; cases q
theorem get_size (h : Heap) : h.get? h.objs.size = none := by
 cases z : h.get? h.objs.size with
 | none => rfl
 | some o => exact absurd (Heap.lt_size z) (Nat.lt_irrefl _)
theorem St.fresh {H : AH} {h : Heap} (S : St G H h) : H h.objs.size = none := S.dead (get_size h)
noncomputable def Keep (h h' : Heap) : Prop := ∀ b o, h.get? b = some o → h'.get? b = some o
theorem Keep.refl (h : Heap) : Keep h h := fun _ _ e => e
theorem Keep.trans {h₁ h₂ h₃ : Heap} (x : Keep h₁ h₂) (y : Keep h₂ h₃) : Keep h₁ h₃ := fun b o e => y b o (x b o e)
theorem Keep.push (h : Heap) (o : Obj) : Keep h (h.push o) := fun _ _ e => Heap.get?_push_of_some o e
theorem Keep.ofExt {h h' : Heap} (x : Heap.ExtBut h.objs.size h h') : Keep h h' := fun b o e => x b o (Nat.ne_of_lt (Heap.lt_size e)) e
theorem Keep.tup {h h' : Heap} (x : Keep h h') : TupKeep h h' := fun b o e _ => x b o e
theorem St.grow {H : AH} {h h' : Heap} (S : St G H h) (k : Keep h h') : St G H h' :=
 ⟨fun b o e => k b o (S.keep b o e), fun a O e => (S.obj a O e).keep G k.tup fun o => k a o, S.own⟩
theorem Keep.ev {P : Addr → Prop} {H : AH} {h h' : Heap} (k : Keep h h') : Ev P H h H h' := ⟨fun b o e _ _ => k b o e, fun _ q => .inl q, fun b o e => ⟨o, k b o e⟩⟩
theorem set_ne {H : AH} {a b : Addr} {O : AO} (n : b ≠ a) : H.set a O b = H b := if_neg n
theorem set_eq {H : AH} {a : Addr} {O : AO} : H.set a O a = some O := if_pos rfl
theorem St.alloc {H : AH} {h h' : Heap} (S : St G H h) (k : Keep h h') {a : Addr} {O : AO} (hd : h.get? a = none) (hO : OR G h' a O) : St G (H.set a O) h' := by
 have S' := S.grow k
 refine ⟨S'.keep, fun b o e => ?_, fun b o e hr => ?_⟩
 ·by_cases hb : b = a
  ·subst hb; rw [set_eq] at e; cases e; exact hO
  ·rw [set_ne hb] at e; exact S'.obj b o e
 ·by_cases hb : b = a
  ·subst hb
   cases z : G.h₀.get? b with
   | none => rfl
   | some o' => have := S.keep b o' z; rw [hd] at this; cases this
  ·rw [set_ne hb] at e; exact S.own b o e hr
theorem Ev.alloc {P : Addr → Prop} {H : AH} {h h' : Heap} (k : Keep h h') {a : Addr} {O : AO} (hd : h.get? a = none) : Ev P H h (H.set a O) h' := by
 refine ⟨fun b o e _ _ => k b o e, fun b q => ?_, fun b o e => ⟨o, k b o e⟩⟩
 by_cases hb : b = a
 ·subst hb; exact .inr hd
 ·rw [set_ne hb] at q; exact .inl q
theorem St.change {H : AH} {h h' : Heap} (S : St G H h) {a : Addr} {O O' : AO} (ha : H a = some O) (hr : O.ro = false) (k : ∀ b o, b ≠ a → h.get? b = some o → h'.get? b = some o) (hO : OR G h' a O') : St G (H.set a O') h' := by
 have tk : TupKeep h h' := fun b o e hc => k b o (fun q => (no_ns q (S.noTup e hc) ha)) e
 refine ⟨fun b o e => k b o (fun q => ?_) (S.keep b o e), fun b o e => ?_, fun b o e hro => ?_⟩
 ·subst q; rw [S.own b O ha hr] at e; cases e
 ·by_cases hb : b = a
  ·subst hb; rw [set_eq] at e; cases e; exact hO
  ·rw [set_ne hb] at e; exact (S.obj b o e).keep G tk fun o => k b o hb
 ·by_cases hb : b = a
  ·subst hb; exact S.own b O ha hr
  ·rw [set_ne hb] at e; exact S.own b o e hro
theorem Ev.change {P : Addr → Prop} {H : AH} {h h' : Heap} {a : Addr} {O O' : AO} (ha : H a = some O) (k : ∀ b o, b ≠ a → h.get? b = some o → h'.get? b = some o) (al : ∃ o', h'.get? a = some o') : Ev P H h (H.set a O') h' := by
 refine ⟨fun b o e _ hn => k b o (fun q => (no_ns q hn ha)) e, fun b q => ?_, fun b o e => ?_⟩
 ·by_cases hb : b = a
  ·subst hb; exact .inl (by rw [ha]; simp)
  ·rw [set_ne hb] at q; exact .inl q
 ·by_cases hb : b = a
  ·subst hb; exact al
  ·exact ⟨o, k b o hb e⟩
end
section
variable {G : Sg}
theorem ns_noT {h : Heap} {L : Addr} {m : Str → Option Value} (n : h.Ns L m) : ∀ b o, b = L → h.get? b = some o → ¬ IsT o := by
 rintro b o rfl e ⟨_, xs, k, hd⟩
 obtain ⟨o', es, ep, ho, hd', _⟩ := n
 rw [ho] at e; cases e; rw [hd'] at hd; cases hd
theorem cell_noT {h : Heap} {c : Addr} {v : Option Value} (n : h.IsCell c v) : ∀ o, h.get? c = some o → ¬ IsT o := by
 rintro o e ⟨_, xs, k, hd⟩
 obtain ⟨o', ho, hd'⟩ := n
 rw [ho] at e; cases e; rw [hd'] at hd; cases hd
structure Res (G : Sg) (L : Addr) (m : Str → Option Value) (H : AH) (s : Shared) (H' : AH) (s' : Shared) : Prop where
 same : ∃ h tk, s' = { s with heap := h, toks := tk }
 st : St G H' s'.heap
 fr : Fr G.h₀ L s'.heap m
 ev : Ev (· = L) H s.heap H' s'.heap
theorem Res.trans {L : Addr} {m : Str → Option Value} {H H' H'' : AH} {s s' s'' : Shared} (x : Res G L m H s H' s') (y : Res G L m H' s' H'' s'') : Res G L m H s H'' s'' := by
 obtain ⟨h, tk, e⟩ := x.same
 obtain ⟨h', tk', e'⟩ := y.same
 exact ⟨⟨h', tk', by rw [e', e]⟩, y.st, y.fr, x.ev.trans y.ev⟩
theorem Res.refl {L : Addr} {m : Str → Option Value} {H : AH} {s : Shared} (S : St G H s.heap) (F : Fr G.h₀ L s.heap m) : Res G L m H s H s := ⟨⟨_, _, rfl⟩, S, F, .refl⟩
theorem Res.tup {L : Addr} {m : Str → Option Value} {H H' : AH} {s s' : Shared} (x : Res G L m H s H' s') (S : St G H s.heap) (F : Fr G.h₀ L s.heap m) : TupKeep s.heap s'.heap := x.ev.tup S (ns_noT F.ns)
theorem Res.keep {L : Addr} {m : Str → Option Value} {H : AH} {s : Shared} {h : Heap} {tk : Tok} (S : St G H s.heap) (F : Fr G.h₀ L s.heap m) (k : Keep s.heap h) : Res G L m H s H { s with heap := h, toks := tk } :=
 ⟨⟨_, _, rfl⟩, S.grow k, F.keeps k, k.ev⟩
theorem Res.alloc {L : Addr} {m : Str → Option Value} {H : AH} {s : Shared} {h : Heap} {tk : Tok} (S : St G H s.heap) (F : Fr G.h₀ L s.heap m) (k : Keep s.heap h) {a : Addr} {O : AO} (hd : s.heap.get? a = none) (hO : OR G h a O) :
  Res G L m H s (H.set a O) { s with heap := h, toks := tk } := ⟨⟨_, _, rfl⟩, S.alloc k hd hO, F.keeps k, .alloc k hd⟩
theorem Res.change {L : Addr} {m : Str → Option Value} {H : AH} {s : Shared} {h : Heap} {tk : Tok} (S : St G H s.heap) (F : Fr G.h₀ L s.heap m) {a : Addr} {O O' : AO} (ha : H a = some O) (hr : O.ro = false) (hL : H L = none)
  (k : ∀ b o, b ≠ a → s.heap.get? b = some o → h.get? b = some o) (hO : OR G h a O') : Res G L m H s (H.set a O') { s with heap := h, toks := tk } := by
 refine ⟨⟨_, _, rfl⟩, S.change ha hr k hO, ⟨?_, fun b o e => (S.change ha hr k hO).keep b o e, F.above⟩, .change ha k (hO.live G)⟩
 obtain ⟨oL, es, ep, h1, r⟩ := F.ns
 exact ⟨oL, es, ep, k L oL (fun q => (no_ns q hL ha)) h1, r⟩
noncomputable def VP (G : Sg) (L : Addr) (m : Str → Option Value) (H : AH) (s : Shared) (Q : PV) : Value → Shared → Prop := fun c s' => ∃ v H', VR s'.heap v c ∧ Res G L m H s H' s' ∧ Q v H'
abbrev noE : Value → Shared → Prop := fun _ _ => False
theorem VP.mono {L : Addr} {m : Str → Option Value} {H H' : AH} {s s' : Shared} {Q Q' : PV} {c : Value} {s'' : Shared} (x : Res G L m H s H' s') (h : VP G L m H' s' Q c s'') (k : ∀ v H, Q v H → Q' v H) : VP G L m H s Q' c s'' := by
 obtain ⟨v, H'', a, b, q⟩ := h
 exact ⟨v, H'', a, x.trans b, k v H'' q⟩
theorem vp_mono {A : Around} {L : Addr} {m : Str → Option Value} {H H' : AH} {s s' : Shared} {Q : PV} {t : Sem Value} (x : Res G L m H s H' s') (h : wpAny (model G.prog G.w) A t (VP G L m H' s' Q) noE s') : wpAny (model G.prog G.w) A t (VP G L m H s Q) noE s' :=
 wpAny_mono h (fun _ _ q => q.mono x fun _ _ q => q) fun _ _ z => z
noncomputable def LoR (env : PySem.Env) (m : Str → Option Value) (h : Heap) (ρ : Lo) : Prop := ∀ x v, ρ x = some v →
 (env.kindOf (nmS x) = some .local ∧ ∃ c, m (nmS x) = some c ∧ VR h v c) ∨
 (env.kindOf (nmS x) = some .cell ∧ ∃ ca c, env.cells.lookup (nmS x) = some ca ∧ h.IsCell ca (some c) ∧ VR h v c) ∨
 (env.kindOf (nmS x) ≠ some .local ∧ env.kindOf (nmS x) ≠ some .cell)
structure Frm (G : Sg) (env : PySem.Env) (m : Str → Option Value) (H : AH) (h : Heap) (ρ : Lo) : Prop where
 fr : Fr G.h₀ env.locals h m
 lo : LoR env m h ρ
 un : H env.locals = none
 cu : ∀ n ca, env.cells.lookup n = some ca → H ca = none ∧ ca ≠ env.locals ∧ ∃ v, h.IsCell ca v
 ck : ∀ n, env.kindOf n = some .cell → ∃ ca, env.cells.lookup n = some ca
 kind : env.scope.kind = .function
 glob : env.globals = mainGlobals
 blt : env.builtins = builtinsNs
 cj : ∀ n n' ca, env.cells.lookup n = some ca → env.cells.lookup n' = some ca → n = n'
 co : ∀ n ca, env.cells.lookup n = some ca → G.h₀.get? ca = none
theorem Frm.keep {env : PySem.Env} {m : Str → Option Value} {H H' : AH} {s s' : Shared} {ρ : Lo} (F : Frm G env m H s.heap ρ) (S : St G H s.heap) (x : Res G env.locals m H s H' s') : Frm G env m H' s'.heap ρ := by
 have tk := x.tup S F.fr
 have un : ∀ b o, s.heap.get? b = some o → H b = none → H' b = none := fun b o e hn => by
  cases z : H' b with
  | none => rfl
  | some O =>
   rcases x.ev.dom b (by rw [z]; simp) with q | q
   ·exact absurd hn q
   ·rw [e] at q; cases q
 have ck : ∀ n ca, env.cells.lookup n = some ca → ∀ o, s.heap.get? ca = some o → s'.heap.get? ca = some o := fun n ca hc o e => x.ev.keep ca o e (F.cu n ca hc).2.1 (F.cu n ca hc).1
 refine ⟨x.fr, fun y v hv => ?_, ?_, fun n ca hc => ?_, F.ck, F.kind, F.glob, F.blt, F.cj, F.co⟩
 ·rcases F.lo y v hv with ⟨h1, c, h2, h3⟩ | ⟨h1, ca, c, h2, ⟨o, ho, hd⟩, h4⟩ | hn
  ·exact .inl ⟨h1, c, h2, h3.keep tk⟩
  ·exact .inr (.inl ⟨h1, ca, c, h2, ⟨o, ck _ _ h2 o ho, hd⟩, h4.keep tk⟩)
  ·exact .inr (.inr hn)
 ·obtain ⟨oL, _, _, e, _⟩ := F.fr.ns; exact un _ oL e F.un
 ·obtain ⟨h1, h2, v, o, ho, hd⟩ := F.cu n ca hc
  exact ⟨un ca o ho h1, h2, v, o, ck n ca hc o ho, hd⟩
end
end RK
end
section
open PySem PySem.W PyProof.Rows
namespace RK
noncomputable def BOp.op : BOp → Operator
 | .add => .Add | .sub => .Sub | .mul => .Mult | .fdiv => .FloorDiv | .mod => .Mod | .band => .BitAnd | .bor => .BitOr | .shl => .LShift | .shr => .RShift
noncomputable def COp.op : COp → CmpOp
 | .eq => .Eq | .ne => .NotEq | .lt => .Lt | .le => .LtE | .gt => .Gt | .ge => .GtE
section
variable {G : Sg} {A : Around} {L : Addr} {m : Str → Option Value} {H : AH} {s : Shared} {Q : PV}
theorem vp_tok {v : V} {c : Value} {tk : Tok} (S : St G H s.heap) (F : Fr G.h₀ L s.heap m) (r : VR s.heap v c) (q : Q v H) : VP G L m H s Q c { s with toks := tk } :=
 ⟨v, H, r, .keep S F (Keep.refl _), q⟩
theorem vp_here {v : V} {c : Value} (S : St G H s.heap) (F : Fr G.h₀ L s.heap m) (r : VR s.heap v c) (q : Q v H) : VP G L m H s Q c s :=
 ⟨v, H, r, .refl S F, q⟩
set_option tactic.hygienic true in
theorem mulOk {a b : Int} (h : a.natAbs < 2 ^ 64) : IntMulOk a b := by
 refine .of_left ?_
 unfold Builtin.Int.intBits
 split
 ·omega
 ·rename_i h0
  have hz : a.natAbs ≠ 0 := by intro z; apply h0; simp; omega
  have := (Nat.log2_lt hz).mpr h
  omega
theorem binI_ok {op : BOp} {a b : Int} {t u : Tok} (S : St G H s.heap) (F : Fr G.h₀ L s.heap m) (h : binI op a b H Q) :
  wpAny (model G.prog G.w) A (binaryOp op.op (.int a t) (.int b u)) (VP G L m H s Q) noE s := by
 cases op with
 | add => exact PyProof.Rows.add_int (vp_tok S F (.int _ _) h)
 | sub => exact PyProof.Rows.sub_int (vp_tok S F (.int _ _) h)
 | mul => exact PyProof.Rows.mul_int (vp_tok S F (.int _ _) h.2.2) (mulOk h.1)
 | fdiv =>
  refine PyProof.Rows.floordiv_int (by have := h.1; omega) ?_ (.inl (PyProof.noPylong_small (by have := h.1; have := h.2.1; omega)))
  rw [Int.fdiv_eq_ediv_of_nonneg _ (by have := h.1; omega)]
  exact vp_tok S F (.int _ _) h.2.2
 | mod =>
  refine PyProof.Rows.mod_int' (by have := h.1; omega) ?_
  rw [Int.fmod_eq_emod_of_nonneg _ (by have := h.1; omega)]
  exact vp_tok S F (.int _ _) h.2
 | band =>
  refine PyProof.Rows.and_int ?_
  rw [PyProof.Rows.bitAnd_pp h.1 h.2.1]
  exact vp_tok S F (.int _ _) h.2.2
 | bor =>
  refine PyProof.Rows.or_int ?_
  have e : Builtin.bitOr a b = ((a.toNat ||| b.toNat : Nat) : Int) := by
   have h1 := h.1
   have h2 := h.2.1
   obtain ⟨x, rfl⟩ := Int.eq_ofNat_of_zero_le h1
   obtain ⟨y, rfl⟩ := Int.eq_ofNat_of_zero_le h2
   have n : ∀ z : Nat, decide (0 ≤ Builtin.bitNot (z : Int)) = false := fun z => by simp [Builtin.bitNot]; omega
   have nn : ∀ z : Int, Builtin.bitNot (Builtin.bitNot z) = z := fun z => by simp [Builtin.bitNot]; omega
   unfold Builtin.bitOr Builtin.bitAnd
   rw [n x, n y]
   simp only [nn]
  rw [e]
  exact vp_tok S F (.int _ _) h.2.2
 | shl => exact PyProof.Rows.lshift_int_small h.2.1 (by have := h.2.2.1; omega) h.1 (vp_tok S F (.int _ _) h.2.2.2)
 | shr =>
  refine PyProof.Rows.rshift_int h.2.1 ?_
  rw [Int.fdiv_eq_ediv_of_nonneg _ (by exact Int.le_of_lt (Int.pow_pos (by decide)))]
  exact vp_tok S F (.int _ _) h.2.2.2
theorem cmpI_ok {op : COp} {a b : Int} {t u : Tok} (S : St G H s.heap) (F : Fr G.h₀ L s.heap m) (h : Q (.bool (cmpI op a b)) H) :
  wpAny (model G.prog G.w) A (compareOp op.op (.int a t) (.int b u)) (VP G L m H s Q) noE s := by
 have k : ∀ {c : Bool}, c = cmpI op a b → VP G L m H s Q (.bool c) s := fun e => vp_here S F (.bool _) (e ▸ h)
 cases op with
 | eq => exact PyProof.Rows.eq_int (k (by simp [cmpI]; exact rfl))
 | ne => exact PyProof.Rows.ne_int (k (by simp [cmpI, bne]; by_cases e : a = b <;> simp [e]))
 | lt => exact PyProof.Rows.lt_int (k (by simp [cmpI]))
 | gt => exact PyProof.Rows.gt_int (k (by simp [cmpI]))
 | le => exact PyProof.Rows.le_int (k (by simp [cmpI]))
 | ge => exact PyProof.Rows.ge_int (k (by simp [cmpI]))
theorem order_lt : ∀ a b : List UInt8, (Builtin.Bytes.order a b == .lt) = bLt a b
 | [], [] => rfl
 | [], _ :: _ => rfl
 | _ :: _, [] => rfl
 | x :: a, y :: b => by
  have ih := order_lt a b
  simp only [Builtin.Bytes.order, bLt]
  by_cases h1 : x < y
  ·simp [h1]
  ·by_cases h2 : x > y
   ·have : x ≠ y := fun e => by subst e; exact absurd h2 (UInt8.lt_irrefl _)
    simp [h1, h2, this]
   ·have : x = y := UInt8.le_antisymm (UInt8.not_lt.mp h2) (UInt8.not_lt.mp h1)
    subst this
    simp [h1, ih]
theorem order_gt : ∀ a b : List UInt8, (Builtin.Bytes.order a b == .gt) = bLt b a
 | [], [] => rfl
 | [], _ :: _ => rfl
 | _ :: _, [] => rfl
 | x :: a, y :: b => by
  have ih := order_gt a b
  simp only [Builtin.Bytes.order, bLt]
  by_cases h1 : x < y
  ·have h2 : ¬ y < x := fun e => UInt8.lt_irrefl _ (UInt8.lt_trans h1 e)
   have : y ≠ x := fun e => by subst e; exact absurd h1 (UInt8.lt_irrefl _)
   simp [h1, h2, this]
  ·by_cases h2 : x > y
   ·have h2' : y < x := h2
    simp [h1, h2, h2']
   ·have : x = y := UInt8.le_antisymm (UInt8.not_lt.mp h2) (UInt8.not_lt.mp h1)
    subst this
    simp [h1, ih]
end
end RK
namespace RK.FB2
open PySem PySem.W
theorem slot_lt : Slot "bytes" (cmpInfo .Lt).2.1 "bytes.__lt__" :=
 .of (owner := "bytes") (n := "__lt__") (by rw [typeLookup_type, builtinLookup_eq_fast]; kernel_rfl) (by decide +kernel) (by decide +kernel) (by decide +kernel)
  (by first | exact .inl (by decide +kernel) | exact .inr (by decide +kernel)) (by rw [isSubtype_type]; kernel_rfl)
theorem entry_lt : entryFor table "bytes.__lt__" = some Builtin.«bytes.__lt__» := entryFor_of_tree (by kernel_rfl)
theorem args_lt (a b : Value) : argsOk "bytes.__lt__" ⟨[a, b], []⟩ := by unfold argsOk; kernel_rfl
theorem slot_le : Slot "bytes" (cmpInfo .LtE).2.1 "bytes.__le__" :=
 .of (owner := "bytes") (n := "__le__") (by rw [typeLookup_type, builtinLookup_eq_fast]; kernel_rfl) (by decide +kernel) (by decide +kernel) (by decide +kernel)
  (by first | exact .inl (by decide +kernel) | exact .inr (by decide +kernel)) (by rw [isSubtype_type]; kernel_rfl)
theorem entry_le : entryFor table "bytes.__le__" = some Builtin.«bytes.__le__» := entryFor_of_tree (by kernel_rfl)
theorem args_le (a b : Value) : argsOk "bytes.__le__" ⟨[a, b], []⟩ := by unfold argsOk; kernel_rfl
theorem slot_gt : Slot "bytes" (cmpInfo .Gt).2.1 "bytes.__gt__" :=
 .of (owner := "bytes") (n := "__gt__") (by rw [typeLookup_type, builtinLookup_eq_fast]; kernel_rfl) (by decide +kernel) (by decide +kernel) (by decide +kernel)
  (by first | exact .inl (by decide +kernel) | exact .inr (by decide +kernel)) (by rw [isSubtype_type]; kernel_rfl)
theorem entry_gt : entryFor table "bytes.__gt__" = some Builtin.«bytes.__gt__» := entryFor_of_tree (by kernel_rfl)
theorem args_gt (a b : Value) : argsOk "bytes.__gt__" ⟨[a, b], []⟩ := by unfold argsOk; kernel_rfl
theorem slot_ge : Slot "bytes" (cmpInfo .GtE).2.1 "bytes.__ge__" :=
 .of (owner := "bytes") (n := "__ge__") (by rw [typeLookup_type, builtinLookup_eq_fast]; kernel_rfl) (by decide +kernel) (by decide +kernel) (by decide +kernel)
  (by first | exact .inl (by decide +kernel) | exact .inr (by decide +kernel)) (by rw [isSubtype_type]; kernel_rfl)
theorem entry_ge : entryFor table "bytes.__ge__" = some Builtin.«bytes.__ge__» := entryFor_of_tree (by kernel_rfl)
theorem args_ge (a b : Value) : argsOk "bytes.__ge__" ⟨[a, b], []⟩ := by unfold argsOk; kernel_rfl
open Builtin
theorem gives (slot : String) (B : Builtin) (b c : Array UInt8) (t u : Tok) (hB : B ⟨[.bytes b t, .bytes c u], []⟩ = (isInstance (.bytes c u) (.type "bytes") >>= fun r => if (!r) = true then (rule s!"bytes.{slot}.declined" >>= fun _ => ret .notImplemented) else ret (.bool (Bytes.holds slot (Bytes.order b.toList c.toList))))) :
  Gives (B ⟨[.bytes b t, .bytes c u], []⟩) (.val (.bool (Bytes.holds slot (Bytes.order b.toList c.toList)))) := by
 refine .of_wp fun M A E s Q hq => ?_
 rw [hB]
 refine wpAny_bind (wpAny_isInstance (typeIs_bytes s c u) F.sub_bytes_bytes ?_)
 exact wpAny_pure ⟨_, rfl, hq⟩
end RK.FB2
namespace RK
open PySem PySem.W
section
variable {G : Sg} {A : Around} {L : Addr} {m : Str → Option Value} {H : AH} {s : Shared} {Q : PV}
theorem order_le (a b : List UInt8) : (Builtin.Bytes.order a b != .gt) = (bLt a b || decide (a = b)) := by
 have h1 := order_lt a b
 have h2 := PySem.W.order_eq a b
 have h3 : (a == b) = decide (a = b) := by by_cases e : a = b <;> simp [e]
 rw [h3] at h2
 rw [← h1, ← h2]
 cases Builtin.Bytes.order a b <;> rfl
theorem order_ge (a b : List UInt8) : (Builtin.Bytes.order a b != .lt) = (bLt b a || decide (a = b)) := by
 have h1 := order_gt a b
 have h2 := PySem.W.order_eq a b
 have h3 : (a == b) = decide (a = b) := by by_cases e : a = b <;> simp [e]
 rw [h3] at h2
 rw [← h1, ← h2]
 cases Builtin.Bytes.order a b <;> rfl
theorem cmpB_ok {op : COp} {a b : List UInt8} {t u : Tok} (S : St G H s.heap) (F : Fr G.h₀ L s.heap m) (h : Q (.bool (cmpB op a b)) H) :
  wpAny (model G.prog G.w) A (compareOp op.op (.bytes a.toArray t) (.bytes b.toArray u)) (VP G L m H s Q) noE s := by
 have k : ∀ {c : Bool}, c = cmpB op a b → VP G L m H s Q (.bool c) s := fun e => vp_here S F (.bool _) (e ▸ h)
 cases op with
 | eq => exact PySem.W.eq_bytes (k (by simp [cmpB]; by_cases e : a = b <;> simp [e]))
 | ne => exact PySem.W.ne_bytes (k (by simp [cmpB, bne]; by_cases e : a = b <;> simp [e]))
 | lt => exact compareOp_gives (op := .Lt) (typeIs_bytes s _ t) (typeIs_bytes s _ u) FB2.slot_lt FB2.entry_lt (FB2.args_lt _ _) (FB2.gives "__lt__" _ _ _ t u rfl) (fun e => nomatch e) (k (by simp [cmpB, Builtin.Bytes.holds, ← order_lt]))
 | gt => exact compareOp_gives (op := .Gt) (typeIs_bytes s _ t) (typeIs_bytes s _ u) FB2.slot_gt FB2.entry_gt (FB2.args_gt _ _) (FB2.gives "__gt__" _ _ _ t u rfl) (fun e => nomatch e) (k (by simp [cmpB, Builtin.Bytes.holds, ← order_gt]))
 | le => exact compareOp_gives (op := .LtE) (typeIs_bytes s _ t) (typeIs_bytes s _ u) FB2.slot_le FB2.entry_le (FB2.args_le _ _) (FB2.gives "__le__" _ _ _ t u rfl) (fun e => nomatch e) (k (by simp only [cmpB, ← order_le]; rfl))
 | ge => exact compareOp_gives (op := .GtE) (typeIs_bytes s _ t) (typeIs_bytes s _ u) FB2.slot_ge FB2.entry_ge (FB2.args_ge _ _) (FB2.gives "__ge__" _ _ _ t u rfl) (fun e => nomatch e) (k (by simp only [cmpB, ← order_ge]; rfl))
end
end RK
end
section
open PySem PySem.W PyProof.Rows
namespace RK
noncomputable def fieldOk (K : Frag) (C : Addr) (n : Str) : Bool := plainGet K C n && hasDictIn K C && findIn K (.ref C) n == some none && takerIn K C n == some none
noncomputable def clsOk (K : Frag) (C : Addr) (ini : Option Addr) : Bool :=
 findIn K (.ref C) "__setattr__" == some (some (.builtin "object.__setattr__")) && plainOver K C && hasDictIn K C && makesIn K C && keepIn K (.ref C) &&
 (match ini with
  | some f => findIn K (.ref C) "__init__" == some (some (.ref f)) && isFn K (.ref f)
  | none => findIn K (.ref C) "__init__" == some (some (.builtin "object.__init__")))
noncomputable def methOk (K : Frag) (C : Addr) (n : Str) (f : Addr) : Bool := plainGet K C n && findIn K (.ref C) n == some (some (.ref f)) && isFn K (.ref f) && keepIn K (.ref f)
structure ClsOk (G : Sg) : Prop where
 field : ∀ C x, x ∈ Cl.fields C → fieldOk G.K (G.ca C) (nmS x) = true
 cls : ∀ C, clsOk G.K (G.ca C) ((Cl.init C).map G.fa) = true
 meth : ∀ C x f, Cl.meth C x = some f → methOk G.K (G.ca C) (nmS x) (G.fa f) = true
section
variable {G : Sg}
theorem NsE.dead {C : Cl} {x : Nm} (hx : x ∉ C.fields) : ∀ {xs es}, NsE C xs es → getL (nmS x) es = some none
 | _, _, .nil => rfl
 | _, _, .cons (x := y) (e := e) (es := es) hy _ hk r => by
  have ih := NsE.dead hx r
  have hne : e.key.isStr (nmS x) = false := by
   cases z : e.key.isStr (nmS x) with
   | false => rfl
   | true =>
    cases hq : e.key with
    | str s t =>
     rw [hq] at z hk
     simp only [Value.isStr, beq_iff_eq] at z hk
     exact absurd (nmS_inj (z.symm.trans hk)) (fun q => hx (q ▸ hy))
    | _ => rw [hq] at z; cases z
  have hr : e.refKey = false := by
   cases hq : e.key with
   | str s t => unfold DictEntry.refKey; rw [hq]
   | _ => rw [hq] at hk; cases hk
  unfold getL at ih ⊢
  rw [List.find?_cons, hne]
  dsimp only
  rw [List.any_cons, hr, Bool.false_or]
  exact ih
theorem NsE.some_ {C : Cl} {x : Nm} : ∀ {xs es}, NsE C xs es → (getL (nmS x) es).isSome = true
 | _, _, .nil => rfl
 | _, _, .cons (x := y) (e := e) (es := es) hy _ hk r => by
  have ih := NsE.some_ (x := x) r
  have hr : e.refKey = false := by
   cases hq : e.key with
   | str s t => unfold DictEntry.refKey; rw [hq]
   | _ => rw [hq] at hk; cases hk
  unfold getL at ih ⊢
  rw [List.find?_cons]
  cases z : e.key.isStr (nmS x) with
  | true => rfl
  | false =>
   dsimp only
   rw [List.any_cons, hr, Bool.false_or]
   exact ih
theorem isStr_ne {e : DictEntry} {x y : Nm} (hk : e.key.isStr (nmS x) = true) (ne : x ≠ y) : e.key.isStr (nmS y) = false := by
 cases z : e.key.isStr (nmS y) with
 | false => rfl
 | true =>
  cases hq : e.key with
  | str s t =>
   rw [hq] at z hk
   simp only [Value.isStr, beq_iff_eq] at z hk
   exact absurd (nmS_inj (hk.symm.trans z)) ne
  | _ => rw [hq] at z; cases z
theorem NsE.put {C : Cl} {x : Nm} (hx : x ∈ C.fields) {hs : Int} {t : Tok} {v : Value} : ∀ {xs es}, NsE C xs es → ∃ xs', NsE C xs' (putL (nmS x) hs (.str (nmS x) t) v es) ∧ (∀ y, y ∈ xs' ↔ y = x ∨ y ∈ xs)
 | _, _, .nil => ⟨[x], .cons hx (by simp) (by simp [Value.isStr]) .nil, by simp⟩
 | _, _, .cons (x := y) (xs := ys) (e := e) (es := es) hy hn hk r => by
  unfold putL
  by_cases q : y = x
  ·subst q
   rw [if_pos hk]
   exact ⟨y :: ys, .cons hy hn hk r, fun z => by simp⟩
  ·rw [if_neg (by rw [isStr_ne hk q]; simp)]
   obtain ⟨xs', h1, h2⟩ := NsE.put hx (hs := hs) (t := t) (v := v) r
   refine ⟨y :: xs', .cons hy (fun z => ?_) hk h1, fun z => ?_⟩
   ·rcases (h2 y).mp z with z | z
    ·exact q z
    ·exact hn z
   ·simp only [List.mem_cons, h2 z]
    constructor
    ·rintro (a | a | a) <;> simp [a]
    ·rintro (a | a | a) <;> simp [a]
theorem get_put_same {x : Nm} {hs : Int} {t : Tok} {v : Value} : ∀ {es : List DictEntry}, getL (nmS x) (putL (nmS x) hs (.str (nmS x) t) v es) = some (some v)
 | [] => by simp [putL, getL, Value.isStr]
 | e :: es => by
  unfold putL
  by_cases q : e.key.isStr (nmS x) = true
  ·rw [if_pos q]; unfold getL; rw [List.find?_cons]; dsimp only; rw [q]
  ·rw [if_neg q]
   have ih := get_put_same (x := x) (hs := hs) (t := t) (v := v) (es := es)
   unfold getL at ih ⊢
   rw [List.find?_cons, Bool.eq_false_iff.mpr q]
   dsimp only
   cases z : List.find? (fun x_1 => x_1.key.isStr (nmS x)) (putL (nmS x) hs (Value.str (nmS x) t) v es) with
   | some e' => rw [z] at ih; exact ih
   | none =>
    rw [z] at ih
    dsimp only at ih
    split at ih <;> cases ih
theorem get_put_ne {x y : Nm} (ne : x ≠ y) {hs : Int} {t : Tok} {v : Value} : ∀ {es : List DictEntry} {c : Value}, getL (nmS y) es = some (some c) → getL (nmS y) (putL (nmS x) hs (.str (nmS x) t) v es) = some (some c)
 | [], c, h => by cases h
 | e :: es, c, h => by
  unfold putL
  by_cases q : e.key.isStr (nmS x) = true
  ·rw [if_pos q]
   have z := isStr_ne q ne
   unfold getL at h ⊢
   rw [List.find?_cons, z] at h ⊢
   dsimp only at h ⊢
   have rk : (DictEntry.refKey ⟨e.hash, e.key, v⟩) = e.refKey := rfl
   rw [List.any_cons, rk]
   rw [List.any_cons] at h
   exact h
  ·rw [if_neg q]
   unfold getL at h ⊢
   rw [List.find?_cons] at h ⊢
   cases z : e.key.isStr (nmS y) with
   | true => rw [z] at h; exact h
   | false =>
    rw [z] at h
    dsimp only at h ⊢
    have h' : getL (nmS y) es = some (some c) := by
     unfold getL
     cases w : es.find? (fun x => x.key.isStr (nmS y)) with
     | some e' => rw [w] at h; exact h
     | none => rw [w] at h; dsimp only at h; split at h <;> cases h
    have ih := get_put_ne ne (hs := hs) (t := t) (v := v) h'
    unfold getL at ih
    cases w : List.find? (fun x => x.key.isStr (nmS y)) (putL (nmS x) hs (Value.str (nmS x) t) v es) with
    | some e' => rw [w] at ih; exact ih
    | none => rw [w] at ih; dsimp only at ih; split at ih <;> cases ih
variable {A : Around} {L : Addr} {m : Str → Option Value} {H : AH} {s : Shared} {Q : PV}
theorem instAt {a dx : Addr} {C C' : Cl} {f : Lo} (S : St G H s.heap) (ha : H a = some (.inst C dx)) (hd : H dx = some (.ns C' f)) :
  ∃ es n xs, s.heap.get? dx = some (dictOf es n) ∧ InstAt s.heap a (instObj (G.ca C) dx) (G.ca C) (some (dictOf es n)) ∧ NsE C' xs es ∧ ∀ x v, f x = some v → ∃ c, getL (nmS x) es = some (some c) ∧ VR s.heap v c := by
 obtain ⟨es, n, xs, h1, h2, h3⟩ := S.obj _ _ hd
 exact ⟨es, n, xs, h1, ⟨S.obj _ _ ha, rfl, rfl, h1⟩, h2, h3⟩
theorem VR.handed {h : Heap} {v : V} {c : Value} (r : VR h v c) : handedIn c = true := by cases r <;> rfl
theorem getA_ok (B : ClsOk G) (X : G.K.In G.h₀) {v : V} {c : Value} {x : Nm} {expr : Bool} (S : St G H s.heap) (F : Fr G.h₀ L s.heap m) (r : VR s.heap v c) (h : getA v x H Q) :
  wpAny (model G.prog G.w) A (getAttr c (nmS x) expr) (VP G L m H s Q) noE s := by
 cases h with | mk ha hd hw hq =>
 cases r.ref_
 obtain ⟨es, n, xs, h1, I, hn, hf⟩ := instAt S ha hd
 obtain ⟨c, e1, e2⟩ := hf x _ hw
 have hx : x ∈ Cl.fields _ := Classical.byContradiction fun z => by rw [hn.dead z] at e1; cases e1
 have ok := B.field _ x hx
 simp only [fieldOk, Bool.and_eq_true, beq_iff_eq] at ok
 refine get_own F X I ok.1.1.1 ok.1.1.2 ok.1.2 rfl e1 e2.handed ?_
 exact vp_tok S F e2 hq
end
end RK
end
section
open PySem PySem.W PyProof.Rows
namespace RK
open Classical in
noncomputable def sel (h₀ h : Heap) (L b : Addr) : Option (Addr × Obj) := if b = L then none else if (h₀.get? b).isSome then none else (h.get? b).map fun o => (b, o)
set_option tactic.hygienic true in
theorem sel_some {h₀ h : Heap} {L b : Addr} {p : Addr × Obj} (e : sel h₀ h L b = some p) : p.1 = b ∧ h.get? p.1 = some p.2 ∧ p.1 ≠ L ∧ h₀.get? p.1 = none := by
 unfold sel at e
 split at e
 ·cases e
 ·rename_i hL
  split at e
  ·cases e
  ·rename_i h0
   obtain ⟨o, ho, rfl⟩ := Option.map_eq_some_iff.mp e
   exact ⟨rfl, ho, hL, by simpa using h0⟩
theorem sel_of {h₀ h : Heap} {L b : Addr} {o : Obj} (e : h.get? b = some o) (hL : b ≠ L) (h0 : h₀.get? b = none) : sel h₀ h L b = some (b, o) := by
 unfold sel
 rw [if_neg hL, h0, e]; rfl
noncomputable def ledger (h₀ h : Heap) (L : Addr) : List (Addr × Obj) := (List.range h.objs.size).filterMap (sel h₀ h L)
theorem ledger_news (h₀ h : Heap) (L : Addr) : News h₀ L h (ledger h₀ h L) := fun p hp => by
 obtain ⟨b, _, e⟩ := List.mem_filterMap.mp hp
 exact (sel_some e).2
theorem ledger_all {h₀ h : Heap} {L b : Addr} {o : Obj} (e : h.get? b = some o) (hL : b ≠ L) (h0 : h₀.get? b = none) : (b, o) ∈ ledger h₀ h L :=
 List.mem_filterMap.mpr ⟨b, List.mem_range.mpr (Heap.lt_size e), sel_of e hL h0⟩
theorem ledger_split {h₀ h : Heap} {L d : Addr} {o : Obj} (e : h.get? d = some o) (hL : d ≠ L) (h0 : h₀.get? d = none) :
  ∃ pre post, News h₀ L h (pre ++ (d, o) :: post) ∧ (∀ p ∈ pre, p.1 ≠ d) ∧ (∀ p ∈ post, p.1 ≠ d) ∧ ∀ b ob, h.get? b = some ob → b ≠ L → b ≠ d → h₀.get? b = none → (b, ob) ∈ pre ++ (d, o) :: post := by
 obtain ⟨k, hk⟩ := Nat.exists_eq_add_of_lt (Heap.lt_size e)
 have r : List.range h.objs.size = List.range d ++ d :: (List.range' (d + 1) k) := by
  rw [hk, List.range_eq_range', List.range_eq_range', show d + k + 1 = d + (1 + k) from by rw [Nat.add_assoc, Nat.add_comm k 1], ← List.range'_append_1, Nat.zero_add, ← List.range'_append_1]
  rfl
 have l : ledger h₀ h L = (List.range d).filterMap (sel h₀ h L) ++ (d, o) :: (List.range' (d + 1) k).filterMap (sel h₀ h L) := by
  unfold ledger
  rw [r, List.filterMap_append, List.filterMap_cons, sel_of e hL h0]
 refine ⟨_, _, l ▸ ledger_news h₀ h L, fun p hp => ?_, fun p hp => ?_, fun b ob hb hbL _ hb0 => l ▸ ledger_all hb hbL hb0⟩
 ·obtain ⟨b, hb, e'⟩ := List.mem_filterMap.mp hp
  have := List.mem_range.mp hb
  rw [(sel_some e').1]; exact Nat.ne_of_lt this
 ·obtain ⟨b, hb, e'⟩ := List.mem_filterMap.mp hp
  have := (List.mem_range'_1.mp hb).1
  rw [(sel_some e').1]; exact Nat.ne_of_gt this
section
variable {G : Sg} {A : Around} {L : Addr} {m : Str → Option Value} {H : AH} {s : Shared} {Q : PV}
theorem keep_of_news {h₀ h h' : Heap} (F : Fr h₀ L h m) (F' : Fr h₀ L h' m) (N' : News h₀ L h' (ledger h₀ h L)) : ∀ b o, h.get? b = some o → b ≠ L → h'.get? b = some o := by
 intro b o e hL
 cases z : h₀.get? b with
 | none => exact (N' _ (ledger_all e hL z)).1
 | some o' => have := F.keep b o' z; rw [e] at this; cases this; exact F'.keep b o z
theorem Fr.live {h₀ h : Heap} (F : Fr h₀ L h m) : ∃ o, h.get? L = some o := let ⟨o, _, _, e, _⟩ := F.ns; ⟨o, e⟩
theorem St.growL {h' : Heap} (S : St G H s.heap) (F' : Fr G.h₀ L h' m) (hL : H L = none) (nT : ∀ o, s.heap.get? L = some o → ¬ IsT o) (k : ∀ b o, s.heap.get? b = some o → b ≠ L → h'.get? b = some o) : St G H h' :=
 ⟨F'.keep, fun a O e => (S.obj a O e).keep G (fun b o e' hT => k b o e' (fun q => by subst q; exact nT o e' hT)) fun o e' => k a o e' (fun q => (no_ns q.symm hL e)), S.own⟩
theorem Res.keepL {h' : Heap} {tk : Tok} (S : St G H s.heap) (F : Fr G.h₀ L s.heap m) (F' : Fr G.h₀ L h' m) (hL : H L = none) (k : ∀ b o, s.heap.get? b = some o → b ≠ L → h'.get? b = some o) : Res G L m H s H { s with heap := h', toks := tk } := by
 refine ⟨⟨_, _, rfl⟩, S.growL F' hL (fun o => ns_noT F.ns L o rfl) k, F', fun b o e np _ => k b o e np, fun _ q => .inl q, fun b o e => ?_⟩
 by_cases q : b = L
 ·subst q; exact Fr.live F'
 ·exact ⟨o, k b o e q⟩
theorem Res.allocL {h' : Heap} {tk : Tok} (S : St G H s.heap) (F : Fr G.h₀ L s.heap m) (F' : Fr G.h₀ L h' m) (hL : H L = none) (k : ∀ b o, s.heap.get? b = some o → b ≠ L → h'.get? b = some o) {a : Addr} {O : AO} (hd : s.heap.get? a = none) (hO : OR G h' a O) :
  Res G L m H s (H.set a O) { s with heap := h', toks := tk } := by
 have R := Res.keepL (tk := tk) S F F' hL k
 have S' : St G (H.set a O) h' := by
  refine ⟨R.st.keep, fun b o e => ?_, fun b o e hr => ?_⟩
  ·by_cases hb : b = a
   ·subst hb; rw [set_eq] at e; cases e; exact hO
   ·rw [set_ne hb] at e; exact R.st.obj b o e
  ·by_cases hb : b = a
   ·subst hb
    cases z : G.h₀.get? b with
    | none => rfl
    | some o' => have := S.keep b o' z; rw [hd] at this; cases this
   ·rw [set_ne hb] at e; exact S.own b o e hr
 refine ⟨R.same, S', F', R.ev.keep, fun b q => ?_, R.ev.alive⟩
 by_cases hb : b = a
 ·subst hb; exact .inr hd
 ·rw [set_ne hb] at q; exact .inl q
theorem Res.changeL {h' : Heap} {tk : Tok} (S : St G H s.heap) (F : Fr G.h₀ L s.heap m) (F' : Fr G.h₀ L h' m) (hL : H L = none) {a : Addr} {O O' : AO} (ha : H a = some O) (hr : O.ro = false) (k : ∀ b o, s.heap.get? b = some o → b ≠ L → b ≠ a → h'.get? b = some o) (hO : OR G h' a O') :
  Res G L m H s (H.set a O') { s with heap := h', toks := tk } := by
 have tk' : TupKeep s.heap h' := fun b o e hc => k b o e (fun q => ns_noT F.ns b o q e hc) (fun q => (no_ns q (S.noTup e hc) ha))
 have S' : St G (H.set a O') h' := by
  refine ⟨F'.keep, fun b o e => ?_, fun b o e hro => ?_⟩
  ·by_cases hb : b = a
   ·subst hb; rw [set_eq] at e; cases e; exact hO
   ·rw [set_ne hb] at e; exact (S.obj b o e).keep G tk' fun o' e' => k b o' e' (fun q => (no_ns q.symm hL e)) hb
  ·by_cases hb : b = a
   ·subst hb; exact S.own b O ha hr
   ·rw [set_ne hb] at e; exact S.own b o e hro
 refine ⟨⟨_, _, rfl⟩, S', F', fun b o e np hn => k b o e np (fun q => (no_ns q hn ha)), fun b q => ?_, fun b o e => ?_⟩
 ·by_cases hb : b = a
  ·subst hb; exact .inl (by rw [ha]; simp)
  ·rw [set_ne hb] at q; exact .inl q
 ·by_cases hb : b = a
  ·subst hb; exact hO.live G
  ·by_cases hq : b = L
   ·subst hq; exact Fr.live F'
   ·exact ⟨o, k b o e hq hb⟩
theorem NsE.length {C : Cl} : ∀ {xs es}, NsE C xs es → es.length = xs.length
 | _, _, .nil => rfl
 | _, _, .cons _ _ _ r => by rw [List.length_cons, List.length_cons, NsE.length r]
theorem NsE.nodup {C : Cl} : ∀ {xs es}, NsE C xs es → xs.Nodup ∧ ∀ x ∈ xs, x ∈ C.fields
 | _, _, .nil => ⟨.nil, by simp⟩
 | _, _, .cons h1 h2 _ r => by
  have ih := NsE.nodup r
  refine ⟨List.nodup_cons.mpr ⟨h2, ih.1⟩, fun y hy => ?_⟩
  rcases List.mem_cons.mp hy with rfl | hy
  ·exact h1
  ·exact ih.2 y hy
theorem len_le_of_nodup {α : Type} [DecidableEq α] : ∀ {xs ys : List α}, xs.Nodup → (∀ x ∈ xs, x ∈ ys) → xs.length ≤ ys.length
 | [], _, _, _ => Nat.zero_le _
 | x :: xs, ys, hn, hs => by
  have ⟨h1, h2⟩ := List.nodup_cons.mp hn
  have hx := hs x (.head _)
  have := len_le_of_nodup (ys := ys.erase x) h2 fun y hy => (List.mem_erase_of_ne (by intro q; subst q; exact h1 hy)).mpr (hs y (.tail _ hy))
  rw [List.length_erase_of_mem hx] at this
  have pos : 0 < ys.length := List.length_pos_of_mem hx
  rw [List.length_cons]; omega
theorem fields_le (C : Cl) : C.fields.length ≤ 100 := by cases C <;> decide
noncomputable def UP (G : Sg) (L : Addr) (m : Str → Option Value) (H : AH) (s : Shared) (Q : AH → Prop) : Unit → Shared → Prop := fun _ s' => ∃ H', Res G L m H s H' s' ∧ Q H'
theorem setA_ok (B : ClsOk G) (X : G.K.In G.h₀) {v w : V} {c cw : Value} {x : Nm} {K : AH → Prop} (S : St G H s.heap) (F : Fr G.h₀ L s.heap m) (hL : H L = none) (r : VR s.heap v c) (rw_ : VR s.heap w cw) (h : setA v x w H K) :
  wpAny (model G.prog G.w) A (setAttr c (nmS x) cw) (UP G L m H s K) noE s := by
 cases h with | @mk a C' dx f ha hd hx hq =>
 cases r.ref_
 obtain ⟨es, n, xs, h1, I, hn, hf⟩ := instAt S ha hd
 have ok := B.field _ x hx
 have ok2 := B.cls C'
 simp only [fieldOk, clsOk, Bool.and_eq_true, beq_iff_eq] at ok ok2
 have hdL : dx ≠ L := fun q => (no_ns q.symm hL hd)
 obtain ⟨pre, post, N, p1, p2, all⟩ := ledger_split h1 hdL (S.own _ _ hd rfl)
 have hs := (NsE.put hx (hs := PyData.keyHash G.w.params (nmS x)) (t := s.toks + 1) (v := cw) hn)
 obtain ⟨xs', hn', hm'⟩ := hs
 have hlen : (putL (nmS x) (PyData.keyHash G.w.params (nmS x)) (.str (nmS x) (s.toks + 1)) cw es).length ≤ 1000 := by
  rw [NsE.length hn']
  have := len_le_of_nodup (NsE.nodup hn').1 (NsE.nodup hn').2
  have := fields_le C'
  omega
 refine set_plain (X.keeps F.keep) I ok2.1.1.1.1.1 (osa_dict (s := { s with toks := s.toks + 1 }) F N (X.keeps F.keep) I rfl ok2.1.1.1.1.2 ok.2 ok2.1.1.1.2 (by rw [lookIn_dict]; exact NsE.some_ hn) p1 p2 (putName_dict ..) rfl hlen fun h' F' N' => ?_)
 refine ⟨_, ?_, hq⟩
 have k : ∀ b o, s.heap.get? b = some o → b ≠ L → b ≠ dx → h'.get? b = some o := fun b o e hbL hbd => by
  cases z : G.h₀.get? b with
  | none =>
   have mem := all b o e hbL hbd z
   have mem' : (b, o) ∈ pre ++ (dx, dictOf (putL (nmS x) (PyData.keyHash G.w.params (nmS x)) (.str (nmS x) (s.toks + 1)) cw es) (putN (nmS x) es n)) :: post := by
    rcases List.mem_append.mp mem with q | q
    ·exact List.mem_append_left _ q
    ·rcases List.mem_cons.mp q with q | q
     ·exact absurd (congrArg Prod.fst q) hbd
     ·exact List.mem_append_right _ (.tail _ q)
   exact (N' _ mem').1
  | some o' => have := F.keep b o' z; rw [e] at this; cases this; exact F'.keep b o z
 have tk' : TupKeep s.heap h' := fun b o e hc => k b o e (fun q => ns_noT F.ns b o q e hc) (fun q => (no_ns q (S.noTup e hc) hd))
 refine Res.changeL S F F' hL hd rfl k ⟨_, _, xs', (N' _ (List.mem_append_right _ (.head _))).1, hn', fun y u hu => ?_⟩
 by_cases q : y = x
 ·subst q
  have : u = w := by simpa [upd] using hu.symm
  subst this
  exact ⟨cw, get_put_same, rw_.keep tk'⟩
 ·have hu' : f y = some u := by simpa [upd, q] using hu
  obtain ⟨c, e1, e2⟩ := hf y u hu'
  exact ⟨c, get_put_ne (Ne.symm q) e1, e2.keep tk'⟩
end
end RK
end
section
open PySem PySem.W PyProof.Rows
namespace RK
section
variable {G : Sg} {A : Around} {L : Addr} {m : Str → Option Value} {H : AH} {s : Shared} {Q : PV}
theorem isTup_of {h : Heap} {a : Addr} {o : Obj} {cs : Array Value} {n : Nat} (ho : h.get? a = some o) (hc : o.cls = .type "tuple") (hd : o.data = .seq cs n) : IsTup h a cs := ⟨o, ho, hc, n, hd⟩
theorem toArr (cs : Array Value) : cs.toList.toArray = cs := by simp
theorem arr_get {cs : Array Value} {i : Nat} {c : Value} (e : cs.toList[i]? = some c) : cs[i]? = some c := by simpa using e
theorem seqIdx {i : Int} {n : Nat} (h0 : 0 ≤ i) (h : i.toNat < n) : seqIndex? i n = some i.toNat := by
 have hn : ¬ i < 0 := by omega
 have : i < (n : Int) := by omega
 simp [seqIndex?, hn, h0, this]
theorem keyA_ok {v : V} {c : Value} {x : Nm} {t : Tok} {value slice : Expr} (S : St G H s.heap) (F : Fr G.h₀ L s.heap m) (r : VR s.heap v c) (h : keyA v x H Q)
  (hs : ∀ o i, subscripted slice false o i = operate [o, i] (getItem o i)) :
  wpAny (model G.prog G.w) A (subscriptTail value slice c (.str (nmS x) t)) (VP G L m H s Q) noE s := by
 cases h with | mk ha hw hq =>
 cases r.ref_
 obtain ⟨mm, hm, hf⟩ := S.obj _ _ ha
 obtain ⟨c, e1, e2⟩ := hf x _ hw
 exact tail_any hm.typeIs slot_dict_getitem.lookup (wpAny_getItem_of (strKind_is G.prog G.w (nmS x) t) hm e1 (vp_tok S F e2 hq)) (hs _ _)
theorem val_hit {i : Int} {c : Value} {cvs : List (Int × Value)} : valueAt ((i, c) :: cvs) i = some c := by
 unfold valueAt; rw [List.find?_cons, decide_eq_true rfl]; rfl
theorem val_miss {i k : Int} {c : Value} {cvs : List (Int × Value)} (q : ¬ k = i) : valueAt ((k, c) :: cvs) i = valueAt cvs i := by
 unfold valueAt; rw [List.find?_cons, decide_eq_false q]
theorem lookup_rel {h : Heap} {i : Int} {kvs : List (Int × V)} {cvs : List (Int × Value)} {u : V} (e1 : cvs.map (·.1) = kvs.map (·.1)) (e2 : VRs h (kvs.map (·.2)) (cvs.map (·.2))) (e : kvs.lookup i = some u) : ∃ c, valueAt cvs i = some c ∧ VR h u c := by
 induction kvs generalizing cvs with
 | nil => cases e
 | cons p kvs ih =>
  cases cvs with
  | nil => cases e1
  | cons p' cvs =>
   obtain ⟨k, v⟩ := p
   obtain ⟨k', c⟩ := p'
   have e0 : k' = k := (List.cons.inj e1).1
   subst e0
   have e2 := e2.two
   rw [List.lookup_cons] at e
   by_cases q : i = k'
   ·subst q
    rw [beq_self_eq_true] at e
    cases e
    exact ⟨c, val_hit, e2.1⟩
   ·rw [beq_eq_false_iff_ne.mpr q] at e
    rw [val_miss (Ne.symm q)]
    exact ih (List.cons.inj e1).2 e2.2 e
theorem lookup_none {i : Int} {kvs : List (Int × V)} {cvs : List (Int × Value)} (e1 : cvs.map (·.1) = kvs.map (·.1)) : (valueAt cvs i).isSome = (kvs.lookup i).isSome := by
 induction kvs generalizing cvs with
 | nil => cases List.map_eq_nil_iff.mp e1; rfl
 | cons p kvs ih =>
  cases cvs with
  | nil => cases e1
  | cons p' cvs =>
   obtain ⟨k, v⟩ := p
   obtain ⟨k', c⟩ := p'
   have e0 : k' = k := (List.cons.inj e1).1
   subst e0
   rw [List.lookup_cons]
   by_cases q : i = k'
   ·subst q; rw [beq_self_eq_true, val_hit]; rfl
   ·rw [beq_eq_false_iff_ne.mpr q, val_miss (Ne.symm q)]
    exact ih (List.cons.inj e1).2
theorem idxA_ok {v w : V} {c ci : Value} {value slice : Expr} (S : St G H s.heap) (F : Fr G.h₀ L s.heap m) (r : VR s.heap v c) (ri : VR s.heap w ci) (h : idxA v w H Q)
  (hs : ∀ o i, subscripted slice false o i = operate [o, i] (getItem o i)) :
  wpAny (model G.prog G.w) A (subscriptTail value slice c ci) (VP G L m H s Q) noE s := by
 cases h with
 | @list a vs u i ha h0 h1 hu h =>
  cases r.ref_; obtain ⟨t, rfl⟩ := ri.int_
  obtain ⟨cs, n, hl', q⟩ := S.obj _ _ ha
  have hl := hl'.isList
  obtain ⟨c, e1, e2⟩ := q.get hu
  exact tail_any hl.typeIs slot_list_getitem.lookup (wpAny_getItem_list hl h0 h1 (arr_get e1) (vp_here S F e2 h)) (hs _ _)
 | @dict a kvs u i ha hu h =>
  cases r.ref_; obtain ⟨t, rfl⟩ := ri.int_
  obtain ⟨cvs, hd, e1, e2, lo⟩ := S.obj _ _ ha
  obtain ⟨c, e3, e4⟩ := lookup_rel e1 e2 hu
  have hm := hd.mapOf
  exact tail_any hm.typeIs slot_dict_getitem.lookup (wpAny_getItem_of (k := i) (by simp [intKind, Value.isInt]) hm e3 (vp_tok S F e4 h)) (hs _ _)
 | @tup vs u i h0 h1 hu h =>
  obtain ⟨a, o, n, cs, rfl, ho, hc, hd, q⟩ := r.tup_; obtain ⟨t, rfl⟩ := ri.int_
  obtain ⟨c, e1, e2⟩ := q.get hu
  have hT := isTup_of ho hc hd
  have hlt : i.toNat < _ := (List.getElem?_eq_some_iff.mp e1).1
  exact tail_any hT.typeIs slot_tuple_getitem.lookup (getItem_tuple hT (by omega) h1 (seqIdx h0 (by simpa using hlt)) (arr_get e1) (vp_here S F e2 h)) (hs _ _)
 | @bytes b u i hz h0 h1 hu h =>
  obtain ⟨t', rfl⟩ := r.bytes_; obtain ⟨t, rfl⟩ := ri.int_
  obtain ⟨hlt, he⟩ := List.getElem?_eq_some_iff.mp hu
  refine tail_any (typeIs_bytes _ _ _) FB.slot_bytes_getitem.lookup (getItem_bytes (by omega) h0 (by omega) ?_) (hs _ _)
  have e : b.getD i.toNat 0 = u := by rw [List.getD_eq_getElem?_getD, hu]; rfl
  rw [e]
  exact vp_tok S F (.int _ _) h
theorem pick_upto (items : Array Value) {i : Int} (h0 : 0 ≤ i) : slicePick items none (some i) none = (items.toList.take i.toNat).toArray := by
 obtain ⟨k, rfl⟩ := Int.eq_ofNat_of_zero_le h0
 rw [slicePick_plain]
 simp only [Option.elim, clipAt_nat, Int.toNat_natCast, List.drop_zero, Nat.sub_zero]
 rw [show min k items.size = min k items.toList.length from by simp, ← List.take_eq_take_min]
theorem pick_drop (items : Array Value) {i : Int} (h0 : 0 ≤ i) : slicePick items (some i) none none = (items.toList.drop i.toNat).toArray := by
 obtain ⟨k, rfl⟩ := Int.eq_ofNat_of_zero_le h0
 rw [slicePick_plain]
 simp only [Option.elim, clipAt_nat, Int.toNat_natCast]
 by_cases q : k ≤ items.size
 ·rw [Nat.min_eq_left q, List.take_of_length_le (by simp)]
 ·rw [Nat.min_eq_right (by omega)]
  rw [List.drop_of_length_le (by simp), List.drop_of_length_le (by simp; omega)]; simp
theorem vp_newList {vs : List V} {cs : List Value} {h : Heap} {tk : Tok} (S : St G H s.heap) (F : Fr G.h₀ L s.heap m) (k : Keep s.heap h) (r : VRs s.heap vs cs) (q : newA (.list vs) H Q) :
  VP G L m H s Q (.ref h.objs.size) { s with heap := h.push { cls := .type "list", data := .seq cs.toArray }, toks := tk } := by
 have kk : Keep s.heap (h.push { cls := .type "list", data := .seq cs.toArray }) := k.trans (Keep.push _ _)
 have hd : s.heap.get? h.objs.size = none := by
  cases z : s.heap.get? h.objs.size with
  | none => rfl
  | some o => have := k _ _ z; rw [get_size] at this; cases this
 exact ⟨.ref h.objs.size, _, .ref _, Res.alloc (O := .list vs) S F kk hd ⟨cs.toArray, _, Heap.get?_push_size _ rfl, by simpa using r.keep kk.tup⟩, q _ (S.dead hd)⟩
theorem uptoA_ok {v w : V} {c ci : Value} {value : Expr} {lo hi : Option Expr} {p : Pos} (S : St G H s.heap) (F : Fr G.h₀ L s.heap m) (r : VR s.heap v c) (ri : VR s.heap w ci) (h : uptoA v w H Q) :
  wpAny (model G.prog G.w) A (subscriptTail value (.Slice lo hi none p) c (.ref s.heap.objs.size)) (VP G L m H s Q) noE { s with heap := s.heap.push { cls := .type "slice", data := .fields #[.none, ci, .none] } } := by
 have main : ∀ {l : Addr} {vs : List V} {cs : Array Value} {i : Int} {t : Tok}, 0 ≤ i → s.heap.IsList l cs → VRs s.heap vs cs.toList → smallL vs → newA (.list (vs.take i.toNat)) H Q → wpAny (model G.prog G.w) A (subscriptTail value (.Slice lo hi none p) (.ref l) (.ref s.heap.objs.size)) (VP G L m H s Q) noE { s with heap := s.heap.push { cls := .type "slice", data := .fields #[.none, .int i t, .none] } } := by
  intro l vs cs i t h0 hl q hsm hq
  have hl' := hl.push { cls := .type "slice", data := .fields #[.none, .int i t, .none] }
  refine tail_any hl'.typeIs slot_list_getitem.lookup (wpAny_getItem_list_slice hl' (Heap.IsSliceOf.new ..) .none (.int i t) .none (by simp) ?_ ?_) rfl
  ·rw [pick_upto _ h0]
   exact vp_newList S F (Keep.push _ _) (q.take _) hq
  ·have := q.length
   simp at this
   unfold smallL at hsm
   rw [this, sizeLine_eq]; omega
 cases h with
 | list h0 h1 ha hz h =>
  cases r.ref_; obtain ⟨t, rfl⟩ := ri.int_
  obtain ⟨cs, n, hl, q⟩ := S.obj _ _ ha
  exact main h0 hl.isList q hz h
 | rol h0 h1 ha hz h =>
  cases r.ref_; obtain ⟨t, rfl⟩ := ri.int_
  obtain ⟨cs, hl, q⟩ := S.obj _ _ ha
  exact main h0 hl q hz h
 | @bytes b i h0 h1 hz h =>
  obtain ⟨tb, rfl⟩ := r.bytes_; obtain ⟨t, rfl⟩ := ri.int_
  refine tail_any (typeIs_bytes _ _ _) FB.slot_bytes_getitem.lookup (getItem_meets (typeIs_bytes _ _ _) (by decide) FB.slot_bytes_getitem FB.entry_bytes_getitem (FB.args_bytes_getitem_2 _ _) (KBc.meets_slice2 b.toArray tb _ .none (.int i t))
   ⟨Heap.IsSliceOf.new _ _ _ _, Nat.le_trans (KBc.size_picked_le _ _ _) (by simp [sizeLine_eq]; omega), fun t' k => ?_⟩) rfl
  have e : KBy.picked b.toArray none (some i) = (b.take i.toNat).toArray := by
   obtain ⟨k, rfl⟩ := Int.eq_ofNat_of_zero_le h0
   rw [KBc.picked_eq]
   simp only [Option.elim, clipAt_nat, Int.toNat_natCast, List.drop_zero, Nat.sub_zero]
   rw [show min k b.toArray.size = min k b.length from by simp, ← List.take_eq_take_min]
  rw [e]
  exact ⟨.bytes (b.take i.toNat), H, .bytes _ _, Res.keep S F (Keep.push _ _), h⟩
theorem dropA_ok {v w : V} {c ci : Value} {value : Expr} {lo hi : Option Expr} {p : Pos} (S : St G H s.heap) (F : Fr G.h₀ L s.heap m) (r : VR s.heap v c) (ri : VR s.heap w ci) (h : dropA v w H Q) :
  wpAny (model G.prog G.w) A (subscriptTail value (.Slice lo hi none p) c (.ref s.heap.objs.size)) (VP G L m H s Q) noE { s with heap := s.heap.push { cls := .type "slice", data := .fields #[ci, .none, .none] } } := by
 cases h with | @list a vs i h0 h1 ha hsm h =>
 cases r.ref_; obtain ⟨t, rfl⟩ := ri.int_
 obtain ⟨cs, n, hl, q⟩ := S.obj _ _ ha
 have hl' := hl.isList.push { cls := .type "slice", data := .fields #[.int i t, .none, .none] }
 refine tail_any hl'.typeIs slot_list_getitem.lookup (wpAny_getItem_list_slice hl' (Heap.IsSliceOf.new ..) (.int i t) .none .none (by simp) ?_ ?_) rfl
 ·rw [pick_drop _ h0]
  exact vp_newList S F (Keep.push _ _) (q.drop _) h
 ·have := q.length
  simp at this
  unfold smallL at hsm
  rw [this, sizeLine_eq]; omega
end
end RK
end
section
open PySem PySem.W PyProof.Rows
namespace RK
section
variable {G : Sg} {A : Around} {L : Addr} {m : Str → Option Value} {H : AH} {s : Shared} {Q : PV}
theorem small_size {h : Heap} {vs : List V} {cs : Array Value} (q : VRs h vs cs.toList) (hs : smallL vs) : cs.size ≤ 100000 := by
 have := q.length
 simp at this
 rw [this]; exact hs
theorem binA_ok {op : BOp} {v w : V} {c cw : Value} (S : St G H s.heap) (F : Fr G.h₀ L s.heap m) (r : VR s.heap v c) (rw_ : VR s.heap w cw) (h : binA op v w H Q) :
  wpAny (model G.prog G.w) A (binaryOp op.op c cw) (VP G L m H s Q) noE s := by
 cases h with
 | int h =>
  obtain ⟨t, rfl⟩ := r.int_; obtain ⟨t', rfl⟩ := rw_.int_
  exact binI_ok S F h
 | bytes e hz h =>
  subst e
  obtain ⟨t, rfl⟩ := r.bytes_; obtain ⟨t', rfl⟩ := rw_.bytes_
  refine KBy.add_bytes (by simp; omega) fun t' k => ?_
  rw [List.append_toArray]
  exact vp_tok S F (.bytes _ _) h
 | list e ha hb h1 h2 h =>
  subst e
  cases r.ref_; cases rw_.ref_
  obtain ⟨cs, n, hl, q⟩ := S.obj _ _ ha
  obtain ⟨ds, k, hl2, q2⟩ := S.obj _ _ hb
  have z1 := small_size q h1
  have z2 := small_size q2 h2
  refine P.add_list hl hl2 ?_ (by rw [sizeLine_eq]; omega)
  have := vp_newList (tk := s.toks) S F (Keep.refl _) (q.app q2) h
  rw [show (cs.toList ++ ds.toList).toArray = cs ++ ds from by simp] at this
  exact this
theorem innA_ok {v w : V} {c cw : Value} (S : St G H s.heap) (F : Fr G.h₀ L s.heap m) (r : VR s.heap v c) (rw_ : VR s.heap w cw) (hsm : sysModules < G.h₀.objs.size) (h : innA v w H Q) :
  wpAny (model G.prog G.w) A (compareOp .In c cw) (VP G L m H s Q) noE s := by
 cases h with | @mk a kvs i ha h =>
 obtain ⟨t, rfl⟩ := r.int_; cases rw_.ref_
 obtain ⟨cvs, hd, e1, e2, lo⟩ := S.obj _ _ ha
 refine wpAny_in_of (k := i) (by simp [intKind, Value.isInt]) lo hd.mapOf ?_
 rw [lookup_none e1]
 exact vp_tok S F (.bool _) h
theorem isNone_ok {v : V} {c : Value} (S : St G H s.heap) (F : Fr G.h₀ L s.heap m) (r : VR s.heap v c) (h : Q (.bool v.isNone) H) :
  wpAny (model G.prog G.w) A (compareOp .Is c .none) (VP G L m H s Q) noE s := by
 cases r with
 | none => exact wpAny_is_self rfl (vp_here S F (.bool _) h)
 | _ => exact wpAny_is_other rfl (by intro z; cases z) (vp_here S F (.bool _) h)
theorem notNone_ok {v : V} {c : Value} (S : St G H s.heap) (F : Fr G.h₀ L s.heap m) (r : VR s.heap v c) (h : Q (.bool (!v.isNone)) H) :
  wpAny (model G.prog G.w) A (compareOp .IsNot c .none) (VP G L m H s Q) noE s := by
 cases r with
 | none => exact wpAny_isNot_self rfl (vp_here S F (.bool _) h)
 | _ => exact wpAny_isNot_other rfl (by intro z; cases z) (vp_here S F (.bool _) h)
theorem upd_list {l : Addr} {vs ws : List V} {cs : Array Value} {n : Nat} {f : Array Value → Array Value} {v : V} {c : Value} (S : St G H s.heap) (F : Fr G.h₀ L s.heap m) (hL : H L = none) (ha : H l = some (.list vs)) (hl : IsL s.heap l cs n)
  (q : VRs s.heap ws (f cs).toList) (rv : VR s.heap v c) (h : Q v (H.set l (.list ws))) : VP G L m H s Q c { s with heap := s.heap.update l (Obj.mapSeq f) } := by
 have k : ∀ b o, b ≠ l → s.heap.get? b = some o → (s.heap.update l (Obj.mapSeq f)).get? b = some o := fun b o ne e => by rw [Heap.get?_update_other _ _ (Ne.symm ne)]; exact e
 have tk : TupKeep s.heap (s.heap.update l (Obj.mapSeq f)) := fun b o e hT => k b o (fun z => (no_ns z (S.noTup e hT) ha)) e
 exact ⟨v, _, rv.keep tk, Res.change (O' := .list ws) S F ha rfl hL k ⟨f cs, _, hl.update f, q.keep tk⟩, h⟩
noncomputable def LM.id : LM → String
 | .append => "list.append" | .pop => "list.pop" | .reverse => "list.reverse" | .insert => "list.insert"
theorem lmA_ok {mm : LM} {l : Addr} {vs : List V} {cs : List Value} (S : St G H s.heap) (F : Fr G.h₀ L s.heap m) (hL : H L = none) (rs : VRs s.heap vs cs) (h : lmA mm l vs H Q) :
  wpAny (model G.prog G.w) A (call (.builtin mm.id) (.ref l :: cs)) (VP G L m H s Q) noE s := by
 cases h with
 | append ha hsm h =>
  obtain ⟨c, rfl, a⟩ := rs.one_
  obtain ⟨ds, n, hl, q⟩ := S.obj _ _ ha
  have z := small_size q hsm
  refine call_meets slot_list_append ⟨_, hl, rfl⟩ entry_list_append (PySem.args_list_append _ _) (PySem.list_append l ds n _ (by rw [sizeLine_eq]; omega)) ⟨hl, ?_⟩
  exact upd_list S F hL ha hl (by rw [Array.toList_push]; exact q.app (.one a)) .none h
 | @pop xs u ha hsm hu h =>
  cases rs.nil_
  obtain ⟨ds, n, hl, q⟩ := S.obj _ _ ha
  have z := small_size q hsm
  have hne : xs ≠ [] := by rintro rfl; cases hu
  have e : xs[xs.length - 1]? = some u := by rw [← List.getLast?_eq_getElem?]; exact hu
  obtain ⟨c, e1, e2⟩ := q.get e
  have hlen : ds.size = xs.length := by have := q.length; simpa using this
  have e1' : ds[ds.size - 1]? = some c := by rw [hlen]; exact arr_get e1
  refine call_meets PySem.F.slot_list_pop ⟨_, hl, rfl⟩ PySem.F.entry_list_pop (PySem.F.args_list_pop_1 _) (MeetsSeq.list_pop_last l ds n c e1' (by rw [sizeLine_eq]; omega)) ⟨hl, ?_⟩
  refine upd_list S F hL ha hl ?_ e2 h
  have pos : 0 < ds.size := by rw [hlen]; exact List.length_pos_iff.mpr hne
  have : (ds.eraseIdxIfInBounds (ds.size - 1)).toList = ds.toList.take (xs.length - 1) := by
   unfold Array.eraseIdxIfInBounds
   rw [dif_pos (by omega), Array.toList_eraseIdx, hlen, List.eraseIdx_eq_take_drop_succ, List.drop_of_length_le (by simp; omega)]
   simp
  rw [this, List.dropLast_eq_take]
  exact q.take _
 | reverse ha hsm h =>
  cases rs.nil_
  obtain ⟨ds, n, hl, q⟩ := S.obj _ _ ha
  have z := small_size q hsm
  refine call_meets PySem.F.slot_list_reverse ⟨_, hl, rfl⟩ PySem.F.entry_list_reverse (PySem.F.args_list_reverse_1 _) (AutoSeq1.list_reverse_list_0 l ds n (by rw [sizeLine_eq]; omega)) ⟨hl, ?_⟩
  exact upd_list S F hL ha hl (by simpa using q.reverse) .none h
 | @insert xs v i ha hsm h0 h1 h =>
  obtain ⟨c, d, rfl, a, b⟩ := rs.two_
  obtain ⟨t, rfl⟩ := a.int_
  obtain ⟨ds, n, hl, q⟩ := S.obj _ _ ha
  have z := small_size q hsm
  have hlen : ds.size = xs.length := by have := q.length; simpa using this
  refine call_meets PySem.F.slot_list_insert ⟨_, hl, rfl⟩ PySem.F.entry_list_insert (PySem.F.args_list_insert_3 _ _ _) (AutoSeq1.list_insert_list_int_val_1 l ds n i _ _ (by unfold smallL at hsm; simp [Builtin.List.listFitsIndex]; omega) (by rw [sizeLine_eq]; omega)) ⟨hl, ?_⟩
  refine upd_list S F hL ha hl ?_ .none h
  have hn : ¬ i < 0 := by omega
  simp only [hn, if_false]
  rw [Nat.min_eq_left (by omega), Array.toList_append, Array.toList_push, Array.toList_extract, Array.toList_extract]
  simp only [List.extract_eq_take_drop, List.drop_zero, Nat.sub_zero]
  rw [show List.take (ds.size - i.toNat) (List.drop i.toNat ds.toList) = List.drop i.toNat ds.toList from List.take_of_length_le (by simp), List.append_assoc]
  exact (q.take _).app (.cons b (q.drop _))
end
end RK
end
section
open PySem PySem.W PyProof.Rows
namespace RK
section
variable {G : Sg} {A : Around} {L : Addr} {m : Str → Option Value} {H : AH} {s : Shared} {Q : PV}
theorem setItem_at {prog : Program} {w : World} {E : Value → Shared → Prop} {l : Addr} {cs : Array Value} {n : Nat} {k : Int} {t : Tok} {c : Value} {Q : Unit → Shared → Prop} (hl : IsL s.heap l cs n) (h0 : 0 ≤ k) (hz : k < 2 ^ 63) (hk : k.toNat < cs.size)
  (h : Q () { s with heap := s.heap.update l (Obj.mapSeq fun xs => xs.setIfInBounds k.toNat c) }) : wpAny (model prog w) A (setItem (.ref l) (.int k t) c) Q E s := by
 have hT : s.TypeIs (.ref l) "list" := ⟨_, hl, rfl⟩
 unfold setItem
 refine wpAny_holding ?_
 refine wpAny_bind (wpAny_sequenceKey hT (by decide) ?_)
 refine wpAny_bind (wpAny_callSpecial?_slot (name := Str.ofString "__setitem__") hT slot_list_setitem (wpAny_call_entry slot_list_setitem hT entry_list_setitem ?_ (args_list_setitem _ _ _)))
 show wpAny _ _ (Builtin.List.listSubscript? (.int k t) >>= _) _ _ s
 refine wpAny_bind (wpAny_listSubscript_int (fitsIndex_of h0 hz) ?_)
 obtain ⟨j, rfl⟩ := Int.eq_ofNat_of_zero_le h0
 have hx : cs[j]? = some cs[j] := Array.getElem?_eq_getElem hk
 show wpAny _ _ ((seqItemAt l j >>= fun r => pure (r.map (j, ·))) >>= _) _ _ s
 refine wpAny_bind (wpAny_bind (wpAny_seqItemAt hl rfl (wpAny_pure ?_)))
 rw [hx]
 show wpAny _ _ (setSeqItemAt l j c >>= _) _ _ s
 refine wpAny_bind (wpAny_setSeqItemAt hl rfl ?_)
 exact wpAny_pure ⟨.none, rfl, wpAny_pure h⟩
theorem stored_hit {i : Int} {c d : Value} {cvs : List (Int × Value)} (hno : i ∉ cvs.map (·.1)) : stored ((i, d) :: cvs) i c = (i, c) :: cvs := by
 have e : cvs.map (fun kv => if kv.1 = i then (kv.1, c) else kv) = cvs :=
  (List.map_congr_left fun x hx => if_neg fun (e : x.1 = i) => hno (List.mem_map.mpr ⟨x, hx, e⟩)).trans (List.map_id _)
 unfold stored
 rw [List.any_cons, decide_eq_true rfl, Bool.true_or, if_pos rfl, List.map_cons, e, if_pos rfl]
theorem stored_miss {i k : Int} {c d : Value} {cvs : List (Int × Value)} (q : ¬ k = i) : stored ((k, d) :: cvs) i c = (k, d) :: stored cvs i c := by
 unfold stored
 rw [List.any_cons, decide_eq_false q, Bool.false_or, List.map_cons, if_neg q]
 split <;> rfl
theorem rel_ins {h : Heap} {i : Int} {v : V} {c : Value} (rv : VR h v c) {kvs : List (Int × V)} {cvs : List (Int × Value)} (e1 : cvs.map (·.1) = kvs.map (·.1)) (e2 : VRs h (kvs.map (·.2)) (cvs.map (·.2))) (hn : (cvs.map (·.1)).Nodup) :
  (stored cvs i c).map (·.1) = (insI i v kvs).map (·.1) ∧ VRs h ((insI i v kvs).map (·.2)) ((stored cvs i c).map (·.2)) := by
 induction kvs generalizing cvs with
 | nil =>
  cases List.map_eq_nil_iff.mp e1
  exact ⟨rfl, .one rv⟩
 | cons p kvs ih =>
  cases cvs with
  | nil => cases e1
  | cons p' cvs =>
   obtain ⟨k, u⟩ := p
   obtain ⟨k', d⟩ := p'
   have e0 : k' = k := (List.cons.inj e1).1
   subst e0
   replace e1 := (List.cons.inj e1).2
   replace hn := List.nodup_cons.mp hn
   replace e2 := e2.two
   rw [insI_cons]
   by_cases q : i = k'
   ·subst q
    rw [stored_hit hn.1, if_pos rfl]
    exact ⟨congrArg (List.cons _) e1, .cons rv e2.2⟩
   ·have ih := ih e1 e2.2 hn.2
    rw [stored_miss (Ne.symm q), if_neg q]
    exact ⟨congrArg (List.cons k') ih.1, .cons e2.1 ih.2⟩
theorem sidxA_ok {v i w : V} {c ci cw : Value} {K : AH → Prop} (S : St G H s.heap) (F : Fr G.h₀ L s.heap m) (hL : H L = none) (r : VR s.heap v c) (ri : VR s.heap i ci) (rw_ : VR s.heap w cw) (h : sidxA v i w H K) :
  wpAny (model G.prog G.w) A (setItem c ci cw) (UP G L m H s K) noE s := by
 cases h with
 | @list a vs i ha h0 h1 hsm h =>
  cases r.ref_; obtain ⟨t, rfl⟩ := ri.int_
  obtain ⟨ds, n, hl, q⟩ := S.obj _ _ ha
  have hlen : ds.size = vs.length := by have := q.length; simpa using this
  unfold smallL at hsm
  refine setItem_at hl h0 (by omega) (by omega) ?_
  obtain ⟨_, H', _, R, hq⟩ := upd_list (Q := fun _ H' => K H') (v := .none) (c := .none) (f := fun xs => xs.setIfInBounds i.toNat cw) S F hL ha hl (by rw [Array.toList_setIfInBounds]; exact q.set _ rw_) .none h
  exact ⟨H', R, hq⟩
 | @dict a kvs i ha hz h =>
  cases r.ref_; obtain ⟨t, rfl⟩ := ri.int_
  obtain ⟨cvs, hd, e1, e2, lo⟩ := S.obj _ _ ha
  have hlen : cvs.length = kvs.length := by have := congrArg List.length e1; simpa using this
  refine wpAny_setItem_pairs (k := i) (by simp [intKind, Value.isInt]) hd (fun h' hd' hs => ?_) (by rw [sizeLine_eq]; omega)
  have hn : (cvs.map (·.1)).Nodup := by obtain ⟨_, _, _, _, _, _, _, _, hn⟩ := hd; exact hn
  have tk : TupKeep s.heap h' := fun b o e hT => hs.extBut b o (fun z => (no_ns z (S.noTup e hT) ha)) e
  have := rel_ins (i := i) rw_ e1 e2 hn
  exact ⟨_, Res.change (O' := .idict _) S F ha rfl hL (fun b o ne e => hs.extBut b o ne e) ⟨_, hd', this.1, this.2.keep tk, lo⟩, h⟩
theorem ints_back : ∀ {cs : List Value} {ns : List Int} {h : Heap}, IntsAre cs ns → VRs h (ns.map .int) cs
 | _, _, _, .nil => .nil
 | _, _, _, .cons n t r => .cons (.int n t) (ints_back r)
theorem len_ok {vs : List V} {cs : List Value} (S : St G H s.heap) (F : Fr G.h₀ L s.heap m) (rs : VRs s.heap vs cs) (h : lenA vs H Q) : wpAny (model G.prog G.w) A (call (.builtin "len") cs) (VP G L m H s Q) noE s := by
 cases h with
 | @list a xs ha hz h =>
  obtain ⟨c, rfl, r⟩ := rs.one_
  cases r.ref_
  obtain ⟨ds, n, hl, q⟩ := S.obj _ _ ha
  have hlen : ds.size = xs.length := by have := q.length; simpa using this
  have z := small_size q hz
  refine PySem.Calls.call_len_list hl.isList (by omega) ?_
  rw [hlen]
  exact vp_tok S F (.int _ _) h
 | bytes hz h =>
  obtain ⟨c, rfl, r⟩ := rs.one_
  obtain ⟨t, rfl⟩ := r.bytes_
  refine PySem.W.len_bytes (by simp; omega) ?_
  simp only [List.size_toArray]
  exact vp_tok S F (.int _ _) h
theorem sorted_made {l d : Addr} {h' : Heap} {vs' : List Value} {ns' : List Int} {e : Nat} {tk : Tok} (S : St G H s.heap) (F : Fr G.h₀ L s.heap m) (hL : H L = none) (hd : s.heap.get? d = none)
  (F' : Fr G.h₀ L h' m) (N' : News G.h₀ L h' ((d, seqObj "list" vs'.toArray e) :: ledger G.h₀ s.heap L)) (hi : IntsAre vs' ns') (h : newA (.list (ns'.map .int)) H Q) :
  VP G L m H s Q (.ref d) { s with heap := h', toks := tk } := by
 have k := keep_of_news F F' (fun p hp => N' p (.tail _ hp))
 exact ⟨.ref d, _, .ref _, Res.allocL (O := .list (ns'.map .int)) S F F' hL k hd ⟨vs'.toArray, e, (N' _ (.head _)).1, by simpa using ints_back hi⟩, h d (S.dead hd)⟩
theorem dead_size (h : Heap) (k : Nat) : h.get? (h.objs.size + k) = none := by
 cases z : h.get? (h.objs.size + k) with
 | none => rfl
 | some o => exact absurd (Heap.lt_size z) (Nat.not_lt.mpr (Nat.le_add_right _ _))
theorem sum_ok {vs : List V} {cs : List Value} (hh : A.handled = none) (hsm : sysModules < G.h₀.objs.size) (S : St G H s.heap) (F : Fr G.h₀ L s.heap m) (hL : H L = none) (rs : VRs s.heap vs cs) (h : sumA vs H Q) :
  wpAny (model G.prog G.w) A (call (.builtin "sum") cs) (VP G L m H s Q) noE s := by
 cases h with | mk ha hns h =>
 obtain ⟨c, rfl, r⟩ := rs.one_
 cases r.ref_
 obtain ⟨ds, n, hl, q⟩ := S.obj _ _ ha
 refine PySem.W.sumK (vs := ds.toList) hh F (ledger_news _ _ _) (by rw [toArr]; exact hl.isList) (q.ints hns) fun h' tk t' F' N' => ?_
 exact ⟨.int _, H, .int _ _, Res.keepL S F F' hL (keep_of_news F F' N'), h⟩
theorem min_ok {vs : List V} {cs : List Value} (hh : A.handled = none) (hsm : sysModules < G.h₀.objs.size) (S : St G H s.heap) (F : Fr G.h₀ L s.heap m) (hL : H L = none) (rs : VRs s.heap vs cs) (h : minA vs H Q) :
  wpAny (model G.prog G.w) A (call (.builtin "min") cs) (VP G L m H s Q) noE s := by
 cases h with
 | list ha hns hne h =>
  obtain ⟨c, rfl, r⟩ := rs.one_
  cases r.ref_
  obtain ⟨ds, n, hl, q⟩ := S.obj _ _ ha
  refine PyProof.Rows.min_list_N (vs := ds.toList) hh F (ledger_news _ _ _) (by rw [toArr]; exact hl.isList) (q.ints hns) (List.length_pos_iff.mpr hne) fun h' M t tk F' N' h1 h2 => ?_
  exact ⟨.int M, H, .int _ _, Res.keepL S F F' hL (keep_of_news F F' N'), h M h1 h2⟩
 | @two x y h =>
  obtain ⟨c, d, rfl, r, r2⟩ := rs.two_
  obtain ⟨t, rfl⟩ := r.int_; obtain ⟨t', rfl⟩ := r2.int_
  refine min_two_ints hh fun h' tk k => ?_
  refine ⟨.int (if y < x then y else x), H, ?_, Res.keep S F k, h⟩
  split <;> exact .int _ _
theorem max_ok {vs : List V} {cs : List Value} (hh : A.handled = none) (hsm : sysModules < G.h₀.objs.size) (S : St G H s.heap) (F : Fr G.h₀ L s.heap m) (hL : H L = none) (rs : VRs s.heap vs cs) (h : maxA vs H Q) :
  wpAny (model G.prog G.w) A (call (.builtin "max") cs) (VP G L m H s Q) noE s := by
 cases h with
 | list ha hns hne h =>
  obtain ⟨c, rfl, r⟩ := rs.one_
  cases r.ref_
  obtain ⟨ds, n, hl, q⟩ := S.obj _ _ ha
  refine PyProof.Rows.max_list_N (vs := ds.toList) hh F (ledger_news _ _ _) (by rw [toArr]; exact hl.isList) (q.ints hns) (List.length_pos_iff.mpr hne) fun h' M t tk F' N' h1 h2 => ?_
  exact ⟨.int M, H, .int _ _, Res.keepL S F F' hL (keep_of_news F F' N'), h M h1 h2⟩
 | @two x y h =>
  obtain ⟨c, d, rfl, r, r2⟩ := rs.two_
  obtain ⟨t, rfl⟩ := r.int_; obtain ⟨t', rfl⟩ := r2.int_
  refine max_two_ints hh fun h' tk k => ?_
  refine ⟨.int (if x < y then y else x), H, ?_, Res.keep S F k, h⟩
  show VR _ _ (if y > x then _ else _)
  by_cases z : x < y
  ·rw [if_pos z, if_pos z]; exact .int _ _
  ·rw [if_neg z, if_neg z]; exact .int _ _
theorem ints_keys : ∀ {cvs : List (Int × Value)} {vs : List Value}, vs.length = cvs.length → (∀ (j : Nat) (v : Value), vs[j]? = some v → ∃ k x, cvs[j]? = some (k, x) ∧ (intKind G.prog G.w).is k v = true) → IntsAre vs (cvs.map (·.1))
 | [], [], _, _ => .nil
 | [], _ :: _, e, _ => by cases e
 | _ :: _, [], e, _ => by cases e
 | (k, x) :: cvs, v :: vs, e, h => by
  obtain ⟨k', x', h1, h2⟩ := h 0 v rfl
  cases h1
  obtain ⟨t, rfl⟩ := Value.isInt_shape (show Value.isInt k v = true from h2)
  exact .cons k t (ints_keys (by simpa using e) fun j u hu => h (j + 1) u (by simpa using hu))
theorem sorted_ok {vs : List V} {cs : List Value} (hh : A.handled = none) (hsm : sysModules < G.h₀.objs.size) (S : St G H s.heap) (F : Fr G.h₀ L s.heap m) (hL : H L = none) (rs : VRs s.heap vs cs) (h : sortedA vs H Q) :
  wpAny (model G.prog G.w) A (call (.builtin "sorted") cs) (VP G L m H s Q) noE s := by
 cases h with
 | @list a xs ns ha hns hz h =>
  obtain ⟨c, rfl, r⟩ := rs.one_
  cases r.ref_
  obtain ⟨ds, n, hl, q⟩ := S.obj _ _ ha
  refine PyProof.Rows.sorted_N (vs := ds.toList) F (ledger_news _ _ _) (by rw [toArr]; exact hl.isList) (q.ints hns) (by rw [q.length]; exact hz) fun h' vs' ns' e F' N' a1 a2 a3 => ?_
  exact sorted_made (l := a) S F hL (dead_size _ 1) F' N' a1 (h ns' a2 a3)
 | @dict a kvs ha hz h =>
  obtain ⟨c, rfl, r⟩ := rs.one_
  cases r.ref_
  obtain ⟨cvs, hd, e1, e2, lo⟩ := S.obj _ _ ha
  have hlen : cvs.length = kvs.length := by have := congrArg List.length e1; simpa using this
  obtain ⟨ep, hat⟩ := hd.dictAt
  refine kdu_sorted (kdl_dict (knd := intKind G.prog G.w) (kvs := cvs) (ep := ep) lo) hh F (ledger_news _ _ _) hat (by rw [sizeLine_eq]; omega) fun D h' tk vs F' N' l1 hl hv => ?_
  have hi := ints_keys (G := G) hl hv
  have hoD := (N' _ (.head _)).1
  refine PySem.wpAny_call_entry PyProof.Rows.slot_list_sort ⟨_, hoD, rfl⟩ PyProof.Rows.entry_list_sort (list_sort_tree hoD hi (by rw [hl, hlen]; exact hz) fun out ns' a1 a2 a3 => ⟨_, rfl, ?_⟩) (PyProof.Rows.args_list_sort _)
  have k := keep_of_news F F' (fun p hp => N' p (.tail _ hp))
  obtain ⟨e, he⟩ := sortedHeap_at (vs := vs) (out := out) hoD
  have Dn : s.heap.get? D = none := by
   cases z : s.heap.get? D with
   | none => rfl
   | some o =>
    have hDL : D ≠ L := (N' _ (.head _)).2.1
    have h0 : G.h₀.get? D = none := (N' _ (.head _)).2.2
    exact absurd (l1 _ (ledger_all z hDL h0)) (Nat.lt_irrefl _)
  have k2 : ∀ b o, h'.get? b = some o → b ≠ D → (sortedHeap h' D vs out).get? b = some o := fun b o e ne => by rw [sortedHeap_old ne (Heap.lt_size e)]; exact e
  have F2 : Fr G.h₀ L (sortedHeap h' D vs out) m := by
   obtain ⟨oL, es, ep', f1, f2⟩ := F'.ns
   exact ⟨⟨oL, es, ep', k2 L oL f1 (Ne.symm (N' _ (.head _)).2.1), f2⟩, fun b o e => k2 b o (F'.keep b o e) (fun z => by subst z; have := (N' _ (.head _)).2.2; rw [e] at this; cases this), F'.above⟩
  refine ⟨.ref D, _, .ref _, Res.allocL (O := .list (ns'.map .int)) S F F2 hL (fun b o e ne => k2 b o (k b o e ne) (fun z => (no_ns z.symm Dn e))) Dn ⟨out, e, he, ints_back a1⟩, ?_⟩
  exact h ns' (by rw [← e1]; exact a2) a3 D (S.dead Dn)
end
end RK
end
section
open PySem PySem.W PyProof.Rows
namespace RK
section
variable {G : Sg} {A : Around} {L : Addr} {m : Str → Option Value} {H : AH} {s : Shared} {Q : PV}
theorem lk_bytes : typeLookup (.type "bytes") "__bytes__" = pure (some (.builtin "bytes.__bytes__")) := by rw [typeLookup_type, builtinLookup_eq_fast]; kernel_rfl
theorem bytes_new {prog : Program} {w : World} {E : Value → Shared → Prop} {b : Array UInt8} {t : Tok} {Q : Value → Shared → Prop} (h : Q (.bytes b t) s) :
  codeAny (model prog w) A (.call (.builtin "bytes.__new__") ⟨[.type "bytes", .bytes b t], []⟩) (wants Q E) s := by
 refine codeAny_of_tree ?_
 show wpAny _ A.in1 (do checkBuiltinCall "bytes.__new__" ⟨[.type "bytes", .bytes b t], []⟩; again (.builtin "bytes.__new__" ⟨[.type "bytes", .bytes b t], []⟩)) _ _ s
 refine wpAny_bind (wpAny_of_eq (PySem.F.bm_newCall _) (wpAny_pure ⟨plainId_quiet PySem.F.bm_plain _, codeAny_builtin PySem.F.bm_entry ?_⟩))
 rw [Around.under_plainId PySem.F.bm_plain _]
 unfold Builtin.«bytes.__new__»
 refine wpAny_bind (wpAny_of_eq (a := true) rfl ?_)
 refine bm_if_false rfl ?_
 refine wpAny_bind (wpAny_of_eq PySem.F.bm_sub ?_)
 refine bm_if_false rfl ?_
 refine wpAny_bind (wpAny_of_eq (PySem.F.bm_bind _) ?_)
 refine wpAny_bind (wpAny_of_eq (a := ()) rfl ?_)
 refine wpAny_bind (wpAny_of_eq (a := ()) rfl ?_)
 refine bm_if_false rfl ?_
 refine wpAny_bind (wpAny_specialOf (typeIs_bytes s b t) lk_bytes ?_)
 refine wpAny_bind (wpAny_rule ?_)
 refine wpAny_bind (wpAny_typeOf (typeIs_bytes s b t) ?_)
 refine bm_if_true (by decide) ?_
 exact wpAny_pure h
theorem call_bytes_bytes {prog : Program} {w : World} {E : Value → Shared → Prop} {b : Array UInt8} {t : Tok} {Q : Value → Shared → Prop} (h : Q (.bytes b t) s) :
  wpAny (model prog w) A (call (.type "bytes") [.bytes b t]) Q E s := by
 refine callType_codes (Q₁ := fun obj s₁ => s₁.TypeIs obj "bytes" ∧ Q obj s₁) PySem.F.bm_called (PySem.F.bm_typeCall _) PySem.F.entry_object_init (bytes_new ⟨PySem.W.typeIs_bytes _ _ _, h⟩) fun obj s₁ h₁ => ?_
 exact ⟨h₁.1, PySem.F.args_object_init_2 obj _, object_init_meets PySem.F.bm_called.init.lookup PySem.F.bm_called.made (by decide) prog w A.in1 _ s₁ ⟨h₁.1, rfl, h₁.2⟩⟩
theorem bytes_ok {vs : List V} {cs : List Value} (hh : A.handled = none) (S : St G H s.heap) (F : Fr G.h₀ L s.heap m) (rs : VRs s.heap vs cs) (h : bytesA vs H Q) :
  wpAny (model G.prog G.w) A (call (.type "bytes") cs) (VP G L m H s Q) noE s := by
 cases h with
 | bytes hz h =>
  obtain ⟨c, rfl, r⟩ := rs.one_
  obtain ⟨t, rfl⟩ := r.bytes_
  exact call_bytes_bytes (vp_here S F (.bytes _ _) h)
 | list ha hns hz hr h =>
  obtain ⟨c, rfl, r⟩ := rs.one_
  cases r.ref_
  obtain ⟨ds, n, hl, q⟩ := S.obj _ _ ha
  have z := small_size q hz
  refine call_bytes_ints (vs := ds.toList) (by rw [toArr]; exact hl.isList) (q.ints hns) hr (by rw [Array.length_toList, sizeLine_eq]; omega) hh fun h' t k hk => ?_
  exact ⟨.bytes _, H, .bytes _ _, Res.keep S F hk, h⟩
end
end RK
end
section
open PySem PySem.W PyProof.Rows
namespace RK
open PySem.SeqAt
inductive EqV (H : AH) (n : Nat) : V → V → Bool → Prop
 | int {x y} : EqV H n (.int x) (.int y) (decide (x = y))
 | bytes {x y} : EqV H n (.bytes x) (.bytes y) (decide (x = y))
 | tup {vs ws b} : eqFs (eqF H n) vs ws = some b → EqV H n (.tup vs) (.tup ws) b
 | list {a a' vs ws b} : H a = some (.list vs) → H a' = some (.list ws) → vs.length = ws.length → eqFs (eqF H n) vs ws = some b → EqV H n (.ref a) (.ref a') b
 | len {a a' vs ws} : H a = some (.list vs) → H a' = some (.list ws) → vs.length ≠ ws.length → EqV H n (.ref a) (.ref a') false
theorem list2_inv {o o' : Option AO} {P : List V → List V → Option Bool} {b : Bool} (h : (match o, o' with | some (.list vs), some (.list ws) => P vs ws | _, _ => none) = some b) : ∃ vs ws, o = some (.list vs) ∧ o' = some (.list ws) ∧ P vs ws = some b := by
 cases o with
 | none => cases h
 | some x => cases x with
  | list vs => cases o' with
   | none => cases h
   | some y => cases y with
    | list ws => exact ⟨vs, ws, rfl, rfl, h⟩
    | _ => cases h
  | _ => cases h
theorem eqF_view {H : AH} {n : Nat} {v w : V} {b : Bool} (h : eqF H (n + 1) v w = some b) : EqV H n v w b := by
 cases v with
 | int x => cases w with | int y => cases h; exact .int | _ => cases h
 | bytes x => cases w with | bytes y => cases h; exact .bytes | _ => cases h
 | tup vs => cases w with | tup ws => exact .tup h | _ => cases h
 | ref a => cases w with
  | ref a' =>
   obtain ⟨vs, ws, h1, h2, h⟩ := list2_inv (o := H a) (o' := H a') (P := fun vs ws => if vs.length = ws.length then eqFs (eqF H n) vs ws else some false) h
   by_cases z : vs.length = ws.length
   ·rw [if_pos z] at h; exact .list h1 h2 z h
   ·rw [if_neg z] at h; cases h; exact .len h1 h2 z
  | _ => cases h
 | _ => cases h
theorem eqFs_view {f : V → V → Option Bool} {v w : V} {vs ws : List V} {b : Bool} (h : eqFs f (v :: vs) (w :: ws) = some b) : ∃ x y, f v w = some x ∧ eqFs f vs ws = some y ∧ b = (x && y) := by
 have h : (match f v w, eqFs f vs ws with | some b, some r => some (b && r) | _, _ => none) = some b := h
 cases e1 : f v w with
 | none => rw [e1] at h; cases h
 | some x => cases e2 : eqFs f vs ws with
  | none => rw [e1, e2] at h; cases h
  | some y => rw [e1, e2] at h; cases h; exact ⟨x, y, rfl, rfl, rfl⟩
theorem VRs.nil' {h : Heap} {vs} (r : VRs h vs []) : vs = [] := by cases r; rfl
theorem VRs.cons' {h : Heap} {vs c cs} (r : VRs h vs (c :: cs)) : ∃ v us, vs = v :: us ∧ VR h v c ∧ VRs h us cs := by cases r with | cons a b => exact ⟨_, _, rfl, a, b⟩
theorem eqFs_same {h : Heap} {f : V → V → Option Bool} (hf : ∀ v w c b, VR h v c → VR h w c → f v w = some b → b = true) {cs : List Value} : ∀ {vs ws : List V} {b : Bool}, VRs h vs cs → VRs h ws cs → eqFs f vs ws = some b → b = true := by
 induction cs with
 | nil => intro vs ws b r r' e; cases r.nil'; cases r'.nil'; cases e; rfl
 | cons c cs ih =>
  intro vs ws b r r' e
  obtain ⟨v, vs, rfl, a, r⟩ := r.cons'
  obtain ⟨w, ws, rfl, a', r'⟩ := r'.cons'
  obtain ⟨x, y, e1, e2, rfl⟩ := eqFs_view e
  rw [hf _ _ _ _ a a' e1, ih r r' e2]; rfl
theorem bytes_one {x y : List UInt8} {t t' : Tok} (h : Value.bytes x.toArray t = Value.bytes y.toArray t') : x = y := by
 injection h with h _
 simpa using congrArg Array.toList h
theorem eqF_same {G : Sg} {H : AH} {h : Heap} (S : St G H h) (n : Nat) : ∀ (v w : V) (c : Value) (b : Bool), VR h v c → VR h w c → eqF H n v w = some b → b = true := by
 induction n with
 | zero => intro v w c b r r' e; cases e
 | succ n ih =>
  intro v w c b r r' e
  cases eqF_view e with
  | int => obtain ⟨t, rfl⟩ := r.int_; obtain ⟨t', z⟩ := r'.int_; cases z; exact decide_eq_true rfl
  | bytes => obtain ⟨t, rfl⟩ := r.bytes_; obtain ⟨t', z⟩ := r'.bytes_; exact decide_eq_true (bytes_one z)
  | tup e =>
   obtain ⟨a, o, k, cs, rfl, ho, hc, hd, q⟩ := r.tup_
   obtain ⟨a', o', k', cs', z, ho', hc', hd', q'⟩ := r'.tup_
   cases z
   rw [ho] at ho'; cases ho'
   rw [hd] at hd'; cases hd'
   exact eqFs_same ih q q' e
  | list h1 h2 z e =>
   cases r.ref_; cases r'.ref_
   rw [h1] at h2; cases h2
   obtain ⟨cs, _, _, q⟩ := S.obj _ _ h1
   exact eqFs_same ih q q e
  | len h1 h2 z => cases r.ref_; cases r'.ref_; rw [h1] at h2; cases h2; exact absurd rfl z
theorem eqAt_bytes {A : Around} {s : Shared} (a b : List UInt8) (t u : Tok) : EqAt A s (.bytes a.toArray t) (.bytes b.toArray u) (decide (a = b)) := fun prog w E Q h => by
 unfold eqBool
 refine wpAny_holding ?_
 refine wpAny_ite_split (fun hab => ?_) (fun _ => ?_)
 ·have hab := eq_of_beq hab
  injection hab with hab _
  have : a = b := by simpa using congrArg Array.toList hab
  rw [decide_eq_true this] at h
  exact wpAny_bind (wpAny_rule (wpAny_pure h))
 ·refine wpAny_bind (PySem.W.eq_bytes (b := a.toArray) (c := b.toArray) (Q := fun c s' => wpAny (model prog w) A (truthOfDropped c) Q E s') ?_)
  refine wpAny_truthy_bool ?_
  rw [show (a.toArray.toList == b.toArray.toList) = decide (a = b) from by by_cases e : a = b <;> simp [e]]
  exact h
theorem eqFs_at {A : Around} {s : Shared} {f : V → V → Option Bool} (hf : ∀ v w c d b, VR s.heap v c → VR s.heap w d → f v w = some b → EqAt A s c d b) {cs : List Value} :
  ∀ {vs ws : List V} {ds : List Value} {b : Bool}, VRs s.heap vs cs → VRs s.heap ws ds → eqFs f vs ws = some b →
   ∃ e : Nat → Bool, (∀ j (h1 : j < cs.length) (h2 : j < ds.length), EqAt A s cs[j] ds[j] (e j)) ∧ b = ((List.range (min cs.length ds.length)).all e && cs.length == ds.length) := by
 induction cs with
 | nil =>
  intro vs ws ds b r r' h
  cases r.nil'
  refine ⟨fun _ => true, fun j h1 => absurd h1 (Nat.not_lt_zero _), ?_⟩
  cases ds with
  | nil => cases r'.nil'; cases h; rfl
  | cons d ds => obtain ⟨w, ws, rfl, _⟩ := r'.cons'; cases h; simp
 | cons c cs ih =>
  intro vs ws ds b r r' h
  obtain ⟨v, vs, rfl, a, r⟩ := r.cons'
  cases ds with
  | nil => cases r'.nil'; cases h; exact ⟨fun _ => true, fun j _ h2 => absurd h2 (Nat.not_lt_zero _), by simp⟩
  | cons d ds =>
   obtain ⟨w, ws, rfl, a', r'⟩ := r'.cons'
   obtain ⟨x, y, e1, e2, rfl⟩ := eqFs_view h
   obtain ⟨e, h1, h2⟩ := ih r r' e2
   refine ⟨fun j => match j with | 0 => x | j + 1 => e j, fun j j1 j2 => ?_, ?_⟩
   ·cases j with
    | zero => exact hf _ _ _ _ _ a a' e1
    | succ j => exact h1 j (Nat.lt_of_succ_lt_succ j1) (Nat.lt_of_succ_lt_succ j2)
   ·rw [h2, List.length_cons, List.length_cons, Nat.add_min_add_right, List.range_succ_eq_map, List.all_cons, List.all_map, show (cs.length + 1 == ds.length + 1) = (cs.length == ds.length) from by by_cases q : cs.length = ds.length <;> simp [q], ← Bool.and_assoc]
    rfl
theorem all_arr {A : Around} {s : Shared} {cs ds : Array Value} {e : Nat → Bool} (h : ∀ j (h1 : j < cs.toList.length) (h2 : j < ds.toList.length), EqAt A s cs.toList[j] ds.toList[j] (e j)) :
  ∀ j (h1 : j < cs.size) (h2 : j < ds.size), EqAt A s cs[j] ds[j] (e j) := fun j h1 h2 => by
 have := h j (by simpa using h1) (by simpa using h2)
 simpa using this
theorem eqF_at {G : Sg} {H : AH} {s : Shared} (S : St G H s.heap) (n : Nat) : ∀ (A : Around), A.units + n < cLine → ∀ (v w : V) (c d : Value) (b : Bool), VR s.heap v c → VR s.heap w d → eqF H n v w = some b → EqAt A s c d b := by
 induction n with
 | zero => intro A hu v w c d b r r' e; cases e
 | succ n ih =>
  intro A hu v w c d b r r' e
  have ih := ih A.in1 (by rw [Around.in1_units]; omega)
  have same := eqF_same S (n + 1) v w
  cases eqF_view e with
  | @int x y =>
   obtain ⟨t, rfl⟩ := r.int_; obtain ⟨u, rfl⟩ := r'.int_
   exact EqAt.int_int (A := A) (s := s) x t y u
  | bytes => obtain ⟨t, rfl⟩ := r.bytes_; obtain ⟨u, rfl⟩ := r'.bytes_; exact eqAt_bytes _ _ _ _
  | tup e0 =>
   obtain ⟨a, o, k, cs, rfl, ho, hc, hd, q⟩ := id r.tup_
   obtain ⟨a', o', k', ds, rfl, ho', hc', hd', q'⟩ := id r'.tup_
   by_cases hne : a = a'
   ·subst hne
    rw [same _ _ r r' e]
    exact EqAt.same _
   ·obtain ⟨f, h1, h2⟩ := eqFs_at (A := A.in1) ih q q' e0
    refine EqAt.of_refs hne ?_
    have := RcAt.tuples (A := A) (s := s) ⟨o, ho, hc, k, hd⟩ ⟨o', ho', hc', k', hd'⟩ (by omega) (all_arr h1)
    rw [h2]
    simpa using this
  | @list a a' vs ws b h1 h2 hz e0 =>
   cases r.ref_; cases r'.ref_
   by_cases hne : a = a'
   ·subst hne
    rw [same _ _ r r' e]
    exact EqAt.same _
   ·refine EqAt.of_refs hne ?_
    obtain ⟨cs, k, hl, q⟩ := S.obj _ _ h1
    obtain ⟨ds, k', hl', q'⟩ := S.obj _ _ h2
    have l1 := q.length
    have l2 := q'.length
    simp only [Array.length_toList] at l1 l2
    obtain ⟨f, h3, h4⟩ := eqFs_at (A := A.in1) ih q q' e0
    have := RcAt.lists (A := A) (s := s) hl.isList hl'.isList (by omega) (by omega) (all_arr h3)
    rw [h4]
    simp only [Array.length_toList]
    rw [show cs.size = ds.size from by omega] at this ⊢
    simpa using this
  | @len a a' vs ws h1 h2 hz =>
   cases r.ref_; cases r'.ref_
   have hne : a ≠ a' := fun z => by subst z; rw [h1] at h2; cases h2; exact hz rfl
   refine EqAt.of_refs hne ?_
   obtain ⟨cs, k, hl, q⟩ := S.obj _ _ h1
   obtain ⟨ds, k', hl', q'⟩ := S.obj _ _ h2
   have l1 := q.length
   have l2 := q'.length
   simp only [Array.length_toList] at l1 l2
   exact RcAt.lists_lengths hl.isList hl'.isList (by simp; omega) (by omega)
section
variable {G : Sg} {A : Around} {L : Addr} {m : Str → Option Value} {H : AH} {s : Shared} {Q : PV}
theorem eqA_ok {neg : Bool} {v w : V} {c d : Value} (hu : A.units + 4 < cLine) (S : St G H s.heap) (F : Fr G.h₀ L s.heap m) (r : VR s.heap v c) (r' : VR s.heap w d) (h : EqA neg v w H Q) :
  wpAny (model G.prog G.w) A (compareOp (if neg then .NotEq else .Eq) c d) (VP G L m H s Q) noE s := by
 cases h with | @mk b e h =>
 have ih := eqF_at S 3 A.in1 (by rw [Around.in1_units]; omega)
 have fin : ∀ {x : Bool}, x = (b != neg) → VP G L m H s Q (.bool x) s := fun z => vp_here S F (.bool _) (z ▸ h)
 cases eqF_view e with
 | int =>
  obtain ⟨t, rfl⟩ := r.int_; obtain ⟨u, rfl⟩ := r'.int_
  cases neg with
  | true => exact PyProof.Rows.ne_int (fin (by simp [bne]; rfl))
  | false => exact PyProof.Rows.eq_int (fin (by simp; rfl))
 | @bytes x y =>
  obtain ⟨t, rfl⟩ := r.bytes_; obtain ⟨u, rfl⟩ := r'.bytes_
  cases neg with
  | true => exact PySem.W.ne_bytes (fin (by simp only [bne]; by_cases z : x = y <;> simp [z]))
  | false => exact PySem.W.eq_bytes (fin (by by_cases z : x = y <;> simp [z]))
 | tup e =>
  obtain ⟨a, o, k, cs, rfl, ho, hc, hd, q⟩ := r.tup_
  obtain ⟨a', o', k', ds, rfl, ho', hc', hd', q'⟩ := r'.tup_
  obtain ⟨f, h1, h2⟩ := eqFs_at (A := A.in1) ih q q' e
  cases neg with
  | true => exact RcNeAt.tuples (A := A) (s := s) ⟨o, ho, hc, k, hd⟩ ⟨o', ho', hc', k', hd'⟩ (by omega) (all_arr h1) _ _ _ _ (fin (by rw [h2]; simp))
  | false => exact RcAt.tuples (A := A) (s := s) ⟨o, ho, hc, k, hd⟩ ⟨o', ho', hc', k', hd'⟩ (by omega) (all_arr h1) _ _ _ _ (fin (by rw [h2]; simp))
 | @list a a' vs ws b h1 h2 hz e =>
  cases r.ref_; cases r'.ref_
  obtain ⟨cs, k, hl, q⟩ := S.obj _ _ h1
  obtain ⟨ds, k', hl', q'⟩ := S.obj _ _ h2
  have l1 := q.length
  have l2 := q'.length
  simp only [Array.length_toList] at l1 l2
  obtain ⟨f, h3, h4⟩ := eqFs_at (A := A.in1) ih q q' e
  have hb : b = (List.range cs.size).all f := by
   rw [h4]; simp only [Array.length_toList]; rw [show ds.size = cs.size from by omega]; simp
  cases neg with
  | true => exact RcNeAt.lists (A := A) (s := s) hl.isList hl'.isList (by omega) (by omega) (all_arr h3) _ _ _ _ (fin (by rw [hb]; simp))
  | false => exact RcAt.lists (A := A) (s := s) hl.isList hl'.isList (by omega) (by omega) (all_arr h3) _ _ _ _ (fin (by rw [hb]; simp))
 | @len a a' vs ws h1 h2 hz =>
  cases r.ref_; cases r'.ref_
  obtain ⟨cs, k, hl, q⟩ := S.obj _ _ h1
  obtain ⟨ds, k', hl', q'⟩ := S.obj _ _ h2
  have l1 := q.length
  have l2 := q'.length
  simp only [Array.length_toList] at l1 l2
  cases neg with
  | true => exact RcNeAt.lists_lengths (A := A) (s := s) hl.isList hl'.isList (by simp; omega) (by omega) _ _ _ _ (fin rfl)
  | false => exact RcAt.lists_lengths (A := A) (s := s) hl.isList hl'.isList (by simp; omega) (by omega) _ _ _ _ (fin rfl)
end
end RK
end
section
open PySem PySem.W PyProof.Rows
namespace RK
noncomputable def BI.S : BI → Str
 | .len => Str.ofString "len" | .sum => Str.ofString "sum" | .min => Str.ofString "min" | .max => Str.ofString "max" | .sorted => Str.ofString "sorted" | .bytes => Str.ofString "bytes"
noncomputable def LM.S : LM → Str
 | .append => Str.ofString "append" | .pop => Str.ofString "pop" | .reverse => Str.ofString "reverse" | .insert => Str.ofString "insert"
noncomputable def noSuper : Expr → Bool
 | .Call (.Name _ _) [] [] _ => false
 | _ => true
noncomputable def relab (inner outer : Scope) : Scope :=
 { inner with names := inner.names.map fun (n, k) => if (k == .free && outer.kind == .function && outer.names.lookup n == some .cell) then (n, .cell) else (n, k) }
noncomputable def globN (sc : Scope) (id n : Str) : Bool := id == n && sc.names.lookup id == some .globalImplicit && !(id == ("__debug__" : Str))
noncomputable def scopeOk (inner outer : Scope) (xs : List Nm) : Bool :=
 inner.kind == .function && inner.names.all (fun p => p.2 != .cell && (p.2 != .local || p.1 == (".0" : Str) || xs.any fun x => nmS x == p.1) && (p.2 != .local || inner.names.lookup p.1 == some .local) && (p.2 != .free || outer.names.lookup p.1 == some .cell)) && xs.all fun x => inner.names.lookup (nmS x) == some .local
noncomputable def gNm : List Nm := [.MAX_32, .MAX_64, .KIND_VALUE, .KIND_DELETE, .MAX_SEQ, .TAG_LENGTH, .CHECK_CRC, .KIND_SEEK]
noncomputable def lcl (sc : Scope) (x : Nm) : Bool := sc.names.lookup (nmS x) == some .local || sc.names.lookup (nmS x) == some .cell
noncomputable def Lcl (sc : Scope) (x : Nm) : Prop := sc.names.lookup (nmS x) = some .local ∨ sc.names.lookup (nmS x) = some .cell
theorem lcl_of {sc : Scope} {x : Nm} (h : lcl sc x = true) : Lcl sc x := (Bool.or_eq_true_iff.mp h).imp beq_iff_eq.mp beq_iff_eq.mp
noncomputable def hdE (xs : List Expr) : Expr := xs.headD default
structure Pt where
 a : Expr := default
 b : Expr := default
 l : List Expr := []
 k : Nat := 0
 d : List (Option Expr) := []
 g : List Comprehension := []
 s : Scope := default
 n : Nat := 0
noncomputable def xp : Expr → Pt
 | .Attribute v _ _ => { a := v } | .Subscript v w _ => { a := v, b := w } | .BinOp v _ w _ => { a := v, b := w } | .UnaryOp op v _ => { a := v, n := match op with | .Not => 3 | _ => 0 } | .Compare v _ rs _ => { a := v, b := hdE rs, n := 3 }
 | .Call f xs _ _ => { a := f, l := xs } | .ListComp v gs sc _ => { a := v, g := gs, s := sc, n := 1 } | .Slice v w _ _ => { a := v.getD default, b := w.getD default, n := 9 }
 | .BoolOp _ xs _ => { l := xs, n := 3 } | .List xs _ => { l := xs } | .Tuple xs k _ => { l := xs, k := k, n := 2 } | .Dict ks xs _ => { d := ks, l := xs } | .Constant _ k _ => { k := k } | .Name _ _ => {} | _ => { n := 9 }
noncomputable def x1 (ex : Expr) : Expr := (xp ex).a
noncomputable def x2 (ex : Expr) : Expr := (xp ex).b
noncomputable def xl (ex : Expr) : List Expr := (xp ex).l
noncomputable def xk (ex : Expr) : Nat := (xp ex).k
noncomputable def xd (ex : Expr) : List (Option Expr) := (xp ex).d
noncomputable def xg (ex : Expr) : List Comprehension := (xp ex).g
noncomputable def xsc (ex : Expr) : Scope := (xp ex).s
noncomputable def kindX (ex : Expr) : Nat := (xp ex).n
noncomputable def xg1 (ex : Expr) : Comprehension := (xg ex).headD default
noncomputable def xg2 (ex : Expr) : Comprehension := (xg ex).tail.headD default
noncomputable def prK : List Nm → List (Option Expr) → List (Option Expr)
 | [], _ => []
 | k :: ks, xs => some (.Constant (.str (nmS k)) (xk ((xs.headD none).getD default)) ((xs.headD none).getD default).pos) :: prK ks xs.tail
mutual
noncomputable def prE : E → Expr → Expr
 | .none, ex => .Constant .none (xk ex) ex.pos
 | .bool b, ex => .Constant (.bool b) (xk ex) ex.pos
 | .int i, ex => .Constant (.int i) (xk ex) ex.pos
 | .neg i, ex => .UnaryOp .USub (.Constant (.int (i : Int)) (xk (x1 ex)) (x1 ex).pos) ex.pos
 | .bytes b, ex => .Constant (.bytes b) (xk ex) ex.pos
 | .var x, ex => .Name (nmS x) ex.pos
 | .gint x, ex => .Name (nmS x) ex.pos
 | .attr e x, ex => .Attribute (prE e (x1 ex)) (nmS x) ex.pos
 | .key e x, ex => .Subscript (prE e (x1 ex)) (.Constant (.str (nmS x)) (xk (x2 ex)) (x2 ex).pos) ex.pos
 | .idx e i, ex => .Subscript (prE e (x1 ex)) (prE i (x2 ex)) ex.pos
 | .upto e i, ex => .Subscript (prE e (x1 ex)) (.Slice none (some (prE i (x2 (x2 ex)))) none (x2 ex).pos) ex.pos
 | .drop e i, ex => .Subscript (prE e (x1 ex)) (.Slice (some (prE i (x1 (x2 ex)))) none none (x2 ex).pos) ex.pos
 | .bin op a b, ex => .BinOp (prE a (x1 ex)) op.op (prE b (x2 ex)) ex.pos
 | .rep e n, ex => .BinOp (.List [prE e (hdE (xl (x1 ex)))] (x1 ex).pos) .Mult (prE n (x2 ex)) ex.pos
 | .cmp op a b, ex => .Compare (prE a (x1 ex)) [op.op] [prE b (x2 ex)] ex.pos
 | .isN e, ex => .Compare (prE e (x1 ex)) [.Is] [.Constant .none (xk (x2 ex)) (x2 ex).pos] ex.pos
 | .notN e, ex => .Compare (prE e (x1 ex)) [.IsNot] [.Constant .none (xk (x2 ex)) (x2 ex).pos] ex.pos
 | .inn a b, ex => .Compare (prE a (x1 ex)) [.In] [prE b (x2 ex)] ex.pos
 | .not e, ex => .UnaryOp .Not (prE e (x1 ex)) ex.pos
 | .and es, ex => .BoolOp .And (prEs es (xl ex)) ex.pos
 | .or es, ex => .BoolOp .Or (prEs es (xl ex)) ex.pos
 | .list es, ex => .List (prEs es (xl ex)) ex.pos
 | .tup es, ex => .Tuple (prEs es (xl ex)) (xk ex) ex.pos
 | .edict, ex => .Dict [] [] ex.pos
 | .sdict ks es, ex => .Dict (prK ks (xd ex)) (prEs es (xl ex)) ex.pos
 | .call f es, ex => .Call (.Name f.S (x1 ex).pos) (prEs es (xl ex)) [] ex.pos
 | .new C es, ex => .Call (.Name C.S (x1 ex).pos) (prEs es (xl ex)) [] ex.pos
 | .meth e m es, ex => .Call (.Attribute (prE e (x1 (x1 ex))) (nmS m) (x1 ex).pos) (prEs es (xl ex)) [] ex.pos
 | .bi b es, ex => .Call (.Name b.S (x1 ex).pos) (prEs es (xl ex)) [] ex.pos
 | .lm o m es, ex => .Call (.Attribute (prE o (x1 (x1 ex))) m.S (x1 ex).pos) (prEs es (xl ex)) [] ex.pos
 | .comp elt x src cond, ex => .ListComp (prE elt (x1 ex)) [⟨.Name (nmS x) (xg1 ex).target.pos, prE src (xg1 ex).iter, prEs cond (xg1 ex).ifs, 0⟩] (xsc ex) ex.pos
 | .comp2 elt x src y src2, ex => .ListComp (prE elt (x1 ex)) [⟨.Name (nmS x) (xg1 ex).target.pos, prE src (xg1 ex).iter, [], 0⟩, ⟨.Name (nmS y) (xg2 ex).target.pos, prE src2 (xg2 ex).iter, [], 0⟩] (xsc ex) ex.pos
noncomputable def prEs : Es → List Expr → List Expr
 | .nil, _ => []
 | .cons e es, xs => prE e (hdE xs) :: prEs es xs.tail
end
mutual
noncomputable def okE : E → Scope → Expr → Bool
 | .none, _, _ => true
 | .bool _, _, _ => true
 | .int _, _, _ => true
 | .neg _, _, _ => true
 | .bytes _, _, _ => true
 | .var x, sc, _ => lcl sc x && !(nmS x == ("__debug__" : Str))
 | .gint x, sc, _ => gNm.contains x && globN sc (nmS x) (nmS x)
 | .attr e _, sc, ex => noSuper (prE e (x1 ex)) && okE e sc (x1 ex)
 | .key e _, sc, ex => okE e sc (x1 ex)
 | .idx e i, sc, ex => okE e sc (x1 ex) && okE i sc (x2 ex)
 | .upto e i, sc, ex => okE e sc (x1 ex) && okE i sc (x2 (x2 ex))
 | .drop e i, sc, ex => okE e sc (x1 ex) && okE i sc (x1 (x2 ex))
 | .bin _ a b, sc, ex => okE a sc (x1 ex) && okE b sc (x2 ex)
 | .rep e n, sc, ex => okE e sc (hdE (xl (x1 ex))) && okE n sc (x2 ex)
 | .cmp _ a b, sc, ex => okE a sc (x1 ex) && okE b sc (x2 ex)
 | .isN e, sc, ex => okE e sc (x1 ex)
 | .notN e, sc, ex => okE e sc (x1 ex)
 | .inn a b, sc, ex => okE a sc (x1 ex) && okE b sc (x2 ex)
 | .not e, sc, ex => okE e sc (x1 ex)
 | .and es, sc, ex => okEs es sc (xl ex)
 | .or es, sc, ex => okEs es sc (xl ex)
 | .list es, sc, ex => okEs es sc (xl ex)
 | .tup es, sc, ex => okEs es sc (xl ex)
 | .edict, _, _ => true
 | .sdict ks es, sc, ex => okEs es sc (xl ex) && (decide ((prK ks (xd ex)).length = (prEs es (xl ex)).length) && (decide (0 < (prK ks (xd ex)).length) && decide ((prK ks (xd ex)).length ≤ 15)))
 | .call f es, sc, ex => f.S != Str.ofString "" && (globN sc f.S f.S && okEs es sc (xl ex))
 | .new C es, sc, ex => globN sc C.S C.S && okEs es sc (xl ex)
 | .meth e _ es, sc, ex => noSuper (prE e (x1 (x1 ex))) && (decide ((prEs es (xl ex)).length < 20) && ((x1 ex).pos.endLine == ex.pos.line && (okE e sc (x1 (x1 ex)) && okEs es sc (xl ex))))
 | .bi b es, sc, ex => globN sc b.S b.S && okEs es sc (xl ex)
 | .lm e _ es, sc, ex => noSuper (prE e (x1 (x1 ex))) && (decide ((prEs es (xl ex)).length < 20) && ((x1 ex).pos.endLine == ex.pos.line && (okE e sc (x1 (x1 ex)) && okEs es sc (xl ex))))
 | .comp elt x src cond, sc, ex => scopeOk (xsc ex) sc [x] && (okE src sc (xg1 ex).iter && (okE elt (relab (xsc ex) sc) (x1 ex) && okEs cond (relab (xsc ex) sc) (xg1 ex).ifs))
 | .comp2 elt x src y src2, sc, ex => x != y && (scopeOk (xsc ex) sc [x, y] && (okE src sc (xg1 ex).iter && (okE src2 (relab (xsc ex) sc) (xg2 ex).iter && okE elt (relab (xsc ex) sc) (x1 ex))))
noncomputable def okEs : Es → Scope → List Expr → Bool
 | .nil, _, _ => true
 | .cons e es, sc, xs => okE e sc (hdE xs) && okEs es sc xs.tail
end
theorem not1 {a : Bool} (h : (!a) = true) : a = false := by cases a <;> first | rfl | cases h
theorem and2 {a b : Bool} (h : (a && b) = true) : a = true ∧ b = true := Bool.and_eq_true_iff.mp h
theorem and3 {a b c : Bool} (h : (a && (b && c)) = true) : a = true ∧ b = true ∧ c = true := ⟨(and2 h).1, and2 (and2 h).2⟩
theorem and4 {a b c d : Bool} (h : (a && (b && (c && d))) = true) : a = true ∧ b = true ∧ c = true ∧ d = true := ⟨(and2 h).1, and3 (and2 h).2⟩
theorem and5 {a b c d e : Bool} (h : (a && (b && (c && (d && e)))) = true) : a = true ∧ b = true ∧ c = true ∧ d = true ∧ e = true := ⟨(and2 h).1, and4 (and2 h).2⟩
noncomputable def E.kd : E → Nat
 | .comp .. => 1 | .comp2 .. => 1 | .tup _ => 2 | .cmp .. => 3 | .isN _ => 3 | .notN _ => 3 | .inn .. => 3 | .not _ => 3 | .and _ => 3 | .or _ => 3 | _ => 0
theorem pr_kd (e : E) (x : Expr) : kindX (prE e x) = e.kd := by cases e <;> rfl
theorem pr_noSet {e : E} {x : Expr} (op : CmpOp) : behindInMarks op (prE e x) = false := by cases e <;> rfl
theorem pr_sub {e : E} {x : Expr} (o i : Value) : subscripted (prE e x) false o i = operate [o, i] (getItem o i) := by cases e <;> rfl
theorem star_cons {e : E} {x : Expr} (xs : List Expr) (env : PySem.Env) : starEach (prE e x :: xs) env = (false, eval (prE e x) env) :: starEach xs env := by cases e <;> rfl
theorem any_back {env : PySem.Env} {pos : Pos} : ∀ {es : Es} {xs : List Expr}, (backTo pos (starEach (prEs es xs) env)).any (·.1) = false
 | .nil, _ => rfl
 | .cons e es, xs => by
  show (backTo pos (starEach (prE e (hdE xs) :: prEs es xs.tail) env)).any (·.1) = false
  rw [star_cons]
  exact any_back (es := es)
end RK
end
section
open PySem PySem.W PyProof.Rows
namespace RK
noncomputable def BI.val : BI → Value
 | .len => .builtin "len" | .sum => .builtin "sum" | .min => .builtin "min" | .max => .builtin "max" | .sorted => .builtin "sorted" | .bytes => .type "bytes"
structure TopOk (G : Sg) : Prop where
 kin : G.K.In G.h₀
 cls : ClsOk G
 mg : ∃ mg, G.h₀.Ns mainGlobals mg
 mb : ∃ mb, G.h₀.Ns builtinsNs mb ∧ (∀ b : BI, mb b.S = some b.val) ∧ mb (Str.ofString "range") = some (.type "range")
 nolimit : G.h₀.NoLimit
 sm : sysModules < G.h₀.objs.size
 gfn : ∀ f : Fn, f.S ≠ Str.ofString "" → nsIn G.K mainGlobals f.S = some (some (.ref (G.fa f)))
 kfn : ∀ f : Fn, keepIn G.K (.ref (G.fa f)) = true
 gcl : ∀ C : Cl, nsIn G.K mainGlobals C.S = some (some (.ref (G.ca C)))
 gin : ∀ x ∈ gNm, ∃ t, nsIn G.K mainGlobals (nmS x) = some (some (.int (gval x) t))
 gbi : ∀ b : BI, nsIn G.K mainGlobals b.S = some none
 grg : nsIn G.K mainGlobals (Str.ofString "range") = some none
noncomputable def Room (k : Nat) (A : Around) : Prop := A.handled = none ∧ A.depth + 2 * k + 2 < recursionLimit ∧ A.units + 10 * k + 40 < cLine
structure Ret (G : Sg) (H : AH) (s : Shared) (H' : AH) (s' : Shared) : Prop where
 same : ∃ h tk, s' = { s with heap := h, toks := tk }
 st : St G H' s'.heap
 ev : Ev (fun _ => False) H s.heap H' s'.heap
noncomputable def RP (G : Sg) (H : AH) (s : Shared) (Q : PV) : Result → Shared → Prop := fun r s' => ∃ v c H', r = .ok (.ret c) ∧ VR s'.heap v c ∧ Ret G H s H' s' ∧ Q v H'
noncomputable def FOk (G : Sg) (k : Nat) (Φ : Phi) : Prop := ∀ (f : Fn) (vs : List V) (cs : List Value) (H : AH) (s : Shared) (A : Around) (Q : PV), Room k A → St G H s.heap → G.h₀.objs.size ≤ s.heap.objs.size → VRs s.heap vs cs → Φ f vs H Q →
 codeAny (model G.prog G.w) A (.call (.ref (G.fa f)) ⟨cs, []⟩) (RP G H s Q) s
section
variable {G : Sg} {A : Around} {L : Addr} {m : Str → Option Value} {H : AH} {s : Shared} {Q : PV} {ρ : Lo} {env : PySem.Env} {k : Nat} {Φ : Phi}
theorem Ret.res {H' : AH} {s' : Shared} (x : Ret G H s H' s') (F : Fr G.h₀ L s.heap m) (hL : H L = none) : Res G L m H s H' s' := by
 obtain ⟨oL, es, ep, e, r⟩ := F.ns
 exact ⟨x.same, x.st, ⟨⟨oL, es, ep, x.ev.keep L oL e (fun z => z) hL, r⟩, x.st.keep, F.above⟩, x.ev.weaken fun _ _ _ z => z.elim⟩
theorem Room.units {A : Around} (r : Room k A) : A.units + 4 < cLine := by have := r.2.2; omega
theorem vp_bind {t : Sem Value} {f : Value → Sem Value} {Q1 Q2 : PV} (h : wpAny (model G.prog G.w) A t (VP G L m H s Q1) noE s)
  (n : ∀ v H' c s', VR s'.heap v c → Res G L m H s H' s' → Q1 v H' → wpAny (model G.prog G.w) A (f c) (VP G L m H' s' Q2) noE s') : wpAny (model G.prog G.w) A (t >>= f) (VP G L m H s Q2) noE s :=
 wpAny_bind (wpAny_mono h (fun c s' q => by obtain ⟨v, H', r, x, q⟩ := q; exact vp_mono x (n v H' c s' r x q)) fun _ _ z => z)
theorem vp_then {t : Sem Value} {u : Value → Sem Value} {Q1 Q2 : PV} (h : wpAny (model G.prog G.w) A t (VP G L m H s Q1) noE s)
  (n : ∀ v H' c s', VR s'.heap v c → Res G L m H s H' s' → Q1 v H' → wpAny (model G.prog G.w) A (u c) (VP G L m H' s' Q2) noE s') :
  wpAny (model G.prog G.w) A t (fun c s' => wpAny (model G.prog G.w) A (u c) (VP G L m H s Q2) noE s') noE s :=
 wpAny_mono h (fun c s' q => by obtain ⟨v, H', r, x, q⟩ := q; exact vp_mono x (n v H' c s' r x q)) fun _ _ z => z
noncomputable def VPs (G : Sg) (L : Addr) (m : Str → Option Value) (H : AH) (s : Shared) (Q : List V → AH → Prop) : List Value → Shared → Prop := fun cs s' => ∃ vs H', VRs s'.heap vs cs ∧ Res G L m H s H' s' ∧ Q vs H'
theorem globN_of {sc : Scope} {id n : Str} (h : globN sc id n = true) : id = n ∧ sc.names.lookup id = some .globalImplicit ∧ (id == ("__debug__" : Str)) = false := by
 simp only [globN, Bool.and_eq_true, beq_iff_eq, Bool.not_eq_true'] at h
 exact ⟨h.1.1, h.1.2, h.2⟩
theorem name_glob (T : TopOk G) (F : Frm G env m H s.heap ρ) {id n : Str} {p : Pos} {c : Value} {Q : Value → Shared → Prop} {E : Value → Shared → Prop} (hg : globN env.scope id n = true) (hn : nsIn G.K mainGlobals n = some (some c)) (h : Q c s) :
  wpAny (model G.prog G.w) A (eval (.Name id p) env) Q E s := by
 obtain ⟨rfl, h2, h3⟩ := globN_of hg
 obtain ⟨mg, hm⟩ := T.mg
 exact PySem.Calls.Name_function_global F.kind h2 (PySem.Calls.loadGlobal_global (env := env) (by rw [F.glob]; exact hm.keeps F.fr.keep) (mg_of T.kin hm hn) h) h3
theorem name_blt (T : TopOk G) (F : Frm G env m H s.heap ρ) {id : Str} {b : BI} {p : Pos} {Q : Value → Shared → Prop} {E : Value → Shared → Prop} (hg : globN env.scope id b.S = true) (h : Q b.val s) :
  wpAny (model G.prog G.w) A (eval (.Name id p) env) Q E s := by
 obtain ⟨rfl, h2, h3⟩ := globN_of hg
 obtain ⟨mg, hm⟩ := T.mg
 obtain ⟨mb, hb, hv, hr⟩ := T.mb
 exact PySem.Calls.Name_function_global F.kind h2 (PySem.Calls.loadGlobal_builtin (env := env) (by rw [F.glob]; exact hm.keeps F.fr.keep) (mg_none_of T.kin hm (T.gbi b)) (by rw [F.blt]; exact hb.keeps F.fr.keep) (hv b) h) h3
theorem name_range (T : TopOk G) (F : Frm G env m H s.heap ρ) {id : Str} {p : Pos} {Q : Value → Shared → Prop} {E : Value → Shared → Prop} (hg : globN env.scope id (Str.ofString "range") = true) (h : Q (.type "range") s) :
  wpAny (model G.prog G.w) A (eval (.Name id p) env) Q E s := by
 obtain ⟨rfl, h2, h3⟩ := globN_of hg
 obtain ⟨mg, hm⟩ := T.mg
 obtain ⟨mb, hb, hv, hr⟩ := T.mb
 exact PySem.Calls.Name_function_global F.kind h2 (PySem.Calls.loadGlobal_builtin (env := env) (by rw [F.glob]; exact hm.keeps F.fr.keep) (mg_none_of T.kin hm T.grg) (by rw [F.blt]; exact hb.keeps F.fr.keep) hr h) h3
theorem name_var (S : St G H s.heap) (F : Frm G env m H s.heap ρ) {x : Nm} {v : V} {p : Pos} (hv : ρ x = some v) (hk : env.kindOf (nmS x) = some .local ∨ env.kindOf (nmS x) = some .cell) (hd : (nmS x == ("__debug__" : Str)) = false) (h : Q v H) :
  wpAny (model G.prog G.w) A (eval (.Name (nmS x) p) env) (VP G env.locals m H s Q) noE s := by
 rcases F.lo x v hv with ⟨h1, c, h2, h3⟩ | ⟨h1, ca, c, h2, h3, h4⟩ | hn
 ·exact wpAny_Name (wpAny_loadName_local F.kind h1 F.fr.ns h2 (vp_here S F.fr h3 h)) hd
 ·exact wpAny_Name (wpAny_loadName_cell F.kind h1 h2 h3 (vp_here S F.fr h4 h)) hd
 ·rcases hk with hk | hk
  ·exact absurd hk hn.1
  ·exact absurd hk hn.2
noncomputable def TP (G : Sg) (L : Addr) (m : Str → Option Value) (H : AH) (s : Shared) (Q : PV) : Bool → Shared → Prop := fun b s' => ∃ H', Res G L m H s H' s' ∧ Q (.bool b) H'
theorem isT_value {t : Sem Value} {ex : Expr} (h : wpAny (model G.prog G.w) A t (VP G L m H s Q) noE s) (hQ : ∀ v H, Q v H → ∃ b, v = .bool b)
  (he : isTrue ex env t = (do let v ← t; standAt ex.pos; holding [v] (truthy v)) := by rfl) : wpAny (model G.prog G.w) A (isTrue ex env t) (TP G L m H s Q) noE s := by
 refine wpAny_isTrue_value (wpAny_mono h (fun c s' q => ?_) fun _ _ z => z) he
 obtain ⟨v, H', r, x, q⟩ := q
 obtain ⟨b, rfl⟩ := hQ v H' q
 cases r
 exact wpAny_truthy_bool ⟨H', x, q⟩
theorem fr_size {h₀ h : Heap} {L : Addr} {m : Str → Option Value} (F : Fr h₀ L h m) : h₀.objs.size ≤ h.objs.size := by
 obtain ⟨o, _, _, e, _⟩ := F.ns
 exact Nat.le_of_lt (Nat.lt_of_le_of_lt F.above (Heap.lt_size e))
theorem call_vp (hΦ : FOk G k Φ) (hr : Room k A) (S : St G H s.heap) (F : Fr G.h₀ L s.heap m) (hL : H L = none) {f : Fn} {vs : List V} {cs : List Value} (rs : VRs s.heap vs cs) (h : Φ f vs H Q) :
  wpAny (model G.prog G.w) A (call (.ref (G.fa f)) cs []) (VP G L m H s Q) noE s := by
 refine wpAny_call (codeAny_mono (hΦ f vs cs H s A Q hr S (fr_size F) rs h) fun r s' q => ?_)
 obtain ⟨v, c, H', rfl, r, x, q⟩ := q
 exact ⟨v, H', r, x.res F hL, q⟩
end
theorem optV_inv {o : Option V} {P : V → Prop} (h : match o with | some v => P v | none => False) : ∃ v, o = some v ∧ P v := by
 cases o with
 | none => exact h.elim
 | some v => exact ⟨v, rfl, h⟩
theorem optF_inv {o : Option Fn} {P : Fn → Prop} (h : match o with | some v => P v | none => False) : ∃ v, o = some v ∧ P v := by
 cases o with
 | none => exact h.elim
 | some v => exact ⟨v, rfl, h⟩
theorem optL_inv {o : Option Lo} {P : Lo → Prop} (h : match o with | some v => P v | none => False) : ∃ v, o = some v ∧ P v := by
 cases o with
 | none => exact h.elim
 | some v => exact ⟨v, rfl, h⟩
theorem optU_inv {o : Option (List V)} {P : List V → Prop} (h : match o with | some v => P v | none => False) : ∃ v, o = some v ∧ P v := by
 cases o with
 | none => exact h.elim
 | some v => exact ⟨v, rfl, h⟩
theorem aug_inv {o : Option V} {P : Int → Prop} (h : match o with | some (.int a) => P a | _ => False) : ∃ a, o = some (.int a) ∧ P a := by
 cases o with
 | none => exact h.elim
 | some v => cases v with
  | int a => exact ⟨a, rfl, h⟩
  | _ => exact h.elim
theorem bool_inv {v : V} {P : Bool → Prop} (h : match v with | .bool b => P b | _ => False) : ∃ b, v = .bool b ∧ P b := by
 cases v with
 | bool b => exact ⟨b, rfl, h⟩
 | _ => exact h.elim
theorem ite_inv {v : V} {A B : Prop} (h : match v with | .bool true => A | .bool false => B | _ => False) : ∃ b, v = .bool b ∧ if b = true then A else B := by
 cases v with
 | bool b => cases b <;> exact ⟨_, rfl, h⟩
 | _ => exact h.elim
theorem int_inv {v : V} {P : Int → Prop} (h : match v with | .int i => P i | _ => False) : ∃ i, v = .int i ∧ P i := by
 cases v with
 | int i => exact ⟨i, rfl, h⟩
 | _ => exact h.elim
theorem ref_inv {v : V} {P : Addr → Prop} (h : match v with | .ref a => P a | _ => False) : ∃ a, v = .ref a ∧ P a := by
 cases v with
 | ref a => exact ⟨a, rfl, h⟩
 | _ => exact h.elim
theorem list_inv {o : Option AO} {P : List V → Prop} (h : match o with | some (.list vs) => P vs | _ => False) : ∃ vs, o = some (.list vs) ∧ P vs := by
 cases o with
 | none => exact h.elim
 | some o => cases o with
  | list vs => exact ⟨vs, rfl, h⟩
  | _ => exact h.elim
theorem inst_inv {o : Option AO} {P : Cl → Addr → Prop} (h : match o with | some (.inst C dx) => P C dx | _ => False) : ∃ C dx, o = some (.inst C dx) ∧ P C dx := by
 cases o with
 | none => exact h.elim
 | some o => cases o with
  | inst C dx => exact ⟨C, dx, rfl, h⟩
  | _ => exact h.elim
theorem ns_inv {o : Option AO} {P : Cl → Prop} (h : match o with | some (.ns C _) => P C | _ => False) : ∃ C f, o = some (.ns C f) ∧ P C := by
 cases o with
 | none => exact h.elim
 | some o => cases o with
  | ns C f => exact ⟨C, f, rfl, h⟩
  | _ => exact h.elim
end RK
end
section
open PySem PySem.W PyProof.Rows
namespace RK
noncomputable def RoomE (k : Nat) (A : Around) : Prop := A.handled = none ∧ A.depth + 2 * k + 3 < recursionLimit ∧ A.units + 10 * k + 45 < cLine
theorem RoomE.room {k : Nat} {A : Around} (r : RoomE k A) : Room k A := ⟨r.1, by have := r.2.1; omega, by have := r.2.2; omega⟩
theorem RoomE.units {k : Nat} {A : Around} (r : RoomE k A) : A.units + 4 < cLine := by have := r.2.2; omega
structure Cx (G : Sg) (k : Nat) (A : Around) (env : PySem.Env) (m : Str → Option Value) (H : AH) (s : Shared) (ρ : Lo) : Prop where
 room : RoomE k A
 st : St G H s.heap
 fr : Frm G env m H s.heap ρ
noncomputable def EvOk (G : Sg) (k : Nat) (Φ : Phi) (e : E) : Prop := ∀ {A : Around} {env : PySem.Env} {ex : Expr} {m : Str → Option Value} {H : AH} {s : Shared} {ρ : Lo} {Q : PV}, Cx G k A env m H s ρ → okE e env.scope ex = true → evA Φ e ρ H Q →
 wpAny (model G.prog G.w) A (eval (prE e ex) env) (VP G env.locals m H s Q) noE s
noncomputable def EsOk (G : Sg) (k : Nat) (Φ : Phi) (es : Es) : Prop := ∀ {A : Around} {env : PySem.Env} {xs : List Expr} {m : Str → Option Value} {H : AH} {s : Shared} {ρ : Lo} {Q : List V → AH → Prop} {pos : Pos}, Cx G k A env m H s ρ → okEs es env.scope xs = true → evEs Φ es ρ H Q →
 wpAny (model G.prog G.w) A (spliced (backTo pos (starEach (prEs es xs) env))) (VPs G env.locals m H s Q) noE s
noncomputable def TOk (G : Sg) (k : Nat) (Φ : Phi) (e : E) : Prop := ∀ {A : Around} {env : PySem.Env} {ex : Expr} {m : Str → Option Value} {H : AH} {s : Shared} {ρ : Lo} {Q : PV}, Cx G k A env m H s ρ → okE e env.scope ex = true → evA Φ e ρ H Q → (∀ v H, Q v H → ∃ b, v = .bool b) →
 wpAny (model G.prog G.w) A (isTrue (prE e ex) env (eval (prE e ex) env)) (TP G env.locals m H s Q) noE s
section
variable {G : Sg} {A : Around} {env : PySem.Env} {m : Str → Option Value} {H : AH} {s : Shared} {Q : PV} {ρ : Lo} {k : Nat} {Φ : Phi}
theorem Cx.next {H' : AH} {s' : Shared} (c : Cx G k A env m H s ρ) (x : Res G env.locals m H s H' s') : Cx G k A env m H' s' ρ := ⟨c.room, x.st, c.fr.keep c.st x⟩
theorem Cx.keep {H' : AH} {s' : Shared} (c : Cx G k A env m H s ρ) (x : Res G env.locals m H s H' s') {v : V} {w : Value} (r : VR s.heap v w) : VR s'.heap v w := r.keep (x.tup c.st c.fr.fr)
theorem Cx.keeps {H' : AH} {s' : Shared} (c : Cx G k A env m H s ρ) (x : Res G env.locals m H s H' s') {v : List V} {w : List Value} (r : VRs s.heap v w) : VRs s'.heap v w := r.keep (x.tup c.st c.fr.fr)
theorem vp_el {L : Addr} {t : Sem Value} {P : Value → Shared → Prop} {Q1 : PV} (h : wpAny (model G.prog G.w) A t (VP G L m H s Q1) noE s)
  (n : ∀ v H' c s', VR s'.heap v c → Res G L m H s H' s' → Q1 v H' → P c s') : wpAny (model G.prog G.w) A t P noE s :=
 wpAny_mono h (fun c s' q => by obtain ⟨v, H', r, x, q⟩ := q; exact n v H' c s' r x q) fun _ _ z => z
theorem vp_at {L : Addr} {H H' : AH} {s s' s₀ : Shared} {t : Sem Value} (x : Res G L m H s H' s') (h : wpAny (model G.prog G.w) A t (VP G L m H' s' Q) noE s₀) : wpAny (model G.prog G.w) A t (VP G L m H s Q) noE s₀ :=
 wpAny_mono h (fun _ _ q => q.mono x fun _ _ q => q) fun _ _ z => z
theorem ok_none : EvOk G k Φ .none := fun {A env ex m H s ρ Q} c hc h => by
 exact wpAny_Constant_none (vp_here c.st c.fr.fr .none h)
theorem ok_bool {b : Bool} : EvOk G k Φ (.bool b) := fun {A env ex m H s ρ Q} c hc h => by
 exact wpAny_Constant_bool (vp_here c.st c.fr.fr (.bool _) h)
theorem ok_int {i : Int} : EvOk G k Φ (.int i) := fun {A env ex m H s ρ Q} c hc h => by
 exact wpAny_Constant_int (vp_tok c.st c.fr.fr (.int _ _) h)
theorem ok_neg {i : Nat} : EvOk G k Φ (.neg i) := fun {A env ex m H s ρ Q} c hc h => by
 exact wpAny_UnaryOp (wpAny_Constant_int (PyProof.Rows.neg_int (vp_tok c.st c.fr.fr (.int _ _) h)))
theorem ok_bytes {b : List UInt8} : EvOk G k Φ (.bytes b) := fun {A env ex m H s ρ Q} c hc h => by
 refine fun _ _ _ => ?_
 exact vp_tok c.st c.fr.fr (.bytes _ _) h
theorem ok_var {x : Nm} : EvOk G k Φ (.var x) := fun {A env ex m H s ρ Q} c hc h => by
 have hc := and2 hc
 obtain ⟨v, hv, h⟩ := optV_inv (o := ρ x) (P := fun v => Q v H) h
 exact name_var c.st c.fr hv (lcl_of hc.1) (not1 hc.2) h
theorem ok_gint (T : TopOk G) {x : Nm} : EvOk G k Φ (.gint x) := fun {A env ex m H s ρ Q} c hc h => by
 have hc := and2 hc
 obtain ⟨t, ht⟩ := T.gin x (by simpa using hc.1)
 exact name_glob T c.fr hc.2 ht (vp_here c.st c.fr.fr (.int _ _) h)
set_option tactic.hygienic true in
theorem base_of {v : Expr} {id : Str} {w : Sem Value} (h : noSuper v = true) : attributeBase v id env w = w := by
 cases v <;> try rfl
 rename_i f as ks _
 cases f <;> try rfl
 cases as <;> cases ks <;> first | rfl | cases h
theorem ok_attr (T : TopOk G) {e : E} {x : Nm} (he : EvOk G k Φ e) : EvOk G k Φ (.attr e x) := fun {A env ex m H s ρ Q} c hc h => by
 have hc := and2 hc
 refine Attribute_any_ (vp_el (he c hc.2 h) fun v H' cv s' r x q => ?_) (by rw [arm_eval_Attribute, base_of hc.1])
 refine vp_mono x ?_
 exact getA_ok T.cls T.kin (c.next x).st (c.next x).fr.fr r q
theorem ok_key (T : TopOk G) {e : E} {x : Nm} (he : EvOk G k Φ e) : EvOk G k Φ (.key e x) := fun {A env ex m H s ρ Q} c hc h => by
 refine Subscript_ (vp_el (he c hc h) fun v H' cv s' r x q => ?_)
 refine wpAny_Constant_str ?_
 have c' := c.next x
 refine vp_mono (x.trans (Res.keep (tk := s'.toks + 1) c'.st c'.fr.fr (Keep.refl _))) ?_
 exact keyA_ok (t := s'.toks) (s := { s' with toks := s'.toks + 1 }) (L := env.locals) (m := m) c'.st c'.fr.fr r q fun _ _ => rfl
theorem ok_idx (T : TopOk G) {e i : E} (he : EvOk G k Φ e) (hi : EvOk G k Φ i) : EvOk G k Φ (.idx e i) := fun {A env ex m H s ρ Q} c hc h => by
 have hc := and2 hc
 refine Subscript_ (vp_el (he c hc.1 h) fun v H' cv s' r x q => ?_)
 refine vp_el (hi (c.next x) hc.2 q) fun w H'' cw s'' r' x' q' => ?_
 refine vp_mono (x.trans x') ?_
 exact idxA_ok ((c.next x).next x').st ((c.next x).next x').fr.fr ((c.next x).keep x' r) r' q' pr_sub
theorem ok_upto (T : TopOk G) {e i : E} (he : EvOk G k Φ e) (hi : EvOk G k Φ i) : EvOk G k Φ (.upto e i) := fun {A env ex m H s ρ Q} c hc h => by
 have hc := and2 hc
 refine Subscript_ (vp_el (he c hc.1 h) fun v H' cv s' r x q => ?_)
 refine wpAny_Slice ?_
 rw [evalPart_none, evalPart_some]
 refine wpAny_pure (vp_el (hi (c.next x) hc.2 q) fun w H'' cw s'' r' x' q' => ?_)
 refine wpAny_pure ?_
 refine vp_at (x.trans x') ?_
 exact uptoA_ok ((c.next x).next x').st ((c.next x).next x').fr.fr ((c.next x).keep x' r) r' q'
theorem ok_drop (T : TopOk G) {e i : E} (he : EvOk G k Φ e) (hi : EvOk G k Φ i) : EvOk G k Φ (.drop e i) := fun {A env ex m H s ρ Q} c hc h => by
 have hc := and2 hc
 refine Subscript_ (vp_el (he c hc.1 h) fun v H' cv s' r x q => ?_)
 refine wpAny_Slice ?_
 rw [evalPart_none, evalPart_some]
 refine vp_el (hi (c.next x) hc.2 q) fun w H'' cw s'' r' x' q' => ?_
 refine wpAny_pure (wpAny_pure ?_)
 refine vp_at (x.trans x') ?_
 exact dropA_ok ((c.next x).next x').st ((c.next x).next x').fr.fr ((c.next x).keep x' r) r' q'
theorem ok_bin {op : BOp} {a b : E} (ha : EvOk G k Φ a) (hb : EvOk G k Φ b) : EvOk G k Φ (.bin op a b) := fun {A env ex m H s ρ Q} c hc h => by
 have hc := and2 hc
 refine wpAny_BinOp (vp_el (ha c hc.1 h) fun v H' cv s' r x q => ?_)
 refine vp_el (hb (c.next x) hc.2 q) fun w H'' cw s'' r' x' q' => ?_
 refine vp_mono (x.trans x') ?_
 exact binA_ok ((c.next x).next x').st ((c.next x).next x').fr.fr ((c.next x).keep x' r) r' q'
theorem ok_isN {e : E} (he : EvOk G k Φ e) : EvOk G k Φ (.isN e) := fun {A env ex m H s ρ Q} c hc h => by
 refine wpAny_Compare1 (vp_el (he c hc h) fun v H' cv s' r x q => ?_) rfl
 exact wpAny_Constant_none (vp_mono x <| isNone_ok (c.next x).st (c.next x).fr.fr r q)
theorem ok_notN {e : E} (he : EvOk G k Φ e) : EvOk G k Φ (.notN e) := fun {A env ex m H s ρ Q} c hc h => by
 refine wpAny_Compare1 (vp_el (he c hc h) fun v H' cv s' r x q => ?_) rfl
 exact wpAny_Constant_none (vp_mono x <| notNone_ok (c.next x).st (c.next x).fr.fr r q)
theorem ok_inn (T : TopOk G) {a b : E} (ha : EvOk G k Φ a) (hb : EvOk G k Φ b) : EvOk G k Φ (.inn a b) := fun {A env ex m H s ρ Q} c hc h => by
 have hc := and2 hc
 refine wpAny_Compare1 (vp_el (ha c hc.1 h) fun v H' cv s' r x q => ?_) (pr_noSet _)
 refine vp_el (hb (c.next x) hc.2 q) fun w H'' cw s'' r' x' q' => ?_
 refine vp_mono (x.trans x') ?_
 exact innA_ok ((c.next x).next x').st ((c.next x).next x').fr.fr ((c.next x).keep x' r) r' T.sm q'
theorem cmpA_ok {op : COp} {v w : V} {c cw : Value} {L : Addr} (hu : A.units + 4 < cLine) (S : St G H s.heap) (F : Fr G.h₀ L s.heap m) (r : VR s.heap v c) (r' : VR s.heap w cw) (h : cmpA op v w H Q) :
  wpAny (model G.prog G.w) A (compareOp op.op c cw) (VP G L m H s Q) noE s := by
 cases h with
 | int h => obtain ⟨t, rfl⟩ := r.int_; obtain ⟨t', rfl⟩ := r'.int_; exact cmpI_ok S F h
 | bytes h => obtain ⟨t, rfl⟩ := r.bytes_; obtain ⟨t', rfl⟩ := r'.bytes_; exact cmpB_ok S F h
 | eqb e h => subst e; cases r.bool_; cases r'.bool_; exact PySem.SeqAt.RcAt.bool_bool (A := A) (s := s) _ _ _ _ _ _ (vp_here S F (.bool _) h)
 | neb e h => subst e; cases r.bool_; cases r'.bool_; exact PySem.SeqAt.RcNeAt.bool_bool (A := A) (s := s) _ _ _ _ _ _ (vp_here S F (.bool _) h)
 | eq e h => subst e; exact eqA_ok (neg := false) hu S F r r' h
 | ne e h => subst e; exact eqA_ok (neg := true) hu S F r r' h
theorem ok_cmp {op : COp} {a b : E} (ha : EvOk G k Φ a) (hb : EvOk G k Φ b) : EvOk G k Φ (.cmp op a b) := fun {A env ex m H s ρ Q} c hc h => by
 have hc := and2 hc
 refine wpAny_Compare1 (vp_el (ha c hc.1 h) fun v H' cv s' r x q => ?_) (pr_noSet _)
 refine vp_el (hb (c.next x) hc.2 q) fun w H'' cw s'' r' x' q' => ?_
 refine vp_mono (x.trans x') ?_
 exact cmpA_ok c.room.units ((c.next x).next x').st ((c.next x).next x').fr.fr ((c.next x).keep x' r) r' q'
theorem ok_nil : EsOk G k Φ .nil := fun {A env xs m H s ρ Q pos} c hc h => by
 exact args_nil ⟨[], H, .nil, .refl c.st c.fr.fr, h⟩
theorem vps_mono {L : Addr} {H' : AH} {s' : Shared} {Q : List V → AH → Prop} {t : Sem (List Value)} (x : Res G L m H s H' s') (h : wpAny (model G.prog G.w) A t (VPs G L m H' s' Q) noE s') : wpAny (model G.prog G.w) A t (VPs G L m H s Q) noE s' :=
 wpAny_mono h (fun _ _ q => by obtain ⟨vs, H'', r, y, q⟩ := q; exact ⟨vs, H'', r, x.trans y, q⟩) fun _ _ z => z
theorem ok_cons {e : E} {es : Es} (he : EvOk G k Φ e) (hs : EsOk G k Φ es) : EsOk G k Φ (.cons e es) := fun {A env xs m H s ρ Q pos} c hc h => by
 have hc := and2 hc
 refine args_cons (wpAny_mono (he c hc.1 h) (fun cv s' q => ?_) fun _ _ z => z) (star_cons _ env)
 obtain ⟨v, H', r, x, q⟩ := q
 refine wpAny_mono (hs (c.next x) hc.2 q) (fun cvs s'' q => ?_) fun _ _ z => z
 obtain ⟨vs, H'', rs, x', q⟩ := q
 exact ⟨v :: vs, H'', .cons ((c.next x).keep x' r) rs, x.trans x', q⟩
theorem vps_then {L : Addr} {t : Sem (List Value)} {u : List Value → Sem Value} {Q1 : List V → AH → Prop} {Q2 : PV} (h : wpAny (model G.prog G.w) A t (VPs G L m H s Q1) noE s)
  (n : ∀ vs H' cs s', VRs s'.heap vs cs → Res G L m H s H' s' → Q1 vs H' → wpAny (model G.prog G.w) A (u cs) (VP G L m H' s' Q2) noE s') :
  wpAny (model G.prog G.w) A t (fun cs s' => wpAny (model G.prog G.w) A (u cs) (VP G L m H s Q2) noE s') noE s :=
 wpAny_mono h (fun cs s' q => by obtain ⟨vs, H', r, x, q⟩ := q; exact vp_mono x (n vs H' cs s' r x q)) fun _ _ z => z
theorem ok_list {es : Es} (hs : EsOk G k Φ es) : EvOk G k Φ (.list es) := fun {A env ex m H s ρ Q} c hc h => by
 refine List_ (vps_then (hs c hc h) fun vs H' cs s' r x q => ?_)
 refine wpAny_newObj_type (vp_newList (c.next x).st (c.next x).fr.fr (Keep.refl _) r q.2) ?_
 have := r.length
 have := q.1
 unfold smallL at this
 show cs.toArray.size ≤ sizeLine
 rw [List.size_toArray, sizeLine_eq]; omega
theorem ok_tup {es : Es} (hs : EsOk G k Φ es) : EvOk G k Φ (.tup es) := fun {A env ex m H s ρ Q} c hc h => by
 refine Tuple_ (vps_then (hs c hc h) fun vs H' cs s' r x q => ?_)
 refine wpAny_newObj_type ?_ ?_
 ·have kk : Keep s'.heap (s'.heap.push { cls := .type "tuple", data := .seq cs.toArray }) := Keep.push _ _
  exact ⟨.tup vs, H', .tup (o := { cls := .type "tuple", data := .seq cs.toArray }) (Heap.get?_push_size _ rfl) rfl rfl (by simpa using r.keep kk.tup), Res.keep (tk := s'.toks) (c.next x).st (c.next x).fr.fr kk, q.2⟩
 ·have := r.length
  have := q.1
  unfold smallL at this
  show cs.toArray.size ≤ sizeLine
  rw [List.size_toArray, sizeLine_eq]; omega
end
end RK
end
section
open PySem PySem.W PyProof.Rows
namespace RK
noncomputable def opOf : Bool → BoolOp
 | true => .And
 | false => .Or
noncomputable def BoOk (G : Sg) (k : Nat) (Φ : Phi) (es : Es) : Prop := ∀ {b : Bool} {A : Around} {env : PySem.Env} {xs : List Expr} {m : Str → Option Value} {H : AH} {s : Shared} {ρ : Lo} {Q : PV} {pos : Pos}, Cx G k A env m H s ρ → okEs es env.scope xs = true → evB Φ b es ρ H Q →
 wpAny (model G.prog G.w) A (boolOp pos (opOf b) (evalEach (prEs es xs) env)) (VP G env.locals m H s Q) noE s
noncomputable def AllOk (G : Sg) (k : Nat) (Φ : Phi) (es : Es) : Prop := ∀ {b : Bool} {A : Around} {env : PySem.Env} {xs : List Expr} {m : Str → Option Value} {H : AH} {s : Shared} {ρ : Lo} {Q : PV}, Cx G k A env m H s ρ → okEs es env.scope xs = true → evB Φ b es ρ H Q → (∀ v H, Q v H → ∃ b, v = .bool b) →
 wpAny (model G.prog G.w) A (allTrue (opOf b) (prEs es xs) env) (TP G env.locals m H s Q) noE s
noncomputable def IfsOk (G : Sg) (k : Nat) (Φ : Phi) (es : Es) : Prop := ∀ {A : Around} {env : PySem.Env} {xs : List Expr} {m : Str → Option Value} {H : AH} {s : Shared} {ρ : Lo} {K : Bool → AH → Prop}, Cx G k A env m H s ρ → okEs es env.scope xs = true → evC Φ es ρ H K →
 wpAny (model G.prog G.w) A (forIn (prEs es xs) true fun c r => if r = true then do let ok ← isTrue c env (eval c env); pure (ForInStep.yield ok) else pure (ForInStep.yield r))
  (fun b s' => ∃ H', Res G env.locals m H s H' s' ∧ K b H') noE s
section
variable {G : Sg} {A : Around} {env : PySem.Env} {m : Str → Option Value} {H : AH} {s : Shared} {Q : PV} {ρ : Lo} {k : Nat} {Φ : Phi}
theorem vp_mono_val {L : Addr} {m : Str → Option Value} {H H' : AH} {s s' : Shared} {Q : PV} {b : Bool} (x : Res G L m H s H' s') (q : Q (.bool b) H') : VP G L m H s Q (.bool b) s' := ⟨_, _, .bool _, x, q⟩
theorem ok_not {e : E} (he : EvOk G k Φ e) : EvOk G k Φ (.not e) := fun {A env ex m H s ρ Q} c hc h => by
 refine wpAny_UnaryOp (vp_el (he c hc h) fun v H' cv s' r x q => ?_)
 obtain ⟨b, rfl, q⟩ := bool_inv q
 cases r
 exact not_value (wpAny_truthy_bool (vp_mono_val x q))
theorem tp_el {L : Addr} {t : Sem Bool} {P : Bool → Shared → Prop} {Q1 : PV} (h : wpAny (model G.prog G.w) A t (TP G L m H s Q1) noE s)
  (n : ∀ b H' s', Res G L m H s H' s' → Q1 (.bool b) H' → P b s') : wpAny (model G.prog G.w) A t P noE s :=
 wpAny_mono h (fun c s' q => by obtain ⟨H', x, q⟩ := q; exact n c H' s' x q) fun _ _ z => z
theorem t_not {e : E} (he : TOk G k Φ e) : TOk G k Φ (.not e) := fun {A env ex m H s ρ Q} c hc h hQ => by
 refine wpAny_isTrue_Not (tp_el (he c hc h ?_) fun b H' s' x q => ?_)
 ·exact fun v H q => let ⟨b, e, _⟩ := bool_inv q; ⟨b, e⟩
 ·exact ⟨H', x, q⟩
theorem t_value {e : E} (he : EvOk G k Φ e) (hs : ∀ ex env w, isTrue (prE e ex) env w = (do let v ← w; standAt (prE e ex).pos; holding [v] (truthy v))) : TOk G k Φ e := fun {A env ex m H s ρ Q} c hc h hQ =>
 isT_value (he c hc h) hQ (hs _ _ _)
theorem t_cmp {op : COp} {a b : E} (ha : EvOk G k Φ a) (hb : EvOk G k Φ b) : TOk G k Φ (.cmp op a b) := fun {A env ex m H s ρ Q} c hc h hQ => by
 have hc := and2 hc
 refine wpAny_isTrue_Compare1 (vp_el (ha c hc.1 h) fun v H' cv s' r x q => ?_) (pr_noSet _)
 refine vp_el (hb (c.next x) hc.2 q) fun w H'' cw s'' r' x' q' => ?_
 refine vp_el (cmpA_ok c.room.units ((c.next x).next x').st ((c.next x).next x').fr.fr ((c.next x).keep x' r) r' q') fun u H3 cu s3 ru x3 q3 => ?_
 obtain ⟨b, rfl⟩ := hQ _ _ q3
 cases ru
 exact wpAny_truthy_bool ⟨H3, (x.trans x').trans x3, q3⟩
theorem t_isN {e : E} (he : EvOk G k Φ e) : TOk G k Φ (.isN e) := fun {A env ex m H s ρ Q} c hc h hQ => by
 refine wpAny_isTrue_Compare1 (vp_el (he c hc h) fun v H' cv s' r x q => ?_) rfl
 refine wpAny_Constant_none (vp_el (isNone_ok (c.next x).st (c.next x).fr.fr r q) fun u H3 cu s3 ru x3 q3 => ?_)
 obtain ⟨b, rfl⟩ := hQ _ _ q3
 cases ru
 exact wpAny_truthy_bool ⟨H3, x.trans x3, q3⟩
theorem t_notN {e : E} (he : EvOk G k Φ e) : TOk G k Φ (.notN e) := fun {A env ex m H s ρ Q} c hc h hQ => by
 refine wpAny_isTrue_Compare1 (vp_el (he c hc h) fun v H' cv s' r x q => ?_) rfl
 refine wpAny_Constant_none (vp_el (notNone_ok (c.next x).st (c.next x).fr.fr r q) fun u H3 cu s3 ru x3 q3 => ?_)
 obtain ⟨b, rfl⟩ := hQ _ _ q3
 cases ru
 exact wpAny_truthy_bool ⟨H3, x.trans x3, q3⟩
theorem t_inn (T : TopOk G) {a b : E} (ha : EvOk G k Φ a) (hb : EvOk G k Φ b) : TOk G k Φ (.inn a b) := fun {A env ex m H s ρ Q} c hc h hQ => by
 have hc := and2 hc
 refine wpAny_isTrue_Compare1 (vp_el (ha c hc.1 h) fun v H' cv s' r x q => ?_) (pr_noSet _)
 refine vp_el (hb (c.next x) hc.2 q) fun w H'' cw s'' r' x' q' => ?_
 refine vp_el (innA_ok ((c.next x).next x').st ((c.next x).next x').fr.fr ((c.next x).keep x' r) r' T.sm q') fun u H3 cu s3 ru x3 q3 => ?_
 obtain ⟨b, rfl⟩ := hQ _ _ q3
 cases ru
 exact wpAny_truthy_bool ⟨H3, (x.trans x').trans x3, q3⟩
theorem bo_nil : BoOk G k Φ .nil := fun {b A env xs m H s ρ Q pos} c hc h => False.elim h
theorem all_nil : AllOk G k Φ .nil := fun {b A env xs m H s ρ Q} c hc h hQ => False.elim h
theorem bo_cons {e : E} {es : Es} (he : EvOk G k Φ e) (hs : BoOk G k Φ es) : BoOk G k Φ (.cons e es) := fun {b A env xs m H s ρ Q pos} c hc h => by
 have hc := and2 hc
 cases es with
 | nil => exact he c hc.1 h
 | cons e2 es2 =>
  show wpAny _ _ (eval (prE e (hdE xs)) env >>= fun v => standAt pos >>= fun _ => holding [v] (truthy v) >>= fun t => match opOf b, t with | .And, false => pure v | .Or, true => pure v | _, _ => boolOp pos (opOf b) (evalEach (prEs (.cons e2 es2) xs.tail) env)) _ _ _
  refine wpAny_bind (vp_el (he c hc.1 h) fun v H' cv s' r y q => ?_)
  refine wpAny_bind (wpAny_standAt (wpAny_bind (wpAny_holding ?_)))
  obtain ⟨t, rfl, q1⟩ := bool_inv q
  clear q
  cases r
  refine wpAny_truthy_bool ?_
  by_cases z : t = b
  ·rw [if_pos z] at q1
   subst z
   have := vp_mono y (hs (pos := pos) (c.next y) hc.2 q1)
   cases t <;> exact this
  ·rw [if_neg z] at q1
   have fin : wpAny (model G.prog G.w) A (pure (.bool t)) (VP G env.locals m H s Q) noE s' := wpAny_pure ⟨_, _, .bool _, y, q1⟩
   cases t <;> cases b <;> first | exact absurd rfl z | exact fin
theorem all_cons {e : E} {es : Es} (he : TOk G k Φ e) (hs : AllOk G k Φ es) : AllOk G k Φ (.cons e es) := fun {b A env xs m H s ρ Q} c hc h hQ => by
 have hc := and2 hc
 ·have go : wpAny (model G.prog G.w) A (isTrue (prE e (hdE xs)) env (eval (prE e (hdE xs)) env)) (fun t s₁ => if t = b then wpAny (model G.prog G.w) A (allTrue (opOf b) (prEs es xs.tail) env) (TP G env.locals m H s Q) noE s₁ else TP G env.locals m H s Q t s₁) noE s := by
   cases es with
   | nil =>
    ·have h : evA Φ e ρ H Q := h
     refine tp_el (he c hc.1 h hQ) fun t H' s' y q => ?_
     have fin : TP G env.locals m H s Q t s' := ⟨H', y, q⟩
     by_cases z : t = b
     ·rw [if_pos z]
      subst z
      cases t
      ·exact wpAny_allTrue_Or_nil fin
      ·exact wpAny_allTrue_And_nil fin
     ·rw [if_neg z]; exact fin
   | cons e2 es2 =>
    refine tp_el (he c hc.1 h ?_) fun t H' s' y q => ?_
    ·exact fun v H q => let ⟨b, e, _⟩ := bool_inv q; ⟨b, e⟩
    ·have same : (if t = b then evB Φ b (.cons e2 es2) ρ H' Q else Q (.bool t) H') := q
     by_cases z : t = b
     ·rw [if_pos z] at same ⊢
      exact tp_el (hs (c.next y) hc.2 same hQ) fun b' H'' s'' y' q' => ⟨H'', y.trans y', q'⟩
     ·rw [if_neg z] at same ⊢
      exact ⟨H', y, same⟩
  cases b
  ·exact wpAny_allTrue_Or_cons (wpAny_mono go (fun t s' q => by cases t <;> exact q) fun _ _ z => z)
  ·exact wpAny_allTrue_And_cons (wpAny_mono go (fun t s' q => by cases t <;> exact q) fun _ _ z => z)
theorem ok_and {es : Es} (hs : BoOk G k Φ es) : EvOk G k Φ (.and es) := fun {A env ex m H s ρ Q} c hc h => by
 show wpAny _ _ (eval (.BoolOp .And (prEs es (xl ex)) ex.pos) env) _ _ _
 rw [arm_eval_BoolOp]
 exact hs (b := true) c hc h
theorem ok_or {es : Es} (hs : BoOk G k Φ es) : EvOk G k Φ (.or es) := fun {A env ex m H s ρ Q} c hc h => by
 show wpAny _ _ (eval (.BoolOp .Or (prEs es (xl ex)) ex.pos) env) _ _ _
 rw [arm_eval_BoolOp]
 exact hs (b := false) c hc h
theorem t_and {es : Es} (hs : AllOk G k Φ es) : TOk G k Φ (.and es) := fun {A env ex m H s ρ Q} c hc h hQ => by
 exact wpAny_isTrue_BoolOp (hs (b := true) c hc h hQ)
theorem t_or {es : Es} (hs : AllOk G k Φ es) : TOk G k Φ (.or es) := fun {A env ex m H s ρ Q} c hc h hQ => by
 exact wpAny_isTrue_BoolOp (hs (b := false) c hc h hQ)
theorem ifs_nil : IfsOk G k Φ .nil := fun {A env xs m H s ρ K} c hc h => by
 exact wpAny_pure ⟨H, .refl c.st c.fr.fr, h⟩
theorem ifs_false {A : Around} {env : PySem.Env} {Q : Bool → Shared → Prop} : ∀ (xs : List Expr) {s : Shared}, Q false s → wpAny (model G.prog G.w) A (forIn xs false fun c r => if r = true then do let ok ← isTrue c env (eval c env); pure (ForInStep.yield ok) else pure (ForInStep.yield r)) Q noE s
 | [], _, h => wpAny_pure h
 | x :: xs, s, h => by
  rw [List.forIn_cons]
  simp only [Bool.false_eq_true, if_false, pure_bind]
  exact ifs_false xs h
theorem ifs_cons {e : E} {es : Es} (he : TOk G k Φ e) (hs : IfsOk G k Φ es) : IfsOk G k Φ (.cons e es) := fun {A env xs m H s ρ K} c hc h => by
 have hc := and2 hc
 show wpAny _ _ (forIn (prE e (hdE xs) :: prEs es xs.tail) true _) _ _ _
 rw [List.forIn_cons, if_pos rfl]
 refine wpAny_bind (wpAny_bind (tp_el (he c hc.1 h fun v H q => let ⟨b, e, _⟩ := bool_inv q; ⟨b, e⟩) fun t H' s' y q => wpAny_pure ?_))
 cases t with
 | true => exact wpAny_mono (hs (c.next y) hc.2 q) (fun b s'' z => by obtain ⟨H'', y', z⟩ := z; exact ⟨H'', y.trans y', z⟩) fun _ _ z => z
 | false => exact ifs_false _ ⟨H', y, q⟩
theorem args_es {es : Es} {xs : List Expr} {f : Value} {P : Args → Shared → Prop} {Q1 : List V → AH → Prop} {pos : Pos} (hs : EsOk G k Φ es) (c : Cx G k A env m H s ρ) (hc : okEs es env.scope xs = true) (h : evEs Φ es ρ H Q1)
  (n : ∀ vs H' cs s', VRs s'.heap vs cs → Res G env.locals m H s H' s' → Q1 vs H' → P ⟨cs, []⟩ s') : wpAny (model G.prog G.w) A (evalArgs f true (backTo pos (starEach (prEs es xs) env)) []) P noE s := by
 have z := wpAny_mono (hs (pos := pos) c hc h) (Q' := fun cs s' => P ⟨cs, []⟩ s') (fun cs s' q => by obtain ⟨vs, H', r, x, q⟩ := q; exact n vs H' cs s' r x q) fun _ _ z => z
 cases es with
 | nil =>
  exact evalArgs_nil3 (n [] H [] s .nil (.refl c.st c.fr.fr) h)
 | cons e es =>
  have e1 : starEach (prEs (.cons e es) xs) env = (false, eval (prE e (hdE xs)) env) :: starEach (prEs es xs.tail) env := star_cons _ env
  rw [e1] at z ⊢
  exact PySem.Calls.evalArgs_plain z
theorem ok_call (T : TopOk G) (hΦ : FOk G k Φ) {f : Fn} {es : Es} (hs : EsOk G k Φ es) : EvOk G k Φ (.call f es) := fun {A env ex m H s ρ Q} c hc h => by
 have hc := and3 hc
 refine Call_ (name_glob T c.fr hc.2.1 (T.gfn f (bne_iff_ne.mp hc.1)) ?_)
 refine callWith_of (P := fun h => G.K.In h) (by rw [any_back]; rfl) (keeps_K (T.kfn f)) (args_es hs c hc.2.2 h fun vs H' cs s' r x q => ⟨T.kin.keeps x.st.keep, vp_mono x ?_⟩)
 exact call_vp hΦ c.room.room x.st x.fr (c.next x).fr.un r q
theorem ok_bi (T : TopOk G) {b : BI} {es : Es} (hs : EsOk G k Φ es) : EvOk G k Φ (.bi b es) := fun {A env ex m H s ρ Q} c hc h => by
 have hc := and2 hc
 refine Call_ (name_blt T c.fr hc.1 ?_)
 cases b with
 | bytes => exact PyProof.Rows.callWith_type any_back (args_es hs c hc.2 h fun vs H' cs s' r x q => vp_mono x (bytes_ok c.room.1 x.st x.fr r q))
 | len => exact PySem.Calls.callWith_builtin any_back (args_es hs c hc.2 h fun vs H' cs s' r x q => vp_mono x (len_ok x.st x.fr r q))
 | sum => exact PySem.Calls.callWith_builtin any_back (args_es hs c hc.2 h fun vs H' cs s' r x q => vp_mono x (sum_ok c.room.1 T.sm x.st x.fr (c.next x).fr.un r q))
 | min => exact PySem.Calls.callWith_builtin any_back (args_es hs c hc.2 h fun vs H' cs s' r x q => vp_mono x (min_ok c.room.1 T.sm x.st x.fr (c.next x).fr.un r q))
 | max => exact PySem.Calls.callWith_builtin any_back (args_es hs c hc.2 h fun vs H' cs s' r x q => vp_mono x (max_ok c.room.1 T.sm x.st x.fr (c.next x).fr.un r q))
 | sorted => exact PySem.Calls.callWith_builtin any_back (args_es hs c hc.2 h fun vs H' cs s' r x q => vp_mono x (sorted_ok c.room.1 T.sm x.st x.fr (c.next x).fr.un r q))
theorem all_of_any {l : List (Bool × Sem Value)} (h : l.any (·.1) = false) : l.all (!·.1) = true := by
 rw [List.all_eq_true]
 intro p hp
 rw [List.any_eq_false] at h
 simpa using h p hp
theorem method_rule {o : Expr} {name : Str} {apos pos : Pos} {xs : List Expr} {P : Value → Shared → Prop} (hs : noSuper o = true) (hl : xs.length < 20) (hp : (apos.endLine == pos.line) = true) (hc : (backTo pos (starEach xs env)).any (·.1) = false)
  (h : wpAny (model G.prog G.w) A (eval o env) (fun ov s₁ => wpAny (model G.prog G.w) A (getMethod ov name (do return (← importBound o env).getD true)) (fun fx s₂ => wpAny (model G.prog G.w) A (callWith pos fx.1 fx.2 (backTo pos (starEach xs env)) []) P noE s₂) noE s₁) noE s) :
  wpAny (model G.prog G.w) A (eval (.Call (.Attribute o name apos) xs [] pos) env) P noE s := by
 refine methodCall_KW (kws := []) h ?_
 have form : methodCallForm (xs.length + ([] : List Keyword).length) (backTo pos (starEach xs env)) (backToKw pos (keywordEach [] env)) = true := by
  show (List.all _ _ && true && decide _) = true
  rw [all_of_any hc]
  have : xs.length + 0 + 0 < 30 := by omega
  exact decide_eq_true this
 have e : eval (.Call (.Attribute o name apos) xs [] pos) env = (do
   let ov ← attributeBase o name env (eval o env)
   standAt apos.atName
   methodCall o name apos pos env ov (xs.length + ([] : List Keyword).length) (backTo pos (starEach xs env)) (backToKw pos (keywordEach [] env))) := rfl
 rw [e, base_of hs]
 congr 1; funext ov; congr 1; funext _
 unfold methodCall methodCallPos calleeOf
 rw [form]
 simp only [Bool.not_true, Bool.false_or, if_true, hp, pure_bind]
theorem ok_meth (T : TopOk G) (hΦ : FOk G k Φ) (hM : ∀ C : Cl, ∀ x f, C.meth x = some f → x ∉ C.fields) {e : E} {n : Nm} {es : Es} (he : EvOk G k Φ e) (hs : EsOk G k Φ es) : EvOk G k Φ (.meth e n es) := fun {A env ex m H s ρ Q} c hc h => by
 have hc := and5 hc
 refine method_rule hc.1 (of_decide_eq_true hc.2.1) hc.2.2.1 any_back (vp_el (he c hc.2.2.2.1 h) fun v H' cv s' r x q => ?_)
 obtain ⟨a, rfl, q⟩ := ref_inv q
 obtain ⟨C, dx, ha, q⟩ := inst_inv q
 obtain ⟨C', fl, hd, q⟩ := ns_inv q
 obtain ⟨f, hf, rfl, q1⟩ := optF_inv q
 cases r
 obtain ⟨es', n', xs', h6, I, hn, _⟩ := instAt x.st ha hd
 have ok := T.cls.meth _ _ _ hf
 simp only [methOk, Bool.and_eq_true, beq_iff_eq] at ok
 refine method_inst x.fr T.kin I ok.1.1.1 ok.1.1.2 ok.1.2 (hn.dead (hM _ _ _ hf)) ?_
 refine callWith_of (P := fun h => G.K.In h) (by rw [any_back]; rfl) (keeps_K ok.2) (args_es hs (c.next x) hc.2.2.2.2 q1 fun vs H'' cs s'' r' x' q' => ⟨T.kin.keeps x'.st.keep, vp_mono (x.trans x') ?_⟩)
 exact call_vp hΦ c.room.room x'.st x'.fr ((c.next x).next x').fr.un (.cons (.ref a) r') q'
theorem lm_slot (mm : LM) : Slot "list" mm.S mm.id ∧ typeOf (.builtin mm.id) = pure (.type "method_descriptor") := by
 cases mm
 ·exact ⟨PySem.F.slot_list_append, PySem.F.type_list_append⟩
 ·exact ⟨PySem.F.slot_list_pop, PySem.F.type_list_pop⟩
 ·exact ⟨PySem.F.slot_list_reverse, PySem.F.type_list_reverse⟩
 ·exact ⟨PySem.F.slot_list_insert, PySem.F.type_list_insert⟩
theorem ok_lm (T : TopOk G) {e : E} {mm : LM} {es : Es} (he : EvOk G k Φ e) (hs : EsOk G k Φ es) : EvOk G k Φ (.lm e mm es) := fun {A env ex m H s ρ Q} c hc h => by
 have hc := and5 hc
 refine method_rule hc.1 (of_decide_eq_true hc.2.1) hc.2.2.1 any_back (vp_el (he c hc.2.2.2.1 h) fun v H' cv s' r x q => ?_)
 obtain ⟨l, rfl, q⟩ := ref_inv q
 obtain ⟨vs, ha, q⟩ := list_inv q
 cases r
 obtain ⟨ds, n, hl, _⟩ := x.st.obj _ _ ha
 refine getMethod_list_of (lm_slot mm).1 (lm_slot mm).2 hl.isList ⟨_, hl, rfl⟩ ?_
 exact PySem.Calls.callWith_builtin any_back (args_es hs (c.next x) hc.2.2.2.2 q fun vs H'' cs s'' r' x' q' => vp_mono (x.trans x') (lmA_ok x'.st x'.fr ((c.next x).next x').fr.un r' q'))
end
end RK
end
section
open PySem PySem.W PyProof.Rows
namespace RK
section
variable {G : Sg} {A : Around} {env : PySem.Env} {m : Str → Option Value} {H : AH} {s : Shared} {Q : PV} {ρ : Lo} {k : Nat} {Φ : Phi}
theorem RoomE.under {C : Addr} {args : Args} (r : RoomE k A) : Room k (A.under (.builtin "type.__call__" args)) := by
 have h1 : (Code.builtin "type.__call__" args).weight ≤ 1 := by
  have g : (Code.builtin "type.__call__" args).isGuard = false := by
   show guardIds.contains "type.__call__" = false
   decide +kernel
  have cr : (Code.builtin "type.__call__" args).isCaller = false := rfl
  have fr : (Code.builtin "type.__call__" args).frames = 0 := rfl
  unfold Code.weight; rw [g, cr, fr]; simp only [Bool.false_eq_true, if_false]; split <;> omega
 have h2 : (Code.builtin "type.__call__" args).cUnits ≤ 4 := by
  have fr : (Code.builtin "type.__call__" args).frames = 0 := rfl
  show 1 + 3 * (Code.builtin "type.__call__" args).frames ≤ 4
  rw [fr]; decide
 obtain ⟨a, b, c⟩ := r
 refine ⟨a, ?_, ?_⟩
 ·show A.depth + _ + 2 * k + 2 < _; omega
 ·show A.units + _ + 10 * k + 40 < _; omega
theorem push2_fresh {h : Heap} : h.get? h.objs.size = none ∧ h.get? (h.objs.size + 1) = none ∧ h.objs.size + 1 ≠ h.objs.size := ⟨get_size h, dead_size h 1, Nat.succ_ne_self _⟩
theorem new_res {C : Cl} {h : Heap} (S : St G H s.heap) {L : Addr} (F : Fr G.h₀ L s.heap m) (hL : H L = none) {x dx : Addr} (F' : Fr G.h₀ L h m) (k : ∀ b o, s.heap.get? b = some o → b ≠ L → h.get? b = some o)
  (hx : h.get? x = some (instObj (G.ca C) dx)) (hdx : h.get? dx = some emptyDict) (fx : s.heap.get? x = none) (fdx : s.heap.get? dx = none) (ne : x ≠ dx) :
  Res G L m H s ((H.set dx (.ns C fun _ => none)).set x (.inst C dx)) { s with heap := h } := by
 have R1 : Res G L m H s (H.set dx (.ns C fun _ => none)) { s with heap := h } := Res.allocL (tk := s.toks) S F F' hL k fdx ⟨[], 0, [], hdx, .nil, fun x v hv => by cases hv⟩
 have S' : St G ((H.set dx (.ns C fun _ => none)).set x (.inst C dx)) h := by
  refine ⟨R1.st.keep, fun b o e => ?_, fun b o e hr => ?_⟩
  ·by_cases hb : b = x
   ·subst hb; rw [set_eq] at e; cases e; exact hx
   ·rw [set_ne hb] at e; exact R1.st.obj b o e
  ·by_cases hb : b = x
   ·subst hb
    cases z : G.h₀.get? b with
    | none => rfl
    | some o' => have := S.keep b o' z; rw [fx] at this; cases this
   ·rw [set_ne hb] at e; exact R1.st.own b o e hr
 refine ⟨R1.same, S', F', R1.ev.keep, fun b q => ?_, R1.ev.alive⟩
 by_cases hb : b = x
 ·subst hb; exact .inr fx
 ·rw [set_ne hb] at q; exact R1.ev.dom b q
theorem ok_new (T : TopOk G) (hΦ : FOk G k Φ) {C : Cl} {es : Es} (hs : EsOk G k Φ es) : EvOk G k Φ (.new C es) := fun {A env ex m H s ρ Q} c hc h => by
 have hc := and2 hc
 have ok := T.cls.cls C
 refine Call_ (name_glob T c.fr hc.1 (T.gcl C) ?_)
 have hkp : keepIn G.K (.ref (G.ca C)) = true := by simp only [clsOk, Bool.and_eq_true] at ok; exact ok.1.2
 refine callWith_of (P := fun h => G.K.In h) (by rw [any_back]; rfl) (keeps_K hkp) (args_es hs c hc.2 h fun vs H' cs s' r x q => ⟨T.kin.keeps x.st.keep, vp_mono x ?_⟩)
 have X := T.kin.keeps x.st.keep
 have hun := (c.next x).fr.un
 simp only [clsOk, Bool.and_eq_true, beq_iff_eq] at ok
 refine wpAny_call ?_
 cases hI : C.init with
 | some f =>
  rw [hI] at ok
  simp only [Option.map_some, Bool.and_eq_true, beq_iff_eq] at ok
  obtain ⟨hh, g, d, t, os⟩ := s'
  obtain ⟨p1, p2, p3⟩ := push2_fresh (h := hh)
  have q := q (hh.objs.size + 1) hh.objs.size (x.st.dead p2) (x.st.dead p1) p3
  rw [hI] at q
  refine make_core (makes_of X ok.1.1.2) (looks_findIn X ok.2.1) (fun self => bind_fn X self (beq_iff_eq.mp ok.2.2)) (.inl rfl) ?_
  have N1 : Res G env.locals m H' ⟨hh, g, d, t, os⟩ ((H'.set hh.objs.size (.ns C fun _ => none)).set (hh.objs.size + 1) (.inst C hh.objs.size)) ⟨(hh.push emptyDict).push (instObj (G.ca C) hh.objs.size), g, d, t, os⟩ := by
   refine new_res (s := ⟨hh, g, d, t, os⟩) x.st x.fr hun ((x.fr.push _).push _) (fun b o e _ => Heap.get?_push_of_some _ (Heap.get?_push_of_some _ e)) ?_ ?_ p2 p1 p3
   ·have := Heap.get?_push_size (hh.push emptyDict) (o := instObj (G.ca C) hh.objs.size) rfl
    rwa [Heap.size_push] at this
   ·exact Heap.get?_push_of_some _ (Heap.get?_push_size _ rfl)
  have rs' : VRs ((hh.push emptyDict).push (instObj (G.ca C) hh.objs.size)) (.ref (hh.objs.size + 1) :: vs) (.ref (hh.objs.size + 1) :: cs) := .cons (.ref _) (r.keep (N1.tup x.st x.fr))
  refine codeAny_mono (hΦ f _ _ _ ⟨(hh.push emptyDict).push (instObj (G.ca C) hh.objs.size), g, d, t, os⟩ _ _ (c.room.under (C := G.ca C)) N1.st (fr_size N1.fr) rs' q) fun r' s'' z => ?_
  obtain ⟨v, cv, H'', rfl, rv, y, rfl, qq⟩ := z
  cases rv
  refine ⟨rfl, ?_⟩
  exact ⟨_, H'', .ref _, N1.trans (y.res N1.fr ((c.next x).next N1).fr.un), qq⟩
 | none =>
  rw [hI] at ok
  simp only [Option.map_none, beq_iff_eq] at ok
  have qe : vs = [] := by
   obtain ⟨p1, p2, p3⟩ := push2_fresh (h := s'.heap)
   have q := q (s'.heap.objs.size + 1) s'.heap.objs.size (x.st.dead p2) (x.st.dead p1) p3
   rw [hI] at q
   exact q.1
  subst qe
  cases r
  refine make_K0 x.fr (ledger_news G.h₀ s'.heap env.locals) X ok.1.1.2 ok.2 fun a dx h' F' N' lt ne => ?_
  have kk := keep_of_news x.fr F' (fun p hp => N' p (.tail _ (.tail _ hp)))
  have dead : ∀ b, (∀ p ∈ ledger G.h₀ s'.heap env.locals, p.1 < b) → b ≠ env.locals → G.h₀.get? b = none → s'.heap.get? b = none := fun b hb hL h0 => by
   cases z : s'.heap.get? b with
   | none => rfl
   | some o => exact absurd (hb _ (ledger_all z hL h0)) (Nat.lt_irrefl _)
  have na := N' _ (.head _)
  have nd := N' _ (.tail _ (.head _))
  have fdx := dead dx lt nd.2.1 nd.2.2
  have fa := dead a (fun p hp => Nat.lt_trans (lt p hp) ne) na.2.1 na.2.2
  have R1 := new_res (C := C) x.st x.fr hun F' kk na.1 nd.1 fa fdx (Nat.ne_of_gt ne)
  have q := q a dx (x.st.dead fa) (x.st.dead fdx) (Nat.ne_of_gt ne)
  rw [hI] at q
  exact ⟨_, _, .ref a, R1, q.2⟩
theorem ok_edict (T : TopOk G) : EvOk G k Φ .edict := fun {A env ex m H s ρ Q} c hc h => by
 refine wpAny_Dict_empty ?_
 have kk : Keep s.heap (s.heap.push { cls := .type "dict", data := .dict #[] }) := Keep.push _ _
 exact ⟨.ref _, _, .ref _, Res.alloc (tk := s.toks) (O := .idict []) c.st c.fr.fr kk (get_size _) ⟨[], Heap.DictOf.new _, rfl, .nil, beq_eq_false_iff_ne.mpr (Nat.ne_of_gt (Nat.lt_of_lt_of_le T.sm (fr_size c.fr.fr)))⟩, h _ (c.st.dead (get_size _))⟩
theorem ok_rep {e n : E} (he : EvOk G k Φ e) (hn : EvOk G k Φ n) : EvOk G k Φ (.rep e n) := fun {A env ex m H s ρ Q} c hc h => by
 have hc := and2 hc
 refine wpAny_BinOp (List_ (args_cons (vp_el (he c hc.1 h) fun v H' cv s' r x q => ?_) (star_cons _ _)))
 refine args_nil ?_
 refine wpAny_newObj_type ?_ (by show 1 ≤ sizeLine; rw [sizeLine_eq]; decide)
 have kk : Keep s'.heap (s'.heap.push { cls := .type "list", data := .seq ([cv] : List Value).toArray }) := Keep.push _ _
 have x1 : Res G env.locals m H' s' H' { s' with heap := s'.heap.push { cls := .type "list", data := .seq ([cv] : List Value).toArray } } := Res.keep (tk := s'.toks) x.st x.fr kk
 refine vp_el (hn ((c.next x).next x1) hc.2 q) fun w H'' cw s'' r' x' q' => ?_
 obtain ⟨kn, rfl, q0, q1, q2⟩ := int_inv q'
 ·clear q'
  cases r'
  have hd : s'.heap.get? s'.heap.objs.size = none := get_size _
  have hHd : H' s'.heap.objs.size = none := x.st.dead hd
  have hl : s''.heap.get? s'.heap.objs.size = some { cls := .type "list", data := .seq ([cv] : List Value).toArray } := by
   refine x'.ev.keep _ _ (Heap.get?_push_size _ rfl) ?_ hHd
   intro z
   obtain ⟨oL, eL⟩ := Fr.live x.fr
   rw [← z, hd] at eL; cases eL
  refine mul_list x'.fr (ledger_news G.h₀ s''.heap env.locals) hl (by omega) (by omega) (by show 1 * kn.toNat ≤ _; omega) fun h' F' N' => ?_
  have kk := keep_of_news x'.fr F' (fun p hp => N' p (.tail _ hp))
  have rv := (((c.next x).next x1).keep x' (r.keep (x1.tup x.st x.fr)))
  have hun := (((c.next x).next x1).next x').fr.un
  have e : (List.foldl (fun x1 x2 => x1 ++ x2) #[] (List.replicate (if ([cv] : List Value).toArray.isEmpty = true then 0 else kn.toNat) ([cv] : List Value).toArray)).toList = List.replicate kn.toNat cv := by
   show (List.foldl (fun x1 x2 => x1 ++ x2) #[] (List.replicate kn.toNat #[cv])).toList = _
   have gen : ∀ (n : Nat) (a : Array Value), (List.foldl (fun x1 x2 => x1 ++ x2) a (List.replicate n #[cv])).toList = a.toList ++ List.replicate n cv := by
    intro n
    induction n with
    | zero => intro a; simp
    | succ n ih => intro a; rw [List.replicate_succ, List.foldl_cons, ih, List.replicate_succ]; simp
   simpa using gen kn.toNat #[]
  have rrep : ∀ n, VRs h' (List.replicate n v) (List.replicate n cv) := by
   intro n
   have rv' : VR h' v cv := rv.keep (fun b o e hT => kk b o e (fun z => by subst z; exact ns_noT x'.fr.ns _ o rfl e hT))
   induction n with
   | zero => exact .nil
   | succ n ih => exact .cons rv' ih
  refine ⟨.ref _, _, .ref _, (x.trans x1).trans (x'.trans (Res.allocL (tk := s''.toks) (O := .list (List.replicate kn.toNat v)) x'.st x'.fr F' hun kk (get_size _) ⟨_, _, (N' _ (.head _)).1, by rw [e]; exact rrep _⟩)), q2 _ (x'.st.dead (get_size _))⟩
noncomputable def pairsOf (kx : List (Option Expr)) (xs : List Expr) (pos : Pos) (env : PySem.Env) : List (Sem Value × Sem Value) :=
 match kx, xs with
 | some a :: kx, x :: xs => (eval a env, do let v ← eval x env; standAt pos; pure v) :: pairsOf kx xs pos env
 | _, _ => []
theorem pairs_shape {pos : Pos} {env : PySem.Env} {ks : List Nm} {kx : List (Option Expr)} {xs : List Expr} (hl : (prK ks kx).length = xs.length) :
  (evalEachOpt (prK ks kx) env).zip ((evalEach xs env).map fun v => do let x ← v; standAt pos; pure x) = (pairsOf (prK ks kx) xs pos env).map (fun p => (some p.1, p.2)) ∧ (pairsOf (prK ks kx) xs pos env).length = (prK ks kx).length := by
 induction ks generalizing kx xs with
 | nil =>
  cases xs with
  | nil => exact ⟨rfl, rfl⟩
  | cons _ _ => cases hl
 | cons k ks ih =>
  cases xs with
  | nil => cases hl
  | cons x xs =>
   have i := ih (kx := kx.tail) (Nat.succ.inj hl)
   exact ⟨congrArg (List.cons _) i.1, congrArg Nat.succ i.2⟩
theorem mkSd_eq : ∀ {xs : List Nm} {vs : List V} {x : Nm}, x ∉ xs → mkSd xs vs x = none
 | [], [], _, _ => rfl
 | [], _ :: _, _, _ => rfl
 | _ :: _, [], _, _ => rfl
 | y :: xs, v :: vs, x, h => by
  have h1 : x ≠ y := fun e => h (e ▸ .head _)
  have h2 : x ∉ xs := fun e => h (.tail _ e)
  show upd (mkSd xs vs) y v x = none
  unfold upd; rw [if_neg h1]; exact mkSd_eq h2
theorem sd_rel {h : Heap} : ∀ {ks : List Nm} {vs : List V} {cs : List Value}, ks.Nodup → VRs h vs cs → ks.length = vs.length → ∀ x v, mkSd ks vs x = some v → ∃ c, (valueAt ((ks.map nmS).zip cs) (nmS x)) = some c ∧ VR h v c
 | [], [], _, _, _, _, x, v, e => by cases e
 | [], _ :: _, _, _, _, hl, x, v, e => by cases hl
 | _ :: _, [], _, _, _, hl, x, v, e => by cases hl
 | y :: ks, w :: vs, _, hn, .cons (c := c) a r, hl, x, v, e => by
  have ⟨n1, n2⟩ := List.nodup_cons.mp hn
  change upd (mkSd ks vs) y w x = some v at e
  unfold upd at e
  by_cases hx : x = y
  ·subst hx
   rw [if_pos rfl] at e
   cases e
   exact ⟨c, by simp [valueAt], a⟩
  ·rw [if_neg hx] at e
   obtain ⟨c', e1, e2⟩ := sd_rel n2 r (by simpa using hl) x v e
   refine ⟨c', ?_, e2⟩
   unfold valueAt at e1 ⊢
   rw [List.map_cons, List.zip_cons_cons, List.find?_cons]
   rw [show decide ((nmS y, c).1 = nmS x) = false from by simp; exact fun z => hx (nmS_inj z.symm)]
   exact e1
end
noncomputable def PsOk (G : Sg) (k : Nat) (Φ : Phi) (es : Es) : Prop := ∀ {A : Around} {env : PySem.Env} {ks : List Nm} {kx : List (Option Expr)} {xs : List Expr} {m : Str → Option Value} {H : AH} {s : Shared} {ρ : Lo} {Q : List V → AH → Prop} {pos : Pos}, Cx G k A env m H s ρ → okEs es env.scope xs = true → (prK ks kx).length = (prEs es xs).length → evEs Φ es ρ H Q →
 wpAny (model G.prog G.w) A (evalPairs (pairsOf (prK ks kx) (prEs es xs) pos env)) (fun kvs s' => ∃ vs H' cs, VRs s'.heap vs cs ∧ Res G env.locals m H s H' s' ∧ Q vs H' ∧ Carries (strKind G.prog G.w) kvs ((ks.map nmS).zip cs) ∧ cs.length = ks.length) noE s
section
variable {G : Sg} {A : Around} {env : PySem.Env} {m : Str → Option Value} {H : AH} {s : Shared} {Q : PV} {ρ : Lo} {k : Nat} {Φ : Phi}
theorem ps_nil : PsOk G k Φ .nil := fun {A env ks kx xs m H s ρ Q pos} c hc hl h => by
 cases ks with
 | cons _ _ => cases hl
 | nil => exact evalPairs_nil ⟨[], H, [], .nil, .refl c.st c.fr.fr, h, trivial, rfl⟩
theorem ps_cons {e : E} {es : Es} (he : EvOk G k Φ e) (hs : PsOk G k Φ es) : PsOk G k Φ (.cons e es) := fun {A env ks kx xs m H s ρ Q pos} c hc hl h => by
 have hc := and2 hc
 cases ks with
 | nil => cases hl
 | cons y ks =>
  refine evalPairs_cons (wpAny_Constant_str ?_)
  have x0 : Res G env.locals m H s H { s with toks := s.toks + 1 } := Res.keep c.st c.fr.fr (Keep.refl _)
  refine wpAny_bind (vp_el (he (c.next x0) hc.1 h) fun v H' cv s' r x1 q => ?_)
  refine wpAny_bind (wpAny_standAt (wpAny_pure ?_))
  refine wpAny_mono (hs (pos := pos) ((c.next x0).next x1) hc.2 (Nat.succ.inj hl) q) (fun kvs s'' z => ?_) fun _ _ z => z
  obtain ⟨vs, H'', cs, r2, x2, q2, ca, le⟩ := z
  exact ⟨v :: vs, H'', cv :: cs, .cons (((c.next x0).next x1).keep x2 r) r2, (x0.trans x1).trans x2, q2, ⟨strKind_is _ _ _ _, rfl, ca⟩, congrArg Nat.succ le⟩
theorem zip_keys : ∀ {ks : List Nm} {cs : List Value}, cs.length = ks.length → ((ks.map nmS).zip cs).map (·.1) = ks.map nmS
 | [], [], _ => rfl
 | [], _ :: _, h => by cases h
 | _ :: _, [], h => by cases h
 | k :: ks, c :: cs, h => by
  rw [List.map_cons, List.zip_cons_cons, List.map_cons, zip_keys (by simpa using h)]
theorem keys_nodup : ∀ {ks : List Nm}, ks.Nodup → (ks.map nmS).Nodup
 | [], _ => .nil
 | k :: ks, h => by
  have ⟨h1, h2⟩ := List.nodup_cons.mp h
  rw [List.map_cons, List.nodup_cons]
  refine ⟨fun z => ?_, keys_nodup h2⟩
  obtain ⟨y, hy, e⟩ := List.mem_map.mp z
  exact h1 (nmS_inj e ▸ hy)
theorem ok_sdict {ks : List Nm} {es : Es} (hs : PsOk G k Φ es) : EvOk G k Φ (.sdict ks es) := fun {A env ex m H s ρ Q} c hc h => by
 have hc := and4 hc
 have h3 := of_decide_eq_true hc.2.1
 have h4 := of_decide_eq_true hc.2.2.1
 have h5 := of_decide_eq_true hc.2.2.2
 have sh := pairs_shape (pos := ex.pos) (env := env) h3
 have sl := sh.2
 have sh := sh.1
 refine wpAny_Dict_pairs (knd := strKind G.prog G.w) sh (fun z => by rw [z] at sl; simp at sl; omega) (by omega) ?_
 have hd : s.heap.get? s.heap.objs.size = none := get_size _
 have kk : Keep s.heap (s.heap.push { cls := .type "dict", data := .dict #[] }) := Keep.push _ _
 have x0 : Res G env.locals m H s H { s with heap := s.heap.push { cls := .type "dict", data := .dict #[] } } := Res.keep (tk := s.toks) c.st c.fr.fr kk
 refine wpAny_mono (hs (pos := ex.pos) (c.next x0) hc.1 h3 h) (fun kvs s' z => ?_) fun _ _ z => z
 obtain ⟨vs, H', cs, r, x, ⟨q1, q2, q3⟩, ca, le⟩ := z
 have hL : s.heap.objs.size ≠ env.locals := fun z => by
  obtain ⟨oL, eL⟩ := Fr.live c.fr.fr
  rw [← z, hd] at eL; cases eL
 have hHd : H s.heap.objs.size = none := c.st.dead hd
 have keepd : ∀ o, (s.heap.push { cls := .type "dict", data := .dict #[] }).get? s.heap.objs.size = some o → s'.heap.get? s.heap.objs.size = some o := fun o e => x.ev.keep _ _ e hL hHd
 have hHd' : H' s.heap.objs.size = none := by
  cases z : H' s.heap.objs.size with
  | none => rfl
  | some O =>
   rcases x.ev.dom _ (by rw [z]; simp) with y | y
   ·exact absurd hHd y
   ·rw [Heap.get?_push_size _ rfl] at y; cases y
 refine ⟨_, ca, ?_, fun h' hD hS => ?_⟩
 ·obtain ⟨o, es', ep, e, rest⟩ := Heap.DictOf.new (knd := strKind G.prog G.w) s.heap
  exact ⟨o, es', ep, keepd _ e, rest⟩
 ·rw [merged_nil_of_nodup _ (by rw [zip_keys le]; exact keys_nodup q2)] at hD
  have ext := hS.extBut
  -- the state after: nothing but the new dict differs from s'
  have kx' : ∀ b o, b ≠ s.heap.objs.size → s'.heap.get? b = some o → h'.get? b = some o := fun b o ne e => ext b o ne e
  have x1 := x0.trans x
  have nT : ∀ o, s'.heap.get? s.heap.objs.size = some o → ¬ IsT o := fun o e hT => by
   rw [keepd _ (Heap.get?_push_size _ rfl)] at e; cases e
   obtain ⟨_, _, _, z⟩ := hT; cases z
  have tk : TupKeep s'.heap h' := fun b o e hT => kx' b o (fun z => by subst z; exact nT o e hT) e
  have F' : Fr G.h₀ env.locals h' m := by
   obtain ⟨oL, es', ep, e, rest⟩ := x1.fr.ns
   exact ⟨⟨oL, es', ep, kx' _ _ hL.symm e, rest⟩, fun b o e => kx' b o (fun z => by subst z; have := c.st.keep _ _ e; rw [hd] at this; cases this) (x1.st.keep b o e), x1.fr.above⟩
  have S1 : St G H' h' := ⟨F'.keep, fun a O e => (x1.st.obj a O e).keep G tk fun o e' => kx' a o (fun z => (no_ns z.symm hHd' e)) e', x1.st.own⟩
  have oD : OR G h' s.heap.objs.size (.sdict (mkSd ks vs)) := ⟨_, hD.mapOf, fun x v hv => sd_rel q2 (r.keep tk) q1 x v hv⟩
  have S2 : St G (H'.set s.heap.objs.size (.sdict (mkSd ks vs))) h' := by
   refine ⟨F'.keep, fun b o e => ?_, fun b o e hr => ?_⟩
   ·by_cases hb : b = s.heap.objs.size
    ·subst hb; rw [set_eq] at e; cases e; exact oD
    ·rw [set_ne hb] at e; exact S1.obj b o e
   ·by_cases hb : b = s.heap.objs.size
    ·subst hb
     cases z : G.h₀.get? s.heap.objs.size with
     | none => rfl
     | some o' => have := c.st.keep _ o' z; rw [hd] at this; cases this
    ·rw [set_ne hb] at e; exact S1.own b o e hr
  have ev : Ev (· = env.locals) H s.heap (H'.set s.heap.objs.size (.sdict (mkSd ks vs))) h' := by
   refine ⟨fun b o e np hn => kx' b o (fun z => (no_ns z.symm hd e)) (x1.ev.keep b o e np hn), fun b y => ?_, fun b o e => ?_⟩
   ·by_cases hb : b = s.heap.objs.size
    ·subst hb; exact .inr hd
    ·rw [set_ne hb] at y; exact x1.ev.dom b y
   ·obtain ⟨o', e'⟩ := x1.ev.alive b o e
    exact ⟨o', kx' b o' (fun z => (no_ns z.symm hd e)) e'⟩
  obtain ⟨hh, tt, se⟩ := x1.same
  exact ⟨.ref _, _, .ref _, ⟨⟨h', _, by rw [se]⟩, S2, F', ev⟩, q3 _ hHd'⟩
end
end RK
end
section
open PySem PySem.W PyProof.Rows
namespace RK
noncomputable def itOk (n : String) : Bool := n == "list_iterator" || n == "tuple_iterator" || n == "range_iterator"
inductive Alive (I : Addr) (h : Heap) : Prop
 | mk {o : Obj} {n : String} {vs : Array Value} (ho : h.get? I = some o) (hc : o.cls = .type n) (hd : o.data = .fields vs) (hk : itOk n = true) : Alive I h
structure Iter (G : Sg) (A : Around) (I : Addr) (keep : AH → Prop) (It : List V → Heap → Prop) : Prop where
 nil : ∀ {H : AH} {s : Shared} {Q : Option Value → Shared → Prop} {E : Value → Shared → Prop}, It [] s.heap → St G H s.heap → keep H → (∀ h', Heap.ExtBut I s.heap h' → Q none { s with heap := h' }) → wpAny (model G.prog G.w) A (pyNext (.ref I)) Q E s
 cons : ∀ {v : V} {us : List V} {H : AH} {s : Shared} {Q : Option Value → Shared → Prop} {E : Value → Shared → Prop}, It (v :: us) s.heap → St G H s.heap → keep H →
  (∀ c h' tk, VR s.heap v c → Heap.SameBut I s.heap h' → It us h' → Q (some c) { s with heap := h', toks := tk }) → wpAny (model G.prog G.w) A (pyNext (.ref I)) Q E s
 keeps : ∀ {us : List V} {h h' : Heap}, It us h → (∀ o, h.get? I = some o → h'.get? I = some o) → TupKeep h h' → It us h'
 alive : ∀ {us : List V} {h : Heap}, It us h → Alive I h
section
variable {G : Sg} {A : Around}
theorem drop_cons {α : Type} {vs us : List α} {i : Nat} {v : α} (e : v :: us = vs.drop i) : vs[i]? = some v ∧ us = vs.drop (i + 1) := by
 have hlt : i < vs.length := by
  by_cases q : i < vs.length
  ·exact q
  ·rw [List.drop_of_length_le (Nat.le_of_not_lt q)] at e; cases e
 rw [List.drop_eq_getElem_cons hlt] at e
 cases e
 exact ⟨List.getElem?_eq_getElem hlt, rfl⟩
theorem drop_nil {α : Type} {vs : List α} {i : Nat} (e : [] = vs.drop i) : vs[i]? = none := by
 rw [List.getElem?_eq_none_iff]
 exact List.drop_eq_nil_iff.mp e.symm
theorem iter_list (hh : A.handled = none) {I l : Addr} {vs : List V} : Iter G A I (fun H => H l = some (.list vs)) (fun us h => ∃ i, h.IsListIter I l i ∧ us = vs.drop i) where
 nil := fun {H s Q E} x S k q => by
  obtain ⟨i, hi, e⟩ := x
  obtain ⟨cs, n, hl, r⟩ := S.obj _ _ k
  refine wpAny_pyNext_list_end hh hi hl.isList (i := i) ?_ q
  have := drop_nil e
  have hlen := r.length
  rw [List.getElem?_eq_none_iff] at this
  rw [Array.getElem?_eq_none_iff]
  simp only [Array.length_toList] at hlen
  omega
 cons := fun {v us H s Q E} x S k q => by
  obtain ⟨i, hi, e⟩ := x
  obtain ⟨cs, n, hl, r⟩ := S.obj _ _ k
  obtain ⟨e1, e2⟩ := drop_cons e
  obtain ⟨c, e3, e4⟩ := r.get e1
  exact wpAny_pyNext_list_item hi hl.isList (arr_get e3) fun h' hi' hs => q c h' s.toks e4 hs ⟨i + 1, hi', e2⟩
 keeps := fun x k _ => let ⟨i, ⟨o, ho, r⟩, e⟩ := x; ⟨i, ⟨o, k o ho, r⟩, e⟩
 alive := fun x => by
  obtain ⟨i, ⟨o, ho, hc, hd⟩, e⟩ := x
  exact ⟨ho, hc, hd, by decide⟩
theorem iter_tuple (hh : A.handled = none) {I t : Addr} {vs : List V} : Iter G A I (fun _ => True) (fun us h => ∃ i, h.IsTupleIter I t i ∧ us = vs.drop i ∧ VR h (.tup vs) (.ref t)) where
 nil := fun {H s Q E} x S k q => by
  obtain ⟨i, hi, e, r⟩ := x
  cases r with
  | tup ho hc hd r =>
   refine wpAny_pyNext_tuple_end hh hi (isTup_of ho hc hd) (i := i) ?_ q
   have := drop_nil e
   have hlen := r.length
   rw [List.getElem?_eq_none_iff] at this
   rw [Array.getElem?_eq_none_iff]
   simp only [Array.length_toList] at hlen
   omega
 cons := fun {v us H s Q E} x S k q => by
  obtain ⟨i, hi, e, r⟩ := x
  obtain ⟨e1, e2⟩ := drop_cons e
  have r0 := r
  cases r with
  | tup ho hc hd r =>
   obtain ⟨c, e3, e4⟩ := r.get e1
   refine wpAny_pyNext_tuple_item hi (isTup_of ho hc hd) (arr_get e3) fun h' hi' hs => q c h' s.toks e4 hs ⟨i + 1, hi', e2, r0.keep fun b o eb hT => ?_⟩
   refine (hs.2 b ?_).trans eb
   rintro rfl
   obtain ⟨o', ho', hc', _⟩ := hi
   rw [ho'] at eb; cases eb
   have z := hT.1
   rw [hc'] at z; exact absurd z (by decide)
 keeps := fun x k tk => let ⟨i, ⟨o, ho, r⟩, e, r'⟩ := x; ⟨i, ⟨o, k o ho, r⟩, e, r'.keep tk⟩
 alive := fun x => by
  obtain ⟨i, ⟨o, ho, hc, hd⟩, e⟩ := x
  exact ⟨ho, hc, hd, by decide⟩
noncomputable def spanV (x step : Int) (n : Nat) : List V := (List.range n).map fun (j : Nat) => V.int (x + (j : Int) * step)
theorem spanV_cons (x step : Int) (n : Nat) : spanV x step (n + 1) = .int x :: spanV (x + step) step n := by
 unfold spanV
 rw [List.range_succ_eq_map, List.map_cons, List.map_map]
 congr 1
 ·simp
 ·refine List.map_congr_left fun j _ => ?_
  simp only [Function.comp]
  congr 1
  have : ((j.succ : Nat) : Int) = (j : Int) + 1 := by omega
  rw [this, Int.add_mul, Int.one_mul]; omega
theorem iter_range (hh : A.handled = none) {I : Addr} : Iter G A I (fun _ => True) (fun us h => ∃ (x step : Int) (n : Nat), IsRangeIter h I x n step ∧ us = spanV x step n) where
 nil := fun {H s Q E} x S k q => by
  obtain ⟨x, step, n, hi, e⟩ := x
  have : n = 0 := by
   cases n with
   | zero => rfl
   | succ n => rw [spanV_cons] at e; cases e
  subst this
  exact wpAny_pyNext_range_end hh hi (by decide) q
 cons := fun {v us H s Q E} x S k q => by
  obtain ⟨x, step, n, hi, e⟩ := x
  cases n with
  | zero => cases e
  | succ n =>
   rw [spanV_cons] at e
   cases e
   refine wpAny_pyNext_range_item hi (by omega) fun h' hi' hs => q _ h' _ (.int _ _) hs ⟨x + step, step, n, ?_, rfl⟩
   rw [show (n : Int) = ((n + 1 : Nat) : Int) - 1 from by omega]
   exact hi'
 keeps := fun x k tk => let ⟨x, step, n, hi, e⟩ := x; ⟨x, step, n, k _ hi, e⟩
 alive := fun x => by
  obtain ⟨x, step, n, hi, e⟩ := x
  exact ⟨hi, rfl, rfl, by decide⟩
noncomputable def FP (env : PySem.Env) (b : Addr) : Prop := b = env.locals ∨ ∃ n, env.cells.lookup n = some b
structure SR (G : Sg) (env : PySem.Env) (H : AH) (s : Shared) (H' : AH) (s' : Shared) : Prop where
 same : ∃ h tk, s' = { s with heap := h, toks := tk }
 st : St G H' s'.heap
 ev : Ev (FP env) H s.heap H' s'.heap
variable {env : PySem.Env} {m : Str → Option Value} {H : AH} {s : Shared} {ρ : Lo}
theorem SR.refl (S : St G H s.heap) : SR G env H s H s := ⟨⟨_, _, rfl⟩, S, .refl⟩
theorem SR.trans {H' H'' : AH} {s' s'' : Shared} (x : SR G env H s H' s') (y : SR G env H' s' H'' s'') : SR G env H s H'' s'' := by
 obtain ⟨h, tk, e⟩ := x.same
 obtain ⟨h', tk', e'⟩ := y.same
 exact ⟨⟨h', tk', by rw [e', e]⟩, y.st, x.ev.trans y.ev⟩
theorem Res.sr {H' : AH} {s' : Shared} (x : Res G env.locals m H s H' s') : SR G env H s H' s' := ⟨x.same, x.st, x.ev.weaken fun _ _ _ e => .inl e⟩
theorem FP.noT (F : Frm G env m H s.heap ρ) : ∀ b o, FP env b → s.heap.get? b = some o → ¬ IsT o := fun b o p e hT => by
 rcases p with rfl | ⟨n, hn⟩
 ·exact ns_noT F.fr.ns _ o rfl e hT
 ·obtain ⟨_, _, v, hv⟩ := F.cu n b hn
  exact cell_noT hv o e hT
theorem SR.tup {H' : AH} {s' : Shared} (x : SR G env H s H' s') (S : St G H s.heap) (F : Frm G env m H s.heap ρ) : TupKeep s.heap s'.heap := x.ev.tup S (FP.noT F)
theorem ev_un {P : Addr → Prop} {H H' : AH} {h h' : Heap} (x : Ev P H h H' h') {b : Addr} {o : Obj} (e : h.get? b = some o) (hn : H b = none) : H' b = none := by
 cases z : H' b with
 | none => rfl
 | some O =>
  rcases x.dom b (by rw [z]; simp) with q | q
  ·exact absurd hn q
  ·rw [e] at q; cases q
theorem Frm.weaken {h : Heap} {ρ' : Lo} (F : Frm G env m H h ρ) (k : ∀ x v, ρ' x = some v → ρ x = some v) : Frm G env m H h ρ' :=
 { F with lo := fun x v hv => F.lo x v (k x v hv) }
theorem notOther (F : Frm G env m H s.heap ρ) : (env.scope.kind == .class || (env.scope.kind == .module && env.locals != env.globals)) = false := by rw [F.kind]; rfl
theorem store_ok (F : Frm G env m H s.heap ρ) (S : St G H s.heap) {x : Nm} {v : V} {c : Value} (hk : env.kindOf (nmS x) = some .local ∨ env.kindOf (nmS x) = some .cell) (r : VR s.heap v c) {Q : Unit → Shared → Prop} {E : Value → Shared → Prop}
  (q : ∀ s' m', Frm G env m' H s'.heap (upd ρ x v) → SR G env H s H s' → Q () s') : wpAny (model G.prog G.w) A (storeName env (nmS x) c) Q E s := by
 rcases hk with hk | hk
 ·refine wpAny_storeName_local hk F.fr.ns (fun h' hn hs => ?_) (notOther F)
  have keepE : ∀ b o, b ≠ env.locals → s.heap.get? b = some o → h'.get? b = some o := fun b o ne e => (hs.2 b ne).trans e
  have tk : TupKeep s.heap h' := fun b o e hT => keepE b o (fun z => ns_noT F.fr.ns b o z e hT) e
  have F' := F.fr.set hn hs
  have S' : St G H h' := ⟨F'.keep, fun a O e => (S.obj a O e).keep G tk fun o => keepE a o (fun z => (no_ns z.symm F.un e)), S.own⟩
  refine q _ _ ⟨F', fun y w hw => ?_, F.un, fun n ca hc => ?_, F.ck, F.kind, F.glob, F.blt, F.cj, F.co⟩ ⟨⟨_, _, rfl⟩, S', fun b o e np _ => keepE b o (fun z => np (.inl z)) e, fun _ q => .inl q, fun b o e => ?_⟩
  ·unfold upd at hw
   by_cases z : y = x
   ·subst z; rw [if_pos rfl] at hw; cases hw
    exact .inl ⟨hk, c, if_pos rfl, r.keep tk⟩
   ·rw [if_neg z] at hw
    rcases F.lo y w hw with ⟨h1, c', h2, h3⟩ | ⟨h1, ca, c', h2, h3, h4⟩ | h1
    ·exact .inl ⟨h1, c', by rw [if_neg (fun e => z (nmS_inj e))]; exact h2, h3.keep tk⟩
    ·exact .inr (.inl ⟨h1, ca, c', h2, h3.sameBut hs (F.cu _ _ h2).2.1, h4.keep tk⟩)
    ·exact .inr (.inr h1)
  ·obtain ⟨h1, h2, w, h3⟩ := F.cu n ca hc
   exact ⟨h1, h2, w, h3.sameBut hs h2⟩
  ·by_cases z : b = env.locals
   ·subst z; exact Fr.live F'
   ·exact ⟨o, keepE b o z e⟩
 ·obtain ⟨ca, hc⟩ := F.ck _ hk
  obtain ⟨u1, u2, w0, u3⟩ := F.cu _ _ hc
  refine wpAny_storeName_cell F.kind hk hc u3 fun h' hv hs => ?_
  have keepE : ∀ b o, b ≠ ca → s.heap.get? b = some o → h'.get? b = some o := fun b o ne e => (hs.2 b ne).trans e
  have tk : TupKeep s.heap h' := fun b o e hT => keepE b o (fun z => by subst z; exact cell_noT u3 o e hT) e
  have F' : Fr G.h₀ env.locals h' m := ⟨F.fr.ns.sameBut hs (Ne.symm u2), fun b o e => keepE b o (fun z => (no_ns z.symm (F.co _ _ hc) e)) (F.fr.keep b o e), F.fr.above⟩
  have S' : St G H h' := ⟨F'.keep, fun a O e => (S.obj a O e).keep G tk fun o => keepE a o (fun z => (no_ns z.symm u1 e)), S.own⟩
  refine q { s with heap := h' } _ ⟨F', fun y w hw => ?_, F.un, fun n ca' hc' => ?_, F.ck, F.kind, F.glob, F.blt, F.cj, F.co⟩ ⟨⟨h', s.toks, rfl⟩, S', fun b o e np _ => keepE b o (fun z => np (.inr ⟨_, z ▸ hc⟩)) e, fun _ q => .inl q, fun b o e => ?_⟩
  ·unfold upd at hw
   by_cases z : y = x
   ·subst z; rw [if_pos rfl] at hw; cases hw
    exact .inr (.inl ⟨hk, ca, c, hc, hv, r.keep tk⟩)
   ·rw [if_neg z] at hw
    rcases F.lo y w hw with ⟨h1, c', h2, h3⟩ | ⟨h1, ca', c', h2, h3, h4⟩ | h1
    ·exact .inl ⟨h1, c', h2, h3.keep tk⟩
    ·exact .inr (.inl ⟨h1, ca', c', h2, h3.sameBut hs (fun e => by subst e; exact z (nmS_inj (F.cj _ _ _ h2 hc))), h4.keep tk⟩)
    ·exact .inr (.inr h1)
  ·obtain ⟨h1, h2, w, h3⟩ := F.cu n ca' hc'
   by_cases z : ca' = ca
   ·subst z; exact ⟨h1, h2, _, hv⟩
   ·exact ⟨h1, h2, w, h3.sameBut hs z⟩
  ·by_cases z : b = ca
   ·subst z; obtain ⟨o', ho', _⟩ := hv; exact ⟨o', ho'⟩
   ·exact ⟨o, keepE b o z e⟩
end
end RK
end
section
open PySem PySem.W PyProof.Rows
namespace RK
noncomputable def E.isComp (e : E) : Bool := Nat.beq e.kd 1
noncomputable def E.isC1 : E → Bool
 | .comp .. => true
 | _ => false
noncomputable def E.isTup (e : E) : Bool := Nat.beq e.kd 2
noncomputable def prN (x : Nm) (ex : Expr) : Expr := .Name (nmS x) ex.pos
noncomputable def prNs : List Nm → List Expr → List Expr
 | [], _ => []
 | x :: xs, es => prN x (hdE es) :: prNs xs es.tail
noncomputable def prT : T → Expr → Expr
 | .nm x, ex => prN x ex
 | .tup xs, ex => .Tuple (prNs xs (xl ex)) (xk ex) ex.pos
noncomputable def okT (sc : Scope) : T → Bool
 | .nm x => lcl sc x
 | .tup xs => xs.all (lcl sc)
noncomputable def swapOk (sc : Scope) (tg v : Expr) : Bool := match tg with
 | .Name id p => match v with
  | .ListComp _ _ s _ => sc.kind == .function && sc.names.lookup id == some .local && (p.line == v.pos.line) && !(s.names.any fun (n, k) => n == id && (k == .local || k == .cell))
  | _ => false
 | _ => false
noncomputable def BOp.augOk : BOp → Bool
 | .add => true | .sub => true | .mul => true | _ => false
structure St4 where
 t : Expr := default
 v : Expr := default
 a : List Stmt := []
 b : List Stmt := []
noncomputable def sp : Stmt → St4
 | .Assign ts v _ => { t := hdE ts, v := v } | .AugAssign t _ v _ => { t := t, v := v } | .Expr v _ => { v := v } | .If v a b _ => { v := v, a := a, b := b } | .While v a _ _ => { v := v, a := a }
 | .For t v a _ _ => { t := t, v := v, a := a } | .Return v _ => { v := v.getD default } | _ => {}
noncomputable def hdS (xs : List Stmt) : Stmt := xs.headD default
mutual
noncomputable def prS : S → Stmt → Stmt
 | .asg t e, st => .Assign [prT t (sp st).t] (prE e (sp st).v) st.pos
 | .sattr o x e, st => .Assign [.Attribute (prE o (x1 (sp st).t)) (nmS x) (sp st).t.pos] (prE e (sp st).v) st.pos
 | .sidx o i e, st => .Assign [.Subscript (prE o (x1 (sp st).t)) (prE i (x2 (sp st).t)) (sp st).t.pos] (prE e (sp st).v) st.pos
 | .aug x op e, st => .AugAssign (.Name (nmS x) (sp st).t.pos) op.op (prE e (sp st).v) st.pos
 | .ex e, st => .Expr (prE e (sp st).v) st.pos
 | .ite c a b, st => .If (prE c (sp st).v) (prSs a (sp st).a) (prSs b (sp st).b) st.pos
 | .while c b, st => .While (prE c (sp st).v) (prSs b (sp st).a) [] st.pos
 | .for t e b, st => .For (prT t (sp st).t) (prE e (sp st).v) (prSs b (sp st).a) [] st.pos
 | .forR x es b, st => .For (prN x (sp st).t) (.Call (.Name (Str.ofString "range") (x1 (sp st).v).pos) (prEs es (xl (sp st).v)) [] (sp st).v.pos) (prSs b (sp st).a) [] st.pos
 | .ret e, st => .Return (some (prE e (sp st).v)) st.pos
 | .ret0, st => .Return none st.pos
 | .cont, st => .Continue st.pos
 | .brk, st => .Break st.pos
 | .bad, st => st
noncomputable def prSs : Ss → List Stmt → List Stmt
 | .nil, _ => []
 | .cons s ss, xs => prS s (hdS xs) :: prSs ss xs.tail
end
mutual
noncomputable def okS : S → Scope → Stmt → Bool
 | .asg t e, sc, st => okT sc t && ((if e.isComp then (e.isC1 && swapOk sc (prT t (sp st).t) (prE e (sp st).v)) else !e.isTup) && okE e sc (sp st).v)
 | .sattr o _ e, sc, st => okE o sc (x1 (sp st).t) && (okE e sc (sp st).v && !e.isComp)
 | .sidx o i e, sc, st => okE o sc (x1 (sp st).t) && (okE i sc (x2 (sp st).t) && (okE e sc (sp st).v && !e.isComp))
 | .aug x op e, sc, st => lcl sc x && (op.augOk && okE e sc (sp st).v)
 | .ex e, sc, st => okE e sc (sp st).v && !e.isComp
 | .ite c a b, sc, st => okE c sc (sp st).v && (okSs a sc (sp st).a && okSs b sc (sp st).b)
 | .while c b, sc, st => okE c sc (sp st).v && okSs b sc (sp st).a
 | .for t e b, sc, st => okT sc t && (okE e sc (sp st).v && okSs b sc (sp st).a)
 | .forR x es b, sc, st => lcl sc x && (globN sc (Str.ofString "range") (Str.ofString "range") && (okEs es sc (xl (sp st).v) && okSs b sc (sp st).a))
 | .ret e, sc, st => okE e sc (sp st).v
 | .ret0, _, _ => true
 | .cont, _, _ => true
 | .brk, _, _ => true
 | .bad, _, _ => true
noncomputable def okSs : Ss → Scope → List Stmt → Bool
 | .nil, _, _ => true
 | .cons s ss, sc, xs => okS s sc (hdS xs) && okSs ss sc xs.tail
end
theorem kd_ne {a b : Nat} (h : Nat.beq a b = false) : a ≠ b := Nat.ne_of_beq_eq_false h
theorem pr_noSwap {e : E} {x : Expr} (hc : e.isComp = false) (t : Option Expr) (l : Nat) (env : PySem.Env) : swapsWith (prE e x) t l env = pure false := by cases e <;> first | rfl | cases hc
theorem pr_noFold {e : E} {x : Expr} (env : PySem.Env) (v : Value) : foldedSetIterable (prE e x) env v = pure v := by cases e <;> rfl
theorem pr_noSt {e : E} {x : Expr} (hc : e.isTup = false) {ts : List Expr} {k : Nat} {p : Pos} {env : PySem.Env} : swappedStores [.Tuple ts k p] (prE e x) env = pure none := by cases e <;> first | rfl | cases hc
inductive OutR (h : Heap) : Out → Flow → Prop
 | nx : OutR h .nx .next
 | br : OutR h .br .brk
 | ct : OutR h .ct .cont
 | rt {v c} : VR h v c → OutR h (.rt v) (.ret c)
noncomputable def XP (G : Sg) (env : PySem.Env) (H : AH) (s : Shared) (Q : PO) : Flow → Shared → Prop := fun f s' => ∃ o ρ' H' m', OutR s'.heap o f ∧ SR G env H s H' s' ∧ Frm G env m' H' s'.heap ρ' ∧ Q o ρ' H'
noncomputable def SOk (G : Sg) (k : Nat) (Φ : Phi) (st : S) : Prop := ∀ {A : Around} {env : PySem.Env} {ex : Stmt} {m : Str → Option Value} {H : AH} {s : Shared} {ρ : Lo} {Q : PO}, Cx G k A env m H s ρ → okS st env.scope ex = true → exA Φ st ρ H Q →
 wpAny (model G.prog G.w) A (exec (prS st ex) env) (XP G env H s Q) noE s
noncomputable def SsOk (G : Sg) (k : Nat) (Φ : Phi) (st : Ss) : Prop := ∀ {A : Around} {env : PySem.Env} {xs : List Stmt} {m : Str → Option Value} {H : AH} {s : Shared} {ρ : Lo} {Q : PO}, Cx G k A env m H s ρ → okSs st env.scope xs = true → exSs Φ st ρ H Q →
 wpAny (model G.prog G.w) A (execs (prSs st xs) env) (XP G env H s Q) noE s
section
variable {G : Sg} {A : Around} {env : PySem.Env} {m : Str → Option Value} {H : AH} {s : Shared} {Q : PO} {ρ : Lo} {k : Nat} {Φ : Phi}
theorem xp_mono {H' : AH} {s' s₀ : Shared} {t : Sem Flow} (x : SR G env H s H' s') (h : wpAny (model G.prog G.w) A t (XP G env H' s' Q) noE s₀) : wpAny (model G.prog G.w) A t (XP G env H s Q) noE s₀ :=
 wpAny_mono h (fun _ _ q => by obtain ⟨o, ρ', H'', m', a, b, c, d⟩ := q; exact ⟨o, ρ', H'', m', a, x.trans b, c, d⟩) fun _ _ z => z
theorem Cx.of {m' : Str → Option Value} {H' : AH} {s' : Shared} {ρ' : Lo} (c : Cx G k A env m H s ρ) (x : SR G env H s H' s') (F : Frm G env m' H' s'.heap ρ') : Cx G k A env m' H' s' ρ' := ⟨c.room, x.st, F⟩
theorem xp_now {o : Out} {f : Flow} (c : Cx G k A env m H s ρ) (r : OutR s.heap o f) (q : Q o ρ H) : XP G env H s Q f s := ⟨o, ρ, H, m, r, .refl c.st, c.fr, q⟩
theorem assign_names {E : Value → Shared → Prop} {Qu : Unit → Shared → Prop} {xs : List Nm} {es : List Expr} {vs : List V} {cs : List Value} {ρ : Lo} {m : Str → Option Value} {s : Shared} (S : St G H s.heap) (F : Frm G env m H s.heap ρ) (hc : xs.all (lcl env.scope) = true) (r : VRs s.heap vs cs) (hl : vs.length = xs.length)
  (q : ∀ s' m', Frm G env m' H s'.heap (updL ρ xs vs) → SR G env H s H s' → Qu () s') : wpAny (model G.prog G.w) A (assignInOrder ((assignEach (prNs xs es) env).map (·.2)) cs) Qu E s := by
 induction xs generalizing es vs cs ρ m s with
 | nil =>
  cases vs with
  | cons _ _ => cases hl
  | nil => cases r.nil_; exact wpAny_pure (q s m F (.refl S))
 | cons x xs ih =>
  cases vs with
  | nil => cases hl
  | cons v vs =>
   obtain ⟨c, ds, rfl, a, r⟩ := r.cons_
   refine wpAny_bind (wpAny_holding (wpAny_assign_Name (store_ok F S (lcl_of (and2 hc).1) a fun s' m' F' x' => ?_)))
   exact ih x'.st F' (and2 hc).2 (r.keep (x'.tup S F)) (Nat.succ.inj hl) fun s'' m'' F'' x'' => q s'' m'' F'' (x'.trans x'')
theorem each_len {env : PySem.Env} {xs : List Nm} {es : List Expr} : (assignEach (prNs xs es) env).length = xs.length ∧ (assignEach (prNs xs es) env).findIdx? (·.1) = none := by
 induction xs generalizing es with
 | nil => exact ⟨rfl, rfl⟩
 | cons x xs ih =>
  have h := ih (es := es.tail)
  refine ⟨congrArg Nat.succ h.1, ?_⟩
  show ((false, _) :: assignEach (prNs xs es.tail) env).findIdx? (·.1) = none
  rw [List.findIdx?_cons]
  simp [h.2]
theorem assign_ok {t : T} {ex : Expr} {v : V} {c : Value} {ρ' : Lo} {Qu : Unit → Shared → Prop} {E : Value → Shared → Prop} (hh : A.handled = none) (S : St G H s.heap) (F : Frm G env m H s.heap ρ) (hc : okT env.scope t = true) (r : VR s.heap v c) (hb : bindT t v ρ = some ρ')
  (q : ∀ s' m', Frm G env m' H s'.heap ρ' → SR G env H s H s' → Qu () s') : wpAny (model G.prog G.w) A (assign (prT t ex) env c) Qu E s := by
 cases t with
 | nm x =>
  cases hb
  exact wpAny_assign_Name (store_ok F S (lcl_of hc) r q)
 | tup xs =>
  cases r with
  | tup ho hcl hd rs =>
   unfold bindT at hb
   dsimp only at hb
   by_cases hl : List.length ‹List V› = xs.length
   ·rw [if_pos hl] at hb
    cases hb
    have hn := each_len (env := env) (xs := xs) (es := xl ex)
    refine wpAny_assign_Tuple hh (isTup_of ho hcl hd) (by rw [hn.1, ← hl]; have := rs.length; simpa using this.symm) hn.2 fun h' hx => ?_
    have kp : Keep s.heap h' := fun b o e => hx b o (Nat.ne_of_lt (Heap.lt_size e)) e
    have R0 : Res G env.locals m H s H { s with heap := h', toks := s.toks } := Res.keep S F.fr kp
    exact assign_names (s := { s with heap := h' }) (m := m) R0.st (F.keep S R0) hc (rs.keep kp.tup) hl fun s' m' F' x' => q s' m' F' (R0.sr.trans x')
   ·rw [if_neg hl] at hb; cases hb
  | _ => cases hb
theorem s_ret0 : SOk G k Φ .ret0 := fun {A env ex m H s ρ Q} c hc h => by
 exact wpAny_Return_none (xp_now c (.rt .none) h)
theorem s_cont : SOk G k Φ .cont := fun {A env ex m H s ρ Q} c hc h => by
 exact wpAny_Continue (xp_now c .ct h)
theorem s_brk : SOk G k Φ .brk := fun {A env ex m H s ρ Q} c hc h => by
 exact wpAny_Break (xp_now c .br h)
theorem s_bad : SOk G k Φ .bad := fun {A env ex m H s ρ Q} c hc h => h.elim
theorem s_ret {e : E} (he : EvOk G k Φ e) : SOk G k Φ (.ret e) := fun {A env ex m H s ρ Q} c hc h => by
 refine wpAny_Return_some (vp_el (he c hc h) fun v H' cv s' r x q => ?_)
 exact ⟨_, ρ, H', m, .rt r, x.sr, c.fr.keep c.st x, q⟩
theorem s_ex {e : E} (he : EvOk G k Φ e) : SOk G k Φ (.ex e) := fun {A env ex m H s ρ Q} c hc h => by
 have hc := and2 hc
 refine wpAny_Expr_any (vp_el (he c hc.1 h) fun v H' cv s' r x q => ?_) (by unfold interactive; rw [c.fr.kind]; rfl) (pr_noSwap (not1 hc.2) _ _ _)
 exact ⟨_, ρ, H', m, .nx, x.sr, c.fr.keep c.st x, q⟩
theorem s_sattr (T : TopOk G) {o e : E} {x : Nm} (ho : EvOk G k Φ o) (he : EvOk G k Φ e) : SOk G k Φ (.sattr o x e) := fun {A env ex m H s ρ Q} c hc h => by
 have hc := and3 hc
 refine plainObj_wpAny_Assign_Attribute (vp_el (he c hc.2.1 h) fun v H' cv s' r x1 q => ?_) (pr_noSwap (not1 hc.2.2) _ _ _)
 refine vp_el (ho (c.next x1) hc.1 q) fun w H'' cw s'' r' x2 q' => ?_
 have c2 := (c.next x1).next x2
 refine wpAny_mono (setA_ok T.cls T.kin c2.st c2.fr.fr c2.fr.un r' ((c.next x1).keep x2 r) q') (fun _ s3 q3 => ?_) fun _ _ z => z
 obtain ⟨H3, x3, q3⟩ := q3
 exact ⟨.nx, ρ, H3, m, .nx, (x1.sr.trans x2.sr).trans x3.sr, c2.fr.keep c2.st x3, q3⟩
theorem s_sidx {o i e : E} (ho : EvOk G k Φ o) (hi : EvOk G k Φ i) (he : EvOk G k Φ e) : SOk G k Φ (.sidx o i e) := fun {A env ex m H s ρ Q} c hc h => by
 have hc := and4 hc
 refine wpAny_Assign_Subscript (vp_el (he c hc.2.2.1 h) fun v H' cv s' r x1 q => ?_) (pr_noSwap (not1 hc.2.2.2) _ _ _)
 refine vp_el (ho (c.next x1) hc.1 q) fun w H'' cw s'' r' x2 q' => ?_
 have c2 := (c.next x1).next x2
 refine vp_el (hi c2 hc.2.1 q') fun u H3 cu s3 r3 x3 q3 => ?_
 have c3 := c2.next x3
 refine wpAny_mono (sidxA_ok c3.st c3.fr.fr c3.fr.un (c2.keep x3 r') r3 (c2.keep x3 ((c.next x1).keep x2 r)) q3) (fun _ s4 q4 => ?_) fun _ _ z => z
 obtain ⟨H4, x4, q4⟩ := q4
 exact ⟨.nx, ρ, H4, m, .nx, ((x1.sr.trans x2.sr).trans x3.sr).trans x4.sr, c3.fr.keep c3.st x4, q4⟩
theorem load_ok (F : Frm G env m H s.heap ρ) {x : Nm} {v : V} {E : Value → Shared → Prop} {P : Value → Shared → Prop} (hv : ρ x = some v) (hk : env.kindOf (nmS x) = some .local ∨ env.kindOf (nmS x) = some .cell) (h : ∀ c, VR s.heap v c → P c s) :
  wpAny (model G.prog G.w) A (loadName env (nmS x)) P E s := by
 rcases F.lo x v hv with ⟨h1, c, h2, h3⟩ | ⟨h1, ca, c, h2, h3, h4⟩ | hn
 ·exact wpAny_loadName_local F.kind h1 F.fr.ns h2 (h c h3)
 ·exact wpAny_loadName_cell F.kind h1 h2 h3 (h c h4)
 ·rcases hk with hk | hk
  ·exact absurd hk hn.1
  ·exact absurd hk hn.2
set_option tactic.hygienic true in
theorem s_aug {x : Nm} {op : BOp} {e : E} (he : EvOk G k Φ e) : SOk G k Φ (.aug x op e) := fun {A env ex m H s ρ Q} c hc h => by
 have hc := and3 hc
 have h1 := lcl_of hc.1
 have h3 := hc.2.1
 obtain ⟨a, ha, h⟩ := aug_inv (o := ρ x) (P := fun a => evA Φ e ρ H fun v H => match v with | .int b => binI op a b H (fun w H => Q .nx (upd ρ x w) H) | _ => False) h
 refine wpAny_AugAssign_Name (load_ok c.fr ha h1 fun ca ra => ?_)
 cases ra
 refine vp_el (he c hc.2.2 h) fun v H' cv s' r x1 q => ?_
 obtain ⟨b, rfl, q1⟩ := int_inv q
 clear q
 cases r
 rename_i u
 have c1 := c.next x1
 have fin : ∀ i t tk, Q .nx (upd ρ x (.int i)) H' → wpAny (model G.prog G.w) A (storeName env (nmS x) (.int i t)) (fun _ => XP G env H s Q .next) noE { s' with toks := tk } := fun i t tk q => by
  have R0 : Res G env.locals m H' s' H' { s' with heap := s'.heap, toks := tk } := Res.keep c1.st c1.fr.fr (Keep.refl _)
  refine store_ok (s := { s' with toks := tk }) (c1.next R0).fr c1.st h1 (.int i t) fun s2 m2 F2 x2 => ?_
  exact ⟨.nx, _, H', m2, .nx, (x1.sr.trans R0.sr).trans x2, F2, q⟩
 cases op <;> first | cases h3 | skip
 ·exact AutoIntOps.iadd_0 (fin _ _ _ q1)
 ·exact AutoIntOps.isub_0 (fin _ _ _ q1)
 ·exact AutoIntOps.imul_0 (fin _ _ _ q1.2.2) (mulOk q1.1)
theorem s_asg {t : T} {e : E} (he : EvOk G k Φ e) (nc : e.isComp = false) : SOk G k Φ (.asg t e) := fun {A env ex m H s ρ Q} c hc h => by
 have hc := and3 hc
 have h2 := hc.2.1
 rw [nc] at h2
 have ht : e.isTup = false := not1 h2
 cases t with
 | nm x =>
  refine wpAny_Assign_Name (wpAny_mono (he c hc.2.2 h) (fun cv s' q => ?_) fun _ _ z => z) (pr_noSwap nc _ _ _)
  obtain ⟨v, H', r, x', q⟩ := q
  have c1 := c.next x'
  refine store_ok c1.fr c1.st (lcl_of hc.1) r fun s2 m2 F2 x2 => ?_
  exact ⟨.nx, _, H', m2, .nx, x'.sr.trans x2, F2, q⟩
 | tup xs =>
  refine Assign_Tuple (wpAny_mono (he c hc.2.2 h) (fun cv s' q => ?_) fun _ _ z => z) (pr_noSwap nc (some (.Tuple (prNs xs (xl (sp ex).t)) (xk (sp ex).t) (sp ex).t.pos)) ex.pos.line env) (pr_noSt ht)
  obtain ⟨v, H', r, x, q⟩ := q
  obtain ⟨ρ', hb, q⟩ := optL_inv q
  have c1 := c.next x
  refine assign_ok (t := .tup xs) c.room.1 c1.st c1.fr hc.1 r hb fun s2 m2 F2 x2 => ?_
  exact ⟨.nx, ρ', H', m2, .nx, x.sr.trans x2, F2, q⟩
theorem ss_nil : SsOk G k Φ .nil := fun {A env xs m H s ρ Q} c hc h => by
 exact wpAny_execs_nil (xp_now c .nx h)
theorem ss_cons {st : S} {ss : Ss} (hs : SOk G k Φ st) (hss : SsOk G k Φ ss) : SsOk G k Φ (.cons st ss) := fun {A env xs m H s ρ Q} c hc h => by
 have hc := and2 hc
 refine wpAny_execs_cons (wpAny_mono (hs c hc.1 h) (fun f s' q => ?_) fun _ _ z => z)
 obtain ⟨o, ρ', H', m', r, x', F', q⟩ := q
 cases r with
 | nx => exact xp_mono x' (hss (c.of x' F') hc.2 q)
 | br => exact ⟨_, _, _, _, .br, x', F', q⟩
 | ct => exact ⟨_, _, _, _, .ct, x', F', q⟩
 | rt r => exact ⟨_, _, _, _, .rt r, x', F', q⟩
theorem s_ite {e : E} {a b : Ss} (he : TOk G k Φ e) (ha : SsOk G k Φ a) (hb : SsOk G k Φ b) : SOk G k Φ (.ite e a b) := fun {A env ex m H s ρ Q} c hc h => by
 have hc := and3 hc
 refine wpAny_If (tp_el (he c hc.1 h fun v H q => let ⟨b, e, _⟩ := ite_inv q; ⟨b, e⟩) fun t H' s' x q => ?_)
 cases t with
 | true => exact xp_mono x.sr (ha (c.next x) hc.2.1 q)
 | false => exact xp_mono x.sr (hb (c.next x) hc.2.2 q)
theorem while_turn {M : Type} {prog : Program} {w : World} {A : Around} {R : Result → Shared → Prop} {s : Shared} {test : Expr} {body orelse : List Stmt} {env : PySem.Env}
  (turn : wpAny (model prog w) A (isTrue test env (eval test env)) (fun b s₂ =>
    if b then wpAny (model prog w) A (execs body env) (fun f s₃ => match f with
      | .next | .cont => codeAny (model prog w) A (.whileLoop test body orelse env) R s₃
      | .brk => R (.ok .next) s₃
      | .ret v => R (.ok (.ret v)) s₃) noE s₂
    else wpAny (model prog w) A (execs orelse env) (fun f s₃ => R (.ok f) s₃) noE s₂) noE s) : codeAny (model prog w) A (.whileLoop test body orelse env) R s := by
 refine codeAny_of_tree ?_
 show wpAny _ A ((whileTurn test body orelse env).onRaise (fun x => do noteFrame x env; theTreesLotGoes x)) _ _ s
 refine wpAny_noted ?_
 simp only [whileTurn]
 refine wpAny_bind (wpAny_mono turn (fun b s₂ h₂ => ?_) fun _ _ z => z.elim)
 cases b with
 | false =>
  simp only [Bool.false_eq_true, if_false] at h₂ ⊢
  exact wpAny_bind (wpAny_mono h₂ (fun f s₃ h₃ => wpAny_pure h₃) fun _ _ z => z.elim)
 | true =>
  simp only [if_true] at h₂ ⊢
  refine wpAny_bind (wpAny_mono h₂ (fun f s₃ h₃ => ?_) fun _ _ z => z.elim)
  cases f with
  | next => exact wpAny_pure ⟨rfl, h₃⟩
  | cont => exact wpAny_pure ⟨rfl, h₃⟩
  | brk => exact wpAny_pure h₃
  | ret v => exact wpAny_pure h₃
theorem s_while {e : E} {b : Ss} (he : TOk G k Φ e) (hb : SsOk G k Φ b) : SOk G k Φ (.while e b) := fun {A env ex m H s ρ Q} c hc h => by
 have hc := and2 hc
 refine wpAny_While ?_
 have main := h (fun ρ' H' => ∀ s' m', SR G env H s H' s' → Cx G k A env m' H' s' ρ' → codeAny (model G.prog G.w) A (.whileLoop (prE e (sp ex).v) (prSs b (sp ex).a) [] env) (fun r s' => ∃ f, r = .ok f ∧ XP G env H s Q f s') s') ?_
 ·refine codeAny_mono (main s m (.refl c.st) c) fun r s' q => ?_
  obtain ⟨f, rfl, q⟩ := q
  exact q
 ·intro ρ' H' hcl s' m' xs c'
  refine while_turn (M := Unit) (tp_el (he c' hc.1 hcl ?_) fun t H2 s2 x q => ?_)
  ·exact fun v H q => let ⟨b, e, _⟩ := ite_inv q; ⟨b, e⟩
  ·cases t with
   | false =>
    simp only [Bool.false_eq_true, if_false]
    exact wpAny_execs_nil ⟨.next, rfl, .nx, ρ', H2, m', .nx, xs.trans x.sr, (c'.next x).fr, q⟩
   | true =>
    simp only [if_true]
    refine wpAny_mono (hb (c'.next x) hc.2 q) (fun f s3 q3 => ?_) fun _ _ z => z
    obtain ⟨o, ρ3, H3, m3, r3, x3, F3, q3⟩ := q3
    have x4 := (xs.trans x.sr).trans x3
    cases r3 with
    | nx => exact q3 s3 m3 x4 ((c'.next x).of x3 F3)
    | ct => exact q3 s3 m3 x4 ((c'.next x).of x3 F3)
    | br => exact ⟨.next, rfl, .nx, ρ3, H3, m3, .nx, x4, F3, q3⟩
    | rt r => exact ⟨_, rfl, _, ρ3, H3, m3, .rt r, x4, F3, q3⟩
end
end RK
end
section
open PySem PySem.W PyProof.Rows
namespace RK
structure SRP (G : Sg) (P : Addr → Prop) (H : AH) (s : Shared) (H' : AH) (s' : Shared) : Prop where
 same : ∃ h tk, s' = { s with heap := h, toks := tk }
 st : St G H' s'.heap
 ev : Ev P H s.heap H' s'.heap
section
variable {G : Sg} {A : Around} {env : PySem.Env} {m : Str → Option Value} {H : AH} {s : Shared} {Q : PO} {ρ : Lo} {k : Nat} {Φ : Phi} {P P' : Addr → Prop}
theorem SRP.trans {H' H'' : AH} {s' s'' : Shared} (x : SRP G P H s H' s') (y : SRP G P H' s' H'' s'') : SRP G P H s H'' s'' := by
 obtain ⟨h, tk, e⟩ := x.same
 obtain ⟨h', tk', e'⟩ := y.same
 exact ⟨⟨h', tk', by rw [e', e]⟩, y.st, x.ev.trans y.ev⟩
theorem SRP.weaken {H' : AH} {s' : Shared} (x : SRP G P H s H' s') (k : ∀ b o, s.heap.get? b = some o → P b → P' b) : SRP G P' H s H' s' := ⟨x.same, x.st, x.ev.weaken k⟩
theorem SR.srp {H' : AH} {s' : Shared} (x : SR G env H s H' s') : SRP G (FP env) H s H' s' := ⟨x.same, x.st, x.ev⟩
theorem SRP.sr {H' : AH} {s' : Shared} (x : SRP G (FP env) H s H' s') : SR G env H s H' s' := ⟨x.same, x.st, x.ev⟩
theorem but_one {I : Addr} {h' : Heap} {tk : Tok} (S : St G H s.heap) (hu : H I = none) (h0 : G.h₀.get? I = none) (nT : ∀ o, s.heap.get? I = some o → ¬ IsT o) (kp : ∀ b o, b ≠ I → s.heap.get? b = some o → h'.get? b = some o) (al : ∃ o, h'.get? I = some o) :
  SRP G (fun b => P b ∨ b = I) H s H { s with heap := h', toks := tk } ∧ TupKeep s.heap h' := by
 have tk' : TupKeep s.heap h' := fun b o e hT => kp b o (fun z => by subst z; exact nT o e hT) e
 refine ⟨⟨⟨_, _, rfl⟩, ⟨fun b o e => kp b o (fun z => (no_ns z.symm h0 e)) (S.keep b o e), fun a O e => (S.obj a O e).keep G tk' fun o => kp a o (fun z => (no_ns z.symm hu e)), S.own⟩, fun b o e np _ => kp b o (fun z => np (.inr z)) e, fun _ q => .inl q, fun b o e => ?_⟩, tk'⟩
 by_cases z : b = I
 ·subst z; exact al
 ·exact ⟨o, kp b o z e⟩
theorem frm_but {I : Addr} {h h' : Heap} (F : Frm G env m H h ρ) (nI : ¬ FP env I) (S' : St G H h') (kp : ∀ b o, b ≠ I → h.get? b = some o → h'.get? b = some o) (tk : TupKeep h h') : Frm G env m H h' ρ := by
 have nL : env.locals ≠ I := fun z => nI (.inl z.symm)
 have nC : ∀ n ca, env.cells.lookup n = some ca → ca ≠ I := fun n ca hc z => nI (.inr ⟨n, z ▸ hc⟩)
 refine ⟨⟨?_, S'.keep, F.fr.above⟩, fun y w hw => ?_, F.un, fun n ca hc => ?_, F.ck, F.kind, F.glob, F.blt, F.cj, F.co⟩
 ·obtain ⟨oL, es, ep, e, r⟩ := F.fr.ns; exact ⟨oL, es, ep, kp _ _ nL e, r⟩
 ·rcases F.lo y w hw with ⟨h1, c', h2, h3⟩ | ⟨h1, ca, c', h2, ⟨o, ho, hd⟩, h4⟩ | h1
  ·exact .inl ⟨h1, c', h2, h3.keep tk⟩
  ·exact .inr (.inl ⟨h1, ca, c', h2, ⟨o, kp _ _ (nC _ _ h2) ho, hd⟩, h4.keep tk⟩)
  ·exact .inr (.inr h1)
 ·obtain ⟨h1, h2, w, o, ho, hd⟩ := F.cu n ca hc
  exact ⟨h1, h2, w, o, kp _ _ (nC _ _ hc) ho, hd⟩
theorem Alive.noT {I : Addr} {h : Heap} (a : Alive I h) : ∀ o, h.get? I = some o → ¬ IsT o := fun o' e z => by
 obtain ⟨ho, hc, _, hk⟩ := a
 replace z := z.1
 rw [ho] at e; cases e
 rw [hc] at z
 injection z with z
 subst z; exact absurd hk (by decide)
theorem own_eq (tg : Expr) (p : Pos) (i c : Value) : letOwnedTupleGo tg i c = pure () ∨ letOwnedTupleGo tg i c = letOwnedTupleGo (.Tuple [] 0 p) i c := by
 cases tg <;> first | exact .inl rfl | exact .inr rfl
theorem own_val (I : Addr) (p : Pos) (c : Value) : letOwnedTupleGo (.Tuple [] 0 p) (.ref I) c = pure () ∨ ∃ a, c = .ref a := by
 cases c <;> first | exact .inr ⟨_, rfl⟩ | exact .inl rfl
theorem Alive.some_ {I : Addr} {h : Heap} (a : Alive I h) : ∃ o, h.get? I = some o := let ⟨e, _, _, _⟩ := a; ⟨_, e⟩
theorem owned_go {tg : Expr} {I : Addr} {c : Value} {Qu : Unit → Shared → Prop} {E : Value → Shared → Prop} (al : Alive I s.heap) (q : Qu () s) :
  wpAny (model G.prog G.w) A (letOwnedTupleGo tg (.ref I) c) Qu E s := by
 cases al with | @mk o n vs ho hc hd hk =>
 have hn : (["enumerate", "zip", "dict_itemiterator", "dict_reverseitemiterator", "odict_iterator", "itertools.zip_longest", "itertools.pairwise"].contains n) = false := by
  simp only [itOk, Bool.or_eq_true, beq_iff_eq] at hk
  rcases hk with (rfl | rfl) | rfl <;> decide
 have go : ∀ a, wpAny (model G.prog G.w) A (load I >>= fun o => match o.cls, o.data with
   | .type n, .fields vs => if (["enumerate", "zip", "dict_itemiterator", "dict_reverseitemiterator", "odict_iterator", "itertools.zip_longest", "itertools.pairwise"].contains n && vs[0]? == some (rawInt a)) = true then (rule "for.unpacks-the-owned-tuple" >>= fun _ => updateField I 0 .none) else pure ()
   | _, _ => pure ()) Qu E s := fun a => by
  refine wpAny_bind (wpAny_load ho ?_)
  rw [hc, hd]
  dsimp only
  rw [hn]
  exact wpAny_pure q
 rcases own_eq tg tg.pos (.ref I) c with e | e
 ·rw [e]; exact wpAny_pure q
 ·rw [e]
  rcases own_val I tg.pos c with e | ⟨a, rfl⟩
  ·rw [e]; exact wpAny_pure q
  ·exact go a
inductive ForI (G : Sg) (k : Nat) (A : Around) (env : PySem.Env) (H₀ : AH) (s₀ : Shared) (I : Addr) (keep : AH → Prop) (It : List V → Heap → Prop) (P : List V → Lo → AH → Prop) : Nat → Shared → Prop
 | mk {us ρ' H' m' s'} (X' : SRP G (fun b => FP env b ∨ b = I) H₀ s₀ H' s') (c' : Cx G k A env m' H' s' ρ') (hi : It us s'.heap) (hk : keep H') (hu : H' I = none) (h : P us ρ' H') : ForI G k A env H₀ s₀ I keep It P us.length s'
theorem xp_fin {H₀ : AH} {s₀ : Shared} {I : Addr} (hI0 : s₀.heap.get? I = none) {o : Out} {f : Flow} {H3 : AH} {s3 : Shared} {m3 : Str → Option Value} {ρ3 : Lo} (x : SRP G (fun b => FP env b ∨ b = I) H₀ s₀ H3 s3) (r : OutR s3.heap o f) (F : Frm G env m3 H3 s3.heap ρ3) (q : Q o ρ3 H3) : XP G env H₀ s₀ Q f s3 :=
 ⟨_, _, _, _, r, (x.weaken fun b o e p => p.elim id fun p => by subst p; rw [hI0] at e; cases e).sr, F, q⟩
theorem St.gone {I : Addr} {h' : Heap} (S : St G H s.heap) (al : Alive I s.heap) (h0 : G.h₀.get? I = none) (hu : H I = none) (hx : Heap.ExtBut I s.heap h') : St G H h' ∧ TupKeep s.heap h' :=
 ⟨⟨fun b o e => hx b o (fun z => (no_ns z.symm h0 e)) (S.keep b o e), fun a O e => (S.obj a O e).keep G (fun b o e hT => hx b o (fun z => by subst z; exact al.noT o e hT) e) fun o => hx a o (fun z => (no_ns z.symm hu e)), S.own⟩, fun b o e hT => hx b o (fun z => by subst z; exact al.noT o e hT) e⟩
theorem SRP.gone {H₀ : AH} {s₀ : Shared} {I : Addr} {h' : Heap} {P : Addr → Prop} (X : SRP G (fun b => P b ∨ b = I) H₀ s₀ H s) (hI0 : s₀.heap.get? I = none) (S' : St G H h') (hx : Heap.ExtBut I s.heap h') : SRP G P H₀ s₀ H { s with heap := h' } := by
 have nb : ∀ b o, s₀.heap.get? b = some o → b ≠ I := fun b o e z => no_ns z.symm hI0 e
 refine ⟨let ⟨_, _, e⟩ := X.same; ⟨h', _, by rw [e]⟩, S', fun b o e np hn => hx b o (nb b o e) (X.ev.keep b o e (fun p => p.elim np (nb b o e)) hn), X.ev.dom, fun b o e => ?_⟩
 obtain ⟨o', e'⟩ := X.ev.alive b o e
 exact ⟨o', hx b o' (nb b o e) e'⟩
theorem for_turn {H₀ : AH} {s₀ : Shared} {I : Addr} {keep : AH → Prop} {It : List V → Heap → Prop} {t : T} {tg : Expr} {b : Ss} {body : List Stmt} {us : List V} {v cv : _} {h' : Heap} {tk : Tok} {ρ1 : Lo} (IT : Iter G A I keep It) (hb : SsOk G k Φ b) (hct : okT env.scope t = true) (hcb : okSs b env.scope body = true)
  (h0 : G.h₀.get? I = none) (nI : ¬ FP env I) (X' : SRP G (fun b => FP env b ∨ b = I) H₀ s₀ H s) (c' : Cx G k A env m H s ρ) (al : Alive I s.heap) (hu : H I = none) (rv : VR s.heap v cv) (hs : Heap.SameBut I s.heap h') (hi' : It us h') {PO' : PO} (hbd : bindT t v ρ = some ρ1) (h : exSs Φ b ρ1 H PO') {Z : Flow → Shared → Prop} {E : Value → Shared → Prop}
  (K : ∀ o3 f s3 ρ3 H3 m3, OutR s3.heap o3 f → SRP G (fun b => FP env b ∨ b = I) H₀ s₀ H3 s3 → Cx G k A env m3 H3 s3 ρ3 → It us s3.heap → H3 I = none → PO' o3 ρ3 H3 → Z f s3) :
  wpAny (model G.prog G.w) A (letOwnedTupleGo (prT t tg) (.ref I) cv) (fun _ s => wpAny (model G.prog G.w) A (assign (prT t tg) env cv) (fun _ s => wpAny (model G.prog G.w) A (execs (prSs b body) env) Z E s) E s) E { s with heap := h', toks := tk } := by
 obtain ⟨X1, tk1⟩ := but_one (P := FP env) (tk := tk) c'.st hu h0 al.noT (fun b o ne e => (hs.2 b ne).trans e) (IT.alive hi').some_
 have F1 := frm_but c'.fr nI X1.st (fun b o ne e => (hs.2 b ne).trans e) tk1
 refine owned_go (s := { s with heap := h', toks := tk }) (IT.alive hi') ?_
 refine assign_ok (s := { s with heap := h', toks := tk }) c'.room.1 X1.st F1 hct (rv.keep tk1) hbd fun s2 m2 F2 x2 => ?_
 have keepI : ∀ {H1 H2 : AH} {s1 s2 : Shared}, SR G env H1 s1 H2 s2 → H1 I = none → ∀ o, s1.heap.get? I = some o → s2.heap.get? I = some o := fun x hn o e => x.ev.keep I o e nI hn
 have hi2 : It us s2.heap := IT.keeps hi' (keepI x2 hu) (x2.tup X1.st F1)
 have c2 : Cx G k A env m2 H s2 ρ1 := ⟨c'.room, x2.st, F2⟩
 refine wpAny_mono (hb c2 hcb h) (fun f s3 q3 => ?_) fun _ _ z => z.elim
 obtain ⟨o3, ρ3, H3, m3, r3, x3, F3, q3⟩ := q3
 exact K _ _ _ _ _ _ r3 (((X'.trans X1).trans (x2.srp.weaken fun _ _ _ p => .inl p)).trans (x3.srp.weaken fun _ _ _ p => .inl p)) ⟨c'.room, x3.st, F3⟩ (IT.keeps hi2 (keepI x3 hu) (x3.tup c2.st F2)) (let ⟨_, e⟩ := (IT.alive hi2).some_; ev_un x3.ev e hu) q3
theorem for_loop {H₀ : AH} {s₀ : Shared} {I : Addr} {keep : AH → Prop} {It : List V → Heap → Prop} {t : T} {tg : Expr} {b : Ss} {body : List Stmt} {us : List V} (IT : Iter G A I keep It) (hb : SsOk G k Φ b) (hct : okT env.scope t = true) (hcb : okSs b env.scope body = true)
  (hI0 : s₀.heap.get? I = none) (h0 : G.h₀.get? I = none) (nI : ¬ FP env I) (X : SR G env H₀ s₀ H s) (c : Cx G k A env m H s ρ) (hi : It us s.heap) (hk : keep H) (hu : H I = none) (h : forA keep t (exSs Φ b) us ρ H Q) :
  codeAny (model G.prog G.w) A (.forLoop (prT t tg) (.ref I) (prSs b body) [] env) (fun r s' => ∃ f, r = .ok f ∧ XP G env H₀ s₀ Q f s') s := by
 refine codeAny_forLoop_any (ForI G k A env H₀ s₀ I keep It fun us ρ' H' => forA keep t (exSs Φ b) us ρ' H' Q) ?_ us.length ⟨X.srp.weaken fun _ _ _ p => .inl p, c, hi, hk, hu, h⟩
 intro n s' q
 cases q with | @mk us ρ' H' m' _ X' c' hi hk hu h =>
 cases us with
 | nil =>
  refine IT.nil hi c'.st hk fun h' hx => ?_
  have S' := c'.st.gone (IT.alive hi) h0 hu hx
  exact wpAny_execs_nil ⟨.next, rfl, .nx, ρ', H', m', .nx, (X'.gone hI0 S'.1 hx).sr, frm_but c'.fr nI S'.1 (fun b o ne e => hx b o ne e) S'.2, h⟩
 | cons v us =>
  obtain ⟨ρ1, hbd, h⟩ := optL_inv (o := bindT t v ρ') (P := fun ρ' => exSs Φ b ρ' H' fun o ρ H => match o with
   | .nx => keep H ∧ forA keep t (exSs Φ b) us ρ H Q
   | .ct => keep H ∧ forA keep t (exSs Φ b) us ρ H Q
   | .br => Q .nx ρ H
   | .rt v => Q (.rt v) ρ H) h
  refine IT.cons hi c'.st hk fun cv h' tk rv hs hi' => for_turn (tg := tg) (body := body) IT hb hct hcb h0 nI X' c' (IT.alive hi) hu rv hs hi' hbd h fun o3 f s3 ρ3 H3 m3 r3 X3 c3 hi3 hu3 q3 => ?_
  cases r3 with
  | nx => exact ⟨us.length, Nat.lt_succ_self _, X3, c3, hi3, q3.1, hu3, q3.2⟩
  | ct => exact ⟨us.length, Nat.lt_succ_self _, X3, c3, hi3, q3.1, hu3, q3.2⟩
  | br => exact ⟨.next, rfl, xp_fin hI0 X3 .nx c3.fr q3⟩
  | rt r => exact ⟨_, rfl, xp_fin hI0 X3 (.rt r) c3.fr q3⟩
theorem fp_dead {I : Addr} (F : Frm G env m H s.heap ρ) (hd : s.heap.get? I = none) : ¬ FP env I := by
 rintro (rfl | ⟨n, hn⟩)
 ·obtain ⟨o, e⟩ := Fr.live F.fr; rw [hd] at e; cases e
 ·obtain ⟨_, _, v, o, e, _⟩ := F.cu n I hn; rw [hd] at e; cases e
theorem h0_dead {I : Addr} (S : St G H s.heap) (hd : s.heap.get? I = none) : G.h₀.get? I = none := by
 cases z : G.h₀.get? I with
 | none => rfl
 | some o => have := S.keep I o z; rw [hd] at this; cases this
theorem for_end {H₀ : AH} {s₀ : Shared} {tg : Expr} {I : Addr} {body : List Stmt} {E : Value → Shared → Prop} (h : codeAny (model G.prog G.w) A (.forLoop tg (.ref I) body [] env) (fun r s' => ∃ f, r = .ok f ∧ XP G env H₀ s₀ Q f s') s) :
  codeAny (model G.prog G.w) A (.forLoop tg (.ref I) body [] env) (fun r s' => match r with | .ok f => XP G env H₀ s₀ Q f s' | .error e => cameBackBy (model G.prog G.w) A env E e s') s :=
 codeAny_mono h fun r s' q => by obtain ⟨f, rfl, q⟩ := q; exact q
set_option tactic.hygienic true in
theorem s_for {t : T} {e : E} {b : Ss} (he : EvOk G k Φ e) (hb : SsOk G k Φ b) : SOk G k Φ (.for t e b) := fun {A env ex m H s ρ Q} c hc h => by
 have hc := and3 hc
 refine wpAny_For (vp_el (he c hc.2.1 h) fun v H' cv s' r x q => ?_) (fun x => pr_noFold env x)
 have c1 := c.next x
 have hd := get_size s'.heap
 cases v with
 | ref l =>
  obtain ⟨vs, hl, hsm, q⟩ := list_inv q
  ·cases r
   obtain ⟨cs, n, il, r⟩ := c1.st.obj _ _ hl
   refine wpAny_pyIter_list il.isList ?_
   have R0 : Res G env.locals m H' s' H' { s' with heap := s'.heap.push { cls := .type "list_iterator", data := .fields #[.ref l, .int 0 0] } } := Res.keep (tk := s'.toks) c1.st c1.fr.fr (Keep.push _ _)
   refine for_end (for_loop (H₀ := H) (s₀ := s) (iter_list c.room.1 (l := l) (vs := vs)) hb hc.1 hc.2.2 ?_ (h0_dead c1.st hd) (fp_dead c1.fr hd) (x.sr.trans R0.sr) (c1.next R0) ⟨0, ⟨_, Heap.get?_push_size _ rfl, rfl, rfl⟩, rfl⟩ hl (c1.st.dead hd) q)
   cases z : s.heap.get? s'.heap.objs.size with
   | none => rfl
   | some o => obtain ⟨o', e'⟩ := x.ev.alive _ _ z; rw [hd] at e'; cases e'
 | tup vs =>
  obtain ⟨hsm, q⟩ := q
  have r0 := r
  cases r with
  | tup ho hcl hdt rs =>
   rename_i a o n cs
   refine wpAny_pyIter_tuple (isTup_of ho hcl hdt) ?_
   have R0 : Res G env.locals m H' s' H' { s' with heap := s'.heap.push { cls := .type "tuple_iterator", data := .fields #[.ref a, .int 0 0] } } := Res.keep (tk := s'.toks) c1.st c1.fr.fr (Keep.push _ _)
   refine for_end (for_loop (H₀ := H) (s₀ := s) (iter_tuple c.room.1 (t := a) (vs := vs)) hb hc.1 hc.2.2 ?_ (h0_dead c1.st hd) (fp_dead c1.fr hd) (x.sr.trans R0.sr) (c1.next R0) ⟨0, ⟨_, Heap.get?_push_size _ rfl, rfl, rfl⟩, rfl, r0.keep (Keep.push _ _).tup⟩ trivial (c1.st.dead hd) q)
   cases z : s.heap.get? s'.heap.objs.size with
   | none => rfl
   | some o => obtain ⟨o', e'⟩ := x.ev.alive _ _ z; rw [hd] at e'; cases e'
 | _ => exact q.elim
end
end RK
end
section
open PySem PySem.W PyProof.Rows
namespace RK
section
variable {G : Sg} {A : Around} {env : PySem.Env} {m : Str → Option Value} {H : AH} {s : Shared} {Q : PO} {ρ : Lo} {k : Nat} {Φ : Phi}
theorem rangeV_span (a n : Int) : rangeV a n = spanV a 1 (n - a).toNat := by
 unfold rangeV spanV
 refine List.map_congr_left fun i _ => ?_
 rw [Int.mul_one]
theorem downV_span (a : Int) : downV a = spanV a (-1) (a + 1).toNat := by
 unfold downV spanV
 refine List.map_congr_left fun i _ => ?_
 congr 1
 omega
theorem small_down {a : Int} (h : -2 ≤ a) (h' : a < 2 ^ 31) : Builtin.Range.small a (-1) (-1) = true ∧ Builtin.Range.rangeSize a (-1) (-1) = ((a + 1).toNat : Int) := by
 have e : Builtin.Range.rangeSize a (-1) (-1) = ((a + 1).toNat : Int) := by
  unfold Builtin.Range.rangeSize
  simp only [show ¬ ((-1 : Int) > 0) by decide, if_false, Int.neg_neg, Int.ediv_one]
  split <;> omega
 refine ⟨?_, e⟩
 unfold Builtin.Range.small
 rw [e]
 simp only [Builtin.Range.rangeFitsLong, Bool.and_eq_true, Bool.or_eq_true, decide_eq_true_eq, beq_iff_eq, show ¬ ((-1 : Int) > 0) by decide, if_false]
 omega
theorem rangeI {a b : Int} (h : -2 ^ 31 < a ∧ a < 2 ^ 31 ∧ -2 ^ 31 < b ∧ b < 2 ^ 31) : Builtin.Range.small a b 1 = true ∧ Builtin.Range.rangeSize a b 1 = ((b - a).toNat : Int) := by
 refine ⟨small_one (by omega) (by omega) (by omega) (by omega), ?_⟩
 rw [rangeSize_one]
 split <;> omega
theorem if_inv {α : Type} {p : Prop} [Decidable p] {a b : α} (h : (if p then some a else none) = some b) : p ∧ b = a := by
 by_cases z : p
 ·rw [if_pos z] at h; exact ⟨z, (Option.some.inj h).symm⟩
 ·rw [if_neg z] at h; cases h
theorem rangeA_inv {vs us : List V} (h : rangeA vs = some us) : (∃ n, vs = [.int n] ∧ (-2 ^ 31 < n ∧ n < 2 ^ 31) ∧ us = rangeV 0 n) ∨ (∃ a b, vs = [.int a, .int b] ∧ (-2 ^ 31 < a ∧ a < 2 ^ 31 ∧ -2 ^ 31 < b ∧ b < 2 ^ 31) ∧ us = rangeV a b) ∨ (∃ a, vs = [.int a, .int (-1), .int (-1)] ∧ (-2 ≤ a ∧ a < 2 ^ 31) ∧ us = downV a) := by
 cases vs with
 | nil => cases h
 | cons v vs => cases v with
  | int a => cases vs with
   | nil => exact .inl ⟨a, rfl, if_inv h⟩
   | cons v vs => cases v with
    | int b => cases vs with
     | nil => exact .inr (.inl ⟨a, b, rfl, if_inv h⟩)
     | cons v vs => cases v with
      | int c => cases vs with
       | nil => obtain ⟨⟨⟨rfl, rfl⟩, h1⟩, h2⟩ := if_inv h; exact .inr (.inr ⟨a, rfl, h1, h2⟩)
       | cons _ _ => cases h
      | _ => cases h
    | _ => cases h
  | _ => cases h
theorem s_forR (T : TopOk G) {x : Nm} {es : Es} {b : Ss} (hs : EsOk G k Φ es) (hb : SsOk G k Φ b) : SOk G k Φ (.forR x es b) := fun {A env ex m H s ρ Q} c hc h => by
 have hc := and4 hc
 refine wpAny_For ?_
 refine Call_ (name_range T c.fr hc.2.1 ?_)
 refine PyProof.Rows.callWith_type any_back (args_es hs c hc.2.2.1 h fun vs H' cs s' r x1 q => ?_)
 have c1 := c.next x1
 obtain ⟨us, hus, q⟩ := optU_inv q
 have main : ∀ {r : Addr} {a b st : Int} {t u v : Tok} {h' : Heap} {tk : Tok} {n : Nat}, Keep s'.heap h' → IsRange h' r a b st t u v → Builtin.Range.small a b st = true → Builtin.Range.rangeSize a b st = (n : Int) → us = spanV a st n →
   wpAny (model G.prog G.w) A (pyIter (.ref r)) (fun it s₂ => codeAny (model G.prog G.w) A (.forLoop _ it _ [] env) (fun r s' => match r with | .ok f => XP G env H s Q f s' | .error e => cameBackBy (model G.prog G.w) A env noE e s') s₂) noE { s' with heap := h', toks := tk } := fun {r a b st t u v h' tk n} kp hr hsm hsz hu => by
  refine wpAny_pyIter_range hr hsm ?_
  have hd : s'.heap.get? h'.objs.size = none := by
   cases z : s'.heap.get? h'.objs.size with
   | none => rfl
   | some o => have := kp _ _ z; rw [get_size] at this; cases this
  have R0 : Res G env.locals m H' s' H' { s' with heap := h'.push { cls := .type "range_iterator", data := .fields #[rawInt a, rawInt (Builtin.Range.rangeSize a b st), rawInt st] }, toks := tk } := Res.keep c1.st c1.fr.fr (kp.trans (Keep.push _ _))
  refine for_end (for_loop (H₀ := H) (s₀ := s) (t := .nm x) (tg := (sp ex).t) (iter_range c.room.1) hb hc.1 hc.2.2.2 ?_ (h0_dead c1.st hd) (fp_dead c1.fr hd) (x1.sr.trans R0.sr) (c1.next R0) ⟨a, st, n, ?_, hu⟩ trivial (c1.st.dead hd) q)
  ·cases z : s.heap.get? h'.objs.size with
   | none => rfl
   | some o => obtain ⟨o', e'⟩ := x1.ev.alive _ _ z; rw [hd] at e'; cases e'
  ·rw [hsz]; exact Heap.get?_push_size _ rfl
 rcases rangeA_inv hus with ⟨n, rfl, hn, rfl⟩ | ⟨a, b, rfl, hn, rfl⟩ | ⟨a, rfl, hn, rfl⟩
 ·obtain ⟨c0, rfl, r0⟩ := r.one_
  obtain ⟨t0, rfl⟩ := r0.int_
  obtain ⟨z1, z2⟩ := rangeI (a := 0) (b := n) ⟨by omega, by omega, hn.1, hn.2⟩
  exact call_range_1 (main (Keep.push _ _) (IsRange.new ..) z1 z2 (rangeV_span _ _))
 ·obtain ⟨c0, c1', rfl, r0, r1⟩ := r.two_
  obtain ⟨t0, rfl⟩ := r0.int_
  obtain ⟨t1, rfl⟩ := r1.int_
  obtain ⟨z1, z2⟩ := rangeI hn
  exact call_range_2 (main (Keep.push _ _) (IsRange.new ..) z1 z2 (rangeV_span _ _))
 ·obtain ⟨c0, r, rfl, r0, rr⟩ := r.cons_
  obtain ⟨c1', r, rfl, r1, rr⟩ := rr.cons_
  obtain ⟨c2, rfl, r2⟩ := rr.one_
  obtain ⟨t0, rfl⟩ := r0.int_
  obtain ⟨t1, rfl⟩ := r1.int_
  obtain ⟨t2, rfl⟩ := r2.int_
  obtain ⟨z1, z2⟩ := small_down hn.1 hn.2
  exact call_range_3 (by decide) (main (Keep.push _ _) (IsRange.new ..) z1 z2 (downV_span _)) (.inl (PyProof.noPylong_small (by omega)))
end
end RK
end
section
open PySem PySem.W PyProof.Rows
namespace RK
theorem nmS_dot (x : Nm) : nmS x ≠ (".0" : Str) := fun h => by
 have e : dg x x [] = [46, 48] := (congrArg (fun s : Str => s.cps.toList) h).trans (by decide +kernel)
 exact dg_dot x x [] (fun c hc => by cases hc) 46 (by rw [e]; exact .head _) rfl
section
variable {G : Sg} {A : Around} {env : PySem.Env} {m : Str → Option Value} {H : AH} {s : Shared} {Q : PV} {ρ : Lo} {k : Nat} {Φ : Phi}
theorem look_hit {α β : Type} [BEq α] [LawfulBEq α] {k : α} {v : β} {r : List (α × β)} : ((k, v) :: r).lookup k = some v := by rw [List.lookup_cons, beq_self_eq_true]
theorem look_miss {α β : Type} [BEq α] [LawfulBEq α] {k k' : α} (ne : k ≠ k') {v : β} {r : List (α × β)} : ((k', v) :: r).lookup k = r.lookup k := by rw [List.lookup_cons, beq_eq_false_iff_ne.mpr ne]
noncomputable def cloF (env : PySem.Env) (x : Str × NameKind) (cs : List (Str × Addr)) : Sem (ForInStep (List (Str × Addr))) := if (x.2 == .free) = true then (cellOf env x.1 >>= fun c => pure (ForInStep.yield ((x.1, c) :: cs))) else pure (ForInStep.yield cs)
structure CloOk (env : PySem.Env) (names : List (Str × NameKind)) (acc cl : List (Str × Addr)) : Prop where
 sub : ∀ n ca, cl.lookup n = some ca → acc.lookup n = some ca ∨ env.cells.lookup n = some ca
 all : ∀ n, (n, NameKind.free) ∈ names ∨ (acc.lookup n).isSome = true → (cl.lookup n).isSome = true
theorem CloOk.hit {n : Str} {ca : Addr} {r : List (Str × NameKind)} {acc cl : List (Str × Addr)} (h : env.cells.lookup n = some ca) (x : CloOk env r ((n, ca) :: acc) cl) : CloOk env ((n, .free) :: r) acc cl where
 sub := fun n' ca' e => by
  rcases x.sub n' ca' e with z | z
  ·by_cases q : n' = n
   ·subst q; rw [look_hit] at z; exact .inr (h.trans z)
   ·rw [look_miss q] at z; exact .inl z
  ·exact .inr z
 all := fun n' e => x.all n' (by
  by_cases q : n' = n
  ·subst q; right; rw [look_hit]; rfl
  ·rw [look_miss q]
   exact e.imp_left fun e => (List.mem_cons.mp e).resolve_left fun z => q (Prod.mk.inj z).1)
theorem CloOk.miss {n : Str} {k : NameKind} {r : List (Str × NameKind)} {acc cl : List (Str × Addr)} (h : k ≠ .free) (x : CloOk env r acc cl) : CloOk env ((n, k) :: r) acc cl where
 sub := x.sub
 all := fun n' e => x.all n' (e.imp_left fun e => (List.mem_cons.mp e).resolve_left fun z => h (Prod.mk.inj z).2.symm)
theorem closure_go (names : List (Str × NameKind)) (acc : List (Str × Addr)) (h : ∀ p ∈ names, p.2 = .free → ∃ ca, env.cells.lookup p.1 = some ca) :
  ∃ cl, (forIn names acc (cloF env) : Sem _) = pure cl ∧ CloOk env names acc cl := by
 induction names generalizing acc with
 | nil => exact ⟨acc, by rw [List.forIn_nil], fun n ca h => .inl h, fun n h => h.elim (fun z => nomatch z) id⟩
 | cons p r ih =>
  obtain ⟨n, k⟩ := p
  have hr : ∀ p ∈ r, p.2 = .free → ∃ ca, env.cells.lookup p.1 = some ca := fun p hp => h p (.tail _ hp)
  rw [List.forIn_cons]
  by_cases hk : k = .free
  ·subst hk
   obtain ⟨ca, hca⟩ := h (n, .free) (.head _) rfl
   obtain ⟨cl, h1, h2⟩ := ih ((n, ca) :: acc) hr
   have e : cloF env (n, .free) acc = pure (ForInStep.yield ((n, ca) :: acc)) := by
    show (cellOf env n >>= _) = _
    rw [show cellOf env n = pure ca from by unfold cellOf; rw [hca], pure_bind]
   rw [e, pure_bind]
   exact ⟨cl, h1, h2.hit hca⟩
  ·obtain ⟨cl, h1, h2⟩ := ih acc hr
   have e : cloF env (n, k) acc = pure (ForInStep.yield acc) := if_neg (by rw [beq_eq_false_iff_ne.mpr hk]; decide)
   rw [e, pure_bind]
   exact ⟨cl, h1, h2.miss hk⟩
theorem scopeOk_of {inner outer : Scope} {xs : List Nm} (h : scopeOk inner outer xs = true) : inner.kind = .function ∧ (∀ p ∈ inner.names, p.2 ≠ .cell ∧ (p.2 = .local → (p.1 = (".0" : Str) ∨ ∃ x ∈ xs, nmS x = p.1) ∧ inner.names.lookup p.1 = some .local) ∧ (p.2 = .free → outer.names.lookup p.1 = some .cell)) ∧
  ∀ x ∈ xs, inner.names.lookup (nmS x) = some .local := by
 simp only [scopeOk, Bool.and_eq_true, beq_iff_eq, List.all_eq_true, Bool.or_eq_true, bne_iff_ne, List.any_eq_true] at h
 obtain ⟨⟨h1, h2⟩, h3⟩ := h
 refine ⟨h1, fun p hp => ?_, h3⟩
 obtain ⟨⟨⟨a, b⟩, c⟩, d⟩ := h2 p hp
 refine ⟨a, fun e => ⟨?_, ?_⟩, fun e => ?_⟩
 ·rcases b with (b | b) | b
  ·exact absurd e b
  ·exact .inl b
  ·exact .inr b
 ·rcases c with c | c
  ·exact absurd e c
  ·exact c
 ·rcases d with d | d
  ·exact absurd e d
  ·exact d
theorem closure_ok (F : Frm G env m H s.heap ρ) {inner : Scope} {xs : List Nm} (hs : scopeOk inner env.scope xs = true) :
  ∃ cl, closureFor inner env = pure cl ∧ (∀ n ca, cl.lookup n = some ca → env.cells.lookup n = some ca) ∧ ∀ n, (n, NameKind.free) ∈ inner.names → (cl.lookup n).isSome = true := by
 obtain ⟨h1, h2, h3⟩ := scopeOk_of hs
 obtain ⟨cl, a, b, c⟩ := closure_go (env := env) inner.names [] fun p hp e => F.ck p.1 ((h2 p hp).2.2 e)
 refine ⟨cl, ?_, fun n ca e => ?_, fun n hn => c n (.inl hn)⟩
 ·unfold closureFor
  show ((forIn inner.names ([] : List (Str × Addr)) (cloF env) : Sem _) >>= fun cs => pure cs) = _
  rw [a]; rfl
 ·rcases b n ca e with z | z
  ·cases z
  ·exact z
theorem lookup_mem {names : List (Str × NameKind)} {n : Str} {k : NameKind} (h : names.lookup n = some k) : (n, k) ∈ names := by
 induction names with
 | nil => cases h
 | cons p r ih =>
  obtain ⟨n', k'⟩ := p
  rw [List.lookup_cons] at h
  by_cases q : n = n'
  ·subst q; rw [beq_self_eq_true] at h; cases h; exact .head _
  ·rw [beq_eq_false_iff_ne.mpr q] at h; exact .tail _ (ih h)
set_option tactic.hygienic true in
theorem relab_lookup {inner outer : Scope} {n : Str} {kd : NameKind} (h : (relab inner outer).names.lookup n = some kd) : ∃ k', (n, k') ∈ inner.names ∧ kd = if (k' == .free && outer.kind == .function && outer.names.lookup n == some .cell) = true then .cell else k' := by
 have := lookup_mem h
 obtain ⟨⟨n', k'⟩, hp, e⟩ := List.mem_map.mp this
 dsimp only at e
 split at e
 ·rename_i c; cases e; exact ⟨_, hp, by rw [if_pos c]⟩
 ·rename_i c; cases e; exact ⟨_, hp, by rw [if_neg c]⟩
set_option tactic.hygienic true in
theorem comp_frm {inner : Scope} {xs : List Nm} {cl : List (Str × Addr)} {C : Addr} {h : Heap} {m' : Str → Option Value} {ρ0 : Lo} (F : Frm G env m H h ρ) (hs : scopeOk inner env.scope xs = true) (h1 : ∀ n ca, cl.lookup n = some ca → env.cells.lookup n = some ca)
  (h2 : ∀ n, (n, NameKind.free) ∈ inner.names → (cl.lookup n).isSome = true) (hC : ∀ n ca, env.cells.lookup n = some ca → ca ≠ C) (hu : H C = none) (hn : h.Ns C m') (ha : G.h₀.objs.size ≤ C) (hρ : ∀ y v, ρ0 y = some v → y ∉ xs ∧ ρ y = some v) :
  Frm G (compEnvC inner cl C env) m' H h ρ0 := by
 obtain ⟨k1, k2, k3⟩ := scopeOk_of hs
 have kc : ∀ n, Env.kindOf (compEnvC inner cl C env) n = some .cell → env.kindOf n = some .cell ∧ (cl.lookup n).isSome = true := fun n e => by
  obtain ⟨k', hm, e'⟩ := relab_lookup (show (relab inner env.scope).names.lookup n = some .cell from e)
  split at e'
  ·rename_i c
   simp only [Bool.and_eq_true, beq_iff_eq] at c
   obtain ⟨⟨rfl, _⟩, c3⟩ := c
   exact ⟨c3, h2 n hm⟩
  ·subst e'; exact absurd rfl (k2 _ hm).1
 refine ⟨⟨hn, F.fr.keep, ha⟩, fun y v hv => ?_, hu, fun n ca hc => ?_, fun n e => ?_, k1, F.glob, F.blt, fun n n' ca e e' => F.cj n n' ca (h1 _ _ e) (h1 _ _ e'), fun n ca e => F.co n ca (h1 _ _ e)⟩
 ·obtain ⟨ny, hv'⟩ := hρ y v hv
  by_cases q1 : Env.kindOf (compEnvC inner cl C env) (nmS y) = some .local
  ·exfalso
   obtain ⟨k', hm, e'⟩ := relab_lookup (show (relab inner env.scope).names.lookup (nmS y) = some .local from q1)
   split at e'
   ·cases e'
   ·subst e'
    rcases ((k2 _ hm).2.1 rfl).1 with z | ⟨x, hx, z⟩
    ·exact nmS_dot y z
    ·exact ny (nmS_inj z ▸ hx)
  ·by_cases q2 : Env.kindOf (compEnvC inner cl C env) (nmS y) = some .cell
   ·obtain ⟨z1, z2⟩ := kc _ q2
    rcases F.lo y v hv' with ⟨e, _⟩ | ⟨_, ca, c, e2, e3, e4⟩ | ⟨_, e⟩
    ·rw [z1] at e; cases e
    ·obtain ⟨ca', e5⟩ := Option.isSome_iff_exists.mp z2
     have := h1 _ _ e5
     rw [e2] at this; cases this
     exact .inr (.inl ⟨q2, ca, c, e5, e3, e4⟩)
    ·exact absurd z1 e
   ·exact .inr (.inr ⟨q1, q2⟩)
 ·obtain ⟨a, b, c⟩ := F.cu n ca (h1 _ _ hc)
  exact ⟨a, hC _ _ (h1 _ _ hc), c⟩
 ·exact Option.isSome_iff_exists.mp (kc n e).2
end
end RK
end
section
open PySem PySem.W PyProof.Rows
namespace RK
section
variable {G : Sg} {A : Around} {env : PySem.Env} {m : Str → Option Value} {H : AH} {s : Shared} {ρ : Lo} {k : Nat} {Φ : Phi}
theorem store_local (F : Frm G env m H s.heap ρ) (S : St G H s.heap) {x : Nm} {v : V} {c : Value} (hk : env.kindOf (nmS x) = some .local) (r : VR s.heap v c) {Q : Unit → Shared → Prop} {E : Value → Shared → Prop}
  (q : ∀ s' m', Frm G env m' H s'.heap (upd ρ x v) → SRP G (· = env.locals) H s H s' → Q () s') : wpAny (model G.prog G.w) A (storeName env (nmS x) c) Q E s := by
 refine wpAny_storeName_local hk F.fr.ns (fun h' hn hs => ?_) (notOther F)
 have keepE : ∀ b o, b ≠ env.locals → s.heap.get? b = some o → h'.get? b = some o := fun b o ne e => (hs.2 b ne).trans e
 have tk : TupKeep s.heap h' := fun b o e hT => keepE b o (fun z => ns_noT F.fr.ns b o z e hT) e
 have F' := F.fr.set hn hs
 have S' : St G H h' := ⟨F'.keep, fun a O e => (S.obj a O e).keep G tk fun o => keepE a o (fun z => (no_ns z.symm F.un e)), S.own⟩
 refine q _ _ ⟨F', fun y w hw => ?_, F.un, fun n ca hc => ?_, F.ck, F.kind, F.glob, F.blt, F.cj, F.co⟩ ⟨⟨_, _, rfl⟩, S', fun b o e np _ => keepE b o np e, fun _ q => .inl q, fun b o e => ?_⟩
 ·unfold upd at hw
  by_cases z : y = x
  ·subst z; rw [if_pos rfl] at hw; cases hw
   exact .inl ⟨hk, c, if_pos rfl, r.keep tk⟩
  ·rw [if_neg z] at hw
   rcases F.lo y w hw with ⟨h1, c', h2, h3⟩ | ⟨h1, ca, c', h2, h3, h4⟩ | h1
   ·exact .inl ⟨h1, c', by rw [if_neg (fun e => z (nmS_inj e))]; exact h2, h3.keep tk⟩
   ·exact .inr (.inl ⟨h1, ca, c', h2, h3.sameBut hs (F.cu _ _ h2).2.1, h4.keep tk⟩)
   ·exact .inr (.inr h1)
 ·obtain ⟨h1, h2, w, h3⟩ := F.cu n ca hc
  exact ⟨h1, h2, w, h3.sameBut hs h2⟩
 ·by_cases z : b = env.locals
  ·subst z; exact Fr.live F'
  ·exact ⟨o, keepE b o z e⟩
structure CS (G : Sg) (k : Nat) (A : Around) (env : PySem.Env) (D : Addr) (m : Str → Option Value) (H : AH) (s : Shared) (ρ : Lo) (acc : List V) : Prop where
 cx : Cx G k A env m H s ρ
 un : H D = none
 acc : ∃ cs n, IsL s.heap D cs n ∧ VRs s.heap acc cs.toList
noncomputable def CP (env : PySem.Env) (D : Addr) : Addr → Prop := fun b => b = env.locals ∨ b = D
theorem isL_noT {h : Heap} {D : Addr} {cs : Array Value} {n : Nat} (hl : IsL h D cs n) : ∀ o, h.get? D = some o → ¬ IsT o := fun o e z => by
 have z := z.1
 rw [show h.get? D = _ from hl] at e; cases e
 injection z with z; exact absurd z (by decide)
theorem upd_ext {ρ0 : Lo} {x : Nm} {v : V} (h : ρ0 x = none) : ∀ y w, ρ0 y = some w → upd ρ0 x v y = some w := fun y w e => by
 unfold upd
 by_cases z : y = x
 ·subst z; rw [h] at e; cases e
 ·rw [if_neg z]; exact e
theorem comp_loop {I D l : Addr} {e : Expr} {d : Nat} {x : Nm} {px : Pos} {vs : List V} {ρ0 : Lo} {step : V → List V → AH → (List V → AH → Prop) → Prop} {BW : Shared → (Shared → Prop) → Prop} {K : List V → AH → Prop} {H₀ : AH} {s₀ : Shared}
  (hkx : env.kindOf (nmS x) = some .local) (hρ : ρ0 x = none) (nI : ¬ FP env I) (nID : I ≠ D) (nDC : ¬ FP env D) (hI0 : s₀.heap.get? I = none) (h0 : G.h₀.get? I = none)
  (turn : ∀ (s : Shared) (R : Result → Shared → Prop), wpAny (model G.prog G.w) A (pyNext (.ref I)) (fun r s₁ => match r with
    | none => R (.ok .next) s₁
    | some v => wpAny (model G.prog G.w) A (assign (.Name (nmS x) px) env v) (fun _ s₂ => BW s₂ (codeAny (model G.prog G.w) A (.compLoop e d (.ref I) (.ref D) env) R)) noE s₁) noE s → codeAny (model G.prog G.w) A (.compLoop e d (.ref I) (.ref D) env) R s)
  (body : ∀ {v acc H s m K} {P : Shared → Prop}, CS G k A env D m H s (upd ρ0 x v) acc → step v acc H K → (∀ acc' H' m' s', CS G k A env D m' H' s' ρ0 acc' → SRP G (CP env D) H s H' s' → K acc' H' → P s') → BW s P) :
  ∀ (us acc : List V) (H : AH) (s : Shared) (m : Str → Option Value), CS G k A env D m H s ρ0 acc → H l = some (.list vs) → (∃ i, s.heap.IsListIter I l i ∧ us = vs.drop i) → H I = none → SRP G (fun b => CP env D b ∨ b = I) H₀ s₀ H s →
   compA (fun H' => H' l = some (.list vs)) step us acc H K →
   codeAny (model G.prog G.w) A (.compLoop e d (.ref I) (.ref D) env) (fun r s' => r = .ok .next ∧ ∃ acc' H' m', CS G k A env D m' H' s' ρ0 acc' ∧ SRP G (CP env D) H₀ s₀ H' s' ∧ K acc' H') s := by
 intro us
 induction us with
 | nil =>
  intro acc H s m c hk hi hu X h
  have IT := iter_list (G := G) c.cx.room.1 (I := I) (l := l) (vs := vs)
  refine turn s _ (IT.nil hi c.cx.st hk fun h' hx => ⟨rfl, acc, H, m, ?_⟩)
  have S' := c.cx.st.gone (IT.alive hi) h0 hu hx
  obtain ⟨cs, n, hl, r⟩ := c.acc
  exact ⟨⟨⟨c.cx.room, S'.1, frm_but c.cx.fr nI S'.1 (fun b o ne e => hx b o ne e) S'.2⟩, c.un, cs, n, hx _ _ (Ne.symm nID) hl, r.keep S'.2⟩, X.gone hI0 S'.1 hx, h⟩
 | cons v us ih =>
  intro acc H s m c hk hi hu X h
  have IT := iter_list (G := G) c.cx.room.1 (I := I) (l := l) (vs := vs)
  obtain ⟨cs, n, hl, r⟩ := c.acc
  refine turn s _ (IT.cons hi c.cx.st hk fun cv h' tk rv hs hi' => ?_)
  obtain ⟨X1, tk1⟩ := but_one (P := CP env D) (tk := tk) c.cx.st hu h0 (IT.alive hi).noT (fun b o ne e => (hs.2 b ne).trans e) (IT.alive hi').some_
  have F1 := frm_but c.cx.fr nI X1.st (fun b o ne e => (hs.2 b ne).trans e) tk1
  refine wpAny_assign_Name (store_local (s := { s with heap := h', toks := tk }) F1 X1.st hkx (rv.keep tk1) fun s2 m2 F2 x2 => ?_)
  have hl1 : IsL h' D cs n := (hs.2 D (Ne.symm nID)).trans hl
  have nL : ∀ b, ¬ FP env b → ¬ (b = env.locals) := fun b nb z => nb (.inl z)
  have hl2 : IsL s2.heap D cs n := x2.ev.keep D _ hl1 (nL _ nDC) c.un
  have tk2 : TupKeep h' s2.heap := x2.ev.tup X1.st (ns_noT F1.fr.ns)
  refine body (K := fun acc' H' => H' l = some (.list vs) ∧ compA (fun H' => H' l = some (.list vs)) step us acc' H' K) ⟨⟨c.cx.room, x2.st, F2⟩, c.un, cs, n, hl2, (r.keep tk1).keep tk2⟩ h ?_
  intro acc3 H3 m3 s3 c3 x3 q3
  have i2 : ∀ o, h'.get? I = some o → s2.heap.get? I = some o := fun o e => x2.ev.keep I o e (nL _ nI) hu
  have i3 : ∀ o, s2.heap.get? I = some o → s3.heap.get? I = some o := fun o e => x3.ev.keep I o e (fun p => p.elim (nL _ nI) nID) hu
  have hi3 : ∃ i, s3.heap.IsListIter I l i ∧ us = vs.drop i := by
   obtain ⟨i, ⟨o, ho, r⟩, e⟩ := hi'
   exact ⟨i, ⟨o, i3 o (i2 o ho), r⟩, e⟩
  have hu3 : H3 I = none := by
   obtain ⟨i, ⟨o, ho, r⟩, e⟩ := hi'
   exact ev_un x3.ev (i2 o ho) hu
  exact ih acc3 H3 s3 m3 c3 q3.1 hi3 hu3 (((X.trans X1).trans (x2.weaken fun _ _ _ p => .inl (.inl p))).trans (x3.weaken fun _ _ _ p => .inl p)) q3.2
theorem comp_turn1 {elt iter : Expr} {id : Str} {px : Pos} {ifs : List Expr} {scope : Scope} {pos : Pos} {it acc : Value} {R : Result → Shared → Prop}
  (h : wpAny (model G.prog G.w) A (pyNext it) (fun r s₁ => match r with
    | none => R (.ok .next) s₁
    | some v => wpAny (model G.prog G.w) A (assign (.Name id px) env v) (fun _ s₂ =>
      wpAny (model G.prog G.w) A (forIn ifs true fun c r => if r = true then do let ok ← isTrue c env (eval c env); pure (ForInStep.yield ok) else pure (ForInStep.yield r)) (fun ok s₃ =>
       if ok = true then wpAny (model G.prog G.w) A (eval elt env) (fun x s₄ => wpAny (model G.prog G.w) A (call (.builtin "list.append") [acc, x])
        (fun _ s₅ => codeAny (model G.prog G.w) A (.compLoop (.ListComp elt [⟨.Name id px, iter, ifs, 0⟩] scope pos) 0 it acc env) R s₅) noE s₄) noE s₃
       else codeAny (model G.prog G.w) A (.compLoop (.ListComp elt [⟨.Name id px, iter, ifs, 0⟩] scope pos) 0 it acc env) R s₃) noE s₂) noE s₁) noE s) :
  codeAny (model G.prog G.w) A (.compLoop (.ListComp elt [⟨.Name id px, iter, ifs, 0⟩] scope pos) 0 it acc env) R s := by
 refine codeAny_of_tree ?_
 show wpAny _ A ((compTurn (.ListComp elt [⟨.Name id px, iter, ifs, 0⟩] scope pos) 0 it acc env).onRaise (fun x => do noteFrame x env; theTreesLotGoes x)) _ _ s
 refine wpAny_noted ?_
 rw [compTurn_list]
 refine wpAny_bind (wpAny_standAt (wpAny_bind (wpAny_mono h (fun r s₁ h₁ => ?_) fun _ _ z => z.elim)))
 cases r with
 | none => exact wpAny_pure h₁
 | some v =>
  refine wpAny_bind (wpAny_of_eq (a := ()) rfl ?_)
  refine wpAny_bind (wpAny_mono h₁ (fun _ s₂ h₂ => wpAny_bind (wpAny_mono h₂ (fun ok s₃ h₃ => ?_) fun _ _ z => z.elim)) fun _ _ z => z.elim)
  cases ok with
  | false => exact wpAny_pure ⟨rfl, h₃⟩
  | true => exact wpAny_bind (wpAny_bind (wpAny_mono h₃ (fun x s₄ h₄ => wpAny_bind (wpAny_mono h₄ (fun _ s₅ h₅ => wpAny_pure (wpAny_pure ⟨rfl, h₅⟩)) fun _ _ z => z.elim)) fun _ _ z => z.elim))
theorem turn2_eq (elt iter iter2 : Expr) (t1 t2 : Expr) (scope : Scope) (pos : Pos) (it acc : Value) (env : PySem.Env) :
  compTurn (.ListComp elt [⟨t1, iter, [], 0⟩, ⟨t2, iter2, [], 0⟩] scope pos) 0 it acc env = (do
   standAt iter.pos
   match ← pyNext it with
   | none => pure (.done .next)
   | some v =>
    letOwnedTupleGo t1 it v
    assign t1 env v
    let x ← eval iter2 env
    standAt iter2.pos
    let x ← foldedSetIterable iter2 env x
    let it2 ← holding [x] (pyIter x)
    let _ ← runOwn (.compStart (.ListComp elt [⟨t1, iter, [], 0⟩, ⟨t2, iter2, [], 0⟩] scope pos) 1 it2 acc env) env
    again (.compLoop (.ListComp elt [⟨t1, iter, [], 0⟩, ⟨t2, iter2, [], 0⟩] scope pos) 0 it acc env)) := by
 rfl
theorem turn3_eq (elt iter iter2 : Expr) (t1 t2 : Expr) (scope : Scope) (pos : Pos) (it acc : Value) (env : PySem.Env) :
  compTurn (.ListComp elt [⟨t1, iter, [], 0⟩, ⟨t2, iter2, [], 0⟩] scope pos) 1 it acc env = (do
   standAt iter2.pos
   match ← pyNext it with
   | none => pure (.done .next)
   | some v =>
    letOwnedTupleGo t2 it v
    assign t2 env v
    (do let _ ← call (.builtin "list.append") [acc, ← eval elt env])
    again (.compLoop (.ListComp elt [⟨t1, iter, [], 0⟩, ⟨t2, iter2, [], 0⟩] scope pos) 1 it acc env)) := by
 rfl
end
end RK
end
section
open PySem PySem.W PyProof.Rows
namespace RK
section
variable {G : Sg} {A : Around} {env : PySem.Env} {m : Str → Option Value} {H : AH} {s : Shared} {ρ : Lo} {k : Nat} {Φ : Phi}
theorem comp_turn2 {elt iter iter2 t2 : Expr} {id : Str} {px : Pos} {scope : Scope} {pos : Pos} {it acc : Value} {R : Result → Shared → Prop} (hf : ∀ x, foldedSetIterable iter2 env x = pure x)
  (h : wpAny (model G.prog G.w) A (pyNext it) (fun r s₁ => match r with
    | none => R (.ok .next) s₁
    | some v => wpAny (model G.prog G.w) A (assign (.Name id px) env v) (fun _ s₂ =>
      wpAny (model G.prog G.w) A (eval iter2 env) (fun x s₃ => wpAny (model G.prog G.w) A (pyIter x) (fun it2 s₄ =>
       codeAny (model G.prog G.w) A (.compStart (.ListComp elt [⟨.Name id px, iter, [], 0⟩, ⟨t2, iter2, [], 0⟩] scope pos) 1 it2 acc env) (fun r s₅ => r = .ok .next ∧
        codeAny (model G.prog G.w) A (.compLoop (.ListComp elt [⟨.Name id px, iter, [], 0⟩, ⟨t2, iter2, [], 0⟩] scope pos) 0 it acc env) R s₅) s₄) noE s₃) noE s₂) noE s₁) noE s) :
  codeAny (model G.prog G.w) A (.compLoop (.ListComp elt [⟨.Name id px, iter, [], 0⟩, ⟨t2, iter2, [], 0⟩] scope pos) 0 it acc env) R s := by
 refine codeAny_of_tree ?_
 show wpAny _ A ((compTurn (.ListComp elt [⟨.Name id px, iter, [], 0⟩, ⟨t2, iter2, [], 0⟩] scope pos) 0 it acc env).onRaise (fun x => do noteFrame x env; theTreesLotGoes x)) _ _ s
 refine wpAny_noted ?_
 rw [turn2_eq]
 refine wpAny_bind (wpAny_standAt (wpAny_bind (wpAny_mono h (fun r s₁ h₁ => ?_) fun _ _ z => z.elim)))
 cases r with
 | none => exact wpAny_pure h₁
 | some v =>
  refine wpAny_bind (wpAny_of_eq (a := ()) rfl ?_)
  refine wpAny_bind (wpAny_mono h₁ (fun _ s₂ h₂ => wpAny_bind (wpAny_mono h₂ (fun x s₃ h₃ => ?_) fun _ _ z => z.elim)) fun _ _ z => z.elim)
  refine wpAny_bind (wpAny_standAt (wpAny_bind ?_))
  rw [hf x]
  refine wpAny_pure (wpAny_bind (wpAny_holding (wpAny_mono h₃ (fun it2 s₄ h₄ => wpAny_bind (wpAny_runOwn ?_)) fun _ _ z => z.elim)))
  refine codeAny_mono h₄ fun r s₅ h₅ => ?_
  obtain ⟨rfl, h₅⟩ := h₅
  exact wpAny_pure ⟨rfl, h₅⟩
theorem comp_turn3 {elt iter iter2 t1 : Expr} {id : Str} {px : Pos} {scope : Scope} {pos : Pos} {it acc : Value} {R : Result → Shared → Prop}
  (h : wpAny (model G.prog G.w) A (pyNext it) (fun r s₁ => match r with
    | none => R (.ok .next) s₁
    | some v => wpAny (model G.prog G.w) A (assign (.Name id px) env v) (fun _ s₂ =>
      wpAny (model G.prog G.w) A (eval elt env) (fun x s₄ => wpAny (model G.prog G.w) A (call (.builtin "list.append") [acc, x])
        (fun _ s₅ => codeAny (model G.prog G.w) A (.compLoop (.ListComp elt [⟨t1, iter, [], 0⟩, ⟨.Name id px, iter2, [], 0⟩] scope pos) 1 it acc env) R s₅) noE s₄) noE s₂) noE s₁) noE s) :
  codeAny (model G.prog G.w) A (.compLoop (.ListComp elt [⟨t1, iter, [], 0⟩, ⟨.Name id px, iter2, [], 0⟩] scope pos) 1 it acc env) R s := by
 refine codeAny_of_tree ?_
 show wpAny _ A ((compTurn (.ListComp elt [⟨t1, iter, [], 0⟩, ⟨.Name id px, iter2, [], 0⟩] scope pos) 1 it acc env).onRaise (fun x => do noteFrame x env; theTreesLotGoes x)) _ _ s
 refine wpAny_noted ?_
 rw [turn3_eq]
 refine wpAny_bind (wpAny_standAt (wpAny_bind (wpAny_mono h (fun r s₁ h₁ => ?_) fun _ _ z => z.elim)))
 cases r with
 | none => exact wpAny_pure h₁
 | some v =>
  refine wpAny_bind (wpAny_of_eq (a := ()) rfl ?_)
  refine wpAny_bind (wpAny_mono h₁ (fun _ s₂ h₂ => wpAny_bind (wpAny_bind (wpAny_mono h₂ (fun x s₄ h₄ => wpAny_bind (wpAny_mono h₄ (fun _ s₅ h₅ => wpAny_pure (wpAny_pure ⟨rfl, h₅⟩)) fun _ _ z => z.elim)) fun _ _ z => z.elim))) fun _ _ z => z.elim)
theorem comp_start1 {elt iter iter2 t1 t2 : Expr} {scope : Scope} {pos : Pos} {it acc : Value} {R : Result → Shared → Prop}
  (h0 : codeAny (model G.prog G.w) A (.compLoop (.ListComp elt [⟨t1, iter, [], 0⟩, ⟨t2, iter2, [], 0⟩] scope pos) 1 it acc env) R s)
  (h : wpAny (model G.prog G.w) A (pyIter it) (fun it' s' => codeAny (model G.prog G.w) A (.compLoop (.ListComp elt [⟨t1, iter, [], 0⟩, ⟨t2, iter2, [], 0⟩] scope pos) 1 it' acc env) R s') noE s) :
  codeAny (model G.prog G.w) A (.compStart (.ListComp elt [⟨t1, iter, [], 0⟩, ⟨t2, iter2, [], 0⟩] scope pos) 1 it acc env) R s := by
 refine codeAny_of_tree ?_
 show wpAny _ _ ((compStart (.ListComp elt [⟨t1, iter, [], 0⟩, ⟨t2, iter2, [], 0⟩] scope pos) 1 it acc env).onRaise (fun x => do noteFrame x env; standAt theWindowsPlace)) _ _ s
 refine wpAny_notedAt ?_
 unfold compStart
 show wpAny _ _ (ask >>= _) _ _ s
 refine wpAny_bind (wpAny_askSetting (wpAny_ite ?_))
 split
 ·first
   | exact wpAny_bind (wpAny_pure (wpAny_pure (And.intro rfl h0)))
   | exact wpAny_pure (And.intro rfl h0)
 ·refine wpAny_bind (wpAny_rule ?_)
  show wpAny _ _ (standAt iter2.pos >>= _) _ _ s
  exact wpAny_bind (wpAny_standAt (wpAny_bind (wpAny_mono h (fun it' s' h' => wpAny_pure (And.intro rfl h')) fun _ _ z => z.elim)))
theorem acc_append {D : Addr} {acc : List V} {v : V} {c : Value} {P : Shared → Prop} {E : Value → Shared → Prop} (nD : ¬ FP env D) (h0 : G.h₀.get? D = none) (cs0 : CS G k A env D m H s ρ acc) (hsm : smallL acc) (r : VR s.heap v c)
  (q : ∀ s', CS G k A env D m H s' ρ (acc ++ [v]) → SRP G (CP env D) H s H s' → P s') : wpAny (model G.prog G.w) A (call (.builtin "list.append") [.ref D, c]) (fun _ s' => P s') E s := by
 obtain ⟨cs, n, hl, rs⟩ := cs0.acc
 have hz := small_size rs hsm
 refine wpAny_list_append_plain (hsz := by rw [sizeLine_eq]; omega) (items := cs) ⟨_, hl⟩ fun h' hl' hs => ?_
 obtain ⟨n', hl'⟩ := hl'
 have kp : ∀ b o, b ≠ D → s.heap.get? b = some o → h'.get? b = some o := fun b o ne e => (hs.2 b ne).trans e
 obtain ⟨X1, tk1⟩ := but_one (P := (· = env.locals)) (tk := s.toks) cs0.cx.st cs0.un h0 (isL_noT hl) kp ⟨_, hl'⟩
 have F1 := frm_but cs0.cx.fr nD X1.st kp tk1
 exact q _ ⟨⟨cs0.cx.room, X1.st, F1⟩, cs0.un, _, _, hl', by rw [Array.toList_push]; exact (rs.keep tk1).app (.one (r.keep tk1))⟩ X1
theorem nb_dead {P : Addr → Prop} {H H' : AH} {s s' : Shared} (x : SRP G P H s H' s') {b : Addr} (h : s'.heap.get? b = none) : s.heap.get? b = none := by
 cases z : s.heap.get? b with
 | none => rfl
 | some o => obtain ⟨o', e⟩ := x.ev.alive b o z; rw [h] at e; cases e
structure Blk (G : Sg) (H₁ : AH) (s₁ : Shared) (D C : Addr) (ws : List V) (H' : AH) (s' : Shared) : Prop where
 x : SRP G (fun _ => False) H₁ s₁ H' s'
 dD : s₁.heap.get? D = none
 dC : s₁.heap.get? C = none
 ne : D ≠ C
 ns : ∃ m, s'.heap.Ns C m
 ls : ∃ cs n, IsL s'.heap D cs n ∧ VRs s'.heap ws cs.toList
 uD : H' D = none
 uC : H' C = none
noncomputable def cut (ρ : Lo) (xs : List Nm) : Lo := fun y => if y ∈ xs then none else ρ y
theorem block {inner : Scope} {xs : List Nm} {cl : List (Str × Addr)} {l : Addr} {vs : List V} {ee : Expr} {pos : Pos} {t1 : Expr} {it1 : Expr} {ifs : List Expr} {rest : List Comprehension} {RR : Value → Addr → Result → Shared → Prop} {K : List V → AH → Prop}
  (c : Cx G k A env m H s ρ) (hs : scopeOk inner env.scope xs = true) (h1 : ∀ n ca, cl.lookup n = some ca → env.cells.lookup n = some ca) (h2 : ∀ n, (n, NameKind.free) ∈ inner.names → (cl.lookup n).isSome = true)
  (hl : H l = some (.list vs))
  (loop : ∀ (I D C : Addr) (s₄ : Shared) (m' : Str → Option Value), CS G k A (compEnvC inner cl C env) D m' H s₄ (cut ρ xs) [] → s₄.heap.IsListIter I l 0 → ¬ FP (compEnvC inner cl C env) I → I ≠ D → ¬ FP (compEnvC inner cl C env) D →
   s.heap.get? I = none → G.h₀.get? I = none → G.h₀.get? D = none → s.heap.get? D = none → s.heap.get? C = none → H I = none → SRP G (fun b => CP (compEnvC inner cl C env) D b ∨ b = I) H s H s₄ →
   codeAny (model G.prog G.w) A (.compLoop (.ListComp ee (⟨t1, it1, ifs, 0⟩ :: rest) inner pos) 0 (.ref I) (.ref D) (compEnvC inner cl C env)) (fun r s' => r = .ok .next ∧ ∃ ws H' m', CS G k A (compEnvC inner cl C env) D m' H' s' (cut ρ xs) ws ∧ SRP G (CP (compEnvC inner cl C env) D) H s H' s' ∧ K ws H') s₄)
  (fin : ∀ D C ws H' s', Blk G H s D C ws H' s' → K ws H' → RR (.ref D) C (.ok .next) s') :
  wpAny (model G.prog G.w) A (pyIter (.ref l)) (fun it s₂ => wpAny (model G.prog G.w) A (newList []) (fun acc s₃ => wpAny (model G.prog G.w) A (newFunctionEnv inner env.globals cl [] env.qual none .none (some env)) (fun cenv s₄ =>
   codeAny (model G.prog G.w) A (.compStart (.ListComp ee (⟨t1, it1, ifs, 0⟩ :: rest) inner pos) 0 it acc { cenv with scope := relabel inner env }) (RR acc cenv.locals) s₄) noE s₃) noE s₂) noE s := by
 obtain ⟨cs, n, il, r⟩ := c.st.obj _ _ hl
 refine wpAny_pyIter_list il.isList ?_
 refine wpAny_newList ?_ (by show 0 ≤ sizeLine; exact Nat.zero_le _)
 obtain ⟨k1, k2, k3⟩ := scopeOk_of hs
 refine wpAny_newFunctionEnv (fun x hx => (k2 x hx).1) (fun x hx => by cases hx) (fun h' hn hsb => ?_) k1
 dsimp only at hn hsb ⊢
 simp only [Option.isSome_some, if_true] at hsb
 generalize hH1 : s.heap.push { cls := .type "list_iterator", data := .fields #[.ref l, .int 0 0] } = H1 at hn hsb ⊢
 generalize hH2 : H1.push { cls := .type "list", data := .seq ([] : List Value).toArray } = H2 at hn hsb ⊢
 have kp1 : Keep s.heap H1 := hH1 ▸ Keep.push _ _
 have kp2 : Keep H1 H2 := hH2 ▸ Keep.push _ _
 have z1 : H1.objs.size = s.heap.objs.size + 1 := by rw [← hH1, Heap.size_push]
 have z2 : H2.objs.size = H1.objs.size + 1 := by rw [← hH2, Heap.size_push]
 have kp3 : Keep H2 h' := fun b o e => hsb.extBut b o (Nat.ne_of_lt (Heap.lt_size e)) (Heap.get?_push_of_some _ e)
 have kp : Keep s.heap h' := (kp1.trans kp2).trans kp3
 have i1 : s.heap.objs.size < H1.objs.size := by rw [z1]; exact Nat.lt_succ_self _
 have i3 : H1.objs.size < H2.objs.size := by rw [z2]; exact Nat.lt_succ_self _
 have i2 : s.heap.objs.size < H2.objs.size := Nat.lt_trans i1 i3
 have dI : s.heap.get? s.heap.objs.size = none := get_size _
 have dD : s.heap.get? H1.objs.size = none := by
  cases z : s.heap.get? H1.objs.size with
  | none => rfl
  | some o => have := kp1 _ _ z; rw [get_size] at this; cases this
 have dC : s.heap.get? H2.objs.size = none := by
  cases z : s.heap.get? H2.objs.size with
  | none => rfl
  | some o => have := kp2 _ _ (kp1 _ _ z); rw [get_size] at this; cases this
 have gI : h'.get? s.heap.objs.size = some { cls := .type "list_iterator", data := .fields #[.ref l, .int 0 0] } := kp3 _ _ (kp2 _ _ (hH1 ▸ Heap.get?_push_size _ rfl))
 have gD : h'.get? H1.objs.size = some { cls := .type "list", data := .seq ([] : List Value).toArray } := kp3 _ _ (hH2 ▸ Heap.get?_push_size _ rfl)
 have R0 : Res G env.locals m H s H { s with heap := h' } := Res.keep (tk := s.toks) c.st c.fr.fr kp
 have c0 := c.next R0
 have nC : ∀ n ca, env.cells.lookup n = some ca → ca ≠ H2.objs.size := fun n ca e z => by
  obtain ⟨_, _, v, o, e', _⟩ := c.fr.cu n ca e
  subst z; rw [dC] at e'; cases e'
 have nX : ∀ b, s.heap.get? b = none → b ≠ H2.objs.size → ¬ FP (compEnvC inner cl H2.objs.size env) b := fun b hb ne => by
  rintro (z | ⟨n, z⟩)
  ·exact ne z
  ·obtain ⟨_, _, v, o, e', _⟩ := c.fr.cu n b (h1 _ _ z)
   rw [hb] at e'; cases e'
 have F0 : Frm G (compEnvC inner cl H2.objs.size env) _ H h' (cut ρ xs) := comp_frm c0.fr hs h1 h2 nC (c.st.dead dC) hn (by
   have hn0 : G.h₀.objs.size ≤ env.locals := c.fr.fr.above
   have : env.locals < s.heap.objs.size := by obtain ⟨o, e⟩ := Fr.live c.fr.fr; exact Heap.lt_size e
   exact Nat.le_of_lt (Nat.lt_trans (Nat.lt_of_le_of_lt hn0 this) i2)) (fun y v e => by
    unfold cut at e
    by_cases z : y ∈ xs
    ·simp [z] at e
    ·rw [if_neg z] at e; exact ⟨z, e⟩)
 have L := loop s.heap.objs.size H1.objs.size H2.objs.size { s with heap := h', toks := s.toks + ([] : List (Str × Value)).length } _
  ⟨⟨c.room, R0.st, F0⟩, c.st.dead dD, _, _, gD, .nil⟩ ⟨_, gI, rfl, rfl⟩ (nX _ dI (Nat.ne_of_lt i2)) (Nat.ne_of_lt i1) (nX _ dD (Nat.ne_of_lt i3)) dI (h0_dead c.st dI) (h0_dead c.st dD) dD dC (c.st.dead dI) ⟨⟨h', _, rfl⟩, R0.st, kp.ev⟩
 have L' := codeAny_mono L (R' := RR (.ref H1.objs.size) H2.objs.size) fun r s' q => by
  obtain ⟨rfl, ws, H', m', c', x', q⟩ := q
  refine fin _ _ ws H' s' ⟨x'.weaken fun b o e p => ?_, dD, dC, Nat.ne_of_lt i3, ⟨m', c'.cx.fr.fr.ns⟩, c'.acc, c'.un, c'.cx.fr.un⟩ q
  rcases p with p | p
  ·rw [show b = H2.objs.size from p, dC] at e; cases e
  ·rw [p, dD] at e; cases e
 exact codeAny_compStart_list L' (wpAny_pyIter_listiter ⟨_, gI, rfl, rfl⟩ L')
end
end RK
end
section
open PySem PySem.W PyProof.Rows
namespace RK
section
variable {G : Sg} {A : Around} {env : PySem.Env} {m : Str → Option Value} {H : AH} {s : Shared} {ρ : Lo} {k : Nat} {Φ : Phi}
theorem CS.next {D : Addr} {acc : List V} {H' : AH} {s' : Shared} (c : CS G k A env D m H s ρ acc) (nD : ¬ FP env D) (x : Res G env.locals m H s H' s') : CS G k A env D m H' s' ρ acc ∧ SRP G (CP env D) H s H' s' := by
 obtain ⟨cs, n, hl, r⟩ := c.acc
 have tk := x.tup c.cx.st c.cx.fr.fr
 have hl' : IsL s'.heap D cs n := x.ev.keep D _ hl (fun z => nD (.inl z)) c.un
 exact ⟨⟨c.cx.next x, ev_un x.ev hl c.un, cs, n, hl', r.keep tk⟩, ⟨x.same, x.st, x.ev.weaken fun b o _ e => .inl e⟩⟩
theorem CS.weaken {D : Addr} {acc : List V} {ρ' : Lo} (c : CS G k A env D m H s ρ acc) (h : ∀ y v, ρ' y = some v → ρ y = some v) : CS G k A env D m H s ρ' acc := ⟨⟨c.cx.room, c.cx.st, c.cx.fr.weaken h⟩, c.un, c.acc⟩
theorem SRP.refl {P : Addr → Prop} (S : St G H s.heap) : SRP G P H s H s := ⟨⟨_, _, rfl⟩, S, .refl⟩
theorem upd_cut (ρ : Lo) (x : Nm) (v : V) : upd (cut ρ [x]) x v = upd ρ x v := by
 funext y
 unfold upd cut
 by_cases z : y = x
 ·simp [z]
 ·simp [z]
theorem cut_none (ρ : Lo) {xs : List Nm} {x : Nm} (h : x ∈ xs) : cut ρ xs x = none := if_pos h
theorem elt_ok {D : Addr} {acc : List V} {elt : E} {ee : Expr} {ρ0 : Lo} {P : Shared → Prop} {K : List V → AH → Prop} (he : EvOk G k Φ elt) (hc : okE elt env.scope ee = true) (nD : ¬ FP env D) (h0 : G.h₀.get? D = none) (hρ : ∀ y v, ρ0 y = some v → ρ y = some v)
  (c : CS G k A env D m H s ρ acc) (h : evA Φ elt ρ H (fun w H => smallL acc ∧ K (acc ++ [w]) H)) (q : ∀ acc' H' m' s', CS G k A env D m' H' s' ρ0 acc' → SRP G (CP env D) H s H' s' → K acc' H' → P s') :
  wpAny (model G.prog G.w) A (eval (prE elt ee) env) (fun x s₄ => wpAny (model G.prog G.w) A (call (.builtin "list.append") [.ref D, x]) (fun _ s₅ => P s₅) noE s₄) noE s := by
 refine vp_el (he c.cx hc h) fun v H' cv s' r x q1 => ?_
 obtain ⟨c1, x1⟩ := c.next nD x
 refine acc_append nD h0 c1 q1.1 r fun s'' c2 x2 => ?_
 exact q _ _ _ _ (c2.weaken hρ) (x1.trans x2) q1.2
theorem comp_core {elt src : E} {cond : Es} {x : Nm} {ee it : Expr} {px pos : Pos} {ifs : List Expr} {inner : Scope} {cl : List (Str × Addr)} {Q : PV} {RR : Value → Addr → Result → Shared → Prop} (he : EvOk G k Φ elt) (hsrc : EvOk G k Φ src) (hifs : IfsOk G k Φ cond) (c : Cx G k A env m H s ρ)
  (hs : scopeOk inner env.scope [x] = true) (h1 : ∀ n ca, cl.lookup n = some ca → env.cells.lookup n = some ca) (h2 : ∀ n, (n, NameKind.free) ∈ inner.names → (cl.lookup n).isSome = true)
  (hc1 : okE src env.scope it = true) (hc2 : okE elt (relab inner env.scope) ee = true) (hc3 : okEs cond (relab inner env.scope) ifs = true) (h : evA Φ (.comp elt x src cond) ρ H Q)
  (fin : ∀ H1 s1 D C ws H' s', Res G env.locals m H s H1 s1 → Blk G H1 s1 D C ws H' s' → newA (.list ws) H' Q → RR (.ref D) C (.ok .next) s') :
  wpAny (model G.prog G.w) A (eval (prE src it) env) (fun xv s₁ => wpAny (model G.prog G.w) A (pyIter xv) (fun itv s₂ => wpAny (model G.prog G.w) A (newList []) (fun acc s₃ => wpAny (model G.prog G.w) A (newFunctionEnv inner env.globals cl [] env.qual none .none (some env)) (fun cenv s₄ =>
   codeAny (model G.prog G.w) A (.compStart (.ListComp (prE elt ee) [⟨.Name (nmS x) px, prE src it, prEs cond ifs, 0⟩] inner pos) 0 itv acc { cenv with scope := relabel inner env }) (RR acc cenv.locals) s₄) noE s₃) noE s₂) noE s₁) noE s := by
 refine vp_el (hsrc c hc1 h) fun v H1 cv s1 r x1 q => ?_
 have c1 := c.next x1
 obtain ⟨l, rfl, q1⟩ := ref_inv q
 obtain ⟨vs, hl, hsm, q1⟩ := list_inv q1
 ··cases r
   refine block (xs := [x]) (K := fun ws H => newA (.list ws) H Q) c1 hs h1 h2 hl ?_ fun D C ws H' s' b q => fin H1 s1 D C ws H' s' x1 b q
   intro I D C s₄ m' cs0 hi nI nID nD dI h0I h0D dD dC uI X
   obtain ⟨k1, k2, k3⟩ := scopeOk_of hs
   have hkx : Env.kindOf (compEnvC inner cl C env) (nmS x) = some .local := lookup_relabel_local (k3 x (.head _))
   exact comp_loop (BW := fun s P => wpAny (model G.prog G.w) A (forIn (prEs cond ifs) true fun c r => if r = true then do let ok ← isTrue c (compEnvC inner cl C env) (eval c (compEnvC inner cl C env)); pure (ForInStep.yield ok) else pure (ForInStep.yield r)) (fun ok s₃ =>
       if ok = true then wpAny (model G.prog G.w) A (eval (prE elt ee) (compEnvC inner cl C env)) (fun x s₄ => wpAny (model G.prog G.w) A (call (.builtin "list.append") [.ref D, x]) (fun _ s₅ => P s₅) noE s₄) noE s₃ else P s₃) noE s)
    hkx (cut_none ρ (.head _)) nI nID nD dI h0I (fun s R h => comp_turn1 h)
    (fun {v acc H s m K P} c hst q => by
     rw [upd_cut] at c
     refine wpAny_mono (hifs c.cx hc3 hst) (fun b s3 q3 => ?_) fun _ _ z => z
     obtain ⟨H3, x3, q3⟩ := q3
     obtain ⟨c3, y3⟩ := c.next nD x3
     have ext : ∀ y w, cut ρ [x] y = some w → upd ρ x v y = some w := fun y w e => by
      rw [← upd_cut]; exact upd_ext (cut_none ρ (.head _)) y w e
     cases b with
     | true =>
      simp only [if_true] at q3 ⊢
      exact elt_ok he hc2 nD h0D ext c3 q3 fun acc' H' m' s' c' x' k' => q acc' H' m' s' c' (y3.trans x') k'
     | false =>
      simp only [Bool.false_eq_true, if_false] at q3 ⊢
      exact q acc H3 _ s3 (c3.weaken ext) y3 q3)
    vs [] H1 s₄ m' cs0 hl ⟨0, hi, rfl⟩ uI X q1
theorem St.adopt {h : Heap} {D : Addr} {O : AO} (S : St G H h) (h0 : G.h₀.get? D = none) (o : OR G h D O) : St G (H.set D O) h := by
 refine ⟨S.keep, fun b o' e => ?_, fun b o' e hr => ?_⟩
 ·by_cases z : b = D
  ·subst z; rw [set_eq] at e; cases e; exact o
  ·rw [set_ne z] at e; exact S.obj b o' e
 ·by_cases z : b = D
  ·subst z; exact h0
  ·rw [set_ne z] at e; exact S.own b o' e hr
theorem ns_noT' {h : Heap} {L : Addr} {m : Str → Option Value} (n : h.Ns L m) : ∀ o, h.get? L = some o → ¬ IsT o := fun o => ns_noT n L o rfl
theorem blk_res {H1 H' : AH} {s1 s' : Shared} {D C : Addr} {ws : List V} {h' : Heap} (c : Cx G k A env m H1 s1 ρ) (b : Blk G H1 s1 D C ws H' s') (hs : Heap.SameBut C s'.heap h') :
  Res G env.locals m H1 s1 (H'.set D (.list ws)) { s' with heap := h' } := by
 obtain ⟨m', hn⟩ := b.ns
 obtain ⟨cs, n, hl, r⟩ := b.ls
 have h0C := h0_dead c.st b.dC
 have h0D := h0_dead c.st b.dD
 have kp : ∀ b o, b ≠ C → s'.heap.get? b = some o → h'.get? b = some o := fun b o ne e => (hs.2 b ne).trans e
 have tk : TupKeep s'.heap h' := fun b o e hT => kp b o (fun z => by subst z; exact ns_noT' hn o e hT) e
 have S1 : St G H' h' := ⟨fun b' o e => kp b' o (fun z => (no_ns z.symm h0C e)) (b.x.st.keep b' o e), fun a O e => (b.x.st.obj a O e).keep G tk fun o => kp a o (fun z => (no_ns z.symm b.uC e)), b.x.st.own⟩
 have S2 : St G (H'.set D (.list ws)) h' := S1.adopt h0D ⟨cs, n, kp D _ b.ne hl, r.keep tk⟩
 have old : ∀ b' o, s1.heap.get? b' = some o → H1 b' = none → h'.get? b' = some o := fun b' o e hn => kp b' o (fun z => (no_ns z.symm b.dC e)) (b.x.ev.keep b' o e (fun z => z) hn)
 obtain ⟨hh, tt, e0⟩ := b.x.same
 refine ⟨⟨h', s'.toks, by rw [e0]⟩, S2, ⟨?_, S2.keep, c.fr.fr.above⟩, fun b' o e _ hn => old b' o e hn, fun b' hb => ?_, fun b' o e => ?_⟩
 ·obtain ⟨oL, es, ep, e, r⟩ := c.fr.fr.ns
  exact ⟨oL, es, ep, old _ _ e c.fr.un, r⟩
 ·by_cases z : b' = D
  ·subst z; exact .inr b.dD
  ·rw [set_ne z] at hb; exact b.x.ev.dom b' hb
 ·obtain ⟨o', e'⟩ := b.x.ev.alive b' o e
  exact ⟨o', kp b' o' (fun z => (no_ns z.symm b.dC e)) e'⟩
theorem ok_comp {elt src : E} {cond : Es} {x : Nm} (he : EvOk G k Φ elt) (hsrc : EvOk G k Φ src) (hifs : IfsOk G k Φ cond) : EvOk G k Φ (.comp elt x src cond) := fun {A env ex m H s ρ Q} c hc h => by
 have hc := and4 hc
 obtain ⟨cl, hcl, h1, h2⟩ := closure_ok c.fr hc.1
 obtain ⟨k1, k2, k3⟩ := scopeOk_of hc.1
 show wpAny _ _ (eval (.ListComp _ _ _ _) env) _ _ _
 rw [eval_ListComp]
 refine wpAny_comprehension_free (use := none) rfl (fun x => pr_noFold env x) hcl k1 (fun x hx e => ((k2 x hx).2.1 e).2) ?_
 refine comp_core he hsrc hifs c hc.1 h1 h2 hc.2.1 hc.2.2.1 hc.2.2.2 h fun H1 s1 D C ws H' s' x1 b q => ?_
 obtain ⟨m', hn⟩ := b.ns
 exact ⟨m', hn, fun h' hsb => ⟨.ref D, _, .ref _, x1.trans (blk_res (c.next x1) b hsb), q D b.uD⟩⟩
theorem asgC_core {elt src : E} {cond : Es} {x y : Nm} {ee it : Expr} {px py pos spos : Pos} {ifs : List Expr} {inner : Scope} {Q : PO} (he : EvOk G k Φ elt) (hsrc : EvOk G k Φ src) (hifs : IfsOk G k Φ cond) (c : Cx G k A env m H s ρ) (hk : Lcl env.scope y)
  (hsw : swapOk env.scope (.Name (nmS y) py) (.ListComp (prE elt ee) [⟨.Name (nmS x) px, prE src it, prEs cond ifs, 0⟩] inner pos) = true) (hs : scopeOk inner env.scope [x] = true) (hc1 : okE src env.scope it = true) (hc2 : okE elt (relab inner env.scope) ee = true) (hc3 : okEs cond (relab inner env.scope) ifs = true) (h : exA Φ (.asg (.nm y) (.comp elt x src cond)) ρ H Q) :
  wpAny (model G.prog G.w) A (exec (.Assign [.Name (nmS y) py] (.ListComp (prE elt ee) [⟨.Name (nmS x) px, prE src it, prEs cond ifs, 0⟩] inner pos) spos) env) (XP G env H s Q) noE s := by
 obtain ⟨cl, hcl, h1, h2⟩ := closure_ok c.fr hs
 obtain ⟨k1, k2, k3⟩ := scopeOk_of hs
 have hsw' : swapsWith (.ListComp (prE elt ee) [⟨.Name (nmS x) px, prE src it, prEs cond ifs, 0⟩] inner pos) (some (.Name (nmS y) py)) spos.line env = pure true := by
  obtain ⟨h, e⟩ := and2 hsw
  obtain ⟨h, d⟩ := and2 h
  have b := (and2 h).2
  show (pure (env.blockKind == .function && env.kindOf (nmS y) == some .local && py.line == (Expr.ListComp (prE elt ee) [⟨.Name (nmS x) px, prE src it, prEs cond ifs, 0⟩] inner pos).pos.line && !(inner.names.any fun (n, k) => n == nmS y && (k == .local || k == .cell))) : Sem Bool) = pure true
  have hb : env.blockKind = .function := by unfold Env.blockKind; rw [c.fr.kind]; rfl
  rw [hb]
  rw [show (env.kindOf (nmS y) == some .local) = true from b, d, e]
  rfl
 rw [exec_Assign_Name_used _ _ _ _ hsw']
 refine wpAny_bind (wpAny_standAt (wpAny_bind ?_))
 show wpAny _ A (do let _ ← comprehension (.ListComp (prE elt ee) [⟨.Name (nmS x) px, prE src it, prEs cond ifs, 0⟩] inner pos) inner env _ (newList []) false (eval (prE src it) env) (some (assign (.Name (nmS y) py) env))) _ _ s
 refine wpAny_bind (wpAny_mono (wpAny_comprehension_free (use := some (assign (.Name (nmS y) py) env)) (Q := fun _ s' => XP G env H s Q .next s') rfl (fun x => pr_noFold env x) hcl k1 (fun x hx e => ((k2 x hx).2.1 e).2) ?_) (fun _ s' hq => wpAny_pure (wpAny_pure hq)) fun _ _ e => e)
 refine comp_core he hsrc hifs c hs h1 h2 hc1 hc2 hc3 h fun H1 s1 D C ws H' s' x1 b q => ?_
 obtain ⟨mC, hn⟩ := b.ns
 have c1 := c.next x1
 have R := blk_res c1 b (Heap.SameBut.refl ..)
 have c2 := c1.next R
 have h0C := h0_dead c1.st b.dC
 have uC : (H'.set D (.list ws)) C = none := by rw [set_ne (Ne.symm b.ne)]; exact b.uC
 have nC : ¬ FP env C := fp_dead c1.fr b.dC
 show wpAny _ A (assign (.Name (nmS y) py) env (.ref D)) _ _ _
 refine wpAny_assign_Name (store_ok c2.fr c2.st hk (.ref D) fun s3 m3 F3 x3 => ?_)
 have hn3 : s3.heap.Ns C mC := by
  obtain ⟨oC, es, ep, e, r⟩ := hn
  exact ⟨oC, es, ep, x3.ev.keep C oC e nC uC, r⟩
 refine ⟨mC, hn3, fun h' hsb => ?_⟩
 have kp : ∀ b o, b ≠ C → s3.heap.get? b = some o → h'.get? b = some o := fun b o ne e => (hsb.2 b ne).trans e
 have al : ∃ o, s3.heap.get? C = some o := by obtain ⟨oC, es, ep, e, r⟩ := hn3; exact ⟨_, e⟩
 have al' : ∃ o, h'.get? C = some o ∨ True := let ⟨o, _⟩ := al; ⟨o, .inr trivial⟩
 have tk : TupKeep s3.heap h' := fun b o e hT => kp b o (fun z => by subst z; exact ns_noT' hn3 o e hT) e
 have S4 : St G (H'.set D (.list ws)) h' := ⟨fun b o e => kp b o (fun z => (no_ns z.symm h0C e)) (x3.st.keep b o e), fun a O e => (x3.st.obj a O e).keep G tk fun o => kp a o (fun z => (no_ns z.symm uC e)), x3.st.own⟩
 have F4 := frm_but F3 nC S4 kp tk
 have X := (x1.sr.trans R.sr).trans x3
 have dC : s.heap.get? C = none := nb_dead (P := FP env) x1.sr.srp b.dC
 refine ⟨.nx, _, _, _, .nx, ⟨?_, S4, fun b' o e np hn => ?_, X.ev.dom, fun b' o e => ?_⟩, F4, q D b.uD⟩
 ·obtain ⟨hh, tt, e⟩ := X.same; exact ⟨h', _, by rw [e]⟩
 ·exact kp b' o (fun z => (no_ns z.symm dC e)) (X.ev.keep b' o e np hn)
 ·obtain ⟨o', e'⟩ := X.ev.alive b' o e
  exact ⟨o', kp b' o' (fun z => (no_ns z.symm dC e)) e'⟩
theorem s_asgC {elt src : E} {cond : Es} {x y : Nm} (he : EvOk G k Φ elt) (hsrc : EvOk G k Φ src) (hifs : IfsOk G k Φ cond) : SOk G k Φ (.asg (.nm y) (.comp elt x src cond)) := fun {A env ex m H s ρ Q} c hc h =>
 have hc := and3 hc
 have h4 := and4 hc.2.2
 asgC_core he hsrc hifs c (lcl_of hc.1) hc.2.1 h4.1 h4.2.1 h4.2.2.1 h4.2.2.2 h
end
end RK
end
section
open PySem PySem.W PyProof.Rows
namespace RK
section
variable {G : Sg} {A : Around} {env : PySem.Env} {m : Str → Option Value} {H : AH} {s : Shared} {ρ : Lo} {k : Nat} {Φ : Phi}
theorem upd_cut2 (ρ : Lo) {x y : Nm} (ne : x ≠ y) (v : V) : upd (cut ρ [x, y]) x v = upd (del ρ y) x v := by
 funext z
 unfold upd cut del
 by_cases h1 : z = x
 ·simp [h1]
 ·by_cases h2 : z = y
  ·simp [h1, h2]
  ·simp [h1, h2]
theorem upd_del2 (ρ : Lo) {x y : Nm} (ne : x ≠ y) (v u : V) : upd (upd (del ρ y) x v) y u = upd (upd ρ x v) y u := by
 funext z
 unfold upd del
 by_cases h1 : z = y
 ·simp [h1]
 ·simp [h1]
set_option tactic.hygienic true in
theorem comp2_core {elt src src2 : E} {x y : Nm} {ee it it2 : Expr} {px py pos : Pos} {inner : Scope} {Q : PV} (he : EvOk G k Φ elt) (hsrc : EvOk G k Φ src) (hsrc2 : EvOk G k Φ src2) (c : Cx G k A env m H s ρ) (ne : x ≠ y)
  (hs : scopeOk inner env.scope [x, y] = true) (hc1 : okE src env.scope it = true) (hc4 : okE src2 (relab inner env.scope) it2 = true) (hc2 : okE elt (relab inner env.scope) ee = true) (h : evA Φ (.comp2 elt x src y src2) ρ H Q) :
  wpAny (model G.prog G.w) A (eval (.ListComp (prE elt ee) [⟨.Name (nmS x) px, prE src it, [], 0⟩, ⟨.Name (nmS y) py, prE src2 it2, [], 0⟩] inner pos) env) (VP G env.locals m H s Q) noE s := by
 obtain ⟨cl, hcl, h1, h2⟩ := closure_ok c.fr hs
 obtain ⟨k1, k2, k3⟩ := scopeOk_of hs
 rw [eval_ListComp]
 refine wpAny_comprehension_free (use := none) rfl (fun x => pr_noFold env x) hcl k1 (fun x hx e => ((k2 x hx).2.1 e).2) ?_
 refine vp_el (hsrc c hc1 h) fun v H1 cv s1 r x1 q => ?_
 have c1 := c.next x1
 split at q
 ·rename_i l
  split at q
  ·rename_i vs hl
   obtain ⟨hsm, q⟩ := q
   cases r
   refine block (xs := [x, y]) (K := fun ws H => newA (.list ws) H Q) c1 hs h1 h2 hl ?_ fun D C ws H' s' b q => ?_
   ·intro I D C s₄ m' cs0 hi nI nID nD dI h0I h0D dD dC uI X
    have hkx : Env.kindOf (compEnvC inner cl C env) (nmS x) = some .local := lookup_relabel_local (k3 x (.head _))
    have hky : Env.kindOf (compEnvC inner cl C env) (nmS y) = some .local := lookup_relabel_local (k3 y (.tail _ (.head _)))
    have ext0 : ∀ v z w, cut ρ [x, y] z = some w → upd (del ρ y) x v z = some w := fun v z w e => by
     rw [← upd_cut2 ρ ne v]; exact upd_ext (cut_none ρ (.head _)) z w e
    have dy : ∀ v, upd (del ρ y) x v y = none := fun v => by unfold upd del; rw [if_neg (Ne.symm ne)]; simp
    exact comp_loop (BW := fun s P => wpAny (model G.prog G.w) A (eval (prE src2 it2) (compEnvC inner cl C env)) (fun xv s₃ => wpAny (model G.prog G.w) A (pyIter xv) (fun itv s₄ =>
       codeAny (model G.prog G.w) A (.compStart (.ListComp (prE elt ee) [⟨.Name (nmS x) px, prE src it, [], 0⟩, ⟨.Name (nmS y) py, prE src2 it2, [], 0⟩] inner pos) 1 itv (.ref D) (compEnvC inner cl C env)) (fun r s₅ => r = .ok .next ∧ P s₅) s₄) noE s₃) noE s)
     hkx (cut_none ρ (.head _)) nI nID nD dI h0I (fun s R h => comp_turn2 (fun z => pr_noFold _ z) h)
     (fun {v acc H s m K P} c hst q => by
      rw [upd_cut2 ρ ne] at c
      refine vp_el (hsrc2 c.cx hc4 hst) fun u H2 cu s2 r2 x2 q2 => ?_
      obtain ⟨c2, y2⟩ := c.next nD x2
      split at q2
      ·rename_i l2
       split at q2
       ·rename_i us hl2
        obtain ⟨hsm2, q2⟩ := q2
        cases r2
        obtain ⟨cs, n, il, rr⟩ := c2.cx.st.obj _ _ hl2
        refine wpAny_pyIter_list il.isList ?_
        have hd := get_size s2.heap
        have R0 : Res G C _ H2 s2 H2 { s2 with heap := s2.heap.push { cls := .type "list_iterator", data := .fields #[.ref l2, .int 0 0] } } := Res.keep (tk := s2.toks) c2.cx.st c2.cx.fr.fr (Keep.push _ _)
        obtain ⟨c3, y3⟩ := c2.next nD R0
        obtain ⟨csD, nDD, hlD, _⟩ := c2.acc
        have L := comp_loop (BW := fun s P => wpAny (model G.prog G.w) A (eval (prE elt ee) (compEnvC inner cl C env)) (fun x s₄ => wpAny (model G.prog G.w) A (call (.builtin "list.append") [.ref D, x]) (fun _ s₅ => P s₅) noE s₄) noE s)
         (H₀ := H2) (s₀ := s2) (I := s2.heap.objs.size) (D := D) (px := py) hky (dy v) (fp_dead c2.cx.fr hd) (fun z => by rw [← z] at hlD; cases hd.symm.trans hlD) nD hd (h0_dead c2.cx.st hd) (fun s R h => comp_turn3 (t1 := .Name (nmS x) px) (iter := prE src it) (iter2 := prE src2 it2) (elt := prE elt ee) (scope := inner) (pos := pos) h)
         (fun {v2 acc H s m K P} c hst q => by
          rw [upd_del2 ρ ne] at c
          exact elt_ok he hc2 nD h0D (fun z w e => by rw [← upd_del2 ρ ne]; exact upd_ext (dy v) z w e) c hst q)
         us acc H2 _ _ c3 hl2 ⟨0, ⟨_, Heap.get?_push_size _ rfl, rfl, rfl⟩, rfl⟩ (c2.cx.st.dead hd) (y3.weaken fun _ _ _ p => .inl p) q2
        have L' := codeAny_mono L (R' := fun r s₅ => r = .ok .next ∧ P s₅) fun r s5 z => by
         obtain ⟨rfl, acc', H5, m5, c5, x5, k5⟩ := z
         exact ⟨rfl, q acc' H5 m5 s5 (c5.weaken (ext0 v)) (y2.trans x5) k5⟩
        exact comp_start1 L' (wpAny_pyIter_listiter ⟨_, Heap.get?_push_size _ rfl, rfl, rfl⟩ L')
       ·exact q2.elim
      ·exact q2.elim)
     vs [] H1 s₄ m' cs0 hl ⟨0, hi, rfl⟩ uI X q
   ·obtain ⟨mC, hn⟩ := b.ns
    exact ⟨mC, hn, fun h' hsb => ⟨.ref D, _, .ref _, x1.trans (blk_res c1 b hsb), q D b.uD⟩⟩
  ·exact q.elim
 ·exact q.elim
theorem ok_comp2 {elt src src2 : E} {x y : Nm} (he : EvOk G k Φ elt) (hsrc : EvOk G k Φ src) (hsrc2 : EvOk G k Φ src2) : EvOk G k Φ (.comp2 elt x src y src2) := fun {A env ex m H s ρ Q} c hc h =>
 have hc := and5 hc
 comp2_core he hsrc hsrc2 c (bne_iff_ne.mp hc.1) hc.2.1 hc.2.2.1 hc.2.2.2.1 hc.2.2.2.2 h
end
end RK
end
section
open PySem PySem.W PyProof.Rows
namespace RK
theorem meths_mem : ∀ {l : List (Nm × Fn)} {x : Nm} {f : Fn}, l.lookup x = some f → (x, f) ∈ l
 | [], _, _, h => by cases h
 | (y, g) :: r, x, f, h => by
  rw [List.lookup_cons] at h
  cases z : (x == y) with
  | true => rw [z] at h; cases h; rw [eq_of_beq z]; exact .head _
  | false => rw [z] at h; exact .tail _ (meths_mem h)
theorem meth_field : ∀ C : Cl, ∀ x f, C.meth x = some f → x ∉ C.fields := by
 intro C x f h
 have : C.meths.all (fun p => decide (p.1 ∉ C.fields)) = true := by cases C <;> decide
 have := List.all_eq_true.mp this _ (meths_mem h)
 simpa using this
theorem tst_plain {e : E} (h : Nat.beq e.kd 3 = false) (x : Expr) (env : PySem.Env) (w : Sem Value) : isTrue (prE e x) env w = (do let v ← w; standAt (prE e x).pos; holding [v] (truthy v)) := by
 cases e <;> first | rfl | cases h
theorem both {G : Sg} {k : Nat} {Φ : Phi} {e : E} (hk : Nat.beq e.kd 3 = false) (h : EvOk G k Φ e) : EvOk G k Φ e ∧ TOk G k Φ e := ⟨h, t_value h (tst_plain hk)⟩
section
variable {G : Sg} {k : Nat} {Φ : Phi}
mutual
theorem e_all (T : TopOk G) (hΦ : FOk G k Φ) : (e : E) → EvOk G k Φ e ∧ TOk G k Φ e
 | .none => both rfl (ok_none)
 | .bool b => both rfl (ok_bool)
 | .int i => both rfl (ok_int)
 | .neg i => both rfl (ok_neg)
 | .bytes b => both rfl (ok_bytes)
 | .var x => both rfl (ok_var)
 | .gint x => both rfl (ok_gint T)
 | .attr e x => both rfl (ok_attr T (e_all T hΦ e).1)
 | .key e x => both rfl (ok_key T (e_all T hΦ e).1)
 | .idx e i => both rfl (ok_idx T (e_all T hΦ e).1 (e_all T hΦ i).1)
 | .upto e i => both rfl (ok_upto T (e_all T hΦ e).1 (e_all T hΦ i).1)
 | .drop e i => both rfl (ok_drop T (e_all T hΦ e).1 (e_all T hΦ i).1)
 | .bin op a b => both rfl (ok_bin (e_all T hΦ a).1 (e_all T hΦ b).1)
 | .rep e n => both rfl (ok_rep (e_all T hΦ e).1 (e_all T hΦ n).1)
 | .cmp op a b => ⟨ok_cmp (e_all T hΦ a).1 (e_all T hΦ b).1, t_cmp (e_all T hΦ a).1 (e_all T hΦ b).1⟩
 | .isN e => ⟨ok_isN (e_all T hΦ e).1, t_isN (e_all T hΦ e).1⟩
 | .notN e => ⟨ok_notN (e_all T hΦ e).1, t_notN (e_all T hΦ e).1⟩
 | .inn a b => ⟨ok_inn T (e_all T hΦ a).1 (e_all T hΦ b).1, t_inn T (e_all T hΦ a).1 (e_all T hΦ b).1⟩
 | .not e => ⟨ok_not (e_all T hΦ e).1, t_not (e_all T hΦ e).2⟩
 | .and es => ⟨ok_and (es_all T hΦ es).2.1, t_and (es_all T hΦ es).2.2.1⟩
 | .or es => ⟨ok_or (es_all T hΦ es).2.1, t_or (es_all T hΦ es).2.2.1⟩
 | .list es => both rfl (ok_list (es_all T hΦ es).1)
 | .tup es => both rfl (ok_tup (es_all T hΦ es).1)
 | .edict => both rfl (ok_edict T)
 | .sdict ks es => both rfl (ok_sdict (es_all T hΦ es).2.2.2.2)
 | .call f es => both rfl (ok_call T hΦ (es_all T hΦ es).1)
 | .new C es => both rfl (ok_new T hΦ (es_all T hΦ es).1)
 | .meth e n es => both rfl (ok_meth T hΦ meth_field (e_all T hΦ e).1 (es_all T hΦ es).1)
 | .bi b es => both rfl (ok_bi T (es_all T hΦ es).1)
 | .lm e n es => both rfl (ok_lm T (e_all T hΦ e).1 (es_all T hΦ es).1)
 | .comp elt x src cond => both rfl (ok_comp (e_all T hΦ elt).1 (e_all T hΦ src).1 (es_all T hΦ cond).2.2.2.1)
 | .comp2 elt x src y src2 => both rfl (ok_comp2 (e_all T hΦ elt).1 (e_all T hΦ src).1 (e_all T hΦ src2).1)
theorem es_all (T : TopOk G) (hΦ : FOk G k Φ) : (es : Es) → EsOk G k Φ es ∧ BoOk G k Φ es ∧ AllOk G k Φ es ∧ IfsOk G k Φ es ∧ PsOk G k Φ es
 | .nil => ⟨ok_nil, bo_nil, all_nil, ifs_nil, ps_nil⟩
 | .cons e es => ⟨ok_cons (e_all T hΦ e).1 (es_all T hΦ es).1, bo_cons (e_all T hΦ e).1 (es_all T hΦ es).2.1, all_cons (e_all T hΦ e).2 (es_all T hΦ es).2.2.1, ifs_cons (e_all T hΦ e).2 (es_all T hΦ es).2.2.2.1, ps_cons (e_all T hΦ e).1 (es_all T hΦ es).2.2.2.2⟩
end
theorem asg_all (T : TopOk G) (hΦ : FOk G k Φ) (t : RK.T) (e : E) : SOk G k Φ (.asg t e) := by
 cases hC : e.isComp with
 | false => exact s_asg (e_all T hΦ e).1 hC
 | true =>
  intro A env ex m H s ρ Q c hc h
  cases e with
  | comp elt x src cond =>
   cases t with
   | nm y => exact s_asgC (e_all T hΦ elt).1 (e_all T hΦ src).1 (es_all T hΦ cond).2.2.2.1 c hc h
   | tup xs =>
    cases (show false = true from (and2 (and2 hc).2).1)
  | comp2 elt x src y src2 =>
   cases (show false = true from (and2 (and2 hc).2).1)
  | _ => cases hC
mutual
theorem s_all (T : TopOk G) (hΦ : FOk G k Φ) : (s : S) → SOk G k Φ s
 | .asg t e => asg_all T hΦ t e
 | .sattr o x e => s_sattr T (e_all T hΦ o).1 (e_all T hΦ e).1
 | .sidx o i e => s_sidx (e_all T hΦ o).1 (e_all T hΦ i).1 (e_all T hΦ e).1
 | .aug x op e => s_aug (e_all T hΦ e).1
 | .ex e => s_ex (e_all T hΦ e).1
 | .ite c a b => s_ite (e_all T hΦ c).2 (ss_all T hΦ a) (ss_all T hΦ b)
 | .while c b => s_while (e_all T hΦ c).2 (ss_all T hΦ b)
 | .for t e b => s_for (e_all T hΦ e).1 (ss_all T hΦ b)
 | .forR x es b => s_forR T (es_all T hΦ es).1 (ss_all T hΦ b)
 | .ret e => s_ret (e_all T hΦ e).1
 | .ret0 => s_ret0
 | .cont => s_cont
 | .brk => s_brk
 | .bad => s_bad
theorem ss_all (T : TopOk G) (hΦ : FOk G k Φ) : (ss : Ss) → SsOk G k Φ ss
 | .nil => ss_nil
 | .cons s ss => ss_cons (s_all T hΦ s) (ss_all T hΦ ss)
end
end
end RK
end
section
open PySem PySem.W PyProof.Rows
namespace RK
noncomputable def bodyOf (fd : FuncData) : List Stmt := match fd.body with | .stmts b => b | _ => []
noncomputable def isStmts (fd : FuncData) : Bool := match fd.body with | .stmts _ => true | _ => false
theorem stmts_of {fd : FuncData} (h : isStmts fd = true) : fd.body = .stmts (bodyOf fd) := by
 unfold isStmts bodyOf at *
 cases z : fd.body <;> rw [z] at h <;> first | rfl | cases h
noncomputable def fdOk (K : Frag) (fd : FuncData) (q : List Nm × Ss) : Bool :=
 isStmts fd && (okSs q.2 fd.scope (bodyOf fd) && (q.1.all (lcl fd.scope) && (codeIn K fd.code fd.qualname &&
 (fd.scope.kind == .function && (!fd.scope.isCoroutine && (!fd.scope.isGenerator && (fd.closure.isEmpty && ((fd.globals == mainGlobals) && (fd.builtins == builtinsNs)))))))))
noncomputable def Bnd : Nat → (List Value → Prop) → Prop
 | 0, P => P []
 | n + 1, P => ∀ c, Bnd n fun cs => P (c :: cs)
theorem Bnd.at_ {n : Nat} : ∀ {P : List Value → Prop}, Bnd n P → ∀ cs, cs.length = n → P cs := by
 induction n with
 | zero => intro P h cs e; cases List.length_eq_zero_iff.mp e; exact h
 | succ n ih => intro P h cs e; cases cs with
  | nil => cases e
  | cons c cs => exact ih (h c) cs (Nat.succ.inj e)
structure FdOk (K : Frag) (fd : FuncData) (f : Fn) : Prop where
 body : fd.body = .stmts (bodyOf fd)
 pr : prSs f.body (bodyOf fd) = bodyOf fd
 chk : okSs f.body fd.scope (bodyOf fd) = true
 pars : f.params.all (lcl fd.scope) = true
 code : codeIn K fd.code fd.qualname = true
 kind : fd.scope.kind = .function
 nco : fd.scope.isCoroutine = false
 nge : fd.scope.isGenerator = false
 ncl : fd.closure = []
 glob : fd.globals = mainGlobals
 blt : fd.builtins = builtinsNs
theorem fdOk_of {K : Frag} {fd : FuncData} {f : Fn} (e : prSs f.body (bodyOf fd) = bodyOf fd) (h : fdOk K fd f.ent = true) : FdOk K fd f := by
 have h := and5 h
 have h4 := and5 h.2.2.2.2
 exact ⟨stmts_of h.1, e, h.2.1, h.2.2.1, h.2.2.2.1, beq_iff_eq.mp h4.1, not1 h4.2.1, not1 h4.2.2.1, List.isEmpty_iff.mp h4.2.2.2.1, beq_iff_eq.mp (and2 h4.2.2.2.2).1, beq_iff_eq.mp (and2 h4.2.2.2.2).2⟩
noncomputable def fdAt (K : Frag) (a : Addr) : FuncData := match K.lookup a with
 | some ⟨_, _, .func fd, _⟩ => fd
 | _ => default
noncomputable def isFunc (K : Frag) (a : Addr) : Bool := match K.lookup a with
 | some ⟨_, _, .func _, _⟩ => true
 | _ => false
noncomputable def fnOk (K : Frag) (a : Addr) (f : Fn) : Prop := isFunc K a = true ∧ prSs f.body (bodyOf (fdAt K a)) = bodyOf (fdAt K a) ∧ fdOk K (fdAt K a) f.ent = true ∧ Bnd f.params.length fun cs => bindArgs (fdAt K a) ⟨cs, []⟩ = pure ((f.params.map nmS).zip cs)
theorem func_at {K : Frag} {a : Addr} (h : isFunc K a = true) : ∃ oc od osl, K.lookup a = some ⟨oc, od, .func (fdAt K a), osl⟩ := by
 unfold isFunc at h
 unfold fdAt
 cases z : K.lookup a with
 | none => rw [z] at h; cases h
 | some o =>
  rw [z] at h
  obtain ⟨oc, od, dt, osl⟩ := o
  cases dt <;> first | exact ⟨_, _, _, rfl⟩ | cases h
theorem fnOk_of {K : Frag} {a : Addr} {f : Fn} (h : fnOk K a f) : ∃ oc od fd osl, K.lookup a = some ⟨oc, od, .func fd, osl⟩ ∧ FdOk K fd f ∧ ∀ cs, cs.length = f.params.length → bindArgs fd ⟨cs, []⟩ = pure ((f.params.map nmS).zip cs) :=
 let ⟨h1, h2, h3, h4⟩ := h; let ⟨oc, od, osl, e⟩ := func_at h1; ⟨oc, od, _, osl, e, fdOk_of h2 h3, h4.at_⟩
section
variable {G : Sg} {A : Around} {H : AH} {s : Shared} {k : Nat}
noncomputable def ParR (kindOf : Str → Option NameKind) (h : Heap) (ρ : Lo) (m cm : Str → Option Value) : Prop := ∀ x v, ρ x = some v →
 (kindOf (nmS x) = some .local → ∃ c, m (nmS x) = some c ∧ VR h v c) ∧ (kindOf (nmS x) = some .cell → ∃ c, cm (nmS x) = some c ∧ VR h v c)
theorem par_all {kindOf : Str → Option NameKind} {h : Heap} : ∀ {xs : List Nm} {vs : List V} {cs : List Value} {ρ : Lo} {m cm : Str → Option Value}, ParR kindOf h ρ m cm → VRs h vs cs → vs.length = xs.length → (∀ x ∈ xs, kindOf (nmS x) = some .local ∨ kindOf (nmS x) = some .cell) →
  ParR kindOf h (updL ρ xs vs) (bindL kindOf ((xs.map nmS).zip cs) m) (bindC kindOf ((xs.map nmS).zip cs) cm)
 | [], [], _, ρ, m, cm, p, .nil, _, _ => p
 | [], _ :: _, _, _, _, _, _, _, hl, _ => by cases hl
 | _ :: _, [], _, _, _, _, _, _, hl, _ => by cases hl
 | x :: xs, v :: vs, _, ρ, m, cm, p, .cons (c := c) (cs := cs) a r, hl, hk => by
  have ih : ∀ {m' cm'}, ParR kindOf h (upd ρ x v) m' cm' → ParR kindOf h (updL (upd ρ x v) xs vs) (bindL kindOf ((xs.map nmS).zip cs) m') (bindC kindOf ((xs.map nmS).zip cs) cm') := fun p' => par_all p' r (by simpa using hl) fun y hy => hk y (.tail _ hy)
  show ParR kindOf h (updL (upd ρ x v) xs vs) (bindL kindOf ((xs.map nmS).zip cs) _) (bindC kindOf ((xs.map nmS).zip cs) _)
  refine ih fun y w hw => ?_
  unfold upd at hw
  by_cases q : y = x
  ·subst q
   rw [if_pos rfl] at hw; cases hw
   refine ⟨fun e => ⟨c, by rw [if_pos e]; exact if_pos rfl, a⟩, fun e => ⟨c, ?_, a⟩⟩
   rw [if_neg (by rw [e]; decide)]; exact if_pos rfl
  ·rw [if_neg q] at hw
   have ne : nmS y ≠ nmS x := fun e => q (nmS_inj e)
   obtain ⟨p1, p2⟩ := p y w hw
   refine ⟨fun e => ?_, fun e => ?_⟩
   ·obtain ⟨c', h1, h2⟩ := p1 e
    refine ⟨c', ?_, h2⟩
    split
    ·dsimp only; rw [if_neg ne]; exact h1
    ·exact h1
   ·obtain ⟨c', h1, h2⟩ := p2 e
    refine ⟨c', ?_, h2⟩
    split
    ·exact h1
    ·dsimp only; rw [if_neg ne]; exact h1
set_option tactic.hygienic true in
theorem cells_some : ∀ {names : List (Str × NameKind)} {k : Nat} {acc : List (Str × Addr)} {n : Str}, ((n, NameKind.cell) ∈ names ∨ (acc.lookup n).isSome = true) → ((cellsFrom k names acc).lookup n).isSome = true
 | [], _, _, _, h => h.elim (fun z => by cases z) id
 | (m, kd) :: r, k, acc, n, h => by
  unfold cellsFrom
  split
  ·rename_i hk
   refine cells_some ?_
   rcases h with h | h
   ·cases h with
    | head => right; rw [List.lookup_cons]; simp
    | tail _ h => exact .inl h
   ·right; rw [List.lookup_cons]
    by_cases q : n = m
    ·simp [q]
    ·rw [show (n == m) = false from by simp [q]]; exact h
  ·rename_i hk
   refine cells_some ?_
   rcases h with h | h
   ·cases h with
    | head => exact absurd rfl hk
    | tail _ h => exact .inl h
   ·exact .inr h
theorem fok_zero (G : Sg) : FOk G 0 (phi 0) := fun _ _ _ _ _ _ _ _ _ _ _ h => h.elim
theorem fok_succ (T : TopOk G) (hF : ∀ f, fnOk G.K (G.fa f) f) (ih : FOk G k (phi k)) : FOk G (k + 1) (phi (k + 1)) := by
 intro f vs cs H s A Q hr S hsz rs h
 obtain ⟨hlen, h⟩ := h
 obtain ⟨oc, od, fd, osl, hK, D, hbind⟩ := fnOk_of (hF f)
 ···have hX := T.kin.keeps S.keep
    have ho := hX _ _ hK
    have hbind := hbind cs (rs.length.trans hlen)
    have kin : ∀ x ∈ f.params, fd.scope.names.lookup (nmS x) = some .local ∨ fd.scope.names.lookup (nmS x) = some .cell := fun x hx => by
     exact lcl_of (List.all_eq_true.mp D.pars x hx)
    refine codeAny_call_cells (by have := hr.2.1; omega) ho rfl (T.nolimit.keeps S.keep) (codeRec_of hX D.code) D.body hbind D.ncl (fun p hp' => ?_) (fun s₁ x => ?_) D.nco D.nge D.kind
    ·obtain ⟨n, c⟩ := p
     have hn := (List.of_mem_zip hp').1
     obtain ⟨y, hy, rfl⟩ := List.mem_map.mp hn
     rcases kin y hy with z | z
     ·exact .inl z
     ·exact .inr ⟨z, cells_some (.inl (lookup_mem z))⟩
    ·generalize he : callEnvC fd s.heap.objs.size (G.fa f) = env at x ⊢
     have e1 : env.locals = s.heap.objs.size := by rw [← he]; rfl
     have e2 : env.scope = fd.scope := by rw [← he]; rfl
     have e3 : env.cells = cellsFrom (s.heap.objs.size + 1) fd.scope.names [] := by rw [← he]; rfl
     have e4 : env.globals = mainGlobals := by rw [← he]; exact D.glob
     have e5 : env.builtins = builtinsNs := by rw [← he]; exact D.blt
     have kO : env.kindOf = fun n => fd.scope.names.lookup n := by funext n; show env.scope.names.lookup n = _; rw [e2]
     have hL : s.heap.get? env.locals = none := by rw [e1]; exact get_size _
     have hC : ∀ n ca, env.cells.lookup n = some ca → s.heap.get? ca = none ∧ ca ≠ env.locals := fun n ca hc => by
      have := x.above n ca (PySem.mem_of_lookup hc)
      refine ⟨?_, Nat.ne_of_gt this⟩
      cases z : s.heap.get? ca with
      | none => rfl
      | some o =>
       rw [e1] at this
       exact absurd (Heap.lt_size z) (Nat.not_lt.mpr (Nat.le_of_lt this))
     obtain ⟨h', tk, es, kp⟩ := x.done
     have S1 : St G H s₁.heap := by rw [es]; exact S.grow kp
     have rs1 : VRs s₁.heap vs cs := by rw [es]; exact rs.keep (Keep.tup kp)
     have par := par_all (kindOf := env.kindOf) (h := s₁.heap) (ρ := fun _ => none) (m := fun _ => none) (cm := fun _ => none) (fun _ _ e => by cases e) rs1 hlen (fun y hy => by rw [kO]; exact kin y hy)
     have F : Frm G env (bindL env.kindOf ((f.params.map nmS).zip cs) fun _ => none) H s₁.heap (updL (fun _ => none) f.params vs) := by
      refine ⟨⟨x.toInCall.ns, S1.keep, by rw [e1]; exact hsz⟩, fun y v hv => ?_, S.dead hL, fun n ca hc => ⟨S.dead (hC n ca hc).1, (hC n ca hc).2, _, x.cell n ca hc⟩, fun n hn => ?_, by rw [e2]; exact D.kind, e4, e5, fun n n' ca h1 h2 => name_of_addr x.apart (PySem.mem_of_lookup h1) (PySem.mem_of_lookup h2), fun n ca hc => h0_dead S (hC n ca hc).1⟩
      ·obtain ⟨p1, p2⟩ := par y v hv
       by_cases z1 : env.kindOf (nmS y) = some .local
       ·exact .inl ⟨z1, p1 z1⟩
       ·by_cases z2 : env.kindOf (nmS y) = some .cell
        ·obtain ⟨c, h1, h2⟩ := p2 z2
         have : ((env.cells).lookup (nmS y)).isSome = true := by
          rw [e3]
          rw [kO] at z2
          exact cells_some (.inl (lookup_mem z2))
         obtain ⟨ca, hca⟩ := Option.isSome_iff_exists.mp this
         exact .inr (.inl ⟨z2, ca, c, hca, h1 ▸ x.cell _ ca hca, h2⟩)
        ·exact .inr (.inr ⟨z1, z2⟩)
      ·have : ((env.cells).lookup n).isSome = true := by
        rw [e3]
        rw [kO] at hn
        exact cells_some (.inl (lookup_mem hn))
       exact Option.isSome_iff_exists.mp this
     have c : Cx G k (A.deeper env) env (bindL env.kindOf ((f.params.map nmS).zip cs) fun _ => none) H s₁ (updL (fun _ => none) f.params vs) := ⟨⟨hr.1, by show A.depth + 1 + 2 * k + 3 < _; have := hr.2.1; omega, by show A.units + 3 + 10 * k + 45 < _; have := hr.2.2; omega⟩, S1, F⟩
     rw [← D.pr]
     refine wpAny_mono (ss_all T ih f.body c (by rw [e2]; exact D.chk) h) (fun fl s' q => ?_) fun _ _ z => z.elim
     obtain ⟨o, ρ', H', m', r, x', F', q⟩ := q
     have R : Ret G H s H' s' := by
      obtain ⟨hh, tt, e'⟩ := x'.same
      refine ⟨⟨hh, tt, by rw [e', es]⟩, x'.st, fun b o e _ hn => ?_, fun b hb => ?_, fun b o e => ?_⟩
      ·have eb : s₁.heap.get? b = some o := by rw [es]; exact kp b o e
       refine x'.ev.keep b o eb (fun p => ?_) hn
       rcases p with p | ⟨n, p⟩
       ·rw [p, hL] at e; cases e
       ·rw [(hC n b p).1] at e; cases e
      ·rcases x'.ev.dom b hb with z | z
       ·exact .inl z
       ·refine .inr ?_
        cases z' : s.heap.get? b with
        | none => rfl
        | some o =>
         have : s₁.heap.get? b = some o := by rw [es]; exact kp b o z'
         rw [z] at this; cases this
      ·have eb : s₁.heap.get? b = some o := by rw [es]; exact kp b o e
       exact x'.ev.alive b o eb
     cases r with
     | nx => exact ⟨.none, .none, H', rfl, .none, R, q⟩
     | rt r => exact ⟨_, _, H', rfl, r, R, q⟩
     | br => exact q.elim
     | ct => exact q.elim
theorem fok (T : TopOk G) (hF : ∀ f, fnOk G.K (G.fa f) f) : ∀ k, FOk G k (phi k)
 | 0 => fok_zero G
 | k + 1 => fok_succ T hF (fok T hF k)
end
end RK
end
section
open PySem PySem.W PyProof.Rows
namespace RK
noncomputable def faTab : List Addr := [89, 96, 103, 110, 117, 124, 138, 145, 159, 234, 241, 288, 330, 337, 358, 386, 400, 407, 414, 428, 442, 449, 463, 484, 491, 498, 505, 512, 519, 533, 540, 554, 561, 568, 589, 603, 610, 624, 631, 638, 645, 652, 659, 673, 680, 687, 692, 697, 704, 709, 714, 719, 726, 731, 738, 745, 752, 757, 764, 769, 774, 779]
noncomputable def faJ (f : Fn) : Addr := nthD 89 faTab f
noncomputable def caJ : Cl → Addr
 | .BytesOrder => 218
 | .InternalOrder => 272
 | .Options => 305
 | .FileMeta => 340
 | .VersionEdit => 375
 | .Version => 466
 | .VersionMaker => 522
 | .Compaction => 592
 | .Picker => 662
noncomputable def ginOk (K : Frag) (x : Nm) : Bool := match nsIn K mainGlobals (nmS x) with | some (some (.int i _)) => i == gval x | _ => false
noncomputable def fieldsOk (K : Frag) (C : Cl) : Bool := C.fields.all fun x => fieldOk K (caJ C) (nmS x)
noncomputable def methsOk (K : Frag) (C : Cl) : Bool := C.meths.all fun q => methOk K (caJ C) (nmS q.1) (faJ q.2)
noncomputable def gfnOk (K : Frag) (n : Str) (a : Addr) : Prop := keepIn K (.ref a) = true ∧ (n ≠ Str.ofString "" → nsIn K mainGlobals n = some (some (.ref a)))
noncomputable def fnOkE (K : Frag) (q : List Nm × Ss) (a : Addr) : Prop := isFunc K a = true ∧ prSs q.2 (bodyOf (fdAt K a)) = bodyOf (fdAt K a) ∧ fdOk K (fdAt K a) q = true ∧ Bnd q.1.length fun cs => bindArgs (fdAt K a) ⟨cs, []⟩ = pure ((q.1.map nmS).zip cs)
theorem all2c {α β : Type} {P : α → β → Prop} {x : α} {xs : List α} {y : β} {ys : List β} (h : P x y) (k : All2 P xs ys) : All2 P (x :: xs) (y :: ys) := ⟨h, k⟩
theorem all2n {α β : Type} {P : α → β → Prop} : All2 P [] [] := trivial
theorem fE {K : Frag} {q : List Nm × Ss} {a : Addr} (h1 : isFunc K a = true) (h2 : prSs q.2 (bodyOf (fdAt K a)) = bodyOf (fdAt K a)) (h3 : fdOk K (fdAt K a) q = true) (h4 : Bnd q.1.length fun cs => bindArgs (fdAt K a) ⟨cs, []⟩ = pure ((q.1.map nmS).zip cs)) : fnOkE K q a := ⟨h1, h2, h3, h4⟩
theorem gE {K : Frag} {n : Str} {a : Addr} (h1 : keepIn K (.ref a) = true) (h2 : n ≠ Str.ofString "" → nsIn K mainGlobals n = some (some (.ref a))) : gfnOk K n a := ⟨h1, h2⟩
structure JOk (K : Frag) : Prop where
 fn1 : All2 (fnOkE K) fnTab faTab
 gfn1 : All2 (gfnOk K) fnSs faTab
 gcl : ∀ C : Cl, nsIn K mainGlobals C.S = some (some (.ref (caJ C)))
 gin1 : gNm.all (ginOk K) = true
 gbi : ∀ b : BI, nsIn K mainGlobals b.S = some none
 grg : nsIn K mainGlobals (Str.ofString "range") = some none
 fields : ∀ C, fieldsOk K C = true
 cls : ∀ C, clsOk K (caJ C) ((Cl.init C).map faJ) = true
 meth1 : ∀ C : Cl, methsOk K C = true
theorem JOk.fn {K : Frag} (J : JOk K) (f : Fn) : fnOk K (faJ f) f := nth2 (P := fnOkE K) J.fn1.1 J.fn1 f
theorem JOk.gfk {K : Frag} (J : JOk K) (f : Fn) : gfnOk K f.S (faJ f) := nth2 J.gfn1.1 J.gfn1 f
theorem JOk.gin {K : Frag} (J : JOk K) : ∀ x ∈ gNm, ∃ t, nsIn K mainGlobals (nmS x) = some (some (.int (gval x) t)) := fun x hx => by
 have h := List.all_eq_true.mp J.gin1 x hx
 unfold ginOk at h
 cases z : nsIn K mainGlobals (nmS x) with
 | none => rw [z] at h; cases h
 | some o =>
  rw [z] at h
  cases o with
  | none => cases h
  | some v =>
   cases v <;> first | exact ⟨_, by rw [beq_iff_eq.mp h]⟩ | cases h
theorem JOk.meth {K : Frag} (J : JOk K) (C : Cl) (x : Nm) (f : Fn) (h : Cl.meth C x = some f) : methOk K (caJ C) (nmS x) (faJ f) = true := List.all_eq_true.mp (J.meth1 C) _ (meths_mem h)
theorem JOk.clsOk {G : Sg} (J : JOk G.K) (hc : G.ca = caJ) (hf : G.fa = faJ) : ClsOk G where
 field := fun C x hx => by rw [hc]; exact List.all_eq_true.mp (J.fields C) x hx
 cls := fun C => by rw [hc, hf]; exact J.cls C
 meth := fun C x f h => by rw [hc, hf]; exact J.meth C x f h
end RK
end
section
open PySem PySem.W PyProof.Rows
namespace RK
noncomputable abbrev SJ (K : Frag) (w : World) (h : Heap) : Sg := { prog := PySem.Challenge.rw_xm0866_01.row.prog, w := w, K := K, h₀ := h, ca := caJ, fa := faJ }
theorem topJ {K : Frag} (J : JOk K) {w : World} {h : Heap} {p : Program} {loose : List Str} {mean : ExcName → Option Value} {mg mb : Str → Option Value} (KX : K.In h) (T : Top p loose mean mg mb h) (low : sysModules < h.objs.size) : TopOk (SJ K w h) where
 kin := KX
 cls := JOk.clsOk (G := SJ K w h) J rfl rfl
 mg := ⟨mg, T.g⟩
 mb := ⟨mb, T.b, fun b => (T.builtins b.S (by cases b <;> decide)).trans (by cases b <;> kernel_rfl), (T.builtins _ (by decide)).trans (by kernel_rfl)⟩
 nolimit := T.nolimit
 sm := low
 gfn := fun f => (J.gfk f).2
 kfn := fun f => (J.gfk f).1
 gcl := J.gcl
 gin := J.gin
 gbi := J.gbi
 grg := J.grg
noncomputable def H0 (sa : Addr) (ns : List Int) : AH := fun a => if a = sa then some (.rol (ns.map .int)) else none
noncomputable def LawAbs : Prop := ∀ (ns : List Int) (sa : Addr), ns.length ≤ 63 → exSs (phi 60) Fn.law.body (updL (fun _ => none) [.script] [.ref sa]) (H0 sa ns) (fun o _ _ => o = .rt (.bool true))
set_option tactic.hygienic true in
theorem lawJ (law : LawAbs) {K : Frag} (J : JOk K) {w : World} {s₁ : Shared} {p : Program} {loose : List Str} {mean : ExcName → Option Value} {mg mb m : Str → Option Value} {name : Str} {scope : Scope} {body : List Stmt} {fa sa : Addr} {cd : Value} {h₁ : Heap} {tk : Tok} {vs : List Value} {ns : List Int} {Q : Flow → Shared → Prop} {E : Value → Shared → Prop}
  (KX : K.In s₁.heap) (T : Top p loose mean mg mb s₁.heap) (low : sysModules < s₁.heap.objs.size) (F : Fr s₁.heap s₁.heap.objs.size h₁ m) (hl : s₁.heap.IsList sa vs.toArray) (hI : IntsAre vs ns) (hlen : ¬ ((63 : Nat) : Int) < ((ns.length : Nat) : Int))
  (hm : m (nmS .script) = some (.ref sa)) (hk : scope.kind = .function) (hloc : scope.names.lookup (nmS .script) = some .local) (hcell : (scope.names.all fun q => q.2 != .cell) = true) (hchk : prSs Fn.law.body body = body ∧ okSs Fn.law.body scope body = true)
  (hQ : ∀ s' m', Fr s₁.heap s₁.heap.objs.size s'.heap m' → s'.gens = s₁.gens → s'.os = s₁.os → Q (.ret (.bool true)) s') :
  wpAny (model PySem.Challenge.rw_xm0866_01.row.prog w) (callerA.deeper (envOf name scope s₁.heap.objs.size fa cd)) (execs body (envOf name scope s₁.heap.objs.size fa cd)) Q E { heap := h₁, gens := s₁.gens, drawn := s₁.drawn, toks := tk, os := s₁.os } := by
 have TJ := topJ (w := w) J KX T low
 have hsa : sa < s₁.heap.objs.size := by obtain ⟨o, ho, _⟩ := hl; exact Heap.lt_size ho
 have S : St (SJ K w s₁.heap) (H0 sa ns) h₁ := by
  refine ⟨F.keep, fun a O e => ?_, fun a O e hr => ?_⟩
  ·unfold H0 at e
   split at e
   ·rename_i z; subst z; cases e
    obtain ⟨o, ho, r⟩ := hl
    exact ⟨vs.toArray, ⟨o, F.keep _ _ ho, r⟩, by simpa using ints_back hI⟩
   ·cases e
  ·unfold H0 at e
   split at e
   ·cases e; cases hr
   ·cases e
 have FR : Frm (SJ K w s₁.heap) (envOf name scope s₁.heap.objs.size fa cd) m (H0 sa ns) h₁ (updL (fun _ => none) [.script] [.ref sa]) := by
  refine ⟨F, fun x v hv => ?_, ?_, fun n ca hc => (by cases hc), fun n hn => ?_, hk, rfl, rfl, fun n n' ca hc => (by cases hc), fun n ca hc => (by cases hc)⟩
  ·have hx : x = .script ∧ v = .ref sa := by
    simp only [updL, upd] at hv
    split at hv
    ·rename_i z; cases hv; exact ⟨z, rfl⟩
    ·cases hv
   obtain ⟨rfl, rfl⟩ := hx
   exact .inl ⟨hloc, _, hm, .ref _⟩
  ·show (if s₁.heap.objs.size = sa then some (AO.rol (List.map V.int ns)) else none) = none
   rw [if_neg (Nat.ne_of_gt hsa)]
  ·have := lookup_mem (show scope.names.lookup n = some .cell from hn)
   have := List.all_eq_true.mp hcell _ this
   simp at this
 have c : Cx (SJ K w s₁.heap) 60 (callerA.deeper (envOf name scope s₁.heap.objs.size fa cd)) (envOf name scope s₁.heap.objs.size fa cd) m (H0 sa ns) { heap := h₁, gens := s₁.gens, drawn := s₁.drawn, toks := tk, os := s₁.os } (updL (fun _ => none) [.script] [.ref sa]) :=
  ⟨⟨rfl, by show 301 + 1 + 2 * 60 + 3 < recursionLimit; decide, by show 4 + 3 + 10 * 60 + 45 < cLine; decide⟩, S, FR⟩
 rw [← hchk.1]
 refine wpAny_mono (ss_all TJ (fok TJ J.fn 60) Fn.law.body c hchk.2 (law ns sa (by omega))) (fun f s' q => ?_) fun _ _ z => z.elim
 obtain ⟨o, ρ', H', m', r, x', F', rfl⟩ := q
 cases r with
 | rt r =>
  cases r
  obtain ⟨hh, tt, e⟩ := x'.same
  exact hQ s' m' F'.fr (by rw [e]) (by rw [e])
end RK
end
end
section
set_option Elab.async true
set_option maxRecDepth 100000
open PySem PySem.W PyProof.Rows
namespace RK
theorem fin.tw10799598880618251793 : True := trivial
theorem fin.tw10420070325720373441 : True := trivial
theorem fin.tw14682754583657844083 : True := trivial
theorem fin.tw1854364679843151614 : True := trivial
theorem fin.tw13302503733776991453 : True := trivial
theorem fin.tw16595026132435417353 : True := trivial
theorem fin.tw4064706830743436450 : True := trivial
theorem fin.tw8317079800367735354 : True := trivial
theorem fin.tw17729955862936501719 : True := trivial
theorem fin.tw3693347924721576800 : True := trivial
theorem fin.tw7887266714053336620 : True := trivial
theorem fin.tw7304096694211431145 : True := trivial
theorem fin.tw5128648652421921145 : True := trivial
theorem fin.tw9706680401978710071 : True := trivial
theorem fin.tw11552308476002387456 : True := trivial
theorem fin.tw9125047399530259895 : True := trivial
theorem fin.tw14090793946233547746 : True := trivial
theorem fin.tw6825624110699920052 : True := trivial
theorem fin.tw15218756946825852769 : True := trivial
theorem fin.tw3679675276975068865 : True := trivial
theorem fin.tw1110134661948857697 : True := trivial
theorem fin.tw2883705473711050023 : True := trivial
theorem fin.tw3730288612149481979 : True := trivial
theorem fin.tw6469510289573576638 : True := trivial
theorem fin.tw1912411109824555486 : True := trivial
theorem fin.tw8596690539039004224 : True := trivial
theorem fin.tw9015173264934525200 : True := trivial
theorem fin.tw5037944641903459351 : True := trivial
theorem fin.tw13231733735018500139 : True := trivial
theorem fin.tw7377268377554295547 : True := trivial
theorem fin.tw2794485640000774426 : True := trivial
theorem fin.tw15674760367528087025 : True := trivial
theorem fin.tw2647076941931781800 : True := trivial
theorem fin.tw6977601691018035138 : True := trivial
theorem fin.tw8101923662891303317 : True := trivial
theorem fin.tw2710040075233896834 : True := trivial
theorem fin.tw1430721045032069277 : True := trivial
theorem fin.tw11573474328097410551 : True := trivial
theorem fin.tw2122060509500661598 : True := trivial
theorem fin.tw2707991332091745758 : True := trivial
theorem fin.tw10606872764405287000 : True := trivial
theorem fin.tw14693514454424296434 : True := trivial
theorem fin.tw7905036435161358932 : True := trivial
theorem fin.tw8675818625877006914 : True := trivial
theorem fin.tw8412738222980646240 : True := trivial
theorem fin.tw5502689265402208773 : True := trivial
theorem fin.tw6242086223360400818 : True := trivial
theorem fin.tw7944133648969980008 : True := trivial
theorem fin.tw14810457256679422007 : True := trivial
theorem fin.tw2414739616623555999 : True := trivial
theorem fin.tw8404158367900775359 : True := trivial
theorem fin.tw7223937451997557823 : True := trivial
theorem fin.tw966640400629899633 : True := trivial
theorem fin.tw2775856090497331069 : True := trivial
theorem fin.tw4760081392350544581 : True := trivial
theorem fin.tw13609394009115713717 : True := trivial
theorem fin.tw17724105759021941679 : True := trivial
theorem fin.tw14975595017622739179 : True := trivial
theorem fin.tw17714568179738729132 : True := trivial
theorem fin.tw3044505028293895748 : True := trivial
theorem fin.tw11647014077404853911 : True := trivial
theorem fin.tw6203812011703845193 : True := trivial
theorem fin.tw9364481946291375122 : True := trivial
theorem fin.tw16544508540613837323 : True := trivial
theorem fin.tw17900218436492903525 : True := trivial
theorem fin.tw10222342798668951877 : True := trivial
theorem fin.tw12423848853409384206 : True := trivial
theorem fin.tw13992343661246560520 : True := trivial
theorem fin.tw11556988821259780795 : True := trivial
theorem fin.tw2932568080545006774 : True := trivial
theorem fin.tw14047273273682021930 : True := trivial
theorem fin.tw17575996667931297616 : True := trivial
theorem fin.tw11301538501895516006 : True := trivial
theorem fin.tw8007643193241794703 : True := trivial
theorem fin.tw11136590046491833127 : True := trivial
theorem fin.tw17406423464650932631 : True := trivial
theorem fin.tw7277718787846446777 : True := trivial
theorem fin.tw2383274062057334228 : True := trivial
theorem fin.tw9182622935137344445 : True := trivial
theorem fin.tw4070319884385343283 : True := trivial
theorem fin.tw17515802465144140121 : True := trivial
theorem fin.tw15863578515350780375 : True := trivial
theorem fin.tw17419484489643180858 : True := trivial
theorem fin.tw16501509626179488033 : True := trivial
theorem fin.tw15957765998679461706 : True := trivial
theorem fin.tw9920752356782037940 : True := trivial
theorem fin.tw2807870510440253423 : True := trivial
theorem fin.tw15319004345933540070 : True := trivial
theorem fin.tw16922794662823312858 : True := trivial
theorem fin.tw14825116949391616194 : True := trivial
theorem fin.tw14737941948731329477 : True := trivial
theorem fin.tw2978442993890550789 : True := trivial
theorem fin.tw6509130988616802372 : True := trivial
theorem fin.tw17902561222418964308 : True := trivial
theorem fin.tw7431182056340039867 : True := trivial
theorem fin.tw5696713380462619082 : True := trivial
theorem fin.tw5790815290500537457 : True := trivial
theorem fin.tw1114558867547681295 : True := trivial
theorem fin.tw18013649551049353973 : True := trivial
theorem fin.tw10515311350719110901 : True := trivial
theorem fin.tw6432297114780121923 : True := trivial
theorem fin.tw11816354744822138530 : True := trivial
theorem fin.tw896359942962506849 : True := trivial
theorem fin.tw6319568343675906581 : True := trivial
theorem fin.tw11808363404713904560 : True := trivial
theorem fin.tw12373249382359407059 : True := trivial
theorem fin.tw8970839630986249713 : True := trivial
theorem fin.tw7827353987896146028 : True := trivial
theorem fin.tw17110645386798877270 : True := trivial
theorem fin.tw11720509458888710544 : True := trivial
theorem fin.tw1387967765124794044 : True := trivial
theorem fin.tw8409837996773363849 : True := trivial
theorem fin.tw14976095755091719666 : True := trivial
theorem fin.tw9119509830078135552 : True := trivial
theorem fin.tw4200190476005212418 : True := trivial
theorem fin.tw11985893271147684237 : True := trivial
theorem fin.tw5436039136211539238 : True := trivial
theorem fin.tw4150281147793093811 : True := trivial
theorem fin.tw719274443813681739 : True := trivial
theorem fin.tw18142972381527537163 : True := trivial
theorem fin.tw16160807507465092952 : True := trivial
theorem fin.tw16995376516376702620 : True := trivial
theorem fin.tw7736929918910290950 : True := trivial
theorem fin.tw648268527544902082 : True := trivial
theorem fin.tw10830370110700175716 : True := trivial
theorem fin.tw6730256370275780267 : True := trivial
theorem fin.tw6158534845481310393 : True := trivial
theorem fin.tw17857795082153111286 : True := trivial
theorem fin.tw74955195297620899 : True := trivial
theorem fin.tw3662088631422824181 : True := trivial
theorem fin.tw6295649582624202726 : True := trivial
theorem fin.tw13973182687587927694 : True := trivial
theorem fin.tw10572466655434614630 : True := trivial
theorem fin.tw3757492207839829471 : True := trivial
theorem fin.tw4201729128310479531 : True := trivial
theorem fin.tw5995037138714534174 : True := trivial
theorem fin.tw15341037014930017352 : True := trivial
theorem fin.tw15697077090382754666 : True := trivial
theorem fin.tw8700779626712508925 : True := trivial
theorem fin.tw16841483422048980888 : True := trivial
theorem fin.tw13027827064172128192 : True := trivial
theorem fin.tw15660578681652757760 : True := trivial
theorem fin.tw4538376770435410877 : True := trivial
theorem fin.tw12471322208615289230 : True := trivial
theorem fin.tw3375072839974249153 : True := trivial
theorem fin.tw1439998592306486308 : True := trivial
theorem fin.tw11455486684037131337 : True := trivial
theorem fin.tw641474648096887025 : True := trivial
theorem fin.tw17305286409754928981 : True := trivial
theorem fin.tw14536595832770898978 : True := trivial
theorem fin.tw16940732509928457887 : True := trivial
theorem fin.tw4706500235442807447 : True := trivial
theorem fin.tw18187324635521961777 : True := trivial
theorem fin.tw15431399893862107120 : True := trivial
theorem fin.tw10143962725008041506 : True := trivial
theorem fin.tw8540937147638296307 : True := trivial
theorem fin.tw16633659792818782534 : True := trivial
theorem fin.tw1134407342412375961 : True := trivial
theorem fin.tw4834681822095193592 : True := trivial
theorem fin.tw7640558529357434039 : True := trivial
theorem fin.tw1082609108317883586 : True := trivial
theorem fin.tw17928696958872844244 : True := trivial
theorem fin.tw6920445454102700387 : True := trivial
theorem fin.tw13497892867919459642 : True := trivial
theorem fin.tw7068514621327196534 : True := trivial
theorem fin.tw7650574409080942902 : True := trivial
theorem fin.tw12954523409526807339 : True := trivial
theorem fin.tw4382685734295606530 : True := trivial
theorem fin.tw3308458598276198363 : True := trivial
theorem fin.tw10873057621688374937 : True := trivial
theorem fin.tw3777421886946419785 : True := trivial
theorem fin.tw1719036704629904011 : True := trivial
theorem fin.tw5129674249739826544 : True := trivial
theorem fin.tw6477371555743702188 : True := trivial
theorem fin.tw7664490795610760905 : True := trivial
theorem fin.tw6213465656667524337 : True := trivial
theorem fin.tw9859213242510852616 : True := trivial
theorem fin.tw7329270067928701555 : True := trivial
theorem fin.tw6532849818766589293 : True := trivial
theorem fin.tw14098736798850911316 : True := trivial
theorem fin.tw2995163353906771869 : True := trivial
theorem fin.tw9621049904316431044 : True := trivial
theorem fin.tw17949303041915860884 : True := trivial
theorem fin.tw6255605238581794638 : True := trivial
theorem fin.tw1508960969484180775 : True := trivial
theorem fin.tw3790942664747013397 : True := trivial
theorem fin.tw6312997639398757368 : True := trivial
theorem fin.tw15193442167815021770 : True := trivial
theorem fin.tw4013875556358324162 : True := trivial
theorem fin.tw13475615221309721837 : True := trivial
theorem fin.tw11159648184031139416 : True := trivial
theorem fin.tw13024247352966201094 : True := trivial
theorem fin.tw7956268215731815738 : True := trivial
theorem fin.tw7434423799631184601 : True := trivial
theorem fin.tw16445394150048992571 : True := trivial
theorem fin.tw1848161425801055607 : True := trivial
theorem fin.tw352834081251124540 : True := trivial
theorem fin.tw4456962990962911648 : True := trivial
theorem fin.tw18377824777629611133 : True := trivial
theorem fin.tw12295219878611349326 : True := trivial
theorem fin.tw10689393239508561128 : True := trivial
theorem fin.tw12276907271057949739 : True := trivial
theorem fin.tw11607561212835470774 : True := trivial
theorem fin.tw14516500738994842589 : True := trivial
theorem fin.tw12561200193949230750 : True := trivial
theorem fin.tw4048733651702701991 : True := trivial
theorem fin.tw11546249953647362386 : True := trivial
theorem fin.tw13031870316142709174 : True := trivial
theorem fin.tw4597054076679833144 : True := trivial
theorem fin.tw15075986828389498313 : True := trivial
theorem fin.tw5664695472731072163 : True := trivial
theorem fin.tw7647188751967402344 : True := trivial
theorem fin.tw10555127233967124303 : True := trivial
theorem fin.tw16079182274516023349 : True := trivial
theorem fin.tw13530699649172219957 : True := trivial
theorem fin.tw16299741917615154139 : True := trivial
theorem fin.tw386122742615099915 : True := trivial
theorem fin.tw17718895929907197306 : True := trivial
theorem fin.tw4162659604246837796 : True := trivial
theorem fin.tw16429275632513723429 : True := trivial
theorem fin.tw17227270559251464913 : True := trivial
theorem fin.tw10669337321904289450 : True := trivial
theorem fin.tw8582596222161893574 : True := trivial
theorem fin.tw5050022949785617775 : True := trivial
theorem fin.tw2128114946006754495 : True := trivial
theorem fin.tw9723739697470096906 : True := trivial
theorem fin.tw6336075130094729353 : True := trivial
theorem fin.tw3440216732985070669 : True := trivial
theorem fin.tw13526531840666742270 : True := trivial
theorem fin.tw1033320899231208145 : True := trivial
theorem fin.tw10467383084295522378 : True := trivial
theorem fin.tw6808922530639710519 : True := trivial
theorem fin.tw7059395939565155289 : True := trivial
theorem fin.tw7622183391682219573 : True := trivial
theorem fin.tw5596841317141515768 : True := trivial
theorem fin.tw15342312836827634620 : True := trivial
theorem fin.tw17154879413251666296 : True := trivial
theorem fin.tw2248434694116286429 : True := trivial
theorem fin.tw17997785894826086543 : True := trivial
theorem fin.tw8052133936858378357 : True := trivial
theorem fin.tw1497141354780852152 : True := trivial
theorem fin.tw3484955384079114328 : True := trivial
theorem fin.tw10855433695010223837 : True := trivial
theorem fin.tw12783888109547820421 : True := trivial
theorem fin.tw5393466549552560817 : True := trivial
theorem fin.tw5652415623374511303 : True := trivial
theorem fin.tw7810512783965294419 : True := trivial
theorem fin.tw13073953667215741044 : True := trivial
theorem fin.tw12390721631914503864 : True := trivial
theorem fin.tw14805844511120726543 : True := trivial
theorem fin.tw18193344627950189654 : True := trivial
theorem fin.tw10308298637670245027 : True := trivial
theorem fin.tw5103293854084923107 : True := trivial
theorem fin.tw6035933379529301868 : True := trivial
theorem fin.tw10043227522062685595 : True := trivial
theorem fin.tw4096245704172425077 : True := trivial
theorem fin.tw3070110810654276000 : True := trivial
theorem fin.tw4877566132595670970 : True := trivial
theorem fin.tw473865677281000732 : True := trivial
theorem fin.tw6119332828088546756 : True := trivial
theorem fin.tw17892807955596893882 : True := trivial
theorem fin.tw13106323982205938771 : True := trivial
theorem fin.tw5983825073499071685 : True := trivial
theorem fin.tw5469876046347874962 : True := trivial
theorem fin.tw14152650701307300625 : True := trivial
theorem fin.tw1880847173187549947 : True := trivial
theorem fin.tw12626876101625119382 : True := trivial
theorem fin.tw10674891619663024594 : True := trivial
theorem fin.tw469356900610800213 : True := trivial
theorem fin.tw13439888835373778375 : True := trivial
theorem fin.tw2376054144606336668 : True := trivial
theorem fin.tw17630104066486637626 : True := trivial
theorem fin.tw5045842547402132519 : True := trivial
theorem fin.tw4170327818773012785 : True := trivial
theorem fin.tw17974612045764957731 : True := trivial
theorem fin.tw11893948893387807858 : True := trivial
theorem fin.tw17914173080230920284 : True := trivial
theorem fin.tw16587664806691179188 : True := trivial
theorem fin.tw3879751828021166039 : True := trivial
theorem fin.tw16935592927606945809 : True := trivial
theorem fin.tw9429249102030366978 : True := trivial
theorem fin.tw3891230541831241117 : True := trivial
theorem fin.tw17919631642925810362 : True := trivial
theorem fin.tw12788753743283137305 : True := trivial
theorem fin.tw14128466720534962261 : True := trivial
theorem fin.tw11940749155115576239 : True := trivial
theorem fin.tw18108372838786478479 : True := trivial
theorem fin.tw14852148385701704285 : True := trivial
theorem fin.tw7673106160992018053 : True := trivial
theorem fin.tw10325611097396711814 : True := trivial
theorem fin.tw11834553917277734692 : True := trivial
theorem fin.tw14213974438268203739 : True := trivial
theorem fin.tw18427588490015758958 : True := trivial
theorem fin.tw9310373510151162362 : True := trivial
theorem fin.tw12930232699220429116 : True := trivial
theorem fin.tw11041468715635036113 : True := trivial
theorem fin.tw2477338867939719354 : True := trivial
theorem fin.tw1250319293783886166 : True := trivial
theorem fin.tw17520208205551802980 : True := trivial
theorem fin.tw1293283729571099543 : True := trivial
theorem fin.tw14538466864186991445 : True := trivial
theorem fin.tw2246971536234334199 : True := trivial
theorem fin.tw5321872355165066123 : True := trivial
theorem fin.tw13777025306330469966 : True := trivial
theorem fin.tw9491883213146072696 : True := trivial
theorem fin.tw16702495985117739279 : True := trivial
theorem fin.tw5738791218724153200 : True := trivial
theorem fin.tw13913391775922426552 : True := trivial
theorem fin.tw2423166807216548601 : True := trivial
theorem fin.tw9791890914183282394 : True := trivial
theorem fin.tw9465770656571948236 : True := trivial
theorem fin.tw11573207353423014591 : True := trivial
theorem fin.tw13687005228939915332 : True := trivial
theorem fin.tw15520571695052227276 : True := trivial
theorem fin.tw16424748923380666140 : True := trivial
theorem fin.tw3209803066710138178 : True := trivial
theorem fin.tw16703799978134864628 : True := trivial
theorem fin.tw167591932391465408 : True := trivial
theorem fin.tw5003759184345593145 : True := trivial
theorem fin.tw3478370522070851393 : True := trivial
theorem fin.tw6856373836305307350 : True := trivial
theorem fin.tw14012257823686828604 : True := trivial
theorem fin.tw14054740624775281530 : True := trivial
theorem fin.tw10506485777579034807 : True := trivial
theorem fin.tw11688168612969990739 : True := trivial
theorem fin.tw9384253934331373725 : True := trivial
theorem fin.tw12551239981878998271 : True := trivial
theorem fin.tw2260462807431024183 : True := trivial
theorem fin.tw13578719038960750073 : True := trivial
theorem fin.tw1743462460437131010 : True := trivial
theorem fin.tw17848400635568658941 : True := trivial
theorem fin.tw2553472855634919921 : True := trivial
theorem fin.tw13263187754074043983 : True := trivial
theorem fin.tw14953204291779748748 : True := trivial
theorem fin.tw8464554152311956851 : True := trivial
theorem fin.tw1697153739783314551 : True := trivial
theorem fin.tw12442079877247034699 : True := trivial
theorem fin.tw17182890426541824062 : True := trivial
theorem fin.tw10939571560260150325 : True := trivial
theorem fin.tw2637588523589960568 : True := trivial
theorem fin.tw18262896382082716859 : True := trivial
theorem fin.tw1446699157779162321 : True := trivial
theorem fin.tw15079776451429925806 : True := trivial
theorem fin.tw15171713184750046745 : True := trivial
theorem fin.tw3021296231878946831 : True := trivial
theorem fin.tw917825777792050095 : True := trivial
theorem fin.tw3240755232345275768 : True := trivial
theorem fin.tw5057698219414243557 : True := trivial
theorem fin.tw12249486157979999366 : True := trivial
theorem fin.tw540629569305726803 : True := trivial
theorem fin.tw8074122012760074009 : True := trivial
theorem fin.tw1913106896229590752 : True := trivial
theorem fin.tw13449220311160541671 : True := trivial
theorem fin.tw16815874613776492091 : True := trivial
theorem fin.tw11541868687601272490 : True := trivial
theorem fin.tw9661701927110125121 : True := trivial
theorem fin.tw16762649087661902354 : True := trivial
theorem fin.tw4200384970768745927 : True := trivial
theorem fin.tw5253525454480343450 : True := trivial
theorem fin.tw6690390837214338734 : True := trivial
theorem fin.tw8194707869650237856 : True := trivial
theorem fin.tw8926919455821450781 : True := trivial
theorem fin.tw6314025536955553056 : True := trivial
theorem fin.tw10643075489443744697 : True := trivial
theorem fin.tw5474234034660460920 : True := trivial
theorem fin.tw16226314103940122403 : True := trivial
theorem fin.tw3848056184640151837 : True := trivial
theorem fin.tw10986490486088931923 : True := trivial
theorem fin.tw1056694168633882410 : True := trivial
theorem fin.tw13904681008892167406 : True := trivial
theorem fin.tw5869298940864012755 : True := trivial
theorem fin.tw9521529232787802889 : True := trivial
theorem fin.tw14328322253271917267 : True := trivial
theorem fin.tw18244157818265884730 : True := trivial
theorem fin.tw762143714581298912 : True := trivial
theorem fin.tw12835502970609894365 : True := trivial
theorem fin.tw15941630800015504149 : True := trivial
theorem fin.tw11142209947248067678 : True := trivial
theorem fin.tw14713754616176406987 : True := trivial
theorem fin.tw6595254037669347170 : True := trivial
theorem fin.tw5685480361100826326 : True := trivial
theorem fin.tw9547516582614609463 : True := trivial
theorem fin.tw9654003380853924809 : True := trivial
theorem fin.tw8979625624064478051 : True := trivial
theorem fin.tw1886126635360949760 : True := trivial
theorem fin.tw14455124497815372767 : True := trivial
theorem fin.tw11439490203006278603 : True := trivial
theorem fin.tw17130352906957333033 : True := trivial
theorem fin.tw3423341711198090292 : True := trivial
theorem fin.tw9979132237440306569 : True := trivial
theorem fin.tw15646965220399347274 : True := trivial
theorem fin.tw5428479079301689539 : True := trivial
theorem fin.tw2870446560855478834 : True := trivial
theorem fin.tw17636178205784103973 : True := trivial
theorem fin.tw7338081094704603912 : True := trivial
theorem fin.tw4190998403675601811 : True := trivial
theorem fin.tw14001788460924335116 : True := trivial
theorem fin.tw17773388558972410157 : True := trivial
theorem fin.tw16451254660776754255 : True := trivial
theorem fin.tw10360367399261384636 : True := trivial
theorem fin.tw5118382058811382739 : True := trivial
theorem fin.tw5381820834325988685 : True := trivial
theorem fin.tw8769486425496291656 : True := trivial
theorem fin.tw10748415958395196117 : True := trivial
theorem fin.tw9923744292183149783 : True := trivial
theorem fin.tw4749773262980449632 : True := trivial
theorem fin.tw409990245824057856 : True := trivial
theorem fin.tw16318699453375377304 : True := trivial
theorem fin.tw2361965439819628388 : True := trivial
theorem fin.tw8826302857512697882 : True := trivial
theorem fin.tw16451637735599161056 : True := trivial
theorem fin.tw7991205958910530165 : True := trivial
theorem fin.tw12701233962454949779 : True := trivial
theorem fin.tw13180836349957773357 : True := trivial
theorem fin.tw9184852208151559756 : True := trivial
theorem fin.tw9860077990596138877 : True := trivial
theorem fin.tw14252195770906311427 : True := trivial
theorem fin.tw15085014838995226551 : True := trivial
theorem fin.tw3830444678769737485 : True := trivial
theorem fin.tw4928677123383785656 : True := trivial
theorem fin.tw2639360721533067169 : True := trivial
theorem fin.tw16118396188119469168 : True := trivial
theorem fin.tw10699333366664199743 : True := trivial
theorem fin.tw16233572722108986441 : True := trivial
theorem fin.tw2508624083202991800 : True := trivial
theorem fin.tw3062506505399206157 : True := trivial
theorem fin.tw12036142722067639806 : True := trivial
theorem fin.tw10290562549572119476 : True := trivial
theorem fin.tw14986658247097512788 : True := trivial
theorem fin.tw76847787271592813 : True := trivial
theorem fin.tw9058881722123911402 : True := trivial
theorem fin.tw11321963152233792310 : True := trivial
theorem fin.tw4806196918299310157 : True := trivial
theorem fin.tw7722914320068723724 : True := trivial
theorem fin.tw12140932882250525752 : True := trivial
theorem fin.tw4403416586239125484 : True := trivial
theorem fin.tw8247093515403346266 : True := trivial
theorem fin.tw5977302177471249826 : True := trivial
theorem fin.tw17731748624129444095 : True := trivial
theorem fin.tw62990924572768476 : True := trivial
theorem fin.tw6885538612523698489 : True := trivial
theorem fin.tw11533206947711276603 : True := trivial
theorem fin.tw14857590694918311131 : True := trivial
theorem fin.tw322168412988619935 : True := trivial
theorem fin.tw16614824820186566690 : True := trivial
theorem fin.tw5600163521963126800 : True := trivial
theorem fin.tw11281334318467652734 : True := trivial
theorem fin.tw18256132855763537374 : True := trivial
theorem fin.tw3658597028988609963 : True := trivial
theorem fin.tw1433162227393110840 : True := trivial
theorem fin.tw8012655675560250516 : True := trivial
theorem fin.tw4412288590450136296 : True := trivial
theorem fin.tw7573075164252999280 : True := trivial
theorem fin.tw9068919667902179288 : True := trivial
theorem fin.tw4918535564250200605 : True := trivial
theorem fin.tw13716859257084341522 : True := trivial
theorem fin.tw15506146131184688310 : True := trivial
theorem fin.tw9822866584637942812 : True := trivial
theorem fin.tw13785632745489638351 : True := trivial
theorem fin.tw12640625059770082450 : True := trivial
theorem fin.tw16774912939331016383 : True := trivial
theorem fin.tw8663253232211309201 : True := trivial
theorem fin.tw10899605874101710497 : True := trivial
theorem fin.tw15650127048574086917 : True := trivial
theorem fin.tw9755869898943016535 : True := trivial
theorem fin.tw3727123109725141825 : True := trivial
theorem fin.tw8406805213445813476 : True := trivial
theorem fin.tw1273553811036073935 : True := trivial
theorem fin.tw15648872053726466931 : True := trivial
theorem fin.tw2721719236188552202 : True := trivial
theorem fin.tw12569777479456373584 : True := trivial
theorem fin.tw11415926766828998929 : True := trivial
theorem fin.tw16686748418609914948 : True := trivial
theorem fin.tw8792989326288364973 : True := trivial
theorem fin.tw16537100655083476559 : True := trivial
theorem fin.tw5829067789663652530 : True := trivial
theorem fin.tw14820888646623031598 : True := trivial
theorem fin.tw4501272412398986989 : True := trivial
theorem fin.tw11279725140821917328 : True := trivial
theorem fin.tw16614977989524526801 : True := trivial
theorem fin.tw2354722802567925248 : True := trivial
theorem fin.tw15386384755440538004 : True := trivial
theorem fin.tw9291921353422788452 : True := trivial
theorem fin.tw16793608895961978915 : True := trivial
theorem fin.tw14444468478233379319 : True := trivial
theorem fin.tw9464230776135501546 : True := trivial
theorem fin.tw11795597965094543881 : True := trivial
theorem fin.tw1133057354163768172 : True := trivial
theorem fin.tw3135216962190095950 : True := trivial
theorem fin.tw15463983679731444898 : True := trivial
theorem fin.tw13387447242415446536 : True := trivial
theorem fin.tw13633446265135063967 : True := trivial
theorem fin.tw4503688261343600114 : True := trivial
theorem fin.tw250306317920559163 : True := trivial
theorem fin.tw9396175420768540678 : True := trivial
theorem fin.tw3916524160897245815 : True := trivial
theorem fin.tw8550979024651437902 : True := trivial
theorem fin.tw9047786702391676446 : True := trivial
theorem fin.tw15485769600163872879 : True := trivial
theorem fin.tw15949434895251327705 : True := trivial
theorem fin.tw4814069989413968617 : True := trivial
theorem fin.tw1947422199713656730 : True := trivial
theorem fin.tw7771320377907460733 : True := trivial
theorem fin.tw10668978934440727184 : True := trivial
theorem fin.tw15258250731103178901 : True := trivial
theorem fin.tw8870473673438879523 : True := trivial
theorem fin.tw13413971907263787564 : True := trivial
theorem fin.tw5349195343309217005 : True := trivial
theorem fin.tw15714399645499799403 : True := trivial
theorem fin.tw10799577873075103666 : True := trivial
theorem fin.tw10667794578779035687 : True := trivial
theorem fin.tw15339844531419462990 : True := trivial
theorem fin.tw12836196563489409706 : True := trivial
theorem fin.tw11008773999801737700 : True := trivial
theorem fin.tw6106503714755163952 : True := trivial
theorem fin.tw14493162360184939595 : True := trivial
theorem fin.tw1058495169289453268 : True := trivial
theorem fin.tw10108784694423078249 : True := trivial
theorem fin.tw2064694071870995037 : True := trivial
theorem fin.tw7200650208549995277 : True := trivial
theorem fin.tw12959668565275191694 : True := trivial
theorem fin.tw15514453696060635111 : True := trivial
theorem fin.tw12364860470874901181 : True := trivial
theorem fin.tw7888761259770061004 : True := trivial
theorem fin.tw4171124506201965100 : True := trivial
theorem fin.tw26510453461181464 : True := trivial
theorem fin.tw3157451803083021777 : True := trivial
theorem fin.tw8995758771218796801 : True := trivial
theorem fin.tw2992172292598002503 : True := trivial
theorem fin.tw8284534784677486586 : True := trivial
theorem fin.tw13393366537943935255 : True := trivial
theorem fin.tw2101306530167374990 : True := trivial
theorem fin.tw9573868976799395963 : True := trivial
theorem fin.tw13253577749383715704 : True := trivial
theorem fin.tw8648660486389807840 : True := trivial
theorem fin.tw5027888184842049587 : True := trivial
theorem fin.tw14689147168548834590 : True := trivial
theorem fin.tw14209854250352931227 : True := trivial
theorem fin.tw8194000664728546005 : True := trivial
theorem fin.tw15256000591914858115 : True := trivial
theorem fin.tw6767316078556189339 : True := trivial
theorem fin.tw13980507866896052657 : True := trivial
theorem fin.tw2145671784083724850 : True := trivial
theorem fin.tw16087047969968390448 : True := trivial
theorem fin.tw9974460806689145355 : True := trivial
theorem fin.tw3837020192013115270 : True := trivial
theorem fin.tw11740434028859700865 : True := trivial
theorem fin.tw1808014967181542866 : True := trivial
theorem fin.tw16999385864227299268 : True := trivial
theorem fin.tw1459852684789207626 : True := trivial
theorem fin.tw4742815898889448578 : True := trivial
theorem fin.tw5700677138818212977 : True := trivial
theorem fin.tw12379941427062596324 : True := trivial
theorem fin.tw10105237398236048455 : True := trivial
theorem fin.tw1866784732584292713 : True := trivial
theorem fin.tw2523628776921373809 : True := trivial
theorem fin.tw8489436411360342943 : True := trivial
theorem fin.tw6101793864434344764 : True := trivial
theorem fin.tw16629269863001720121 : True := trivial
theorem fin.tw7458192581958353719 : True := trivial
theorem fin.tw10251270432456017770 : True := trivial
theorem fin.tw3389473056894394168 : True := trivial
theorem fin.tw15947067957433850118 : True := trivial
theorem fin.tw18313952559071302848 : True := trivial
theorem fin.tw1596528405219192229 : True := trivial
theorem fin.tw12933485355421804687 : True := trivial
theorem fin.tw9022605949611476853 : True := trivial
theorem fin.tw1437483686205818840 : True := trivial
theorem fin.tw5798754423728380569 : True := trivial
theorem fin.tw8201497961233921114 : True := trivial
theorem fin.tw9237930765762171431 : True := trivial
theorem fin.tw14789098973566946308 : True := trivial
theorem fin.tw11964643659388724930 : True := trivial
theorem fin.tw17737171502417500123 : True := trivial
theorem fin.tw12933375532053335472 : True := trivial
theorem fin.tw16559902353750564206 : True := trivial
theorem fin.tw7460169423117830983 : True := trivial
theorem fin.tw2358264483288039539 : True := trivial
theorem fin.tw10727092435205841891 : True := trivial
theorem fin.tw10646252288397817231 : True := trivial
theorem fin.tw3203684188816497068 : True := trivial
theorem fin.tw7784609232313014041 : True := trivial
theorem fin.tw17626573522908435353 : True := trivial
theorem fin.tw13615099101502137293 : True := trivial
theorem fin.tw4704400220278287189 : True := trivial
theorem fin.tw4713386610045279217 : True := trivial
theorem fin.tw5365292248437511617 : True := trivial
theorem fin.tw1708480793326904160 : True := trivial
theorem fin.tw195568090392806509 : True := trivial
theorem fin.tw490473649413752363 : True := trivial
theorem fin.tw6616045265434733726 : True := trivial
theorem fin.tw3404004394186572433 : True := trivial
theorem fin.tw18320635291820783919 : True := trivial
theorem fin.tw11863721342217128722 : True := trivial
theorem fin.tw13024351599357142824 : True := trivial
theorem fin.tw14335737873991848186 : True := trivial
theorem fin.tw17554868930790050011 : True := trivial
theorem fin.tw7122644230378191259 : True := trivial
theorem fin.tw15912969532691928729 : True := trivial
theorem fin.tw1934021574751966456 : True := trivial
theorem fin.tw5413108636820406947 : True := trivial
theorem fin.tw10665799623373381367 : True := trivial
theorem fin.tw16323180535220155477 : True := trivial
theorem fin.tw7534773500254578203 : True := trivial
theorem fin.tw5713948223018751281 : True := trivial
theorem fin.tw1932817274304792918 : True := trivial
theorem fin.tw14875641869665417101 : True := trivial
theorem fin.tw17253752016056444570 : True := trivial
theorem fin.tw10271600055786829280 : True := trivial
theorem fin.tw8616052265544744892 : True := trivial
theorem fin.tw16815195147869423523 : True := trivial
theorem fin.tw12660922590199109507 : True := trivial
theorem fin.tw2959394373312520676 : True := trivial
theorem fin.tw7510054315534811442 : True := trivial
theorem fin.tw3188609690642085822 : True := trivial
theorem fin.tw13677827287364504269 : True := trivial
theorem fin.tw2084351602558625465 : True := trivial
theorem fin.tw9367027223906675700 : True := trivial
theorem fin.tw11757138762177418733 : True := trivial
theorem fin.tw7915637313375847167 : True := trivial
theorem fin.tw5506919047459500565 : True := trivial
theorem fin.tw4611056870364738676 : True := trivial
theorem fin.tw17306775927427036387 : True := trivial
theorem fin.tw1132051738121003565 : True := trivial
theorem fin.tw6513261763830581972 : True := trivial
theorem fin.tw11418944405818534079 : True := trivial
theorem fin.tw15599716713805655178 : True := trivial
theorem fin.tw12819340541337645451 : True := trivial
theorem fin.tw8228725875218827272 : True := trivial
theorem fin.tw13220331582156122831 : True := trivial
theorem fin.tw12594887983667307468 : True := trivial
theorem fin.tw7779772114174623978 : True := trivial
theorem fin.tw14770685122519357815 : True := trivial
theorem fin.tw15911406483520983539 : True := trivial
theorem fin.tw12889476529061033160 : True := trivial
theorem fin.tw1820843971349280932 : True := trivial
theorem fin.tw6653458721650433941 : True := trivial
theorem fin.tw17632080992183486097 : True := trivial
theorem fin.tw16960659561732716965 : True := trivial
theorem fin.tw15757942505818217350 : True := trivial
theorem fin.tw16897507737168966802 : True := trivial
theorem fin.tw2206520873375281184 : True := trivial
theorem fin.tw11825836191521785871 : True := trivial
theorem fin.tw975131575171004835 : True := trivial
theorem fin.tw771201504302675743 : True := trivial
theorem fin.tw4678896114164201557 : True := trivial
theorem fin.tw12816516045081786676 : True := trivial
theorem fin.tw4085381638854765170 : True := trivial
theorem fin.tw10016827571950691653 : True := trivial
theorem fin.tw16451377334545799428 : True := trivial
theorem fin.tw17938725499293536060 : True := trivial
theorem fin.tw14565040965650435616 : True := trivial
theorem fin.tw10657747528566048798 : True := trivial
theorem fin.tw11073034484650337984 : True := trivial
theorem fin.tw8070637820784247544 : True := trivial
theorem fin.tw2266167113479348805 : True := trivial
theorem fin.tw3554442488989971602 : True := trivial
theorem fin.tw8324816241518797663 : True := trivial
theorem fin.tw16493019228601918649 : True := trivial
theorem fin.tw16392087335666499686 : True := trivial
theorem fin.tw13821438465763196903 : True := trivial
theorem fin.tw14936656487082500220 : True := trivial
theorem fin.tw16069515978298064668 : True := trivial
theorem fin.tw5712715814230750465 : True := trivial
theorem fin.tw1378015764318688767 : True := trivial
theorem fin.tw12389516228731212309 : True := trivial
theorem fin.tw3293532786433907706 : True := trivial
theorem fin.tw12056080793949791488 : True := trivial
theorem fin.tw9187652572680370749 : True := trivial
theorem fin.tw2956194795819570014 : True := trivial
theorem fin.tw10475516353136936723 : True := trivial
theorem fin.tw8255502661644478649 : True := trivial
theorem fin.tw4656033512764480241 : True := trivial
theorem fin.tw4405123273114727452 : True := trivial
theorem fin.tw7559206660919020393 : True := trivial
theorem fin.tw15048816370644704990 : True := trivial
theorem fin.tw15454408432587167741 : True := trivial
theorem fin.tw13270236325585882532 : True := trivial
theorem fin.tw4108416813836293667 : True := trivial
theorem fin.tw16363941778886895468 : True := trivial
theorem fin.tw13846278502247815036 : True := trivial
theorem fin.tw2209934623957251352 : True := trivial
theorem fin.tw15665215703994955859 : True := trivial
theorem fin.tw1979422644500456993 : True := trivial
theorem fin.tw16297205180445953274 : True := trivial
theorem fin.tw4823359075579693777 : True := trivial
theorem fin.tw595966756878516818 : True := trivial
theorem fin.tw562287133678226883 : True := trivial
theorem fin.tw15227920041468070864 : True := trivial
theorem fin.tw16402487584423638486 : True := trivial
theorem fin.tw5755870374162139707 : True := trivial
theorem fin.tw14048690431486515370 : True := trivial
theorem fin.tw12737347993679001177 : True := trivial
theorem fin.tw8968088494742123356 : True := trivial
theorem fin.tw16503340039017530072 : True := trivial
theorem fin.tw8932876836445547734 : True := trivial
theorem fin.tw4813643718269881494 : True := trivial
theorem fin.tw5694396196619098855 : True := trivial
theorem fin.tw2350926906219901198 : True := trivial
theorem fin.tw9203936812425799989 : True := trivial
theorem fin.tw10708288339170351728 : True := trivial
theorem fin.tw11325965743443619084 : True := trivial
theorem fin.tw11193131562725239841 : True := trivial
theorem fin.tw200975928427638056 : True := trivial
theorem fin.tw17362681294440389069 : True := trivial
theorem fin.tw14098924113371301532 : True := trivial
theorem fin.tw11070419891240897604 : True := trivial
theorem fin.tw12368070116102191887 : True := trivial
theorem fin.tw3805347959367872054 : True := trivial
theorem fin.tw11594150592955118384 : True := trivial
theorem fin.tw3910119682274365938 : True := trivial
theorem fin.tw6783874298799072822 : True := trivial
theorem fin.tw7342189846762990913 : True := trivial
theorem fin.tw7798783908604525777 : True := trivial
theorem fin.tw17830997443662962739 : True := trivial
theorem fin.tw17664234586471266162 : True := trivial
theorem fin.tw6679548232907208226 : True := trivial
theorem fin.tw1967640353765715144 : True := trivial
theorem fin.tw4059315867123680210 : True := trivial
theorem fin.tw15594661981554893390 : True := trivial
theorem fin.tw15331362862479714789 : True := trivial
theorem fin.tw367242603167404024 : True := trivial
theorem fin.tw13587770166623834062 : True := trivial
theorem fin.tw9414550214286535239 : True := trivial
theorem fin.tw9315735203669487646 : True := trivial
theorem fin.tw11962611390523074145 : True := trivial
theorem fin.tw16967729116178211885 : True := trivial
theorem fin.tw17628821903147528095 : True := trivial
theorem fin.tw2384622488063822643 : True := trivial
theorem fin.tw1566491415429455938 : True := trivial
theorem fin.tw8937658591843537539 : True := trivial
theorem fin.tw12534833701941079624 : True := trivial
theorem fin.tw11309571680096430917 : True := trivial
theorem fin.tw4974016385945432221 : True := trivial
theorem fin.tw2890542494561648981 : True := trivial
theorem fin.tw5651043855617479001 : True := trivial
theorem fin.tw13976881560148383939 : True := trivial
theorem fin.tw2557087230621461031 : True := trivial
theorem fin.tw6901613900044665634 : True := trivial
theorem fin.tw7378512299915489706 : True := trivial
theorem fin.tw12317981514661761353 : True := trivial
theorem fin.tw13090588324612950155 : True := trivial
theorem fin.tw10372088061312758392 : True := trivial
theorem fin.tw3426484132981607224 : True := trivial
set_option maxHeartbeats 8000000
theorem fin : PySem.Challenge.rw_xm0866_01.Holds := by
 w_on; o_law; k_head; (case hw => w_witness2)
 k_go0
 have lowJ := Ground.low (by assumption)
 refine lawJ law_main ?_ (by assumption) (by assumption) lowJ (by assumption) (by assumption) (by assumption) (by assumption) rfl rfl (by kernel_rfl) (by kernel_rfl) ⟨by kernel_rfl, by kernel_rfl⟩ ?_
 ·refine ⟨?_, ?_, fun C => ?_, by kernel_rfl, fun b => ?_, by kernel_rfl, fun C => ?_, fun C => ?_, fun C => ?_⟩
  ·exact all2c (fE (by kernel_rfl) (by kernel_rfl) (by kernel_rfl) (fun _ => by show _ = _; kernel_rfl)) (all2c (fE (by kernel_rfl) (by kernel_rfl) (by kernel_rfl) (fun _ => by show _ = _; kernel_rfl)) (all2c (fE (by kernel_rfl) (by kernel_rfl) (by kernel_rfl) (fun _ _ => by show _ = _; kernel_rfl)) (all2c (fE (by kernel_rfl) (by kernel_rfl) (by kernel_rfl) (fun _ _ => by show _ = _; kernel_rfl)) (all2c (fE (by kernel_rfl) (by kernel_rfl) (by kernel_rfl) (fun _ _ => by show _ = _; kernel_rfl)) (all2c (fE (by kernel_rfl) (by kernel_rfl) (by kernel_rfl) (fun _ _ _ => by show _ = _; kernel_rfl)) (all2c (fE (by kernel_rfl) (by kernel_rfl) (by kernel_rfl) (fun _ => by show _ = _; kernel_rfl)) (all2c (fE (by kernel_rfl) (by kernel_rfl) (by kernel_rfl) (fun _ => by show _ = _; kernel_rfl)) (all2c (fE (by kernel_rfl) (by kernel_rfl) (by kernel_rfl) (fun _ _ _ => by show _ = _; kernel_rfl)) (all2c (fE (by kernel_rfl) (by kernel_rfl) (by kernel_rfl) (fun _ => by show _ = _; kernel_rfl)) (all2c (fE (by kernel_rfl) (by kernel_rfl) (by kernel_rfl) (fun _ _ _ => by show _ = _; kernel_rfl)) (all2c (fE (by kernel_rfl) (by kernel_rfl) (by kernel_rfl) (fun _ => by show _ = _; kernel_rfl)) (all2c (fE (by kernel_rfl) (by kernel_rfl) (by kernel_rfl) (fun _ _ _ _ _ => by show _ = _; kernel_rfl)) (all2c (fE (by kernel_rfl) (by kernel_rfl) (by kernel_rfl) (fun _ => by show _ = _; kernel_rfl)) (all2c (fE (by kernel_rfl) (by kernel_rfl) (by kernel_rfl) (fun _ => by show _ = _; kernel_rfl)) (all2c (fE (by kernel_rfl) (by kernel_rfl) (by kernel_rfl) (fun _ _ _ => by show _ = _; kernel_rfl)) (all2c (fE (by kernel_rfl) (by kernel_rfl) (by kernel_rfl) (fun _ _ _ => by show _ = _; kernel_rfl)) (all2c (fE (by kernel_rfl) (by kernel_rfl) (by kernel_rfl) (fun _ _ _ _ => by show _ = _; kernel_rfl)) (all2c (fE (by kernel_rfl) (by kernel_rfl) (by kernel_rfl) (fun _ _ => by show _ = _; kernel_rfl)) (all2c (fE (by kernel_rfl) (by kernel_rfl) (by kernel_rfl) (fun _ _ _ _ => by show _ = _; kernel_rfl)) (all2c (fE (by kernel_rfl) (by kernel_rfl) (by kernel_rfl) (fun _ _ => by show _ = _; kernel_rfl)) (all2c (fE (by kernel_rfl) (by kernel_rfl) (by kernel_rfl) (fun _ => by show _ = _; kernel_rfl)) (all2c (fE (by kernel_rfl) (by kernel_rfl) (by kernel_rfl) (fun _ => by show _ = _; kernel_rfl)) (all2c (fE (by kernel_rfl) (by kernel_rfl) (by kernel_rfl) (fun _ _ => by show _ = _; kernel_rfl)) (all2c (fE (by kernel_rfl) (by kernel_rfl) (by kernel_rfl) (fun _ _ => by show _ = _; kernel_rfl)) (all2c (fE (by kernel_rfl) (by kernel_rfl) (by kernel_rfl) (fun _ _ => by show _ = _; kernel_rfl)) (all2c (fE (by kernel_rfl) (by kernel_rfl) (by kernel_rfl) (fun _ _ _ _ => by show _ = _; kernel_rfl)) (all2c (fE (by kernel_rfl) (by kernel_rfl) (by kernel_rfl) (fun _ _ _ _ => by show _ = _; kernel_rfl)) (all2c (fE (by kernel_rfl) (by kernel_rfl) (by kernel_rfl) (fun _ => by show _ = _; kernel_rfl)) (all2c (fE (by kernel_rfl) (by kernel_rfl) (by kernel_rfl) (fun _ => by show _ = _; kernel_rfl)) (all2c (fE (by kernel_rfl) (by kernel_rfl) (by kernel_rfl) (fun _ _ => by show _ = _; kernel_rfl)) (all2c (fE (by kernel_rfl) (by kernel_rfl) (by kernel_rfl) (fun _ _ _ _ => by show _ = _; kernel_rfl)) (all2c (fE (by kernel_rfl) (by kernel_rfl) (by kernel_rfl) (fun _ => by show _ = _; kernel_rfl)) (all2c (fE (by kernel_rfl) (by kernel_rfl) (by kernel_rfl) (fun _ => by show _ = _; kernel_rfl)) (all2c (fE (by kernel_rfl) (by kernel_rfl) (by kernel_rfl) (fun _ => by show _ = _; kernel_rfl)) (all2c (fE (by kernel_rfl) (by kernel_rfl) (by kernel_rfl) (fun _ _ => by show _ = _; kernel_rfl)) (all2c (fE (by kernel_rfl) (by kernel_rfl) (by kernel_rfl) (fun _ _ => by show _ = _; kernel_rfl)) (all2c (fE (by kernel_rfl) (by kernel_rfl) (by kernel_rfl) (fun _ _ _ => by show _ = _; kernel_rfl)) (all2c (fE (by kernel_rfl) (by kernel_rfl) (by kernel_rfl) (fun _ _ => by show _ = _; kernel_rfl)) (all2c (fE (by kernel_rfl) (by kernel_rfl) (by kernel_rfl) (fun _ _ => by show _ = _; kernel_rfl)) (all2c (fE (by kernel_rfl) (by kernel_rfl) (by kernel_rfl) (fun _ _ _ => by show _ = _; kernel_rfl)) (all2c (fE (by kernel_rfl) (by kernel_rfl) (by kernel_rfl) (fun _ _ _ _ _ _ => by show _ = _; kernel_rfl)) (all2c (fE (by kernel_rfl) (by kernel_rfl) (by kernel_rfl) (fun _ _ _ => by show _ = _; kernel_rfl)) (all2c (fE (by kernel_rfl) (by kernel_rfl) (by kernel_rfl) (fun _ _ => by show _ = _; kernel_rfl)) (all2c (fE (by kernel_rfl) (by kernel_rfl) (by kernel_rfl) (fun _ => by show _ = _; kernel_rfl)) (all2c (fE (by kernel_rfl) (by kernel_rfl) (by kernel_rfl) (fun _ _ => by show _ = _; kernel_rfl)) (all2c (fE (by kernel_rfl) (by kernel_rfl) (by kernel_rfl) (fun _ => by show _ = _; kernel_rfl)) (all2c (fE (by kernel_rfl) (by kernel_rfl) (by kernel_rfl) (fun _ => by show _ = _; kernel_rfl)) (all2c (fE (by kernel_rfl) (by kernel_rfl) (by kernel_rfl) (fun _ _ => by show _ = _; kernel_rfl)) (all2c (fE (by kernel_rfl) (by kernel_rfl) (by kernel_rfl) (fun _ _ _ => by show _ = _; kernel_rfl)) (all2c (fE (by kernel_rfl) (by kernel_rfl) (by kernel_rfl) (fun _ _ _ _ => by show _ = _; kernel_rfl)) (all2c (fE (by kernel_rfl) (by kernel_rfl) (by kernel_rfl) (fun _ => by show _ = _; kernel_rfl)) (all2c (fE (by kernel_rfl) (by kernel_rfl) (by kernel_rfl) (fun _ _ _ _ _ => by show _ = _; kernel_rfl)) (all2c (fE (by kernel_rfl) (by kernel_rfl) (by kernel_rfl) (fun _ _ => by show _ = _; kernel_rfl)) (all2c (fE (by kernel_rfl) (by kernel_rfl) (by kernel_rfl) (fun _ _ _ _ => by show _ = _; kernel_rfl)) (all2c (fE (by kernel_rfl) (by kernel_rfl) (by kernel_rfl) (fun _ _ _ _ _ => by show _ = _; kernel_rfl)) (all2c (fE (by kernel_rfl) (by kernel_rfl) (by kernel_rfl) (fun _ _ _ => by show _ = _; kernel_rfl)) (all2c (fE (by kernel_rfl) (by kernel_rfl) (by kernel_rfl) (fun _ _ _ _ _ _ => by show _ = _; kernel_rfl)) (all2c (fE (by kernel_rfl) (by kernel_rfl) (by kernel_rfl) (fun _ _ _ _ _ => by show _ = _; kernel_rfl)) (all2c (fE (by kernel_rfl) (by kernel_rfl) (by kernel_rfl) (fun _ _ => by show _ = _; kernel_rfl)) (all2c (fE (by kernel_rfl) (by kernel_rfl) (by kernel_rfl) (fun _ _ => by show _ = _; kernel_rfl)) (all2c (fE (by kernel_rfl) (by kernel_rfl) (by kernel_rfl) (fun _ => by show _ = _; kernel_rfl)) (all2n))))))))))))))))))))))))))))))))))))))))))))))))))))))))))))))
  ·exact all2c (gE (by kernel_rfl) fun _ => by kernel_rfl) (all2c (gE (by kernel_rfl) fun _ => by kernel_rfl) (all2c (gE (by kernel_rfl) fun _ => by kernel_rfl) (all2c (gE (by kernel_rfl) fun _ => by kernel_rfl) (all2c (gE (by kernel_rfl) fun _ => by kernel_rfl) (all2c (gE (by kernel_rfl) fun _ => by kernel_rfl) (all2c (gE (by kernel_rfl) fun _ => by kernel_rfl) (all2c (gE (by kernel_rfl) fun _ => by kernel_rfl) (all2c (gE (by kernel_rfl) fun h => absurd rfl h) (all2c (gE (by kernel_rfl) fun h => absurd rfl h) (all2c (gE (by kernel_rfl) fun h => absurd rfl h) (all2c (gE (by kernel_rfl) fun h => absurd rfl h) (all2c (gE (by kernel_rfl) fun h => absurd rfl h) (all2c (gE (by kernel_rfl) fun h => absurd rfl h) (all2c (gE (by kernel_rfl) fun h => absurd rfl h) (all2c (gE (by kernel_rfl) fun _ => by kernel_rfl) (all2c (gE (by kernel_rfl) fun h => absurd rfl h) (all2c (gE (by kernel_rfl) fun h => absurd rfl h) (all2c (gE (by kernel_rfl) fun h => absurd rfl h) (all2c (gE (by kernel_rfl) fun h => absurd rfl h) (all2c (gE (by kernel_rfl) fun h => absurd rfl h) (all2c (gE (by kernel_rfl) fun h => absurd rfl h) (all2c (gE (by kernel_rfl) fun h => absurd rfl h) (all2c (gE (by kernel_rfl) fun h => absurd rfl h) (all2c (gE (by kernel_rfl) fun h => absurd rfl h) (all2c (gE (by kernel_rfl) fun h => absurd rfl h) (all2c (gE (by kernel_rfl) fun h => absurd rfl h) (all2c (gE (by kernel_rfl) fun h => absurd rfl h) (all2c (gE (by kernel_rfl) fun h => absurd rfl h) (all2c (gE (by kernel_rfl) fun _ => by kernel_rfl) (all2c (gE (by kernel_rfl) fun _ => by kernel_rfl) (all2c (gE (by kernel_rfl) fun h => absurd rfl h) (all2c (gE (by kernel_rfl) fun h => absurd rfl h) (all2c (gE (by kernel_rfl) fun h => absurd rfl h) (all2c (gE (by kernel_rfl) fun h => absurd rfl h) (all2c (gE (by kernel_rfl) fun _ => by kernel_rfl) (all2c (gE (by kernel_rfl) fun _ => by kernel_rfl) (all2c (gE (by kernel_rfl) fun h => absurd rfl h) (all2c (gE (by kernel_rfl) fun h => absurd rfl h) (all2c (gE (by kernel_rfl) fun h => absurd rfl h) (all2c (gE (by kernel_rfl) fun h => absurd rfl h) (all2c (gE (by kernel_rfl) fun h => absurd rfl h) (all2c (gE (by kernel_rfl) fun h => absurd rfl h) (all2c (gE (by kernel_rfl) fun _ => by kernel_rfl) (all2c (gE (by kernel_rfl) fun _ => by kernel_rfl) (all2c (gE (by kernel_rfl) fun _ => by kernel_rfl) (all2c (gE (by kernel_rfl) fun _ => by kernel_rfl) (all2c (gE (by kernel_rfl) fun _ => by kernel_rfl) (all2c (gE (by kernel_rfl) fun _ => by kernel_rfl) (all2c (gE (by kernel_rfl) fun _ => by kernel_rfl) (all2c (gE (by kernel_rfl) fun _ => by kernel_rfl) (all2c (gE (by kernel_rfl) fun _ => by kernel_rfl) (all2c (gE (by kernel_rfl) fun _ => by kernel_rfl) (all2c (gE (by kernel_rfl) fun _ => by kernel_rfl) (all2c (gE (by kernel_rfl) fun _ => by kernel_rfl) (all2c (gE (by kernel_rfl) fun _ => by kernel_rfl) (all2c (gE (by kernel_rfl) fun _ => by kernel_rfl) (all2c (gE (by kernel_rfl) fun _ => by kernel_rfl) (all2c (gE (by kernel_rfl) fun _ => by kernel_rfl) (all2c (gE (by kernel_rfl) fun _ => by kernel_rfl) (all2c (gE (by kernel_rfl) fun _ => by kernel_rfl) (all2c (gE (by kernel_rfl) fun _ => by kernel_rfl) (all2n))))))))))))))))))))))))))))))))))))))))))))))))))))))))))))))
  ·cases C <;> kernel_rfl
  ·cases b <;> kernel_rfl
  ·cases C <;> kernel_rfl
  ·cases C <;> kernel_rfl
  ·cases C <;> kernel_rfl
 intro s' m' F' hg ho
 refine goodW_bool F' (hg.trans (by assumption)) (raisesW_false ?_) ?_ ho
 ·wrow_none_raised
 ·wrow_post
end RK
end
theorem PySem.Challenge.cw_xm0866_01_holds : PySem.Challenge.rw_xm0866_01.Holds :=
 RK.fin
