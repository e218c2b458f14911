import PyProof.Rows.All
import Wide.All
import Wide.FinOn
import KE.KIsAll
import KE.KNestM
import Open.Tops
import OpenK.XOpen
import KE.KSliceW
import KE.KLam
import KE.KRevSl
import KE.KPar
import KE.KEqSeq
import PySem.Challenge.RW_sm0081_01
set_option Elab.async false
set_option autoImplicit false
set_option maxRecDepth 100000
set_option linter.all false
set_option genSizeOfSpec false
set_option genInjectivity false
set_option genSizeOf false
namespace Mine
theorem blx {a b : Nat} (h : Nat.ble a b = true) : a ≤ b := Nat.le_of_ble_eq_true h
theorem lbx {a b : Nat} (h : a ≤ b) : Nat.ble a b = true := Nat.ble_eq_true_of_le h
theorem msx {α : Type} {a b : α} (h : a ∈ [b]) : a = b := List.mem_singleton.mp h
theorem ltx {a b c : Nat} (h : a ≤ b) (k : b ≤ c) : a ≤ c := Nat.le_trans h k
theorem llx {a b c : Nat} (h : a < b) (k : b ≤ c) : a < c := Nat.lt_of_lt_of_le h k
theorem ebx {a b : Nat} (h : Nat.beq a b = true) : a = b := Nat.eq_of_beq_eq_true h
theorem zft (a b : Nat) : a ≤ a + b := Nat.le_add_right a b
open PySem PySem.W
noncomputable def zGr (tb : String → Option Builtin) (p : Program) (w : World) (n₀ : Nat) (ann : Option Value) : Nat → SharedT → Thread → Option SharedT
 | 0, _, _ => none
 | n + 1, s, t => match through t with
   | true => some s
   | false => match stepOk n₀ ann t with
     | false => none
     | true => match stepT (denote tb) p w s t with
       | some (s', t') => zGr tb p w n₀ ann n s' t'
       | none => none
noncomputable def lay : List Obj → Nat → BT → BT
 | [], _, t => t
 | o :: r, i, t => lay r (i + 1) (t.ins i o)
noncomputable def S0 (w : World) (os : OsState) : SharedT := ⟨lay (boot_heap w.params).objs.toList 0 .nil, 11, (boot_heap w.params).life, #[], boot_drawn, boot_toks, os⟩
noncomputable def lawQ (p : Program) : Program := { p with main := { p.main with body := p.main.body.drop 207 } }
noncomputable def looseQ (p : Program) : List Str := p.boundNames.filter (λ x => !(x == ("law" : Str)))
noncomputable def endsF (p q : Program) (loose : List Str) (h0 : Heap) (s0 : SharedT) (w : World) :=
 (zGr treeTable p w 11 (some (.ref 6)) 10700 s0 (topStub p)).map λ s =>
   ((staticsOk (importedModules p.main.body) h0 s.abs.heap && namesBound p s.abs.heap && gensDone s.abs && laidKept h0 s.abs.heap), openSeen q loose (importedModules p.main.body) (λ _ => true) true s.abs)
noncomputable def goodF (q : Program) (loose : List Str) := some (true, openGood q loose)
end Mine
theorem Mine.skip_tabs : ((("a" : PySem.Str) == ("a" : PySem.Str)) || (PySem.typesN.isEmpty || PySem.typesN0.isEmpty || PySem.typesN1.isEmpty || PySem.typesN2.isEmpty || PySem.typesN3.isEmpty || PySem.typesN4.isEmpty || PySem.typesN5.isEmpty || PySem.typesN6.isEmpty || PySem.typesN7.isEmpty || PySem.typesN8.isEmpty || PySem.typesN9.isEmpty || PySem.typesN10.isEmpty || PySem.typesN11.isEmpty || PySem.typesN12.isEmpty || PySem.typesN13.isEmpty || PySem.typesN14.isEmpty || PySem.attrsN.isEmpty || PySem.attrsN0.isEmpty || PySem.attrsN1.isEmpty || PySem.attrsN2.isEmpty || PySem.attrsN3.isEmpty || PySem.attrsN4.isEmpty || PySem.attrsN5.isEmpty || PySem.attrsN6.isEmpty || PySem.attrsN7.isEmpty || PySem.attrsN8.isEmpty || PySem.attrsN9.isEmpty || PySem.attrsN10.isEmpty || PySem.attrsN11.isEmpty || PySem.attrsN12.isEmpty || PySem.attrsN13.isEmpty || PySem.attrsN14.isEmpty)) = true := by k_qdec
lay_quick Mine.endsF Mine.goodF
set_option maxHeartbeats 0 in
open PySem PySem.W in
theorem Mine.tF : ∀ w os, PySem.W.Fast.tw10665225906399359561 PySem.Challenge.pw_sm0081_01 (Mine.lawQ PySem.Challenge.pw_sm0081_01) (Mine.looseQ PySem.Challenge.pw_sm0081_01) (boot_heap w.params) (Mine.S0 w os) w = Mine.goodF (Mine.lawQ PySem.Challenge.pw_sm0081_01) (Mine.looseQ PySem.Challenge.pw_sm0081_01) := λ w os => by kernel_rfl
namespace Mine
abbrev za0 : Nat := 3500345686242
abbrev zhq : Nat := 31641679972
abbrev zwg : Nat := 31631046900
abbrev zjf : Nat := 1031924937563414509811
abbrev zva : Nat := 32696268778
abbrev ztw : Nat := 1930088
abbrev zbk : Nat := 213644652
abbrev zac : Nat := 215595509
abbrev zab : Nat := 215578735
abbrev zar : Nat := 1751542
abbrev za3 : Nat := 29466638445
abbrev zba : Nat := 31085722352
abbrev zbx : Nat := 452340280212074
abbrev zan : Nat := 27346712679
abbrev zap : Nat := 4050101530993
abbrev zed : Nat := 257683822
abbrev zdo : Nat := 27342320868
abbrev zb2 : Nat := 62940024286131428
abbrev zal : Nat := 938976807726639233642
abbrev zbm : Nat := 1685488
abbrev zd2 : Nat := 8921668774704024519242976453230402811874
abbrev za2 : Nat := 62957238762355306
abbrev zii : Nat := 132030899184949905602806
abbrev zf2 : Nat := 123813455660063464666865
abbrev zjc : Nat := 29475337069
abbrev ze2 : Nat := 4742218454273332221472602549091182
abbrev zjk : Nat := 1068093878745121601506
abbrev zgj : Nat := 2239955213998088569124287860
abbrev zgv : Nat := 2239957620857302958642259801
abbrev zf6 : Nat := 27631825378
abbrev zjm : Nat := 1032504705302801413485
abbrev zaq : Nat := 518412985546470
abbrev zav : Nat := 1077317760784927535471
abbrev zad : Nat := 4186200193521
abbrev zah : Nat := 215724399
abbrev zax : Nat := 27629678967
abbrev zAm : Nat := 1865841
abbrev zb8 : Nat := 234501492
abbrev zu2 : Nat := 1669616
abbrev ze9 : Nat := 10520996326863751305553223
abbrev zfp : Nat := 36699775435682915557426152880746
abbrev zfc : Nat := 17650812014488269432044138
abbrev zhk : Nat := 12777032332263463979100884
abbrev zep : Nat := 2280604228502081238537353834
abbrev zir : Nat := 99820565095808280881230
abbrev zcq : Nat := 247362421
abbrev zhg : Nat := 17494982350109476623235690
abbrev zje : Nat := 1031205465908779170410
abbrev znp : Nat := 452406856399466
abbrev zdp : Nat := 31385776497
abbrev zdi : Nat := 1831789
abbrev zBb : Nat := 247263601
abbrev zkg : Nat := 7412233936311958122
abbrev zk6 : Nat := 5379368358190999385
abbrev zdh : Nat := 31652115815
abbrev zdj : Nat := 3500366443380
abbrev zEv : Nat := 1913314
abbrev zdy : Nat := 3978959764335
abbrev zco : Nat := 3809883289699
abbrev zdr : Nat := 37048581674010407984751280010612
abbrev zch : Nat := 1865845
abbrev zpf : Nat := 179644494
abbrev znd : Nat := 3844228233316
abbrev zf7 : Nat := 286910259776759748232230975588
abbrev zen : Nat := 7485408772114594671
abbrev n_a : Nat := 98
abbrev zhu : Nat := 15074
abbrev zna : Nat := 2909191415109
abbrev zcv : Nat := 30020350819
abbrev zh7 : Nat := 1669094
abbrev zea : Nat := 289442044328206311716700596436
abbrev zxl : Nat := 31630964069
abbrev zr8 : Nat := 4017360614757
abbrev za4 : Nat := 213612661
abbrev zo6 : Nat := 447737151273461
abbrev zgs : Nat := 939616815785617012069
abbrev zgh : Nat := 27610854648
abbrev zux : Nat := 247279981
abbrev zG1 : Nat := 1302863
abbrev ze6 : Nat := 4742862279183155380421371472100207
abbrev zkn : Nat := 447739005121391
abbrev zcx : Nat := 12777134297096288912877646
abbrev zln : Nat := 51041893744764874
abbrev zev : Nat := 247231340
abbrev zBo : Nat := 215808110
abbrev zlm : Nat := 58479752557376760
abbrev za9 : Nat := 948052629667830217322
abbrev zIx : Nat := 1899252
abbrev zrr : Nat := 230439011
abbrev zp6 : Nat := 27610872693
abbrev zhl : Nat := 17499650109360066963094008
abbrev zhi : Nat := 15554126487944269754333940
abbrev zic : Nat := 136716016479375520740211
abbrev zhz : Nat := 518756597512802
abbrev zai : Nat := 518756597758052
abbrev zj9 : Nat := 215938420
abbrev zdv : Nat := 62983699802437745
abbrev zc5 : Nat := 20859286357744732794564271532086938159237937252
abbrev zay : Nat := 8425037770583063010
abbrev zsj : Nat := 3497946495860
abbrev zfi : Nat := 37013996284806476154372439520998
abbrev zq6 : Nat := 4014927886580
abbrev zkw : Nat := 8495912664275071343
abbrev zj2 : Nat := 7407228958287820917
abbrev zxh : Nat := 177562452
abbrev zm4 : Nat := 2905993488853
abbrev zkd : Nat := 372306697497423
abbrev zwr : Nat := 22728303445
abbrev zly : Nat := 48161280914352207
abbrev zh4 : Nat := 101130859954846125107152
abbrev zjg : Nat := 641504902608917376085
abbrev zBj : Nat := 190046542
abbrev zvn : Nat := 31651836781
abbrev zBh : Nat := 247281774
abbrev zkb : Nat := 7485408806231193699
abbrev zj0 : Nat := 452582390119018
abbrev zjj : Nat := 1133305437642781471972
abbrev zhe : Nat := 17668502801164796352491876
abbrev zga : Nat := 289250905410256932205663842660
abbrev zfk : Nat := 37048581674010407984751275897188
abbrev zgn : Nat := 2261590662171908836937134436
abbrev zg5 : Nat := 57938865850727398
abbrev zlo : Nat := 66356862183422434
abbrev zb0 : Nat := 243039462
abbrev zkp : Nat := 7415109879695372644
abbrev zhr : Nat := 31368900964
abbrev zA9 : Nat := 222130513
abbrev zn3 : Nat := 465841518294000
abbrev zpj : Nat := 482785409987917
abbrev zji : Nat := 948125166576435182415
abbrev zq4 : Nat := 4222965511491
abbrev zj1 : Nat := 8856200568423068656
abbrev zu7 : Nat := 230388036
abbrev zn4 : Nat := 483158799168496
abbrev zod : Nat := 447739005121359
abbrev zho : Nat := 8344483427696261730
abbrev zd0 : Nat := 15534082721900747713999191
abbrev zlu : Nat := 57903710463652215
abbrev zrq : Nat := 3978997495111
abbrev zko : Nat := 8344562554935718896
abbrev zcm : Nat := 33235806450194964366580919186804
abbrev zAx : Nat := 1931242
abbrev zm5 : Nat := 31085656560
abbrev za5 : Nat := 8344483427696261738
abbrev zd4 : Nat := 9945152915816227231351309119051714508900
abbrev zeq : Nat := 607091120685473517592976333905573988
abbrev zbp : Nat := 139207477532550112246006
abbrev za1 : Nat := 2028552491914525345874197098
abbrev zbn : Nat := 27591751409
abbrev zdg : Nat := 27600351603
abbrev zbl : Nat := 4016815307248
abbrev ze8 : Nat := 4254183225624955437753126648264804
abbrev zgw : Nat := 2262033502423115325836605540
abbrev zhh : Nat := 245103475
abbrev zBt : Nat := 242921841
abbrev zb9 : Nat := 31381434737
abbrev zmm : Nat := 31085916525
abbrev zqw : Nat := 3497933992814
abbrev zBc : Nat := 232372970
abbrev zbb : Nat := 1980531
abbrev zu8 : Nat := 31085656528
abbrev zfl : Nat := 245281644
abbrev zau : Nat := 31354091631
abbrev zbg : Nat := 958132332280416041060
abbrev zff : Nat := 18557542194625031400288631
abbrev zdl : Nat := 138063568263129601996916
abbrev zw9 : Nat := 230388580
abbrev n_k : Nat := 108
abbrev zbu : Nat := 4050646790772
abbrev zme : Nat := 31614155240
abbrev zIe : Nat := 1995118
abbrev zw7 : Nat := 27327886702
abbrev zae : Nat := 3531779979380
abbrev zrd : Nat := 3535812572519
abbrev znb : Nat := 4013881472245
abbrev zbj : Nat := 7411108241508710112
abbrev zcp : Nat := 213710968
abbrev zef : Nat := 139160426171488286634722
abbrev zfh : Nat := 35456670863019342322707788821218
abbrev zig : Nat := 139160426206775201067746
abbrev zit : Nat := 66400844481393378
abbrev zvs : Nat := 215595477
abbrev zi7 : Nat := 66361605123617647
abbrev zej : Nat := 66388022712121056
abbrev zaz : Nat := 245250163
abbrev zf8 : Nat := 215692653
abbrev zb5 : Nat := 544535447674806184035759783493351524
abbrev zf5 : Nat := 7407228958289900909
abbrev zcw : Nat := 215726196
abbrev zbd : Nat := 57912952725485280
abbrev ze7 : Nat := 234683253
abbrev ze1 : Nat := 4014162638968
abbrev zci : Nat := 31385875317
abbrev zoa : Nat := 518756597758020
abbrev zak : Nat := 15550520641026109573167204
abbrev zd3 : Nat := 492336609507946
abbrev zc2 : Nat := 1686373
abbrev zdx : Nat := 17650784423664708822562932
abbrev zmk : Nat := 28432988280
abbrev zq5 : Nat := 3497961257076
abbrev zFg : Nat := 1930100
abbrev zbv : Nat := 4049598231411
abbrev zq9 : Nat := 4049598231379
abbrev zqs : Nat := 31649741556
abbrev zcz : Nat := 7406604509773541743
abbrev zcb : Nat := 27591751924
abbrev zg2 : Nat := 61849513590568672
abbrev zjd : Nat := 27619242612
abbrev zi1 : Nat := 58479752565764724
abbrev zeb : Nat := 27327886695
abbrev za8 : Nat := 78309281544100704351979062728230221536
abbrev zht : Nat := 7917824634800092896
abbrev zdu : Nat := 37061156903793842759769699956448
abbrev zc0 : Nat := 611791262063286752752061975514101472
abbrev zb3 : Nat := 37340775272417408261501094508256
abbrev zaa : Nat := 217805684
abbrev zc1 : Nat := 8416584618863292791
abbrev zki : Nat := 31354237295
abbrev zg0 : Nat := 518412996246372
abbrev ztz : Nat := 1913578
abbrev zua : Nat := 30033016932
abbrev zqk : Nat := 27346712675
abbrev zAp : Nat := 3569320901110
abbrev zjh : Nat := 247216243
abbrev zer : Nat := 234469616
abbrev zbc : Nat := 16895334119898764554350953
abbrev zi8 : Nat := 30012208488
abbrev zd6 : Nat := 461239435916145
abbrev zf9 : Nat := 215806825
abbrev zGi : Nat := 234535019
abbrev zsr : Nat := 3534200075124
abbrev zh2 : Nat := 137897401779848381904100
abbrev zd5 : Nat := 948765943712123156724
abbrev zhn : Nat := 7703366509889434852
abbrev zcy : Nat := 291804305375779159206786197337
abbrev zng : Nat := 143836743405478514112999
abbrev zf4 : Nat := 7703366508033718371
abbrev zn2 : Nat := 213644643
abbrev zez : Nat := 1988195258992717134720234210
abbrev zcl : Nat := 1990466642042291394033760874
abbrev zbq : Nat := 1077327418411372608226
abbrev zi2 : Nat := 62939782979271274
abbrev zfu : Nat := 120151053570743582962916
abbrev zss : Nat := 246985976
abbrev zn0 : Nat := 456873096394867
abbrev zo9 : Nat := 531636367751247
abbrev zfo : Nat := 531644945412975
abbrev zpd : Nat := 372377839264081
abbrev zet : Nat := 7339648370502890210
abbrev zmc : Nat := 4047689806197
abbrev zA0 : Nat := 207450469
abbrev zfq : Nat := 142712353339139967006438
abbrev zo7 : Nat := 247281005
abbrev zv7 : Nat := 1978733
end Mine
namespace Mine
open PySem
inductive BI where
 | len | abs | max | int | list | isinstance | range | sorted | set | ord | str | tuple | bool
set_option genInjectivity true in
inductive AV where
 | none | bool (b : Bool) | int (i : Int) | str (s : List Nat) | ref (i : Nat) | old (a : Nat) | bi (b : BI) | ext (a : Nat)
abbrev zaw := List (Nat × Nat)
abbrev zaf := List (Nat × AV)
set_option genInjectivity true in
inductive AO where
 | list (xs : List AV)
 | tup (xs : List AV)
 | inst (C : Nat) (d : Nat)
 | fields (es : List (Nat × AV))
 | dict (es : List (List Nat × AV))
 | cell (v : Option AV)
 | fn (k : Nat) (cl : zaw)
 | rng (a : Int) (step : Nat) (n : Nat)
 | iset (xs : List Int)
inductive Tr (α : Type) where
 | nil
 | node (v : Option α) (l r : Tr α)
namespace Tr
variable {α : Type}
noncomputable def get : Tr α → Nat → Option α
 | .nil, _ => none
 | .node v l r, i => match Nat.beq i 0 with
   | true => v
   | false => match Nat.beq ((i - 1) % 2) 0 with
     | true => l.get ((i - 1) / 2)
     | false => r.get ((i - 1) / 2)
noncomputable def val : Tr α → Option α | .nil => none | .node v _ _ => v
noncomputable def kid : Tr α → Bool → Tr α | .nil, _ => .nil | .node _ l r, b => match b with | true => l | false => r
noncomputable def put : Nat → Tr α → Nat → α → Tr α
 | 0, t, _, _ => t
 | n + 1, t, i, o => match Nat.beq i 0 with
   | true => .node (some o) (t.kid true) (t.kid false)
   | false => match Nat.beq ((i - 1) % 2) 0 with
     | true => .node t.val (put n (t.kid true) ((i - 1) / 2) o) (t.kid false)
     | false => .node t.val (t.kid true) (put n (t.kid false) ((i - 1) / 2) o)
theorem beq0 (i j : Nat) : Nat.beq i j = decide (i = j) := by
 cases h : Nat.beq i j with
 | true => exact (decide_eq_true (ebx h)).symm
 | false => exact (decide_eq_false (Nat.ne_of_beq_eq_false h)).symm
theorem zM3 (t : Tr α) : t.get 0 = t.val := by cases t <;> rfl
theorem zKp (t : Tr α) (i : Nat) : t.get (i + 1) = (t.kid (Nat.beq (i % 2) 0)).get (i / 2) := by
 cases t with
 | nil => rfl
 | node v l r =>
   show (match Nat.beq (i % 2) 0 with | true => l.get (i / 2) | false => r.get (i / 2)) = _
   cases Nat.beq (i % 2) 0 <;> rfl
theorem zFz (n : Nat) (t : Tr α) (i : Nat) (o : α) : (put (n + 1) t (i + 1) o).val = t.val ∧ ∀ b, (put (n + 1) t (i + 1) o).kid b = if b = Nat.beq (i % 2) 0 then put n (t.kid b) (i / 2) o else t.kid b := by
 show (match Nat.beq (i % 2) 0 with | true => node t.val (put n (t.kid true) (i / 2) o) (t.kid false) | false => node t.val (t.kid true) (put n (t.kid false) (i / 2) o)).val = _ ∧ ∀ b, (match Nat.beq (i % 2) 0 with | true => node t.val (put n (t.kid true) (i / 2) o) (t.kid false) | false => node t.val (t.kid true) (put n (t.kid false) (i / 2) o)).kid b = _
 cases Nat.beq (i % 2) 0 <;> exact ⟨rfl, λ b => by cases b <;> rfl⟩
theorem side (i j : Nat) : j = i ↔ Nat.beq (j % 2) 0 = Nat.beq (i % 2) 0 ∧ j / 2 = i / 2 := by
 refine ⟨λ e => e ▸ ⟨rfl, rfl⟩, λ e => ?_⟩
 have q : j % 2 = i % 2 := by
   rcases Nat.mod_two_eq_zero_or_one j with a | a <;> rcases Nat.mod_two_eq_zero_or_one i with b | b
   · rw [a, b]
   · rw [a, b] at e; cases e.1
   · rw [a, b] at e; cases e.1
   · rw [a, b]
 rw [← Nat.div_add_mod j 2, ← Nat.div_add_mod i 2, e.2, q]
theorem get_put (o : α) : ∀ (n : Nat) (t : Tr α) (i j : Nat), i < n → (put n t i o).get j = if j = i then some o else t.get j
 | 0, _, _, _, h => absurd h (Nat.not_lt_zero _)
 | n + 1, t, 0, 0, _ => zM3 _
 | n + 1, t, 0, j + 1, _ => by rw [zKp, zKp, if_neg (Nat.succ_ne_zero j)]; cases Nat.beq (j % 2) 0 <;> rfl
 | n + 1, t, i + 1, 0, _ => by rw [zM3, zM3, if_neg (Nat.succ_ne_zero i).symm, (zFz n t i o).1]
 | n + 1, t, i + 1, j + 1, h => by
   rw [zKp, zKp, (zFz n t i o).2]
   by_cases p : Nat.beq (j % 2) 0 = Nat.beq (i % 2) 0
   · rw [if_pos p, get_put o n _ _ _ (Nat.lt_of_le_of_lt (Nat.div_le_self i 2) (Nat.lt_of_succ_lt_succ h))]
     by_cases q : j = i
     · rw [if_pos ((side i j).mp q).2, if_pos (congrArg Nat.succ q)]
     · rw [if_neg λ e => q ((side i j).mpr ⟨p, e⟩), if_neg λ e => q (Nat.succ.inj e)]
   · rw [if_neg p, if_neg λ e => p ((side i j).mp (Nat.succ.inj e)).1]
end Tr
set_option genInjectivity true in
structure Store where
 t : Tr AO
 n : Nat
namespace Store
noncomputable def get (st : Store) (i : Nat) : Option AO := st.t.get i
noncomputable def set (st : Store) (i : Nat) (o : AO) : Store := ⟨st.t.put (i + 1) i o, st.n⟩
noncomputable def add (st : Store) (o : AO) : Store := ⟨st.t.put (st.n + 1) st.n o, st.n + 1⟩
theorem get_set (st : Store) (i j : Nat) (o : AO) : (st.set i o).get j = if j = i then some o else st.get j := Tr.get_put o _ _ _ _ (Nat.lt_succ_self _)
theorem get_add (st : Store) (j : Nat) (o : AO) : (st.add o).get j = if j = st.n then some o else st.get j := Tr.get_put o _ _ _ _ (Nat.lt_succ_self _)
theorem zFg (st : Store) (i : Nat) (o : AO) : (st.set i o).n = st.n := rfl
theorem zOr (st : Store) (o : AO) : (st.add o).n = st.n + 1 := rfl
noncomputable def ofList (l : List AO) : Store := l.foldl add ⟨.nil, 0⟩
end Store
noncomputable def lk {α : Type} (x : Nat) : List (Nat × α) → Option α
 | [] => none
 | p :: r => match Nat.beq p.1 x with
   | true => some p.2
   | false => lk x r
noncomputable def lkS {α : Type} (x : List Nat) : List (List Nat × α) → Option α
 | [] => none
 | p :: r => if p.1 = x then some p.2 else lkS x r
noncomputable def nth {α : Type} : List α → Nat → Option α
 | [], _ => none
 | x :: r, i => match Nat.beq i 0 with
   | true => some x
   | false => nth r (i - 1)
abbrev zeg : Nat := za0
abbrev zfv : Nat := zhq
abbrev zfy : Nat := zwg
abbrev zf1 : Nat := zjf
abbrev zgu : Nat := zva
abbrev zmt : Nat := ztw
noncomputable def cnd {α : Type} (b : Bool) (x : α) : Option α := match b with | true => some x | false => none
noncomputable def AV.toI : AV → Option Int | .int i => some i | _ => Option.none
noncomputable def AV.toS : AV → Option (List Nat) | .str s => some s | _ => Option.none
noncomputable def AV.toR : AV → Option Nat | .ref i => some i | _ => Option.none
noncomputable def AV.isN : AV → Bool | .none => true | _ => false
noncomputable def AV.flat : AV → Bool | .ref _ => false | .ext _ => false | _ => true
noncomputable def AO.toL : AO → Option (List AV) | .list xs => some xs | _ => none
noncomputable def AO.toT : AO → Option (List AV) | .tup xs => some xs | _ => none
noncomputable def AO.toD : AO → Option (List (List Nat × AV)) | .dict es => some es | _ => none
noncomputable def AO.toF : AO → Option (List (Nat × AV)) | .fields es => some es | _ => none
noncomputable def AO.toC : AO → Option (Option AV) | .cell v => some v | _ => none
noncomputable def AO.toFn : AO → Option (Nat × zaw) | .fn k cl => some (k, cl) | _ => none
noncomputable def AO.toIn : AO → Option (Nat × Nat) | .inst c d => some (c, d) | _ => none
namespace Store
noncomputable def ls (st : Store) (i : Nat) : Option (List AV) := (st.get i).bind AO.toL
noncomputable def tp (st : Store) (i : Nat) : Option (List AV) := (st.get i).bind AO.toT
noncomputable def dc (st : Store) (i : Nat) : Option (List (List Nat × AV)) := (st.get i).bind AO.toD
noncomputable def cl (st : Store) (i : Nat) : Option (Option AV) := (st.get i).bind AO.toC
noncomputable def fu (st : Store) (i : Nat) : Option (Nat × zaw) := (st.get i).bind AO.toFn
noncomputable def ins (st : Store) (i : Nat) : Option (Nat × Nat × List (Nat × AV)) := ((st.get i).bind AO.toIn).bind λ p => ((st.get p.2).bind AO.toF).map λ es => (p.1, p.2, es)
end Store
noncomputable def pix (k : Int) (n : Nat) : Option Nat :=
 if 0 ≤ k then (if k.toNat < n then some k.toNat else none)
 else if (-k).toNat ≤ n then some (n - (-k).toNat) else none
noncomputable def zpk (k : Int) (n : Nat) : Nat := if 0 ≤ k then min k.toNat n else n - (-k).toNat
noncomputable def zhf {α : Type} (xs : List α) (k : Int) : Option α := (pix k xs.length).bind λ j => nth xs j
noncomputable def cut {α : Type} (xs : List α) (lo hi : AV) : Option (List α) :=
 match lo with
 | .none => match hi with
   | .none => some xs
   | .int b => some (xs.take (zpk b xs.length))
   | _ => none
 | .int a => match hi with
   | .none => some (xs.drop (zpk a xs.length))
   | .int b => some ((xs.take (zpk b xs.length)).drop (zpk a xs.length))
   | _ => none
 | _ => none
noncomputable def zCa {α : Type} (xs : List α) (lo hi st : AV) : Option (List α) :=
 match st with
 | .none => cut xs lo hi
 | .int k => match lo with
   | .none => match hi with
     | .none => cnd (decide (k = -1)) xs.reverse
     | .int z => cnd (decide (k = -1) && decide (z = 0)) (xs.drop 1).reverse
     | _ => none
   | _ => none
 | _ => none
noncomputable def ltS : List Nat → List Nat → Bool
 | [], [] => false
 | [], _ :: _ => true
 | _ :: _, [] => false
 | a :: x, b :: y => if a < b then true else if b < a then false else ltS x y
noncomputable def zxv (n : Nat) (v : AV) : List (Nat × AV) → List (Nat × AV)
 | [] => [(n, v)]
 | (m, w) :: r => if m = n then (m, v) :: r else (m, w) :: zxv n v r
noncomputable def zlp (n : List Nat) (v : AV) : List (List Nat × AV) → List (List Nat × AV)
 | [] => [(n, v)]
 | (m, w) :: r => if m = n then (m, v) :: r else (m, w) :: zlp n v r
noncomputable def zde : List AV → Option (List Int)
 | [] => some []
 | x :: r => x.toI.bind λ i => (zde r).map (i :: ·)
noncomputable def zdm : List AV → Option (List (List Nat))
 | [] => some []
 | x :: r => x.toS.bind λ i => (zdm r).map (i :: ·)
inductive CO where | eq | ne | lt | le | gt | ge | is | isNot
inductive BO where | add | sub | mul | fdiv | mod | pow
inductive PE where
 | non | boo (b : Bool) | num (i : Int) | txt (s : List Nat)
 | loc (x : Nat) | cel (x : Nat) | glb (x : Nat) (v : AV)
 | att (e : PE) (n : Nat)
 | call (f : PE) (args : List PE)
 | mth (o : PE) (n : Nat) (args : List PE)
 | cmp (op : CO) (a b : PE)
 | chn (a : PE) (o1 : CO) (b : PE) (o2 : CO) (c : PE)
 | inn (neg : Bool) (a b : PE)
 | inl (neg : Bool) (a : PE) (isList : Bool) (ss : List (List Nat))
 | andd (es : List PE) | orr (es : List PE)
 | nott (e : PE) | neg (e : PE)
 | bin (op : BO) (a b : PE)
 | ite (c a b : PE)
 | idx (e i : PE)
 | slc (e lo hi st : PE)
 | lst (es : List PE) | tpl (es : List PE) | dct (ks : List (List Nat)) (vs : List PE)
 | lc (elt : PE) (tup : Bool) (xs : List Nat) (iter : PE) (ifs : List PE)
 | lam (k : Nat) | bad
inductive PS where
 | exp (e : PE) | ret (e : PE) | rtn
 | asg (x : Nat) (e : PE) | asc (x : Nat) (e : PE)
 | ast (ts : List (Bool × Nat)) (e : PE)
 | asa (o : PE) (n : Nat) (e : PE) | asi (o i : PE) (e : PE)
 | aug (x : Nat) (op : BO) (e : PE)
 | iff (c : PE) (a b : List PS)
 | whl (c : PE) (b : List PS)
 | fr (tup : Bool) (xs : List (Bool × Nat)) (iter : PE) (b : List PS)
 | dfn (x : Nat) (k : Nat)
 | bad
structure FD where
 ps : List Nat
 dfl : List AV
 cel : List Nat
 body : List PS
structure ND where
 ps : List Nat
 free : List Nat
 body : List PS
 lam : Option PE
structure CD where
 init : Option Nat
 meths : List (Nat × Nat)
structure Tbl where
 fn : Tr FD
 cls : Tr CD
 nst : List (Nat × ND)
 tup : Tr (List AV)
 isi : List Nat
set_option genInjectivity true in
inductive FL where | next | ret (v : AV)
set_option genInjectivity true in
inductive Src where
 | lst (i k : Nat)
 | tps (i k : Nat)
 | rng (a : Int) (step n : Nat)
 | chs (s : List Nat)
 | keys (i k n : Nat)
set_option genInjectivity true in
inductive MT where
 | fnm (a : Nat) (self : AV)
 | bim (n : Nat) (self : AV)
noncomputable def AO.toLT : AO → Option (List AV) | .list xs => some xs | .tup xs => some xs | _ => none
noncomputable def zb1 (T : Tbl) (st : Store) : AV → Option (List AV)
 | .ref i => (st.get i).bind AO.toLT
 | .old a => T.tup.get a
 | _ => none
noncomputable def eqO (o o' : AO) : Option Bool := match o with
 | .list xs => o'.toL.bind λ ys => match ys with
   | [] => some xs.isEmpty
   | y :: ys => (zde xs).bind λ is => (zde (y :: ys)).map λ js => decide (is = js)
 | .tup xs => o'.toT.bind λ ys => (zde xs).bind λ is => (zde ys).map λ js => decide (is = js)
 | _ => none
noncomputable def eqv (st : Store) (a b : AV) : Option Bool :=
 match a with
 | .none => match b with | .none => some true | .str _ => some false | _ => none
 | .int i => b.toI.map λ j => decide (i = j)
 | .str s => match b with | .none => some false | .str t => some (decide (s = t)) | _ => none
 | .ref i => b.toR.bind λ j => (st.get i).bind λ o => (st.get j).bind λ o' => eqO o o'
 | _ => none
noncomputable def zD1 (f : Int → Int → Bool) (g : List Nat → List Nat → Bool) (a b : AV) : Option Bool := match a with
 | .int i => b.toI.map λ j => f i j
 | .str s => b.toS.map λ t => g s t
 | _ => none
noncomputable def zhy (op : CO) (a b : AV) (st : Store) : Option Bool :=
 match op with
 | .eq => eqv st a b
 | .ne => (eqv st a b).map λ q => !q
 | .is => cnd b.isN a.isN
 | .isNot => cnd b.isN (!a.isN)
 | .lt => zD1 (λ i j => decide (i < j)) (λ s t => ltS s t) a b
 | .le => zD1 (λ i j => decide (i ≤ j)) (λ s t => !ltS t s) a b
 | .gt => zD1 (λ i j => decide (j < i)) (λ s t => ltS t s) a b
 | .ge => zD1 (λ i j => decide (j ≤ i)) (λ s t => !ltS s t) a b
noncomputable def inO (s : List Nat) : AO → Option Bool
 | .list xs => (zdm xs).map λ l => l.contains s
 | .dict es => some ((es.map (·.1)).contains s)
 | _ => none
noncomputable def inv (T : Tbl) (st : Store) (a b : AV) : Option Bool :=
 a.toS.bind λ s => match b with
   | .str t => match s with | [c] => some (t.contains c) | _ => none
   | .ref i => (st.get i).bind (inO s)
   | .old t => (T.tup.get t).bind λ xs => (zdm xs).map λ l => l.contains s
   | _ => none
noncomputable def small (i : Int) : Bool := decide (i.natAbs < 2 ^ 2000)
noncomputable def iop (a b : AV) (st : Store) (g : Int → Int → Bool) (f : Int → Int → Int) : Option (Bool × AV × Store) := a.toI.bind λ i => b.toI.map λ j => (g i j, .int (f i j), st)
noncomputable def zDq (op : BO) (a b : AV) (st : Store) : Option (Bool × AV × Store) :=
 match op with
 | .add => match a with
   | .int i => b.toI.map λ j => (true, .int (i + j), st)
   | .str s => b.toS.map λ t => (Nat.ble (s.length + t.length) 1000, .str (s ++ t), st)
   | .ref i => b.toR.bind λ j => (st.ls i).bind λ xs => (st.ls j).map λ ys => (Nat.ble (xs.length + ys.length) 1000, .ref st.n, st.add (.list (xs ++ ys)))
   | _ => none
 | .sub => iop a b st (λ _ _ => true) λ i j => i - j
 | .mul => iop a b st (λ i j => decide (j.natAbs < 2 ^ 60) || small i && small j) λ i j => i * j
 | .fdiv => iop a b st (λ i j => !decide (j = 0) && small j) λ i j => i.fdiv j
 | .mod => iop a b st (λ i j => !decide (j = 0)) λ i j => i.fmod j
 | .pow => iop a b st (λ i j => decide (i = 10) && decide (0 ≤ j) && decide (j ≤ 400)) λ i j => i ^ j.toNat
noncomputable def okF (C : Nat) : List Nat := match Nat.beq C 1636 with | true => [zaz] | false => match Nat.beq C 1447 with | true => [zbk, zah, zar, za3, zax, zap, zb2, zbq, zav] | false => match Nat.beq C 492 with | true => [zac, zjh, zer, zbc, zev, zi8, zd6] | false => match Nat.beq C 191 with | true => [zac, zab, zdv, zj9, zc1, zki, zhr, zg0, ztz] | false => match Nat.beq C 1144 with | true => [zah] | false => match Nat.beq C 1172 with | true => [zah, zay] | false => match Nat.beq C 1366 with | true => [za5, za1, zbp] | false => []
noncomputable def okA (C n : Nat) : Bool := (okF C).any λ k => Nat.beq k n
noncomputable def zc6 (st : Store) (o : AV) (n : Nat) : Option AV := o.toR.bind λ i => (st.ins i).bind λ p => match okA p.1 n with | true => lk n p.2.2 | false => none
noncomputable def ztt (z : Nat) (st : Store) (o : AV) (n : Nat) (v : AV) : Option Store :=
 o.toR.bind λ i => (st.ins i).bind λ p => cnd (Nat.ble z p.2.1 && Nat.ble p.2.2.length 100 && okA p.1 n) (st.set p.2.1 (.fields (zxv n v p.2.2)))
noncomputable def zem (T : Tbl) (st : Store) (o i : AV) : Option AV :=
 match i with
 | .int k => match o with
   | .str s => (zhf s k).map λ c => .str [c]
   | o => (zb1 T st o).bind λ xs => zhf xs k
 | .str s => o.toR.bind λ j => (st.dc j).bind λ es => lkS s es
 | _ => none
noncomputable def zos (z : Nat) (st : Store) (o i v : AV) : Option Store :=
 o.toR.bind λ j => match i with
   | .int k => (st.ls j).bind λ xs => (pix k xs.length).bind λ n => cnd (Nat.ble z j) (st.set j (.list (xs.set n v)))
   | .str s => (st.dc j).bind λ es => cnd (Nat.ble z j && Nat.ble es.length 100) (st.set j (.dict (zlp s v es)))
   | _ => none
noncomputable def truthy (v : AV) : Option Bool :=
 match v with
 | .none => some false
 | .bool b => some b
 | .int i => some (i != 0)
 | _ => none
noncomputable def zL4 (n : Nat) : AO → Bool
 | .list _ => Nat.beq n zeg || Nat.beq n zfv
 | .dict _ => Nat.beq n zmt
 | _ => false
noncomputable def zat (T : Tbl) (st : Store) (o : AV) (n : Nat) : Option MT :=
 match o with
 | .str _ => cnd (Nat.beq n zfy || Nat.beq n zf1 || Nat.beq n zgu) (.bim n o)
 | .ref i => (st.get i).bind λ ob => match ob with
   | .inst .. => (st.ins i).bind λ p => match lk n p.2.2 with
     | some _ => none
     | none => (T.cls.get p.1).bind λ cd => (lk n cd.meths).map λ a => .fnm a o
   | ob => cnd (zL4 n ob) (.bim n o)
 | _ => none
noncomputable def AO.kind : AO → Nat | .list _ => 1 | .dict _ => 2 | _ => 0
noncomputable def zdz (st0 st : Store) (v : AV) : Bool := match v with
 | .ref i => match st0.get i with
   | some o => match st.get i with
     | some o' => Nat.beq o.kind o'.kind && !Nat.beq o.kind 0
     | none => false
   | none => false
 | _ => true
noncomputable def zEh (c : Nat) (s : List Nat) : Option Nat := cnd (s.contains c) (s.idxOf c)
noncomputable def zhj (st : Store) : List AV → Option (List (List (List Nat)))
 | [] => some []
 | x :: r => x.toR.bind λ k => (st.tp k).bind λ zs => (zdm zs).bind λ l => (zhj st r).map (l :: ·)
noncomputable def zjx : List (List Nat × List (List Nat)) := [([111], [[111]]), ([101], [[101]]), ([112, 58, 101], [[112], [101]]), ([113, 58, 101], [[113], [101]]), ([114, 58, 101], [[114], [101]])]
noncomputable def zey : List Nat := [48, 49, 50, 51, 52, 53, 54, 55, 56, 57]
noncomputable def zKl (n : Nat) (s t : List Nat) (st : Store) : Option (Bool × AV × Store) := match t with
 | [c] => match Nat.beq n zfy with
   | true => match Nat.beq c 58 with
     | true => (lkS s zjx).map λ ps => (true, .ref st.n, st.add (.list (ps.map .str)))
     | false => none
   | false => match Nat.beq n zf1 with
     | true => cnd (Nat.beq c 58 && decide (s = [107])) (true, .ref st.n, st.add (.tup [.str [], .str [], .str [107]]))
     | false => match Nat.beq n zgu && decide (s = zey) with
       | true => (zEh c zey).map λ k => (true, .int k, st)
       | false => none
 | _ => none
noncomputable def zKm (z n i : Nat) (v : AV) (st : Store) : AO → Option (Bool × AV × Store)
 | .list xs => match Nat.beq n zeg with
   | true => some (Nat.ble z i && Nat.ble xs.length 1000, .none, st.set i (.list (xs ++ [v])))
   | false => match Nat.beq n zfv with
     | true => v.toR.bind λ j => (st.tp j).bind λ ys => (zdm ys).bind λ l => (zhj st xs).map λ ls => ((l :: ls).all (·.all (·.all (· < 128))), .int (ls.count l), st)
     | false => none
 | .dict es => match Nat.beq n zmt with
   | true => v.toS.map λ s => (true, (lkS s es).getD .none, st)
   | false => none
 | _ => none
noncomputable def bim (z n : Nat) (self : AV) (vs : List AV) (st : Store) : Option (Bool × AV × Store) :=
 match vs with
 | [v] => match self with
   | .ref i => (st.get i).bind (zKm z n i v st)
   | .str s => v.toS.bind λ t => zKl n s t st
   | _ => none
 | _ => none
noncomputable def zek (x : Int) : List Int → List Int
 | [] => [x]
 | y :: r => if x < y then x :: y :: r else if x = y then y :: r else y :: zek x r
noncomputable def zgb (l : List Int) : List Int := l.foldr zek []
inductive Kd where | str | tup | bool | int | own (c : Nat)
noncomputable def zGk (st : Store) (v : AV) : Option Kd := match v with
 | .str _ => some .str
 | .int _ => some .int
 | .bool _ => some .bool
 | .ref i => (st.get i).bind λ o => match o with
   | .tup _ => some .tup
   | .inst .. => (st.ins i).map λ p => .own p.1
   | _ => none
 | _ => none
noncomputable def zM9 (b : BI) : Kd → Option Bool
 | .own _ => none
 | k => match b with
   | .str => some (match k with | .str => true | _ => false)
   | .tuple => some (match k with | .tup => true | _ => false)
   | .bool => match k with
     | .int => none
     | .bool => some true
     | _ => some false
   | _ => none
noncomputable def zt0 (T : Tbl) (cs : List Nat) : Kd → Option Bool
 | .own c => cnd (T.isi.contains c && cs.all λ a => T.isi.contains a) (cs.any λ a => Nat.beq c a)
 | _ => none
noncomputable def zqa : AV → Option Nat | .old a => some a | _ => none
noncomputable def zlw (T : Tbl) (st : Store) (v c : AV) : Option Bool :=
 (zGk st v).bind λ k => match c with
   | .bi b => zM9 b k
   | .old a => zt0 T [a] k
   | .ref j => (st.tp j).bind λ xs => match xs with
     | [x, y] => (zqa x).bind λ a => (zqa y).bind λ b => zt0 T [a, b] k
     | _ => none
   | _ => none
noncomputable def one {α : Type} : List α → Option α | [x] => some x | _ => none
noncomputable def biv (T : Tbl) (b : BI) (vs : List AV) (st : Store) : Option (Bool × AV × Store) :=
 match b with
 | .len => (one vs).bind λ v => match v with
   | .str s => some (true, .int s.length, st)
   | v => (zb1 T st v).map λ xs => (true, .int xs.length, st)
 | .abs => (one vs).bind λ v => v.toI.map λ i => (true, .int i.natAbs, st)
 | .max => match vs with
   | [a, b] => a.toI.bind λ i => b.toI.map λ j => (true, .int (if j > i then j else i), st)
   | _ => none
 | .int => (one vs).bind λ v => match v with
   | .bool b => some (true, .int (match b with | true => 1 | false => 0), st)
   | _ => none
 | .list => (one vs).bind λ v => v.toR.bind λ i => (st.ls i).map λ xs => (Nat.ble xs.length 1000, .ref st.n, st.add (.list xs))
 | .isinstance => match vs with
   | [v, c] => (zlw T st v c).map λ r => (true, .bool r, st)
   | _ => none
 | .range => match vs with
   | [n] => n.toI.map λ n => (decide (-1000 ≤ n) && decide (n ≤ 1000), .ref st.n, st.add (.rng 0 1 n.toNat))
   | [a, b, c] => a.toI.bind λ a => b.toI.bind λ b => c.toI.map λ c => (decide (a = 0) && decide (c = 2) && decide (0 ≤ b) && decide (b ≤ 1000), .ref st.n, st.add (.rng 0 2 ((b + 1) / 2).toNat))
   | _ => none
 | .set => (one vs).bind λ v => v.toR.bind λ i => (st.ls i).bind λ xs => (zde xs).map λ is => (Nat.ble is.length 4 && is.all (λ k => decide (k = 4) || decide (k = -4) || decide (k = 3)), .ref st.n, st.add (.iset (zgb is)))
 | .sorted => (one vs).bind λ v => v.toR.bind λ i => (st.get i).bind λ o => match o with
   | .iset is => some (true, .ref st.n, st.add (.list (is.map .int)))
   | _ => none
 | .ord => (one vs).bind λ v => v.toS.bind λ s => (one s).map λ c => (true, .int c, st)
 | _ => none
noncomputable def zeh (st : Store) (v : AV) : Option Src :=
 match v with
 | .str s => cnd (s.all (· < 128)) (.chs s)
 | .ref i => (st.get i).bind λ o => match o with
   | .list _ => some (.lst i 0)
   | .tup _ => some (.tps i 0)
   | .rng a s n => some (.rng a s n)
   | .dict es => some (.keys i 0 es.length)
   | _ => none
 | _ => none
noncomputable def zfm (st : Store) (s : Src) : Option (Option (AV × Src)) :=
 match s with
 | .lst i k => (st.ls i).map λ xs => (nth xs k).map λ v => (v, .lst i (k + 1))
 | .tps i k => (st.tp i).map λ xs => (nth xs k).map λ v => (v, .tps i (k + 1))
 | .rng a s n => match n with
   | 0 => some none
   | n + 1 => some (some (.int a, .rng (a + s) s n))
 | .chs l => match l with
   | [] => some none
   | c :: r => some (some (.str [c], .chs r))
 | .keys i k n => (st.dc i).bind λ es => match Nat.beq es.length n with
   | true => some ((nth es k).map λ p => (.str p.1, .keys i (k + 1) n))
   | false => none
noncomputable def mx (a b : Nat) : Nat := match Nat.ble a b with | true => b | false => a
theorem zz7 (a b : Nat) : a ≤ mx a b ∧ b ≤ mx a b := by
 unfold mx
 split
 · rename_i h; exact ⟨blx h, Nat.le_refl _⟩
 · rename_i h
   refine ⟨Nat.le_refl _, Nat.le_of_not_le λ q => ?_⟩
   rw [lbx q] at h; cases h
noncomputable def zfg : Src → Bool | .keys .. => true | _ => false
noncomputable def zrf (src : Src) (z : Nat) (st : Store) : Nat := match zfg src with | true => mx z st.n | false => z
noncomputable def zck : FL → AV | .ret v => v | .next => .none
noncomputable def putL (x : Nat) (v : AV) (σ : zaf) : zaf := zxv x v σ
noncomputable def zow (ps : List Nat) (dfl : List AV) (vs : List AV) : Option zaf :=
 cnd (Nat.ble vs.length ps.length && Nat.ble ps.length (vs.length + dfl.length)) (ps.zip (vs ++ dfl.drop (vs.length + dfl.length - ps.length)))
noncomputable def zds : List Nat → zaf → zaw → Store → zaw × Store
 | [], _, Γ, st => (Γ, st)
 | x :: cs, b, Γ, st => zds cs b ((x, st.n) :: Γ) (st.add (.cell (lk x b)))
noncomputable def zd1 (Γ : zaw) : List Nat → Option zaw
 | [] => some []
 | x :: r => (lk x Γ).bind λ i => (zd1 Γ r).map ((x, i) :: ·)
noncomputable def zbe (z : Nat) (Γ : zaw) : List (Bool × Nat) → List AV → zaf → Store → Option (zaf × Store)
 | [], vs, σ, st => match vs with | [] => some (σ, st) | _ :: _ => none
 | t :: ts, vs, σ, st => match vs with
   | [] => none
   | v :: vs => match t.1 with
     | false => zbe z Γ ts vs (putL t.2 v σ) st
     | true => (lk t.2 Γ).bind λ i => (st.cl i).bind λ _ => match Nat.ble z i with
       | true => zbe z Γ ts vs σ (st.set i (.cell (some v)))
       | false => none
noncomputable def zgo (z : Nat) (Γ : zaw) (tup : Bool) (xs : List (Bool × Nat)) (v : AV) (σ : zaf) (st : Store) : Option (zaf × Store) :=
 match tup with
 | false => zbe z Γ xs [v] σ st
 | true => v.toR.bind λ i => (st.tp i).bind λ vs => zbe z Γ xs vs σ st
noncomputable def Opt {α : Type} (o : Option α) (K : α → Prop) : Prop := match o with | some a => K a | none => False
noncomputable def Chk (b : Bool) (K : Prop) : Prop := match b with | true => K | false => False
theorem nn {α : Type} {P : Prop} {a : α} (h : none = some a) : P := nomatch h
theorem nb {P : Prop} (h : false = true) : P := nomatch h
theorem Opt.inv {α : Type} {G : Prop} {o : Option α} {K : α → Prop} (h : Opt o K) (k : ∀ a, o = some a → K a → G) : G := by
 cases o with
 | none => exact h.elim
 | some a => exact k a rfl h
theorem Chk.inv {G : Prop} {b : Bool} {K : Prop} (h : Chk b K) (k : b = true → K → G) : G := by
 cases b with
 | false => exact h.elim
 | true => exact k rfl h
theorem Opt.of {α : Type} {o : Option α} {K : α → Prop} {a : α} (e : o = some a) (h : K a) : Opt o K := by rw [e]; exact h
theorem Chk.of {b : Bool} {K : Prop} (e : b = true) (h : K) : Chk b K := by rw [e]; exact h
theorem zag {α β : Type} {G : Prop} {o : Option α} {f : α → Option β} {b : β} (h : o.bind f = some b) (k : ∀ a, o = some a → f a = some b → G) : G := by
 cases o with
 | none => cases h
 | some a => exact k a rfl h
theorem zbs {α β : Type} {G : Prop} {o : Option α} {f : α → β} {b : β} (h : o.map f = some b) (k : ∀ a, o = some a → f a = b → G) : G := by
 cases o with
 | none => cases h
 | some a => exact k a rfl (Option.some.inj h)
theorem zgr {α : Type} {G : Prop} {b : Bool} {x y : α} (h : cnd b x = some y) (k : b = true → x = y → G) : G := by
 cases b with
 | false => cases h
 | true => exact k rfl (Option.some.inj h)
theorem zbf {G : Prop} {a b : Bool} (h : (a && b) = true) (k : a = true → b = true → G) : G := by
 cases a with
 | false => cases h
 | true => exact k rfl h
abbrev KV := AV → Store → Prop
abbrev KX := FL → zaf → Store → Prop
structure R where
 ev : Nat → zaw → zaf → PE → Store → KV → Prop
 evs : Nat → zaw → zaf → List PE → Store → (List AV → Store → Prop) → Prop
 tr : Nat → zaw → zaf → PE → Store → (Bool → Store → Prop) → Prop
 callv : Nat → AV → List AV → Store → KV → Prop
 cloop : Nat → zaw → zaf → PE → Bool → List Nat → List PE → Src → List AV → Store → KV → Prop
 exec : Nat → zaw → zaf → PS → Store → KX → Prop
 execs : Nat → zaw → zaf → List PS → Store → KX → Prop
 wloop : Nat → zaw → zaf → PE → List PS → Store → KX → Prop
 floop : Nat → zaw → zaf → Bool → List (Bool × Nat) → Src → List PS → Store → KX → Prop
noncomputable def bot : R :=
 { ev := λ _ _ _ _ _ _ => False, evs := λ _ _ _ _ _ _ => False, tr := λ _ _ _ _ _ _ => False, callv := λ _ _ _ _ _ => False, cloop := λ _ _ _ _ _ _ _ _ _ _ _ => False,
   exec := λ _ _ _ _ _ _ => False, execs := λ _ _ _ _ _ _ => False, wloop := λ _ _ _ _ _ _ _ => False, floop := λ _ _ _ _ _ _ _ _ _ => False }
noncomputable def zIf (op : BO) (a b : AV) : Option AV := match op with
 | .add => a.toI.bind λ i => b.toI.map λ j => .int (i + j)
 | .sub => a.toI.bind λ i => b.toI.map λ j => .int (i - j)
 | _ => none
noncomputable def evF (T : Tbl) (r : R) (z : Nat) (Γ : zaw) (σ : zaf) (e : PE) (st : Store) (K : KV) : Prop :=
 match e with
   | .non => K .none st
   | .boo b => K (.bool b) st
   | .num i => K (.int i) st
   | .txt s => K (.str s) st
   | .loc x => Opt (lk x σ) λ v => K v st
   | .cel x => Opt (lk x Γ) λ i => Opt (st.cl i) λ o => Opt o λ v => K v st
   | .glb _ v => Chk v.flat (K v st)
   | .att e a => r.ev z Γ σ e st λ o st => Opt (zc6 st o a) λ v => K v st
   | .call f as => r.ev z Γ σ f st λ f st => r.evs z Γ σ as st λ vs st => r.callv z f vs st K
   | .mth o m as => r.ev z Γ σ o st λ o st0 => Opt (zat T st0 o m) λ mt => r.evs z Γ σ as st0 λ vs st => match mt with
     | .fnm a self => r.callv z (.old a) (self :: vs) st K
     | .bim m self => Chk (zdz st0 st self) (Opt (bim z m self vs st) λ p => Chk p.1 (K p.2.1 p.2.2))
   | .cmp op a b => r.ev z Γ σ a st λ a st => r.ev z Γ σ b st λ b st => Opt (zhy op a b st) λ q => K (.bool q) st
   | .chn a o1 b o2 c => r.ev z Γ σ a st λ a st => r.ev z Γ σ b st λ b st => Opt (zhy o1 a b st) λ q => match q with
     | true => r.ev z Γ σ c st λ c st => Opt (zhy o2 b c st) λ q => K (.bool q) st
     | false => K (.bool false) st
   | .inn neg a b => r.ev z Γ σ a st λ a st => r.ev z Γ σ b st λ b st => Opt (inv T st a b) λ q => K (.bool (q != neg)) st
   | .inl neg a _ ss => r.ev z Γ σ a st λ a st => Opt a.toS λ s => K (.bool (ss.contains s != neg)) st
   | .andd es => match es with
     | [] => False
     | e :: es => match es with
       | [] => r.ev z Γ σ e st K
       | e2 :: es => r.ev z Γ σ e st λ v st => Opt (truthy v) λ q => match q with
         | true => r.ev z Γ σ (.andd (e2 :: es)) st K
         | false => K v st
   | .orr es => match es with
     | [] => False
     | e :: es => match es with
       | [] => r.ev z Γ σ e st K
       | e2 :: es => r.ev z Γ σ e st λ v st => Opt (truthy v) λ q => match q with
         | false => r.ev z Γ σ (.orr (e2 :: es)) st K
         | true => K v st
   | .nott e => r.ev z Γ σ e st λ v st => Opt (truthy v) λ q => K (.bool (!q)) st
   | .neg e => r.ev z Γ σ e st λ v st => Opt v.toI λ i => K (.int (-i)) st
   | .bin op a b => r.ev z Γ σ a st λ a st => r.ev z Γ σ b st λ b st => Opt (zDq op a b st) λ p => Chk p.1 (K p.2.1 p.2.2)
   | .ite c a b => r.tr z Γ σ c st λ q st => match q with
     | true => r.ev z Γ σ a st K
     | false => r.ev z Γ σ b st K
   | .idx o i => r.ev z Γ σ o st λ o st => r.ev z Γ σ i st λ i st => Opt (zem T st o i) λ v => K v st
   | .slc o lo hi sp => r.ev z Γ σ o st λ o st => r.ev z Γ σ lo st λ lo st => r.ev z Γ σ hi st λ hi st => r.ev z Γ σ sp st λ sp st => match o with
     | .str s => match sp with
       | .none => Opt (cut s lo hi) λ r => K (.str r) st
       | _ => False
     | .ref i => Opt (st.ls i) λ xs => Chk (Nat.ble xs.length 1000) (Opt (zCa xs lo hi sp) λ r => K (.ref st.n) (st.add (.list r)))
     | _ => False
   | .lst es => r.evs z Γ σ es st λ vs st => Chk (Nat.ble vs.length 1000) (K (.ref st.n) (st.add (.list vs)))
   | .tpl es => r.evs z Γ σ es st λ vs st => Chk (Nat.ble vs.length 1000) (K (.ref st.n) (st.add (.tup vs)))
   | .dct ks es => r.evs z Γ σ es st λ vs st => Chk (decide (ks.length = vs.length ∧ ks.length ≤ 15 ∧ ks.Nodup)) (K (.ref st.n) (st.add (.dict (ks.zip vs))))
   | .lc elt tup xs iter ifs => r.ev z Γ σ iter st λ v st => Opt (zeh st v) λ src => r.cloop (zrf src z st) Γ [] elt tup xs ifs src [] st K
   | .bad => False
   | .lam k => Opt (lk k T.nst) λ nd => Opt (zd1 Γ nd.free) λ cl => K (.ref st.n) (st.add (.fn k cl))
noncomputable def zMg (r : R) (z : Nat) (Γ : zaw) (σ : zaf) (es : List PE) (st : Store) (K : List AV → Store → Prop) : Prop :=
 match es with
   | [] => K [] st
   | e :: es => r.ev z Γ σ e st λ v st => r.evs z Γ σ es st λ vs st => K (v :: vs) st
noncomputable def trF (r : R) (z : Nat) (Γ : zaw) (σ : zaf) (e : PE) (st : Store) (K : Bool → Store → Prop) : Prop :=
 match e with
   | .nott e => r.tr z Γ σ e st λ b st => K (!b) st
   | .andd es => match es with
     | [] => K true st
     | e :: es => r.tr z Γ σ e st λ q st => match q with
       | true => r.tr z Γ σ (.andd es) st K
       | false => K false st
   | .orr es => match es with
     | [] => K false st
     | e :: es => r.tr z Γ σ e st λ q st => match q with
       | false => r.tr z Γ σ (.orr es) st K
       | true => K true st
   | .ite .. => False
   | e => r.ev z Γ σ e st λ v st => Opt (truthy v) λ q => K q st
noncomputable def zob (T : Tbl) (r : R) (z : Nat) (f : AV) (vs : List AV) (st : Store) (K : KV) : Prop :=
 match f with
   | .bi b => Opt (biv T b vs st) λ p => Chk p.1 (K p.2.1 p.2.2)
   | .old a => match T.fn.get a with
     | some fd => Opt (zow fd.ps fd.dfl vs) λ b => match zds fd.cel b [] st with
       | (Γ, st1) => r.execs z Γ (b.filter λ p => !fd.cel.contains p.1) fd.body st1 λ fl _ st2 => K (zck fl) st2
     | none => Opt (T.cls.get a) λ cd => Opt cd.init λ i =>
         r.callv z (.old i) (.ref (st.n + 1) :: vs) ((st.add (.fields [])).add (.inst a st.n)) λ v st2 => Chk v.isN (K (.ref (st.n + 1)) st2)
   | .ref i => Opt (st.fu i) λ p => Opt (lk p.1 T.nst) λ nd => Chk (nd.free.all λ x => (lk x p.2).isSome) (Opt (zow nd.ps [] vs) λ b => match nd.lam with
       | none => r.execs z p.2 b nd.body st λ fl _ st2 => K (zck fl) st2
       | some e => r.ev z p.2 b e st K)
   | _ => False
noncomputable def zn9 (r : R) (z : Nat) (Γ : zaw) (σ : zaf) (elt : PE) (tup : Bool) (xs : List Nat) (ifs : List PE) (src : Src) (acc : List AV) (st : Store) (K : KV) : Prop :=
 Opt (zfm st src) λ o => Chk (Nat.ble acc.length 1000) (match o with
   | none => K (.ref st.n) (st.add (.list acc))
   | some p => Opt (zgo z Γ tup (xs.map λ x => (false, x)) p.1 σ st) λ q => r.tr z Γ q.1 (.andd ifs) q.2 λ b st => match b with
     | true => r.ev z Γ q.1 elt st λ v st => r.cloop z Γ q.1 elt tup xs ifs p.2 (acc ++ [v]) st K
     | false => r.cloop z Γ q.1 elt tup xs ifs p.2 acc st K)
noncomputable def zd9 (T : Tbl) (r : R) (z : Nat) (Γ : zaw) (σ : zaf) (s : PS) (st : Store) (K : KX) : Prop :=
 match s with
   | .exp e => r.ev z Γ σ e st λ _ st => K .next σ st
   | .ret e => r.ev z Γ σ e st λ v st => K (.ret v) σ st
   | .rtn => K (.ret .none) σ st
   | .asg x e => r.ev z Γ σ e st λ v st => K .next (putL x v σ) st
   | .asc x e => r.ev z Γ σ e st λ v st => Opt (lk x Γ) λ i => Opt (st.cl i) λ _ => Chk (Nat.ble z i) (K .next σ (st.set i (.cell (some v))))
   | .ast ts e => r.ev z Γ σ e st λ v st => Opt v.toR λ i => Opt (st.tp i) λ vs => Opt (zbe z Γ ts vs σ st) λ q => K .next q.1 q.2
   | .asa o a e => r.ev z Γ σ e st λ v st => r.ev z Γ σ o st λ o st => Opt (ztt z st o a v) λ st => K .next σ st
   | .asi o i e => r.ev z Γ σ e st λ v st => r.ev z Γ σ o st λ o st => r.ev z Γ σ i st λ i st => Opt (zos z st o i v) λ st => K .next σ st
   | .aug x op e => Opt (lk x σ) λ old => r.ev z Γ σ e st λ v st => Opt (zIf op old v) λ w => K .next (putL x w σ) st
   | .iff c a b => r.tr z Γ σ c st λ q st => match q with
     | true => r.execs z Γ σ a st K
     | false => r.execs z Γ σ b st K
   | .whl c b => r.wloop z Γ σ c b st K
   | .fr tup xs iter b => r.ev z Γ σ iter st λ v st => Opt (zeh st v) λ src => Chk (!zfg src) (r.floop z Γ σ tup xs src b st K)
   | .dfn x k => Opt (lk k T.nst) λ nd => Opt (zd1 Γ nd.free) λ cl => K .next (putL x (.ref st.n) σ) (st.add (.fn k cl))
   | .bad => False
noncomputable def zvf (r : R) (z : Nat) (Γ : zaw) (σ : zaf) (ss : List PS) (st : Store) (K : KX) : Prop :=
 match ss with
   | [] => K .next σ st
   | s :: ss => r.exec z Γ σ s st λ fl σ st => match fl with
     | .next => r.execs z Γ σ ss st K
     | .ret v => K (.ret v) σ st
noncomputable def zwi (r : R) (z : Nat) (Γ : zaw) (σ : zaf) (c : PE) (b : List PS) (st : Store) (K : KX) : Prop :=
 r.tr z Γ σ c st λ q st => match q with
   | true => r.execs z Γ σ b st λ fl σ st => match fl with
     | .next => r.wloop z Γ σ c b st K
     | .ret v => K (.ret v) σ st
   | false => K .next σ st
noncomputable def zo4 (r : R) (z : Nat) (Γ : zaw) (σ : zaf) (tup : Bool) (xs : List (Bool × Nat)) (src : Src) (b : List PS) (st : Store) (K : KX) : Prop :=
 Opt (zfm st src) λ o => match o with
   | none => K .next σ st
   | some p => Opt (zgo z Γ tup xs p.1 σ st) λ q => r.execs z Γ q.1 b q.2 λ fl σ st => match fl with
     | .next => r.floop z Γ σ tup xs p.2 b st K
     | .ret v => K (.ret v) σ st
noncomputable def zC6 (T : Tbl) (r : R) : R :=
 { ev := evF T r, evs := zMg r, tr := trF r, callv := zob T r, cloop := zn9 r, exec := zd9 T r, execs := zvf r, wloop := zwi r, floop := zo4 r }
noncomputable def mk (T : Tbl) (n : Nat) : R := Nat.rec bot (λ _ r => zC6 T r) n
noncomputable def nN {α : Type} (l r : Tr α) : Tr α := .node none l r
noncomputable def glO : List (Nat × AV) := [(zv7, .old 1695), (zg2, .str [104, 116, 116, 112, 58, 47, 47, 119, 119, 119, 46, 119, 51, 46, 111, 114, 103, 47, 88, 77, 76, 47, 49, 57, 57, 56, 47, 110, 97, 109, 101, 115, 112, 97, 99, 101]), (zd2, (.old 35)), (zii, (.old 49)), (zf2, (.old 42)), (ze2, (.old 63)), (zjk, (.old 77)), (zgj, (.old 56)), (zgv, (.str [104, 116, 116, 112, 58, 47, 47, 119, 119, 119, 46, 119, 51, 46, 111, 114, 103, 47, 88, 77, 76, 47, 49, 57, 57, 56, 47, 110, 97, 109, 101, 115, 112, 97, 99, 101])), (zjm, (.old 202)), (ze9, (.int 128)), (zfp, (.old 276)), (zfc, (.old 262)), (zhk, (.old 251)), (zep, (.old 283)), (zir, (.old 255)), (zhg, (.old 290)), (zje, (.old 297)), (znp, (.old 304)), (zkg, (.old 311)), (zk6, (.str [104, 116, 116, 112, 58, 47, 47, 119, 119, 119, 46, 119, 51, 46, 111, 114, 103, 47, 50, 48, 48, 48, 47, 120, 109, 108, 110, 115, 47])), (zdr, (.old 513)), (zpf, (.int 10000000000000000000000000000000000000000000000000000000000000000000000000000000000000000000000000000000000000000000000000000000000000000000000000000000000000000000000000000000000000000000000000000000000000000000000000000000000000000000000000000000000000000000000000000000000000000000000000000000000000000000000000000000000000000000000000000000000000000000000000000000000000000000000000000000000000000)), (zf7, (.old 506)), (zen, (.old 521)), (zna, (.str [48, 49, 50, 51, 52, 53, 54, 55, 56, 57])), (zea, (.str [32, 9, 10, 13])), (zo6, (.old 619)), (zgs, (.old 612)), (zG1, (.old 497)), (ze6, (.old 640)), (zkn, (.old 535)), (zcx, (.int 400)), (zln, (.old 498)), (zlm, (.old 626)), (zhl, (.old 648)), (zhi, (.old 231)), (zic, (.old 633)), (zhz, (.old 655)), (zc5, (.old 735)), (zsj, (.old 742)), (zfi, (.old 770)), (zq6, (.old 784)), (zkw, (.old 756)), (zj2, (.old 749)), (zxh, (.old 882)), (zm4, (.old 883)), (zkd, (.old 884)), (zwr, (.old 885)), (zly, (.old 886)), (zh4, (.old 887)), (zjg, (.old 888)), (zBj, (.int 1000)), (zkb, (.old 902)), (zj0, (.old 895)), (zjj, (.old 909)), (zhe, (.old 791)), (zga, (.old 862)), (zfk, (.old 869)), (zgn, (.old 881)), (zg5, (.old 1348)), (zkp, (.old 916)), (zA9, (.old 1284)), (zn3, (.old 1341)), (zpj, (.old 1088)), (zji, (.old 1116)), (zq4, (.old 1200)), (zj1, (.old 1322)), (zu7, (.old 1172)), (zn4, (.old 1327)), (zod, (.old 1228)), (zho, (.old 662)), (zd0, (.old 1144)), (zrq, (.old 1256)), (zko, (.old 1334)), (zcm, (.old 1377)), (zd4, (.old 1384)), (zeq, (.old 1391)), (ze8, (.old 1398)), (zgw, (.old 1405)), (zqw, (.old 1412)), (zu8, (.old 1366)), (zff, (.old 1424)), (zdl, (.old 1417)), (zbj, (.old 1654)), (zvs, (.old 1636)), (zej, (.old 1668)), (zb5, (.old 84)), (zf5, (.old 28)), (zbd, (.old 1661)), (zoa, (.old 191)), (zdx, (.old 1429)), (zq9, (.old 492)), (zg2, (.str [104, 116, 116, 112, 58, 47, 47, 119, 119, 119, 46, 119, 51, 46, 111, 114, 103, 47, 88, 77, 76, 47, 49, 57, 57, 56, 47, 110, 97, 109, 101, 115, 112, 97, 99, 101])), (zi1, (.old 238)), (za8, (.old 1673)), (zht, (.old 1647)), (zdu, (.old 1678)), (zc0, (.old 1683)), (zb3, (.old 1688)), (zd5, (.old 318)), (zhn, (.old 339)), (zcy, (.str [104, 116, 116, 112, 58, 47, 47, 119, 119, 119, 46, 119, 51, 46, 111, 114, 103, 47, 88, 77, 76, 47, 49, 57, 57, 56, 47, 110, 97, 109, 101, 115, 112, 97, 99, 101])), (zn0, (.old 1064)), (zo9, (.old 1447)), (zpd, (.old 1430))]
noncomputable def glB : List (Nat × AV) := [(zu2, (.bi .ord)), (zdi, (.bi .len)), (zEv, (.bi .abs)), (za9, (.bi .isinstance)), (zIx, (.bi .str)), (zrr, (.bi .bool)), (zp6, (.bi .tuple)), (zAx, (.bi .int)), (zdg, (.bi .range)), (zIe, (.bi .max)), (zq5, (.bi .sorted)), (zFg, (.bi .set)), (zo7, (.bi .list))]
noncomputable def nd0 : ND := { ps := [zba], free := [zbk, za3, zac, zar], lam := none, body := [.iff (.cmp .ne (.mth (.cel zac) zbk [.loc zba]) (.cel zbk)) [.ret (.boo false)] [], .iff (.inl true (.cel zbk) false [[101, 108, 101, 109, 101, 110, 116], [97, 116, 116, 114, 105, 98, 117, 116, 101], [105, 110, 115, 116, 114, 117, 99, 116, 105, 111, 110]]) [.ret (.boo true)] [], .ret (.andd [(.cmp .eq (.mth (.cel zac) za3 [.loc zba]) (.cel za3)), (.cmp .eq (.mth (.cel zac) zar [.loc zba]) (.cel zar))])] }
noncomputable def nd1 : ND := { ps := [zbm], free := [], body := [], lam := some (.boo false) }
noncomputable def nd2 : ND := { ps := [zab, zdv, zj9], free := [zci], lam := none, body := [.ret (.call (.glb zoa (.old 191)) [.non, .loc zab, .loc zdv, .loc zj9, (.dct [[107]] [(.idx (.cel zci) (.bin .sub (.loc zab) (.num 30)))])])] }
noncomputable def zcj : FD := { ps := [zac, zab], dfl := [], cel := [zac, zbk, za3, zar], body := [.asc zbk (.mth (.cel zac) zbk [.loc zab]), .asc zar (.txt []), .asc za3 (.txt []), .iff (.inl false (.cel zbk) false [[101, 108, 101, 109, 101, 110, 116], [97, 116, 116, 114, 105, 98, 117, 116, 101], [105, 110, 115, 116, 114, 117, 99, 116, 105, 111, 110]]) [.asc za3 (.mth (.cel zac) za3 [.loc zab]), .asc zar (.mth (.cel zac) zar [.loc zab])] [], .dfn zbx 0, .ret (.loc zbx)] }
noncomputable def zby : FD := { ps := [zac, zab], dfl := [], cel := [], body := [.asg zan (.lst []), .whl (.cmp .isNot (.loc zab) .non) [.exp (.mth (.loc zan) za0 [.loc zab]), .asg zab (.mth (.loc zac) zap [.loc zab])], .ret (.loc zan)] }
noncomputable def zfs : FD := { ps := [zac, zab, zal], dfl := [], cel := [], body := [.asg zap (.mth (.loc zac) zap [.loc zab]), .iff (.orr [(.cmp .is (.loc zap) .non), (.inl false (.mth (.loc zac) zbk [.loc zab]) false [[97, 116, 116, 114, 105, 98, 117, 116, 101], [110, 97, 109, 101, 115, 112, 97, 99, 101]])]) [.ret (.num 1)] [], .asg zed (.num 1), .fr false [(false, zdo)] (.mth (.loc zac) zb2 [.loc zap]) [.iff (.cmp .eq (.loc zdo) (.loc zab)) [.ret (.loc zed)] [], .iff (.call (.loc zal) [.loc zdo]) [.aug zed .add (.num 1)] []], .ret (.loc zed)] }
noncomputable def zfx : FD := { ps := [zac, zab, za2], dfl := [], cel := [], body := [.asg zan (.lst []), .fr false [(false, zbm)] (.call (.glb zd2 (.old 35)) [.loc zac, .loc zab]) [.iff (.andd [(.cmp .ne (.loc zbm) (.loc zab)), (.call (.loc za2) [.loc zbm])]) [.ret (.loc zan)] [], .exp (.mth (.loc zan) za0 [.loc zbm])], .ret (.loc zan)] }
noncomputable def zeu : FD := { ps := [zac, zab, zal, za2], dfl := [], cel := [], body := [.fr false [(false, zbm)] (.call (.glb zii (.old 49)) [.loc zac, .loc zab, .loc za2]) [.iff (.call (.loc zal) [.loc zbm]) [.ret (.lst [(.call (.glb zf2 (.old 42)) [.loc zac, .loc zbm, .loc zal])])] []], .ret (.lst [])] }
noncomputable def zc3 : FD := { ps := [zac, zab, zjc, zal, za2], dfl := [], cel := [], body := [.iff (.cmp .eq (.loc zjc) (.txt [109, 117, 108, 116, 105, 112, 108, 101])) [.ret (.call (.glb ze2 (.old 63)) [.loc zac, .loc zab, .loc zal, .loc za2])] [], .iff (.cmp .eq (.loc zjc) (.txt [97, 110, 121])) [.ret (.call (.glb zjk (.old 77)) [.loc zac, .loc zab, .loc zal, .loc za2])] [], .ret (.call (.glb zgj (.old 56)) [.loc zac, .loc zab, .loc zal, .loc za2])] }
noncomputable def zgl : FD := { ps := [zac, zab], dfl := [], cel := [], body := [.asg zan (.lst []), .whl (.cmp .isNot (.loc zab) .non) [.exp (.mth (.loc zan) za0 [.loc zab]), .asg zab (.mth (.loc zac) zap [.loc zab])], .ret (.slc (.loc zan) .non .non (.neg (.num 1)))] }
noncomputable def zix : FD := { ps := [zac, zaq], dfl := [], cel := [], body := [.asg zan (.dct [[120, 109, 108]] [(.glb zgv (.str [104, 116, 116, 112, 58, 47, 47, 119, 119, 119, 46, 119, 51, 46, 111, 114, 103, 47, 88, 77, 76, 47, 49, 57, 57, 56, 47, 110, 97, 109, 101, 115, 112, 97, 99, 101]))]), .fr false [(false, zf6)] (.call (.glb zjm (.old 202)) [.loc zac, .loc zaq]) [.fr false [(false, zab)] (.mth (.loc zac) zav [.loc zf6]) [.ast [(false, zad), (false, zar)] (.tpl [(.mth (.loc zac) zah [.loc zab]), (.mth (.loc zac) zax [.loc zab])]), .iff (.cmp .ne (.loc zar) (.txt [])) [.asi (.loc zan) (.loc zad) (.loc zar)] [.iff (.inn false (.loc zad) (.loc zan)) [.exp (.mth (.loc zan) zAm [.loc zad])] []]]], .ret (.loc zan)] }
noncomputable def zjb : FD := { ps := [zb8], dfl := [], cel := [], body := [.ret (.chn (.txt [97]) .le (.loc zb8) .le (.txt [122]))] }
noncomputable def zkk : FD := { ps := [zb8], dfl := [], cel := [], body := [.iff (.cmp .lt (.call (.glb zu2 (.bi .ord)) [.loc zb8]) (.glb ze9 (.int 128))) [.ret (.orr [(.call (.glb zfp (.old 276)) [.loc zb8]), (.chn (.txt [65]) .le (.loc zb8) .le (.txt [90])), (.cmp .eq (.loc zb8) (.txt [95])), (.cmp .eq (.loc zb8) (.txt [58]))])] [], .ret (.call (.glb zfc (.old 262)) [(.call (.glb zu2 (.bi .ord)) [.loc zb8]), (.glb zhk (.old 251))])] }
noncomputable def zli : FD := { ps := [zb8], dfl := [], cel := [], body := [.iff (.call (.glb zep (.old 283)) [.loc zb8]) [.ret (.boo true)] [], .iff (.cmp .lt (.call (.glb zu2 (.bi .ord)) [.loc zb8]) (.glb ze9 (.int 128))) [.ret (.orr [(.chn (.txt [48]) .le (.loc zb8) .le (.txt [57])), (.cmp .eq (.loc zb8) (.txt [45])), (.cmp .eq (.loc zb8) (.txt [46]))])] [], .ret (.call (.glb zfc (.old 262)) [(.call (.glb zu2 (.bi .ord)) [.loc zb8]), (.glb zir (.old 255))])] }
noncomputable def zol : FD := { ps := [zcq], dfl := [], cel := [], body := [.fr false [(false, zb8)] (.loc zcq) [.iff (.nott (.call (.glb zhg (.old 290)) [.loc zb8])) [.ret (.boo false)] []], .ret (.cmp .ne (.loc zcq) (.txt []))] }
noncomputable def zw4 : FD := { ps := [zcq], dfl := [], cel := [], body := [.ret (.andd [(.cmp .ne (.loc zcq) (.txt [])), (.call (.glb zep (.old 283)) [(.idx (.loc zcq) (.num 0))]), (.call (.glb zje (.old 297)) [.loc zcq])])] }
noncomputable def zqp : FD := { ps := [zcq], dfl := [], cel := [], body := [.ret (.andd [(.inn true (.txt [58]) (.loc zcq)), (.call (.glb znp (.old 304)) [.loc zcq])])] }
noncomputable def zoh : FD := { ps := [zah], dfl := [], cel := [], body := [.asg zdp (.mth (.loc zah) zwg [.txt [58]]), .iff (.cmp .gt (.call (.glb zdi (.bi .len)) [.loc zdp]) (.num 2)) [.bad] [], .fr false [(false, zBb)] (.loc zdp) [.iff (.nott (.call (.glb zkg (.old 311)) [.loc zBb])) [.bad] []], .iff (.cmp .eq (.call (.glb zdi (.bi .len)) [.loc zdp]) (.num 1)) [.ret (.tpl [.txt [], .loc zah])] [], .ret (.tpl [(.idx (.loc zdp) (.num 0)), (.idx (.loc zdp) (.num 1))])] }
noncomputable def zpo : FD := { ps := [zar], dfl := [], cel := [], body := [.iff (.cmp .eq (.loc zar) (.glb zk6 (.str [104, 116, 116, 112, 58, 47, 47, 119, 119, 119, 46, 119, 51, 46, 111, 114, 103, 47, 50, 48, 48, 48, 47, 120, 109, 108, 110, 115, 47]))) [.bad] []] }
noncomputable def zjn : FD := { ps := [zbm, zba], dfl := [], cel := [], body := [.ast [(false, zdh), (false, zdj)] (.tpl [(.call (.glb zEv (.bi .abs)) [.loc zbm]), .loc zba]), .whl (.cmp .gt (.loc zdj) (.num 0)) [.ast [(false, zdh), (false, zdj)] (.tpl [.loc zdj, (.bin .mod (.loc zdh) (.loc zdj))])], .ret (.loc zdh)] }
noncomputable def ziu : FD := { ps := [zdy], dfl := [], cel := [], body := [.iff (.cmp .gt (.loc zdy) (.num 0)) [.ret (.num 1)] [], .iff (.cmp .lt (.loc zdy) (.num 0)) [.ret (.neg (.num 1))] [], .ret (.num 0)] }
noncomputable def zqo : FD := { ps := [zch, zco], dfl := [.int 1], cel := [], body := [.iff (.cmp .eq (.loc zco) (.num 0)) [.ret (.tpl [(.call (.glb zdr (.old 513)) [.loc zch]), .num 0])] [], .iff (.cmp .lt (.loc zco) (.num 0)) [.ast [(false, zch), (false, zco)] (.tpl [(.neg (.loc zch)), (.neg (.loc zco))])] [], .iff (.cmp .ge (.call (.glb zEv (.bi .abs)) [.loc zch]) (.bin .mul (.glb zpf (.int 10000000000000000000000000000000000000000000000000000000000000000000000000000000000000000000000000000000000000000000000000000000000000000000000000000000000000000000000000000000000000000000000000000000000000000000000000000000000000000000000000000000000000000000000000000000000000000000000000000000000000000000000000000000000000000000000000000000000000000000000000000000000000000000000000000000000000000)) (.loc zco))) [.ret (.tpl [(.call (.glb zdr (.old 513)) [.loc zch]), .num 0])] [], .asg znd (.call (.glb zf7 (.old 506)) [.loc zch, .loc zco]), .ast [(false, zch), (false, zco)] (.tpl [(.bin .fdiv (.loc zch) (.loc znd)), (.bin .fdiv (.loc zco) (.loc znd))]), .ret (.ite (.cmp .le (.loc zco) (.glb zpf (.int 10000000000000000000000000000000000000000000000000000000000000000000000000000000000000000000000000000000000000000000000000000000000000000000000000000000000000000000000000000000000000000000000000000000000000000000000000000000000000000000000000000000000000000000000000000000000000000000000000000000000000000000000000000000000000000000000000000000000000000000000000000000000000000000000000000000000000000))) (.tpl [.loc zch, .loc zco]) (.call (.glb zen (.old 521)) [(.bin .fdiv (.bin .add (.bin .mul (.bin .mul (.num 2) (.loc zch)) (.glb zpf (.int 10000000000000000000000000000000000000000000000000000000000000000000000000000000000000000000000000000000000000000000000000000000000000000000000000000000000000000000000000000000000000000000000000000000000000000000000000000000000000000000000000000000000000000000000000000000000000000000000000000000000000000000000000000000000000000000000000000000000000000000000000000000000000000000000000000000000000000))) (.loc zco)) (.bin .mul (.num 2) (.loc zco))), (.glb zpf (.int 10000000000000000000000000000000000000000000000000000000000000000000000000000000000000000000000000000000000000000000000000000000000000000000000000000000000000000000000000000000000000000000000000000000000000000000000000000000000000000000000000000000000000000000000000000000000000000000000000000000000000000000000000000000000000000000000000000000000000000000000000000000000000000000000000000000000000000))]))] }
noncomputable def zxm : FD := { ps := [n_a], dfl := [], cel := [], body := [.ret (.tpl [(.neg (.idx (.loc n_a) (.num 0))), (.idx (.loc n_a) (.num 1))])] }
noncomputable def zoy : FD := { ps := [zcq, zhu], dfl := [], cel := [], body := [.whl (.andd [(.cmp .lt (.loc zhu) (.call (.glb zdi (.bi .len)) [.loc zcq])), (.inn false (.idx (.loc zcq) (.loc zhu)) (.glb zna (.str [48, 49, 50, 51, 52, 53, 54, 55, 56, 57])))]) [.aug zhu .add (.num 1)], .ret (.loc zhu)] }
noncomputable def zw3 : FD := { ps := [zcq], dfl := [], cel := [], body := [.ast [(false, zcv), (false, zh7)] (.tpl [.num 0, (.call (.glb zdi (.bi .len)) [.loc zcq])]), .whl (.andd [(.cmp .lt (.loc zcv) (.loc zh7)), (.inn false (.idx (.loc zcq) (.loc zcv)) (.glb zea (.str [32, 9, 10, 13])))]) [.aug zcv .add (.num 1)], .whl (.andd [(.cmp .gt (.loc zh7) (.loc zcv)), (.inn false (.idx (.loc zcq) (.bin .sub (.loc zh7) (.num 1))) (.glb zea (.str [32, 9, 10, 13])))]) [.aug zh7 .sub (.num 1)], .ret (.slc (.loc zcq) (.loc zcv) (.loc zh7) .non)] }
noncomputable def zsv : FD := { ps := [zr8], dfl := [], cel := [], body := [.asg zdy (.num 0), .fr false [(false, zxl)] (.loc zr8) [.asg zdy (.bin .add (.bin .mul (.loc zdy) (.num 10)) (.mth (.glb zna (.str [48, 49, 50, 51, 52, 53, 54, 55, 56, 57])) zva [.loc zxl]))], .ret (.loc zdy)] }
noncomputable def zm6 : FD := { ps := [zcq], dfl := [], cel := [], body := [.asg za4 (.call (.glb zo6 (.old 619)) [.loc zcq]), .asg zcv (.ite (.cmp .eq (.slc (.loc za4) .non (.num 1) .non) (.txt [45])) (.num 1) (.num 0)), .asg zh7 (.call (.glb zgs (.old 612)) [.loc za4, .loc zcv]), .ast [(false, zgh), (false, zdp)] (.tpl [(.slc (.loc za4) (.loc zcv) (.loc zh7) .non), .txt []]), .iff (.cmp .eq (.slc (.loc za4) (.loc zh7) (.bin .add (.loc zh7) (.num 1)) .non) (.txt [46])) [.asg zux (.call (.glb zgs (.old 612)) [.loc za4, (.bin .add (.loc zh7) (.num 1))]), .asg zdp (.slc (.loc za4) (.bin .add (.loc zh7) (.num 1)) (.loc zux) .non), .asg zh7 (.loc zux)] [], .iff (.orr [(.cmp .lt (.loc zh7) (.call (.glb zdi (.bi .len)) [.loc za4])), (.cmp .eq (.bin .add (.loc zgh) (.loc zdp)) (.txt []))]) [.ret (.glb zG1 (.old 497))] [], .asg zan (.call (.glb ze6 (.old 640)) [.loc zgh, .loc zdp]), .ret (.ite (.cmp .eq (.loc zcv) (.num 1)) (.call (.glb zkn (.old 535)) [.loc zan]) (.loc zan))] }
noncomputable def zh0 : FD := { ps := [zgh, zdp], dfl := [], cel := [], body := [.asg zcv (.num 0), .whl (.andd [(.cmp .lt (.loc zcv) (.call (.glb zdi (.bi .len)) [.loc zgh])), (.cmp .eq (.idx (.loc zgh) (.loc zcv)) (.txt [48]))]) [.aug zcv .add (.num 1)], .iff (.cmp .gt (.bin .sub (.call (.glb zdi (.bi .len)) [.loc zgh]) (.loc zcv)) (.glb zcx (.int 400))) [.ret (.glb zln (.old 498))] [], .asg zev (.slc (.loc zdp) .non (.glb zcx (.int 400)) .non), .asg zBo (.ite (.cmp .ge (.slc (.loc zdp) (.glb zcx (.int 400)) (.bin .add (.glb zcx (.int 400)) (.num 1)) .non) (.txt [53])) (.num 1) (.num 0)), .ret (.call (.glb zen (.old 521)) [(.bin .add (.call (.glb zlm (.old 626)) [(.bin .add (.slc (.loc zgh) (.loc zcv) .non .non) (.loc zev))]) (.loc zBo)), (.bin .pow (.num 10) (.call (.glb zdi (.bi .len)) [.loc zev]))])] }
noncomputable def zul : FD := { ps := [zax, zac], dfl := [], cel := [], body := [.iff (.call (.glb za9 (.bi .isinstance)) [.loc zax, (.glb zIx (.bi .str))]) [.ret (.loc zax)] [], .iff (.call (.glb za9 (.bi .isinstance)) [.loc zax, (.glb zrr (.bi .bool))]) [.ret (.ite (.loc zax) (.txt [116, 114, 117, 101]) (.txt [102, 97, 108, 115, 101]))] [], .iff (.call (.glb za9 (.bi .isinstance)) [.loc zax, (.glb zp6 (.bi .tuple))]) [.ret (.call (.glb zhl (.old 648)) [.loc zax])] [], .ret (.ite (.cmp .ne (.loc zax) (.lst [])) (.call (.glb zhi (.old 231)) [.loc zac, (.idx (.loc zax) (.num 0))]) (.txt []))] }
noncomputable def zqd : FD := { ps := [zax, zac], dfl := [], cel := [], body := [.iff (.call (.glb za9 (.bi .isinstance)) [.loc zax, (.glb zp6 (.bi .tuple))]) [.ret (.loc zax)] [], .iff (.call (.glb za9 (.bi .isinstance)) [.loc zax, (.glb zrr (.bi .bool))]) [.ret (.ite (.loc zax) (.tpl [.num 1, .num 1]) (.tpl [.num 0, .num 1]))] [], .ret (.call (.glb zic (.old 633)) [(.call (.glb zhz (.old 655)) [.loc zax, .loc zac])])] }
noncomputable def zlj : FD := { ps := [zah, zay, zai], dfl := [], cel := [], body := [.iff (.cmp .eq (.loc zah) (.txt [108, 97, 115, 116])) [.ret (.call (.glb zen (.old 521)) [(.att (.loc zai) zj9)])] [], .iff (.cmp .eq (.loc zah) (.txt [112, 111, 115, 105, 116, 105, 111, 110])) [.ret (.call (.glb zen (.old 521)) [(.att (.loc zai) zdv)])] [], .iff (.cmp .eq (.loc zah) (.txt [99, 111, 117, 110, 116])) [.ret (.call (.glb zc5 (.old 735)) [(.idx (.loc zay) (.num 0))])] [], .iff (.cmp .eq (.loc zah) (.txt [115, 117, 109])) [.ret (.call (.glb zsj (.old 742)) [(.idx (.loc zay) (.num 0)), (.att (.loc zai) zac)])] [], .iff (.cmp .eq (.loc zah) (.txt [105, 100])) [.ret (.call (.glb zfi (.old 770)) [(.idx (.loc zay) (.num 0)), .loc zai])] [], .iff (.cmp .eq (.loc zah) (.txt [108, 97, 110, 103])) [.ret (.call (.glb zq6 (.old 784)) [(.call (.glb zhz (.old 655)) [(.idx (.loc zay) (.num 0)), (.att (.loc zai) zac)]), .loc zai])] [], .ret (.call (.glb zkw (.old 756)) [.loc zah, (.call (.glb zj2 (.old 749)) [.loc zay, .loc zai]), (.att (.loc zai) zac)])] }
noncomputable def zuw : FD := { ps := [zah], dfl := [], cel := [], body := [.ret (.orr [(.inn false (.loc zah) (.glb zxh (.old 882))), (.inn false (.loc zah) (.glb zm4 (.old 883))), (.inn false (.loc zah) (.glb zkd (.old 884))), (.inn false (.loc zah) (.glb zwr (.old 885)))])] }
noncomputable def zpn : FD := { ps := [zah], dfl := [], cel := [], body := [.iff (.inn false (.loc zah) (.glb zly (.old 886))) [.ret (.tpl [.num 0, .num 0])] [], .iff (.inn false (.loc zah) (.glb zh4 (.old 887))) [.ret (.tpl [.num 0, .num 1])] [], .iff (.inn false (.loc zah) (.glb zjg (.old 888))) [.ret (.tpl [.num 2, .num 2])] [], .iff (.cmp .eq (.loc zah) (.txt [115, 117, 98, 115, 116, 114, 105, 110, 103])) [.ret (.tpl [.num 2, .num 3])] [], .iff (.cmp .eq (.loc zah) (.txt [116, 114, 97, 110, 115, 108, 97, 116, 101])) [.ret (.tpl [.num 3, .num 3])] [], .ret (.ite (.cmp .eq (.loc zah) (.txt [99, 111, 110, 99, 97, 116])) (.tpl [.num 2, (.glb zBj (.int 1000))]) (.tpl [.num 1, .num 1]))] }
noncomputable def zo8 : FD := { ps := [zah, zay], dfl := [], cel := [], body := [.ast [(false, zvn), (false, zBh)] (.call (.glb zkb (.old 902)) [.loc zah]), .iff (.nott (.chn (.loc zvn) .le (.call (.glb zdi (.bi .len)) [.loc zay]) .le (.loc zBh))) [.bad] []] }
noncomputable def zps : FD := { ps := [zah, zay, zai], dfl := [], cel := [], body := [.iff (.nott (.call (.glb zj0 (.old 895)) [.loc zah])) [.bad] [], .exp (.call (.glb zjj (.old 909)) [.loc zah, .loc zay]), .iff (.inn false (.loc zah) (.glb zxh (.old 882))) [.ret (.call (.glb zhe (.old 791)) [.loc zah, .loc zay, .loc zai])] [], .iff (.inn false (.loc zah) (.glb zm4 (.old 883))) [.ret (.call (.glb zga (.old 862)) [.loc zah, .loc zay, (.att (.loc zai) zac)])] [], .iff (.inn false (.loc zah) (.glb zkd (.old 884))) [.ret (.call (.glb zfk (.old 869)) [.loc zah, .loc zay, .loc zai])] [], .ret (.call (.glb zgn (.old 881)) [.loc zah, .loc zay, .loc zai])] }
noncomputable def zxb : FD := { ps := [zb0, zai], dfl := [], cel := [zai], body := [.asg zay (.lc (.call (.glb zg5 (.old 1348)) [.loc zlo, .cel zai]) false [zlo] (.att (.loc zb0) zay) []), .iff (.call (.glb zj0 (.old 895)) [(.att (.loc zb0) zah)]) [.ret (.call (.glb zkp (.old 916)) [(.att (.loc zb0) zah), .loc zay, .cel zai])] [], .iff (.inn true (.att (.loc zb0) zah) (.att (.cel zai) zhr)) [.bad] [], .ret (.call (.idx (.att (.cel zai) zhr) (.att (.loc zb0) zah)) [.loc zay, .cel zai])] }
noncomputable def ztn : FD := { ps := [zb0, zai], dfl := [], cel := [], body := [.iff (.call (.glb za9 (.bi .isinstance)) [.loc zb0, (.glb zA9 (.old 1284))]) [.ret (.call (.glb zn3 (.old 1341)) [.loc zb0, .loc zai])] [], .iff (.call (.glb za9 (.bi .isinstance)) [.loc zb0, (.tpl [(.glb zpj (.old 1088)), (.glb zji (.old 1116))])]) [.ret (.att (.loc zb0) zax)] [], .iff (.call (.glb za9 (.bi .isinstance)) [.loc zb0, (.glb zq4 (.old 1200))]) [.ret (.call (.glb zj1 (.old 1322)) [.loc zb0, .loc zai])] [], .iff (.call (.glb za9 (.bi .isinstance)) [.loc zb0, (.glb zu7 (.old 1172))]) [.ret (.call (.glb zn4 (.old 1327)) [.loc zb0, .loc zai])] [], .iff (.call (.glb za9 (.bi .isinstance)) [.loc zb0, (.glb zod (.old 1228))]) [.ret (.call (.glb zkn (.old 535)) [(.call (.glb zho (.old 662)) [(.call (.glb zg5 (.old 1348)) [(.att (.loc zb0) zax), .loc zai]), (.att (.loc zai) zac)])])] [], .iff (.call (.glb za9 (.bi .isinstance)) [.loc zb0, (.glb zd0 (.old 1144))]) [.ret (.mth (.loc zai) zlu [(.att (.loc zb0) zah)])] [], .iff (.call (.glb za9 (.bi .isinstance)) [.loc zb0, (.glb zrq (.old 1256))]) [.ret (.call (.glb zko (.old 1334)) [.loc zb0, .loc zai])] [], .bad] }
noncomputable def zi9 : FD := { ps := [zbm, zba], dfl := [], cel := [], body := [.iff (.cmp .lt (.loc zbm) (.loc zba)) [.ret (.neg (.num 1))] [], .ret (.ite (.cmp .lt (.loc zba) (.loc zbm)) (.num 1) (.num 0))] }
noncomputable def zgz : FD := { ps := [zbm, zba], dfl := [], cel := [], body := [.iff (.orr [(.cmp .eq (.loc zbm) (.tpl [.num 0, .num 0])), (.cmp .eq (.loc zba) (.tpl [.num 0, .num 0]))]) [.ret (.call (.glb zcm (.old 1377)) [(.call (.glb zAx (.bi .int)) [(.cmp .ne (.loc zbm) (.tpl [.num 0, .num 0]))]), (.call (.glb zAx (.bi .int)) [(.cmp .ne (.loc zba) (.tpl [.num 0, .num 0]))])])] [], .iff (.andd [(.cmp .eq (.idx (.loc zbm) (.num 1)) (.num 0)), (.cmp .eq (.idx (.loc zba) (.num 1)) (.num 0))]) [.ret (.call (.glb zcm (.old 1377)) [(.idx (.loc zbm) (.num 0)), (.idx (.loc zba) (.num 0))])] [], .ret (.call (.glb zcm (.old 1377)) [(.bin .mul (.idx (.loc zbm) (.num 0)) (.idx (.loc zba) (.num 1))), (.bin .mul (.idx (.loc zba) (.num 0)) (.idx (.loc zbm) (.num 1)))])] }
noncomputable def zij : FD := { ps := [zm5, zbm, zba], dfl := [], cel := [], body := [.iff (.att (.loc zm5) za5) [.asg zb8 (.call (.glb zd4 (.old 1384)) [.loc zbm, .loc zba])] [.asg zb8 (.call (.glb zeq (.old 1391)) [.loc zbm, .loc zba, (.att (.loc zm5) zbp)])], .ret (.ite (.att (.loc zm5) za1) (.neg (.loc zb8)) (.loc zb8))] }
noncomputable def zk4 : FD := { ps := [zbl, zbm, zba], dfl := [], cel := [], body := [.fr false [(false, zbn)] (.call (.glb zdg (.bi .range)) [(.call (.glb zdi (.bi .len)) [.loc zbl])]) [.asg zb8 (.call (.glb ze8 (.old 1398)) [(.idx (.loc zbl) (.loc zbn)), (.idx (.loc zbm) (.loc zbn)), (.idx (.loc zba) (.loc zbn))]), .iff (.cmp .ne (.loc zb8) (.num 0)) [.ret (.loc zb8)] []], .ret (.num 0)] }
noncomputable def zAt : FD := { ps := [zbl, zbm, zba], dfl := [], cel := [], body := [.asg zan (.lst []), .asg zdh (.num 0), .asg zdj (.num 0), .whl (.andd [(.cmp .lt (.loc zdh) (.call (.glb zdi (.bi .len)) [.loc zbm])), (.cmp .lt (.loc zdj) (.call (.glb zdi (.bi .len)) [.loc zba]))]) [.iff (.cmp .le (.call (.glb zgw (.old 1405)) [.loc zbl, (.idx (.idx (.loc zbm) (.loc zdh)) (.num 0)), (.idx (.idx (.loc zba) (.loc zdj)) (.num 0))]) (.num 0)) [.exp (.mth (.loc zan) za0 [(.idx (.loc zbm) (.loc zdh))]), .aug zdh .add (.num 1)] [.exp (.mth (.loc zan) za0 [(.idx (.loc zba) (.loc zdj))]), .aug zdj .add (.num 1)]], .ret (.bin .add (.bin .add (.loc zan) (.slc (.loc zbm) (.loc zdh) .non .non)) (.slc (.loc zba) (.loc zdj) .non .non))] }
noncomputable def zm3 : FD := { ps := [zbl, zb9], dfl := [], cel := [], body := [.asg zhh (.lc (.lst [.loc zBt]) false [zBt] (.loc zb9) []), .whl (.cmp .gt (.call (.glb zdi (.bi .len)) [.loc zhh]) (.num 1)) [.asg zmm (.lst []), .fr false [(false, zbn)] (.call (.glb zdg (.bi .range)) [.num 0, (.bin .sub (.call (.glb zdi (.bi .len)) [.loc zhh]) (.num 1)), .num 2]) [.exp (.mth (.loc zmm) za0 [(.call (.glb zqw (.old 1412)) [.loc zbl, (.idx (.loc zhh) (.loc zbn)), (.idx (.loc zhh) (.bin .add (.loc zbn) (.num 1)))])])], .iff (.cmp .eq (.bin .mod (.call (.glb zdi (.bi .len)) [.loc zhh]) (.num 2)) (.num 1)) [.exp (.mth (.loc zmm) za0 [(.idx (.loc zhh) (.neg (.num 1)))])] [], .asg zhh (.loc zmm)], .ret (.ite (.cmp .ne (.loc zhh) (.lst [])) (.lc (.loc zBc) true [zbb, zBc] (.idx (.loc zhh) (.num 0)) []) (.lst []))] }
noncomputable def zk8 : FD := { ps := [zb0, za5, zai], dfl := [], cel := [], body := [.asg zax (.call (.glb zg5 (.old 1348)) [.loc zb0, .loc zai]), .iff (.nott (.loc za5)) [.ret (.call (.glb zhz (.old 655)) [.loc zax, (.att (.loc zai) zac)])] [], .asg zdy (.call (.glb zho (.old 662)) [.loc zax, (.att (.loc zai) zac)]), .ret (.ite (.orr [(.call (.glb za9 (.bi .isinstance)) [.loc zax, (.glb zrr (.bi .bool))]), (.cmp .eq (.idx (.loc zdy) (.num 1)) (.num 0))]) (.tpl [.num 0, .num 0]) (.loc zdy))] }
noncomputable def zbr : FD := { ps := [zau, zfl, zbg], dfl := [], cel := [zai], body := [.asg zbl (.lc (.call (.glb zu8 (.old 1366)) [.loc za5, .loc za1, .loc zdh]) true [zb0, za5, za1, zdh] (.loc zfl) []), .asg zb9 (.lst []), .fr false [(false, zbn)] (.call (.glb zdg (.bi .range)) [(.call (.glb zdi (.bi .len)) [.loc zau])]) [.asc zai (.call (.loc zbg) [(.idx (.loc zau) (.loc zbn)), (.bin .add (.loc zbn) (.num 1)), (.call (.glb zdi (.bi .len)) [.loc zau])]), .asg zbb (.lc (.call (.glb zff (.old 1424)) [.loc zb0, .loc za5, .cel zai]) true [zb0, za5, za1, zdh] (.loc zfl) []), .exp (.mth (.loc zb9) za0 [(.tpl [.loc zbb, (.idx (.loc zau) (.loc zbn))])])], .ret (.call (.glb zdl (.old 1417)) [.loc zbl, .loc zb9])] }
noncomputable def zpz : FD := { ps := [zbu, n_k], dfl := [], cel := [], body := [.asg zw9 (.ite (.cmp .lt (.loc n_k) (.call (.glb zdi (.bi .len)) [.loc zbu])) (.idx (.loc zbu) (.loc n_k)) (.num 0)), .asg zme (.call (.glb zIe (.bi .max)) [.loc zw9, (.bin .sub (.neg (.num 1)) (.loc zw9))]), .asg zw7 (.bin .mod (.bin .mul (.bin .add (.bin .add (.bin .add (.bin .mod (.loc zme) (.num 2147483629)) (.bin .mul (.bin .mul (.num 7919) (.loc n_k)) (.loc n_k))) (.bin .mul (.num 31) (.loc n_k))) (.num 17)) (.num 48271)) (.num 2147483647)), .ret (.lst [(.bin .mul (.loc zme) (.call (.glb zAx (.bi .int)) [(.cmp .ge (.loc zme) (.bin .pow (.num 10) (.num 18)))])), .loc zw7])] }
noncomputable def zp3 : FD := { ps := [zae, zch], dfl := [], cel := [], body := [.iff (.cmp .gt (.idx (.loc zae) (.num 0)) (.num 0)) [.asg zrd (.bin .mod (.idx (.loc zae) (.num 0)) (.loc zch)), .asi (.loc zae) (.num 0) (.bin .fdiv (.idx (.loc zae) (.num 0)) (.loc zch)), .ret (.loc zrd)] [], .asi (.loc zae) (.num 1) (.bin .mod (.bin .add (.bin .mul (.idx (.loc zae) (.num 1)) (.num 39373)) (.num 7)) (.num 2147483647)), .ret (.bin .mod (.bin .fdiv (.bin .mod (.bin .mul (.idx (.loc zae) (.num 1)) (.idx (.loc zae) (.num 1))) (.num 2147483629)) (.num 32)) (.loc zch))] }
noncomputable def zto : FD := { ps := [zae, znb], dfl := [], cel := [], body := [.ret (.idx (.loc znb) (.call (.glb zbj (.old 1654)) [.loc zae, (.call (.glb zdi (.bi .len)) [.loc znb])]))] }
noncomputable def ztv : FD := { ps := [zac, zap, zbb], dfl := [], cel := [], body := [.ast [(false, zcp), (false, zah), (false, zar)] (.loc zbb), .iff (.cmp .eq (.loc zcp) (.txt [101, 108, 101, 109, 101, 110, 116])) [.ret (.mth (.loc zac) zef [.loc zap, .loc zah, .loc zar, (.slc (.loc zah) (.neg (.num 1)) .non .non)])] [], .iff (.cmp .eq (.loc zcp) (.txt [105, 110, 115, 116, 114, 117, 99, 116, 105, 111, 110])) [.ret (.mth (.loc zac) zfh [.loc zap, .loc zah, .txt []])] [], .ret (.ite (.cmp .eq (.loc zcp) (.txt [99, 111, 109, 109, 101, 110, 116])) (.mth (.loc zac) zig [.loc zap, .txt [99]]) (.mth (.loc zac) zit [.loc zap, .txt [116]]))] }
noncomputable def zao : FD := { ps := [zaz, zhu], dfl := [], cel := [zac, zch], body := [.asc zac (.call (.glb zvs (.old 1636)) []), .asc zch (.mth (.cel zac) zef [(.mth (.cel zac) zi7 []), .txt [111], .txt [], .txt [111]]), .asg zau (.lc (.call (.glb zej (.old 1668)) [.cel zac, .cel zch, .loc zbb]) false [zbb] (.loc zaz) []), .asg zf8 (.lc (.tpl [.loc zcp, (.slc (.loc zah) (.neg (.num 1)) .non .non), .loc zar]) true [zcp, zah, zar] (.slc (.loc zaz) .non (.bin .add (.loc zhu) (.num 1)) .non) []), .ret (.cmp .eq (.call (.glb zb5 (.old 84)) [.cel zac, (.idx (.loc zau) (.loc zhu)), .txt [115, 105, 110, 103, 108, 101], (.call (.glb zf5 (.old 28)) [.cel zac, (.idx (.loc zau) (.loc zhu))]), (.lam 1)]) (.lst [(.mth (.loc zf8) zhq [(.idx (.loc zf8) (.neg (.num 1)))])]))] }
noncomputable def za7 : FD := { ps := [zae], dfl := [], cel := [zae, zcw], body := [.asc zcw (.lst [(.tpl [.txt [101, 108, 101, 109, 101, 110, 116], .txt [97], .txt []]), (.tpl [.txt [101, 108, 101, 109, 101, 110, 116], .txt [112, 58, 97], .txt [117, 58, 49]]), (.tpl [.txt [101, 108, 101, 109, 101, 110, 116], .txt [113, 58, 97], .txt [117, 58, 50]]), (.tpl [.txt [101, 108, 101, 109, 101, 110, 116], .txt [114, 58, 97], .txt [117, 58, 49]])]), .asc zcw (.bin .add (.cel zcw) (.lst [(.tpl [.txt [101, 108, 101, 109, 101, 110, 116], .txt [98], .txt []]), (.tpl [.txt [101, 108, 101, 109, 101, 110, 116], .txt [112, 58, 98], .txt [117, 58, 49]]), (.tpl [.txt [105, 110, 115, 116, 114, 117, 99, 116, 105, 111, 110], .txt [97], .txt []]), (.tpl [.txt [105, 110, 115, 116, 114, 117, 99, 116, 105, 111, 110], .txt [98], .txt []])])), .asc zcw (.bin .add (.cel zcw) (.lst [(.tpl [.txt [99, 111, 109, 109, 101, 110, 116], .txt [], .txt []]), (.tpl [.txt [116, 101, 120, 116], .txt [], .txt []])])), .ret (.lc (.call (.glb zbd (.old 1661)) [.cel zae, .cel zcw]) false [ze7] (.call (.glb zdg (.bi .range)) [(.bin .add (.num 1) (.call (.glb zbj (.old 1654)) [.cel zae, .num 7]))]) [])] }
noncomputable def zaj : FD := { ps := [zae], dfl := [], cel := [zae, ze1, zmk, zci], body := [.asc ze1 (.dct [[50], [32, 50, 32], [50, 46, 48], [45, 50], [49, 46, 53]] [.num 4, .num 4, .num 4, (.neg (.num 4)), .num 3]), .asc zci (.lc (.call (.glb zbd (.old 1661)) [.cel zae, (.lst [.txt [50], .txt [32, 50, 32], .txt [50, 46, 48], .txt [45, 50], .txt [49, 46, 53]])]) false [ze7] (.call (.glb zdg (.bi .range)) [(.call (.glb zbj (.old 1654)) [.cel zae, .num 5])]) []), .asg zau (.lc (.bin .add (.num 30) (.loc zhu)) false [zhu] (.call (.glb zdg (.bi .range)) [(.call (.glb zdi (.bi .len)) [.cel zci])]) []), .dfn zak 2, .fr true [(false, zcp), (false, zd3)] (.lst [(.tpl [.txt [112, 111, 115, 105, 116, 105, 111, 110], .boo false]), (.tpl [.txt [112, 111, 115, 105, 116, 105, 111, 110], .boo true]), (.tpl [.txt [108, 97, 115, 116], .boo false]), (.tpl [.txt [108, 97, 115, 116], .boo true])]) [.asg zc2 (.ite (.andd [(.cmp .eq (.loc zcp) (.txt [112, 111, 115, 105, 116, 105, 111, 110])), .loc zd3]) (.slc (.loc zau) .non .non (.neg (.num 1))) (.loc zau)), .iff (.cmp .ne (.call (.glb zdx (.old 1429)) [.loc zau, (.lst [(.tpl [(.call (.glb zu7 (.old 1172)) [.loc zcp, (.tpl [])]), .boo true, .loc zd3, .non])]), .loc zak]) (.loc zc2)) [.ret (.boo false)] []], .asg zc2 (.lst []), .fr false [(true, zmk)] (.call (.glb zq5 (.bi .sorted)) [(.call (.glb zFg (.bi .set)) [(.lc (.idx (.cel ze1) (.loc zcq)) false [zcq] (.cel zci) [])])]) [.asg zc2 (.bin .add (.loc zc2) (.lc (.loc zab) false [zab] (.loc zau) [(.cmp .eq (.idx (.cel ze1) (.idx (.cel zci) (.bin .sub (.loc zab) (.num 30)))) (.cel zmk))]))], .ret (.cmp .eq (.call (.glb zdx (.old 1429)) [.loc zau, (.lst [(.tpl [(.call (.glb zd0 (.old 1144)) [.txt [107]]), .boo true, .boo false, .non])]), .loc zak]) (.loc zc2))] }
noncomputable def zas : FD := { ps := [zae], dfl := [], cel := [zc2, zjd], body := [.asg zac (.call (.glb zvs (.old 1636)) []), .asg zbv (.call (.glb zq9 (.old 492)) [.loc zac, (.mth (.loc zac) zi7 [])]), .exp (.mth (.loc zbv) zqs [.txt [111], .txt []]), .exp (.mth (.loc zbv) zcz [.txt [112], .txt [117, 58, 49]]), .iff (.cmp .eq (.call (.glb zbj (.old 1654)) [.loc zae, .num 2]) (.num 0)) [.exp (.mth (.loc zbv) zcz [.txt [113], .txt [117, 58, 50]])] [], .ast [(false, zad), (false, zar)] (.tpl [(.call (.glb zbd (.old 1661)) [.loc zae, (.lst [.txt [], .txt [112, 58], .txt [113, 58], .txt [114, 58]])]), (.call (.glb zbd (.old 1661)) [.loc zae, (.lst [.txt [117, 58, 49], .txt [117, 58, 50], .txt [117, 58, 51], .txt []])])]), .ast [(false, zaq), (true, zc2)] (.tpl [(.mth (.loc zbv) zqs [(.bin .add (.loc zad) (.txt [101])), .loc zar]), (.dct [] [])]), .iff (.andd [(.cmp .ne (.loc zad) (.txt [])), (.cmp .ne (.loc zar) (.txt []))]) [.asi (.cel zc2) (.idx (.loc zad) (.num 0)) (.loc zar)] [], .fr false [(false, ze7)] (.call (.glb zdg (.bi .range)) [(.call (.glb zbj (.old 1654)) [.loc zae, .num 6])]) [.ast [(false, za4), (false, zcb)] (.tpl [(.call (.glb zbd (.old 1661)) [.loc zae, (.lst [.txt [112], .txt [113], .txt [114]])]), (.call (.glb zbd (.old 1661)) [.loc zae, (.lst [.txt [117, 58, 49], .txt [117, 58, 50], .txt [117, 58, 51], .txt [], (.glb zg2 (.str [104, 116, 116, 112, 58, 47, 47, 119, 119, 119, 46, 119, 51, 46, 111, 114, 103, 47, 88, 77, 76, 47, 49, 57, 57, 56, 47, 110, 97, 109, 101, 115, 112, 97, 99, 101]))])])]), .exp (.mth (.loc zbv) zcz [.loc za4, .loc zcb]), .iff (.andd [(.inl true (.loc zcb) true [[], [104, 116, 116, 112, 58, 47, 47, 119, 119, 119, 46, 119, 51, 46, 111, 114, 103, 47, 88, 77, 76, 47, 49, 57, 57, 56, 47, 110, 97, 109, 101, 115, 112, 97, 99, 101]]), (.inn true (.loc za4) (.cel zc2))]) [.asi (.cel zc2) (.loc za4) (.loc zcb)] []], .asc zjd (.call (.glb zi1 (.old 238)) [.loc zac, .loc zaq]), .ret (.andd [(.cmp .eq (.lc (.loc za4) false [za4] (.cel zc2) [(.cmp .ne (.mth (.cel zjd) ztw [.loc za4]) (.idx (.cel zc2) (.loc za4)))]) (.lst [])), (.cmp .eq (.mth (.loc zac) zar [.loc zaq]) (.loc zar))])] }
noncomputable def zk9 : FD := { ps := [zbu], dfl := [], cel := [], body := [.asg zeb (.lst [(.tpl [.txt [101, 108, 101, 109, 101, 110, 116], .txt [97], .txt []]), (.tpl [.txt [101, 108, 101, 109, 101, 110, 116], .txt [112, 58, 97], .txt [117, 58, 49]]), (.tpl [.txt [105, 110, 115, 116, 114, 117, 99, 116, 105, 111, 110], .txt [97], .txt []]), (.tpl [.txt [101, 108, 101, 109, 101, 110, 116], .txt [97], .txt []])]), .iff (.orr [(.nott (.call (.glb za8 (.old 1673)) [.loc zeb, .num 3])), (.nott (.call (.glb za8 (.old 1673)) [.loc zeb, .num 1]))]) [.ret (.boo false)] [], .asg zae (.call (.glb zht (.old 1647)) [.loc zbu, .num 0]), .asg zaz (.call (.glb zdu (.old 1678)) [.loc zae]), .iff (.nott (.call (.glb za8 (.old 1673)) [.loc zaz, (.call (.glb zbj (.old 1654)) [.loc zae, (.call (.glb zdi (.bi .len)) [.loc zaz])])])) [.ret (.boo false)] [], .ret (.andd [(.call (.glb zc0 (.old 1683)) [.loc zae]), (.call (.glb zb3 (.old 1688)) [.loc zae]), (.call (.glb zb3 (.old 1688)) [.loc zae])])] }
noncomputable def zia : FD := { ps := [zaa, zac, zab, zdv, zj9, zc1, zki, zhr, zg0, ztz], dfl := [.int 1, .int 1, .none, .none, .none, .none, .none], cel := [], body := [.asa (.loc zaa) zac (.loc zac), .asa (.loc zaa) zab (.loc zab), .asa (.loc zaa) zdv (.loc zdv), .asa (.loc zaa) zj9 (.loc zj9), .asa (.loc zaa) zc1 (.ite (.cmp .is (.loc zc1) .non) (.dct [] []) (.loc zc1)), .asa (.loc zaa) zki (.ite (.cmp .is (.loc zki) .non) (.dct [] []) (.loc zki)), .asa (.loc zaa) zhr (.ite (.cmp .is (.loc zhr) .non) (.dct [] []) (.loc zhr)), .asa (.loc zaa) zg0 (.ite (.cmp .is (.loc zg0) .non) (.loc zab) (.loc zg0)), .asa (.loc zaa) ztz (.ite (.cmp .is (.loc ztz) .non) (.dct [] []) (.loc ztz))] }
noncomputable def zib : FD := { ps := [zaa, zah], dfl := [], cel := [], body := [.ast [(false, zad), (false, zua), (false, za3)] (.mth (.loc zah) zjf [.txt [58]]), .asg zqk (.ite (.cmp .eq (.loc zua) (.txt [])) (.loc zah) (.bin .add (.bin .add (.bin .add (.txt [123]) (.mth (.loc zaa) zAp [.loc zad])) (.txt [125])) (.loc za3))), .iff (.inn true (.loc zqk) (.att (.loc zaa) zc1)) [.bad] [], .ret (.idx (.att (.loc zaa) zc1) (.loc zqk))] }
noncomputable def zx2 : CD := { init := some 167, meths := [(zlu, 181)] }
noncomputable def zi0 : FD := { ps := [zaa, zac, zjh], dfl := [], cel := [], body := [.asa (.loc zaa) zac (.loc zac), .asa (.loc zaa) zjh (.loc zjh), .asa (.loc zaa) zer (.lst [.loc zjh]), .asa (.loc zaa) zbc (.lst [.boo false]), .asa (.loc zaa) zev (.lst [(.lst [])]), .asa (.loc zaa) zi8 (.lst [.num 0]), .asa (.loc zaa) zd6 (.lst [])] }
noncomputable def zf3 : FD := { ps := [zaa], dfl := [], cel := [], body := [.ret (.idx (.att (.loc zaa) zer) (.neg (.num 1)))] }
noncomputable def zjz : FD := { ps := [zaa], dfl := [], cel := [], body := [.iff (.cmp .ne (.att (.loc zaa) zd6) (.lst [])) [.exp (.mth (.att (.loc zaa) zac) zit [(.mth (.loc zaa) zf9 []), (.mth (.txt []) zGi [(.att (.loc zaa) zd6)])]), .asa (.loc zaa) zd6 (.lst [])] []] }
noncomputable def zhd : FD := { ps := [zaa], dfl := [], cel := [], body := [.exp (.mth (.loc zaa) zsr []), .asi (.att (.loc zaa) zbc) (.neg (.num 1)) (.boo true)] }
noncomputable def zlb : FD := { ps := [zaa, zah, zar], dfl := [], cel := [], body := [.ast [(false, zad), (false, za3)] (.call (.glb zd5 (.old 318)) [.loc zah]), .exp (.call (.glb zhn (.old 339)) [.loc zar]), .iff (.cmp .eq (.loc zar) (.glb zcy (.str [104, 116, 116, 112, 58, 47, 47, 119, 119, 119, 46, 119, 51, 46, 111, 114, 103, 47, 88, 77, 76, 47, 49, 57, 57, 56, 47, 110, 97, 109, 101, 115, 112, 97, 99, 101]))) [.asg zad (.txt [120, 109, 108])] [.iff (.cmp .eq (.loc zar) (.txt [])) [.asg zad (.txt [])] [.iff (.inl false (.loc zad) false [[120, 109, 108], [120, 109, 108, 110, 115]]) [.asg zad (.mth (.loc zaa) zng [])] []]], .exp (.mth (.loc zaa) zh2 []), .asg zaq (.mth (.att (.loc zaa) zac) zef [(.mth (.loc zaa) zf9 []), (.ite (.cmp .eq (.loc zad) (.txt [])) (.loc za3) (.bin .add (.bin .add (.loc zad) (.txt [58])) (.loc za3))), .loc zar, .loc za3]), .exp (.mth (.att (.loc zaa) zer) za0 [.loc zaq]), .exp (.mth (.att (.loc zaa) zbc) za0 [.boo false]), .exp (.mth (.att (.loc zaa) zev) za0 [(.lst [])]), .exp (.mth (.att (.loc zaa) zi8) za0 [.num 0]), .iff (.cmp .ne (.mth (.loc zaa) zf4 [.loc zad]) (.loc zar)) [.exp (.mth (.loc zaa) zn2 [.loc zad, .loc zar])] [], .ret (.loc zaq)] }
noncomputable def zdb : FD := { ps := [zaa, zad], dfl := [], cel := [], body := [.iff (.cmp .eq (.loc zad) (.txt [120, 109, 108])) [.ret (.glb zcy (.str [104, 116, 116, 112, 58, 47, 47, 119, 119, 119, 46, 119, 51, 46, 111, 114, 103, 47, 88, 77, 76, 47, 49, 57, 57, 56, 47, 110, 97, 109, 101, 115, 112, 97, 99, 101]))] [], .fr false [(false, zaq)] (.slc (.att (.loc zaa) zer) .non (.num 0) (.neg (.num 1))) [.fr false [(false, zab)] (.mth (.att (.loc zaa) zac) zav [.loc zaq]) [.iff (.cmp .eq (.mth (.att (.loc zaa) zac) zah [.loc zab]) (.loc zad)) [.ret (.mth (.att (.loc zaa) zac) zax [.loc zab])] []]], .ret (.txt [])] }
noncomputable def zfr : FD := { ps := [zaa, zad, zar], dfl := [], cel := [], body := [.exp (.call (.glb zhn (.old 339)) [.loc zar]), .iff (.andd [(.cmp .ne (.loc zad) (.txt [])), (.cmp .eq (.loc zar) (.txt []))]) [.bad] [], .exp (.mth (.att (.loc zaa) zac) zez [(.mth (.loc zaa) zf9 []), .loc zad, .loc zar])] }
noncomputable def zca : FD := { ps := [zaa, zad], dfl := [], cel := [zaa], body := [.ret (.inn false (.loc zad) (.lc (.mth (.att (.cel zaa) zac) zah [.loc zab]) false [zab] (.mth (.att (.cel zaa) zac) zav [(.mth (.cel zaa) zf9 [])]) []))] }
noncomputable def zdt : FD := { ps := [zaa, zad], dfl := [], cel := [zaa], body := [.iff (.orr [(.inl false (.loc zad) false [[], [120, 109, 108], [120, 109, 108, 110, 115]]), (.inn false (.loc zad) (.idx (.att (.cel zaa) zev) (.neg (.num 1)))), (.mth (.cel zaa) zcl [.loc zad])]) [.ret (.boo true)] [], .asg zau (.bin .add (.lst [(.mth (.cel zaa) zf9 [])]) (.mth (.att (.cel zaa) zac) zbq [(.mth (.cel zaa) zf9 [])])), .ret (.inn false (.loc zad) (.lc (.idx (.call (.glb zd5 (.old 318)) [(.mth (.att (.cel zaa) zac) zah [.loc zab])]) (.num 0)) false [zab] (.loc zau) []))] }
noncomputable def zdd : FD := { ps := [zaa, zad, zar], dfl := [], cel := [], body := [.exp (.mth (.loc zaa) zfu [.txt [97, 32, 110, 97, 109, 101, 115, 112, 97, 99, 101]]), .iff (.orr [(.cmp .eq (.loc zar) (.glb zcy (.str [104, 116, 116, 112, 58, 47, 47, 119, 119, 119, 46, 119, 51, 46, 111, 114, 103, 47, 88, 77, 76, 47, 49, 57, 57, 56, 47, 110, 97, 109, 101, 115, 112, 97, 99, 101]))), (.andd [(.cmp .ne (.loc zad) (.txt [])), (.cmp .eq (.loc zar) (.txt []))]), (.mth (.loc zaa) zcl [.loc zad])]) [.rtn] [], .iff (.cmp .eq (.mth (.loc zaa) zf4 [.loc zad]) (.loc zar)) [.exp (.mth (.idx (.att (.loc zaa) zev) (.neg (.num 1))) za0 [.loc zad]), .rtn] [], .iff (.andd [(.cmp .eq (.loc zad) (.txt [])), (.cmp .ne (.idx (.call (.glb zd5 (.old 318)) [(.mth (.att (.loc zaa) zac) zah [(.mth (.loc zaa) zf9 [])])]) (.num 0)) (.txt []))]) [.exp (.mth (.loc zaa) zn2 [.loc zad, .loc zar])] [.iff (.nott (.mth (.loc zaa) zi2 [.loc zad])) [.exp (.mth (.loc zaa) zn2 [.loc zad, .loc zar])] []]] }
noncomputable def zcs : FD := { ps := [zaa, zss], dfl := [], cel := [], body := [.iff (.cmp .eq (.call (.glb zdi (.bi .len)) [(.att (.loc zaa) zer)]) (.num 1)) [.bad] [], .iff (.idx (.att (.loc zaa) zbc) (.neg (.num 1))) [.bad] []] }
noncomputable def zms : CD := { init := some 353, meths := [(zf9, 360), (zsr, 374), (zh2, 381), (zqs, 388), (zf4, 409), (zn2, 416), (zcl, 421), (zi2, 426), (zcz, 433), (zfu, 454)] }
noncomputable def zf0 : FD := { ps := [zaa, zah], dfl := [], cel := [], body := [.asa (.loc zaa) zah (.loc zah)] }
noncomputable def zid : FD := { ps := [zaa], dfl := [], cel := [], body := [.ret (.tpl [.txt [118, 97, 114, 105, 97, 98, 108, 101], (.att (.loc zaa) zah)])] }
noncomputable def zla : CD := { init := some 1134, meths := [(zbb, 1141)] }
noncomputable def zj8 : FD := { ps := [zaa, zah, zay], dfl := [], cel := [], body := [.asa (.loc zaa) zah (.loc zah), .asa (.loc zaa) zay (.loc zay)] }
noncomputable def zta : FD := { ps := [zaa], dfl := [], cel := [], body := [.ret (.tpl [.txt [99, 97, 108, 108], (.att (.loc zaa) zah), (.call (.glb zn0 (.old 1064)) [(.att (.loc zaa) zay)])])] }
noncomputable def zI4 : CD := { init := some 1162, meths := [(zbb, 1169)] }
noncomputable def zjo : FD := { ps := [zaa, za5, za1, zbp], dfl := [.bool false, .bool false, .none], cel := [], body := [.asa (.loc zaa) za5 (.loc za5), .asa (.loc zaa) za1 (.loc za1), .asa (.loc zaa) zbp (.loc zbp)] }
noncomputable def zCi : CD := { init := some 1363, meths := [] }
noncomputable def zhw : FD := { ps := [zaa, zbk, zah, zar, za3, zax, zap], dfl := [], cel := [], body := [.asa (.loc zaa) zbk (.loc zbk), .asa (.loc zaa) zah (.loc zah), .asa (.loc zaa) zar (.loc zar), .asa (.loc zaa) za3 (.loc za3), .asa (.loc zaa) zax (.loc zax), .asa (.loc zaa) zap (.loc zap), .asa (.loc zaa) zb2 (.lst []), .asa (.loc zaa) zbq (.lst []), .asa (.loc zaa) zav (.lst [])] }
noncomputable def zxx : CD := { init := some 1444, meths := [] }
noncomputable def zkh : FD := { ps := [zaa], dfl := [], cel := [], body := [.asa (.loc zaa) zaz (.lst [])] }
noncomputable def zlk : FD := { ps := [zaa, zbk, zah, zar, za3, zax, zap], dfl := [], cel := [], body := [.exp (.mth (.att (.loc zaa) zaz) za0 [(.call (.glb zo9 (.old 1447)) [.loc zbk, .loc zah, .loc zar, .loc za3, .loc zax, .loc zap])]), .ret (.bin .sub (.call (.glb zdi (.bi .len)) [(.att (.loc zaa) zaz)]) (.num 1))] }
noncomputable def zsy : FD := { ps := [zaa, zab], dfl := [], cel := [], body := [.iff (.nott (.chn (.num 0) .le (.loc zab) .lt (.call (.glb zdi (.bi .len)) [(.att (.loc zaa) zaz)]))) [.bad] [], .ret (.idx (.att (.loc zaa) zaz) (.loc zab))] }
noncomputable def zkj : FD := { ps := [zaa], dfl := [], cel := [], body := [.ret (.mth (.loc zaa) zfo [.txt [114, 111, 111, 116], .txt [], .txt [], .txt [], .txt [], .non])] }
noncomputable def zjq : FD := { ps := [zaa, zap, zbk, zah, zar, za3, zax], dfl := [], cel := [], body := [.iff (.andd [(.cmp .isNot (.loc zap) .non), (.inn true (.att (.mth (.loc zaa) zbb [.loc zap]) zbk) (.glb zpd (.old 1430)))]) [.bad] [], .asg zab (.mth (.loc zaa) zfo [.loc zbk, .loc zah, .loc zar, .loc za3, .loc zax, .loc zap]), .iff (.cmp .isNot (.loc zap) .non) [.exp (.mth (.att (.idx (.att (.loc zaa) zaz) (.loc zap)) zb2) za0 [.loc zab])] [], .ret (.loc zab)] }
noncomputable def zik : FD := { ps := [zaa, zap, zah, zar, za3], dfl := [], cel := [], body := [.ret (.mth (.loc zaa) zet [.loc zap, .txt [101, 108, 101, 109, 101, 110, 116], .loc zah, .loc zar, .loc za3, .txt []])] }
noncomputable def zk3 : FD := { ps := [zaa, zap, zax], dfl := [], cel := [], body := [.ret (.mth (.loc zaa) zet [.loc zap, .txt [116, 101, 120, 116], .txt [], .txt [], .txt [], .loc zax])] }
noncomputable def zim : FD := { ps := [zaa, zap, zax], dfl := [], cel := [], body := [.ret (.mth (.loc zaa) zet [.loc zap, .txt [99, 111, 109, 109, 101, 110, 116], .txt [], .txt [], .txt [], .loc zax])] }
noncomputable def zge : FD := { ps := [zaa, zap, zmc, zA0], dfl := [], cel := [], body := [.ret (.mth (.loc zaa) zet [.loc zap, .txt [105, 110, 115, 116, 114, 117, 99, 116, 105, 111, 110], .loc zmc, .txt [], .loc zmc, .loc zA0])] }
noncomputable def zc9 : FD := { ps := [zaa, zaq], dfl := [], cel := [], body := [.asg zbb (.mth (.loc zaa) zbb [.loc zaq]), .iff (.cmp .ne (.att (.loc zbb) zbk) (.txt [101, 108, 101, 109, 101, 110, 116])) [.bad] [], .ret (.loc zbb)] }
noncomputable def zct : FD := { ps := [zaa, zaq, zad, zar], dfl := [], cel := [], body := [.asg zbb (.mth (.loc zaa) zfq [.loc zaq]), .fr false [(false, zab)] (.att (.loc zbb) zav) [.iff (.cmp .eq (.att (.idx (.att (.loc zaa) zaz) (.loc zab)) zah) (.loc zad)) [.asa (.idx (.att (.loc zaa) zaz) (.loc zab)) zax (.loc zar), .ret (.loc zab)] []], .asg zab (.mth (.loc zaa) zfo [.txt [110, 97, 109, 101, 115, 112, 97, 99, 101], .loc zad, .txt [], .loc zad, .loc zar, .loc zaq]), .exp (.mth (.att (.loc zbb) zav) za0 [.loc zab]), .ret (.loc zab)] }
noncomputable def zqf : FD := { ps := [zaa, zab], dfl := [], cel := [], body := [.ret (.att (.mth (.loc zaa) zbb [.loc zab]) zbk)] }
noncomputable def zpl : FD := { ps := [zaa, zab], dfl := [], cel := [], body := [.ret (.att (.mth (.loc zaa) zbb [.loc zab]) zah)] }
noncomputable def zs5 : FD := { ps := [zaa, zab], dfl := [], cel := [], body := [.ret (.att (.mth (.loc zaa) zbb [.loc zab]) zar)] }
noncomputable def zom : FD := { ps := [zaa, zab], dfl := [], cel := [], body := [.ret (.att (.mth (.loc zaa) zbb [.loc zab]) za3)] }
noncomputable def zou : FD := { ps := [zaa, zab], dfl := [], cel := [], body := [.ret (.att (.mth (.loc zaa) zbb [.loc zab]) zax)] }
noncomputable def zmh : FD := { ps := [zaa, zab], dfl := [], cel := [], body := [.ret (.att (.mth (.loc zaa) zbb [.loc zab]) zap)] }
noncomputable def zj6 : FD := { ps := [zaa, zab], dfl := [], cel := [], body := [.ret (.call (.glb zo7 (.bi .list)) [(.att (.mth (.loc zaa) zbb [.loc zab]) zb2)])] }
noncomputable def ziz : FD := { ps := [zaa, zab], dfl := [], cel := [], body := [.ret (.call (.glb zo7 (.bi .list)) [(.att (.mth (.loc zaa) zbb [.loc zab]) zbq)])] }
noncomputable def zja : FD := { ps := [zaa, zab], dfl := [], cel := [], body := [.ret (.call (.glb zo7 (.bi .list)) [(.att (.mth (.loc zaa) zbb [.loc zab]) zav)])] }
noncomputable def zv5 : CD := { init := some 1465, meths := [(zfo, 1472), (zbb, 1479), (zi7, 1486), (zet, 1493), (zef, 1500), (zit, 1507), (zig, 1514), (zfh, 1521), (zfq, 1528), (zez, 1542), (zbk, 1556), (zah, 1563), (zar, 1570), (za3, 1577), (zax, 1584), (zap, 1591), (zb2, 1598), (zbq, 1605), (zav, 1612)] }
noncomputable def zF8 : Tr FD := (nN (nN (nN (nN (nN (nN (nN (nN .nil (nN .nil (.node (some zuw) .nil .nil))) .nil) (nN (nN .nil (nN (nN .nil (.node (some zk9) .nil .nil)) .nil)) .nil)) (nN (nN (nN .nil (nN (.node (some zul) .nil .nil) .nil)) .nil) (nN (nN (nN .nil (nN (.node (some zxb) .nil .nil) .nil)) .nil) (nN (nN (nN .nil (.node (some zpz) .nil .nil)) .nil) .nil)))) (nN (nN (nN .nil (nN .nil (nN .nil (nN (.node (some zsy) .nil .nil) .nil)))) (nN (.node (some zia) .nil .nil) .nil)) (nN (nN (nN (nN (.node (some zxm) .nil .nil) (.node (some zlj) .nil .nil)) .nil) .nil) (nN (nN (.node (some zqp) (nN .nil (.node (some zmh) .nil .nil)) .nil) .nil) .nil)))) (nN (nN (.node (some zby) .nil (nN .nil (nN .nil (nN .nil (nN (.node (some zk3) .nil .nil) .nil))))) (nN (nN (nN .nil (nN (nN .nil (.node (some zaj) .nil .nil)) .nil)) (nN (.node (some zpo) .nil (nN (.node (some zjo) .nil .nil) .nil)) .nil)) .nil)) (nN (nN .nil (nN .nil (nN (nN (.node (some zw3) .nil .nil) .nil) .nil))) (nN (nN (nN (.node (some zkk) (nN .nil (.node (some zpl) .nil .nil)) .nil) .nil) .nil) .nil)))) (nN (nN (nN (nN (nN (nN (nN (.node (some ziu) .nil .nil) .nil) .nil) .nil) (nN .nil (nN (.node (some zi0) .nil (nN (.node (some zi9) .nil .nil) .nil)) .nil))) (.node (some zfx) (nN (nN .nil (nN (nN (.node (some zta) .nil .nil) .nil) .nil)) .nil) (nN (nN .nil (.node (some zdd) .nil .nil)) (nN .nil (nN .nil (nN (.node (some zge) .nil .nil) .nil)))))) (nN (nN (nN (nN (nN (.node (some zqo) .nil .nil) .nil) (nN (nN .nil (.node (some zao) .nil .nil)) (nN (.node (some zm3) .nil .nil) .nil))) .nil) (nN (nN (.node (some zol) (nN .nil (.node (some zom) .nil .nil)) .nil) .nil) .nil)) (nN (nN (nN .nil (.node (some zdb) .nil .nil)) .nil) (nN (nN .nil (nN .nil (nN (.node (some zkh) .nil .nil) .nil))) (nN (nN (.node (some zm6) .nil .nil) .nil) .nil))))) (nN (nN (nN (nN .nil (nN (nN (nN .nil (.node (some ziz) .nil .nil)) .nil) .nil)) (nN (nN .nil (.node (some zca) .nil .nil)) .nil)) (nN (nN (nN .nil (nN .nil (nN (.node (some zbr) .nil .nil) .nil))) (nN .nil (nN .nil (nN (.node (some zjq) .nil .nil) .nil)))) (nN (.node (some zib) .nil .nil) (nN (nN (nN (.node (some zid) .nil .nil) .nil) .nil) .nil)))) (nN (nN (nN (nN .nil (nN .nil (.node (some zo8) .nil .nil))) .nil) .nil) (nN .nil (nN .nil (nN (.node (some zhd) (nN .nil (.node (some zto) .nil .nil)) (nN (.node (some zk4) .nil .nil) .nil)) .nil))))))) (nN (nN (nN (nN (nN (nN (nN .nil (nN (.node (some zh0) .nil .nil) .nil)) (nN .nil (nN .nil (nN (.node (some zlk) .nil .nil) .nil)))) (nN (nN .nil (.node (some zfr) .nil .nil)) .nil)) (nN (nN (nN .nil (nN .nil (nN (.node (some zk8) .nil .nil) .nil))) .nil) (nN (nN (.node (some zw4) (nN .nil (.node (some zou) .nil .nil)) .nil) .nil) .nil))) (nN (nN .nil (nN .nil (nN (.node (some zf3) .nil (nN (.node (some zgz) .nil .nil) .nil)) .nil))) (.node (some zeu) (nN (nN .nil (nN (nN .nil (.node (some zas) .nil .nil)) .nil)) .nil) (nN .nil (nN .nil (nN .nil (nN (.node (some zc9) .nil .nil) .nil))))))) (nN (nN (nN (nN (nN .nil (.node (some zlb) (nN .nil (.node (some ztv) .nil .nil)) (nN (.node (some zAt) .nil .nil) .nil))) (nN (nN .nil (nN (.node (some ztn) .nil .nil) .nil)) .nil)) (nN (nN .nil (nN .nil (nN (.node (some zhw) .nil .nil) .nil))) (nN (nN (.node (some zoy) .nil .nil) .nil) .nil))) (nN (.node (some zc3) (nN (.node (some zjb) (nN .nil (.node (some zqf) .nil .nil)) .nil) (nN .nil (.node (some zps) .nil .nil))) .nil) .nil)) (.node (some zcj) (nN (nN .nil (nN (nN (nN .nil (.node (some zja) .nil .nil)) .nil) .nil)) .nil) (nN (nN .nil (nN .nil (nN .nil (nN (.node (some zik) .nil .nil) .nil)))) .nil)))) (nN (nN (nN (nN .nil (nN (nN (.node (some zli) (nN .nil (.node (some zs5) .nil .nil)) .nil) .nil) .nil)) (nN .nil (nN .nil (nN (nN (.node (some zsv) .nil .nil) .nil) .nil)))) (nN (.node (some zfs) (nN (nN .nil (nN (nN (.node (some zj8) .nil .nil) .nil) .nil)) (.node (some zgl) .nil .nil)) (nN (nN .nil (.node (some zdt) .nil .nil)) (nN .nil (nN .nil (nN (.node (some zim) .nil .nil) .nil))))) (nN .nil (nN .nil (nN .nil (.node (some zjn) .nil .nil)))))) (nN (nN (nN (nN (nN (nN (nN .nil (.node (some zct) .nil .nil)) .nil) (nN .nil (.node (some zpn) .nil .nil))) (nN .nil (.node (some zcs) .nil .nil))) .nil) (nN (nN (nN .nil (nN (.node (some zqd) .nil .nil) .nil)) .nil) (nN .nil (nN (.node (some zjz) (nN .nil (.node (some zp3) .nil .nil)) (nN (.node (some zij) .nil .nil) .nil)) .nil)))) (nN (nN (nN (nN .nil (nN (nN .nil (.node (some za7) .nil .nil)) .nil)) (nN .nil (nN .nil (nN (.node (some zkj) .nil .nil) .nil)))) (nN .nil (.node (some zix) (nN (nN (.node (some zf0) .nil .nil) .nil) .nil) .nil))) (nN .nil (nN (nN (.node (some zoh) (nN .nil (.node (some zj6) .nil .nil)) .nil) .nil) .nil)))))))
noncomputable def zH7 : Tr CD := (nN (nN (nN (nN (nN (nN (nN .nil (.node (some zx2) .nil .nil)) .nil) .nil) (nN (nN .nil (nN (nN .nil (nN .nil (nN (.node (some zxx) .nil .nil) .nil))) .nil)) .nil)) .nil) .nil) (nN (nN (nN .nil (nN .nil (nN .nil (nN .nil (nN (nN (nN (.node (some zla) .nil .nil) .nil) .nil) .nil))))) (nN (nN (nN .nil (nN .nil (nN (nN (nN .nil (.node (some zv5) .nil .nil)) .nil) .nil))) (nN (nN (nN .nil (nN (nN (.node (some zI4) .nil .nil) .nil) .nil)) .nil) .nil)) (nN (nN .nil (nN .nil (nN .nil (.node (some zms) .nil .nil)))) .nil))) (nN .nil (nN (nN .nil (nN (nN .nil (nN (nN .nil (nN (.node (some zCi) .nil .nil) .nil)) .nil)) .nil)) .nil))))
noncomputable def zBl : Tr (List AV) := (nN (nN (nN (nN .nil (nN .nil (nN .nil (nN .nil (nN (nN .nil (.node (some [.str [108, 111, 99, 97, 108, 45, 110, 97, 109, 101], .str [110, 97, 109, 101, 115, 112, 97, 99, 101, 45, 117, 114, 105], .str [110, 97, 109, 101], .str [115, 116, 114, 105, 110, 103], .str [110, 117, 109, 98, 101, 114], .str [115, 116, 114, 105, 110, 103, 45, 108, 101, 110, 103, 116, 104], .str [110, 111, 114, 109, 97, 108, 105, 122, 101, 45, 115, 112, 97, 99, 101]]) .nil .nil)) .nil))))) (nN (nN .nil (nN .nil (nN .nil (nN (nN .nil (.node (some [.str [98, 111, 111, 108, 101, 97, 110], .str [110, 111, 116], .str [116, 114, 117, 101], .str [102, 97, 108, 115, 101]]) .nil .nil)) .nil)))) .nil)) (nN (nN (nN .nil (nN .nil (nN .nil (nN .nil (.node (some [.int 0, .int 0]) .nil .nil))))) .nil) (nN (nN .nil (nN .nil (nN .nil (nN (nN .nil (.node (some [.str [115, 116, 114, 105, 110, 103], .str [99, 111, 110, 99, 97, 116], .str [115, 116, 97, 114, 116, 115, 45, 119, 105, 116, 104], .str [99, 111, 110, 116, 97, 105, 110, 115], .str [115, 117, 98, 115, 116, 114, 105, 110, 103, 45, 98, 101, 102, 111, 114, 101], .str [115, 117, 98, 115, 116, 114, 105, 110, 103, 45, 97, 102, 116, 101, 114], .str [115, 117, 98, 115, 116, 114, 105, 110, 103], .str [115, 116, 114, 105, 110, 103, 45, 108, 101, 110, 103, 116, 104], .str [110, 111, 114, 109, 97, 108, 105, 122, 101, 45, 115, 112, 97, 99, 101], .str [116, 114, 97, 110, 115, 108, 97, 116, 101]]) .nil .nil)) .nil)))) .nil))) (nN (nN (nN .nil (nN .nil (nN .nil (nN .nil (nN (nN .nil (.node (some [.str [115, 116, 97, 114, 116, 115, 45, 119, 105, 116, 104], .str [99, 111, 110, 116, 97, 105, 110, 115], .str [115, 117, 98, 115, 116, 114, 105, 110, 103, 45, 98, 101, 102, 111, 114, 101], .str [115, 117, 98, 115, 116, 114, 105, 110, 103, 45, 97, 102, 116, 101, 114]]) .nil .nil)) .nil))))) (nN (nN .nil (nN .nil (nN .nil (nN (nN .nil (.node (some [.str [110, 117, 109, 98, 101, 114], .str [102, 108, 111, 111, 114], .str [99, 101, 105, 108, 105, 110, 103], .str [114, 111, 117, 110, 100]]) .nil .nil)) .nil)))) .nil)) (nN (nN (nN .nil (nN .nil (nN .nil (nN (nN .nil (.node (some [.str [108, 97, 115, 116], .str [112, 111, 115, 105, 116, 105, 111, 110], .str [99, 111, 117, 110, 116], .str [105, 100], .str [108, 111, 99, 97, 108, 45, 110, 97, 109, 101], .str [110, 97, 109, 101, 115, 112, 97, 99, 101, 45, 117, 114, 105], .str [110, 97, 109, 101], .str [115, 117, 109], .str [108, 97, 110, 103]]) .nil .nil)) (.node (some [.int 1, .int 0]) .nil .nil))))) .nil) (nN (nN .nil (nN (nN (nN .nil (nN .nil (nN (.node (some [.str [114, 111, 111, 116], .str [101, 108, 101, 109, 101, 110, 116]]) .nil .nil) .nil))) .nil) (nN .nil (nN (nN .nil (.node (some [.str [108, 97, 115, 116], .str [112, 111, 115, 105, 116, 105, 111, 110], .str [116, 114, 117, 101], .str [102, 97, 108, 115, 101]]) .nil .nil)) .nil)))) .nil))))
noncomputable def tbl : Tbl := { fn := zF8, cls := zH7, nst := [(0, nd0), (1, nd1), (2, nd2)], tup := zBl, isi := [1284, 1088, 1116, 1200, 1172, 1228, 1144] }
end Mine
namespace Mine
open PySem PySem.W PyProof.Rows
noncomputable def zam (s : List Nat) : Str := ⟨s.toArray⟩
theorem zfj {s t : List Nat} : zam s = zam t ↔ s = t :=
 ⟨λ h => congrArg (λ x : Str => x.cps.toList) h, λ h => h ▸ rfl⟩
noncomputable def zqi : BI → Value
 | .len => .builtin "len" | .abs => .builtin "abs" | .max => .builtin "max" | .isinstance => .builtin "isinstance" | .sorted => .builtin "sorted" | .ord => .builtin "ord"
 | .int => .type "int" | .list => .type "list" | .range => .type "range" | .set => .type "set" | .str => .type "str" | .tuple => .type "tuple" | .bool => .type "bool"
noncomputable def zAi (B : Nat) : List Nat → Nat | [] => 0 | c :: r => zAi B r * B + c + 1
noncomputable def zF1 (B : Nat) : Nat → Nat → List Nat
 | 0, _ => []
 | f + 1, n => match n with
   | 0 => []
   | m + 1 => m % B :: zF1 B f (m / B)
theorem zwp {B : Nat} (hB : 0 < B) : ∀ (l : List Nat) (f : Nat), (∀ c ∈ l, c < B) → zAi B l ≤ f → zF1 B f (zAi B l) = l
 | [], 0, _, _ => rfl
 | [], _ + 1, _, _ => rfl
 | c :: r, 0, _, h => absurd h (Nat.not_succ_le_zero _)
 | c :: r, f + 1, ha, h => by
   have hc : c < B := ha c (.head _)
   show (zAi B r * B + c) % B :: zF1 B f ((zAi B r * B + c) / B) = c :: r
   rw [Nat.add_comm, Nat.add_mul_mod_self_right, Nat.mod_eq_of_lt hc, Nat.add_mul_div_right _ _ hB, Nat.div_eq_of_lt hc, Nat.zero_add, zwp hB r f λ c h => ha c (.tail _ h)]
   exact ltx (ltx (Nat.le_mul_of_pos_right _ hB) (zft _ c)) (Nat.le_of_succ_le_succ h)
theorem zpw {B : Nat} : ∀ (f n : Nat), n ≤ f → zAi B (zF1 B f n) = n
 | 0, 0, _ => rfl
 | 0, _ + 1, h => absurd h (Nat.not_succ_le_zero _)
 | _ + 1, 0, _ => rfl
 | f + 1, m + 1, h => by
   show zAi B (zF1 B f (m / B)) * B + m % B + 1 = m + 1
   rw [zpw f _ (ltx (Nat.div_le_self _ _) (Nat.le_of_succ_le_succ h)), Nat.div_add_mod']
noncomputable def nm (i : Nat) : Str := zam (zF1 128 i i)
theorem zo2 {i j : Nat} (h : nm i = nm j) : i = j := by
 rw [← zpw i i (Nat.le_refl _), ← zpw j j (Nat.le_refl _), zfj.mp h]
noncomputable def zyd (a : Str) : Option Nat := cnd (a.cps.toList.all λ c => Nat.blt c 128) (zAi 128 a.cps.toList)
theorem zcu {a : Str} {k : Nat} (h : zyd a = some k) : nm k = a := zgr (x := zAi 128 a.cps.toList) h λ hb e => by
 subst e
 exact congrArg (λ l => (⟨l.toArray⟩ : Str)) (zwp (blx (rfl : Nat.ble 1 128 = true)) _ _ (λ c hc => blx (List.all_eq_true.mp hb c hc)) (Nat.le_refl _))
theorem zOe {l : List Nat} {k : Nat} (h : zyd (zam l) = some k) : nm k = zam l := zcu h
noncomputable def sB (a b : Str) : Bool := Fast.lEq a.cps.toList b.cps.toList
theorem zpp {a b : Str} (h : sB a b = true) : a = b := by
 have := Fast.lEq_iff.mp h
 cases a; cases b
 exact congrArg _ (Array.toList_inj.mp this)
theorem zId {a b : Str} (h : sB a b = false) : a ≠ b := λ e => by
 subst e
 rw [show sB a a = true from Fast.lEq_iff.mpr rfl] at h; cases h
def Ix (ρ : List Addr) (i : Nat) (a : Addr) : Prop := ρ[i]? = some a
def Out (ρ : List Addr) (a : Addr) : Prop := ∀ i, ¬ Ix ρ i a
noncomputable def VR (ρ : List Addr) (x : AV) (v : Value) : Prop := match x with
 | .none => v = .none
 | .bool b => v = .bool b
 | .int i => ∃ t, v = .int i t
 | .str s => s.length ≤ 1000 ∧ ∃ t, v = .str (zam s) t
 | .ref i => ∃ a, Ix ρ i a ∧ v = .ref a
 | .old a => v = .ref a
 | .bi b => v = zqi b
 | .ext _ => False
section
variable {ρ : List Addr}
theorem VR.none : VR ρ .none .none := rfl
theorem VR.bool (b : Bool) : VR ρ (.bool b) (.bool b) := rfl
theorem VR.int (i : Int) (t : Tok) : VR ρ (.int i) (.int i t) := ⟨t, rfl⟩
theorem VR.str (s : List Nat) (t : Tok) (hl : s.length ≤ 1000) : VR ρ (.str s) (.str (zam s) t) := ⟨hl, t, rfl⟩
theorem VR.ref (i : Nat) (a : Addr) (h : Ix ρ i a) : VR ρ (.ref i) (.ref a) := ⟨a, h, rfl⟩
theorem VR.old (a : Nat) : VR ρ (.old a) (.ref a) := rfl
theorem VR.bi (b : BI) : VR ρ (.bi b) (zqi b) := rfl
end
inductive VRs (ρ : List Addr) : List AV → List Value → Prop
 | nil : VRs ρ [] []
 | cons {x : AV} {v : Value} {xs : List AV} {vs : List Value} : VR ρ x v → VRs ρ xs vs → VRs ρ (x :: xs) (v :: vs)
theorem Ix.lt {ρ : List Addr} {i : Nat} {a : Addr} (e : Ix ρ i a) : i < ρ.length := (List.getElem?_eq_some_iff.mp e).1
theorem Ix.eq {ρ : List Addr} {i : Nat} {a b : Addr} (e : Ix ρ i a) (f : Ix ρ i b) : a = b := Option.some.inj (Eq.trans (Eq.symm e) f)
theorem Ix.of {ρ : List Addr} {i : Nat} (h : i < ρ.length) : ∃ a, Ix ρ i a := ⟨_, List.getElem?_eq_getElem h⟩
theorem zfd {ρ ρ' : List Addr} (h : ρ <+: ρ') {i : Nat} {a : Addr} (e : Ix ρ i a) : Ix ρ' i a := by
 obtain ⟨t, rfl⟩ := h
 exact Eq.trans (List.getElem?_append_left e.lt) e
theorem Ix.back {ρ ρ' : List Addr} (h : ρ <+: ρ') {i : Nat} {a : Addr} (e : Ix ρ' i a) (l : i < ρ.length) : Ix ρ i a := by
 obtain ⟨t, rfl⟩ := h
 exact Eq.trans (List.getElem?_append_left l).symm e
theorem VR.mono {ρ ρ' : List Addr} (h : ρ <+: ρ') {x : AV} {v : Value} (r : VR ρ x v) : VR ρ' x v := by
 cases x with
 | ref i => obtain ⟨a, e, q⟩ := r; exact ⟨a, zfd h e, q⟩
 | _ => exact r
theorem VRs.mono {ρ ρ' : List Addr} (h : ρ <+: ρ') {xs : List AV} {vs : List Value} (r : VRs ρ xs vs) : VRs ρ' xs vs := by
 induction r with
 | nil => exact .nil
 | cons a _ ih => exact .cons (a.mono h) ih
theorem VRs.length {ρ : List Addr} {xs : List AV} {vs : List Value} (r : VRs ρ xs vs) : vs.length = xs.length := by
 induction r with
 | nil => rfl
 | cons _ _ ih => exact congrArg Nat.succ ih
theorem VRs.append {ρ : List Addr} {xs ys : List AV} {vs ws : List Value} (r : VRs ρ xs vs) (q : VRs ρ ys ws) : VRs ρ (xs ++ ys) (vs ++ ws) := by
 induction r with
 | nil => exact q
 | cons a _ ih => exact .cons a ih
theorem VR.plain {ρ ρ' : List Addr} {x : AV} {v : Value} (h : x.flat = true) (r : VR ρ x v) : VR ρ' x v := by
 cases x with
 | ref i => cases h
 | _ => exact r
end Mine
namespace Mine
open PySem PySem.W PySem.Calls PyProof.Rows PySem.Spec
structure NMod where
 name : Str
 qual : Str
 params : Arguments
 body : FuncBody
 scope : Scope
 pos : Pos
 tab : Addr × Addr
structure Cx where
 prog : Program
 w : World
 mg : Str → Option Value
 mb : Str → Option Value
 K : Frag
 G : Heap
 T : Tbl
 tabs : List (Addr × Addr)
 nmods : Nat → Option NMod
def Cx.isTab (C : Cx) (b : Addr) : Prop := ∃ q ∈ C.tabs, q.2 = b
abbrev zkm := List Int × SetTable
noncomputable def led (w : World) : Bool := !w.params.followText "set-order"
noncomputable def zls (place : Array Nat) (i : Nat) : Nat := match i with | 0 => 0 | i + 1 => place.getD i 0 + 1
noncomputable def zn7 (l : Bool) (p : zkm) : Bool := p.2.fits p.1.length && p.2.plain && (p.2.led == l) && Nat.ble p.1.length 4 && decide p.1.Nodup && (List.range (p.1.length + 1)).all λ i => Nat.beq (SetTable.below p.2.place (zls p.2.place i)) i
section
variable (C : Cx)
inductive VFs (ρ : List Addr) : List (Nat × AV) → List DictEntry → Prop
 | nil : VFs ρ [] []
 | cons {k : Nat} {x : AV} {u : Value} {t : Tok} {es : List (Nat × AV)} {ds : List DictEntry} : VR ρ x u → VFs ρ es ds →
     VFs ρ ((k, x) :: es) (⟨PyData.keyHash C.w.params (nm k), .str (nm k) t, u⟩ :: ds)
inductive VKs (ρ : List Addr) : List (List Nat × AV) → List (Str × Value) → Prop
 | nil : VKs ρ [] []
 | cons {k : List Nat} {x : AV} {u : Value} {es : List (List Nat × AV)} {ds : List (Str × Value)} : k.length ≤ 1000 → VR ρ x u → VKs ρ es ds → VKs ρ ((k, x) :: es) ((zam k, u) :: ds)
structure fnOf (n : NMod) (cl : List (Str × Addr)) (fd : FuncData) : Prop where
 qual : fd.qualname = n.qual
 params : fd.params = n.params
 body : fd.body = n.body
 scope : fd.scope = n.scope
 globals : fd.globals = mainGlobals
 closure : fd.closure = cl
 defaults : fd.defaults = .none
 kwdefaults : fd.kwdefaults = .none
 builtins : fd.builtins = builtinsNs
def CellsOK (ρ : List Addr) (cl : zaw) (l : List (Str × Addr)) : Prop := ∀ x i, lk x cl = some i → ∃ a, l.lookup (nm x) = some a ∧ Ix ρ i a
structure SeqR (T : String) (ρ : List Addr) (ob : Obj) (xs : List AV) (us : List Value) (n : Nat) : Prop where
 items : VRs ρ xs us
 cls : ob.cls = .type T
 data : ob.data = .seq us.toArray n
structure FnR (ρ : List Addr) (h : Heap) (ob : Obj) (k : Nat) (cl : zaw) (n : NMod) (l : List (Str × Addr)) (fd : FuncData) : Prop where
 nmod : C.nmods k = some n
 cells : CellsOK ρ cl l
 cls : ob.cls = .type "function"
 data : ob.data = .func fd
 fn : fnOf n l fd
 code : h.CodeRec fd.code fd.qualname
structure RngR (ob : Obj) (a : Int) (st n : Nat) (b : Int) (t u v : Tok) : Prop where
 eq : ob = { cls := .type "range", dict := none, data := .fields #[.int a t, .int b u, .int st v], slots := #[] }
 small : Builtin.Range.small a b st = true
 size : Builtin.Range.rangeSize a b st = n
structure SetR (ob : Obj) (is : List Int) (es : Array (Int × Value)) (ep : Nat) (p : zkm) : Prop where
 exact : ob.ExactSet
 data : ob.data = .set es ep p.2
 items : IntsAre (es.toList.map (·.2)) p.1
 hash : es.toList.map (·.1) = p.1.map hashInt
 good : zn7 (led C.w) p = true
 eq : is = zgb p.1
noncomputable def ObR (ρ : List Addr) (h : Heap) (ob : Obj) : AO → Prop
 | .list xs => xs.length ≤ 1001 ∧ (∃ us n, SeqR "list" ρ ob xs us n) ∧ ob.dict = none
 | .tup xs => xs.length ≤ 1001 ∧ ∃ us n, SeqR "tuple" ρ ob xs us n
 | .inst cl d => ∃ dx, Ix ρ d dx ∧ ob = instObj cl dx ∧ ∃ cd, C.T.cls.get cl = some cd
 | .fields es => ∃ ds n, VFs C ρ es ds ∧ ob = dictOf ds n
 | .dict es => ∃ kvs, VKs ρ es kvs ∧ ob.IsDictOf (strKind C.prog C.w) kvs
 | .cell v => match v with
   | none => ob.data = .cell none
   | some x => ∃ u, VR ρ x u ∧ ob.data = .cell (some u)
 | .fn k cl => ∃ n l fd, FnR C ρ h ob k cl n l fd
 | .rng a st n => ∃ b t u v, RngR ob a st n b t u v
 | .iset is => ∃ es ep p, SetR C ob is es ep p
structure At (ρ : List Addr) (h : Heap) (i : Nat) (o : AO) (a : Addr) (ob : Obj) : Prop where
 ix : Ix ρ i a
 at_ : h.get? a = some ob
 rel : ObR C ρ h ob o
structure TabAt (h : Heap) (q : Addr × Addr) (ps : Array Value) : Prop where
 at_ : h.get? q.2 = some (tabObj ps)
 ok : TriplesOk ps.toList
 code : ∀ k n, C.nmods k = some n → n.tab = q → ∀ v, codeAmong n.pos ps.toList = some v → h.CodeRec v n.qual
structure Rep (ρ : List Addr) (st : Store) (h : Heap) : Prop where
 stays : ∀ b o, C.G.get? b = some o → h.get? b = some o
 len : ρ.length = st.n
 objs : ∀ i o, st.get i = some o → ∃ a ob, At C ρ h i o a ob
 uniq : ∀ i j a, Ix ρ i a → Ix ρ j a → i = j
 fresh : ∀ i a, Ix ρ i a → C.G.get? a = none
 total : ∀ i, i < st.n → ∃ o, st.get i = some o
 tabs : ∀ q, q ∈ C.tabs → ∃ ps, TabAt C h q ps
 tabo : ∀ q, q ∈ C.tabs → Out ρ q.2
structure Step (z : Nat) (X : Addr → Prop) (ρ : List Addr) (s : Shared) (ρ' : List Addr) (s' : Shared) : Prop where
 pre : ρ <+: ρ'
 new : ∀ i a, ρ.length ≤ i → Ix ρ' i a → s.heap.get? a = none
 keep : ∀ b o, s.heap.get? b = some o → (∀ i, z ≤ i → ¬ Ix ρ i b) → ¬ C.isTab b → ¬ X b → s'.heap.get? b = some o
 alive : ∀ b o, s.heap.get? b = some o → ∃ o', s'.heap.get? b = some o'
 gens : s'.gens = s.gens
 os : s'.os = s.os
structure Loc (σ : zaf) (ρ : List Addr) (L : Addr) (h : Heap) : Prop where
 ns : ∃ m, h.Ns L m ∧ ∀ x v, lk x σ = some v → ∃ u, m (nm x) = some u ∧ VR ρ v u
 out : Out ρ L
 tab : ¬ C.isTab L
 new : C.G.get? L = none
structure Fx where
 sc : Scope
 code : Value
 qual : Str
 dom : List Nat
 hkE : Expr → Option Nat
 hkS : Stmt → Option (Nat × Nat)
structure LamOK (fx : Fx) (k : Nat) (args : Arguments) (scope : Scope) (n : NMod) (nd : ND) : Prop where
 nmod : C.nmods k = some n
 tab : n.tab ∈ C.tabs
 code : fx.code = .ref n.tab.1
 dfl : args.defaults = []
 kwd : args.kw_defaults = []
 nst : lk k C.T.nst = some nd
 free : ∀ y ∈ scope.names, y.2 = .free → ∃ x ∈ nd.free, nm x = y.1
 isfree : ∀ x ∈ nd.free, x ∈ fx.dom ∧ (nm x, NameKind.free) ∈ scope.names
structure FxOK (fx : Fx) : Prop where
 kind : fx.sc.kind = .function
 lam : ∀ x k, fx.hkE x = some k → ∃ args body scope p n nd, x = .Lambda args body scope p ∧ n = ⟨"<lambda>", fx.qual ++ "<lambda>", args, .expr body, scope, p, n.tab⟩ ∧ args.kwonlyargs = [] ∧ LamOK C fx k args scope n nd
 dfn : ∀ x q, fx.hkS x = some q → ∃ args body scope p n nd, x = .FunctionDef (nm q.1) args body [] none [] scope none (nm q.1) p ∧ n = ⟨nm q.1, fx.qual ++ nm q.1, args, .stmts body, scope, p, n.tab⟩ ∧ (∀ env, annTrees args none env = []) ∧ fx.sc.names.lookup (nm q.1) = some .local ∧ LamOK C fx q.2 args scope n nd
structure EnvOK (fx : Fx) (Γ : zaw) (ρ : List Addr) (env : Env) : Prop where
 scope : env.scope = fx.sc
 fok : FxOK C fx
 globals : env.globals = mainGlobals
 builtins : env.builtins = builtinsNs
 cells : ∀ x i, x ∈ fx.dom → lk x Γ = some i → ∃ a, env.cells.lookup (nm x) = some a ∧ Ix ρ i a
 dom : ∀ x ∈ fx.dom, ∃ i, lk x Γ = some i
 code : env.code = fx.code
 qual : env.qual = fx.qual
structure AOK (n : Nat) (A : Around) : Prop where
 handled : A.handled = none
 depth : A.depth + n ≤ 900
 units : A.units + 8 * n ≤ 9000
structure AttrOK (a : Addr) (n : Nat) : Prop where
 find : ∃ r, findIn C.K (.ref a) (nm n) = some r ∧ noGet C.K r = true
 taker : takerIn C.K a (nm n) = some none
structure ClsOK (a : Addr) : Prop where
 plain : plainGet C.K a "" = true
 dict : hasDictIn C.K a = true
 set : findIn C.K (.ref a) "__setattr__" = some (some (.builtin "object.__setattr__"))
 over : plainOver C.K a = true
structure MethOK (a : Addr) (n f : Nat) : Prop where
 find : findIn C.K (.ref a) (nm n) = some (some (.ref f))
 fn : isFn C.K (.ref f) = true
structure TabOK (q : Addr × Addr) : Prop where
 code : CodeHd C.G q.1 q.2
 new : C.G.get? q.2 = none
 bi : C.G.BuiltinsAt C.mg q.2
structure GlOK (mg mb : Str → Option Value) : Prop where
 own : ∀ x v, lk x glO = some v → ∃ u, mg (nm x) = some u ∧ VR [] v u
 bi : ∀ x v, lk x glB = some v → mg (nm x) = none ∧ ∃ u, mb (nm x) = some u ∧ VR [] v u
structure Good : Prop where
 K : C.K.In C.G
 mg : C.G.Ns mainGlobals C.mg
 mb : C.G.Ns builtinsNs C.mb
 lim : C.G.NoLimit
 attr : ∀ a cd, C.T.cls.get a = some cd → ∀ n, okA a n = true → AttrOK C a n
 cls : ∀ a cd, C.T.cls.get a = some cd → ClsOK C a
 meth : ∀ a cd n f, C.T.cls.get a = some cd → lk n cd.meths = some f → MethOK C a n f
 keepf : ∀ a fd, C.T.fn.get a = some fd → keepIn C.K (.ref a) = true
 keepc : ∀ a cd, C.T.cls.get a = some cd → keepIn C.K (.ref a) = true
 sys : ∃ o, C.G.get? sysModules = some o
 tups : ∀ a xs, C.T.tup.get a = some xs → xs.length ≤ 1001 ∧ ∃ us, VRs [] xs us ∧ IsTup C.G a us.toArray
 gl : GlOK C.mg C.mb
 quals : ∀ k k' n n', C.nmods k = some n → C.nmods k' = some n' → n.tab = n'.tab → n.pos.line = n'.pos.line → n.pos.col = n'.pos.col → n.qual = n'.qual
 bts : ∀ q ∈ C.tabs, TabOK C q
end
structure Wd where
 ρ : List Addr
 s : Shared
structure Pl where
 fx : Fx
 A : Around
 env : Env
abbrev NoX : Addr → Prop := λ _ => False
section
variable (C : Cx)
structure Here (P : Pl) (Γ : zaw) (σ : zaf) (n : Nat) (st : Store) (w : Wd) : Prop where
 room : AOK n P.A
 fr : EnvOK C P.fx Γ w.ρ P.env
 rep : Rep C w.ρ st w.s.heap
 loc : Loc C σ w.ρ P.env.locals w.s.heap
structure Aft (z : Nat) (X : Addr → Prop) (w : Wd) (st : Store) (w' : Wd) : Prop where
 step : Step C z X w.ρ w.s w'.ρ w'.s
 rep : Rep C w'.ρ st w'.s.heap
def QV (z : Nat) (w : Wd) (st : Store) (v : AV) (Q : Value → Shared → Prop) : Prop := ∀ w' u, Aft C z NoX w st w' → VR w'.ρ v u → Q u w'.s
def QU (z : Nat) (w : Wd) (st : Store) (Q : Unit → Shared → Prop) : Prop := ∀ w', Aft C z NoX w st w' → Q () w'.s
end
section
variable {C : Cx}
theorem VFs.mono {ρ ρ' : List Addr} (h : ρ <+: ρ') {es : List (Nat × AV)} {ds : List DictEntry} (r : VFs C ρ es ds) : VFs C ρ' es ds := by
 induction r with
 | nil => exact .nil
 | cons a _ ih => exact .cons (a.mono h) ih
theorem VKs.mono {ρ ρ' : List Addr} (h : ρ <+: ρ') {es : List (List Nat × AV)} {ds : List (Str × Value)} (r : VKs ρ es ds) : VKs ρ' es ds := by
 induction r with
 | nil => exact .nil
 | cons hl a _ ih => exact .cons hl (a.mono h) ih
theorem CellsOK.mono {ρ ρ' : List Addr} (h : ρ <+: ρ') {r : zaw} {l : List (Str × Addr)} (q : CellsOK ρ r l) : CellsOK ρ' r l :=
 λ x i e => (q x i e).elim λ a b => ⟨a, b.1, zfd h b.2⟩
theorem SeqR.mono {T : String} {ρ ρ' : List Addr} (h : ρ <+: ρ') {ob : Obj} {xs : List AV} {us : List Value} {n : Nat} (r : SeqR T ρ ob xs us n) : SeqR T ρ' ob xs us n := ⟨r.items.mono h, r.cls, r.data⟩
theorem ObR.mono {ρ ρ' : List Addr} (h : ρ <+: ρ') {hp hp' : Heap} (k : ∀ cd q, hp.CodeRec cd q → hp'.CodeRec cd q) {ob : Obj} {o : AO} (r : ObR C ρ hp ob o) : ObR C ρ' hp' ob o := by
 cases o with
 | list xs => obtain ⟨l, ⟨us, n, a⟩, b⟩ := r; exact ⟨l, ⟨us, n, a.mono h⟩, b⟩
 | tup xs => obtain ⟨l, us, n, a⟩ := r; exact ⟨l, us, n, a.mono h⟩
 | inst c d => obtain ⟨dx, a, b⟩ := r; exact ⟨dx, zfd h a, b⟩
 | fields es => obtain ⟨ds, n, a, b⟩ := r; exact ⟨ds, n, a.mono h, b⟩
 | dict es => obtain ⟨kvs, a, b⟩ := r; exact ⟨kvs, a.mono h, b⟩
 | cell v => cases v with
   | none => exact r
   | some x => obtain ⟨u, a, b⟩ := r; exact ⟨u, a.mono h, b⟩
 | fn k' cl => obtain ⟨n, l, fd, a⟩ := r; exact ⟨n, l, fd, { a with cells := a.cells.mono h, code := k _ _ a.code }⟩
 | rng a s n => exact r
 | iset is => exact r
theorem Step.refl {z : Nat} (X : Addr → Prop) (ρ : List Addr) (s : Shared) : Step C z X ρ s ρ s := ⟨List.prefix_refl _, λ i a l e => absurd e.lt (Nat.not_lt.mpr l), λ _ _ e _ _ _ => e, λ _ o e => ⟨o, e⟩, rfl, rfl⟩
theorem Step.trans {z : Nat} {X : Addr → Prop} {ρ ρ₁ ρ₂ : List Addr} {s s₁ s₂ : Shared} (x : Step C z X ρ s ρ₁ s₁) (y : Step C z X ρ₁ s₁ ρ₂ s₂) : Step C z X ρ s ρ₂ s₂ where
 pre := x.pre.trans y.pre
 new := λ i a l e => by
   by_cases q : ρ₁.length ≤ i
   · cases e2 : s.heap.get? a with
     | none => rfl
     | some o => exact (x.alive a o e2).elim λ o' e3 => by rw [y.new i a q e] at e3; cases e3
   · exact x.new i a l (e.back y.pre (Nat.lt_of_not_le q))
 keep := λ b o e h1 h2 h3 => y.keep b o (x.keep b o e h1 h2 h3) (λ i l q => by
   by_cases p : ρ.length ≤ i
   · rw [x.new i b p q] at e; cases e
   · exact h1 i l (q.back x.pre (Nat.lt_of_not_le p))) h2 h3
 alive := λ b o e => (x.alive b o e).elim λ o' e' => y.alive b o' e'
 gens := y.gens.trans x.gens
 os := y.os.trans x.os
theorem Step.thaw {z z' : Nat} {X : Addr → Prop} {ρ ρ' : List Addr} {s s' : Shared} (x : Step C z' X ρ s ρ' s') (h : z ≤ z') : Step C z X ρ s ρ' s' :=
 { x with keep := λ b o e h1 h2 h3 => x.keep b o e (λ i l => h1 i (ltx h l)) h2 h3 }
theorem Step.weaken {z : Nat} {X Y : Addr → Prop} {ρ ρ' : List Addr} {s s' : Shared} (x : Step C z X ρ s ρ' s') (h : ∀ b, X b → Y b) : Step C z Y ρ s ρ' s' :=
 { x with keep := λ b o e h1 h2 h3 => x.keep b o e h1 h2 λ q => h3 (h b q) }
theorem Step.out {z : Nat} {X : Addr → Prop} {ρ ρ' : List Addr} {s s' : Shared} (x : Step C z X ρ s ρ' s') {b : Addr} {o : Obj} (e : s.heap.get? b = some o) (h : Out ρ b) : Out ρ' b := λ i q => by
 by_cases p : ρ.length ≤ i
 · rw [x.new i b p q] at e; cases e
 · exact h i (q.back x.pre (Nat.lt_of_not_le p))
theorem Step.at {z : Nat} {X : Addr → Prop} {ρ ρ' : List Addr} {s s' : Shared} (x : Step C z X ρ s ρ' s') {b : Addr} {o : Obj} (e : s.heap.get? b = some o) (h : Out ρ b) (h2 : ¬ C.isTab b) (h3 : ¬ X b) : s'.heap.get? b = some o := x.keep b o e (λ i _ => h i) h2 h3
theorem Loc.step {z : Nat} {σ : zaf} {ρ ρ' : List Addr} {L : Addr} {s s' : Shared} {X : Addr → Prop} (l : Loc C σ ρ L s.heap) (x : Step C z X ρ s ρ' s') (hX : ¬ X L) : Loc C σ ρ' L s'.heap := by
 obtain ⟨⟨m, ⟨o, es, ep, ho, r⟩, hv⟩, h1, h2, h3⟩ := l
 exact ⟨⟨m, ⟨o, es, ep, x.at ho h1 h2 hX, r⟩, λ y v e => (hv y v e).elim λ u q => ⟨u, q.1, q.2.mono x.pre⟩⟩, x.out ho h1, h2, h3⟩
theorem EnvOK.step {fx : Fx} {Γ : zaw} {ρ ρ' : List Addr} {env : Env} (e : EnvOK C fx Γ ρ env) (h : ρ <+: ρ') : EnvOK C fx Γ ρ' env :=
 { e with cells := λ x i m q => (e.cells x i m q).elim λ a b => ⟨a, b.1, zfd h b.2⟩ }
theorem Rep.K {ρ : List Addr} {st : Store} {h : Heap} (g : Good C) (r : Rep C ρ st h) : C.K.In h := λ a o e => r.stays _ _ (g.K a o e)
theorem Rep.mg {ρ : List Addr} {st : Store} {h : Heap} (g : Good C) (r : Rep C ρ st h) : h.Ns mainGlobals C.mg := g.mg.keeps r.stays
theorem Rep.mb {ρ : List Addr} {st : Store} {h : Heap} (g : Good C) (r : Rep C ρ st h) : h.Ns builtinsNs C.mb := g.mb.keeps r.stays
theorem Rep.lim {ρ : List Addr} {st : Store} {h : Heap} (g : Good C) (r : Rep C ρ st h) : h.NoLimit := g.lim.keeps r.stays
theorem Rep.obj {ρ : List Addr} {st : Store} {h : Heap} (r : Rep C ρ st h) {G : Prop} {i : Nat} {o : AO} (e : st.get i = some o) (k : ∀ a ob, At C ρ h i o a ob → G) : G := (r.objs i o e).elim λ a q => q.elim λ ob q => k a ob q
theorem Rep.side {ρ : List Addr} {st : Store} {h h' : Heap} (r : Rep C ρ st h) (hG : ∀ b o, C.G.get? b = some o → h'.get? b = some o) (hρ : ∀ i b o, Ix ρ i b → h.get? b = some o → h'.get? b = some o)
   (hc : ∀ cd q, h.CodeRec cd q → h'.CodeRec cd q) (ht : ∀ b o, C.isTab b → h.get? b = some o → h'.get? b = some o) : Rep C ρ st h' :=
 { r with
   stays := hG
   objs := λ i o e => r.obj e λ a ob q => ⟨a, ob, q.ix, hρ i a ob q.ix q.at_, q.rel.mono (List.prefix_refl _) hc⟩
   tabs := λ q hq => (r.tabs q hq).elim λ ps t => ⟨ps, ht _ _ ⟨q, hq, rfl⟩ t.at_, t.ok, λ k n a b v e => hc _ _ (t.code k n a b v e)⟩ }
theorem Rep.keeps {ρ : List Addr} {st : Store} {h h' : Heap} (r : Rep C ρ st h) (k : ∀ b o, h.get? b = some o → h'.get? b = some o) : Rep C ρ st h' :=
 r.side (λ b o e => k _ _ (r.stays b o e)) (λ _ b o _ e => k b o e) (λ _ _ x => x.keeps k) λ b o _ e => k b o e
theorem Rep.live {ρ : List Addr} {st : Store} {h : Heap} (r : Rep C ρ st h) {i : Nat} {a : Addr} (e : Ix ρ i a) : a < h.objs.size := by
 exact (r.total i (r.len ▸ e.lt)).elim λ o ho => r.obj ho λ b ob q => q.ix.eq e ▸ Heap.lt_size q.at_
theorem zcg {h : Heap} {a : Addr} (l : h.objs.size ≤ a) : h.get? a = none := by
 cases e : h.get? a with
 | none => rfl
 | some o => exact absurd (Heap.lt_size e) (Nat.not_lt.mpr l)
theorem Rep.tab_live {ρ : List Addr} {st : Store} {h : Heap} (r : Rep C ρ st h) {a : Addr} (x : C.isTab a) : a < h.objs.size := by
 obtain ⟨q, hq, rfl⟩ := x
 exact (r.tabs q hq).elim λ ps t => Heap.lt_size t.at_
structure New (C : Cx) (ρ : List Addr) (a : Addr) : Prop where
 out : Out ρ a
 tab : ¬ C.isTab a
 old : C.G.get? a = none
theorem Rep.beyond {ρ : List Addr} {st : Store} {h : Heap} (r : Rep C ρ st h) {a : Addr} (l : h.objs.size ≤ a) : New C ρ a where
 out := λ i e => Nat.not_lt.mpr l (r.live e)
 tab := λ x => Nat.not_lt.mpr l (r.tab_live x)
 old := by
   cases e : C.G.get? a with
   | none => rfl
   | some o => exact absurd (Heap.lt_size (r.stays _ _ e)) (Nat.not_lt.mpr l)
noncomputable def zfb (o : Obj) : Prop := ∀ vs, o.data = .fields vs → ∀ q t, vs[1]? ≠ some (.str q t)
theorem zeo {h h' : Heap} {a : Addr} {oa : Obj} {cd : Value} {q : Str} (x : h.CodeRec cd q) (ha : h.get? a = some oa) (hn : zfb oa) (hk : ∀ b o, b ≠ a → h.get? b = some o → h'.get? b = some o) : h'.CodeRec cd q := by
 obtain ⟨c, o, vs, t, e, g, d, r⟩ := x
 refine ⟨c, o, vs, t, e, hk _ _ ?_ g, d, r⟩
 rintro rfl
 rw [ha] at g; cases g
 exact hn _ d _ _ r
theorem zk5 (ρ : List Addr) (a : Addr) {n : Nat} (h : ρ.length = n) : Ix (ρ ++ [a]) n a := by
 subst h; exact Eq.trans (List.getElem?_append_right (Nat.le_refl _)) (by rw [Nat.sub_self]; rfl)
theorem zhm {ρ : List Addr} {a b : Addr} {i : Nat} (e : Ix (ρ ++ [a]) i b) : Ix ρ i b ∨ (i = ρ.length ∧ b = a) := by
 by_cases q : i < ρ.length
 · exact .inl (e.back (List.prefix_append _ _) q)
 · have hl := e.lt
   rw [List.length_append] at hl
   have hi : i = ρ.length := Nat.le_antisymm (Nat.le_of_lt_succ hl) (Nat.le_of_not_lt q)
   exact .inr ⟨hi, (hi ▸ e : Ix (ρ ++ [a]) ρ.length b).eq (zk5 ρ a rfl)⟩
theorem Rep.adopt {ρ : List Addr} {st : Store} {h h' : Heap} (r : Rep C ρ st h) {a : Addr} {ob : Obj} {o : AO} (N : New C ρ a) (hk : ∀ b o, b ≠ a → h.get? b = some o → h'.get? b = some o) (hc : ∀ cd q, h.CodeRec cd q → h'.CodeRec cd q) (hob : h'.get? a = some ob)
   (ho : ObR C ρ h' ob o) : Rep C (ρ ++ [a]) (st.add o) h' where
 stays := λ b o e => hk b o (by rintro rfl; rw [N.old] at e; cases e) (r.stays b o e)
 len := by rw [List.length_append, r.len]; rfl
 objs := λ j o' e => by
   rw [Store.get_add] at e
   by_cases hj : j = st.n
   · rw [if_pos hj] at e
     cases e
     exact ⟨a, ob, hj ▸ zk5 _ _ r.len, hob, ho.mono (List.prefix_append _ _) λ _ _ x => x⟩
   · rw [if_neg hj] at e
     exact r.obj e λ b ob' q => ⟨b, ob', zfd (List.prefix_append _ _) q.ix, hk b ob' (λ e => N.out j (e ▸ q.ix)) q.at_, q.rel.mono (List.prefix_append _ _) hc⟩
 uniq := λ i j b e f => by
   rcases zhm e with e | ⟨e', rfl⟩ <;> rcases zhm f with f | ⟨f', q⟩
   · exact r.uniq i j b e f
   · exact absurd (q ▸ e) (N.out i)
   · exact absurd f (N.out j)
   · rw [e', f']
 fresh := λ i b e => (zhm e).elim (r.fresh i b) λ q => q.2 ▸ N.old
 total := λ i hi => by
   rw [Store.get_add]
   by_cases e : i = st.n
   · exact ⟨o, by rw [if_pos e]⟩
   · rw [if_neg e]; exact r.total i (Nat.lt_of_le_of_ne (Nat.le_of_lt_succ hi) e)
 tabs := λ q hq => (r.tabs q hq).elim λ ps t => ⟨ps, hk _ _ (λ e => N.tab ⟨q, hq, e⟩) t.at_, t.ok, λ k n x y v e => hc _ _ (t.code k n x y v e)⟩
 tabo := λ q hq i e => (zhm e).elim (r.tabo q hq i) λ e => N.tab ⟨q, hq, e.2⟩
theorem Rep.add {ρ : List Addr} {st : Store} {h : Heap} (r : Rep C ρ st h) {ob : Obj} {o : AO} (hf : ob.isFreed = false) (ho : ObR C ρ h ob o) : Rep C (ρ ++ [h.objs.size]) (st.add o) (h.push ob) :=
 r.adopt (r.beyond (Nat.le_refl _)) (λ _ _ _ e => Heap.get?_push_of_some _ e) (λ _ _ x => x.push _) (Heap.get?_push_size _ hf) (ho.mono (List.prefix_refl _) λ _ _ x => x.push _)
theorem Step.side {z : Nat} {X : Addr → Prop} (ρ : List Addr) (s s' : Shared) (k : ∀ b o, s.heap.get? b = some o → s'.heap.get? b = some o) (hg : s'.gens = s.gens) (ho : s'.os = s.os) : Step C z X ρ s ρ s' :=
 { Step.refl (C := C) (z := z) X ρ s with keep := λ b o e _ _ _ => k b o e, alive := λ b o e => ⟨o, k b o e⟩, gens := hg, os := ho }
theorem Step.join {z : Nat} {X : Addr → Prop} {ρ ρ' : List Addr} {s s' : Shared} (x : Step C z X ρ s ρ' s') {a : Addr} (h : s.heap.get? a = none) : Step C z X ρ s (ρ' ++ [a]) s' :=
 { x with
   pre := x.pre.trans (List.prefix_append _ _)
   new := λ i b l e => (zhm e).elim (x.new i b l) λ q => q.2 ▸ h }
theorem Step.push {z : Nat} {X : Addr → Prop} (ρ : List Addr) (s : Shared) (ob : Obj) (tk : Nat) : Step C z X ρ s (ρ ++ [s.heap.objs.size]) { s with heap := s.heap.push ob, toks := tk } :=
 (Step.side ρ s { s with heap := s.heap.push ob, toks := tk } (λ _ _ e => Heap.get?_push_of_some _ e) rfl rfl).join (zcg (Nat.le_refl _))
theorem zg1 {ρ : List Addr} {st : Store} {h : Heap} (R : Rep C ρ st h) (a : Addr) : VR (ρ ++ [a]) (.ref st.n) (.ref a) := .ref _ _ (zk5 _ _ R.len)
theorem Rep.set {ρ : List Addr} {st : Store} {h h' : Heap} (r : Rep C ρ st h) {i : Nat} {a : Addr} {oa ob : Obj} {o : AO} (hi : Ix ρ i a) (ha : h.get? a = some oa) (hn : zfb oa) (hb : Heap.SameBut a h h') (hob : h'.get? a = some ob)
   (ho : ObR C ρ h' ob o) : Rep C ρ (st.set i o) h' :=
 have hc : ∀ cd q, h.CodeRec cd q → h'.CodeRec cd q := λ cd q x => zeo x ha hn λ c o hc e => (hb.2 c hc).trans e
 { r with
   stays := λ b o e => (hb.2 b (by rintro rfl; rw [r.fresh _ _ hi] at e; cases e)).trans (r.stays b o e)
   objs := λ j o' e => by
     rw [Store.get_set] at e
     by_cases hj : j = i
     · rw [if_pos hj] at e
       cases e
       exact ⟨a, ob, hj ▸ hi, hob, ho⟩
     · rw [if_neg hj] at e
       exact r.obj e λ b ob' q => ⟨b, ob', q.ix, (hb.2 b (by rintro rfl; exact hj (r.uniq _ _ _ q.ix hi))).trans q.at_, q.rel.mono (List.prefix_refl _) hc⟩
   total := λ j hj => by
     rw [Store.get_set]
     by_cases e : j = i
     · exact ⟨o, by rw [if_pos e]⟩
     · rw [if_neg e]; exact r.total j hj
   tabs := λ q hq => (r.tabs q hq).elim λ ps t => ⟨ps, (hb.2 _ (by rintro rfl; exact r.tabo q hq i hi)).trans t.at_, t.ok, λ k n a b v e => hc _ _ (t.code k n a b v e)⟩ }
theorem Step.set {z : Nat} {X : Addr → Prop} {ρ : List Addr} {s s' : Shared} {i : Nat} {a : Addr} (hz : z ≤ i) (hi : Ix ρ i a) {oa : Obj} (ha : s'.heap.get? a = some oa) (hb : Heap.SameBut a s.heap s'.heap) (hg : s'.gens = s.gens) (ho : s'.os = s.os) : Step C z X ρ s ρ s' :=
 { Step.refl (C := C) (z := z) X ρ s with
   keep := λ b o e h1 _ _ => (hb.2 b (by rintro rfl; exact h1 i hz hi)).trans e
   alive := λ b o e => by
     by_cases q : b = a
     · subst q; exact ⟨oa, ha⟩
     · exact ⟨o, (hb.2 b q).trans e⟩
   gens := hg
   os := ho }
theorem AOK.le {n m : Nat} {A : Around} (h : AOK n A) (l : m ≤ n) : AOK m A := ⟨h.1, ltx (Nat.add_le_add_left l _) h.2, ltx (Nat.add_le_add_left (Nat.mul_le_mul_left 8 l) _) h.3⟩
theorem AOK.u {n : Nat} {A : Around} (h : AOK n A) : A.units ≤ 9000 := ltx (zft _ _) h.units
theorem zrb : cLine = 9900 := by decide
theorem AOK.u64 {n : Nat} {A : Around} (h : AOK n A) : A.units + 64 < cLine := by
 rw [zrb]; exact Nat.lt_of_le_of_lt (Nat.add_le_add_right h.u 64) (by decide)
theorem AOK.u100 {n : Nat} {A : Around} (h : AOK n A) : A.units + 100 < cLine := by
 rw [zrb]; exact Nat.lt_of_le_of_lt (Nat.add_le_add_right h.u 100) (by decide)
variable {P : Pl} {Γ : zaw} {σ σ' : zaf} {n m z : Nat} {st st' st'' : Store} {w w' w'' : Wd} {X Y : Addr → Prop} {v : AV} {u : Value} {Q : Value → Shared → Prop}
theorem Here.le (h : Here C P Γ σ n st w) (l : m ≤ n) : Here C P Γ σ m st w := { h with room := h.room.le l }
theorem Here.dn (h : Here C P Γ σ (n + 1) st w) : Here C P Γ σ n st w := h.le (Nat.le_succ n)
theorem Here.step (h : Here C P Γ σ n st w) (a : Aft C z NoX w st' w') : Here C P Γ σ n st' w' := ⟨h.room, h.fr.step a.step.pre, a.rep, h.loc.step a.step λ q => q⟩
theorem Here.stepL (h : Here C P Γ σ n st w) (a : Aft C z X w st' w') (l : Loc C σ' w'.ρ P.env.locals w'.s.heap) : Here C P Γ σ' n st' w' := ⟨h.room, h.fr.step a.step.pre, a.rep, l⟩
theorem Aft.refl (X : Addr → Prop) (R : Rep C w.ρ st w.s.heap) : Aft C z X w st w := ⟨Step.refl _ _ _, R⟩
theorem Aft.trans (a : Aft C z X w st' w') (b : Aft C z X w' st'' w'') : Aft C z X w st'' w'' := ⟨a.step.trans b.step, b.rep⟩
theorem Aft.toL (a : Aft C z NoX w st' w') : Aft C z X w st' w' := ⟨a.step.weaken λ _ h => h.elim, a.rep⟩
theorem Aft.weaken (a : Aft C z X w st' w') (h : ∀ b, X b → Y b) : Aft C z Y w st' w' := ⟨a.step.weaken h, a.rep⟩
theorem Aft.tk (X : Addr → Prop) (R : Rep C w.ρ st w.s.heap) (k : Nat) : Aft C z X w st ⟨w.ρ, { w.s with toks := k }⟩ := ⟨Step.side _ _ _ (λ _ _ e => e) rfl rfl, R⟩
theorem Aft.side (X : Addr → Prop) (R : Rep C w.ρ st w.s.heap) {h' : Heap} {k : Nat} (e : ∀ b o, w.s.heap.get? b = some o → h'.get? b = some o) : Aft C z X w st ⟨w.ρ, { w.s with heap := h', toks := k }⟩ := ⟨Step.side _ _ _ e rfl rfl, R.keeps e⟩
theorem Aft.push (X : Addr → Prop) (R : Rep C w.ρ st w.s.heap) {ob : Obj} {o : AO} (k : Nat) (hf : ob.isFreed = false) (ho : ObR C w.ρ w.s.heap ob o) : Aft C z X w (st.add o) ⟨w.ρ ++ [w.s.heap.objs.size], { w.s with heap := w.s.heap.push ob, toks := k }⟩ := ⟨Step.push _ _ _ _, R.add hf ho⟩
theorem VR.up (r : VR w.ρ v u) (a : Aft C z X w st' w') : VR w'.ρ v u := r.mono a.step.pre
theorem VRs.up {vs : List AV} {us : List Value} (r : VRs w.ρ vs us) (a : Aft C z X w st' w') : VRs w'.ρ vs us := r.mono a.step.pre
theorem QV.after (h : QV C z w st'' v Q) (a : Aft C z NoX w st' w') : QV C z w' st'' v Q := λ w2 u b r => h w2 u (a.trans b) r
theorem QV.now (h : QV C z w st v Q) (R : Rep C w.ρ st w.s.heap) (r : VR w.ρ v u) : Q u w.s := h w u (Aft.refl _ R) r
theorem QV.tk (h : QV C z w st v Q) (R : Rep C w.ρ st w.s.heap) (k : Nat) (r : VR w.ρ v u) : Q u { w.s with toks := k } := h _ u (Aft.tk _ R k) r
theorem QV.push {o : AO} {ob : Obj} (h : QV C z w (st.add o) (.ref st.n) Q) (R : Rep C w.ρ st w.s.heap) (k : Nat) (hf : ob.isFreed = false) (ho : ObR C w.ρ w.s.heap ob o) : Q (.ref w.s.heap.objs.size) { w.s with heap := w.s.heap.push ob, toks := k } := h _ _ (Aft.push _ R k hf ho) (zg1 R _)
end
noncomputable def cop : CO → CmpOp
 | .eq => .Eq | .ne => .NotEq | .lt => .Lt | .le => .LtE | .gt => .Gt | .ge => .GtE | .is => .Is | .isNot => .IsNot
noncomputable def bop : BO → Operator
 | .add => .Add | .sub => .Sub | .mul => .Mult | .fdiv => .FloorDiv | .mod => .Mod | .pow => .Pow
noncomputable def zxt : Bool → CmpOp | true => .NotIn | false => .In
section
variable {C : Cx} {A : Around} {E : Value → Shared → Prop} {s : Shared} {ρ : List Addr} {st st' : Store} {w : Wd} {z : Nat} {Q : Value → Shared → Prop}
theorem zHb {v : AV} {i : Int} (h : v.toI = some i) : v = .int i := by
 cases v with
 | int j => cases h; rfl
 | _ => exact nn h
theorem zxs {v : AV} {i : List Nat} (h : v.toS = some i) : v = .str i := by
 cases v with
 | str j => cases h; rfl
 | _ => exact nn h
theorem zxp {v : AV} {i : Nat} (h : v.toR = some i) : v = .ref i := by
 cases v with
 | ref j => cases h; rfl
 | _ => exact nn h
theorem zIt {v : AV} (h : v.isN = true) : v = .none := by
 cases v with
 | none => rfl
 | _ => exact nb h
theorem zcc {G : Value → Prop} {v : AV} {u : Value} {i : Int} (h : v.toI = some i) (r : VR ρ v u) (k : ∀ t, G (.int i t)) : G u := by
 rw [zHb h] at r; obtain ⟨t, rfl⟩ := r; exact k t
theorem zgk {G : Value → Prop} {v : AV} {u : Value} {x : List Nat} (h : v.toS = some x) (r : VR ρ v u) (k : ∀ t, x.length ≤ 1000 → G (.str (zam x) t)) : G u := by
 rw [zxs h] at r; obtain ⟨l, t, rfl⟩ := r; exact k t l
theorem zd8 {G : Value → Prop} {v : AV} {u : Value} {i : Nat} (h : v.toR = some i) (r : VR ρ v u) (k : ∀ a, Ix ρ i a → G (.ref a)) : G u := by
 rw [zxp h] at r; obtain ⟨a, e, rfl⟩ := r; exact k a e
theorem zql {G : Value → Prop} {v : AV} {u : Value} (h : v.isN = true) (r : VR ρ v u) (k : G .none) : G u := by
 rw [zIt h] at r; cases r; exact k
theorem zIq {o : AO} {xs : List AV} (h : o.toL = some xs) : o = .list xs := by
 cases o with
 | list => cases h; rfl
 | _ => exact nn h
theorem zJc {o : AO} {xs : List AV} (h : o.toT = some xs) : o = .tup xs := by
 cases o with
 | tup => cases h; rfl
 | _ => exact nn h
theorem zJp {o : AO} {xs : List (List Nat × AV)} (h : o.toD = some xs) : o = .dict xs := by
 cases o with
 | dict => cases h; rfl
 | _ => exact nn h
structure LsAt (h : Heap) (ρ : List Addr) (a : Addr) (xs : List AV) (ob : Obj) (us : List Value) (n : Nat) : Prop where
 at_ : h.get? a = some ob
 len : xs.length ≤ 1001
 seq : SeqR "list" ρ ob xs us n
 dict : ob.dict = none
structure TpAt (h : Heap) (ρ : List Addr) (a : Addr) (xs : List AV) (ob : Obj) (us : List Value) (n : Nat) : Prop where
 at_ : h.get? a = some ob
 len : xs.length ≤ 1001
 seq : SeqR "tuple" ρ ob xs us n
structure DcAt (C : Cx) (h : Heap) (ρ : List Addr) (a : Addr) (es : List (List Nat × AV)) (ob : Obj) (kvs : List (Str × Value)) : Prop where
 at_ : h.get? a = some ob
 keys : VKs ρ es kvs
 dict : ob.IsDictOf (strKind C.prog C.w) kvs
theorem LsAt.is {h : Heap} {a : Addr} {xs : List AV} {ob : Obj} {us : List Value} {n : Nat} (x : LsAt h ρ a xs ob us n) : h.IsList a us.toArray := ⟨ob, x.at_, x.seq.cls, n, x.seq.data⟩
theorem TpAt.is {h : Heap} {a : Addr} {xs : List AV} {ob : Obj} {us : List Value} {n : Nat} (x : TpAt h ρ a xs ob us n) : IsTup h a us.toArray := ⟨ob, x.at_, x.seq.cls, n, x.seq.data⟩
theorem DcAt.of {h : Heap} {a : Addr} {es : List (List Nat × AV)} {ob : Obj} {kvs : List (Str × Value)} (x : DcAt C h ρ a es ob kvs) : h.DictOf (strKind C.prog C.w) a kvs := Heap.dictOf_iff.mpr ⟨ob, x.at_, x.dict⟩
theorem At.ls {h : Heap} {G : Prop} {i : Nat} {o : AO} {a b : Addr} {ob : Obj} {xs : List AV} (q : At C ρ h i o b ob) (e : Ix ρ i a) (t : o.toL = some xs) (k : ∀ ob us n, LsAt h ρ a xs ob us n → G) : G := by
 obtain ⟨f, at_, rel⟩ := q
 cases f.eq e
 cases zIq t
 obtain ⟨l, ⟨us, n, x⟩, y⟩ := rel
 exact k _ _ _ ⟨at_, l, x, y⟩
theorem At.tp {h : Heap} {G : Prop} {i : Nat} {o : AO} {a b : Addr} {ob : Obj} {xs : List AV} (q : At C ρ h i o b ob) (e : Ix ρ i a) (t : o.toT = some xs) (k : ∀ ob us n, TpAt h ρ a xs ob us n → G) : G := by
 obtain ⟨f, at_, rel⟩ := q
 cases f.eq e
 cases zJc t
 obtain ⟨l, us, n, x⟩ := rel
 exact k _ _ _ ⟨at_, l, x⟩
theorem At.dc {h : Heap} {G : Prop} {i : Nat} {o : AO} {a b : Addr} {ob : Obj} {es : List (List Nat × AV)} (q : At C ρ h i o b ob) (e : Ix ρ i a) (t : o.toD = some es) (k : ∀ ob kvs, DcAt C h ρ a es ob kvs → G) : G := by
 obtain ⟨f, at_, rel⟩ := q
 cases f.eq e
 cases zJp t
 obtain ⟨kvs, x, y⟩ := rel
 exact k _ _ ⟨at_, x, y⟩
theorem Rep.ls {h : Heap} (R : Rep C ρ st h) {G : Prop} {i : Nat} {xs : List AV} {a : Addr} (t : st.ls i = some xs) (e : Ix ρ i a) (k : ∀ ob us n, LsAt h ρ a xs ob us n → G) : G :=
 zag t λ o ho t => R.obj ho λ b ob q => q.ls e t k
theorem Rep.tp {h : Heap} (R : Rep C ρ st h) {G : Prop} {i : Nat} {xs : List AV} {a : Addr} (t : st.tp i = some xs) (e : Ix ρ i a) (k : ∀ ob us n, TpAt h ρ a xs ob us n → G) : G :=
 zag t λ o ho t => R.obj ho λ b ob q => q.tp e t k
theorem Rep.dc {h : Heap} (R : Rep C ρ st h) {G : Prop} {i : Nat} {es : List (List Nat × AV)} {a : Addr} (t : st.dc i = some es) (e : Ix ρ i a) (k : ∀ ob kvs, DcAt C h ρ a es ob kvs → G) : G :=
 zag t λ o ho t => R.obj ho λ b ob q => q.dc e t k
theorem zdk {xs : List AV} {us : List Value} (r : VRs ρ xs us) : ∀ {is : List Int}, zde xs = some is → IntsAre us is := by
 induction r with
 | nil => intro is h; cases h; exact .nil
 | cons a _ ih => exact λ {is} h => zag h λ i h1 h => zbs h λ js h2 h => h ▸ zcc (G := λ u => IntsAre (u :: _) _) h1 a λ t => .cons _ t (ih h2)
theorem ze4 {v : AV} {b : Bool} {u : Value} {Q : Bool → Shared → Prop} (h : truthy v = some b) (r : VR ρ v u) (hq : Q b s) : wpAny (model C.prog C.w) A (PySem.truthy u) Q E s := by
 cases v with
 | none => cases h; cases r; exact PyProof.Rows.truthy_none hq
 | bool => cases h; cases r; exact wpAny_truthy_bool hq
 | int => cases h; obtain ⟨t, rfl⟩ := r; exact PyProof.Rows.truthy_int hq
 | _ => exact nn h
theorem zsk {s t : List Nat} : ((zam s).cps.toList == (zam t).cps.toList) = decide (s = t) := by
 show (s == t) = _
 by_cases h : s = t <;> simp [h]
theorem zkq : ∀ s t : List Nat, decide (s < t) = ltS s t
 | [], [] => rfl
 | [], _ :: _ => by simp [ltS]
 | _ :: _, [] => by simp [ltS]
 | a :: x, b :: y => by
   have ih := zkq x y
   simp only [ltS, List.cons_lt_cons_iff]
   by_cases h : a < b
   · simp [h]
   · by_cases q : b < a
     · have : ¬ a = b := λ e => Nat.lt_irrefl _ (e ▸ q)
       simp [h, q, this]
     · have : a = b := Nat.le_antisymm (Nat.le_of_not_lt q) (Nat.le_of_not_lt h)
       subst this
       simp [← ih]
theorem zlt {h : Heap} {us : List Value} {is : List Int} (hi : IntsAre us is) : ReadsAll h us (is.map PyData.int) [] := by
 induction hi with
 | nil => exact .nil
 | cons n t _ ih => exact .cons (bs := []) (as := []) (.int n t) ih
theorem zrz (ns ms : List Int) : PySem.Spec.same (.tuple (ns.map PyData.int)) (.tuple (ms.map PyData.int)) = decide (ns = ms) := by
 simp only [PySem.Spec.same]; exact ke_sameAll ns ms
theorem zha (ns : List Int) : SeqAt.shaped (.tuple (ns.map PyData.int)) = true := by
 simp [SeqAt.shaped, PyData.canLay0, PyData.depth, ke_canLayAll0, ke_depthAll]
theorem zl7 : ∀ ns ms : List Int, SeqAt.noMixAll (ns.map PyData.int) (ms.map PyData.int) = true
 | [], [] => rfl
 | [], _ :: _ => rfl
 | _ :: _, [] => rfl
 | a :: r, b :: t => by
   show (SeqAt.noMix (.int a) (.int b) && SeqAt.noMixAll (r.map PyData.int) (t.map PyData.int)) = true
   rw [zl7 r t]; rfl
structure EqS (C : Cx) (A : Around) (E : Value → Shared → Prop) (s : Shared) (u w : Value) (r : Bool) : Prop where
 eq : ∀ Q : Value → Shared → Prop, Q (.bool r) s → wpAny (model C.prog C.w) A (compareOp .Eq u w) Q E s
 ne : ∀ Q : Value → Shared → Prop, Q (.bool (!r)) s → wpAny (model C.prog C.w) A (compareOp .NotEq u w) Q E s
theorem zvq {o o' : AO} {i j : Nat} {a b a' b' : Addr} {ob ob' : Obj} {r : Bool} (h : eqO o o' = some r) (x : At C ρ s.heap i o a' ob) (y : At C ρ s.heap j o' b' ob') (ea : Ix ρ i a) (eb : Ix ρ j b) (hu : A.units + 64 < cLine) : EqS C A E s (.ref a) (.ref b) r := by
 cases o with
 | list xs =>
   refine zag h λ ys hy h => x.ls ea rfl λ _ us _ l => y.ls eb hy λ _ ws _ l' => ?_
   cases ys with
   | nil =>
     cases h
     cases xs with
     | nil => exact ⟨λ Q q => ke_eq_ints l.is l'.is (zdk l.seq.items rfl) (zdk l'.seq.items rfl) hu q, λ Q q => ke_ne_ints l.is l'.is (zdk l.seq.items rfl) (zdk l'.seq.items rfl) hu q⟩
     | cons x xs =>
       have hne : (us.toArray.size != ws.toArray.size) = true := by
         rw [List.size_toArray, List.size_toArray, l.seq.items.length, l'.seq.items.length]; rfl
       have hu : A.units < cLine := Nat.lt_of_le_of_lt (zft _ _) hu
       exact ⟨λ Q q => EqBoolInt.of_rc (SeqAt.RcAt.lists_lengths l.is l'.is hne hu) q, λ Q q => EqBoolInt.of_rcne (SeqAt.RcNeAt.lists_lengths l.is l'.is hne hu) q⟩
   | cons y ys =>
     refine zag h λ is hi h => zbs h λ js hj h => ?_
     cases h
     exact ⟨λ Q q => ke_eq_ints l.is l'.is (zdk l.seq.items hi) (zdk l'.seq.items hj) hu q, λ Q q => ke_ne_ints l.is l'.is (zdk l.seq.items hi) (zdk l'.seq.items hj) hu q⟩
 | tup xs =>
   refine zag h λ ys hy h => zag h λ is hi h => zbs h λ js hj h => x.tp ea rfl λ _ us _ l => y.tp eb hy λ _ ws _ l' => ?_
   cases h
   have A1 : Reads s.heap (.ref a) (.tuple (is.map PyData.int)) _ := .tuple l.at_ l.seq.cls l.seq.data (zlt (zdk l.seq.items hi))
   have B1 : Reads s.heap (.ref b) (.tuple (js.map PyData.int)) _ := .tuple l'.at_ l'.seq.cls l'.seq.data (zlt (zdk l'.seq.items hj))
   have mix : SeqAt.noMix (.tuple (is.map PyData.int)) (.tuple (js.map PyData.int)) = true := by rw [SeqAt.noMix]; exact zl7 is js
   exact ⟨λ Q q => eq_dataH_same A1 B1 (zha _) (zha _) hu mix (by rw [zrz]; exact q), λ Q q => ne_dataH_same A1 B1 (zha _) (zha _) hu mix (by rw [zrz]; exact q)⟩
 | _ => exact nn h
theorem zn6 {a b : AV} {r : Bool} {u w : Value} (h : eqv st a b = some r) (R : Rep C ρ st s.heap) (ra : VR ρ a u) (rb : VR ρ b w) (hu : A.units + 64 < cLine) : EqS C A E s u w r := by
 cases a with
 | none =>
   cases ra
   cases b with
   | none => cases rb; cases h; exact ⟨λ Q q => EqNone.eq_none_none q, λ Q q => EqNone.ne_none_none q⟩
   | str => obtain ⟨_, t, rfl⟩ := rb; cases h; exact ⟨λ Q q => EqNone.eq_none_str q, λ Q q => EqNone.ne_none_str q⟩
   | _ => exact nn h
 | int i =>
   obtain ⟨t, rfl⟩ := ra
   exact zbs h λ j hj h => zcc (G := λ w => EqS C A E s (.int _ t) w r) hj rb λ _ => h ▸ ⟨λ Q q => P.eq_int q, λ Q q => P.ne_int q⟩
 | str x =>
   obtain ⟨_, t, rfl⟩ := ra
   cases b with
   | none => cases rb; cases h; exact ⟨λ Q q => EqNone.eq_str_none q, λ Q q => EqNone.ne_str_none q⟩
   | str => obtain ⟨_, t, rfl⟩ := rb; cases h; exact ⟨λ Q q => P.eq_str (by rw [zsk]; exact q), λ Q q => P.ne_str (by rw [bne, zsk]; exact q)⟩
   | _ => exact nn h
 | ref i =>
   obtain ⟨a, ea, rfl⟩ := ra
   exact zag h λ j hj h => zag h λ o ho h => zag h λ o' ho' h => zd8 (G := λ w => EqS C A E s (.ref a) w r) hj rb λ b eb => R.obj ho λ _ _ x => R.obj ho' λ _ _ y => zvq h x y ea eb hu
 | _ => exact nn h
theorem zh8 {op : CmpOp} {f : Int → Int → Bool} {g : List Nat → List Nat → Bool} {a b : AV} {r : Bool} {u w : Value} (h : zD1 f g a b = some r) (ra : VR ρ a u) (rb : VR ρ b w) (hq : Q (.bool r) s)
   (hi : ∀ i j t t', Q (.bool (f i j)) s → wpAny (model C.prog C.w) A (compareOp op (.int i t) (.int j t')) Q E s) (hs : ∀ x y t t', Q (.bool (g x y)) s → wpAny (model C.prog C.w) A (compareOp op (.str (zam x) t) (.str (zam y) t')) Q E s) : wpAny (model C.prog C.w) A (compareOp op u w) Q E s := by
 cases a with
 | int i =>
   obtain ⟨t, rfl⟩ := ra
   exact zbs h λ j hj h => zcc (G := λ w => wpAny (model C.prog C.w) A (compareOp op (.int _ t) w) Q E s) hj rb λ t' => hi _ _ _ _ (h ▸ hq)
 | str x =>
   obtain ⟨_, t, rfl⟩ := ra
   exact zbs h λ y hy h => zgk (G := λ w => wpAny (model C.prog C.w) A (compareOp op (.str _ t) w) Q E s) hy rb λ t' _ => hs _ _ _ _ (h ▸ hq)
 | _ => exact nn h
theorem zBf {a : AV} {u : Value} (r : VR ρ a u) : (u == Value.none) = a.isN := by
 cases a with
 | none => cases r; rfl
 | bool => cases r; rfl
 | int => obtain ⟨_, rfl⟩ := r; rfl
 | str => obtain ⟨_, _, rfl⟩ := r; rfl
 | ref => obtain ⟨_, _, rfl⟩ := r; rfl
 | old => cases r; rfl
 | bi b => cases r; cases b <;> rfl
 | ext => exact r.elim
theorem zgy {op : CO} {a b : AV} {r : Bool} {u w : Value} (h : zhy op a b st = some r) (R : Rep C ρ st s.heap) (ra : VR ρ a u) (rb : VR ρ b w) (hu : A.units + 64 < cLine) (hq : Q (.bool r) s) : wpAny (model C.prog C.w) A (compareOp (cop op) u w) Q E s := by
 cases op with
 | eq => exact (zn6 h R ra rb hu).eq Q hq
 | ne => exact zbs h λ x h1 h => (zn6 h1 R ra rb hu).ne Q (h ▸ hq)
 | is => exact zgr h λ hn h => zql (G := λ w => wpAny (model C.prog C.w) A (compareOp .Is u w) Q E s) hn rb (PySem.is_none (by rw [zBf ra, h]; exact hq))
 | isNot => exact zgr h λ hn h => zql (G := λ w => wpAny (model C.prog C.w) A (compareOp .IsNot u w) Q E s) hn rb (PySem.isNot_none (by rw [zBf ra, h]; exact hq))
 | lt => exact zh8 h ra rb hq (λ _ _ _ _ q => P.lt_int q) λ _ _ _ _ q => P.lt_str (by rw [← zkq] at q; exact q)
 | le => exact zh8 h ra rb hq (λ _ _ _ _ q => P.le_int q) λ _ _ _ _ q => P.le_str (by rw [← zkq] at q; exact q)
 | gt => exact zh8 h ra rb hq (λ _ _ _ _ q => P.gt_int q) λ _ _ _ _ q => P.gt_str (by rw [← zkq] at q; exact q)
 | ge => exact zh8 h ra rb hq (λ _ _ _ _ q => P.ge_int q) λ _ _ _ _ q => P.ge_str (by rw [← zkq] at q; exact q)
end
section
variable {C : Cx} {A : Around} {E : Value → Shared → Prop} {s : Shared} {ρ : List Addr} {st st' : Store} {w : Wd} {z : Nat} {Q : Value → Shared → Prop}
theorem zvh {y : Value} {k z : List Nat} {t u : Tok} (h : y = .str (zam z) t) : SeqAt.EqAt A s y (.str (zam k) u) (y.isStr (zam k)) := by
 subst h
 intro prog w E Q hq
 exact wpAny_eqBool_str hq
theorem zDd (i k : List Nat) : (zam i == zam k) = (k == i) := by
 by_cases q : k = i
 · subst q; rw [beq_self_eq_true, beq_self_eq_true]
 · have : ¬ zam i = zam k := λ e => q (zfj.mp e).symm
   rw [beq_eq_false_iff_ne.mpr this, beq_eq_false_iff_ne.mpr q]
structure StrsR (us : List Value) (l : List (List Nat)) : Prop where
 each : ∀ y ∈ us, ∃ z t, y = .str (zam z) t
 any : ∀ k, us.any (λ y => y.isStr (zam k)) = l.contains k
theorem StrsR.cons {us : List Value} {l : List (List Nat)} (r : StrsR us l) (i : List Nat) (t : Tok) : StrsR (.str (zam i) t :: us) (i :: l) where
 each := λ y hy => (List.mem_cons.mp hy).elim (λ e => ⟨i, t, e⟩) (r.each y)
 any := λ k => by rw [List.any_cons, r.any, List.contains_cons]; exact congrArg (· || _) (zDd i k)
theorem zsf {xs : List AV} {us : List Value} (r : VRs ρ xs us) : ∀ {l : List (List Nat)}, zdm xs = some l → StrsR us l := by
 induction r with
 | nil => intro l h; cases h; exact ⟨λ y hy => (nomatch hy), λ k => rfl⟩
 | cons a _ ih => exact λ {l} h => zag h λ i h1 h => zbs h λ js h2 h => h ▸ zgk (G := λ u => StrsR (u :: _) _) h1 a λ t _ => (ih h2).cons i t
theorem zfn (C : Cx) (k : Str) (t : Tok) : (PySem.strKind C.prog C.w).is k (.str k t) = true := beq_self_eq_true k
theorem zru (g : Good C) {h : Heap} (R : Rep C ρ st h) {i : Nat} {a : Addr} (e : Ix ρ i a) : (a == sysModules) = false :=
 beq_eq_false_iff_ne.mpr λ q => g.sys.elim λ o f => by subst q; rw [R.fresh i _ e] at f; cases f
inductive OptR (ρ : List Addr) : Option AV → Option Value → Prop
 | none : OptR ρ none none
 | some {x : AV} {u : Value} : VR ρ x u → OptR ρ (some x) (some u)
theorem zwd {es : List (List Nat × AV)} {kvs : List (Str × Value)} (r : VKs ρ es kvs) (k : List Nat) : OptR ρ (lkS k es) (valueAt kvs (zam k)) := by
 induction r with
 | nil => exact .none
 | @cons k' x u es ds hkl a _ ih =>
   by_cases q : k' = k
   · subst q
     have h1 : lkS k' ((k', x) :: es) = some x := if_pos rfl
     have h2 : valueAt ((zam k', u) :: ds) (zam k') = some u := by simp [valueAt]
     rw [h1, h2]; exact .some a
   · have h1 : lkS k ((k', x) :: es) = lkS k es := if_neg q
     have h2 : valueAt ((zam k', u) :: ds) (zam k) = valueAt ds (zam k) := by simp [valueAt, zfj, q]
     rw [h1, h2]; exact ih
theorem zzt {k : List Nat} {es : List (List Nat × AV)} {kvs : List (Str × Value)} {G : Prop} {v : AV} (r : VKs ρ es kvs) (h : lkS k es = some v) (f : ∀ u, valueAt kvs (zam k) = some u → VR ρ v u → G) : G := by
 have q := zwd r k
 rw [h] at q
 generalize he : valueAt kvs (zam k) = y at q
 cases q with
 | some a => exact f _ he a
theorem OptR.isSome {x : Option AV} {u : Option Value} (r : OptR ρ x u) : u.isSome = x.isSome := by cases r <;> rfl
theorem zrs (k : List Nat) : ∀ es : List (List Nat × AV), (lkS k es).isSome = (es.map (·.1)).contains k
 | [] => rfl
 | p :: r => by
   rw [List.map_cons, List.contains_cons]
   by_cases q : p.1 = k
   · rw [show lkS k (p :: r) = some p.2 from if_pos q, q, beq_self_eq_true]; rfl
   · rw [show lkS k (p :: r) = lkS k r from if_neg q, zrs k r, beq_eq_false_iff_ne.mpr (Ne.symm q)]; rfl
theorem zq3 {neg : Bool} {k : List Nat} {t : Tok} {us : List Value} {l : List (List Nat)} {a : Addr} (x : s.heap.IsList a us.toArray ∨ s.heap.IsTuple a us.toArray) (r : StrsR us l) (hq : Q (.bool (l.contains k != neg)) s) :
   wpAny (model C.prog C.w) A (compareOp (zxt neg) (.str (zam k) t) (.ref a)) Q E s := by
 have he : ∀ y, y ∈ us.toArray → SeqAt.EqAt A.in1 s y (.str (zam k) t) (y.isStr (zam k)) := λ y hy => (r.each y (List.mem_toArray.mp hy)).elim λ z q => q.elim λ t' q => zvh q
 have e : us.toArray.any (λ y => y.isStr (zam k)) = l.contains k := by rw [List.any_toArray]; exact r.any k
 rw [← e] at hq
 cases neg with
 | false => rw [Bool.bne_false] at hq; exact x.elim (λ x => SeqAt.in_listAt _ x he hq) λ x => SeqAt.in_tupleAt _ x he hq
 | true => rw [Bool.bne_true] at hq; exact x.elim (λ x => SeqAt.notIn_listAt _ x he hq) λ x => SeqAt.notIn_tupleAt _ x he hq
theorem zFo (g : Good C) {h : Heap} {neg : Bool} {k : List Nat} {t : Tok} {es : List (List Nat × AV)} {ob : Obj} {kvs : List (Str × Value)} {i : Nat} {a : Addr} (R : Rep C ρ st s.heap) (e : Ix ρ i a) (d : DcAt C s.heap ρ a es ob kvs)
   (hq : ∀ tk, Q (.bool ((es.map (·.1)).contains k != neg)) { s with toks := tk }) : wpAny (model C.prog C.w) A (compareOp (zxt neg) (.str (zam k) t) (.ref a)) Q E s := by
 have q := hq (s.toks + 1)
 rw [← zrs, ← (zwd d.keys k).isSome] at q
 cases neg with
 | false => rw [Bool.bne_false] at q; exact wpAny_in_of (zfn C (zam k) t) (zru g R e) d.of.mapOf q
 | true => rw [Bool.bne_true] at q; exact wpAny_notIn_of (zfn C (zam k) t) (zru g R e) d.of.mapOf q
theorem zyj {neg : Bool} {c : Nat} {y : List Nat} {t t' : Tok} (hq : Q (.bool (y.contains c != neg)) s) : wpAny (model C.prog C.w) A (compareOp (zxt neg) (.str (zam [c]) t) (.str (zam y) t')) Q E s := by
 have e : Txt.contains (zam y) (zam [c]) = y.contains c := by
   show (!(Builtin.Str.occurrences (zam y) ⟨#[c]⟩ 0 (zam y).length 1).isEmpty) = _
   rw [StrLaws.found_one]
   show decide (c ∈ y) = _
   rw [List.contains_eq_mem]
 rw [← e] at hq
 cases neg with
 | false => rw [Bool.bne_false] at hq; exact SB.contains hq
 | true => rw [Bool.bne_true] at hq; exact SB.notContains hq
theorem zxa (g : Good C) {a b : AV} {r neg : Bool} {u v : Value} (h : inv C.T st a b = some r) (R : Rep C ρ st s.heap) (ra : VR ρ a u) (rb : VR ρ b v) (hq : ∀ tk, Q (.bool (r != neg)) { s with toks := tk }) :
   wpAny (model C.prog C.w) A (compareOp (zxt neg) u v) Q E s :=
 zag h λ k hk h => zgk (G := λ u => wpAny (model C.prog C.w) A (compareOp (zxt neg) u v) Q E s) hk ra λ t _ => by
   cases b with
   | str y =>
     obtain ⟨_, t', rfl⟩ := rb
     match k, h with
     | [c], h => cases h; exact zyj (hq s.toks)
   | ref i =>
     obtain ⟨p, e, rfl⟩ := rb
     refine zag h λ o ho h => R.obj ho λ b ob q => ?_
     cases o with
     | list xs => exact zbs h λ l hl h => q.ls e rfl λ _ us _ x => zq3 (.inl x.is) (zsf x.seq.items hl) (h ▸ hq s.toks)
     | dict es => cases h; exact q.dc e rfl λ _ _ d => zFo g (h := s.heap) R e d hq
     | _ => exact nn h
   | old p =>
     cases rb
     refine zag h λ xs hx h => zbs h λ l hl h => (g.tups _ _ hx).2.elim λ us q => ?_
     exact zq3 (.inr (q.2.elim λ o q => ⟨o, R.stays _ _ q.1, q.2⟩)) (zsf q.1 hl) (h ▸ hq s.toks)
   | _ => exact nn h
theorem zih {i : Int} {k : Nat} (h : i.natAbs < 2 ^ k) : Builtin.Int.intBits i ≤ k := by
 unfold Builtin.Int.intBits
 split
 · exact Nat.zero_le _
 · rename_i q
   exact (Nat.log2_lt λ e => q (by rw [Int.natAbs_eq_zero.mp e]; rfl)).mpr h
theorem zl6 {i : Int} (h : small i = true) : Builtin.Int.intBits i ≤ 2000 := zih (of_decide_eq_true h)
theorem zv0 {i j : Int} (h : small j = true) : ¬ (Builtin.divisionGoesByPylong i j) = true := by
 unfold Builtin.divisionGoesByPylong
 intro q
 simp only [Bool.and_eq_true, decide_eq_true_eq] at q
 have q := q.1
 split at q
 · omega
 · rename_i hz
   have := (Nat.log2_lt (n := j.natAbs) λ e => hz (by rw [Int.natAbs_eq_zero.mp e]; rfl)).mpr (of_decide_eq_true h)
   omega
theorem zG0 {i j : Int} (h : (decide (j.natAbs < 2 ^ 60) || small i && small j) = true) : IntMulOk i j := by
 rcases Bool.or_eq_true _ _ |>.mp h with q | q
 · exact IntMulOk.of_right (ltx (zih (of_decide_eq_true q)) (by decide))
 · have ha := zl6 (Bool.and_eq_true_iff.mp q).1
   have hb := zl6 (Bool.and_eq_true_iff.mp q).2
   intro q
   have q2 := (Bool.and_eq_true_iff.mp q).2
   unfold Builtin.Int.intTooBig at q2
   have q2 := of_decide_eq_true q2
   rw [show (bitsLine : Int) = 2 ^ 27 by decide] at q2
   omega
theorem zuh (x y : List Nat) : zam x ++ zam y = zam (x ++ y) := congrArg Str.mk (List.append_toArray _ _)
theorem zhs {ob : Obj} {us : Array Value} {n : Nat} (h : ob.data = .seq us n) : zfb ob := λ vs e => by rw [h] at e; cases e
theorem zpg {ob : Obj} {v : Option Value} (h : ob.data = .cell v) : zfb ob := λ vs e => by rw [h] at e; cases e
theorem zoz {ds : List DictEntry} {n : Nat} : zfb (dictOf ds n) := λ vs h => nomatch h
theorem zld {ob : Obj} {kvs : List (Str × Value)} (h : ob.IsDictOf (PySem.strKind C.prog C.w) kvs) : zfb ob := λ vs e => by obtain ⟨es, ep, _, h, _⟩ := h; rw [h] at e; cases e
theorem lsR {h : Heap} {xs : List AV} {us : List Value} (r : VRs ρ xs us) (hl : xs.length ≤ 1001) : ObR C ρ h { cls := .type "list", data := .seq us.toArray } (.list xs) := ⟨hl, ⟨us, 0, r, rfl, rfl⟩, rfl⟩
theorem tpR {h : Heap} {xs : List AV} {us : List Value} (r : VRs ρ xs us) (hl : xs.length ≤ 1001) : ObR C ρ h { cls := .type "tuple", data := .seq us.toArray } (.tup xs) := ⟨hl, us, 0, r, rfl, rfl⟩
theorem zhb {n : Nat} (h : Nat.ble n 1000 = true) : n ≤ 1001 := Nat.le_succ_of_le (blx h)
theorem fits {n : Nat} (h : Nat.ble n 1000 = true) : n ≤ sizeLine := ltx (blx h) (by decide)
theorem zgp {op : Operator} {f : Int → Int → Int} {c : Int → Int → Bool} {a b : AV} {p : Bool × AV × Store} {u v : Value} (h : iop a b st c f = some p) (hp : p.1 = true) (R : Rep C w.ρ st w.s.heap) (ra : VR w.ρ a u) (rb : VR w.ρ b v) (hq : QV C z w p.2.2 p.2.1 Q)
   (k : ∀ i j t t', c i j = true → (∀ n tk, Q (.int (f i j) n) { w.s with toks := tk }) → wpAny (model C.prog C.w) A (binaryOp op (.int i t) (.int j t')) Q E w.s) : wpAny (model C.prog C.w) A (binaryOp op u v) Q E w.s :=
 zag h λ i hi h => zbs h λ j hj h => zcc (G := λ u => wpAny (model C.prog C.w) A (binaryOp op u v) Q E w.s) hi ra λ t => zcc (G := λ v => wpAny (model C.prog C.w) A (binaryOp op (.int i t) v) Q E w.s) hj rb λ t' => by
   subst h; exact k i j t t' hp λ n tk => hq.tk R tk (.int _ n)
theorem zw0 {op : BO} {a b : AV} {p : Bool × AV × Store} {u v : Value} (h : zDq op a b st = some p) (hp : p.1 = true) (R : Rep C w.ρ st w.s.heap) (ra : VR w.ρ a u) (rb : VR w.ρ b v) (hq : QV C z w p.2.2 p.2.1 Q) :
   wpAny (model C.prog C.w) A (binaryOp (bop op) u v) Q E w.s := by
 cases op with
 | add =>
   cases a with
   | int i =>
     obtain ⟨t, rfl⟩ := ra
     exact zbs h λ j hj h => zcc (G := λ v => wpAny (model C.prog C.w) A (binaryOp .Add (.int _ t) v) Q E w.s) hj rb λ t' => by subst h; exact P.add_int (hq.tk R _ (.int _ _))
   | str x =>
     obtain ⟨_, t, rfl⟩ := ra
     exact zbs h λ y hy h => zgk (G := λ v => wpAny (model C.prog C.w) A (binaryOp .Add (.str _ t) v) Q E w.s) hy rb λ t' _ => by
       subst h
       refine SB.add (λ t' k => ?_) (fits hp)
       rw [zuh]
       exact hq.tk R _ (.str _ _ (by rw [List.length_append]; exact blx hp))
   | ref i =>
     obtain ⟨p1, e1, rfl⟩ := ra
     refine zag h λ j hj h => zag h λ xs hx h => zbs h λ ys hy h => zd8 (G := λ v => wpAny (model C.prog C.w) A (binaryOp .Add (.ref p1) v) Q E w.s) hj rb λ p2 e2 => R.ls hx e1 λ ob us n l1 => R.ls hy e2 λ ob2 ws n2 l2 => ?_
     subst h
     obtain ⟨⟨cls, dd, data, sl⟩, h1, hc, hd⟩ : ∃ ob, w.s.heap.get? p1 = some ob ∧ ob.cls = .type "list" ∧ ob.data = .seq us.toArray n := ⟨ob, l1.at_, l1.seq.cls, l1.seq.data⟩
     obtain ⟨⟨cls2, dd2, data2, sl2⟩, h2, hc2, hd2⟩ : ∃ ob, w.s.heap.get? p2 = some ob ∧ ob.cls = .type "list" ∧ ob.data = .seq ws.toArray n2 := ⟨ob2, l2.at_, l2.seq.cls, l2.seq.data⟩
     dsimp only at hc hd hc2 hd2
     subst hc hd hc2 hd2
     have hsz : us.toArray.size + ws.toArray.size ≤ sizeLine := by
       rw [List.size_toArray, List.size_toArray, l1.seq.items.length, l2.seq.items.length]; exact fits hp
     refine concat_meets ⟨_, h1, rfl⟩ ⟨_, h2, rfl⟩ noFill_list_add seq_list_add PySem.F.slot_list_add PySem.F.entry_list_add (PySem.F.args_list_add_2 _ _) (list_addW p1 p2 us.toArray ws.toArray n n2 dd dd2 sl sl2 hsz) ⟨h1, h2, ?_⟩
     rw [List.append_toArray]
     exact hq.push R _ rfl (lsR (l1.seq.items.append l2.seq.items) (by rw [List.length_append]; exact zhb hp))
   | _ => exact nn h
 | sub => exact zgp h hp R ra rb hq λ _ _ _ _ _ q => P.sub_int (q _ _)
 | mul => exact zgp h hp R ra rb hq λ _ _ _ _ c q => P.mul_int (q _ _) (zG0 c)
 | fdiv => exact zgp h hp R ra rb hq λ i j _ _ c q => AutoIntOps.floordiv_1 (zbf c λ c _ => by simpa using c) (zv0 (zbf c λ _ c => c)) (q _ _)
 | mod => exact zgp h hp R ra rb hq λ i j _ _ c q => AutoIntOps.mod_1 (by simpa using c) (q _ _)
 | pow =>
   refine zgp h hp R ra rb hq λ i j _ _ c q => zbf c λ c h4 => zbf c λ c h0 => ?_
   cases (of_decide_eq_true c : i = 10)
   by_cases hz : j = 0
   · subst hz
     exact AutoIntOps.pow_0 (by decide) (by decide) (q _ _)
   · refine AutoIntOps.pow_4 (of_decide_eq_true h0) (by simpa using hz) (by decide) (by decide) ?_ (q _ _)
     have h4 := of_decide_eq_true h4
     have h0 := of_decide_eq_true h0
     unfold Builtin.Int.intTooBig
     rw [show ((Builtin.Int.intBits 10 : Nat) : Int) = 4 by decide, show (bitsLine : Int) = 2 ^ 27 by decide]
     intro q
     have q := of_decide_eq_true q
     omega
end
noncomputable def zEx (x : Expr) : Bool := match x with
 | .Call _ (_ :: _) _ _ => true
 | _ => false
noncomputable def zi6 (x : Expr) : Bool := !Nat.beq x.ctorIdx 16 || zEx x
noncomputable def zBk (x : Expr) : Bool := Nat.beq x.ctorIdx 20
noncomputable def zxn (x : Expr) : Bool := Nat.beq x.ctorIdx 22
noncomputable def zi3 (x : Expr) : Bool := Nat.beq x.ctorIdx 26
noncomputable def zjl (x : Expr) : Bool := Nat.ble 8 x.ctorIdx && Nat.ble x.ctorIdx 10
noncomputable def zh5 (x : Expr) : Bool := Nat.beq x.ctorIdx 7
inductive Vw where | cst (c : Const) | nam (a : Str) | tup (es : List Expr) | lst (es : List Expr) | slc (l h t : Option Expr) | att (y : Expr) (a : Str) (p : Pos) | oth
noncomputable def vw (x : Expr) : Vw := match x with
 | .Constant c _ _ => .cst c
 | .Name a _ => .nam a
 | .Tuple es _ _ => .tup es
 | .List es _ => .lst es
 | .Slice l h t _ => .slc l h t
 | .Attribute y a p => .att y a p
 | _ => .oth
noncomputable def zNg (x : Expr) : Vw → Prop
 | .cst c => ∃ k p, x = .Constant c k p
 | .nam a => ∃ p, x = .Name a p
 | .tup es => ∃ k p, x = .Tuple es k p
 | .lst es => ∃ p, x = .List es p
 | .slc l h t => ∃ p, x = .Slice l h t p
 | .att y a p => x = .Attribute y a p
 | .oth => zi3 x = false ∧ zBk x = false
theorem zma (x : Expr) : zNg x (vw x) := by
 cases x <;> first | exact ⟨rfl, rfl⟩ | exact ⟨_, _, rfl⟩ | exact ⟨_, rfl⟩ | exact rfl
theorem zEd {x : Expr} {v : Vw} (h : vw x = v) : zNg x v := h ▸ zma x
noncomputable def lkN (y : Str) : List (Str × NameKind) → Option NameKind
 | [] => none
 | p :: r => bif sB y p.1 then some p.2 else lkN y r
theorem zra (y : Str) : ∀ l, lkN y l = l.lookup y
 | [] => rfl
 | p :: r => by
   rw [lkN, List.lookup_cons, zra y r]
   cases h : sB y p.1 with
   | true => rw [zpp h, beq_self_eq_true]; rfl
   | false => rw [beq_eq_false_iff_ne.mpr (zId h)]; rfl
noncomputable def isK (k : NameKind) (o : Option NameKind) : Bool := match o with
 | some j => decide (j = k)
 | none => false
theorem zkc {k : NameKind} {y : Str} {l : List (Str × NameKind)} (h : isK k (lkN y l) = true) : l.lookup y = some k := by
 rw [zra] at h
 cases e : l.lookup y with
 | none => rw [e] at h; exact nb h
 | some j => rw [e] at h; rw [of_decide_eq_true h]
/-! the text's trees as the interpreter's terms -/
noncomputable def zm1 {α : Type} (o : Option α) (f : α → PE) : PE := match o with | some a => f a | none => .bad
noncomputable def chk (b : Bool) (e : PE) : PE := match b with | true => e | false => .bad
noncomputable def zCo (o : Option Expr) (f : Expr → PE) : PE := match o with | some a => f a | none => .non
noncomputable def zyc {α : Type} (o : Option α) (f : α → PS) : PS := match o with | some a => f a | none => .bad
noncomputable def zCu (b : Bool) (e : PS) : PS := match b with | true => e | false => .bad
structure Ek where
 sc : Scope
 dom : List Nat
 hkE : Expr → Option Nat
 hkS : Stmt → Option (Nat × Nat)
noncomputable def Fx.ek (f : Fx) : Ek := ⟨f.sc, f.dom, f.hkE, f.hkS⟩
noncomputable def zEt (k : Nat) : Option AV := match lk k glO with | some v => some v | none => lk k glB
noncomputable def zKg : CmpOp → Option CO
 | .Eq => some .eq | .NotEq => some .ne | .Lt => some .lt | .LtE => some .le | .Gt => some .gt | .GtE => some .ge | .Is => some .is | .IsNot => some .isNot | _ => none
noncomputable def zLz : Operator → Option BO
 | .Add => some .add | .Sub => some .sub | .Mult => some .mul | .FloorDiv => some .fdiv | .Mod => some .mod | .Pow => some .pow | _ => none
noncomputable def inI : CmpOp → Option Bool | .In => some false | .NotIn => some true | _ => none
noncomputable def zlx (a : Str) : Bool := match a.cps.toList with | 95 :: 95 :: _ => false | _ => true
noncomputable def zMy : Const → Option (List Nat) | .str s => cnd (Nat.ble s.cps.toList.length 1000) s.cps.toList | _ => none
noncomputable def zCk (x : Expr) : Option (List Nat) := match vw x with | .cst c => zMy c | _ => none
noncomputable def zH0 (sc : Scope) (x : Expr) : Option (List Nat) := match vw x with
 | .nam a => (zyd a).bind λ k => (lk k glO).bind λ v => v.toS.bind λ s => cnd (isK .globalImplicit (lkN a sc.names) && zlx a) s
 | .cst c => zMy c
 | _ => none
noncomputable def znk {α β : Type} (f : α → Option β) : List α → Option (List β)
 | [] => some []
 | x :: r => (f x).bind λ y => (znk f r).map (y :: ·)
noncomputable def zIv : Option Expr → Option (List Nat) | some x => zCk x | none => none
noncomputable def zNt : List Comprehension → Option (Expr × Expr × List Expr)
 | [⟨t, i, c, a⟩] => cnd (decide (a = 0)) (t, i, c)
 | _ => none
noncomputable def zs6 (sc : Scope) (dom : List Nat) (x : Expr) : Option (Bool × Nat) := match vw x with
 | .nam a => (zyd a).bind λ k => match lkN a sc.names with
   | some .local => some (false, k)
   | some .cell => cnd (dom.contains k) (true, k)
   | _ => none
 | _ => none
noncomputable def zus (sc : Scope) (dom : List Nat) (x : Expr) : Option (Bool × List (Bool × Nat)) := match vw x with
 | .tup es => (znk (zs6 sc dom) es).map λ l => (true, l)
 | _ => (zs6 sc dom x).map λ p => (false, [p])
noncomputable def znr (scope sc : Scope) : Scope := { scope with names := scope.names.map λ p => match p.2 with | .free => (bif (decide (sc.kind = .function) && isK .cell (lkN p.1 sc.names)) then (p.1, .cell) else p) | _ => p }
noncomputable def zxz (scope : Scope) (dom : List Nat) : Bool := scope.names.all λ y => match y.2 with
 | .cell => false
 | .local => isK .local (lkN y.1 scope.names)
 | .free => dom.any λ x => sB (nm x) y.1
 | _ => true
noncomputable def znw (scope : Scope) (x : Nat) : Bool := scope.names.any λ y => sB (nm x) y.1 && decide (y.2 = .free)
noncomputable def Ek.inner (E : Ek) (scope : Scope) : Ek := ⟨znr scope E.sc, E.dom.filter (znw scope), λ _ => none, λ _ => none⟩
noncomputable def zex (xs : List Expr) : Bool := xs.all λ x => !zxn x
inductive CV where | one (o : CmpOp) (z : Expr) | two (o : CmpOp) (z : Expr) (o2 : CmpOp) (z2 : Expr) | no
noncomputable def cv (os : List CmpOp) (ys : List Expr) : CV := match os with
 | [] => .no
 | o :: os => match ys with
   | [] => .no
   | z :: ys => match os with
     | [] => match ys with
       | [] => .one o z
       | _ :: _ => .no
     | o2 :: os => match os with
       | [] => match ys with
         | [z2] => .two o z o2 z2
         | _ => .no
       | _ :: _ => .no
noncomputable def zOn (os : List CmpOp) (ys : List Expr) : CV → Prop
 | .one o z => os = [o] ∧ ys = [z]
 | .two o z o2 z2 => os = [o, o2] ∧ ys = [z, z2]
 | .no => True
theorem zKu (os : List CmpOp) (ys : List Expr) : zOn os ys (cv os ys) := by
 cases os with
 | nil => trivial
 | cons o os => cases ys with
   | nil => trivial
   | cons z ys => cases os with
     | nil => cases ys with
       | nil => exact ⟨rfl, rfl⟩
       | cons => trivial
     | cons o2 os => cases os with
       | cons => trivial
       | nil => cases ys with
         | nil => trivial
         | cons z2 ys => cases ys with
           | nil => exact ⟨rfl, rfl⟩
           | cons => trivial
noncomputable def zt6 (E : Ek) (a : Str) : PE := zm1 (zyd a) λ k => chk (zlx a) (match lkN a E.sc.names with
 | some .local => .loc k
 | some .cell => chk (E.dom.contains k) (.cel k)
 | some .free => chk (E.dom.contains k) (.cel k)
 | some .globalImplicit => zm1 (zEt k) λ v => .glb k v
 | _ => .bad)
noncomputable def er : Nat → Ek → Expr → PE
 | 0, _, _ => .bad
 | d + 1, E, x => match x with
   | .Constant c _ _ => match c with
     | .none => .non
     | .bool b => .boo b
     | .int i => .num i
     | .str s => chk (Nat.ble s.cps.toList.length 1000) (.txt s.cps.toList)
     | _ => .bad
   | .Name a _ => zt6 E a
   | .BoolOp o ys _ => match o with
     | .And => .andd (ys.map (er d E))
     | .Or => .orr (ys.map (er d E))
   | .BinOp y o z _ => zm1 (zLz o) λ op => .bin op (er d E y) (er d E z)
   | .UnaryOp o y _ => match o with
     | .Not => .nott (er d E y)
     | .USub => .neg (er d E y)
     | _ => .bad
   | .IfExp c a b _ => .ite (er d E c) (er d E a) (er d E b)
   | .Dict kx ys _ => zm1 (znk zIv kx) λ ks => chk (Nat.ble kx.length 15 && decide (kx.length = ys.length)) (.dct ks (ys.map (er d E)))
   | .List ys _ => chk (zex ys) (.lst (ys.map (er d E)))
   | .Tuple ys _ _ => chk (zex ys) (.tpl (ys.map (er d E)))
   | .ListComp e gs scope _ => zm1 (zNt gs) λ p => zm1 (zus (E.inner scope).sc (E.inner scope).dom p.1) λ q =>
       chk (!zh5 p.2.1 && decide (scope.kind = .function) && zxz scope E.dom && q.2.all λ y => !y.1) (.lc (er d (E.inner scope) e) q.1 (q.2.map (·.2)) (er d E p.2.1) (p.2.2.map (er d (E.inner scope))))
   | .Compare y os ys _ => match cv os ys with
     | .one o z => match inI o with
       | some neg => match vw z with
         | .tup es => zm1 (znk zCk es) λ ss => chk (Nat.ble ss.length 1000) (.inl neg (er d E y) false ss)
         | .lst es => zm1 (znk (zH0 E.sc) es) λ ss => chk (Nat.ble ss.length 1000) (.inl neg (er d E y) true ss)
         | _ => chk (!zh5 z) (.inn neg (er d E y) (er d E z))
       | none => zm1 (zKg o) λ op => chk (!zh5 z) (.cmp op (er d E y) (er d E z))
     | .two o z o2 z2 => zm1 (zKg o) λ o1 => zm1 (zKg o2) λ o2 => chk (!zh5 z2) (.chn (er d E y) o1 (er d E z) o2 (er d E z2))
     | .no => .bad
   | .Call g as ks p => match ks with
     | [] => match vw g with
       | .att y a ap => zm1 (zyd a) λ m => chk (zi6 y && (ap.endLine == p.line) && Nat.blt as.length 30 && zex as) (.mth (er d E y) m (as.map (er d E)))
       | _ => chk (zex as) (.call (er d E g) (as.map (er d E)))
     | _ :: _ => .bad
   | .Attribute y a _ => zm1 (zyd a) λ m => chk (zi6 y) (.att (er d E y) m)
   | .Subscript y z _ => match vw z with
     | .slc l h t => .slc (er d E y) (zCo l (er d E)) (zCo h (er d E)) (zCo t (er d E))
     | _ => .idx (er d E y) (er d E z)
   | .Lambda .. => zm1 (E.hkE x) λ k => .lam k
   | _ => .bad
noncomputable def zNx (sc : Scope) : Env := { (default : Env) with scope := sc }
noncomputable def zGx {α β : Type} (f : α → β → Bool) : List α → List β → Bool
 | [], [] => true
 | a :: x, b :: y => f a b && zGx f x y
 | _, _ => false
noncomputable def zFn (sc : Scope) (ts : List (Bool × Nat)) (t v : Expr) : Bool := match swappedStores [t] v (zNx sc) with
 | .pure none => true
 | .pure (some ns) => ts.all (λ p => !p.1) && decide (ts.map (·.2)).Nodup && zGx (λ (p : Bool × Nat) a => sB (nm p.2) a) ts ns
 | _ => false
noncomputable def erS : Nat → Ek → Stmt → PS
 | 0, _, _ => .bad
 | d + 1, E, s => match s with
   | .Expr e _ => zCu (!zjl e) (.exp (er 40 E e))
   | .Return o _ => match o with
     | some e => .ret (er 40 E e)
     | none => .rtn
   | .Assign ts v _ => match ts with
     | [] => .bad
     | t :: ts => match ts with
       | [] => match vw t with
         | .nam a => zyc (zyd a) λ k => match lkN a E.sc.names with
           | some .local => .asg k (er 40 E v)
           | some .cell => zCu (E.dom.contains k) (.asc k (er 40 E v))
           | _ => .bad
         | .tup es => zyc (znk (zs6 E.sc E.dom) es) λ l => zCu (!zjl v && zFn E.sc l t v) (.ast l (er 40 E v))
         | .att o a _ => zyc (zyd a) λ m => .asa (er 40 E o) m (er 40 E v)
         | .oth => match t with
           | .Subscript o i _ => zCu (!zi3 i) (.asi (er 40 E o) (er 40 E i) (er 40 E v))
           | _ => .bad
         | _ => .bad
       | _ :: _ => .bad
   | .AugAssign t o v _ => match vw t with
     | .nam a => zyc (zyd a) λ k => zCu (isK .local (lkN a E.sc.names)) (zyc (zLz o) λ b => .aug k b (er 40 E v))
     | _ => .bad
   | .If t b o _ => .iff (er 40 E t) (b.map (erS d E)) (o.map (erS d E))
   | .While t b o _ => match o with
     | [] => .whl (er 40 E t) (b.map (erS d E))
     | _ :: _ => .bad
   | .For t i b o _ => match o with
     | [] => zyc (zus E.sc E.dom t) λ q => zCu (!zh5 i) (.fr q.1 q.2 (er 40 E i) (b.map (erS d E)))
     | _ :: _ => .bad
   | .FunctionDef .. => zyc (E.hkS s) λ q => .dfn q.1 q.2
   | _ => .bad
section
variable {G : Prop}
theorem zcd {T : Tbl} {r : R} {z : Nat} {Γ : zaw} {σ : zaf} {st : Store} {K : KV} {α : Type} {o : Option α} {f : α → PE} (h : evF T r z Γ σ (zm1 o f) st K) (k : ∀ a, o = some a → evF T r z Γ σ (f a) st K → G) : G := by
 cases o with
 | none => exact False.elim h
 | some a => exact k a rfl h
theorem zbz {T : Tbl} {r : R} {z : Nat} {Γ : zaw} {σ : zaf} {st : Store} {K : KV} {b : Bool} {e : PE} (h : evF T r z Γ σ (chk b e) st K) (k : b = true → evF T r z Γ σ e st K → G) : G := by
 cases b with
 | false => exact False.elim h
 | true => exact k rfl h
theorem zfz {T : Tbl} {r : R} {z : Nat} {Γ : zaw} {σ : zaf} {st : Store} {K : KX} {α : Type} {o : Option α} {f : α → PS} (h : zd9 T r z Γ σ (zyc o f) st K) (k : ∀ a, o = some a → zd9 T r z Γ σ (f a) st K → G) : G := by
 cases o with
 | none => exact False.elim h
 | some a => exact k a rfl h
theorem zhc {T : Tbl} {r : R} {z : Nat} {Γ : zaw} {σ : zaf} {st : Store} {K : KX} {b : Bool} {e : PS} (h : zd9 T r z Γ σ (zCu b e) st K) (k : b = true → zd9 T r z Γ σ e st K → G) : G := by
 cases b with
 | false => exact False.elim h
 | true => exact k rfl h
end
theorem zwl {T : Tbl} {n z : Nat} {Γ : zaw} {σ : zaf} {st : Store} {K : KV} {G : Prop} (h : (mk T n).ev z Γ σ .bad st K) : G := by
 cases n <;> exact False.elim h
theorem zqc {o : CmpOp} {op : CO} (h : zKg o = some op) : cop op = o := by
 cases o <;> first | exact nn h | (cases h; rfl)
theorem zvo {o : Operator} {op : BO} (h : zLz o = some op) : bop op = o := by
 cases o <;> first | exact nn h | (cases h; rfl)
theorem zJr {o : CmpOp} {b : Bool} (h : inI o = some b) : zxt b = o := by
 cases o <;> first | exact nn h | (cases h; rfl)
theorem znv {a b : Str} (h : zlx a = true) (hb : zlx b = false) : (a == b) = false := beq_eq_false_iff_ne.mpr λ e => by rw [e, hb] at h; exact nb h
theorem zew {a : Str} (h : zlx a = true) : (a == ("__debug__" : Str)) = false := znv h (by kernel_rfl)
theorem zp1 {a : Str} (h : zlx a = true) : (a == ("__classdict__" : Str)) = false := znv h (by kernel_rfl)
theorem zKq {a : Bool} (h : (!a) = true) : a = false := by cases a <;> first | rfl | exact nb h
theorem zpt {c : Const} {s : List Nat} (h : zMy c = some s) : c = .str (zam s) ∧ s.length ≤ 1000 := by
 cases c with
 | str => exact zgr h λ hb e => by subst e; exact ⟨rfl, blx hb⟩
 | _ => exact nn h
theorem zut {x : Expr} {s : List Nat} (h : zCk x = some s) : ∃ k p, x = .Constant (.str (zam s)) k p ∧ s.length ≤ 1000 := by
 unfold zCk at h
 cases e : vw x with
 | cst c =>
   rw [e] at h
   obtain ⟨k, p, q⟩ := zEd e
   exact ⟨k, p, (zpt h).1 ▸ q, (zpt h).2⟩
 | _ => rw [e] at h; exact nn h
end Mine
namespace Mine
open PySem
noncomputable def zyb {α : Type} (p : Nat → α → Bool) : Tr α → Bool
 | .nil => true
 | .node v l r => (match v with | some x => p 0 x | none => true) && (zyb (λ i => p (2 * i + 1)) l && zyb (λ i => p (2 * i + 2)) r)
theorem zfw {α : Type} : ∀ (T : Tr α) {p : Nat → α → Bool}, zyb p T = true → ∀ i v, T.get i = some v → p i v = true := by
 intro T
 induction T with
 | nil => exact λ _ i v h => nn h
 | node w l r ihl ihr =>
 intro p ha i v h
 cases i with
 | zero => cases h; exact zbf ha λ h _ => h
 | succ i =>
   refine zbf ha λ _ ha => zbf ha λ h1 h2 => ?_
   have h : (match Nat.beq (i % 2) 0 with | true => l.get (i / 2) | false => r.get (i / 2)) = some v := h
   have e := Nat.div_add_mod i 2
   cases hb : Nat.beq (i % 2) 0 with
   | true =>
     rw [hb] at h
     have q := ihl h1 _ _ h
     rw [ebx hb] at e
     rw [show 2 * (i / 2) + 1 = i + 1 from congrArg Nat.succ e] at q; exact q
   | false =>
     rw [hb] at h
     have q := ihr h2 _ _ h
     rw [(Nat.mod_two_eq_zero_or_one i).resolve_left (Nat.ne_of_beq_eq_false hb)] at e
     rw [show 2 * (i / 2) + 2 = i + 1 from congrArg Nat.succ e] at q; exact q
/-! a run in a small store, and the same run in a great one -/
noncomputable def mV (f : Nat → Nat) (v : AV) : AV := match v with
 | .ref i => .ref (f i)
 | .ext a => .ref a
 | v => v
noncomputable def mP {α : Type} (f : Nat → Nat) (p : α × AV) : α × AV := (p.1, mV f p.2)
noncomputable def mQ (f : Nat → Nat) (p : Nat × Nat) : Nat × Nat := (p.1, f p.2)
noncomputable def mO (f : Nat → Nat) (o : AO) : AO := match o with
 | .list xs => .list (xs.map (mV f))
 | .tup xs => .tup (xs.map (mV f))
 | .inst c d => .inst c (f d)
 | .fields es => .fields (es.map (mP f))
 | .dict es => .dict (es.map (mP f))
 | .cell v => .cell (v.map (mV f))
 | .fn k cl => .fn k (cl.map (mQ f))
 | .rng a s n => .rng a s n
 | .iset xs => .iset xs
noncomputable def mS (f : Nat → Nat) (s : Src) : Src := match s with
 | .lst i k => .lst (f i) k
 | .tps i k => .tps (f i) k
 | .keys i k n => .keys (f i) k n
 | s => s
noncomputable def mM (f : Nat → Nat) (m : MT) : MT := match m with
 | .fnm a v => .fnm a (mV f v)
 | .bim n v => .bim n (mV f v)
noncomputable def mF (f : Nat → Nat) (l : FL) : FL := match l with
 | .next => .next
 | .ret v => .ret (mV f v)
structure Em (f : Nat → Nat) (S0 : Store) (s S : Store) : Prop where
 get : ∀ i o, s.get i = some o → S.get (f i) = some (mO f o)
 new : ∀ k, f (s.n + k) = S.n + k
 inj : ∀ i j, f i = f j → i = j
 fr : ∀ j, (∀ i, f i ≠ j) → S.get j = S0.get j
def Zk (f : Nat → Nat) (z z' : Nat) : Prop := ∀ i, z ≤ i → z' ≤ f i
section
variable {f : Nat → Nat} {S0 s S s' : Store} {v a b : AV} {T : Tbl} {z z' : Nat}
theorem Em.add (M : Em f S0 s S) (o : AO) : Em f S0 (s.add o) (S.add (mO f o)) where
 get := λ i o' e => by
   rw [Store.get_add] at e ⊢
   by_cases q : i = s.n
   · rw [if_pos q] at e
     cases e
     rw [if_pos (q ▸ M.new 0)]
   · rw [if_neg q] at e
     rw [if_neg λ t => q (M.inj _ _ (t.trans (M.new 0).symm)), M.get _ _ e]
 new := λ k => by
   show f (s.n + 1 + k) = S.n + 1 + k
   rw [Nat.add_assoc, Nat.add_assoc]; exact M.new _
 inj := M.inj
 fr := λ j h => by
   rw [Store.get_add, if_neg λ t => h s.n ((M.new 0).trans t.symm), M.fr j h]
theorem Em.set (M : Em f S0 s S) (i : Nat) (o : AO) : Em f S0 (s.set i o) (S.set (f i) (mO f o)) where
 get := λ j o' e => by
   rw [Store.get_set] at e ⊢
   by_cases q : j = i
   · rw [if_pos q] at e
     cases e
     rw [if_pos (q ▸ rfl)]
   · rw [if_neg q] at e
     rw [if_neg λ t => q (M.inj _ _ t), M.get _ _ e]
 new := M.new
 inj := M.inj
 fr := λ j h => by
   rw [Store.get_set, if_neg λ t => h i t.symm, M.fr j h]
theorem Em.at0 (M : Em f S0 s S) : f s.n = S.n := M.new 0
theorem Em.at1 (M : Em f S0 s S) : f (s.n + 1) = S.n + 1 := M.new 1
theorem zh3 {i : Nat} (h : v.toR = some i) : (mV f v).toR = some (f i) := by
 cases v with
 | ref => cases h; rfl
 | _ => exact nn h
theorem zgc {i : Int} (h : v.toI = some i) : (mV f v).toI = some i := by
 cases v with
 | int => exact h
 | _ => exact nn h
theorem zoc {t : List Nat} (h : v.toS = some t) : (mV f v).toS = some t := by
 cases v with
 | str => exact h
 | _ => exact nn h
theorem zxe : (mV f v).isN = v.isN := by cases v <;> rfl
theorem zA2 (h : v.flat = true) : mV f v = v := by
 cases v with
 | ref => exact nb h
 | ext => exact nb h
 | _ => rfl
theorem zgi : ∀ {xs : List AV}, xs.all AV.flat = true → xs.map (mV f) = xs
 | [], _ => rfl
 | x :: xs, h => zbf h λ h1 h2 => by rw [List.map_cons, zA2 h1, zgi h2]
theorem zjs {q : Bool} (h : truthy v = some q) : truthy (mV f v) = some q := by
 cases v with
 | ref => exact nn h
 | ext => exact nn h
 | _ => exact h
theorem zH9 {α β : Type} (g : α → β) (x : Nat) : ∀ l : List (Nat × α), lk x (l.map λ p => (p.1, g p.2)) = (lk x l).map g
 | [] => rfl
 | p :: l => by
   show (match Nat.beq p.1 x with | true => some (g p.2) | false => lk x (l.map λ p => (p.1, g p.2))) = (match Nat.beq p.1 x with | true => some p.2 | false => lk x l).map g
   cases Nat.beq p.1 x with
   | true => rfl
   | false => exact zH9 g x l
theorem zAs {α β : Type} (g : α → β) (x : List Nat) : ∀ l : List (List Nat × α), lkS x (l.map λ p => (p.1, g p.2)) = (lkS x l).map g
 | [] => rfl
 | p :: l => by
   show (if p.1 = x then some (g p.2) else lkS x (l.map λ p => (p.1, g p.2))) = (if p.1 = x then some p.2 else lkS x l).map g
   by_cases q : p.1 = x
   · rw [if_pos q, if_pos q]; rfl
   · rw [if_neg q, if_neg q]; exact zAs g x l
theorem lkV {x : Nat} {σ : zaf} (h : lk x σ = some v) : lk x (σ.map (mP f)) = some (mV f v) := by
 rw [show σ.map (mP f) = σ.map λ p => (p.1, mV f p.2) from rfl, zH9, h]; rfl
theorem lkC {x i : Nat} {Γ : zaw} (h : lk x Γ = some i) : lk x (Γ.map (mQ f)) = some (f i) := by
 rw [show Γ.map (mQ f) = Γ.map λ p => (p.1, f p.2) from rfl, zH9, h]; rfl
theorem zqj {α β : Type} (g : α → β) : ∀ (l : List α) (i : Nat), nth (l.map g) i = (nth l i).map g
 | [], _ => rfl
 | x :: l, i => by
   show (match Nat.beq i 0 with | true => some (g x) | false => nth (l.map g) (i - 1)) = (match Nat.beq i 0 with | true => some x | false => nth l (i - 1)).map g
   cases Nat.beq i 0 with
   | true => rfl
   | false => exact zqj g l _
theorem zsp {α β : Type} (g : α → β) (l : List α) (k : Int) : zhf (l.map g) k = (zhf l k).map g := by
 unfold zhf
 rw [List.length_map]
 cases pix k l.length with
 | none => rfl
 | some j => exact zqj g l j
theorem Em.ls (M : Em f S0 s S) {i : Nat} {xs : List AV} (h : s.ls i = some xs) : S.ls (f i) = some (xs.map (mV f)) := zag h λ o ho h => by
 unfold Store.ls
 rw [M.get _ _ ho]
 cases o with
 | list => cases h; rfl
 | _ => exact nn h
theorem Em.tp (M : Em f S0 s S) {i : Nat} {xs : List AV} (h : s.tp i = some xs) : S.tp (f i) = some (xs.map (mV f)) := zag h λ o ho h => by
 unfold Store.tp
 rw [M.get _ _ ho]
 cases o with
 | tup => cases h; rfl
 | _ => exact nn h
theorem Em.dc (M : Em f S0 s S) {i : Nat} {es : List (List Nat × AV)} (h : s.dc i = some es) : S.dc (f i) = some (es.map (mP f)) := zag h λ o ho h => by
 unfold Store.dc
 rw [M.get _ _ ho]
 cases o with
 | dict => cases h; rfl
 | _ => exact nn h
theorem Em.cl (M : Em f S0 s S) {i : Nat} {o : Option AV} (h : s.cl i = some o) : S.cl (f i) = some (o.map (mV f)) := zag h λ o ho h => by
 unfold Store.cl
 rw [M.get _ _ ho]
 cases o with
 | cell => cases h; rfl
 | _ => exact nn h
theorem Em.fu (M : Em f S0 s S) {i : Nat} {q : Nat × zaw} (h : s.fu i = some q) : S.fu (f i) = some (q.1, q.2.map (mQ f)) := zag h λ o ho h => by
 unfold Store.fu
 rw [M.get _ _ ho]
 cases o with
 | fn => cases h; rfl
 | _ => exact nn h
theorem Em.ins (M : Em f S0 s S) {i : Nat} {q : Nat × Nat × List (Nat × AV)} (h : s.ins i = some q) : S.ins (f i) = some (q.1, f q.2.1, q.2.2.map (mP f)) := zag h λ p hp h => zag hp λ o ho hp => zbs h λ es he h => zag he λ o' ho' he => by
 unfold Store.ins
 rw [M.get _ _ ho]
 cases o with
 | inst c d =>
   cases hp
   show ((S.get (f d)).bind AO.toF).map _ = _
   rw [M.get _ _ ho']
   cases o' with
   | fields => cases he; subst h; rfl
   | _ => exact nn he
 | _ => exact nn hp
theorem zB5 (M : Em f S0 s S) {n : Nat} (h : zc6 s a n = some v) : zc6 S (mV f a) n = some (mV f v) := zag h λ i hi h => zag h λ p hp h => by
 unfold zc6
 rw [zh3 hi]
 show (S.ins (f i)).bind _ = _
 rw [M.ins hp]
 show (match okA p.1 n with | true => _ | false => _) = _
 cases ok : okA p.1 n with
 | false => rw [ok] at h; exact nn h
 | true => rw [ok] at h; exact lkV h
theorem zv9 (n : Nat) : ∀ es : List (Nat × AV), zxv n (mV f v) (es.map (mP f)) = (zxv n v es).map (mP f)
 | [] => rfl
 | (m, u) :: es => by
   show (if m = n then _ else _) = List.map (mP f) (if m = n then _ else _)
   by_cases e : m = n
   · rw [if_pos e, if_pos e]; rfl
   · rw [if_neg e, if_neg e]; exact congrArg _ (zv9 n es)
theorem zB3 (n : List Nat) : ∀ es : List (List Nat × AV), zlp n (mV f v) (es.map (mP f)) = (zlp n v es).map (mP f)
 | [] => rfl
 | (m, u) :: es => by
   show (if m = n then _ else _) = List.map (mP f) (if m = n then _ else _)
   by_cases e : m = n
   · rw [if_pos e, if_pos e]; rfl
   · rw [if_neg e, if_neg e]; exact congrArg _ (zB3 n es)
theorem zEe (M : Em f S0 s S) (zk : Zk f z z') {n : Nat} {G : Prop} (h : ztt z s a n v = some s') (k : ∀ S', ztt z' S (mV f a) n (mV f v) = some S' → Em f S0 s' S' → G) : G := zag h λ i hi h => zag h λ p hp h => zgr h λ hc e => zbf hc λ hc h3 => zbf hc λ h1 h2 => by
 subst e
 refine k _ ?_ (M.set p.2.1 _)
 unfold ztt
 rw [zh3 hi]
 show (S.ins (f i)).bind _ = _
 rw [M.ins hp]
 show cnd (Nat.ble z' (f p.2.1) && Nat.ble (p.2.2.map (mP f)).length 100 && okA p.1 n) _ = _
 rw [List.length_map, lbx (zk _ (blx h1)), h2, h3]
 exact congrArg (λ l => some (S.set (f p.2.1) (.fields l))) (zv9 n _)
theorem zHl {o : AO} {xs : List AV} (h : o.toLT = some xs) : (mO f o).toLT = some (xs.map (mV f)) := by
 cases o with
 | list => cases h; rfl
 | tup => cases h; rfl
 | _ => exact nn h
structure TFlat (T : Tbl) : Prop where
 tup : ∀ a xs, T.tup.get a = some xs → xs.all AV.flat = true
 dfl : ∀ a fd, T.fn.get a = some fd → fd.dfl.all AV.flat = true
theorem zh9 (M : Em f S0 s S) (F : TFlat T) {xs : List AV} (h : zb1 T s a = some xs) : zb1 T S (mV f a) = some (xs.map (mV f)) := by
 cases a with
 | ref i =>
   refine zag h λ o ho h => ?_
   show (S.get (f i)).bind AO.toLT = _
   rw [M.get _ _ ho]; exact zHl h
 | old t => rw [zgi (F.tup _ _ h)]; exact h
 | _ => exact nn h
theorem zEf (M : Em f S0 s S) (F : TFlat T) (h : zem T s a b = some v) : zem T S (mV f a) (mV f b) = some (mV f v) := by
 cases b with
 | int k =>
   cases a with
   | str x => exact zbs h λ c hc h => by subst h; exact congrArg (λ o => o.map λ c => AV.str [c]) hc
   | ref i =>
     refine zag h λ xs hx h => ?_
     show (zb1 T S (mV f (.ref i))).bind _ = _
     rw [zh9 M F hx]
     exact (zsp _ _ _).trans (by rw [h]; rfl)
   | old t =>
     refine zag h λ xs hx h => ?_
     show (zb1 T S (mV f (.old t))).bind _ = _
     rw [zh9 M F hx]
     exact (zsp _ _ _).trans (by rw [h]; rfl)
   | _ => exact nn h
 | str x =>
   refine zag h λ j hj h => zag h λ es he h => ?_
   show ((mV f a).toR).bind _ = _
   rw [zh3 hj]
   show (S.dc (f j)).bind _ = _
   rw [M.dc he]
   exact (zAs _ _ _).trans (by rw [h]; rfl)
 | _ => exact nn h
theorem zEj (M : Em f S0 s S) (zk : Zk f z z') {i : AV} {G : Prop} (h : zos z s a i v = some s') (k : ∀ S', zos z' S (mV f a) (mV f i) (mV f v) = some S' → Em f S0 s' S' → G) : G := zag h λ j hj h => by
 cases i with
 | int n =>
   refine zag h λ xs hx h => zag h λ p hp h => zgr h λ hc e => ?_
   subst e
   refine k _ ?_ (M.set j _)
   unfold zos
   rw [zh3 hj]
   show (S.ls (f j)).bind _ = _
   rw [M.ls hx]
   show (pix n (xs.map (mV f)).length).bind _ = _
   rw [List.length_map, hp]
   show cnd (Nat.ble z' (f j)) _ = _
   rw [lbx (zk _ (blx hc)), ← List.map_set]; rfl
 | str n =>
   refine zag h λ es hx h => zgr h λ hc e => zbf hc λ h1 h2 => ?_
   subst e
   refine k _ ?_ (M.set j _)
   unfold zos
   rw [zh3 hj]
   show (S.dc (f j)).bind _ = _
   rw [M.dc hx]
   show cnd (Nat.ble z' (f j) && Nat.ble (es.map (mP f)).length 100) _ = _
   rw [List.length_map, lbx (zk _ (blx h1)), h2]
   exact congrArg (λ l => some (S.set (f j) (.dict l))) (zB3 n _)
 | _ => exact nn h
end
end Mine
namespace Mine
open PySem PySem.W PySem.Calls PyProof.Rows PySem.Spec
noncomputable def kaL : List Nat := [3, 191, 190, 492, 491, 1144, 1143, 1172, 1171, 1366, 1365, 1447, 1446, 1636, 1635, 1284, 1283, 1088, 1087, 1116, 1115, 1200, 1199, 1228, 1227, 28, 35, 42, 49, 56, 84, 202, 238, 276, 283, 290, 297, 304, 311, 318, 339, 506, 513, 521, 535, 612, 619, 626, 633, 640, 655, 662, 791, 895, 902, 909, 916, 1327, 1348, 1377, 1384, 1398, 1405, 1412, 1417, 1424, 1429, 1647, 1654, 1661, 1668, 1673, 1678, 1683, 1688, 1695, 167, 181, 353, 360, 374, 381, 388, 409, 416, 421, 426, 433, 454, 1134, 1141, 1162, 1169, 1363, 1444, 1465, 1472, 1479, 1486, 1493, 1500, 1507, 1514, 1521, 1528, 1542, 1556, 1563, 1570, 1577, 1584, 1591, 1598, 1605, 1612, 514, 160, 1356, 887, 883, 497, 885, 888, 884, 882, 498, 1430, 886]
noncomputable def kbL : List Nat := [1, 23, 1670, 1680, 27, 1672, 1682, 34, 41, 48, 55, 83, 201, 237, 275, 282, 289, 296, 303, 310, 317, 338, 505, 512, 520, 534, 611, 618, 625, 632, 639, 654, 661, 790, 894, 901, 908, 915, 1326, 1347, 1376, 1383, 1397, 1404, 1411, 1416, 1423, 1428, 1646, 1653, 1660, 1667, 1677, 1687, 1694, 166, 180, 352, 359, 373, 380, 387, 408, 415, 420, 425, 432, 453, 1133, 1140, 1161, 1168, 1362, 1443, 1464, 1471, 1478, 1485, 1492, 1499, 1506, 1513, 1520, 1527, 1541, 1555, 1562, 1569, 1576, 1583, 1590, 1597, 1604, 1611]
noncomputable def lcL : List (Nat × Nat × Nat) := [(28, 2, 0), (35, 3, 0), (42, 5, 0), (49, 6, 0), (56, 7, 0), (84, 11, 0), (202, 23, 0), (238, 29, 0), (276, 37, 0), (283, 38, 0), (290, 39, 0), (297, 40, 0), (304, 41, 0), (311, 42, 0), (318, 43, 0), (339, 49, 0), (506, 59, 0), (513, 60, 0), (521, 62, 0), (535, 64, 0), (612, 75, 0), (619, 76, 0), (626, 77, 0), (633, 78, 0), (640, 79, 0), (655, 82, 0), (662, 83, 0), (791, 105, 0), (895, 130, 0), (902, 131, 0), (909, 132, 0), (916, 133, 0), (1327, 176, 0), (1348, 179, 0), (1377, 182, 0), (1384, 184, 0), (1398, 186, 0), (1405, 188, 0), (1412, 189, 0), (1417, 190, 0), (1424, 191, 0), (1429, 192, 0), (1647, 199, 0), (1654, 200, 0), (1661, 201, 0), (1668, 202, 0), (1673, 203, 0), (1678, 204, 0), (1683, 205, 0), (1688, 206, 0), (1695, 207, 0), (167, 20, 1), (181, 20, 3), (353, 50, 1), (360, 50, 2), (374, 50, 4), (381, 50, 5), (388, 50, 6), (409, 50, 9), (416, 50, 10), (421, 50, 11), (426, 50, 12), (433, 50, 13), (454, 50, 16), (1134, 163, 1), (1141, 163, 2), (1162, 164, 1), (1169, 164, 2), (1363, 181, 1), (1444, 195, 1), (1465, 196, 1), (1472, 196, 2), (1479, 196, 3), (1486, 196, 4), (1493, 196, 5), (1500, 196, 6), (1507, 196, 7), (1514, 196, 8), (1521, 196, 9), (1528, 196, 10), (1542, 196, 12), (1556, 196, 14), (1563, 196, 15), (1570, 196, 16), (1577, 196, 17), (1584, 196, 18), (1591, 196, 19), (1598, 196, 20), (1605, 196, 21), (1612, 196, 22)]
noncomputable def tabL : List (Nat × Nat) := [(27, 23), (1672, 1670), (1682, 1680)]
noncomputable def spL : List (Nat × Nat × List Nat) := [(28, 27, [108, 105, 107, 101, 95, 110, 111, 100, 101]), (1673, 1672, [95, 108, 97, 119, 95, 99, 111, 117, 110, 116, 101, 100, 95, 114, 105, 103, 104, 116]), (1683, 1682, [95, 108, 97, 119, 95, 115, 111, 114, 116, 101, 100, 95, 114, 105, 103, 104, 116])]
noncomputable def zt8 (g : Nat → Option Obj) (ka : List Nat) : Frag := ka.filterMap λ a => match g a with | some o => some (a, o) | none => none
theorem zl9 {g : Nat → Option Obj} {ka : List Nat} {a : Addr} {o : Obj} (e : (zt8 g ka).lookup a = some o) : a ∈ ka ∧ g a = some o := by
 unfold zt8 at e
 induction ka with
 | nil => cases e
 | cons b r ih =>
   rw [List.filterMap_cons] at e
   cases hb : g b with
   | none => rw [hb] at e; exact ⟨.tail _ (ih e).1, (ih e).2⟩
   | some o' =>
     rw [hb] at e
     change List.lookup a ((b, o') :: _) = some o at e
     rw [List.lookup_cons] at e
     cases q : a == b with
     | true => rw [q] at e; cases e; rw [beq_iff_eq.mp q]; exact ⟨.head _, hb⟩
     | false => rw [q] at e; exact ⟨.tail _ (ih e).1, (ih e).2⟩
noncomputable def zKh (x : AV) (u : Value) : Bool := match x with
 | .none => (match u with | .none => true | _ => false)
 | .bool b => (match u with | .bool c => decide (b = c) | _ => false)
 | .int i => (match u with | .int j _ => decide (i = j) | _ => false)
 | .str s => (match u with | .str t _ => decide (t.cps.toList = s) && Nat.ble s.length 1000 | _ => false)
 | .old a => (match u with | .ref b => Nat.beq a b | _ => false)
 | _ => false
theorem zve {x : AV} {u : Value} (h : zKh x u = true) : VR [] x u := by
 cases x with
 | none => cases u <;> first | exact .none | exact nb h
 | bool b => cases u <;> first | exact nb h | (rename_i c; rw [of_decide_eq_true h]; exact .bool _)
 | int i => cases u <;> first | exact nb h | (rename_i c _; rw [of_decide_eq_true h]; exact .int _ _)
 | str s => cases u <;> first | exact nb h | (rename_i t k; refine zbf h λ h1 h2 => ?_; cases of_decide_eq_true h1; exact .str _ _ (blx h2))
 | old a => cases u <;> first | exact nb h | (rename_i b; rw [ebx h]; exact .old _)
 | _ => exact nb h
noncomputable def zvj : List AV → List Value → Bool
 | [], [] => true
 | x :: xs, u :: us => zKh x u && zvj xs us
 | _, _ => false
theorem zmf : ∀ {xs : List AV} {us : List Value}, zvj xs us = true → VRs [] xs us
 | [], [], _ => .nil
 | x :: xs, u :: us, h => by
   have h : (zKh x u && zvj xs us) = true := h
   rw [Bool.and_eq_true] at h
   exact .cons (zve h.1) (zmf h.2)
 | [], _ :: _, h => nomatch h
 | _ :: _, [], h => nomatch h
noncomputable def lkK (a : Nat) : Frag → Option Obj
 | [] => none
 | p :: r => match Nat.beq p.1 a with
   | true => some p.2
   | false => lkK a r
theorem zlr (a : Nat) : ∀ K : Frag, lkK a K = K.lookup a
 | [] => rfl
 | p :: r => by
   rw [lkK, List.lookup_cons, zlr a r]
   cases h : Nat.beq p.1 a with
   | true => rw [ebx h, beq_self_eq_true]
   | false => rw [beq_eq_false_iff_ne.mpr (Ne.symm (Nat.ne_of_beq_eq_false h))]
noncomputable def zuz (K : Frag) (cd : Value) (q : Str) : Bool := match cd with
 | .ref c => (match lkK c K with
     | some ⟨_, _, .fields vs, _⟩ => (match vs.toList with | _ :: .str n _ :: _ => Fast.sEq n q | _ => false)
     | _ => false)
 | _ => false
theorem zzr {K : Frag} {cd : Value} {q : Str} (h : zuz K cd q = true) : codeIn K cd q = true := by
 unfold zuz at h
 unfold codeIn
 split at h
 · rename_i c
   rw [zlr] at h
   show (match K.lookup c with | some ⟨_, _, .fields vs, _⟩ => (match vs.toList with | _ :: .str n _ :: _ => n == q | _ => false) | _ => false) = true
   split at h
   · rename_i e
     rw [e]
     dsimp only
     split at h
     · rename_i e2
       exact beq_iff_eq.mpr (Fast.sEq_iff.mp h)
     · cases h
   · cases h
 · cases h
noncomputable def zsg (K : Frag) (a : Nat) : Bool := match lkK a K with
 | some o => (match o.cls with | .type n => n == "function" | _ => false)
 | none => false
theorem zph {K : Frag} {a : Nat} (h : zsg K a = true) : typeIn K (.ref a) = some (.type "function") := by
 unfold zsg at h
 rw [zlr] at h
 show (K.lookup a).map (·.cls) = _
 split at h
 · rename_i o e
   rw [e]
   split at h
   · rename_i n e2
     rw [Option.map_some, e2, beq_iff_eq.mp h]
   · cases h
 · cases h
section
variable (T : Tbl) (K : Frag)
noncomputable def zN1 (a : Nat) (cd : CD) : Bool :=
 ((okF a).all λ n => (match findIn K (.ref a) (nm n) with | some r => noGet K r | none => false) && (match takerIn K a (nm n) with | some none => true | _ => false)) &&
 (plainGet K a "" && hasDictIn K a && (findIn K (.ref a) "__setattr__" == some (some (.builtin "object.__setattr__"))) && plainOver K a) &&
 (cd.meths.all λ p => (findIn K (.ref a) (nm p.1) == some (some (.ref p.2))) && zsg K p.2) && keepIn K (.ref a) &&
 (match cd.init with
   | some i => makesIn K a && (findIn K (.ref a) "__init__" == some (some (.ref i))) && zsg K i && (T.fn.get i).isSome
   | none => true)
noncomputable def zKn (dfl : List AV) (v : Value) : Bool := match v with
 | .none => dfl.isEmpty
 | .ref d => (match lkK d K with | some ⟨_, _, .seq xs _, _⟩ => zvj dfl xs.toList | _ => false)
 | _ => false
noncomputable def fnB (Kc : Frag) (sp : List (Nat × Nat × List Nat)) (a : Nat) (fd : FD) : Bool := match lkK a K with
 | some ⟨_, _, .func m, _⟩ => (m.globals == mainGlobals) && m.closure.isEmpty && (m.builtins == builtinsNs) && zuz Kc m.code m.qualname && zKn K fd.dfl m.defaults &&
     (match sp.lookup a with | some c => m.code == .ref c.1 && decide (m.qualname.cps.toList = c.2) | none => true)
 | _ => false
noncomputable def zNv (a : Nat) (xs : List AV) : Bool := Nat.ble xs.length 1001 && (match K.lookup a with
 | some ⟨c, _, .seq us _, _⟩ => (c == .type "tuple") && zvj xs us.toList
 | _ => false)
noncomputable def zNk (l : List Nat) : Bool := (l.all λ a => plainGet K a "__class__" && hasDictIn K a && (findIn K (.ref a) "__class__" == some (some (.builtin "object.__class__"))) &&
   (specialIn K (.builtin "object.__class__") "__get__" == some (some (.builtin "getset_descriptor.__get__"))) && (takesIn K (.builtin "object.__class__") == some true) && (mroIn K a (.type "object") == some true)) &&
 (l.all λ a => l.all λ b => kitOne K (.ref a) (.ref b) == some (Nat.beq a b))
noncomputable def zLn (K2 : Frag) (q : Nat × Nat) : Bool := codeHdIn K2 q.1 q.2 && (match K2.lookup q.2 with
 | some ⟨.none, none, .fields vs, sl⟩ => vs.isEmpty && sl.isEmpty
 | _ => false)
noncomputable def zNq (gO gB : List (Nat × AV)) (mg : Str → Option Value) : Bool := (gO.all λ p => match mg (nm p.1) with | some u => zKh p.2 u | none => false) && (gB.all λ p => (mg (nm p.1)).isNone)
end
noncomputable def nsK (K : Frag) (a : Addr) : Bool := match K.lookup a with
 | some o => (match o.data with | .dict es _ => es.all (λ e => match e.key with | .str _ _ => true | _ => false) | _ => false)
 | none => false
noncomputable def nsQ (name : Str) : List DictEntry → Option Value
 | [] => none
 | e :: r => match (match e.key with | .str s _ => Fast.sEq s name | _ => false) with
   | true => some e.val
   | false => nsQ name r
theorem zxy (v : Value) (name : Str) : v.isStr name = (match v with | .str s _ => Fast.sEq s name | _ => false) := by
 cases v with
 | str s t =>
   show (s == name) = Fast.sEq s name
   cases h : Fast.sEq s name with
   | true => rw [Fast.sEq_iff.mp h, beq_self_eq_true]
   | false => exact beq_eq_false_iff_ne.mpr λ e => by rw [Fast.sEq_iff.mpr e] at h; cases h
 | _ => rfl
noncomputable def mgK (K : Frag) (a : Addr) (name : Str) : Option Value := match K.lookup a with
 | some o => (match o.data with | .dict es _ => nsQ name es.toList | _ => none)
 | none => none
noncomputable def HB (T : Tbl) (gO gB : List (Nat × AV)) (tl : List (Nat × Nat)) (sp : List (Nat × Nat × List Nat)) (K K2 : Frag) : Bool :=
 nsK K mainGlobals && zNq gO gB (mgK K mainGlobals) && (K2.lookup sysModules).isSome && zyb (zN1 T K) T.cls && zyb (fnB K K2 sp) T.fn && zyb (zNv K) T.tup && zNk K T.isi && (tl.all λ q => zLn K2 q)
noncomputable def zKr (K : Frag) (lc : List (Nat × Nat × Nat)) : List (Option (Arguments × FuncBody × Scope)) := lc.map λ p => match lkK p.1 K with
 | some ⟨_, _, .func m, _⟩ => some (m.params, m.body, m.scope)
 | _ => none
noncomputable def fdv (s : Stmt) : Option (Str × Arguments × List Stmt × Scope × Pos) := match s with
 | .FunctionDef n a b _ _ _ sc _ _ p => some (n, a, b, sc, p)
 | _ => none
noncomputable def clv (s : Stmt) : List Stmt := match s with
 | .ClassDef _ _ _ b _ _ _ _ _ _ _ => b
 | _ => []
noncomputable def zOf (s : Stmt) (j : Nat) : Option (Str × Arguments × List Stmt × Scope × Pos) := match j with
 | 0 => fdv s
 | j + 1 => ((clv s)[j]?).bind fdv
noncomputable def ztj (i j : Nat) : Option (Arguments × List Stmt × Scope) := (PySem.Challenge.pw_sm0081_01.main.body[i]?).bind λ s => (zOf s j).map λ q => (q.2.1, q.2.2.1, q.2.2.2.1)
noncomputable def zMk (ps : List Nat) (a : Arguments) : Bool := a.posonlyargs.isEmpty && a.kwonlyargs.isEmpty && a.vararg.isNone && a.kwarg.isNone && zGx (λ p x => sB (nm p) x) ps (a.args.map (·.arg)) && decide ps.Nodup
noncomputable def zEk (sc : Scope) : Bool := !sc.isCoroutine && !sc.isGenerator && decide (sc.kind = .function)
noncomputable def zKa (fd : FD) (a : Arguments) (sc : Scope) : Bool := zEk sc && zMk fd.ps a && Nat.ble fd.dfl.length fd.ps.length && decide fd.cel.Nodup &&
 (fd.cel.all λ p => isK .cell (lkN (nm p) sc.names)) && (fd.ps.all λ p => isK .local (lkN (nm p) sc.names) || fd.cel.contains p)
noncomputable def stB (a : Nat) (fd : FD) : Bool := match lcL.lookup a with
 | some p => (ztj p.1 p.2).any λ q => zKa fd q.1 q.2.2
 | none => false
theorem zF7 : zyb stB tbl.fn = true := by kernel_rfl
theorem zyn : (kaL.all λ a => tabL.all λ q => !Nat.beq a q.2) = true := by kernel_rfl
theorem zx9 : (tabL.all λ q => Nat.blt 3 q.2) = true := by kernel_rfl
noncomputable def hE (a : Nat) : Option Nat := match Nat.beq a 1673 with | true => some 1 | false => none
noncomputable def hS (a : Nat) : Option (Nat × Nat) := match Nat.beq a 28 with
 | true => some (zbx, 0)
 | false => match Nat.beq a 1683 with | true => some (zak, 2) | false => none
theorem zN5 : (lcL.map λ p => (tbl.fn.get p.1).map λ fd => fd.body) = lcL.map λ p => (ztj p.2.1 p.2.2).bind λ q => (tbl.fn.get p.1).map λ fd => q.2.1.map (erS 20 ⟨q.2.2, fd.cel, λ _ => hE p.1, λ _ => hS p.1⟩) := by kernel_rfl
end Mine
namespace Mine
open PySem PySem.W
noncomputable def gT (s : SharedT) (a : Nat) : Option Obj := match Nat.blt a s.n with
 | true => (match s.tree.get a with | some o => alive o | none => none)
 | false => none
noncomputable def endsK (p : Program) (T : Tbl) (gO gB : List (Nat × AV)) (ka kb : List Nat) (tl : List (Nat × Nat)) (sp : List (Nat × Nat × List Nat)) (lc : List (Nat × Nat × Nat)) (s0 : SharedT) (w : World) :=
 (zGr treeTable p w 11 (some (.ref 6)) 10700 s0 (topStub p)).map λ s => (HB T gO gB tl sp (zt8 (gT s) ka) (zt8 (gT s) kb), zKr (zt8 (gT s) ka) lc)
noncomputable def exL : List (Option (Arguments × FuncBody × Scope)) := lcL.map λ p => (ztj p.2.1 p.2.2).map λ q => (q.1, FuncBody.stmts q.2.1, q.2.2)
end Mine
lay_quick Mine.endsK
set_option maxHeartbeats 0 in
open PySem PySem.W in
theorem Mine.tK : ∀ w os, PySem.W.Fast.tw1762391035876812901 PySem.Challenge.pw_sm0081_01 Mine.tbl Mine.glO Mine.glB Mine.kaL Mine.kbL Mine.tabL Mine.spL Mine.lcL (Mine.S0 w os) w = some (true, Mine.exL) := λ w os => by kernel_rfl
namespace Mine
open PySem PySem.W PySem.Calls PyProof.Rows
theorem zwh {tb : String → Option Builtin} {p : Program} {w : World} {n₀ : Nat} {ann : Option Value} : ∀ (n : Nat) (s : SharedT) (t : Thread) (s' : SharedT), zGr tb p w n₀ ann n s t = some s' → topRun tb p w n₀ ann n s.abs t = some s'.abs := by
 intro n
 induction n with
 | zero => exact λ _ _ _ h => nomatch h
 | succ n ih =>
   intro s t s' h
   unfold zGr at h
   unfold topRun
   cases ht : through t with
   | true => rw [ht] at h; cases h; rfl
   | false =>
     rw [ht] at h
     cases hk : stepOk n₀ ann t with
     | false => rw [hk] at h; cases h
     | true =>
       rw [hk] at h
       cases hs : stepT (denote tb) p w s t with
       | none => rw [hs] at h; cases h
       | some r =>
         obtain ⟨s1, t1⟩ := r
         rw [hs] at h
         rw [stepT_spec hs]
         exact ih s1 t1 s' h
theorem zJy (w : World) (os : OsState) : (S0 w os).abs = ⟨boot_heap w.params, Array.mk [], boot_drawn, boot_toks, os⟩ := by kernel_rfl
theorem zxj (w : World) : ((boot_heap w.params).isNs mainGlobals, (boot_heap w.params).objs.size, (boot_heap w.params).nsMap mainGlobals "__annotations__") = (true, 11, some (.ref 6)) := by kernel_rfl
theorem zFj : opening Challenge.pw_sm0081_01 = plainProg Challenge.pw_sm0081_01.main.scope.names := by kernel_rfl
theorem zyl : ∀ s, fenceModules? Challenge.pw_sm0081_01 s = some s := λ s => by kernel_rfl
theorem zs0 {p : Program} {w : World} {N : Nat} {s₀ s₁ : Shared} {n₀ : Nat} {ann : Option Value} (h1 : (s₀.heap.isNs mainGlobals && s₀.gens.size == 0) = true) (h2 : s₀.heap.objs.size = n₀) (h3 : s₀.heap.nsMap mainGlobals "__annotations__" = ann)
   (r : topRun treeTable p w n₀ ann N s₀ (topStub p) = some s₁) (l : (staticsOk (importedModules p.main.body) s₀.heap s₁.heap && namesBound p s₁.heap && gensDone s₁ && laidKept s₀.heap s₁.heap) = true) : topFrom treeTable p w N s₀ = some s₁ := by
 subst h2 h3
 unfold topFrom
 rw [h1]
 show (topRun treeTable p w _ _ N s₀ (topStub p)).bind _ = _
 rw [r]
 show (match staticsOk (importedModules p.main.body) s₀.heap s₁.heap && namesBound p s₁.heap && gensDone s₁ && laidKept s₀.heap s₁.heap with | true => _ | false => _) = _
 rw [l]
theorem zBx {s : SharedT} {a : Nat} {o : Obj} (h : gT s a = some o) : s.abs.heap.get? a = some o := by
 unfold gT at h
 cases e : Nat.blt a s.n with
 | false => rw [e] at h; cases h
 | true =>
   rw [e] at h
   cases g : s.tree.get a with
   | none => rw [g] at h; cases h
   | some o' =>
     rw [g] at h
     exact (abs_get (blx e) g).trans h
def zL3 (T : Tbl) (gO gB : List (Nat × AV)) (ka kb : List Nat) (tl : List (Nat × Nat)) (sp : List (Nat × Nat × List Nat)) (lc : List (Nat × Nat × Nat)) (ex : List (Option (Arguments × FuncBody × Scope))) (s : Shared) : Prop :=
 ∃ K K2 : Frag, K.In s.heap ∧ K2.In s.heap ∧ (∀ a o, K.lookup a = some o → a ∈ ka) ∧ HB T gO gB tl sp K K2 = true ∧ zKr K lc = ex
theorem zAu {p q : Program} {loose : List Str} {T : Tbl} {gO gB : List (Nat × AV)} {ka kb : List Nat} {tl : List (Nat × Nat)} {sp : List (Nat × Nat × List Nat)} {lc : List (Nat × Nat × Nat)} {ex : List (Option (Arguments × FuncBody × Scope))} {H : Params → Heap} {S : World → OsState → SharedT}
   (ht : ∀ w os, endsF p q loose (H w.params) (S w os) w = goodF q loose) (hk : ∀ w os, endsK p T gO gB ka kb tl sp lc (S w os) w = some (true, ex)) (hS : ∀ w os, (S w os).abs = ⟨H w.params, Array.mk [], boot_drawn, boot_toks, os⟩)
   (ho : ∀ w : World, (fencedOpening treeTable p w 10700).map (λ s => (s.heap, s.gens, s.drawn, s.toks)) = some (H w.params, Array.mk [], boot_drawn, boot_toks))
   (hz : ∀ w : World, ((H w.params).isNs mainGlobals, (H w.params).objs.size, (H w.params).nsMap mainGlobals "__annotations__") = (true, 11, some (.ref 6))) :
   LeftO p q loose (λ _ => true) (zL3 T gO gB ka kb tl sp lc ex) (λ _ => True) 10700 true := λ w => by
 obtain ⟨⟨h, gs, d, k, os⟩, e, e'⟩ := Option.map_eq_some_iff.mp (ho w)
 obtain ⟨rfl, rfl, rfl, rfl⟩ : h = H w.params ∧ gs = Array.mk [] ∧ d = boot_drawn ∧ k = boot_toks := by simpa using e'
 have T := ht w os
 unfold endsF goodF at T
 obtain ⟨s, r, f⟩ := Option.map_eq_some_iff.mp T
 have T2 := hk w os
 unfold endsK at T2
 rw [r] at T2
 have T2 := Option.some.inj T2
 have r := zwh _ _ _ _ r
 rw [hS] at r
 obtain ⟨z1, z2, z3⟩ : _ ∧ _ ∧ _ := by simpa only [Prod.mk.injEq] using hz w
 obtain ⟨f1, f2⟩ : _ ∧ _ := by simpa only [Prod.mk.injEq] using f
 obtain ⟨f3, f4⟩ : _ ∧ _ := by simpa only [Prod.mk.injEq] using T2
 have tf := zs0 (s₀ := ⟨H w.params, Array.mk [], boot_drawn, boot_toks, os⟩) (by rw [z1]; rfl) z2 z3 r f1
 unfold openEnds
 rw [e]
 show (topFrom treeTable p w 10700 _).map _ = _
 rw [tf]
 exact congrArg some (Prod.ext f2 (eq_true ⟨_, _, λ a o h => zBx (zl9 h).2, λ a o h => zBx (zl9 h).2, λ a o h => (zl9 h).1, f3, f4⟩))
theorem tF2 (w : World) (os : OsState) : endsF Challenge.pw_sm0081_01 (lawQ Challenge.pw_sm0081_01) (looseQ Challenge.pw_sm0081_01) (boot_heap w.params) (S0 w os) w = goodF (lawQ Challenge.pw_sm0081_01) (looseQ Challenge.pw_sm0081_01) := by
 rw [Fast.te10665225906399359561]
 exact tF w os
theorem tK2 (w : World) (os : OsState) : endsK Challenge.pw_sm0081_01 tbl glO glB kaL kbL tabL spL lcL (S0 w os) w = some (true, exL) := by
 rw [Fast.te1762391035876812901]
 exact tK w os
theorem zOu : LeftO Challenge.pw_sm0081_01 (lawQ Challenge.pw_sm0081_01) (looseQ Challenge.pw_sm0081_01) (λ _ => true) (zL3 tbl glO glB kaL kbL tabL spL lcL exL) (λ _ => True) 10700 true :=
 zAu tF2 tK2 zJy (boot_open zFj (by decide) zyl) zxj
end Mine
open PySem PySem.W PyProof.Rows
set_option maxHeartbeats 0
namespace Mine
theorem wsA : Fast.tw17119622794617984870 Challenge.rw_sm0081_01.row.prog Challenge.rw_sm0081_01.row.prog.main.body (λ _ n => Fast.tw17868728402115742887 n) = true := by kernel_rfl
theorem wsB : Fast.tw8377067652309620493 Challenge.rw_sm0081_01.row.prog = true := by kernel_rfl
theorem wsD : Fast.tw12908688711261696721 Challenge.rw_sm0081_01.row.prog = true := by
 unfold Fast.tw12908688711261696721
 rw [wsA, wsB]
 kernel_rfl
theorem zKx : Fast.tw17960256430627541270 Challenge.rw_sm0081_01.row = true := by
 unfold Fast.tw17960256430627541270 Fast.tw2436336058641802641
 rw [wsD]
 kernel_rfl
end Mine
open PySem PySem.W PyProof.Rows
set_option maxHeartbeats 0
namespace Mine
theorem wsR : Challenge.rw_sm0081_01.row.wellSaid = true := by rw [Fast.te17960256430627541270]; exact zKx
theorem zCy {p : Program} {ss : List Stmt} {f : Scope → Str → Bool} (h : Fast.tw17119622794617984870 p ss f = true) : namesMeet p ss f = true := by rw [Fast.te17119622794617984870]; exact h
theorem zMs (c : _) (ss : List Stmt) (h : Fast.tw8326940854005059898 c ss = true) : noRoadLSs c ss = true := by rw [Fast.te8326940854005059898]; exact h
theorem zM5 {p : Program} {ss : List Stmt} (h : Fast.tw8179353310426384613 p ss = true) : noClassBlock p ss = true := by rw [Fast.te8179353310426384613]; exact h
theorem zLc {a : List Str} {ss : List Stmt} (h : Fast.tw9558739934217749035 a ss = true) : defStands a ss = true := by rw [Fast.te9558739934217749035]; exact h
theorem zKy {l : OpenLaw} (h : Fast.tw16286561074155671207 l = true) : l.namesIt = true := by rw [Fast.te16286561074155671207]; exact h
theorem zNc {ss : List Stmt} (h : ss.all Fast.tw10501279942588096481 = true) : ss.all footLine = true := by rw [Fast.te10501279942588096481]; exact h
theorem b2 : decide (Challenge.rw_sm0081_01.foot ≤ (behindTheImports Challenge.rw_sm0081_01.prog).length) = true := by kernel_rfl
theorem b14 : Fast.tw17119622794617984870 Challenge.rw_sm0081_01.prog Challenge.rw_sm0081_01.above (λ _ n => !Challenge.rw_sm0081_01.own.contains n) = true := by kernel_rfl
theorem b16 : (Challenge.rw_sm0081_01.own.eraseDups.length == Challenge.rw_sm0081_01.own.length) = true := by kernel_rfl
theorem b15 : Challenge.rw_sm0081_01.own.contains Challenge.rw_sm0081_01.name = true := by kernel_rfl
theorem b17 : Challenge.rw_sm0081_01.own.all (λ n => !builtinNamed n) = true := by rw [Fast.named_eq]; kernel_rfl
theorem b13 : (Challenge.rw_sm0081_01.prog.main.body.flatMap importedNames).all (λ n => !Challenge.rw_sm0081_01.reads n || (drawsOf n Challenge.rw_sm0081_01.prog.main.body).all λ mn => mn.2 != ("attrgetter" : Str) && mn.2 != ("methodcaller" : Str)) = true := by kernel_rfl
theorem b10 : (["type", "isinstance", "issubclass", "getattr", "hasattr"] : List Str).all (λ n => Challenge.rw_sm0081_01.about != [n]) = true := by kernel_rfl
end Mine
open PySem PySem.W PyProof.Rows
set_option maxHeartbeats 0
namespace Mine
theorem b11 : Challenge.rw_sm0081_01.bound'.all (λ n => !builtinNamed n || Challenge.rw_sm0081_01.about == [n] || !Challenge.rw_sm0081_01.reads n) = true := by rw [Fast.named_eq]; kernel_rfl
end Mine
open PySem PySem.W PyProof.Rows
set_option maxHeartbeats 0
namespace Mine
theorem b3 : Challenge.rw_sm0081_01.footing.all footLine = true := zNc (by kernel_rfl)
theorem b4 : noClassBlock Challenge.rw_sm0081_01.prog Challenge.rw_sm0081_01.footing = true := zM5 (by kernel_rfl)
theorem b7 : noRoadLSs { strict := true, foot := some Challenge.rw_sm0081_01.bound', writes := Challenge.rw_sm0081_01.writes, may := Challenge.rw_sm0081_01.may } Challenge.rw_sm0081_01.footing = true := zMs _ _ (by kernel_rfl)
theorem b8 : defStands Challenge.rw_sm0081_01.about Challenge.rw_sm0081_01.above = true := zLc (by kernel_rfl)
theorem b9 : Challenge.rw_sm0081_01.namesIt = true := zKy (by kernel_rfl)
theorem b18 : namesMeet Challenge.rw_sm0081_01.prog Challenge.rw_sm0081_01.above (λ _ n => !Challenge.rw_sm0081_01.own.contains n) = true := zCy b14
theorem zNd : Challenge.rw_sm0081_01.wellSaid = true := by
 unfold OpenLaw.wellSaid
 refine look_both ?_ (zCy (by kernel_rfl))
 refine look_both ?_ b18
 refine look_both ?_ b17
 refine look_both ?_ b16
 refine look_both ?_ b15
 refine look_both ?_ (zCy (by kernel_rfl))
 refine look_both ?_ b13
 refine look_both ?_ rfl
 refine look_both ?_ b11
 refine look_both ?_ b10
 refine look_both ?_ b9
 refine look_both ?_ b8
 refine look_both ?_ b7
 refine look_both ?_ rfl
 refine look_both ?_ rfl
 refine look_both ?_ b4
 refine look_both ?_ b3
 exact look_both wsR b2
end Mine
namespace Mine
open PySem PySem.W PySem.Calls PyProof.Rows PySem.Spec
section
variable (C : Cx)
def QE (z : Nat) (w : Wd) (K : KV) (Q : Value → Shared → Prop) : Prop := ∀ v st w' u, K v st → Aft C z NoX w st w' → VR w'.ρ v u → Q u w'.s
def QEs (z : Nat) (w : Wd) (K : List AV → Store → Prop) (Q : List Value → Shared → Prop) : Prop := ∀ v st w' u, K v st → Aft C z NoX w st w' → VRs w'.ρ v u → Q u w'.s
def QB (z : Nat) (w : Wd) (K : Bool → Store → Prop) (Q : Bool → Shared → Prop) : Prop := ∀ b st w', K b st → Aft C z NoX w st w' → Q b w'.s
structure SEv (n : Nat) : Prop where
 go : ∀ {P : Pl} {z : Nat} {Γ : zaw} {σ : zaf} {d : Nat} {x : Expr} {st : Store} {K : KV} {w : Wd} {Q : Value → Shared → Prop} {E : Value → Shared → Prop}, (mk C.T n).ev z Γ σ (er d P.fx.ek x) st K → Here C P Γ σ n st w → QE C z w K Q →
 wpAny (model C.prog C.w) P.A (eval x P.env) Q E w.s
structure SEvs (n : Nat) : Prop where
 go : ∀ {P : Pl} {z : Nat} {Γ : zaw} {σ : zaf} {d : Nat} {xs : List Expr} {st : Store} {K : List AV → Store → Prop} {w : Wd} {Q : List Value → Shared → Prop} {E : Value → Shared → Prop} {pos : Pos}, zex xs = true → (mk C.T n).evs z Γ σ (xs.map (er d P.fx.ek)) st K → Here C P Γ σ n st w → QEs C z w K Q →
 wpAny (model C.prog C.w) P.A (spliced (backTo pos (starEach xs P.env))) Q E w.s
structure STr (n : Nat) : Prop where
 go : ∀ {P : Pl} {z : Nat} {Γ : zaw} {σ : zaf} {d : Nat} {x : Expr} {st : Store} {K : Bool → Store → Prop} {w : Wd} {Q : Bool → Shared → Prop} {E : Value → Shared → Prop}, (mk C.T n).tr z Γ σ (er d P.fx.ek x) st K → Here C P Γ σ n st w → QB C z w K Q →
 wpAny (model C.prog C.w) P.A (isTrue x P.env (eval x P.env)) Q E w.s
structure SCall (n : Nat) : Prop where
 go : ∀ {z : Nat} {f : AV} {vs : List AV} {st : Store} {K : KV} {A : Around} {w : Wd} {Q : Value → Shared → Prop} {E : Value → Shared → Prop} {fu : Value} {us : List Value}, (mk C.T n).callv z f vs st K → AOK n A → Rep C w.ρ st w.s.heap → VR w.ρ f fu → VRs w.ρ vs us → QE C z w K Q →
 wpAny (model C.prog C.w) A (PySem.call fu us []) Q E w.s
end
section
variable {C : Cx} {P : Pl} {n d z : Nat} {Γ : zaw} {σ : zaf} {st st' : Store} {w w' : Wd} {K : KV} {Q : Value → Shared → Prop} {E : Value → Shared → Prop}
theorem QE.of (h : QE C z w K Q) {v : AV} (k : K v st) : QV C z w st v Q := λ w' u a r => h v st w' u k a r
theorem QE.now (h : QE C z w K Q) (R : Rep C w.ρ st w.s.heap) {v : AV} {u : Value} (k : K v st) (r : VR w.ρ v u) : Q u w.s := h v st w u k (Aft.refl _ R) r
theorem QE.after (h : QE C z w K Q) (a : Aft C z NoX w st w') : QE C z w' K Q := λ v st w2 u k b r => h v st w2 u k (a.trans b) r
theorem QB.after {K : Bool → Store → Prop} {Q : Bool → Shared → Prop} (h : QB C z w K Q) (a : Aft C z NoX w st w') : QB C z w' K Q := λ v st w2 k b => h v st w2 k (a.trans b)
theorem zqg {op : CmpOp} {x : Expr} (h : (!zh5 x) = true) : behindInMarks op x = false := by
 cases x <;> first | rfl | exact nb h
theorem zie {x : Expr} {xs : List Expr} {env : Env} (h : (!zxn x) = true) : starEach (x :: xs) env = (false, eval x env) :: starEach xs env := by
 cases x <;> first | rfl | exact nb h
theorem Here.knd (H : Here C P Γ σ n st w) : P.env.scope.kind = .function := by rw [H.fr.scope]; exact H.fr.fok.kind
theorem Here.nam (H : Here C P Γ σ n st w) {a : Str} {k : NameKind} (h : lkN a P.fx.sc.names = some k) : P.env.kindOf a = some k := by
 show P.env.scope.names.lookup a = _
 rw [H.fr.scope, ← zra]; exact h
theorem zJ1 {o : AO} {x : Option AV} (h : o.toC = some x) : o = .cell x := by
 cases o with
 | cell => cases h; rfl
 | _ => exact nn h
theorem Rep.cl (R : Rep C w.ρ st w.s.heap) {G : Prop} {i : Nat} {o : Option AV} (h : st.cl i = some o) (k : ∀ a ob, At C w.ρ w.s.heap i (.cell o) a ob → G) : G :=
 zag h λ ob ho h => R.obj ho λ a b q => by cases zJ1 h; exact k a b q
theorem zE8 (g : Good C) {k : Nat} {v : AV} (h : zEt k = some v) : ∃ u, VR [] v u ∧ (C.mg (nm k) = some u ∨ (C.mg (nm k) = none ∧ C.mb (nm k) = some u)) := by
 unfold zEt at h
 cases e : lk k glO with
 | some v' => rw [e] at h; cases h; exact (g.gl.own _ _ e).elim λ u q => ⟨u, q.2, .inl q.1⟩
 | none => rw [e] at h; exact (g.gl.bi _ _ h).2.elim λ u q => ⟨u, q.2, .inr ⟨(g.gl.bi _ _ h).1, q.1⟩⟩
theorem zE5 (g : Good C) {a : Str} {p : Pos} (h : evF C.T (mk C.T n) z Γ σ (zt6 P.fx.ek a) st K) (H : Here C P Γ σ n st w) (hQ : QE C z w K Q) : wpAny (model C.prog C.w) P.A (eval (.Name a p) P.env) Q E w.s :=
 zcd h λ k hk h => zbz h λ hp h => by
   cases zcu hk
   have kd := H.knd
   cases e : lkN (nm k) P.fx.ek.sc.names with
   | none => rw [e] at h; exact False.elim h
   | some kn =>
     rw [e] at h
     have en := H.nam e
     cases kn with
     | «local» =>
       obtain ⟨m, hm, hv⟩ := H.loc.ns
       exact Opt.inv h λ v hv' hK => (hv _ _ hv').elim λ u q => wpAny_Name (wpAny_loadName_local kd en hm q.1 (hQ.now H.rep hK q.2)) (zew hp)
     | cell =>
       exact zbz h λ hd h => Opt.inv h λ i hi h => Opt.inv h λ o ho h => Opt.inv h λ v hv hK => (H.fr.cells k i (List.contains_iff_mem.mp hd) hi).elim λ a q => H.rep.cl ho λ b ob t => by
         subst hv
         cases t.ix.eq q.2
         exact t.rel.elim λ u r => wpAny_Name (wpAny_loadName_cell kd en q.1 ⟨ob, t.at_, r.2⟩ (hQ.now H.rep hK r.1)) (zew hp)
     | free =>
       exact zbz h λ hd h => Opt.inv h λ i hi h => Opt.inv h λ o ho h => Opt.inv h λ v hv hK => (H.fr.cells k i (List.contains_iff_mem.mp hd) hi).elim λ a q => H.rep.cl ho λ b ob t => by
         subst hv
         cases t.ix.eq q.2
         exact t.rel.elim λ u r => wpAny_Name (wpAny_loadName_free kd en q.1 ⟨ob, t.at_, r.2⟩ (hQ.now H.rep hK r.1) (zp1 hp)) (zew hp)
     | globalImplicit =>
       refine zcd h λ v hg h => Chk.inv h λ hf hK => (zE8 g hg).elim λ u q => ?_
       have q1 : Q u w.s := hQ.now H.rep hK (q.1.plain hf)
       have G : w.s.heap.Ns P.env.globals C.mg := by rw [H.fr.globals]; exact H.rep.mg g
       have B : w.s.heap.Ns P.env.builtins C.mb := by rw [H.fr.builtins]; exact H.rep.mb g
       exact Name_function_global kd en (q.2.elim (λ r => loadGlobal_global G r q1) λ r => loadGlobal_builtin G r.1 B r.2 q1) (zew hp)
     | globalExplicit => exact False.elim h
theorem zxr (S : SEv C n) (Ss : SEvs C n) : SEvs C (n + 1) := by
 refine ⟨?_⟩
 intro P z Γ σ d xs st K w Q E pos ns h H hQ
 cases xs with
 | nil => exact wpAny_items_nil (hQ _ _ w _ h (Aft.refl _ H.rep) .nil)
 | cons x xs => exact zbf ns λ n1 n2 => wpAny_items_cons (S.go h H.dn λ v st1 w1 u1 h1 a1 r1 => Ss.go n2 h1 (H.dn.step a1) λ vs st2 w2 us h2 a2 r2 => hQ _ _ _ _ h2 (a1.trans a2) (.cons (r1.up a2) r2)) (zie n1)
variable {x y b c : Expr} {p : Pos}
def zKk (C : Cx) (P : Pl) (x : Expr) (op : CmpOp) (y : Expr) (Q : Value → Shared → Prop) (E : Value → Shared → Prop) (s : Shared) : Prop :=
 wpAny (model C.prog C.w) P.A (eval x P.env) (λ u s1 => wpAny (model C.prog C.w) P.A (eval y P.env) (λ v s2 => wpAny (model C.prog C.w) P.A (compareOp op u v) Q E s2) E s1) E s
def QI (C : Cx) (z : Nat) (w : Wd) (K : KV) (Q : Value → Shared → Prop) : Prop := ∀ q st' w', K (.bool q) st' → Aft C z NoX w st' w' → Q (.bool q) w'.s
theorem zGh (S : SEv C n) {op : CO} (h : evF C.T (mk C.T n) z Γ σ (.cmp op (er d P.fx.ek x) (er d P.fx.ek y)) st K) (H : Here C P Γ σ n st w) (hQ : QI C z w K Q) : zKk C P x (cop op) y Q E w.s :=
 S.go h H λ _ _ _ _ h a1 r1 => S.go h (H.step a1) λ _ _ _ _ h a2 r2 => h.inv λ _ e hK => zgy e a2.rep (r1.up a2) r2 H.room.u64 (hQ _ _ _ hK (a1.trans a2))
theorem zGa (g : Good C) (S : SEv C n) {neg : Bool} (h : evF C.T (mk C.T n) z Γ σ (.inn neg (er d P.fx.ek x) (er d P.fx.ek y)) st K) (H : Here C P Γ σ n st w) (hQ : QI C z w K Q) : zKk C P x (zxt neg) y Q E w.s :=
 S.go h H λ _ _ _ _ h a1 r1 => S.go h (H.step a1) λ _ _ w2 _ h a2 r2 => h.inv λ _ e hK => zxa g e a2.rep (r1.up a2) r2 λ tk => hQ _ _ ⟨w2.ρ, _⟩ hK ((a1.trans a2).trans (Aft.tk _ a2.rep tk))
theorem zwa {o1 o2 : CmpOp} {y z : Expr} (hz : (!zh5 z) = true) : lastMarks [o1, o2] [y, z] = false := zqg hz
theorem zHk (S : SEv C n) {o1 o2 : CO} (h : evF C.T (mk C.T n) z Γ σ (.chn (er d P.fx.ek x) o1 (er d P.fx.ek y) o2 (er d P.fx.ek c)) st K) (hs : (!zh5 c) = true) (H : Here C P Γ σ n st w) (hQ : QE C z w K Q) :
   wpAny (model C.prog C.w) P.A (eval (.Compare x [cop o1, cop o2] [y, c] p) P.env) Q E w.s :=
 Compare_chain (S.go h H λ _ _ _ _ h a1 r1 => chain_link (S.go h (H.step a1) λ _ _ _ _ h a2 r2 => h.inv λ q e h => zgy e a2.rep (r1.up a2) r2 H.room.u64 (wpAny_truthy_bool (by
   cases q with
   | false => exact hQ _ _ _ _ h (a1.trans a2) (.bool _)
   | true => exact chain_last (S.go h (H.step (a1.trans a2)) λ _ _ _ _ h a3 r3 => h.inv λ _ e hK => zgy e a3.rep (r2.up a3) r3 H.room.u64 (hQ _ _ _ _ hK ((a1.trans a2).trans a3) (.bool _)))))))
   (zwa hs)
theorem zGq (S : SEv C n) {ys : List Expr} (h : evF C.T (mk C.T n) z Γ σ (.andd (ys.map (er d P.fx.ek))) st K) (er_and : er (d + 1) P.fx.ek (.BoolOp .And ys.tail p) = .andd (ys.tail.map (er d P.fx.ek))) (H : Here C P Γ σ n st w) (hQ : QE C z w K Q) : wpAny (model C.prog C.w) P.A (eval (.BoolOp .And ys p) P.env) Q E w.s := by
 match ys, h with
 | [x], h => exact BoolOp_one (S.go h H hQ)
 | x :: y :: ys, h =>
   exact BoolOp_and (S.go h H λ v _ _ _ h a1 r1 => h.inv λ q e h => ze4 e r1 (by
     cases q with
     | true => exact S.go (x := .BoolOp .And (y :: ys) p) (er_and ▸ h) (H.step a1) (hQ.after a1)
     | false => exact hQ _ _ _ _ h a1 r1))
theorem zLf (S : SEv C n) {ys : List Expr} (h : evF C.T (mk C.T n) z Γ σ (.orr (ys.map (er d P.fx.ek))) st K) (er_or : er (d + 1) P.fx.ek (.BoolOp .Or ys.tail p) = .orr (ys.tail.map (er d P.fx.ek))) (H : Here C P Γ σ n st w) (hQ : QE C z w K Q) : wpAny (model C.prog C.w) P.A (eval (.BoolOp .Or ys p) P.env) Q E w.s := by
 match ys, h with
 | [x], h => exact BoolOp_one (S.go h H hQ)
 | x :: y :: ys, h =>
   exact BoolOp_or (S.go h H λ v _ _ _ h a1 r1 => h.inv λ q e h => ze4 e r1 (by
     cases q with
     | false => exact S.go (x := .BoolOp .Or (y :: ys) p) (er_or ▸ h) (H.step a1) (hQ.after a1)
     | true => exact hQ _ _ _ _ h a1 r1))
theorem zJ3 (S : SEv C n) (h : evF C.T (mk C.T n) z Γ σ (.nott (er d P.fx.ek x)) st K) (H : Here C P Γ σ n st w) (hQ : QE C z w K Q) : wpAny (model C.prog C.w) P.A (eval (.UnaryOp .Not x p) P.env) Q E w.s :=
 wpAny_UnaryOp (S.go h H λ _ _ _ _ h a1 r1 => h.inv λ _ e hK => not_of (ze4 e r1 (hQ _ _ _ _ hK a1 (.bool _))))
theorem zIr (S : SEv C n) (h : evF C.T (mk C.T n) z Γ σ (.neg (er d P.fx.ek x)) st K) (H : Here C P Γ σ n st w) (hQ : QE C z w K Q) : wpAny (model C.prog C.w) P.A (eval (.UnaryOp .USub x p) P.env) Q E w.s :=
 wpAny_UnaryOp (S.go h H λ _ _ w1 _ h a1 r1 => h.inv λ i e hK => zcc (G := λ u => wpAny (model C.prog C.w) P.A (unaryOp .USub u) Q E w1.s) e r1 λ t => PySem.P.neg_int (((hQ.after a1).of hK).tk a1.rep _ (.int _ _)))
theorem zGy (S : SEv C n) {op : BO} (h : evF C.T (mk C.T n) z Γ σ (.bin op (er d P.fx.ek x) (er d P.fx.ek y)) st K) (H : Here C P Γ σ n st w) (hQ : QE C z w K Q) : wpAny (model C.prog C.w) P.A (eval (.BinOp x (bop op) y p) P.env) Q E w.s :=
 wpAny_BinOp (S.go h H λ _ _ _ _ h a1 r1 => S.go h (H.step a1) λ _ _ _ _ h a2 r2 => h.inv λ q e h => h.inv λ hb hK => zw0 e hb a2.rep (r1.up a2) r2 ((hQ.after (a1.trans a2)).of hK))
theorem zHs (S : SEv C n) (T : STr C n) (h : evF C.T (mk C.T n) z Γ σ (.ite (er d P.fx.ek x) (er d P.fx.ek y) (er d P.fx.ek c)) st K) (H : Here C P Γ σ n st w) (hQ : QE C z w K Q) : wpAny (model C.prog C.w) P.A (eval (.IfExp x y c p) P.env) Q E w.s :=
 wpAny_IfExp (T.go h H λ q _ _ h a1 => by
   cases q with
   | true => exact S.go h (H.step a1) (hQ.after a1)
   | false => exact S.go h (H.step a1) (hQ.after a1))
theorem zHe (S : SEvs C n) {ys : List Expr} (ns : zex ys = true) (h : evF C.T (mk C.T n) z Γ σ (.lst (ys.map (er d P.fx.ek))) st K) (H : Here C P Γ σ n st w) (hQ : QE C z w K Q) : wpAny (model C.prog C.w) P.A (eval (.List ys p) P.env) Q E w.s :=
 wpAny_List (S.go ns h H λ vs _ _ us h a1 r1 => h.inv λ hl hK => ⟨by rw [r1.length]; exact fits hl, ((hQ.after a1).of hK).push a1.rep _ rfl (lsR r1 (zhb hl))⟩)
theorem zGe (S : SEvs C n) {ys : List Expr} {k : Nat} (ns : zex ys = true) (h : evF C.T (mk C.T n) z Γ σ (.tpl (ys.map (er d P.fx.ek))) st K) (H : Here C P Γ σ n st w) (hQ : QE C z w K Q) : wpAny (model C.prog C.w) P.A (eval (.Tuple ys k p) P.env) Q E w.s :=
 wpAny_Tuple (S.go ns h H λ vs _ _ us h a1 r1 => h.inv λ hl hK => ⟨by rw [r1.length]; exact fits hl, ((hQ.after a1).of hK).push a1.rep _ rfl (tpR r1 (zhb hl))⟩)
end
section
variable {C : Cx} {z : Nat} {A : Around} {E : Value → Shared → Prop} {s : Shared} {ρ : List Addr} {st st' : Store} {w : Wd} {Q : Value → Shared → Prop}
theorem zHd {v : AV} {u : Value} (r : VR ρ v u) : handedIn u = true := by
 cases v with
 | bi b => cases r; cases b <;> rfl
 | int => obtain ⟨_, rfl⟩ := r; rfl
 | str => obtain ⟨_, _, rfl⟩ := r; rfl
 | ref => obtain ⟨_, _, rfl⟩ := r; rfl
 | ext => exact r.elim
 | _ => cases r; rfl
theorem zr5 {k n : Nat} {t : Tok} : (Value.str (nm k) t).isStr (nm n) = Nat.beq k n := by
 show (nm k == nm n) = _
 cases h : Nat.beq k n with
 | true => rw [ebx h]; exact beq_self_eq_true _
 | false => exact beq_eq_false_iff_ne.mpr λ e => Nat.ne_of_beq_eq_false h (zo2 e)
theorem zmi {es : List (Nat × AV)} {ds : List DictEntry} (r : VFs C ρ es ds) (n : Nat) : ∃ o, getL (nm n) ds = some o ∧ OptR ρ (lk n es) o := by
 induction r with
 | nil => exact ⟨none, rfl, .none⟩
 | @cons k x u t es ds a r' ih =>
   obtain ⟨o, h1, h2⟩ := ih
   have hb := zr5 (k := k) (n := n) (t := t)
   show ∃ o, getL _ _ = _ ∧ OptR ρ (match Nat.beq k n with | true => some x | false => lk n es) o
   unfold getL at h1 ⊢
   rw [List.find?_cons, List.any_cons, hb]
   cases Nat.beq k n with
   | true => exact ⟨some u, by simp, .some a⟩
   | false => exact ⟨o, by simpa [DictEntry.refKey] using h1, h2⟩
theorem zzk {G : Prop} {es : List (Nat × AV)} {ds : List DictEntry} {n : Nat} {v : AV} (r : VFs C ρ es ds) (h : lk n es = some v) (k : ∀ u, getL (nm n) ds = some (some u) → VR ρ v u → G) : G := by
 obtain ⟨o, h1, h2⟩ := zmi r n
 rw [h] at h2
 cases h2 with
 | some a => exact k _ h1 a
theorem zy5 {es : List (Nat × AV)} {ds : List DictEntry} {n : Nat} (r : VFs C ρ es ds) (h : lk n es = none) : getL (nm n) ds = some none := by
 obtain ⟨o, h1, h2⟩ := zmi r n
 rw [h] at h2
 cases h2; exact h1
structure InAt (C : Cx) (h : Heap) (ρ : List Addr) (a dx : Addr) (cl d : Nat) (es : List (Nat × AV)) (ds : List DictEntry) (n : Nat) (cd : CD) : Prop where
 fix : Ix ρ d dx
 cls : C.T.cls.get cl = some cd
 fs : VFs C ρ es ds
 fat : h.get? dx = some (dictOf ds n)
 inst : InstAt h a (instObj cl dx) cl (some (dictOf ds n))
theorem zEb {o : AO} {p : Nat × Nat} (h : o.toIn = some p) : o = .inst p.1 p.2 := by
 cases o with
 | inst => cases h; rfl
 | _ => exact nn h
theorem zI7 {o : AO} {es : List (Nat × AV)} (h : o.toF = some es) : o = .fields es := by
 cases o with
 | fields => cases h; rfl
 | _ => exact nn h
theorem Rep.ins {h : Heap} (R : Rep C ρ st h) {G : Prop} {i : Nat} {a : Addr} {p : Nat × Nat × List (Nat × AV)} (t : st.ins i = some p) (e : Ix ρ i a) (k : ∀ dx ds n cd, InAt C h ρ a dx p.1 p.2.1 p.2.2 ds n cd → G) : G :=
 zag t λ q t1 t => zbs t λ es t2 t => zag t1 λ o ho t1 => zag t2 λ o2 ho2 t2 => R.obj ho λ b ob x => R.obj ho2 λ b2 ob2 y => by
   cases zEb t1; cases zI7 t2; subst t
   obtain ⟨x1, x2, dx, x3, rfl, cd, x4⟩ := x
   obtain ⟨y1, y2, ds, n, y3, rfl⟩ := y
   cases x1.eq e; cases y1.eq x3
   exact k _ ds n cd ⟨x3, x4, y3, y2, ⟨x2, rfl, rfl, y2⟩⟩
theorem zm7 (g : Good C) {o v : AV} {n : Nat} {u : Value} (h : zc6 st o n = some v) (R : Rep C w.ρ st w.s.heap) (r : VR w.ρ o u) (hQ : QV C z w st v Q) : wpAny (model C.prog C.w) A (getAttr u (nm n) true) Q E w.s :=
 zag h λ i hi h => zag h λ p hp h => zd8 (G := λ u => wpAny (model C.prog C.w) A (getAttr u (nm n) true) Q E w.s) hi r λ a e => R.ins hp e λ dx ds k cd I => by
   cases ok : okA p.1 n with
   | false => rw [ok] at h; exact nn h
   | true =>
     rw [ok] at h
     have t := g.attr _ _ I.cls n ok
     have c := g.cls _ _ I.cls
     exact t.find.elim λ q q1 => zzk I.fs h λ u l r => get_value (R.K g) I.inst (plainGet_of c.plain).1 (findObj_own c.dict q1.1 q1.2 (by rw [lookIn_dict]; exact l)) (zHd r) (hQ.tk R _ r)
theorem zEm {n : Nat} {v : AV} {u0 : Value} {tk : Tok} (hv : VR ρ v u0) {es : List (Nat × AV)} {ds : List DictEntry} (r : VFs C ρ es ds) : VFs C ρ (zxv n v es) (PySem.W.putL (nm n) (PyData.keyHash C.w.params (nm n)) (.str (nm n) tk) u0 ds) := by
 induction r with
 | nil => exact .cons hv .nil
 | @cons k x u t es ds a r' ih =>
   have hb := zr5 (k := k) (n := n) (t := t)
   unfold PySem.W.putL zxv
   dsimp only
   rw [hb, Tr.beq0]
   by_cases q : k = n
   · subst q
     rw [decide_eq_true rfl, if_pos rfl, if_pos rfl]
     exact .cons hv r'
   · rw [decide_eq_false q, if_neg q, if_neg Bool.false_ne_true]
     exact .cons a ih
theorem zFr {es : List (Nat × AV)} {ds : List DictEntry} (r : VFs C ρ es ds) : ds.length = es.length := by
 induction r with
 | nil => rfl
 | cons _ _ ih => exact congrArg Nat.succ ih
theorem zr2 (name : Str) (h : Int) (k v : Value) : ∀ ds : List DictEntry, (PySem.W.putL name h k v ds).length ≤ ds.length + 1
 | [] => Nat.le_refl _
 | e :: r => by
   unfold PySem.W.putL
   split
   · exact Nat.le_succ _
   · exact Nat.succ_le_succ (zr2 name h k v r)
theorem zE6 {prog : Program} {w : World} {K : Frag} {x C' : Addr} {R : Result → Shared → Prop} {ox : Obj} {dx : Addr} {name : Str} {tk : Tok} {v : Value} {es : List DictEntry} {n : Nat} (X : K.In s.heap)
   (I : InstAt s.heap x ox C' (some (dictOf es n))) (hd : ox.dict = some dx) (D : s.heap.get? dx = some (dictOf es n)) (hp : plainOver K C' = true) (ht : takerIn K C' name = some none) (hh : (clsIn K C').any (·.hasDict) = true)
   (hl : (lookIn name (dictOf es n)).isSome = true) (hz : es.length ≤ 100)
   (h : ∀ h', Heap.SameBut dx s.heap h' → h'.get? dx = some (dictOf (PySem.W.putL name (PyData.keyHash w.params name) (.str name s.toks) v es) (PySem.W.putN name es n)) → R (.ok (.ret .none)) { s with heap := h', toks := s.toks + 1 }) :
   codeAny (model prog w) A (.call (.builtin "object.__setattr__") ⟨[.ref x, .str name tk, v], []⟩) R s := by
 refine osa_open X I hp ht λ b => ?_
 obtain ⟨cd, hc, hd'⟩ := any_some hh
 have e := putName_dict name (PyData.keyHash w.params name) (.str name s.toks) v es n
 have D' : (s.heap.update dx (Obj.putName name (PyData.keyHash w.params name) (.str name s.toks) v)).get? dx = some (dictOf (PySem.W.putL name (PyData.keyHash w.params name) (.str name s.toks) v es) (PySem.W.putN name es n)) := by
   rw [← e]
   exact Heap.get?_update_self _ D (by rw [e]; rfl)
 obtain ⟨hx, hcl, hn, -⟩ := I
 obtain ⟨oc, odi, oda, osl⟩ := ox
 dsimp only at hcl hd
 subst hcl hd
 refine wpAny_bind (wpAny_pure (wpAny_bind (wpAny_bind (wpAny_loadPart hx (wpAny_bind ((looks_clsIn X hc).here ?_))))))
 rw [hd']
 refine wpAny_pure (a := some dx) (wpAny_bind (wpAny_pure (wpAny_bind ?_)))
 unfold nsSet
 refine wpAny_bind (wpAny_bind (wpAny_askSetting (wpAny_pure (wpAny_bind (wpAny_mkText (wpAny_bind (wpAny_loadPart D ?_)))))))
 unfold lookIn at hl
 dsimp only at hl ⊢
 have c : (!es.toArray.any (·.key.isStr name) && es.toArray.any (·.refKey)) = false := by
   rw [← Array.any_toList, ← Array.any_toList]
   split at hl
   · rename_i en he
     rw [List.any_eq_true.mpr ⟨en, List.mem_of_find?_eq_some he, List.find?_some he⟩]; rfl
   · split at hl
     · cases hl
     · rename_i z; rw [Bool.not_eq_true] at z; rw [z, Bool.and_false]
 rw [aRefKeyMayBeTheName_at, c]
 refine wpAny_updatePart D ?_
 have hlen := zr2 name (PyData.keyHash w.params name) (.str name s.toks) v es
 refine wpAny_bind (wpAny_lookBehind D' (pastItsLine_dict (by rw [List.size_toArray, sizeLine_eq]; omega)) ?_)
 exact wpAny_pure (h _ (Heap.SameBut.update _ _ _) D')
theorem zwm {es : List (Nat × AV)} {ds : List DictEntry} (r : VFs C ρ es ds) (n k : Nat) : (lookIn (nm n) (dictOf ds k)).isSome = true := by
 obtain ⟨o, h1, _⟩ := zmi r n
 rw [lookIn_dict, h1]; rfl
theorem zmw (g : Good C) {o v : AV} {n : Nat} {u u' : Value} {Q : Unit → Shared → Prop} (h : ztt z st o n v = some st') (R : Rep C w.ρ st w.s.heap) (r : VR w.ρ o u) (rv : VR w.ρ v u')
   (hQ : QU C z w st' Q) : wpAny (model C.prog C.w) A (setAttr u (nm n) u') Q E w.s :=
 zag h λ i hi h => zag h λ p hp h => zd8 (G := λ u => wpAny (model C.prog C.w) A (setAttr u (nm n) u') Q E w.s) hi r λ a e => R.ins hp e λ dx ds k cd I => zgr h λ hz h => zbf hz λ hz ok => zbf hz λ hz hl => by
   subst h
   have c := g.cls _ _ I.cls
   refine set_plain (R.K g) I.inst c.set (zE6 (s := { w.s with toks := w.s.toks + 1 }) (R.K g) I.inst rfl I.fat c.over (g.attr _ _ I.cls n ok).taker c.dict (zwm I.fs n k) (by rw [zFr I.fs]; exact blx hl) λ h' hs hd => ?_)
   exact hQ ⟨w.ρ, _⟩ ⟨Step.set (blx hz) I.fix hd hs rfl rfl, R.set I.fix I.fat zoz hs hd ⟨_, _, zEm rv I.fs, rfl⟩⟩
theorem zg4 {prog : Program} {w : World} {value slice : Expr} {o i : Value} {ops : List Value} {T id : String} {Q : Value → Shared → Prop} (hT : s.TypeIs o T) (hl : typeLookup (.type T) "__getitem__" = pure (some (.builtin id)))
   (h : wpAny (model prog w) A (getItem o i) Q E s) (hs : subscripted slice false o i = operate ops (getItem o i)) : wpAny (model prog w) A (subscriptTail value slice o i) Q E s := by
 unfold subscriptTail
 refine wpAny_bind ?_
 rw [getitemInPython_of_ne hT.not_modules]
 refine wpAny_bind (wpAny_specialOf hT hl ?_)
 have fin : wpAny (model prog w) A (subscripted slice false o i) (λ r s₃ => wpAny (model prog w) A (letTemporaryGo value o r >>= λ _ => pure r) Q E s₃) E s := by
   rw [hs]
   exact wpAny_operating (wpAny_mono h (λ r s₃ h₃ => wpAny_bind (wpAny_letTemporaryGo (wpAny_pure h₃))) λ _ _ x => x)
 first
   | exact wpAny_pure (wpAny_bind fin)
   | exact wpAny_bind (wpAny_pure (wpAny_bind fin))
   | exact wpAny_bind fin
theorem zil {slice : Expr} {o i : Value} (h : zi3 slice = false) : subscripted slice false o i = operate [o, i] (getItem o i) := by
 cases slice <;> first | rfl | exact nomatch h
theorem zvv {α : Type} : ∀ (l : List α) (i : Nat), nth l i = l[i]?
 | [], i => rfl
 | x :: r, 0 => rfl
 | x :: r, i + 1 => zvv r i
theorem zub {G : Prop} {xs : List AV} {us : List Value} (r : VRs ρ xs us) : ∀ {i : Nat} {x : AV}, nth xs i = some x → (∀ u, us[i]? = some u → VR ρ x u → G) → G := by
 induction r with
 | nil => intro i x h; exact nn h
 | cons a _ ih =>
   intro i x h k
   cases i with
   | zero => exact k _ rfl (Option.some.inj h ▸ a)
   | succ i => exact ih h k
inductive PixR (k : Int) (n : Nat) : Nat → Prop
 | pos (h0 : 0 ≤ k) (h : k.toNat < n) : PixR k n k.toNat
 | neg (h0 : k < 0) (h : (-k).toNat ≤ n) : PixR k n (n - (-k).toNat)
theorem zsl {k : Int} {n j : Nat} (h : pix k n = some j) : PixR k n j := by
 unfold pix at h
 by_cases h0 : 0 ≤ k
 · rw [if_pos h0] at h
   by_cases h1 : k.toNat < n
   · rw [if_pos h1] at h; cases h; exact .pos h0 h1
   · rw [if_neg h1] at h; exact nn h
 · rw [if_neg h0] at h
   by_cases h1 : (-k).toNat ≤ n
   · rw [if_pos h1] at h; cases h; exact .neg (Int.lt_of_not_ge h0) h1
   · rw [if_neg h1] at h; exact nn h
structure PixS (k : Int) (n j : Nat) : Prop where
 seq : seqIndex? k n = some j
 lt : j < n
 lo : -(n : Int) ≤ k
 hi : k < n
theorem PixR.seq {k : Int} {n j : Nat} (h : PixR k n j) : PixS k n j := by
 cases h with
 | pos h0 h =>
   obtain ⟨m, rfl⟩ := Int.eq_ofNat_of_zero_le h0
   have h2 : (m : Int) < n := Int.ofNat_lt.mpr h
   refine ⟨?_, h, Int.le_trans (Int.neg_nonpos_of_nonneg (Int.natCast_nonneg n)) h0, h2⟩
   unfold seqIndex?
   rw [if_neg (Int.not_lt.mpr h0)]
   dsimp only
   rw [decide_eq_true h0, decide_eq_true h2]; rfl
 | neg h0 h =>
   obtain ⟨m, hm⟩ := Int.eq_ofNat_of_zero_le (Int.neg_nonneg_of_nonpos (Int.le_of_lt h0))
   have hk : k = -(m : Int) := by rw [← hm, Int.neg_neg]
   subst hk
   rw [Int.neg_neg] at h ⊢
   obtain ⟨j, rfl⟩ := Nat.exists_eq_add_of_le (show m ≤ n from h)
   have e : (-(m : Int) + ((m + j : Nat) : Int)) = (j : Int) := by rw [Int.natCast_add, ← Int.add_assoc, Int.add_left_neg, Int.zero_add]
   have hm0 : 0 < m := Int.ofNat_lt.mp (Int.pos_of_neg_neg h0)
   have lt : (j : Int) < ((m + j : Nat) : Int) := Int.ofNat_lt.mpr (Nat.lt_add_of_pos_left hm0)
   have ej : m + j - (m : Int).toNat = j := Nat.add_sub_cancel_left m j
   rw [ej]
   refine ⟨?_, Int.ofNat_lt.mp lt, Int.neg_le_neg (Int.ofNat_le.mpr (zft m j)), Int.lt_of_lt_of_le h0 (Int.natCast_nonneg _)⟩
   unfold seqIndex?
   rw [if_pos h0]
   dsimp only
   rw [e, decide_eq_true (Int.natCast_nonneg j), decide_eq_true lt]; rfl
end
section
variable {prog : Program} {w : World} {A : Around} {E : Value → Shared → Prop} {s : Shared} {l : Addr} {items : Array Value} {k : Int} {t : Tok} {v : Value} {Q : Unit → Shared → Prop}
theorem zs9 {j : Nat} (hl : s.heap.IsList l items) (hfit : -(2 ^ 63) ≤ k ∧ k < 2 ^ 63) (h : PixR k items.size j) (hQ : Q () { s with heap := s.heap.update l (Obj.mapSeq (·.setIfInBounds j v)) }) :
   wpAny (model prog w) A (setItem (.ref l) (.int k t) v) Q E s := by
 obtain ⟨o, ho, hc, ne, hd⟩ := id hl
 have hj := h.seq.lt
 have hx' : items[j]? = some items[j] := Array.getElem?_eq_getElem hj
 have hidx := h.seq.seq
 unfold setItem
 try with_reducible refine wpAny_holding ?_
 first | refine wpAny_bind (wpAny_pure ?_) | skip
 refine wpAny_bind (wpAny_sequenceKey hl.typeIs (by decide) ?_)
 refine wpAny_bind (wpAny_callSpecial?_slot (name := Str.ofString "__setitem__") hl.typeIs PySem.slot_list_setitem
   (wpAny_call_entry PySem.slot_list_setitem hl.typeIs entry_list_setitem ?_ (args_list_setitem _ _ _)))
 show wpAny _ _ (Builtin.List.listSubscript? (.int k t) >>= _) _ _ s
 cases h with
 | pos h0 _ =>
   refine wpAny_bind (wpAny_listSubscript_int (fitsIndex_of h0 hfit.2) ?_)
   clear hfit
   obtain ⟨m, rfl⟩ := Int.eq_ofNat_of_zero_le h0
   show wpAny _ _ ((seqItemAt l m >>= λ r => pure (r.map (m, ·))) >>= _) _ _ s
   refine wpAny_bind (wpAny_bind (wpAny_seqItemAt ho hd (wpAny_pure ?_)))
   rw [show items[m]? = _ from hx']
   show wpAny _ _ (setSeqItemAt l m v >>= _) _ _ s
   refine wpAny_bind (wpAny_setSeqItemAt ho hd ?_)
   first
     | exact wpAny_bind (wpAny_pure (wpAny_pure ⟨.none, rfl, wpAny_pure hQ⟩))
     | exact wpAny_pure ⟨.none, rfl, wpAny_pure hQ⟩
 | neg h0 _ =>
   refine wpAny_bind (wpAny_listSubscript_int (fitsIndex_neg h0 hfit.1) ?_)
   clear hfit
   cases k with
   | ofNat n => exact absurd h0 (Int.not_lt.mpr (Int.natCast_nonneg n))
   | negSucc m =>
   show wpAny _ _ ((Builtin.List.listItems (.ref l) >>= λ xs => pure ((seqIndex? (Int.negSucc m) xs.size).bind λ i => xs[i]?.map (i, ·))) >>= _) _ _ s
   refine wpAny_bind (wpAny_bind ?_)
   show wpAny _ _ (seqItems? (.ref l) >>= _) _ _ s
   refine wpAny_bind (wpAny_seqItems ho hd (wpAny_pure (wpAny_pure ?_)))
   rw [hidx]
   simp only [Option.bind_some, hx', Option.map_some]
   show wpAny _ _ (setSeqItemAt l _ v >>= _) _ _ s
   refine wpAny_bind (wpAny_setSeqItemAt ho hd ?_)
   first
     | exact wpAny_bind (wpAny_pure (wpAny_pure ⟨.none, rfl, wpAny_pure hQ⟩))
     | exact wpAny_pure ⟨.none, rfl, wpAny_pure hQ⟩
end
section
variable {C : Cx} {z : Nat} {A : Around} {E : Value → Shared → Prop} {s : Shared} {ρ : List Addr} {st st' : Store} {w : Wd} {Q : Value → Shared → Prop}
theorem zCc {n : Nat} {k : Int} (h : n ≤ 1001) (lo : -(n : Int) ≤ k) (hi : k < n) : -(2 ^ 63) ≤ k ∧ k < 2 ^ 63 :=
 ⟨Int.le_trans (Int.neg_le_neg (Int.le_trans (Int.ofNat_le.mpr h) (by decide))) lo, Int.lt_of_lt_of_le hi (Int.le_trans (Int.ofNat_le.mpr h) (by decide))⟩
theorem ztc {l : Addr} {us : List Value} {k : Int} {t : Tok} {j : Nat} {x : Value} (hl : s.heap.IsList l us.toArray) (hn : us.length ≤ 1001) (hp : PixR k us.length j) (hx : us[j]? = some x) (h : Q x s) :
   wpAny (model C.prog C.w) A (getItem (.ref l) (.int k t)) Q E s := by
 have q := hp.seq
 have b := zCc hn q.lo q.hi
 cases hp with
 | pos h0 _ => exact wpAny_getItem_list hl h0 b.2 (by simpa using hx) h
 | neg h0 h1 =>
   refine wpAny_getItem_list_neg hl h0 (by simpa using q.lo) b.1 ?_ h
   obtain ⟨n, rfl⟩ := Int.exists_eq_neg_ofNat (Int.le_of_lt h0)
   rw [Int.neg_neg] at hx
   rw [Int.add_comm, ← Int.sub_eq_add_neg, List.size_toArray, Int.toNat_sub]; simpa using hx
theorem znq (g : Good C) {value slice : Expr} {o : AV} {k : Int} {v : AV} {xs : List AV} {u : Value} {t : Tok} (h1 : zb1 C.T st o = some xs) (h2 : zhf xs k = some v) (hs : zi3 slice = false) (R : Rep C w.ρ st w.s.heap) (ro : VR w.ρ o u) (hQ : QV C z w st v Q) :
   wpAny (model C.prog C.w) A (subscriptTail value slice u (.int k t)) Q E w.s := by
 refine zag h2 λ j hj h2 => ?_
 have hp := zsl hj
 have tup : ∀ {a : Addr} {us : List Value}, VRs w.ρ xs us → xs.length ≤ 1001 → IsTup w.s.heap a us.toArray → wpAny (model C.prog C.w) A (subscriptTail value slice (.ref a) (.int k t)) Q E w.s := λ {a us} r l x => by
   refine zub r h2 λ u hu ru => ?_
   have q := (r.length ▸ hp : PixR k us.length j).seq
   have b := zCc (r.length ▸ l) q.lo q.hi
   exact zg4 (T := "tuple") x.typeIs PyProof.Rows.slot_tuple_getitem.lookup (PyProof.Rows.getItem_tuple x b.1 b.2 q.seq (by simpa using hu) (hQ.now R ru)) (zil hs)
 cases o with
 | ref i =>
   obtain ⟨a, e, rfl⟩ := ro
   refine zag h1 λ o ho h1 => R.obj ho λ b ob q => ?_
   cases o with
   | list ys =>
     cases h1
     exact q.ls e rfl λ _ us _ x => zub x.seq.items h2 λ u hu ru => zg4 (T := "list") x.is.typeIs slot_list_getitem.lookup (ztc x.is (by rw [x.seq.items.length]; exact x.len) (by rw [x.seq.items.length]; exact hp) hu (hQ.now R ru)) (zil hs)
   | tup ys => cases h1; exact q.tp e rfl λ _ us _ x => tup x.seq.items x.len x.is
   | _ => exact nn h1
 | old a => cases ro; exact (g.tups _ _ h1).2.elim λ us q => tup (q.1.mono List.nil_prefix) (g.tups _ _ h1).1 (q.2.elim λ o q => ⟨o, R.stays _ _ q.1, q.2⟩)
 | _ => exact nn h1
theorem zqt (g : Good C) {value slice : Expr} {o i v : AV} {u u' : Value} (h : zem C.T st o i = some v) (hs : zi3 slice = false) (R : Rep C w.ρ st w.s.heap) (ro : VR w.ρ o u) (ri : VR w.ρ i u') (hQ : QV C z w st v Q) :
   wpAny (model C.prog C.w) A (subscriptTail value slice u u') Q E w.s := by
 cases i with
 | int k =>
   obtain ⟨t, rfl⟩ := ri
   cases o with
   | str x =>
     obtain ⟨_, t', rfl⟩ := ro
     refine zbs h λ c h1 e => zag h1 λ j hj h2 => ?_
     subst e
     have q := (zsl hj).seq
     rw [zvv] at h2
     have hl : (zam x).length = x.length := by simp [zam, Str.length]
     refine zg4 (T := "str") (typeIs_str _ _ _) PyProof.Rows.slot_str_getitem.lookup (PySem.P.getItem_str ?_ (c := c) ?_ (hQ.tk R _ (.str [c] _ (by decide : 1 ≤ 1000)))) (zil hs)
     · have := q.lo; have := q.hi
       simp; omega
     · show (seqIndex? k (zam x).length).bind _ = _
       rw [hl, q.seq]
       show (zam x).cps[j]? = some c
       simpa [zam] using h2
   | ref => exact zag h λ xs h1 h2 => znq g h1 h2 hs R ro hQ
   | old => exact zag h λ xs h1 h2 => znq g h1 h2 hs R ro hQ
   | _ => exact nn h
 | str k =>
   obtain ⟨hk, t, rfl⟩ := ri
   exact zag h λ j hj h => zag h λ es he h => zd8 (G := λ u => wpAny (model C.prog C.w) A (subscriptTail value slice u (.str (zam k) t)) Q E w.s) hj ro λ a e => R.dc he e λ ob kvs d => zzt d.keys h λ u l r =>
     zg4 (T := "dict") d.of.typeIs slot_dict_getitem.lookup (wpAny_getItem_of (zfn C _ t) d.of.mapOf l (hQ.tk R _ r)) (zil hs)
 | _ => exact nn h
theorem zDu {xs : List AV} {us : List Value} (r : VRs ρ xs us) {v : AV} {u : Value} (hv : VR ρ v u) : ∀ (n : Nat), VRs ρ (xs.set n v) (us.set n u) := by
 induction r with
 | nil => intro n; exact .nil
 | cons a r ih =>
   intro n
   cases n with
   | zero => exact .cons hv r
   | succ n => exact .cons a (ih n)
theorem zCn {v : AV} {u : Value} (hv : VR ρ v u) (k : List Nat) (hk : k.length ≤ 1000) {es : List (List Nat × AV)} {kvs : List (Str × Value)} (r : VKs ρ es kvs) (hn : (kvs.map (·.1)).Nodup) : VKs ρ (zlp k v es) (stored kvs (zam k) u) := by
 induction r with
 | nil => exact .cons hk hv .nil
 | @cons k' x u' es ds hkl a r' ih =>
   rw [List.map_cons, List.nodup_cons] at hn
   unfold zlp stored
   rw [List.any_cons]
   by_cases q : k' = k
   · subst q
     have e : ds.map (λ kv => if kv.1 = zam k' then (kv.1, u) else kv) = ds := by
       have : ∀ kv ∈ ds, (if kv.1 = zam k' then (kv.1, u) else kv) = kv := λ kv h => if_neg λ (e : kv.1 = zam k') => hn.1 (show zam k' ∈ ds.map (·.1) by rw [← e]; exact List.mem_map_of_mem (f := λ p : Str × Value => p.1) h)
       rw [List.map_congr_left this, List.map_id']
     rw [if_pos rfl, decide_eq_true rfl, Bool.true_or, if_pos rfl, List.map_cons, e, if_pos rfl]
     exact .cons hkl hv r'
   · have q' : ¬ zam k' = zam k := λ e => q (zfj.mp e)
     have ih := ih hn.2
     unfold stored at ih
     rw [if_neg q, decide_eq_false q', Bool.false_or]
     split at ih
     · rename_i h; rw [if_pos h, List.map_cons, if_neg q']; exact .cons hkl a ih
     · rename_i h; rw [if_neg h]; exact .cons hkl a ih
theorem DcAt.nodup {h : Heap} {a : Addr} {es : List (List Nat × AV)} {ob : Obj} {kvs : List (Str × Value)} (x : DcAt C h ρ a es ob kvs) : (kvs.map (·.1)).Nodup := by
 obtain ⟨_, _, _, _, _, _, h⟩ := x.dict; exact h
theorem zu9 {es : List (List Nat × AV)} {kvs : List (Str × Value)} (r : VKs ρ es kvs) : kvs.length = es.length := by
 induction r with
 | nil => rfl
 | cons _ _ _ ih => exact congrArg Nat.succ ih
theorem zp7 (g : Good C) {o i v : AV} {u u' x : Value} {Q : Unit → Shared → Prop} (h : zos z st o i v = some st') (R : Rep C w.ρ st w.s.heap) (ro : VR w.ρ o u) (ri : VR w.ρ i u') (rv : VR w.ρ v x) (hQ : QU C z w st' Q) :
   wpAny (model C.prog C.w) A (setItem u u' x) Q E w.s :=
 zag h λ j hj h => zd8 (G := λ u => wpAny (model C.prog C.w) A (setItem u u' x) Q E w.s) hj ro λ p e => by
   cases i with
   | int k =>
     obtain ⟨t, rfl⟩ := ri
     refine zag h λ xs hx h => zag h λ m hm h => zgr h λ hz h => R.ls hx e λ ob us n l => ?_
     subst h
     have q := (zsl hm).seq
     have b := zCc l.len q.lo q.hi
     obtain ⟨n', hd'⟩ := Obj.data_mapSeq l.seq.data (·.setIfInBounds m x)
     have f1 : (w.s.heap.update p (Obj.mapSeq (·.setIfInBounds m x))).get? p = some (ob.mapSeq (·.setIfInBounds m x)) := Heap.get?_update_self _ l.at_ (Obj.isFreed_of_seq hd')
     have hs := Heap.SameBut.update w.s.heap p (Obj.mapSeq (·.setIfInBounds m x))
     have hdict : (ob.mapSeq (·.setIfInBounds m x)).dict = none := by
       obtain ⟨oc, od, oda, osl⟩ := ob
       have e5 := l.seq.data; have e6 := l.dict
       dsimp only at e5 e6
       subst e5 e6
       rfl
     refine zs9 l.is b (by rw [List.size_toArray, l.seq.items.length]; exact zsl hm) (hQ ⟨w.ρ, _⟩ ⟨Step.set (blx hz) e f1 hs rfl rfl, R.set e l.at_ (zhs l.seq.data) hs f1 ⟨by rw [List.length_set]; exact l.len, ⟨us.set m x, n', zDu l.seq.items rv m, (Obj.cls_mapSeq ..).trans l.seq.cls, ?_⟩, hdict⟩⟩)
     rw [hd']; congr 1; simp
   | str k =>
     obtain ⟨hk, t, rfl⟩ := ri
     refine zag h λ es he h => zgr h λ hz h => zbf hz λ hz hl => R.dc he e λ ob kvs d => ?_
     subst h
     refine wpAny_setItem_pairs (zfn C _ t) d.of (λ h' hd hs => ?_) (by rw [zu9 d.keys]; exact ltx (blx hl) (by decide))
     obtain ⟨ob', f1, f2⟩ := Heap.dictOf_iff.mp hd
     exact hQ ⟨w.ρ, _⟩ ⟨Step.set (blx hz) e f1 hs rfl rfl, R.set e d.at_ (zld d.dict) hs f1 ⟨_, zCn rv k hk d.keys d.nodup, f2⟩⟩
   | _ => exact nn h
noncomputable def zcf : AV → Option Int
 | .int i => some i
 | _ => none
theorem zsc {xs : List AV} {us : List Value} (r : VRs ρ xs us) : ∀ k : Nat, VRs ρ (xs.drop k) (us.drop k) := by
 induction r with
 | nil => intro k; simp; exact .nil
 | cons a h ih => intro k; cases k with
   | zero => exact .cons a h
   | succ k => exact ih k
theorem zzx {xs : List AV} {us : List Value} (r : VRs ρ xs us) : ∀ k : Nat, VRs ρ (xs.take k) (us.take k) := by
 induction r with
 | nil => intro k; simp; exact .nil
 | cons a h ih => intro k; cases k with
   | zero => exact .nil
   | succ k => exact .cons a (ih k)
theorem zp5 {xs : List AV} {us : List Value} (r : VRs ρ xs us) : VRs ρ xs.reverse us.reverse := by
 induction r with
 | nil => exact .nil
 | cons a h ih => rw [List.reverse_cons, List.reverse_cons]; exact ih.append (.cons a .nil)
theorem zt4 (a : Int) (n : Nat) : kms_lo (some a) n = zpk a n := by
 unfold kms_lo zpk
 by_cases h : a < 0
 · have : ¬ 0 ≤ a := by omega
   simp [h, this]
 · have : 0 ≤ a := by omega
   simp [h, this]
theorem zqq (a : Int) (n : Nat) : kms_hi (some a) n = zpk a n := by
 unfold kms_hi zpk
 by_cases h : a < 0
 · have : ¬ 0 ≤ a := by omega
   simp [h, this]
 · have : 0 ≤ a := by omega
   simp [h, this]
structure CutR {α : Type} (xs ys : List α) (lo hi : AV) : Prop where
 eq : ys = (xs.drop (kms_lo (zcf lo) xs.length)).take (kms_hi (zcf hi) xs.length - kms_lo (zcf lo) xs.length)
 hlo : lo = .none ∨ ∃ i, lo = .int i
 hhi : hi = .none ∨ ∃ i, hi = .int i
theorem zm0 {α : Type} {xs ys : List α} {lo hi : AV} (h : cut xs lo hi = some ys) : CutR xs ys lo hi := by
 cases lo with
 | none =>
   cases hi with
   | none => cases h; refine ⟨?_, .inl rfl, .inl rfl⟩; simp [zcf, kms_lo, kms_hi]
   | int b =>
     cases h; refine ⟨?_, .inl rfl, .inr ⟨_, rfl⟩⟩
     simp only [zcf, zqq]
     show _ = List.take (zpk b xs.length - 0) (List.drop 0 xs)
     rw [Nat.sub_zero, List.drop_zero]
   | _ => exact nn h
 | int a =>
   cases hi with
   | none =>
     cases h; refine ⟨?_, .inr ⟨_, rfl⟩, .inl rfl⟩
     simp only [zcf, zt4]
     show _ = (List.take (xs.length - zpk a xs.length) _)
     rw [List.take_of_length_le (by rw [List.length_drop]; exact Nat.le_refl _)]
   | int b =>
     cases h; refine ⟨?_, .inr ⟨_, rfl⟩, .inr ⟨_, rfl⟩⟩
     simp only [zcf, zqq, zt4]
     rw [List.drop_take]
   | _ => exact nn h
 | _ => exact nn h
theorem CutR.len {α : Type} {xs ys : List α} {lo hi : AV} (h : CutR xs ys lo hi) : ys.length ≤ xs.length := by
 rw [h.eq, List.length_take, List.length_drop]; exact ltx (Nat.min_le_right _ _) (Nat.sub_le _ _)
theorem zwv {v : AV} {u : Value} (r : VR ρ v u) (h : v = .none ∨ ∃ i, v = .int i) : IsPart u (zcf v) := by
 rcases h with rfl | ⟨i, rfl⟩
 · cases r; exact .none
 · obtain ⟨t, rfl⟩ := r; exact .int _ _
theorem zDa (us : List Value) : slicePick us.toArray none (some 0) (some (-1)) = (us.drop 1).reverse.toArray := by
 unfold slicePick
 cases us with
 | nil => rfl
 | cons a r =>
   have e : sliceBounds none (some 0) (some (-1)) (a :: r).toArray.size = ((r.length : Int), 0, -1) := by
     have h1 : ¬ ((-1 : Int) > 0) := by decide
     simp only [sliceBounds, Option.getD_some, h1, if_false]
     refine Prod.ext ?_ (Prod.ext ?_ rfl)
     · simp
     · show max (-1) (min (if (0 : Int) < 0 then 0 + ((a :: r).toArray.size : Int) else 0) (((a :: r).toArray.size : Int) - 1)) = 0
       rw [if_neg (by decide), show (((a :: r).toArray.size : Int) - 1) = r.length from by rw [List.size_toArray, List.length_cons, Int.natCast_add]; exact Int.add_sub_cancel _ 1, Int.min_eq_left (Int.natCast_nonneg _)]; rfl
   rw [e]
   show ((sliceRange (r.length : Int) 0 (-1)).filterMap ((a :: r).toArray[·]?)).toArray = _
   have e2 : sliceRange (r.length : Int) 0 (-1) = ((List.range r.length).map (1 + ·)).reverse := by
     unfold sliceRange
     have h1 : ¬ ((-1 : Int) > 0) := by decide
     have h3 : ((if (-1 : Int) > 0 then (if (r.length : Int) < 0 then (0 - (r.length : Int) + -1 - 1) / -1 else 0) else (if (r.length : Int) > 0 then ((r.length : Int) - 0 - -1 - 1) / (- -1) else 0)).toNat) = r.length := by
       rw [if_neg h1]
       rw [show (r.length : Int) - 0 - -1 - 1 = r.length from by rw [Int.sub_zero, show ∀ a : Int, a - -1 = a + 1 from λ a => rfl]; exact Int.add_sub_cancel _ 1, show (- -1 : Int) = 1 by decide, Int.ediv_one]
       split
       · rfl
       · next h => exact (Nat.eq_zero_of_not_pos λ q => h (Int.natCast_pos.mpr q)).symm
     simp only [h3]
     apply List.ext_getElem
     · simp
     · intro i h4 h5
       simp at h4 h5 ⊢
       omega
   rw [e2, List.filterMap_reverse, pick_run]
   simp
structure CutL (ρ : List Addr) (xs ys : List AV) (us ws : List Value) (lo hi sp : AV) : Prop where
 pick : slicePick us.toArray (zcf lo) (zcf hi) (zcf sp) = ws.toArray
 rel : VRs ρ ys ws
 len : ys.length ≤ xs.length
 hlo : lo = .none ∨ ∃ i, lo = .int i
 hhi : hi = .none ∨ ∃ i, hi = .int i
 hsp : sp = .none ∨ ∃ i, sp = .int i
 nz : zcf sp ≠ some 0
theorem zup {xs ys : List AV} {us : List Value} {lo hi sp : AV} (r : VRs ρ xs us) (h : zCa xs lo hi sp = some ys) : ∃ ws, CutL ρ xs ys us ws lo hi sp := by
 cases sp with
 | none =>
   have c := zm0 h
   refine ⟨_, kms_pick_eq _ _ _, ?_, c.len, c.hlo, c.hhi, .inl rfl, by decide⟩
   rw [c.eq]
   unfold kms_pick
   rw [r.length]
   exact zzx (zsc r _) _
 | int k =>
   cases lo with
   | none =>
     cases hi with
     | none =>
       refine zgr h λ hk h => ?_
       subst h
       cases (of_decide_eq_true hk : k = -1)
       exact ⟨_, krv_pick _, zp5 r, by rw [List.length_reverse]; exact Nat.le_refl _, .inl rfl, .inl rfl, .inr ⟨_, rfl⟩, by decide⟩
     | int b =>
       refine zgr h λ hk h => zbf hk λ hk hb => ?_
       subst h
       cases (of_decide_eq_true hk : k = -1)
       cases (of_decide_eq_true hb : b = 0)
       exact ⟨_, zDa us, zp5 (zsc r 1), by rw [List.length_reverse, List.length_drop]; exact Nat.sub_le _ _, .inl rfl, .inr ⟨_, rfl⟩, .inr ⟨_, rfl⟩, by decide⟩
     | _ => exact nn h
   | _ => exact nn h
 | _ => exact nn h
end
section
variable {C : Cx} {P : Pl} {n d z : Nat} {Γ : zaw} {σ : zaf} {st st' : Store} {w w' : Wd} {K : KV} {Q : Value → Shared → Prop} {E : Value → Shared → Prop} {x y b c : Expr} {p : Pos}
theorem zq2 {x : Expr} {a : Str} {env : Env} (hs : zi6 x = true) : attributeBase x a env (eval x env) = eval x env := by
 cases x <;> first | rfl | skip
 rename_i f as ks p
 cases as with
 | nil => exact nb hs
 | cons => cases f <;> rfl
theorem zJf (g : Good C) (S : SEv C n) {m : Nat} (h : evF C.T (mk C.T n) z Γ σ (.att (er d P.fx.ek x) m) st K) (hs : zi6 x = true) (H : Here C P Γ σ n st w) (hQ : QE C z w K Q) : wpAny (model C.prog C.w) P.A (eval (.Attribute x (nm m) p) P.env) Q E w.s :=
 Attribute_any_ (S.go h H λ _ _ _ _ h a1 r1 => h.inv λ v e hK => zm7 g e a1.rep r1 ((hQ.after a1).of hK)) (by
   show (do let o ← attributeBase x (nm m) P.env (eval x P.env); _) = _
   rw [zq2 hs])
theorem zlv (g : Good C) (S : SEv C n) (h : evF C.T (mk C.T n) z Γ σ (.idx (er d P.fx.ek x) (er d P.fx.ek y)) st K) (hs : zi3 y = false) (H : Here C P Γ σ n st w) (hQ : QE C z w K Q) : wpAny (model C.prog C.w) P.A (eval (.Subscript x y p) P.env) Q E w.s :=
 Subscript_ (S.go h H λ _ _ _ _ h a1 r1 => S.go h (H.step a1) λ _ _ _ _ h a2 r2 => h.inv λ v e hK => zqt g e hs a2.rep (r1.up a2) r2 ((hQ.after (a1.trans a2)).of hK))
theorem ziy (S : SEv C n) {o : Option Expr} (h : (mk C.T n).ev z Γ σ (zCo o (er d P.fx.ek)) st K) (H : Here C P Γ σ n st w) (hQ : QE C z w K Q) : wpAny (model C.prog C.w) P.A (evalPart o P.env) Q E w.s := by
 cases o with
 | none =>
   cases n with
   | zero => exact False.elim h
   | succ n => exact wpAny_evalPart_none (hQ.now H.rep h .none)
 | some e => exact wpAny_evalPart_some (S.go h H hQ)
theorem zui {l h t : Option Expr} {q : Pos} {o i : Value} : ∃ ops, subscripted (.Slice l h t q) false o i = operate ops (getItem o i) := by
 cases t with
 | none => exact ⟨[i, o], rfl⟩
 | some t => exact ⟨[o, i], rfl⟩
theorem zws (lo hi : Option Int) (n : Nat) : Builtin.Str.strSliceIndices lo hi 1 n = (List.range (kms_hi hi n - kms_lo lo n)).map (kms_lo lo n + ·) := by
 have e' : Builtin.Str.strSliceIndices lo hi 1 n = sliceRange (sliceBounds lo hi none n).1 (sliceBounds lo hi none n).2.1 1 := by
   unfold Builtin.Str.strSliceIndices sliceBounds
   cases lo <;> cases hi <;> simp
 rw [e', kms_bounds lo hi n]
 exact sliceRange_one _ _
theorem zyq {α : Type} {s : List α} {a c : Nat} (h : ((s.drop a).take c).length = s.length) : (s.drop a).take c = s := by
 rw [List.length_take, List.length_drop] at h
 cases s with
 | nil => simp
 | cons x r =>
   have h0 : a = 0 := by
     cases a with
     | zero => rfl
     | succ a =>
       have : (x :: r).length ≤ r.length - a := by
         have := Nat.min_le_right c ((x :: r).length - (a + 1))
         rw [h] at this
         rwa [List.length_cons, Nat.add_sub_add_right] at this
       exact absurd (ltx this (Nat.sub_le _ _)) (Nat.not_succ_le_self _)
   subst h0
   rw [List.drop_zero]
   exact List.take_of_length_le (by rw [Nat.sub_zero] at h; exact h ▸ Nat.min_le_left _ _)
theorem zL2 (o : Option Int) (n : Nat) : kms_hi o n ≤ n := by
 cases o with
 | none => exact Nat.le_refl _
 | some b =>
   rw [zqq]
   unfold zpk
   split
   · exact Nat.min_le_right _ _
   · exact Nat.sub_le _ _
theorem zlf {x ys : List Nat} {t : Tok} {lo hi : AV} {a : Addr} {l u : Option (Int × Tok)} {s : Shared} {A : Around} (h : cut x lo hi = some ys) (hl : x.length ≤ 1000) (e1 : l.map (·.1) = zcf lo) (e2 : u.map (·.1) = zcf hi) (hs : s.heap.IsSlice a l u none)
   (hQ : ∀ t' k, ys.length ≤ 1000 → Q (.str (zam ys) t') { s with toks := k }) : wpAny (model C.prog C.w) A (getItem (.str (zam x) t) (.ref a)) Q E s := by
 have c := zm0 h
 have hy : ys.length ≤ 1000 := ltx c.len hl
 refine wpAny_getItem_str_slice hs rfl ?_
 have len : (zam x).length = x.length := List.size_toArray
 have pk : slicePicked (zam x) l u none = (List.range (kms_hi (zcf hi) x.length - kms_lo (zcf lo) x.length)).map (kms_lo (zcf lo) x.length + ·) := by
   unfold slicePicked
   rw [e1, e2, len]
   exact zws _ _ _
 have pick : (slicePicked (zam x) l u none).filterMap ((zam x).cps[·]?) = ys := by
   rw [pk, pick_run (zam x).cps (kms_lo (zcf lo) x.length) (kms_hi (zcf hi) x.length - kms_lo (zcf lo) x.length), c.eq]
   rfl
 unfold sliceMade
 split
 · rename_i hc
   have hc2 : (slicePicked (zam x) l u none).length = x.length := by
     simp only [Bool.and_eq_true] at hc
     have := hc.2
     rw [len] at this
     exact eq_of_beq this
   have e : ys = x := by
     rw [c.eq]
     refine zyq ?_
     rw [pk, List.length_map, List.length_range] at hc2
     have hle : kms_hi (zcf hi) x.length - kms_lo (zcf lo) x.length ≤ x.length - kms_lo (zcf lo) x.length := Nat.sub_le_sub_right (zL2 _ _) _
     rw [List.length_take, List.length_drop, Nat.min_eq_left hle, hc2]
   rw [e] at hQ hy
   exact hQ t s.toks hy
 · refine ⟨?_, ?_⟩
   · rw [pick]; exact ltx hy (by decide)
   · rw [pick]; exact hQ _ _ hy
theorem zr6 {ρ : List Addr} {v : AV} {u : Value} (r : VR ρ v u) (h : v = .none ∨ ∃ i, v = .int i) : ∃ l : Option (Int × Tok), partValue l = u ∧ l.map (·.1) = zcf v := by
 rcases h with rfl | ⟨i, rfl⟩
 · cases r; exact ⟨none, rfl, rfl⟩
 · obtain ⟨t, rfl⟩ := r; exact ⟨some (i, t), rfl, rfl⟩
theorem zAk {A : Around} {vo vl vh vs : AV} {u1 u2 u3 u4 : Value} {l hx t : Option Expr} {q : Pos} {st : Store} (h : match vo with
     | .str s => (match vs with
       | .none => Opt (cut s vl vh) λ r => K (.str r) st
       | _ => False)
     | .ref i => Opt (st.ls i) λ xs => Chk (Nat.ble xs.length 1000) (Opt (zCa xs vl vh vs) λ r => K (.ref st.n) (st.add (.list r)))
     | _ => False) (R : Rep C w.ρ st w.s.heap) (r1 : VR w.ρ vo u1) (r2 : VR w.ρ vl u2) (r3 : VR w.ρ vh u3) (r4 : VR w.ρ vs u4) (hQ : QE C z w K Q) :
   wpAny (model C.prog C.w) A (subscriptTail x (.Slice l hx t q) u1 (.ref w.s.heap.objs.size)) Q E { w.s with heap := w.s.heap.push { cls := .type "slice", data := .fields #[u2, u3, u4] } } := by
 obtain ⟨ops, hsub⟩ := zui (l := l) (h := hx) (t := t) (q := q) (o := u1) (i := .ref w.s.heap.objs.size)
 have a5 : Aft C z NoX w st ⟨w.ρ, { w.s with heap := w.s.heap.push { cls := .type "slice", data := .fields #[u2, u3, u4] } }⟩ := Aft.side _ R λ b o e => Heap.get?_push_of_some _ e
 have hsl : (w.s.heap.push { cls := .type "slice", data := .fields #[u2, u3, u4] }).get? w.s.heap.objs.size = some { cls := .type "slice", data := .fields #[u2, u3, u4] } := Heap.get?_push_size _ rfl
 cases vo with
 | str sx =>
   obtain ⟨hln, tt, rfl⟩ := r1
   cases vs with
   | none =>
     cases r4
     refine Opt.inv h λ ys e hK => ?_
     have c := zm0 e
     obtain ⟨l', rfl, l2⟩ := zr6 r2 c.hlo
     obtain ⟨u', rfl, m2⟩ := zr6 r3 c.hhi
     exact zg4 (T := "str") (typeIs_str _ _ _) PyProof.Rows.slot_str_getitem.lookup (zlf e hln l2 m2 ⟨_, hsl, rfl, rfl⟩ λ t' k hy => ((hQ.after a5).of hK).tk a5.rep k (.str _ _ hy)) hsub
   | _ => exact False.elim h
 | ref ii =>
   obtain ⟨a0, e0, rfl⟩ := r1
   refine Opt.inv h λ xs hxs h => Chk.inv h λ hln h => Opt.inv h λ ys e hK => a5.rep.ls hxs e0 λ ob us m l1 => ?_
   obtain ⟨ws, c⟩ := zup l1.seq.items e
   refine zg4 (T := "list") l1.is.typeIs PySem.slot_list_getitem.lookup (wpAny_getItem_list_slice l1.is ⟨_, hsl, rfl, rfl⟩ (zwv r2 c.hlo) (zwv r3 c.hhi) (zwv r4 c.hsp) c.nz ?_ (by rw [List.size_toArray, l1.seq.items.length]; exact fits hln)) hsub
   rw [c.pick]
   exact ((hQ.after a5).of hK).push a5.rep _ rfl (lsR c.rel (ltx c.len (zhb hln)))
 | _ => exact False.elim h
theorem zG4 (S : SEv C n) {l hx t : Option Expr} {q : Pos} (h : evF C.T (mk C.T n) z Γ σ (.slc (er d P.fx.ek x) (zCo l (er d P.fx.ek)) (zCo hx (er d P.fx.ek)) (zCo t (er d P.fx.ek))) st K) (H : Here C P Γ σ n st w) (hQ : QE C z w K Q) :
   wpAny (model C.prog C.w) P.A (eval (.Subscript x (.Slice l hx t q) p) P.env) Q E w.s :=
 Subscript_ (S.go h H λ _ _ _ _ h a1 r1 => wpAny_Slice (ziy S h (H.step a1) λ _ _ _ _ h a2 r2 => ziy S h ((H.step a1).step a2) λ _ _ _ _ h a3 r3 => ziy S h (((H.step a1).step a2).step a3) λ _ _ _ _ h a4 r4 =>
   zAk h a4.rep (((r1.up a2).up a3).up a4) ((r2.up a3).up a4) (r3.up a4) r4 (hQ.after (((a1.trans a2).trans a3).trans a4))))
def zyk (C : Cx) (A : Around) (E : Value → Shared → Prop) (env : Env) (s : Shared) (x : Expr) (s0 : List Nat) : Prop := zxn x = false ∧ ∀ (tk : Tok) (Q : Value → Shared → Prop), (∀ t tk, Q (.str (zam s0) t) { s with toks := tk }) → wpAny (model C.prog C.w) A (eval x env) Q E { s with toks := tk }
theorem zNy {f : Expr → Option (List Nat)} {env : Env} {A : Around} {s : Shared} (hf : ∀ x s0, f x = some s0 → zyk C A E env s x s0) {xs : List Expr} : ∀ {ss : List (List Nat)}, znk f xs = some ss → ∀ (pos : Pos) (tk : Tok) (Q : List Value → Shared → Prop), (∀ us tk, us.length = ss.length → StrsR us ss → Q us { s with toks := tk }) →
   wpAny (model C.prog C.w) A (spliced (backTo pos (starEach xs env))) Q E { s with toks := tk } := by
 induction xs with
 | nil => intro ss h pos tk Q k; cases h; exact wpAny_items_nil (k [] tk rfl ⟨λ y hy => (nomatch hy), λ k => rfl⟩)
 | cons x xs ih =>
   exact λ {ss} h pos tk Q k => zag h λ s0 h1 h => zbs h λ ss' h2 h => by
     subst h
     have g := hf x s0 h1
     exact wpAny_items_cons (g.2 tk _ λ t tk => ih h2 pos tk _ λ us tk hl r => k _ tk (congrArg Nat.succ hl) (r.cons s0 t)) (zie (by rw [g.1]; rfl))
theorem zpc {A : Around} {env : Env} {s : Shared} {s0 : List Nat} {k : Nat} {p : Pos} : zyk C A E env s (.Constant (.str (zam s0)) k p) s0 := ⟨rfl, λ tk Q q => wpAny_Constant_str (q _ _)⟩
theorem ztd {A : Around} {env : Env} {s : Shared} (x : Expr) (s0 : List Nat) (h : zCk x = some s0) : zyk C A E env s x s0 := by
 obtain ⟨kk, p, rfl, hl⟩ := zut h
 exact zpc
theorem ztx (g : Good C) (H : Here C P Γ σ n st w) (x : Expr) (s0 : List Nat) (h : zH0 P.fx.sc x = some s0) : zyk C P.A E P.env w.s x s0 := by
 unfold zH0 at h
 cases e : vw x with
 | cst c =>
   rw [e] at h
   obtain ⟨kk, p, rfl⟩ := zEd e
   rw [(zpt h).1]
   exact zpc
 | nam a =>
   rw [e] at h
   obtain ⟨p, rfl⟩ := zEd e
   refine zag h λ m hm h => zag h λ v hv h => zag h λ s1 hs h => zgr h λ hc h => zbf hc λ hk hp => ⟨rfl, λ tk Q q => ?_⟩
   subst h
   cases zcu hm
   cases zxs hs
   have G : w.s.heap.Ns P.env.globals C.mg := by rw [H.fr.globals]; exact H.rep.mg g
   obtain ⟨u, q1, _, t, rfl⟩ := g.gl.own _ _ hv
   exact Name_function_global H.knd (by show P.env.scope.names.lookup _ = _; rw [H.fr.scope]; exact zkc hk) (loadGlobal_global (s := { w.s with toks := tk }) G q1 (q t tk)) (zew hp)
 | _ => rw [e] at h; exact nn h
theorem zBg (g : Good C) (S : SEv C n) {neg isL : Bool} {ss : List (List Nat)} {es : List Expr} {k : Nat} {q : Pos} (h : evF C.T (mk C.T n) z Γ σ (.inl neg (er d P.fx.ek x) isL ss) st K) (hl : znk (if isL then zH0 P.fx.sc else zCk) es = some ss) (hn : Nat.ble ss.length 1000 = true) (H : Here C P Γ σ n st w) (hQ : QI C z w K Q) :
   zKk C P x (zxt neg) (if isL then .List es q else .Tuple es k q) Q E w.s :=
 S.go h H λ _ _ w1 u1 h a1 r1 => h.inv λ s0 e hK => zgk (G := λ u => wpAny (model C.prog C.w) P.A (eval (if isL then .List es q else .Tuple es k q) P.env) (λ v s => wpAny (model C.prog C.w) P.A (compareOp (zxt neg) u v) Q E s) E w1.s) e r1 λ t _ => by
   have k1 : ∀ {ob : Obj} (b : Addr) (o : Obj), w1.s.heap.get? b = some o → (w1.s.heap.push ob).get? b = some o := λ b o e => Heap.get?_push_of_some _ e
   cases isL with
   | true => exact wpAny_List (zNy (E := E) (ztx g (H.step a1)) hl _ w1.s.toks _ λ us tk ul r => ⟨by rw [ul]; exact fits hn, zq3 (.inl ⟨_, Heap.get?_push_size _ rfl, rfl, _, rfl⟩) r (hQ _ _ _ hK (a1.trans (Aft.side _ a1.rep k1)))⟩)
   | false => exact wpAny_Tuple (zNy (E := E) ztd hl _ w1.s.toks _ λ us tk ul r => ⟨by rw [ul]; exact fits hn, zq3 (.inr ⟨_, Heap.get?_push_size _ rfl, rfl, _, rfl⟩) r (hQ _ _ _ hK (a1.trans (Aft.side _ a1.rep k1)))⟩)
def zNi (C : Cx) (P : Pl) (z : Nat) (w : Wd) (K : KV) (x : Expr) (op : CmpOp) (y : Expr) : Prop := behindInMarks op y = false ∧ ∀ Q E, QI C z w K Q → zKk C P x op y Q E w.s
inductive CmpR (C : Cx) (P : Pl) (T : Tbl) (r : R) (d z : Nat) (Γ : zaw) (σ : zaf) (st : Store) (w : Wd) (K : KV) (x : Expr) : List CmpOp → List Expr → Prop
 | one {op : CmpOp} {y : Expr} : zNi C P z w K x op y → CmpR C P T r d z Γ σ st w K x [op] [y]
 | two {o1 o2 : CO} {y1 y2 : Expr} : (!zh5 y2) = true → evF T r z Γ σ (.chn (er d P.fx.ek x) o1 (er d P.fx.ek y1) o2 (er d P.fx.ek y2)) st K → CmpR C P T r d z Γ σ st w K x [cop o1, cop o2] [y1, y2]
theorem zFh (g : Good C) (S : SEv C n) {neg : Bool} (h : evF C.T (mk C.T n) z Γ σ (match vw y with
     | .tup es => zm1 (znk zCk es) λ ss => chk (Nat.ble ss.length 1000) (.inl neg (er d P.fx.ek x) false ss)
     | .lst es => zm1 (znk (zH0 P.fx.sc) es) λ ss => chk (Nat.ble ss.length 1000) (.inl neg (er d P.fx.ek x) true ss)
     | _ => chk (!zh5 y) (.inn neg (er d P.fx.ek x) (er d P.fx.ek y))) st K) (H : Here C P Γ σ n st w) : zNi C P z w K x (zxt neg) y := by
 have e := zma y
 generalize vw y = v at h e
 cases v with
 | tup es => obtain ⟨k, q, rfl⟩ := e; exact zcd h λ ss hl h => zbz h λ hn h => ⟨by cases neg <;> rfl, λ Q E hQ => zBg (isL := false) (q := q) g S h hl hn H hQ⟩
 | lst es => obtain ⟨q, rfl⟩ := e; exact zcd h λ ss hl h => zbz h λ hn h => ⟨by cases neg <;> rfl, λ Q E hQ => zBg (k := 0) (isL := true) g S h hl hn H hQ⟩
 | _ => exact zbz h λ hs h => ⟨zqg hs, λ Q E hQ => zGa g S h H hQ⟩
theorem zn1 (g : Good C) (S : SEv C n) {os : List CmpOp} {ys : List Expr} (h : evF C.T (mk C.T n) z Γ σ (er (d + 1) P.fx.ek (.Compare x os ys p)) st K) (H : Here C P Γ σ n st w) : CmpR C P C.T (mk C.T n) d z Γ σ st w K x os ys := by
 have e := zKu os ys
 change evF C.T (mk C.T n) z Γ σ (match cv os ys with | .one o z => _ | .two o z o2 z2 => _ | .no => _) st K at h
 generalize cv os ys = v at h e
 cases v with
 | no => exact False.elim h
 | one o y =>
   obtain ⟨rfl, rfl⟩ := e
   refine .one ?_
   have e : ∀ b, inI o = some b → zxt b = o := λ b => zJr
   change evF C.T (mk C.T n) z Γ σ (match inI o with | some neg => _ | none => _) st K at h
   generalize inI o = v at h e
   cases v with
   | none => exact zcd h λ op eo h => zbz h λ hs h => zqc eo ▸ ⟨zqg hs, λ Q E hQ => zGh S h H hQ⟩
   | some neg => exact e neg rfl ▸ zFh g S h H
 | two o y o2 y2 =>
   obtain ⟨rfl, rfl⟩ := e
   exact zcd h λ a ea h => zcd h λ b eb h => zbz h λ hs h => zqc ea ▸ zqc eb ▸ .two hs h
theorem zs4 (g : Good C) (S : SEv C n) {os : List CmpOp} {ys : List Expr} (h : evF C.T (mk C.T n) z Γ σ (er (d + 1) P.fx.ek (.Compare x os ys p)) st K) (H : Here C P Γ σ n st w) (hQ : QE C z w K Q) : wpAny (model C.prog C.w) P.A (eval (.Compare x os ys p) P.env) Q E w.s := by
 cases zn1 g S h H with
 | one k => exact wpAny_Compare1 (k.2 _ _ λ q st' w' hK a => hQ _ _ _ _ hK a (.bool q)) k.1
 | two hs h2 => exact zHk S h2 hs H hQ
noncomputable def zor : PE → Bool | .nott _ => true | .andd _ => true | .orr _ => true | .ite .. => true | _ => false
theorem zr4 {r : R} {e : PE} {K : Bool → Store → Prop} (h : trF r z Γ σ e st K) (hl : zor e = false) : r.ev z Γ σ e st λ v st => Opt (truthy v) λ q => K q st := by
 cases e <;> first | exact h | exact nomatch hl
theorem zdf {α : Type} {o : Option α} {f : α → PE} (h : ∀ a, zor (f a) = false) : zor (zm1 o f) = false := by cases o with | none => rfl | some a => exact h a
theorem zcr {b : Bool} {e : PE} (h : zor e = false) : zor (chk b e) = false := by cases b with | false => rfl | true => exact h
theorem zE1 {E : Ek} {x : Expr} {os : List CmpOp} {ys : List Expr} {p : Pos} : zor (er (d + 1) E (.Compare x os ys p)) = false := by
 show zor (match cv os ys with | .one o z => _ | .two o z o2 z2 => _ | .no => _) = false
 cases cv os ys with
 | no => rfl
 | two => exact zdf λ _ => zdf λ _ => zcr rfl
 | one o y =>
   show zor (match inI o with | some neg => _ | none => _) = false
   cases inI o with
   | none => exact zdf λ _ => zcr rfl
   | some neg =>
     show zor (match vw y with | .tup es => _ | .lst es => _ | _ => _) = false
     cases vw y with
     | tup => exact zdf λ _ => zcr rfl
     | lst => exact zdf λ _ => zcr rfl
     | _ => exact zcr rfl
theorem zyh {E : Ek} {a : Str} : zor (zt6 E a) = false := zdf λ k => zcr (by
 cases lkN a E.sc.names with
 | none => rfl
 | some kn => cases kn with
   | «local» => rfl
   | cell => exact zcr rfl
   | free => exact zcr rfl
   | globalImplicit => exact zdf λ _ => rfl
   | globalExplicit => rfl)
theorem zyx {E : Ek} {f : Expr} {as : List Expr} {ks : List Keyword} {p : Pos} : zor (er (d + 1) E (.Call f as ks p)) = false := by
 cases ks with
 | cons => rfl
 | nil =>
   show zor (match vw f with | .att y a ap => _ | _ => _) = false
   cases vw f with
   | att => exact zdf λ _ => zcr rfl
   | _ => exact zcr rfl
theorem zE2 {E : Ek} {o i : Expr} {p : Pos} : zor (er (d + 1) E (.Subscript o i p)) = false := by
 show zor (match vw i with | .slc l h t => _ | _ => _) = false
 cases vw i <;> rfl
theorem zCq {E : Ek} {c : Const} {k : Nat} {p : Pos} : zor (er (d + 1) E (.Constant c k p)) = false := by
 cases c <;> first | rfl | exact zcr rfl
inductive TV where | un (o : UnaryOp) (y : Expr) (p : Pos) | bo (o : BoolOp) (ys : List Expr) (p : Pos) | cm (y : Expr) (os : List CmpOp) (ys : List Expr) (p : Pos) | ie | pl
noncomputable def tv (x : Expr) : TV := match x with
 | .UnaryOp o y p => .un o y p
 | .BoolOp o ys p => .bo o ys p
 | .Compare y os ys p => .cm y os ys p
 | .IfExp .. => .ie
 | _ => .pl
noncomputable def zN6 (x : Expr) : TV → Prop
 | .un o y p => x = .UnaryOp o y p
 | .bo o ys p => x = .BoolOp o ys p
 | .cm y os ys p => x = .Compare y os ys p
 | .ie => ∃ c a b p, x = .IfExp c a b p
 | .pl => (∀ env e, isTrue x env e = (do let v ← e; standAt x.pos; holding [v] (PySem.truthy v))) ∧ ∀ d E, zor (er (d + 1) E x) = false
theorem zMv (x : Expr) : zN6 x (tv x) := by
 cases x with
 | UnaryOp => exact rfl
 | BoolOp => exact rfl
 | Compare => exact rfl
 | IfExp => exact ⟨_, _, _, _, rfl⟩
 | Name a p => exact ⟨λ _ _ => rfl, λ _ _ => zyh⟩
 | Constant c k p => exact ⟨λ _ _ => rfl, λ _ _ => zCq⟩
 | Call f as ks p => exact ⟨λ _ _ => rfl, λ _ _ => zyx⟩
 | Subscript o i p => exact ⟨λ _ _ => rfl, λ _ _ => zE2⟩
 | BinOp l o r p => exact ⟨λ _ _ => rfl, λ _ _ => zdf λ _ => rfl⟩
 | Dict ks vs p => exact ⟨λ _ _ => rfl, λ _ _ => zdf λ _ => zcr rfl⟩
 | List es p => exact ⟨λ _ _ => rfl, λ _ _ => zcr rfl⟩
 | Tuple es k p => exact ⟨λ _ _ => rfl, λ _ _ => zcr rfl⟩
 | ListComp e gs sc p => exact ⟨λ _ _ => rfl, λ _ _ => zdf λ _ => zdf λ _ => zcr rfl⟩
 | Attribute y a p => exact ⟨λ _ _ => rfl, λ _ _ => zdf λ _ => zcr rfl⟩
 | Lambda a b s p => exact ⟨λ _ _ => rfl, λ _ _ => zdf λ _ => rfl⟩
 | _ => exact ⟨λ _ _ => rfl, λ _ _ => rfl⟩
theorem zt1 (S : SEv C n) {K : Bool → Store → Prop} {Q : Bool → Shared → Prop} (h : trF (mk C.T n) z Γ σ (er d P.fx.ek x) st K) (hl : zor (er d P.fx.ek x) = false) (he : ∀ env e, isTrue x env e = (do let v ← e; standAt x.pos; holding [v] (PySem.truthy v))) (H : Here C P Γ σ n st w) (hQ : QB C z w K Q) :
   wpAny (model C.prog C.w) P.A (isTrue x P.env (eval x P.env)) Q E w.s :=
 isTrue_plain (S.go (zr4 h hl) H λ _ _ _ _ h a1 r1 => h.inv λ q e hK => ze4 e r1 (hQ _ _ _ hK a1)) (he _ _)
theorem zIy (T : STr C n) {K : Bool → Store → Prop} {Q : Bool → Shared → Prop} {ys : List Expr} (h : trF (mk C.T n) z Γ σ (.andd (ys.map (er d P.fx.ek))) st K) (H : Here C P Γ σ n st w) (hQ : QB C z w K Q) : wpAny (model C.prog C.w) P.A (isTrue (.BoolOp .And ys p) P.env (eval (.BoolOp .And ys p) P.env)) Q E w.s := by
 cases ys with
 | nil => exact isTrue_and_nil (hQ _ _ _ h (Aft.refl _ H.rep))
 | cons y ys => exact isTrue_and (T.go h H λ q _ _ h a1 => by
     cases q with
     | true => exact T.go (x := .BoolOp .And ys p) (d := d + 1) h (H.step a1) (hQ.after a1)
     | false => exact hQ _ _ _ h a1)
theorem zM1 (T : STr C n) {K : Bool → Store → Prop} {Q : Bool → Shared → Prop} {ys : List Expr} (h : trF (mk C.T n) z Γ σ (.orr (ys.map (er d P.fx.ek))) st K) (H : Here C P Γ σ n st w) (hQ : QB C z w K Q) : wpAny (model C.prog C.w) P.A (isTrue (.BoolOp .Or ys p) P.env (eval (.BoolOp .Or ys p) P.env)) Q E w.s := by
 cases ys with
 | nil => exact isTrue_or_nil (hQ _ _ _ h (Aft.refl _ H.rep))
 | cons y ys => exact isTrue_or (T.go h H λ q _ _ h a1 => by
     cases q with
     | false => exact T.go (x := .BoolOp .Or ys p) (d := d + 1) h (H.step a1) (hQ.after a1)
     | true => exact hQ _ _ _ h a1)
theorem zJg (g : Good C) (S : SEv C n) {K : Bool → Store → Prop} {Q : Bool → Shared → Prop} {os : List CmpOp} {ys : List Expr} (h : evF C.T (mk C.T n) z Γ σ (er (d + 1) P.fx.ek (.Compare x os ys p)) st λ v st => Opt (truthy v) λ q => K q st) (H : Here C P Γ σ n st w) (hQ : QB C z w K Q) :
   wpAny (model C.prog C.w) P.A (isTrue (.Compare x os ys p) P.env (eval (.Compare x os ys p) P.env)) Q E w.s := by
 cases zn1 g S h H with
 | one k => exact wpAny_isTrue_Compare1 (k.2 _ _ λ q st' w' hK a => wpAny_truthy_bool (hQ _ _ _ hK a)) k.1
 | two hs h2 =>
   exact isTrue_chain (S.go h2 H λ _ _ _ _ h a1 r1 => test_link (S.go h (H.step a1) λ _ _ _ _ h a2 r2 => h.inv λ q e h => zgy e a2.rep (r1.up a2) r2 H.room.u64 (wpAny_truthy_bool (by
     cases q with
     | false => exact hQ _ _ _ h (a1.trans a2)
     | true => exact test_last (S.go h (H.step (a1.trans a2)) λ _ _ _ _ h a3 r3 => h.inv λ _ e hK => zgy e a3.rep (r2.up a3) r3 H.room.u64 (wpAny_truthy_bool (hQ _ _ _ hK ((a1.trans a2).trans a3)))))))) (zwa hs)
theorem zyp (g : Good C) (S : ∀ k, k ≤ n → SEv C k) (T : STr C n) : STr C (n + 1) := by
 refine ⟨?_⟩
 intro P z Γ σ d x st K w Q E h H hQ
 cases d with
 | zero => exact zwl h
 | succ d =>
   have e := zMv x
   generalize tv x = v at e
   cases v with
   | pl => exact zt1 (S n (Nat.le_refl _)) h (e.2 _ _) e.1 H.dn hQ
   | ie => obtain ⟨c, a, b, p, rfl⟩ := e; exact False.elim h
   | un o y p =>
     cases e
     have h : trF (mk C.T n) z Γ σ (er (d + 1) P.fx.ek (.UnaryOp o y p)) st K := h
     cases o with
     | Not => exact isTrue_not (T.go h H.dn λ q st w' hK a => hQ _ _ _ hK a)
     | _ => exact zt1 (S n (Nat.le_refl _)) h rfl (λ _ _ => rfl) H.dn hQ
   | bo o ys p =>
     cases e
     cases o with
     | And => exact zIy T h H.dn hQ
     | Or => exact zM1 T h H.dn hQ
   | cm y os ys p =>
     cases e
     have h1 := zr4 h zE1
     cases n with
     | zero => exact False.elim h1
     | succ m => exact zJg g (S m (Nat.le_succ _)) h1 H.dn.dn hQ
end
section
variable {C : Cx} {P : Pl} {n d z : Nat} {Γ : zaw} {σ : zaf} {st st' : Store} {w w' : Wd} {K : KV} {Q : Value → Shared → Prop} {E : Value → Shared → Prop} {p : Pos}
structure PairsR (ρ : List Addr) (ks : List (List Nat)) (vs : List AV) (ps : List (Value × Value)) : Prop where
 all : allStrKeys ps = true
 rel : VKs ρ (ks.zip vs) (strPairs ps)
 keys : (strPairs ps).map (·.1) = ks.map zam
structure SPr (C : Cx) (n : Nat) : Prop where
 go : ∀ {P : Pl} {z : Nat} {Γ : zaw} {σ : zaf} {d : Nat} {kx : List (Option Expr)} {ks : List (List Nat)} {xs : List Expr} {st : Store} {K : List AV → Store → Prop} {w : Wd} {Q : List (Value × Value) → Shared → Prop} {E : Value → Shared → Prop} {pos : Pos},
   (mk C.T n).evs z Γ σ (xs.map (er d P.fx.ek)) st K → znk zIv kx = some ks → kx.length = xs.length → Here C P Γ σ n st w → (∀ vs st' w' ps, K vs st' → Aft C z NoX w st' w' → PairsR w'.ρ ks vs ps → Q ps w'.s) →
   wpAny (model C.prog C.w) P.A (evalPairs (pairTrees kx xs P.env pos)) Q E w.s
theorem zCv {o : Option Expr} {s : List Nat} (h : zIv o = some s) : ∃ k p, o = some (.Constant (.str (zam s)) k p) ∧ s.length ≤ 1000 := by
 cases o with
 | none => exact nn h
 | some x => obtain ⟨k, p, e, l⟩ := zut h; exact ⟨k, p, congrArg some e, l⟩
theorem zzf (S : SEv C n) (T : SPr C n) : SPr C (n + 1) := by
 refine ⟨?_⟩
 intro P z Γ σ d kx ks xs st K w Q E pos h hk hl H hQ
 cases kx with
 | nil =>
   cases hk
   cases xs with
   | cons => exact nomatch hl
   | nil => exact pairTrees_nil_walk (hQ _ _ w _ h (Aft.refl _ H.rep) ⟨rfl, .nil, rfl⟩)
 | cons k kx =>
   cases xs with
   | nil => exact nomatch hl
   | cons x xs =>
     exact zag hk λ s0 h1 hk => zbs hk λ ks' h2 hk => by
       subst hk
       obtain ⟨kk, p, rfl, hs⟩ := zCv h1
       have a0 := Aft.tk (C := C) (z := z) NoX H.rep (w.s.toks + 1)
       refine pairTrees_cons_walk (wpAny_Constant_str (S.go (w := ⟨w.ρ, { w.s with toks := w.s.toks + 1 }⟩) h (H.dn.step a0) λ v _ w1 u1 h a1 r1 => T.go h h2 (Nat.succ.inj hl) ((H.dn.step a0).step a1) λ vs _ w2 ps h a2 q => ?_))
       exact hQ _ _ _ _ h ((a0.trans a1).trans a2) ⟨q.all, .cons hs (r1.up a2) q.rel, congrArg (_ :: ·) q.keys⟩
theorem zyu {kx : List (Option Expr)} : ∀ {ks : List (List Nat)}, znk zIv kx = some ks → kx.all (·.isSome) = true := by
 induction kx with
 | nil => exact λ _ => rfl
 | cons k kx ih =>
   exact λ h => zag h λ y h1 h => zbs h λ r h2 h => by
     cases k with
     | none => exact nn h1
     | some x => exact ih h2
theorem zu6 {a : Addr} {ob : Obj} {es : List (List Nat × AV)} {kvs : List (Str × Value)} {h' : Heap} {w0 : Wd} (A0 : Aft C z NoX w0 st w) (N : New C w.ρ a) (h0 : w0.s.heap.get? a = none) (ha : w.s.heap.get? a = some ob) (hn : zfb ob) (hs : Heap.SameBut a w.s.heap h') (hv : VKs w.ρ es kvs) (hd : h'.DictOf (strKind C.prog C.w) a kvs) {tk : Tok} :
   Aft C z NoX w0 (st.add (.dict es)) ⟨w.ρ ++ [a], { w.s with heap := h', toks := tk }⟩ := by
 obtain ⟨ob', f1, f2⟩ := Heap.dictOf_iff.mp hd
 refine ⟨(Step.join (s' := { w.s with heap := h', toks := tk }) ⟨A0.step.pre, A0.step.new, λ b o e q1 q2 q3 => ?_, λ b o e => ?_, A0.step.gens, A0.step.os⟩ h0), A0.rep.adopt N (λ b o hb e => (hs.2 b hb).trans e) (λ cd q x => zeo x ha hn λ b o hb e => (hs.2 b hb).trans e) f1 ⟨kvs, hv, f2⟩⟩
 · exact (hs.2 b (by rintro rfl; rw [h0] at e; cases e)).trans (A0.step.keep b o e q1 q2 q3)
 · exact (A0.step.alive b o e).elim λ o' e' => ⟨o', (hs.2 b (by rintro rfl; rw [h0] at e; cases e)).trans e'⟩
theorem zI8 (T : SPr C n) {kx : List (Option Expr)} {ks : List (List Nat)} {xs : List Expr} (h : evF C.T (mk C.T n) z Γ σ (.dct ks (xs.map (er d P.fx.ek))) st K) (hk : znk zIv kx = some ks) (hl : kx.length = xs.length) (h15 : kx.length ≤ 15) (H : Here C P Γ σ n st w) (hQ : QE C z w K Q) :
   wpAny (model C.prog C.w) P.A (eval (.Dict kx xs p) P.env) Q E w.s := by
 have ob0 : ({ cls := .type "dict", data := .dict #[] } : Obj).IsDictOf (strKind C.prog C.w) [] := ⟨#[], 0, ⟨rfl, rfl, rfl⟩, rfl, λ e he => by simp at he, .nil, List.nodup_nil⟩
 have N := H.rep.beyond (Nat.le_refl w.s.heap.objs.size)
 have h0 : w.s.heap.get? w.s.heap.objs.size = none := zcg (Nat.le_refl _)
 cases kx with
 | nil =>
   cases hk
   cases xs with
   | cons => exact nomatch hl
   | nil =>
     cases n with
     | zero => exact False.elim h
     | succ n =>
       have h : Chk (decide (([] : List (List Nat)).length = ([] : List AV).length ∧ ([] : List (List Nat)).length ≤ 15 ∧ ([] : List (List Nat)).Nodup)) (K (.ref st.n) (st.add (.dict []))) := h
       exact h.inv λ _ hK => wpAny_Dict_empty ((hQ.of hK).push (o := .dict []) H.rep _ rfl ⟨[], .nil, ob0⟩)
 | cons k kx =>
   have a0 : Aft C z NoX w st ⟨w.ρ, { w.s with heap := w.s.heap.push { cls := .type "dict", data := .dict #[] } }⟩ := Aft.side _ H.rep λ b o e => Heap.get?_push_of_some _ e
   have hob : (w.s.heap.push { cls := .type "dict", data := .dict #[] }).get? w.s.heap.objs.size = some { cls := .type "dict", data := .dict #[] } := Heap.get?_push_size _ rfl
   refine wpAny_Dict_walk (knd := strKind C.prog C.w) (zyu hk) hl (List.cons_ne_nil _ _) h15 (T.go (w := ⟨w.ρ, _⟩) h hk hl (H.step a0) λ vs st1 w1 ps h a1 q => h.inv λ hc hK => ?_)
   · have hc := of_decide_eq_true hc
     have N1 : New C w1.ρ w.s.heap.objs.size := ⟨a1.step.out hob N.out, N.tab, N.old⟩
     have h1 : w1.s.heap.get? w.s.heap.objs.size = some { cls := .type "dict", data := .dict #[] } := a1.step.at hob N.out N.tab λ q => q
     have nd : ((strPairs ps).map (·.1)).Nodup := by
       rw [q.keys]
       exact List.Pairwise.map _ (λ a b hab e => hab (zfj.mp e)) hc.2.2
     exact display_done_str q.all nd (Heap.dictOf_iff.mpr ⟨_, h1, ob0⟩) λ h' d' hs => hQ _ _ _ _ hK (zu6 (a0.trans a1) N1 h0 h1 (λ vs e => nomatch e) hs q.rel d') (zg1 a1.rep _)
end
noncomputable def zHw (ρ : List Addr) (l : FL) (f : Flow) : Prop := match l with
 | .next => f = .next
 | .ret v => ∃ u, VR ρ v u ∧ f = .ret u
abbrev AtX (L : Addr) : Addr → Prop := λ b => b = L
section
variable (C : Cx)
def QX (z : Nat) (w : Wd) (L : Addr) (K : KX) (Q : Flow → Shared → Prop) : Prop := ∀ fl σ st w' f, K fl σ st → Aft C z (AtX L) w st w' → Loc C σ w'.ρ L w'.s.heap → zHw w'.ρ fl f → Q f w'.s
def QT (z : Nat) (w : Wd) (L : Addr) (st : Store) (σ : zaf) (Q : Unit → Shared → Prop) : Prop := ∀ w', Aft C z (AtX L) w st w' → Loc C σ w'.ρ L w'.s.heap → Q () w'.s
structure SExec (n : Nat) : Prop where
 go : ∀ {P : Pl} {z : Nat} {Γ : zaw} {σ : zaf} {d : Nat} {x : Stmt} {st : Store} {K : KX} {w : Wd} {Q : Flow → Shared → Prop} {E : Value → Shared → Prop}, (mk C.T n).exec z Γ σ (erS d P.fx.ek x) st K → Here C P Γ σ n st w → QX C z w P.env.locals K Q → wpAny (model C.prog C.w) P.A (exec x P.env) Q E w.s
structure SExecs (n : Nat) : Prop where
 go : ∀ {P : Pl} {z : Nat} {Γ : zaw} {σ : zaf} {d : Nat} {xs : List Stmt} {st : Store} {K : KX} {w : Wd} {Q : Flow → Shared → Prop} {E : Value → Shared → Prop}, (mk C.T n).execs z Γ σ (xs.map (erS d P.fx.ek)) st K → Here C P Γ σ n st w → QX C z w P.env.locals K Q → wpAny (model C.prog C.w) P.A (execs xs P.env) Q E w.s
end
section
variable {C : Cx} {P : Pl} {n d z : Nat} {Γ : zaw} {σ σ' : zaf} {st st' : Store} {w w' : Wd} {K : KX} {Q : Flow → Shared → Prop} {E : Value → Shared → Prop} {v : AV} {u : Value} {x y : Expr} {p q : Pos}
theorem QX.after {L : Addr} (h : QX C z w L K Q) (a : Aft C z (AtX L) w st w') : QX C z w' L K Q := λ fl σ st w2 f k b l q => h fl σ st w2 f k (a.trans b) l q
theorem zp0 (S : SExec C n) (Ss : SExecs C n) : SExecs C (n + 1) := by
 refine ⟨?_⟩
 intro P z Γ σ d xs st K w Q E h H hQ
 cases xs with
 | nil => exact wpAny_execs_nil (hQ _ _ _ _ .next h (Aft.refl _ H.rep) H.loc rfl)
 | cons x xs =>
   refine wpAny_execs_cons (S.go h H.dn λ fl σ1 st1 w1 f h a1 l1 q1 => ?_)
   cases fl with
   | next => cases q1; exact Ss.go h (H.dn.stepL a1 l1) (hQ.after a1)
   | ret v => obtain ⟨u, r, rfl⟩ := q1; exact hQ _ _ _ _ _ h a1 l1 ⟨u, r, rfl⟩
theorem zkt {v : Expr} {t : Option Expr} {l : Nat} {env : Env} (h : (!zjl v) = true) : swapsWith v t l env = pure false := by
 cases v <;> first | rfl | exact nb h
theorem zww (x y : Nat) (v : AV) : ∀ σ : zaf, lk y (putL x v σ) = if Nat.beq x y then some v else lk y σ
 | [] => by
   show (match Nat.beq x y with | true => some v | false => none) = _
   cases Nat.beq x y <;> rfl
 | (m, w) :: r => by
   have ih := zww x y v r
   unfold putL at ih ⊢
   unfold zxv
   split
   · rename_i hm
     subst hm
     show (match Nat.beq m y with | true => some v | false => lk y r) = if Nat.beq m y then some v else (match Nat.beq m y with | true => some w | false => lk y r)
     cases Nat.beq m y <;> rfl
   · rename_i hm
     show (match Nat.beq m y with | true => some w | false => lk y (zxv x v r)) = if Nat.beq x y then some v else (match Nat.beq m y with | true => some w | false => lk y r)
     cases h : Nat.beq m y with
     | false => exact ih
     | true =>
       have e := ebx h
       subst e
       rw [if_neg (λ q => hm (ebx q).symm)]
theorem zdq {k : Nat} {Q : Unit → Shared → Prop} (H : Here C P Γ σ n st w) (hk : P.env.kindOf (nm k) = some .local) (rv : VR w.ρ v u) (hQ : QT C z w P.env.locals st (putL k v σ) Q) : wpAny (model C.prog C.w) P.A (storeName P.env (nm k) u) Q E w.s := by
 obtain ⟨⟨m, hn, hv⟩, h1, h2, h3⟩ := H.loc
 obtain ⟨o, es, ep, ho, hd, hr⟩ := id hn
 refine wpAny_storeName_local hk hn (λ h' hn' hs => ?_) (by rw [H.knd]; rfl)
 have keep : ∀ b o, b ≠ P.env.locals → w.s.heap.get? b = some o → h'.get? b = some o := λ b o hb e => (hs.2 b hb).trans e
 refine hQ ⟨w.ρ, { w.s with heap := h', toks := w.s.toks + 1 }⟩ ⟨{ Step.refl (C := C) (z := z) (AtX P.env.locals) w.ρ w.s with keep := λ b o e _ _ hx => keep b o hx e, alive := λ b o e => ?_, gens := rfl, os := rfl }, H.rep.side (λ b o e => keep b o (by rintro rfl; rw [h3] at e; cases e) (H.rep.stays b o e)) (λ i b o hi e => keep b o (by rintro rfl; exact h1 i hi) e) (λ cd q x => zeo x ho (λ vs e => by rw [hd] at e; cases e) keep) λ b o hb e => keep b o (by rintro rfl; exact h2 hb) e⟩ ⟨⟨_, hn', λ y vy hy => ?_⟩, h1, h2, h3⟩
 · by_cases q : b = P.env.locals
   · subst q
     obtain ⟨o', _, _, e', _⟩ := hn'
     exact ⟨o', e'⟩
   · exact ⟨o, keep b o q e⟩
 · rw [zww] at hy
   by_cases hyx : Nat.beq k y = true
   · rw [if_pos hyx] at hy
     cases ebx hyx
     cases hy
     exact ⟨u, if_pos rfl, rv⟩
   · rw [if_neg hyx] at hy
     exact (hv y vy hy).elim λ u q => ⟨u, (if_neg λ e => hyx (by rw [zo2 e]; exact Nat.beq_refl k)).trans q.1, q.2⟩
theorem zlq {k i : Nat} {o : Option AV} {Q : Unit → Shared → Prop} (H : Here C P Γ σ n st w) (hk : P.env.kindOf (nm k) = some .cell) (hx : P.fx.dom.contains k = true) (hi : lk k Γ = some i) (hc : st.cl i = some o) (hz : z ≤ i) (rv : VR w.ρ v u)
   (hQ : QU C z w (st.set i (.cell (some v))) Q) : wpAny (model C.prog C.w) P.A (storeName P.env (nm k) u) Q E w.s :=
 (H.fr.cells k i (List.contains_iff_mem.mp hx) hi).elim λ a q => H.rep.cl hc λ b ob t => by
   cases t.ix.eq q.2
   have : ∃ v₀, ob.data = .cell v₀ := by
     cases o with
     | none => exact ⟨_, t.rel⟩
     | some x => exact t.rel.elim λ u h => ⟨_, h.2⟩
   obtain ⟨v₀, hd⟩ := this
   refine wpAny_storeName_cell H.knd hk q.1 ⟨ob, t.at_, hd⟩ λ h' hic hs => ?_
   obtain ⟨ob', f1, f2⟩ := hic
   exact hQ ⟨w.ρ, _⟩ ⟨Step.set hz q.2 f1 hs rfl rfl, H.rep.set q.2 t.at_ (zpg hd) hs f1 ⟨u, rv, f2⟩⟩
theorem Aft.loc (a : Aft C z NoX w st' w') (H : Here C P Γ σ n st w) : Loc C σ w'.ρ P.env.locals w'.s.heap := H.loc.step a.step λ q => q
theorem zGp (S : SEv C n) (h : zd9 C.T (mk C.T n) z Γ σ (.exp (er d P.fx.ek x)) st K) (hc : (!zjl x) = true) (H : Here C P Γ σ n st w) (hQ : QX C z w P.env.locals K Q) : wpAny (model C.prog C.w) P.A (exec (.Expr x p) P.env) Q E w.s :=
 wpAny_Expr_any (S.go h H λ _ _ _ _ hK a1 r1 => hQ _ _ _ _ .next hK a1.toL (a1.loc H) rfl) (by unfold interactive; rw [H.knd]; rfl) (zkt hc)
theorem zJ6 (S : SEv C n) (h : zd9 C.T (mk C.T n) z Γ σ (.ret (er d P.fx.ek x)) st K) (H : Here C P Γ σ n st w) (hQ : QX C z w P.env.locals K Q) : wpAny (model C.prog C.w) P.A (exec (.Return (some x) p) P.env) Q E w.s :=
 wpAny_Return_some (S.go h H λ _ _ _ u hK a1 r1 => hQ _ _ _ _ (.ret u) hK a1.toL (a1.loc H) ⟨u, r1, rfl⟩)
theorem zHz (S : SEv C n) {k : Nat} (h : zd9 C.T (mk C.T n) z Γ σ (.asg k (er d P.fx.ek x)) st K) (hk : P.env.kindOf (nm k) = some .local) (hs : swapsWith x (some (.Name (nm k) q)) p.line P.env = pure false) (H : Here C P Γ σ n st w) (hQ : QX C z w P.env.locals K Q) :
   wpAny (model C.prog C.w) P.A (exec (.Assign [.Name (nm k) q] x p) P.env) Q E w.s :=
 wpAny_Assign_Name (S.go h H λ _ _ _ _ hK a1 r1 => zdq (H.step a1) hk r1 λ _ a2 l2 => hQ _ _ _ _ .next hK (a1.toL.trans a2) l2 rfl) hs
theorem zvy {v : Expr} {t : Str} {q : Pos} {l : Nat} {env : Env} (h : env.kindOf t = some .cell) : swapsWith v (some (.Name t q)) l env = pure false := by
 have e : (env.kindOf t == some NameKind.local) = false := by rw [h]; rfl
 cases v <;> first | rfl | (unfold swapsWith; dsimp only; rw [e]; simp)
theorem zKe (S : SEv C n) {k : Nat} (h : zd9 C.T (mk C.T n) z Γ σ (.asc k (er d P.fx.ek x)) st K) (hk : P.env.kindOf (nm k) = some .cell) (hd : P.fx.dom.contains k = true) (H : Here C P Γ σ n st w) (hQ : QX C z w P.env.locals K Q) :
   wpAny (model C.prog C.w) P.A (exec (.Assign [.Name (nm k) q] x p) P.env) Q E w.s :=
 wpAny_Assign_Name (S.go h H λ _ _ _ _ h a1 r1 => h.inv λ i hi h => h.inv λ o ho h => h.inv λ hz hK => zlq (H.step a1) hk hd hi ho (blx hz) r1 λ _ a2 => hQ _ _ _ _ .next hK (a1.trans a2).toL ((a1.trans a2).loc H) rfl) (zvy hk)
theorem zx4 {v o : Expr} {t : Str} {q : Pos} {l : Nat} {env : Env} : swapsWith v (some (.Attribute o t q)) l env = pure false := by
 cases v <;> rfl
theorem zyr {v o i : Expr} {q : Pos} {l : Nat} {env : Env} : swapsWith v (some (.Subscript o i q)) l env = pure false := by
 cases v <;> rfl
theorem zJq (g : Good C) (S : SEv C n) {k : Nat} (h : zd9 C.T (mk C.T n) z Γ σ (.asa (er d P.fx.ek y) k (er d P.fx.ek x)) st K) (H : Here C P Γ σ n st w) (hQ : QX C z w P.env.locals K Q) : wpAny (model C.prog C.w) P.A (exec (.Assign [.Attribute y (nm k) q] x p) P.env) Q E w.s :=
 plainObj_wpAny_Assign_Attribute (S.go h H λ _ _ _ _ h a1 r1 => S.go h (H.step a1) λ _ _ _ _ h a2 r2 => h.inv λ _ e hK => zmw g e a2.rep r2 (r1.up a2) λ _ a3 => hQ _ _ _ _ .next hK ((a1.trans a2).trans a3).toL (((a1.trans a2).trans a3).loc H) rfl) zx4
theorem ztp {prog : Program} {wd : World} {A : Around} {s : Shared} {env : Env} {o i value : Expr} {pos' pos : Pos}
   (h : wpAny (model prog wd) A (eval value env) (λ v s₁ => wpAny (model prog wd) A (eval o env) (λ ov s₂ => wpAny (model prog wd) A (eval i env) (λ iv s₃ => wpAny (model prog wd) A (setItem ov iv v) (λ _ => Q .next) E s₃) E s₂) E s₁) E s) :
   wpAny (model prog wd) A (exec (.Assign [.Subscript o i pos'] value pos) env) Q E s := by
 rw [exec_Assign_Subscript _ _ _ _ _ zyr]
 refine wpAny_bind (wpAny_standAt (wpAny_bind (wpAny_mono h (λ v s₁ h₁ => ?_) λ _ _ e => e)))
 rw [assign_Subscript]
 refine wpAny_bind (wpAny_bind (wpAny_holding (wpAny_mono h₁ (λ ov s₂ h₂ => ?_) λ _ _ e => e)))
 refine wpAny_bind (wpAny_holding (wpAny_mono h₂ (λ iv s₃ h₃ => ?_) λ _ _ e => e))
 refine wpAny_bind (wpAny_standAt (wpAny_bind (wpAny_holding (wpAny_mono h₃ (λ _ s₄ h₄ => ?_) λ _ _ e => e))))
 exact wpAny_release' (wpAny_pure h₄)
theorem zI6 (g : Good C) (S : SEv C n) {b : Expr} (h : zd9 C.T (mk C.T n) z Γ σ (.asi (er d P.fx.ek y) (er d P.fx.ek b) (er d P.fx.ek x)) st K) (H : Here C P Γ σ n st w) (hQ : QX C z w P.env.locals K Q) : wpAny (model C.prog C.w) P.A (exec (.Assign [.Subscript y b q] x p) P.env) Q E w.s :=
 ztp (S.go h H λ _ _ _ _ h a1 r1 => S.go h (H.step a1) λ _ _ _ _ h a2 r2 => S.go h ((H.step a1).step a2) λ _ _ _ _ h a3 r3 => h.inv λ _ e hK => zp7 g e a3.rep (r2.up a3) r3 ((r1.up a2).up a3) λ _ a4 => hQ _ _ _ _ .next hK (((a1.trans a2).trans a3).trans a4).toL ((((a1.trans a2).trans a3).trans a4).loc H) rfl)
theorem zuj {A : Around} {op : BO} {old v r : AV} {u0 u1 : Value} {Q : Value → Shared → Prop} (h : zIf op old v = some r) (R : Rep C w.ρ st w.s.heap) (r0 : VR w.ρ old u0) (r1 : VR w.ρ v u1) (hQ : QV C z w st r Q) : wpAny (model C.prog C.w) A (inplaceOp (bop op) u0 u1) Q E w.s := by
 cases op with
 | add => exact zag h λ i hi h => zbs h λ j hj h => zcc (G := λ u0 => wpAny (model C.prog C.w) A (inplaceOp .Add u0 u1) Q E w.s) hi r0 λ t => zcc (G := λ u1 => wpAny (model C.prog C.w) A (inplaceOp .Add (.int i t) u1) Q E w.s) hj r1 λ t' => by subst h; exact AutoIntOps.iadd_0 (hQ.tk R _ (.int _ _))
 | sub => exact zag h λ i hi h => zbs h λ j hj h => zcc (G := λ u0 => wpAny (model C.prog C.w) A (inplaceOp .Sub u0 u1) Q E w.s) hi r0 λ t => zcc (G := λ u1 => wpAny (model C.prog C.w) A (inplaceOp .Sub (.int i t) u1) Q E w.s) hj r1 λ t' => by subst h; exact AutoIntOps.isub_0 (hQ.tk R _ (.int _ _))
 | _ => exact nn h
theorem zGz (S : SEv C n) {k : Nat} {op : BO} (h : zd9 C.T (mk C.T n) z Γ σ (.aug k op (er d P.fx.ek x)) st K) (hk : P.env.kindOf (nm k) = some .local) (H : Here C P Γ σ n st w) (hQ : QX C z w P.env.locals K Q) : wpAny (model C.prog C.w) P.A (exec (.AugAssign (.Name (nm k) q) (bop op) x p) P.env) Q E w.s :=
 Opt.inv h λ old ho h => by
   obtain ⟨m, hm, hv⟩ := H.loc.ns
   obtain ⟨u0, g1, g2⟩ := hv _ _ ho
   exact wpAny_AugAssign_Name (wpAny_loadName_local H.knd hk hm g1 (S.go h H λ _ _ _ _ h a1 r1 => h.inv λ r e hK => zuj e a1.rep (g2.up a1) r1 λ _ _ a2 r2 => zdq (H.step (a1.trans a2)) hk r2 λ _ a3 l3 => hQ _ _ _ _ .next hK ((a1.trans a2).toL.trans a3) l3 rfl))
theorem zJe (T : STr C n) (Ss : SExecs C n) {a b : List Stmt} {d' : Nat} (h : zd9 C.T (mk C.T n) z Γ σ (.iff (er d P.fx.ek x) (a.map (erS d' P.fx.ek)) (b.map (erS d' P.fx.ek))) st K) (H : Here C P Γ σ n st w) (hQ : QX C z w P.env.locals K Q) : wpAny (model C.prog C.w) P.A (exec (.If x a b p) P.env) Q E w.s :=
 wpAny_If (T.go h H λ q _ _ h a1 => by
   cases q with
   | true => exact Ss.go h (H.step a1) (hQ.after a1.toL)
   | false => exact Ss.go h (H.step a1) (hQ.after a1.toL))
theorem zjt {G : Expr → Prop} {t : Bool × Nat} (h : zs6 P.fx.sc P.fx.dom x = some t) (H : Here C P Γ σ n st w) (k1 : ∀ p, t.1 = false → P.env.kindOf (nm t.2) = some .local → G (.Name (nm t.2) p)) (k2 : ∀ p, t.1 = true → P.env.kindOf (nm t.2) = some .cell → P.fx.dom.contains t.2 = true → G (.Name (nm t.2) p)) : G x := by
 unfold zs6 at h
 have e := zma x
 generalize vw x = v at h e
 cases v with
 | nam a =>
   obtain ⟨p, rfl⟩ := e
   refine zag h λ k hk h => ?_
   cases zcu hk
   have e : ∀ kn, lkN (nm k) P.fx.sc.names = some kn → P.env.kindOf (nm k) = some kn := λ kn => H.nam
   generalize lkN (nm k) P.fx.sc.names = o at h e
   cases o with
   | none => exact nn h
   | some kn => cases kn with
     | «local» => cases h; exact k1 p rfl (e _ rfl)
     | cell => exact zgr h λ hd h => by subst h; exact k2 p rfl (e _ rfl) hd
     | _ => exact nn h
 | _ => exact nn h
theorem zl0 {t : Bool × Nat} {ts : List (Bool × Nat)} {vs : List AV} {r : zaf × Store} {Q : Unit → Shared → Prop} (h : zs6 P.fx.sc P.fx.dom x = some t) (hs : zbe z Γ (t :: ts) (v :: vs) σ st = some r) (rv : VR w.ρ v u) (H : Here C P Γ σ n st w)
   (hQ : ∀ σ' st' w', zbe z Γ ts vs σ' st' = some r → Aft C z (AtX P.env.locals) w st' w' → Here C P Γ σ' n st' w' → Q () w'.s) : wpAny (model C.prog C.w) P.A (assign x P.env u) Q E w.s := by
 refine zjt (G := λ x => wpAny (model C.prog C.w) P.A (assign x P.env u) Q E w.s) h H (λ p e hk => ?_) λ p e hk hd => ?_
 · obtain ⟨b, k⟩ := t
   cases e
   exact wpAny_assign_Name (zdq H hk rv λ w' a l => hQ _ _ w' hs a (H.stepL a l))
 · obtain ⟨b, k⟩ := t
   cases e
   refine zag hs λ i hi hs => zag hs λ o ho hs => ?_
   cases hz : Nat.ble z i with
   | false => rw [hz] at hs; exact nn hs
   | true => rw [hz] at hs; exact wpAny_assign_Name (zlq H hk hd hi ho (blx hz) rv λ w' a => hQ _ _ w' hs a.toL (H.step a))
theorem zon : ∀ {xs : List Expr} {ts : List (Bool × Nat)}, znk (zs6 P.fx.sc P.fx.dom) xs = some ts → Here C P Γ σ n st w → (assignEach xs P.env).findIdx? (·.1) = none ∧ (assignEach xs P.env).length = ts.length
 | [], _, h, _ => by cases h; exact ⟨rfl, rfl⟩
 | x :: xs, _, h, H => zag h λ t ht h => zbs h λ ts h2 h => by
   subst h
   have ih := zon h2 H
   have one : assignEach (x :: xs) P.env = (false, assign x P.env) :: assignEach xs P.env := zjt (G := λ x => assignEach (x :: xs) P.env = (false, assign x P.env) :: assignEach xs P.env) ht H (λ _ _ _ => rfl) λ _ _ _ _ => rfl
   rw [one]
   exact ⟨by rw [List.findIdx?_cons]; simp [ih.1], congrArg Nat.succ ih.2⟩
theorem zne {xs : List Expr} : ∀ {ts : List (Bool × Nat)} {vs : List AV} {us : List Value} {σ : zaf} {st : Store} {w : Wd} {r : zaf × Store} {Q : Unit → Shared → Prop}, znk (zs6 P.fx.sc P.fx.dom) xs = some ts → zbe z Γ ts vs σ st = some r → VRs w.ρ vs us → Here C P Γ σ n st w → QT C z w P.env.locals r.2 r.1 Q →
   wpAny (model C.prog C.w) P.A (assignInOrder ((assignEach xs P.env).map (·.2)) us) Q E w.s := by
 induction xs with
 | nil =>
   intro ts vs us σ st w r Q ht hs rv H hQ
   cases ht
   cases rv with
   | cons => exact nn hs
   | nil => cases hs; exact assignInOrder_nil (hQ w (Aft.refl _ H.rep) H.loc)
 | cons x xs ih =>
   intro ts vs us σ st w r Q ht hs rv H hQ
   refine zag ht λ t h1 ht => zbs ht λ ts' h2 ht => ?_
   subst ht
   cases rv with
   | nil => exact nn hs
   | cons a rv =>
     have one : assignEach (x :: xs) P.env = (false, assign x P.env) :: assignEach xs P.env := zjt (G := λ x => assignEach (x :: xs) P.env = (false, assign x P.env) :: assignEach xs P.env) h1 H (λ _ _ _ => rfl) λ _ _ _ _ => rfl
     rw [one]
     exact assignInOrder_cons (zl0 h1 hs a H λ σ' st' w' hs a1 H' => ih h2 hs (rv.up a1) H' λ w2 a2 l2 => hQ w2 (a1.trans a2) l2)
theorem zy7 : ∀ (ts : List (Bool × Nat)) (vs : List AV) {σ : zaf} {st : Store} {r : zaf × Store}, zbe z Γ ts vs σ st = some r → ts.length = vs.length := by
 intro ts
 induction ts with
 | nil => exact λ vs _ _ _ h => by cases vs; rfl; exact nn h
 | cons t ts ih =>
 intro vs σ st r h
 obtain ⟨b, x⟩ := t
 cases vs with
 | nil => cases b <;> exact nn h
 | cons v vs =>
 cases b with
 | false => exact congrArg Nat.succ (ih vs (σ := putL x v σ) h)
 | true =>
   refine zag h λ i _ h => zag h λ _ _ h => ?_
   cases hz : Nat.ble z i with
   | false => rw [hz] at h; exact nn h
   | true => rw [hz] at h; exact congrArg Nat.succ (ih vs h)
theorem zmn {s : Shared} {h' : Heap} (h : Heap.ExtBut s.heap.objs.size s.heap h') : ∀ b o, s.heap.get? b = some o → h'.get? b = some o := λ b o e => h b o (Nat.ne_of_lt (Heap.lt_size e)) e
theorem zjy {t : Bool × List (Bool × Nat)} {r : zaf × Store} {Q : Unit → Shared → Prop} (ht : zus P.fx.sc P.fx.dom x = some t) (hs : zgo z Γ t.1 t.2 v σ st = some r) (rv : VR w.ρ v u) (H : Here C P Γ σ n st w) (hQ : QT C z w P.env.locals r.2 r.1 Q) :
   wpAny (model C.prog C.w) P.A (assign x P.env u) Q E w.s := by
 unfold zus at ht
 have e := zma x
 have one : ∀ {t : Bool × List (Bool × Nat)}, (zs6 P.fx.sc P.fx.dom x).map (λ p => (false, [p])) = some t → zgo z Γ t.1 t.2 v σ st = some r → wpAny (model C.prog C.w) P.A (assign x P.env u) Q E w.s := λ ht hs => zbs ht λ p hp ht => by
   subst ht
   exact zl0 (vs := []) (ts := []) hp hs rv H λ σ' st' w' hs a H' => by cases hs; exact hQ w' a H'.loc
 generalize vw x = o at ht e
 cases o with
 | tup es =>
   obtain ⟨k, p, rfl⟩ := e
   refine zbs ht λ ts h1 ht => ?_
   subst ht
   refine zag hs λ i hi hs => zag hs λ vs hx hs => zd8 (G := λ u => wpAny (model C.prog C.w) P.A (assign (.Tuple es k p) P.env u) Q E w.s) hi rv λ a e1 => H.rep.tp hx e1 λ ob us m l => ?_
   have st2 := zon h1 H
   show wpAny _ P.A (do standAt p; unpack (.ref a) (assignEach es P.env)) Q E w.s
   refine wpAny_bind (wpAny_standAt (unpack_tuple H.room.handled l.is (by rw [st2.2, zy7 _ _ hs, List.size_toArray, l.seq.items.length]) st2.1 λ h' he => ?_))
   have a0 : Aft C z (AtX P.env.locals) w st ⟨w.ρ, { w.s with heap := h' }⟩ := Aft.side _ H.rep (zmn he)
   exact zne (w := ⟨w.ρ, { w.s with heap := h' }⟩) h1 hs l.seq.items (H.step (Aft.side (z := z) (k := w.s.toks) NoX H.rep (zmn he))) λ w2 a2 l2 => hQ w2 (a0.trans a2) l2
 | _ => exact one ht hs
end
noncomputable def zza (z : Nat) : Src → Prop | .keys i _ _ => i < z | _ => True
structure KeyI (C : Cx) (ρ : List Addr) (h : Heap) (it : Addr) (i k n : Nat) (d : Addr) (kvs : List (Str × Value)) (ep : Nat) : Prop where
 ix : Ix ρ i d
 it : h.IsKeyIter it d k n ep
 dict : h.DictAt (PySem.strKind C.prog C.w) d kvs ep
 len : kvs.length = n
noncomputable def IterAt (C : Cx) (ρ : List Addr) (h : Heap) (it : Addr) : Src → Prop
 | .lst i k => ∃ l, Ix ρ i l ∧ h.IsListIter it l k
 | .tps i k => ∃ l, Ix ρ i l ∧ h.IsTupleIter it l k
 | .rng a st n => IsRangeIter h it a n st
 | .chs l => ∃ x t i, h.IsStrIter it "str_ascii_iterator" (zam x) t i ∧ l = x.drop i
 | .keys i k n => ∃ d kvs ep, KeyI C ρ h it i k n d kvs ep
section
variable {C : Cx} {P : Pl} {n d z : Nat} {Γ : zaw} {σ σ' : zaf} {st st' : Store} {w w' w0 : Wd} {K : KX} {Q : Flow → Shared → Prop} {E : Value → Shared → Prop} {v : AV} {u : Value} {x y : Expr} {p q : Pos} {src : Src} {it : Addr} {A : Around} {X : Addr → Prop}
structure MadeIt (C : Cx) (w : Wd) (src : Src) (ob : Obj) : Prop where
 free : ob.isFreed = false
 at_ : IterAt C w.ρ (w.s.heap.push ob) w.s.heap.objs.size src
theorem zl2 {Q : Value → Shared → Prop} (g : Good C) (h : zeh st v = some src) (R : Rep C w.ρ st w.s.heap) (r : VR w.ρ v u) (hQ : ∀ ob, MadeIt C w src ob → Q (.ref w.s.heap.objs.size) { w.s with heap := w.s.heap.push ob }) : wpAny (model C.prog C.w) A (pyIter u) Q E w.s := by
 cases v with
 | str x =>
   obtain ⟨_, t, rfl⟩ := r
   exact zgr h λ ha h => by
     subst h
     exact wpAny_pyIter_ascii (by show (zam x).cps.all (· < 128) = true; simpa [zam] using ha) (hQ _ ⟨rfl, x, t, 0, ⟨_, Heap.get?_push_size _ rfl, rfl, rfl⟩, rfl⟩)
 | ref i =>
   obtain ⟨a, e, rfl⟩ := r
   refine zag h λ o ho h => R.obj ho λ b ob t => ?_
   cases o with
   | list xs => cases h; exact t.ls e rfl λ _ us _ l => wpAny_pyIter_list l.is (hQ _ ⟨rfl, a, e, _, Heap.get?_push_size _ rfl, rfl, rfl⟩)
   | tup xs => cases h; exact t.tp e rfl λ _ us _ l => wpAny_pyIter_tuple l.is (hQ _ ⟨rfl, a, e, _, Heap.get?_push_size _ rfl, rfl, rfl⟩)
   | rng a' sp m =>
     cases h
     obtain ⟨f, at_, bb, t1, u1, v1, r⟩ := t
     cases f.eq e
     refine wpAny_pyIter_range (r.eq ▸ at_) r.small (hQ _ ⟨rfl, ?_⟩)
     show Heap.get? _ _ = _
     rw [r.size]
     exact Heap.get?_push_size _ rfl
   | dict es =>
     cases h
     refine t.dc e rfl λ ob kvs dd => ?_
     obtain ⟨ep, o, es', e4⟩ := dd.of.dictAt
     have hl := zu9 dd.keys
     exact wpAny_pyIter_dict (zru g R e) ⟨o, es', e4⟩ (hQ _ ⟨rfl, a, kvs, ep, e, ⟨_, Heap.get?_push_size _ rfl, rfl, by rw [hl]; rfl⟩, ⟨o, es', Heap.get?_push_of_some _ e4.1, e4.2⟩, hl⟩)
   | _ => exact nn h
 | _ => exact nn h
inductive KeyR (ρ : List Addr) : Option (List Nat × AV) → Option (Str × Value) → Prop
 | none : KeyR ρ none none
 | some {k : List Nat} {x : AV} {u : Value} : k.length ≤ 1000 → KeyR ρ (some (k, x)) (some (zam k, u))
theorem zC5 {ρ : List Addr} {es : List (List Nat × AV)} {kvs : List (Str × Value)} (r : VKs ρ es kvs) : ∀ k : Nat, KeyR ρ (nth es k) kvs[k]? := by
 induction r with
 | nil => intro k; exact .none
 | cons hl a _ ih =>
   intro k
   cases k with
   | zero => exact .some hl
   | succ k => exact ih k
theorem zvk {h : Heap} {a : Addr} {kvs kvs' : List (Str × Value)} {ep : Nat} (x : h.DictAt (PySem.strKind C.prog C.w) a kvs ep) (y : h.DictOf (PySem.strKind C.prog C.w) a kvs') : kvs' = kvs := by
 obtain ⟨o, es1, a1, a2, a3, a4, a5, a6⟩ := x
 obtain ⟨o', es2, ep', b1, b2, b3, b4, b5, b6⟩ := y
 rw [a1] at b1; cases b1
 rw [a3] at b3; cases b3
 have : ∀ {l : List DictEntry} {k1 k2 : List (Str × Value)}, Pairs (PySem.strKind C.prog C.w) l k1 → Pairs (PySem.strKind C.prog C.w) l k2 → k1 = k2 := by
   intro l k1 k2 p1
   induction p1 generalizing k2 with
   | nil => intro p2; cases p2; rfl
   | @cons e kv es kvs q1 q2 q3 ih =>
     intro p2
     cases p2 with
     | cons w1 w2 w3 => rw [ih w3]; exact congrArg (· :: _) (Prod.ext ((PySem.strKind C.prog C.w).inj _ _ _ q1 w1) (q2.symm.trans w2))
 exact this b5 a5
theorem zsh {xs : List AV} {us : List Value} (r : VRs w.ρ xs us) (k : Nat) : OptR w.ρ (nth xs k) us[k]? := by
 induction r generalizing k with
 | nil => exact .none
 | cons a _ ih => cases k with
   | zero => exact .some a
   | succ k => exact ih k
theorem zpe {o : Option (AV × Src)} {Q : Option Value → Shared → Prop} (h : zfm st src = some o) (R : Rep C w.ρ st w.s.heap) (hh : A.handled = none) (I : IterAt C w.ρ w.s.heap it src) (hit : Out w.ρ it)
   (h1 : ∀ v src' u h' tk, o = some (v, src') → (zza z src → zza z src') → VR w.ρ v u → IterAt C w.ρ h' it src' → Heap.SameBut it w.s.heap h' → Q (some u) { w.s with heap := h', toks := tk })
   (h2 : o = none → ∀ h', Heap.ExtBut it w.s.heap h' → Q none { w.s with heap := h' }) : wpAny (model C.prog C.w) A (pyNext (.ref it)) Q E w.s := by
 cases src with
 | lst i k =>
   obtain ⟨l, e1, e2⟩ := I
   refine zbs h λ xs hx h => R.ls hx e1 λ _ us _ t => ?_
   have q := zsh t.seq.items k
   generalize hu : us[k]? = ou at q
   generalize nth xs k = ov at q h
   cases q with
   | some a => exact wpAny_pyNext_list_item e2 t.is (by simpa using hu) λ h' a1 b => h1 _ _ _ h' w.s.toks h.symm (λ q => q) a ⟨_, e1, a1⟩ b
   | none => exact wpAny_pyNext_list_end hh e2 t.is (by simpa using hu) λ h' a => h2 h.symm _ a
 | tps i k =>
   obtain ⟨l, e1, e2⟩ := I
   refine zbs h λ xs hx h => R.tp hx e1 λ _ us _ t => ?_
   have q := zsh t.seq.items k
   generalize hu : us[k]? = ou at q
   generalize nth xs k = ov at q h
   cases q with
   | some a => exact wpAny_pyNext_tuple_item e2 t.is (by simpa using hu) λ h' a1 b => h1 _ _ _ h' w.s.toks h.symm (λ q => q) a ⟨_, e1, a1⟩ b
   | none => exact wpAny_pyNext_tuple_end hh e2 t.is (by simpa using hu) λ h' a => h2 h.symm _ a
 | rng a sp m =>
   cases m with
   | zero => exact wpAny_pyNext_range_end hh I (Int.le_refl _) λ h' a => h2 (Option.some.inj h).symm _ a
   | succ m =>
     refine wpAny_pyNext_range_item I (Int.ofNat_lt.mpr (Nat.succ_pos m)) λ h' a b => h1 _ _ _ _ _ (Option.some.inj h).symm (λ q => q) (.int _ _) ?_ b
     rw [show (((m + 1 : Nat) : Int) - 1) = (m : Int) from Int.add_sub_cancel m 1] at a
     exact a
 | chs l =>
   obtain ⟨x, t, i, e1, rfl⟩ := I
   cases hd : x.drop i with
   | nil =>
     rw [hd] at h
     refine wpAny_pyNext_ascii_end hh e1 ?_ λ h' a => h2 (Option.some.inj h).symm _ a
     show (zam x).cps[i]? = none
     have : x.length ≤ i := List.drop_eq_nil_iff.mp hd
     simp [zam, this]
   | cons c r' =>
     rw [hd] at h
     have hc : x[i]? = some c := by
       have : (x.drop i)[0]? = some c := by rw [hd]; rfl
       rw [List.getElem?_drop] at this; simpa using this
     refine wpAny_pyNext_ascii_item e1 (c := c) (by show (zam x).cps[i]? = some c; simpa [zam] using hc) λ h' a b => h1 _ _ _ _ _ (Option.some.inj h).symm (λ q => q) (.str [c] _ (by decide : 1 ≤ 1000)) ⟨x, t, i + 1, a, ?_⟩ b
     rw [← List.drop_drop, hd]; rfl
 | keys i k m =>
   obtain ⟨dd, kvs, ep, I⟩ := I
   refine zag h λ es hx h => R.dc hx I.ix λ ob kvs' t => ?_
   cases zvk I.dict t.of
   cases hb : Nat.beq es.length m with
   | false => rw [hb] at h; exact nn h
   | true =>
     rw [hb] at h
     have q := zC5 t.keys k
     generalize hu : kvs[k]? = ou at q
     generalize nth es k = ov at q h
     have I2 := I.it
     rw [← I.len] at I2
     cases q with
     | none => exact wpAny_pyNext_dict_end hh I2 I.dict hu λ h' a => h2 (Option.some.inj h).symm _ a
     | some hl =>
       refine wpAny_pyNext_dict_item I2 I.dict hu λ key h' hk a b => ?_
       obtain ⟨t1, rfl⟩ := Value.isStrOf_shape hk
       obtain ⟨o, es1, a1, a2⟩ := I.dict
       exact h1 _ _ _ _ w.s.toks (Option.some.inj h).symm (λ q => q) (.str _ _ hl) ⟨dd, kvs, ep, I.ix, I.len ▸ a, ⟨o, es1, (b.2 dd (by rintro rfl; exact hit i I.ix)).trans a1, a2⟩, I.len⟩ b
theorem zm9 {ρ : List Addr} {h : Heap} (I : IterAt C ρ h it src) : ∃ o, h.get? it = some o ∧ zfb o := by
 cases src with
 | lst i k => obtain ⟨l, e1, o, e2, e3, e4⟩ := I; exact ⟨o, e2, λ vs e q t => by rw [e4] at e; cases e; simp⟩
 | tps i k => obtain ⟨l, e1, o, e2, e3, e4⟩ := I; exact ⟨o, e2, λ vs e q t => by rw [e4] at e; cases e; simp⟩
 | rng a sp m => exact ⟨_, I, λ vs e q t => by cases e; simp [rawInt]⟩
 | chs l => obtain ⟨y, t, i, ⟨o, e2, e3, e4⟩, _⟩ := I; exact ⟨o, e2, λ vs e q t => by rw [e4] at e; cases e; simp⟩
 | keys i k m => obtain ⟨d, kvs, ep, _, ⟨o, e2, e3, e4⟩, _⟩ := I; exact ⟨o, e2, λ vs e q t => by rw [e4] at e; cases e; simp⟩
theorem IterAt.keep {ρ ρ' : List Addr} {h h' : Heap} (I : IterAt C ρ h it src) (hp : ρ <+: ρ') (k : ∀ o, h.get? it = some o → h'.get? it = some o) (kd : ∀ i k m dd o, src = .keys i k m → Ix ρ i dd → h.get? dd = some o → h'.get? dd = some o) : IterAt C ρ' h' it src := by
 cases src with
 | lst i j => obtain ⟨l, e1, o, e2, e3⟩ := I; exact ⟨l, zfd hp e1, o, k _ e2, e3⟩
 | tps i j => obtain ⟨l, e1, o, e2, e3⟩ := I; exact ⟨l, zfd hp e1, o, k _ e2, e3⟩
 | rng a sp m => exact k _ I
 | chs l => obtain ⟨y, t, i, ⟨o, e2, e3⟩, e4⟩ := I; exact ⟨y, t, i, ⟨o, k _ e2, e3⟩, e4⟩
 | keys i j m =>
   obtain ⟨dd, kvs, ep, e1, ⟨o, e2, e3⟩, ⟨o', es, f1, f2⟩, e5⟩ := I
   exact ⟨dd, kvs, ep, zfd hp e1, ⟨o, k _ e2, e3⟩, ⟨o', es, kd _ _ _ _ _ rfl e1 f1, f2⟩, e5⟩
structure Apart (C : Cx) (L it : Addr) (w0 : Wd) : Prop where
 tab : ¬ C.isTab it
 old : C.G.get? it = none
 ne : it ≠ L
 new : w0.s.heap.get? it = none
structure Beside (z : Nat) (w : Wd) (it : Addr) (src : Src) : Prop where
 out : Out w.ρ it
 key : zza z src
theorem zh1 {st2 : Store} {L : Addr} (B : Beside z w it src) (N : Apart C L it w0) (R : Rep C w.ρ st2 w.s.heap) (hX : ∀ b, X b → b = L) (hL : Out w.ρ L) (I : IterAt C w.ρ w.s.heap it src) (a : Aft C z X w st w') : IterAt C w'.ρ w'.s.heap it src ∧ Beside z w' it src := by
 obtain ⟨o, ho, _⟩ := zm9 I
 refine ⟨I.keep a.step.pre (λ o e => a.step.at e B.out N.tab λ q => N.ne (hX _ q)) λ i k m dd o e hd ho => a.step.keep dd o ho (λ j hj hx => ?_) (λ t => ?_) λ q => hL i (hX _ q ▸ hd), a.step.out ho B.out, B.key⟩
 · have := R.uniq _ _ _ hx hd
   subst this
   have := B.key
   rw [e] at this
   exact absurd this (Nat.not_lt.mpr hj)
 · obtain ⟨q, hq, rfl⟩ := t
   exact R.tabo q hq i hd
theorem zg6 {L : Addr} {h' : Heap} {o : Obj} {tk : Tok} (N : Apart C L it w0) (out : Out w.ρ it) (ho : w.s.heap.get? it = some o) (nc : zfb o) (a : Aft C z X w0 st w) (he : Heap.ExtBut it w.s.heap h') : Aft C z X w0 st ⟨w.ρ, { w.s with heap := h', toks := tk }⟩ where
 step := { a.step with
   keep := λ b o e q1 q2 q3 => he b o (by rintro rfl; rw [N.new] at e; cases e) (a.step.keep b o e q1 q2 q3)
   alive := λ b o e => (a.step.alive b o e).elim λ o' e' => ⟨o', he b o' (by rintro rfl; rw [N.new] at e; cases e) e'⟩ }
 rep := a.rep.side (λ b o e => he b o (by rintro rfl; rw [N.old] at e; cases e) (a.rep.stays b o e)) (λ i b o hi e => he b o (by rintro rfl; exact out i hi) e) (λ cd q x => zeo x ho nc he) λ b o hb e => he b o (by rintro rfl; exact N.tab hb) e
theorem zg7 {L : Addr} {h' : Heap} (N : Apart C L it w0) (l : Loc C σ w.ρ L w.s.heap) (he : Heap.ExtBut it w.s.heap h') : Loc C σ w.ρ L h' := by
 obtain ⟨⟨m, hn, hv⟩, a, b, c⟩ := l
 exact ⟨⟨m, hn.extBut he N.ne.symm, hv⟩, a, b, c⟩
theorem zKf {K : Unit → Shared → Prop} {t : Bool × List (Bool × Nat)} (ht : zus P.fx.sc P.fx.dom x = some t) (hs : zgo z Γ t.1 t.2 v σ st ≠ none) (I : IterAt C w.ρ w.s.heap it src) (r : VR w.ρ v u) (hK : K () w.s) : wpAny (model C.prog C.w) A (letOwnedTupleGo x (.ref it) u) K E w.s := by
 unfold zus at ht
 have e := zma x
 have nm : ∀ {a : Str} {p : Pos}, wpAny (model C.prog C.w) A (letOwnedTupleGo (.Name a p) (.ref it) u) K E w.s := wpAny_pure hK
 generalize hv : vw x = o at ht e
 cases o with
 | nam a => obtain ⟨p, rfl⟩ := e; exact nm
 | tup es =>
   obtain ⟨k, p, rfl⟩ := e
   refine zbs ht λ ts h1 ht => ?_
   subst ht
   have : ∃ i, v.toR = some i := by
     cases hr : v.toR with
     | some i => exact ⟨i, rfl⟩
     | none => exact absurd (by show Option.bind v.toR _ = none; rw [hr]; rfl) hs
   obtain ⟨i, hi⟩ := this
   refine zd8 (G := λ u => wpAny (model C.prog C.w) A (letOwnedTupleGo (.Tuple es k p) (.ref it) u) K E w.s) hi r λ a e => ?_
   have plain : ∀ (o : Obj) (T : String) (vs : Array Value), w.s.heap.get? it = some o → o.cls = .type T → o.data = .fields vs → (["enumerate", "zip", "dict_itemiterator", "dict_reverseitemiterator", "odict_iterator", "itertools.zip_longest", "itertools.pairwise"].contains T) = false →
       wpAny (model C.prog C.w) A (letOwnedTupleGo (.Tuple es k p) (.ref it) (.ref a)) K E w.s := by
     intro o T vs e1 e2 e3 e4
     unfold letOwnedTupleGo
     refine wpAny_bind (wpAny_load e1 ?_)
     rw [e2, e3]
     show wpAny _ A (if (_ && _) = true then _ else _) K E w.s
     rw [if_neg (by rw [e4, Bool.false_and]; exact Bool.false_ne_true)]
     exact wpAny_pure hK
   cases src with
   | lst i k => obtain ⟨l, e1, o, e2, e3, e4⟩ := I; exact plain o _ _ e2 e3 e4 (by decide)
   | tps i k => obtain ⟨l, e1, o, e2, e3, e4⟩ := I; exact plain o _ _ e2 e3 e4 (by decide)
   | rng a' sp m => exact plain _ "range_iterator" _ I rfl rfl (by decide)
   | chs l => obtain ⟨y, t, i, ⟨o, e2, e3, e4⟩, _⟩ := I; exact plain o _ _ e2 e3 e4 (by decide)
   | keys i k m => obtain ⟨d, kvs, ep, _, ⟨o, e2, e3, e4⟩, _⟩ := I; exact plain o _ _ e2 e3 e4 (by decide)
 | _ =>
   refine zbs ht λ q hq _ => ?_
   unfold zs6 at hq
   rw [hv] at hq
   exact nn hq
end
section
variable {C : Cx} {P : Pl} {n d z : Nat} {Γ : zaw} {σ σ' : zaf} {st st' : Store} {w w' w0 : Wd} {K : KX} {Q : Flow → Shared → Prop} {E : Value → Shared → Prop} {v : AV} {u : Value} {x y : Expr} {p q : Pos} {src : Src} {it : Addr} {A : Around} {X : Addr → Prop} {b : List Stmt}
structure WhI (C : Cx) (P : Pl) (d z : Nat) (Γ : zaw) (x : Expr) (b : List Stmt) (K : KX) (w0 : Wd) (n k : Nat) (σ : zaf) (st : Store) (w : Wd) : Prop where
 le : k ≤ n
 run : (mk C.T k).wloop z Γ σ (er 40 P.fx.ek x) (b.map (erS d P.fx.ek)) st K
 here : Here C P Γ σ k st w
 aft : Aft C z (AtX P.env.locals) w0 st w
theorem zpq (T : ∀ k, k < n → STr C k) (Ss : ∀ k, k < n → SExecs C k) {R : Result → Shared → Prop} (h : (mk C.T n).wloop z Γ σ (er 40 P.fx.ek x) (b.map (erS d P.fx.ek)) st K) (H : Here C P Γ σ n st w) (hR : QX C z w P.env.locals K λ f s => R (.ok f) s) : codeAny (model C.prog C.w) P.A (.whileLoop x b [] P.env) R w.s := by
 refine codeAny_whileLoop (λ k s1 => ∃ σ1 st1 ρ1, WhI C P d z Γ x b K w n k σ1 st1 ⟨ρ1, s1⟩) ?_ n ⟨σ, st, w.ρ, Nat.le_refl _, h, H, Aft.refl _ H.rep⟩
 rintro k s1 ⟨σ1, st1, ρ1, I⟩
 cases k with
 | zero => exact False.elim I.run
 | succ k =>
   have h := I.run
   refine (T k I.le).go (w := ⟨ρ1, s1⟩) h I.here.dn λ q _ w2 h a2 => ?_
   cases q with
   | false => exact wpAny_execs_nil (hR _ _ _ _ .next h (I.aft.trans a2.toL) (a2.loc I.here) rfl)
   | true =>
     refine (Ss k I.le).go h (I.here.dn.step a2) λ fl _ _ w3 f h a3 l3 q3 => ?_
     cases fl with
     | next => cases q3; exact ⟨k, Nat.lt_succ_self _, _, _, _, ⟨Nat.le_of_succ_le I.le, h, (I.here.dn.step a2).stepL a3 l3, (I.aft.trans a2.toL).trans a3⟩⟩
     | ret v => obtain ⟨u, r, rfl⟩ := q3; exact hR _ _ _ _ _ h ((I.aft.trans a2.toL).trans a3) l3 ⟨u, r, rfl⟩
theorem AOK.mark {A : Around} (h : AOK n A) : AOK n (A.mark none) := ⟨h.handled, h.depth, h.units⟩
theorem zKc (T : ∀ k, k < n → STr C k) (Ss : ∀ k, k < n → SExecs C k) (h : zd9 C.T (mk C.T n) z Γ σ (.whl (er 40 P.fx.ek x) (b.map (erS d P.fx.ek))) st K) (H : Here C P Γ σ n st w) (hQ : QX C z w P.env.locals K Q) : wpAny (model C.prog C.w) P.A (exec (.While x b [] p) P.env) Q E w.s := by
 rw [exec_While]
 exact wpAny_bind (wpAny_standAt (wpAny_runOwn (h := none) (zpq (P := ⟨P.fx, P.A.mark none, P.env⟩) T Ss h ⟨H.room.mark, H.fr, H.rep, H.loc⟩ λ fl σ st w' f k a l q => hQ fl σ st w' f k a l q) (by intro x; cases x)))
structure ForI (C : Cx) (P : Pl) (d z : Nat) (Γ : zaw) (t : Bool × List (Bool × Nat)) (b : List Stmt) (K : KX) (w0 : Wd) (it : Addr) (n k : Nat) (σ : zaf) (src : Src) (st : Store) (w : Wd) : Prop where
 le : k ≤ n
 run : (mk C.T k).floop z Γ σ t.1 t.2 src (b.map (erS d P.fx.ek)) st K
 here : Here C P Γ σ k st w
 aft : Aft C z (AtX P.env.locals) w0 st w
 iter : IterAt C w.ρ w.s.heap it src
 side : Beside z w it src
theorem zxu (Ss : ∀ k, k < n → SExecs C k) {t : Bool × List (Bool × Nat)} {R : Result → Shared → Prop} (ht : zus P.fx.sc P.fx.dom x = some t) (N : Apart C P.env.locals it w0) (I : ForI C P d z Γ t b K w0 it n n σ src st w) (hR : QX C z w0 P.env.locals K λ f s => R (.ok f) s) : codeAny (model C.prog C.w) P.A (.forLoop x (.ref it) b [] P.env) R w.s := by
 refine codeAny_forLoop_any (λ k s1 => ∃ σ1 src1 st1 ρ1, ForI C P d z Γ t b K w0 it n k σ1 src1 st1 ⟨ρ1, s1⟩) ?_ n ⟨σ, src, st, w.ρ, I⟩
 clear I
 rintro k s1 ⟨σ1, src1, st1, ρ1, I⟩
 cases k with
 | zero => exact False.elim I.run
 | succ k =>
   obtain ⟨oi, ho, nc⟩ := zm9 I.iter
   refine Opt.inv I.run λ o hn h => zpe (z := z) (w := ⟨ρ1, s1⟩) hn I.here.rep I.here.room.handled I.iter I.side.out (λ v src2 u h' tk e ek r2 i2 hs => ?_) λ e h' he => ?_
   · subst e
     have he := hs.extBut
     have a2 := zg6 (tk := tk) N I.side.out ho nc I.aft he
     have H2 : Here C P Γ σ1 k st1 ⟨ρ1, { s1 with heap := h', toks := tk }⟩ := ⟨I.here.dn.room, I.here.fr, a2.rep, zg7 (w := ⟨ρ1, s1⟩) N I.here.loc he⟩
     have B2 : Beside z ⟨ρ1, { s1 with heap := h', toks := tk }⟩ it src2 := ⟨I.side.out, ek I.side.key⟩
     dsimp only
     refine Opt.inv h λ q hset h => zKf (w := ⟨ρ1, { s1 with heap := h', toks := tk }⟩) ht (by rw [hset]; nofun) i2 r2 (zjy ht hset r2 H2 λ w3 a3 l3 => ?_)
     obtain ⟨i3, B3⟩ := zh1 B2 N a2.rep (λ b q => q) H2.loc.out i2 a3
     have H3 := H2.stepL a3 l3
     refine (Ss k I.le).go h H3 λ fl _ _ w4 f h a4 l4 q4 => ?_
     cases fl with
     | next =>
       cases q4
       obtain ⟨i4, B4⟩ := zh1 B3 N a3.rep (λ b q => q) l3.out i3 a4
       exact ⟨k, Nat.lt_succ_self _, _, _, _, _, ⟨Nat.le_of_succ_le I.le, h, H3.stepL a4 l4, (a2.trans a3).trans a4, i4, B4⟩⟩
     | ret v => obtain ⟨u, r, rfl⟩ := q4; exact hR _ _ _ _ _ h ((a2.trans a3).trans a4) l4 ⟨u, r, rfl⟩
   · subst e
     exact wpAny_execs_nil (hR _ _ _ ⟨ρ1, _⟩ .next h (zg6 N I.side.out ho nc I.aft he) (zg7 (w := ⟨ρ1, s1⟩) N I.here.loc he) rfl)
theorem zHj {x : Expr} {env : Env} (h : (!zh5 x) = true) : ∀ v, foldedSetIterable x env v = pure v := λ v => by
 cases x <;> first | rfl | exact nb h
theorem Here.L_lt (H : Here C P Γ σ n st w) : P.env.locals < w.s.heap.objs.size := by
 obtain ⟨⟨m, hn, _⟩, _⟩ := H.loc; exact hn.lt
theorem zMl (g : Good C) (S : SEv C n) (Ss : ∀ k, k < n → SExecs C k) {t : Bool × List (Bool × Nat)} (h : zd9 C.T (mk C.T n) z Γ σ (.fr t.1 t.2 (er 40 P.fx.ek y) (b.map (erS d P.fx.ek))) st K) (hs : (!zh5 y) = true) (ht : zus P.fx.sc P.fx.dom x = some t) (H : Here C P Γ σ n st w) (hQ : QX C z w P.env.locals K Q) :
   wpAny (model C.prog C.w) P.A (exec (.For x y b [] p) P.env) Q E w.s :=
 wpAny_For (S.go h H λ _ _ w1 _ h a1 r1 => h.inv λ src hsrc h => h.inv λ hk h => zl2 g hsrc a1.rep r1 λ ob M => by
   have N := a1.rep.beyond (Nat.le_refl w1.s.heap.objs.size)
   have a2 : Aft C z NoX w1 _ ⟨w1.ρ, { w1.s with heap := w1.s.heap.push ob }⟩ := Aft.side _ a1.rep λ b o e => Heap.get?_push_of_some _ e
   exact zxu (w0 := w1) Ss ht ⟨N.tab, N.old, Nat.ne_of_gt (H.step a1).L_lt, zcg (Nat.le_refl _)⟩ (w := ⟨w1.ρ, _⟩) ⟨Nat.le_refl _, h, (H.step a1).step a2, a2.toL, M.at_, N.out, by cases src with | keys => exact nb hk | _ => trivial⟩ λ fl σ st w' f k a l q => hQ fl σ st w' f k (a1.toL.trans a) l q) (zHj hs)
theorem zzl (ts : List Expr) (v : Expr) (env : Env) : swappedStores ts v env = swappedStores ts v (zNx env.scope) := rfl
theorem znt {t : Expr} {v : Expr} {l : Nat} {env : Env} (h : (!zjl v) = true) : swapsWithSole [t] v l env = pure false := zkt h
theorem zqn : ∀ {ts : List (Bool × Nat)}, ts.all (λ p => !p.1) = true → ts = (ts.map (·.2)).map λ x => (false, x)
 | [], _ => rfl
 | (b, x) :: r, h => zbf h λ h1 h2 => by
   cases b with
   | true => exact nb h1
   | false => rw [List.map_cons, List.map_cons, ← zqn h2]
theorem zsm : ∀ {l : List Nat} {ns : List Str}, zGx (λ (p : Bool × Nat) a => sB (nm p.2) a) (l.map λ x => (false, x)) ns = true → ns = l.map nm
 | [], [], _ => rfl
 | x :: l, a :: ns, h => zbf h λ h1 h2 => by rw [← zpp h1, zsm h2]; rfl
 | [], _ :: _, h => nb h
 | _ :: _, [], h => nb h
noncomputable def zop : List (Nat × AV) → zaf → zaf
 | [], σ => σ
 | p :: r, σ => zop r (putL p.1 p.2 σ)
theorem zhp : ∀ (ns : List Nat) (vs : List AV) {σ : zaf} {st : Store} {r : zaf × Store}, zbe z Γ (ns.map λ x => (false, x)) vs σ st = some r → ns.length = vs.length ∧ r = (zop (ns.zip vs) σ, st)
 | [], [], _, _, _, h => ⟨rfl, (Option.some.inj h).symm⟩
 | [], _ :: _, _, _, _, h => nn h
 | _ :: _, [], _, _, _, h => nn h
 | m :: ns, v :: vs, σ, st, r, h => ⟨congrArg Nat.succ (zhp ns vs (σ := putL m v σ) h).1, (zhp ns vs (σ := putL m v σ) h).2⟩
theorem zks (y : Nat) : ∀ (l : List (Nat × AV)) (σ : zaf), (l.map (·.1)).Nodup → lk y (zop l σ) = ((lk y l).or (lk y σ))
 | [], σ, _ => rfl
 | (m, v) :: r, σ, h => by
   rw [List.map_cons, List.nodup_cons] at h
   show lk y (zop r (putL m v σ)) = (match Nat.beq m y with | true => some v | false => lk y r).or (lk y σ)
   rw [zks y r _ h.2, zww]
   cases hb : Nat.beq m y with
   | false => rfl
   | true =>
     have e := ebx hb
     subst e
     have : lk m r = none := by
       have : ∀ r : List (Nat × AV), m ∉ r.map (·.1) → lk m r = none := by
         intro r
         induction r with
         | nil => exact λ _ => rfl
         | cons p r ih =>
           intro hm
           show (match Nat.beq p.1 m with | true => some p.2 | false => lk m r) = none
           cases hp : Nat.beq p.1 m with
           | true => exact absurd (List.mem_cons.mpr (.inl (ebx hp).symm)) hm
           | false => exact ih λ q => hm (List.mem_cons_of_mem _ q)
       exact this r h.1
     rw [this]; rfl
theorem zoj : ∀ (l : List (Nat × AV)) {us : List Value} {σ : zaf} {w : Wd} {K : Unit → Shared → Prop}, (∀ p ∈ l, P.env.kindOf (nm p.1) = some .local) → VRs w.ρ (l.map (·.2)) us → Here C P Γ σ n st w → QT C z w P.env.locals st (zop l σ) K →
   wpAny (model C.prog C.w) P.A (assignInOrder (l.map λ p => bindName P.env (nm p.1)) us) K E w.s := by
 intro l
 induction l with
 | nil => exact λ _ _ H hK => assignInOrder_nil (hK _ (Aft.refl _ H.rep) H.loc)
 | cons p l ih =>
   obtain ⟨m, v⟩ := p
   intro us σ w K hk r H hK
   cases r with
   | cons a r => exact assignInOrder_cons (wpAny_bindName (zdq (z := z) H (hk _ (.head _)) a λ w1 a1 l1 => ih (λ p hp => hk p (.tail _ hp)) (r.up a1) (H.stepL a1 l1) λ w2 a2 l2 => hK w2 (a1.trans a2) l2))
theorem zHi (y : Nat) (l : List (Nat × AV)) (h : (l.map (·.1)).Nodup) : lk y l.reverse = lk y l := by
 have key : ∀ (l : List (Nat × AV)), (l.map (·.1)).Nodup → ∀ v, lk y l = some v ↔ (y, v) ∈ l := by
   intro l
   induction l with
   | nil => exact λ _ v => ⟨λ h => nn h, λ h => nomatch h⟩
   | cons p r ih =>
     intro h v
     rw [List.map_cons, List.nodup_cons] at h
     show (match Nat.beq p.1 y with | true => some p.2 | false => lk y r) = some v ↔ _
     cases hb : Nat.beq p.1 y with
     | true =>
       have e := ebx hb
       subst e
       exact ⟨λ q => Option.some.inj q ▸ .head _, λ q => (List.mem_cons.mp q).elim (λ e => congrArg some (congrArg Prod.snd e).symm) λ q => absurd (List.mem_map_of_mem (f := (·.1)) q) h.1⟩
     | false =>
       exact ⟨λ q => .tail _ ((ih h.2 v).mp q), λ q => (List.mem_cons.mp q).elim (λ e => absurd (congrArg Prod.fst e).symm (Nat.ne_of_beq_eq_false hb)) (ih h.2 v).mpr⟩
 have h' : (l.reverse.map (·.1)).Nodup := by rw [List.map_reverse]; exact (List.reverse_perm _).nodup_iff.mpr h
 refine Option.ext λ v => ?_
 show lk y l.reverse = some v ↔ lk y l = some v
 rw [key _ h' v, key _ h v, List.mem_reverse]
theorem zvt {α β : Type} : ∀ {l : List α} {m : List β}, l.length = m.length → (l.zip m).map (·.1) = l
 | [], [], _ => rfl
 | _ :: _, _ :: _, h => congrArg (_ :: ·) (zvt (Nat.succ.inj h))
theorem zuy {α β : Type} : ∀ {l : List α} {m : List β}, l.length = m.length → (l.zip m).map (·.2) = m
 | [], [], _ => rfl
 | _ :: _, _ :: _, h => congrArg (_ :: ·) (zuy (Nat.succ.inj h))
theorem zAh (H : Here C P Γ σ n st w) {es : List Expr} : ∀ {ns : List Nat}, znk (zs6 P.fx.sc P.fx.dom) es = some (ns.map λ x => (false, x)) → ∀ x ∈ ns, P.env.kindOf (nm x) = some .local := by
 induction es with
 | nil => intro ns h; cases ns with | nil => exact λ _ h => nomatch h | cons => exact nomatch Option.some.inj h
 | cons e es ih =>
   intro ns h
   refine zag h λ t ht h => zbs h λ ts h2 h => ?_
   cases ns with
   | nil => exact nomatch h
   | cons m ns =>
     cases h
     intro x hx
     rcases List.mem_cons.mp hx with rfl | hx
     · exact zjt (G := λ _ => P.env.kindOf (nm x) = some .local) ht H (λ _ _ q => q) λ _ q => nomatch q
     · exact ih h2 x hx
theorem zIk (S : SEv C n) {es : List Expr} {ts : List (Bool × Nat)} {k : Nat} (h : zd9 C.T (mk C.T n) z Γ σ (.ast ts (er d P.fx.ek x)) st K) (ht : znk (zs6 P.fx.sc P.fx.dom) es = some ts) (hc : (!zjl x) = true) (hw : zFn P.fx.sc ts (.Tuple es k q) x = true) (H : Here C P Γ σ n st w) (hQ : QX C z w P.env.locals K Q) :
   wpAny (model C.prog C.w) P.A (exec (.Assign [.Tuple es k q] x p) P.env) Q E w.s := by
 unfold zFn at hw
 have e0 := zzl [.Tuple es k q] x P.env
 rw [H.fr.scope] at e0
 split at hw
 · rename_i e1
   refine Assign_Tuple (S.go h H λ v st1 w1 u1 h a1 r1 => ?_) (znt hc) (e0.trans e1)
   refine h.inv λ i hi h => h.inv λ vs hx h => h.inv λ r hs hK => ?_
   refine zjy (x := .Tuple es k q) (z := z) (Γ := Γ) (σ := σ) (t := (true, ts)) (r := r) ?_ ?_ r1 (H.step a1) λ w2 a2 l2 => hQ _ _ _ _ .next hK (a1.toL.trans a2) l2 rfl
   · show (znk (zs6 P.fx.sc P.fx.dom) es).map _ = _; rw [ht]; rfl
   · show (v.toR.bind λ i => (st1.tp i).bind λ vs => _) = some r
     rw [hi]; show (st1.tp i).bind _ = _; rw [hx]; exact hs
 · rename_i ns e1
   refine zbf hw λ hw h7 => zbf hw λ h5 h6 => ?_
   have et := zqn h5
   have hd := of_decide_eq_true h6
   generalize ts.map (·.2) = l at et hd
   subst et
   have en := zsm h7
   have hk := zAh H ht
   refine Assign_Tuple_swapped (S.go h H λ v st1 w1 u1 h a1 r1 => h.inv λ i hi h => h.inv λ vs hx h => h.inv λ r hs hK => ?_) (znt hc) (e0.trans e1)
   obtain ⟨hl, rfl⟩ := zhp _ _ hs
   rw [zxp hi] at r1
   obtain ⟨a, e, rfl⟩ := r1
   refine a1.rep.tp hx e λ ob us m t => ?_
   subst en
   rw [show (l.map nm).length = us.toArray.size by rw [List.length_map, List.size_toArray, t.seq.items.length, hl]]
   refine unpackItems_tuple H.room.handled t.is λ h' he => ?_
   have a2 : Aft C z NoX w1 st1 ⟨w1.ρ, { w1.s with heap := h' }⟩ := Aft.side _ a1.rep (zmn he)
   have m1 := zvt hl
   have m2 := zuy hl
   have e2 : ((l.map nm).reverse.map λ n => bindName P.env n) = (l.zip vs).reverse.map λ p => bindName P.env (nm p.1) := by
     have : (l.zip vs).reverse.map (λ p => bindName P.env (nm p.1)) = (((l.zip vs).map (·.1)).map nm).reverse.map λ n => bindName P.env n := by simp [List.map_reverse]
     rw [this, m1]
   show wpAny _ P.A (assignInOrder (List.map _ _) us.reverse) _ _ _
   rw [e2]
   refine zoj (w := ⟨w1.ρ, _⟩) (z := z) (l.zip vs).reverse (λ p hp => hk p.1 (by rw [← m1]; exact List.mem_map_of_mem (List.mem_reverse.mp hp))) (by rw [List.map_reverse, m2]; exact zp5 t.seq.items) ((H.step a1).step a2) λ w3 a3 l3 => ?_
   refine hQ _ _ _ _ .next hK ((a1.trans a2).toL.trans a3) ?_ rfl
   obtain ⟨⟨m, w1', w2⟩, w3, w4, w5⟩ := l3
   refine ⟨⟨m, w1', λ y vy hy => w2 y vy ?_⟩, w3, w4, w5⟩
   rw [zks _ _ _ (by rw [m1]; exact hd)] at hy
   rw [zks _ _ _ (by rw [List.map_reverse, m1]; exact (List.reverse_perm _).nodup_iff.mpr hd), zHi _ _ (by rw [m1]; exact hd)]
   exact hy
 · exact nb hw
end
section
variable {C : Cx} {P : Pl} {n d z : Nat} {Γ : zaw} {σ : zaf} {st st' : Store} {w w' : Wd} {K : KV} {Q : Value → Shared → Prop} {E : Value → Shared → Prop} {v : AV} {u : Value} {x y : Expr} {p q : Pos} {A : Around}
def Kp (C : Cx) (f : Value) (h : Heap) : Prop := ∃ k, (k = Keeper.frame ∨ k = Keeper.machine ∨ k = Keeper.boundFrame) ∧ Looks (model C.prog C.w) h (keeperOf f) k
theorem zvw {f : Value} {h : Heap} (e : keeperOf f = pure .machine) : Kp C f h := ⟨.machine, .inr (.inl rfl), e ▸ .now⟩
theorem zkl : ∀ {xs : List Expr} {env : Env} (pos : Pos), zex xs = true → (backTo pos (starEach xs env)).any (·.1) = false
 | [], _, _, _ => rfl
 | x :: xs, env, pos, h => zbf h λ h1 h2 => by
   rw [zie h1]
   show (false || (backTo pos (starEach xs env)).any (·.1)) = false
   rw [zkl pos h2]; rfl
theorem zfa (Ss : SEvs C n) {f : Value} {first : List Value} {xs : List Expr} {K : List AV → Store → Prop} {pos : Pos} (ns : zex xs = true) (h : (mk C.T n).evs z Γ σ (xs.map (er d P.fx.ek)) st K) (H : Here C P Γ σ n st w)
   (k : ∀ vs st' w' us, K vs st' → Aft C z NoX w st' w' → VRs w'.ρ vs us → Kp C f w'.s.heap ∧ wpAny (model C.prog C.w) P.A (PySem.call f (first ++ us) []) Q E w'.s) : wpAny (model C.prog C.w) P.A (callWith pos f first (backTo pos (starEach xs P.env)) []) Q E w.s := by
 refine callWith_of (P := Kp C f) (by rw [zkl pos ns]; rfl) (λ _ h => h) ?_
 have args := Ss.go (pos := pos) (E := E) (Q := λ us s' => Kp C f s'.heap ∧ wpAny (model C.prog C.w) P.A (PySem.call f (first ++ us) []) Q E s') ns h H k
 cases xs with
 | nil =>
   refine evalArgs_nil3 ?_
   cases n with
   | zero => exact False.elim h
   | succ n => exact k _ _ w [] h (Aft.refl _ H.rep) .nil
 | cons x xs =>
   rw [zie (zbf ns λ h _ => h)] at args ⊢
   exact evalArgs_plain args
theorem zFt {o : AO} {q : Nat × zaw} (h : o.toFn = some q) : o = .fn q.1 q.2 := by
 cases o with
 | fn => cases h; rfl
 | _ => exact nn h
theorem Rep.fu (R : Rep C w.ρ st w.s.heap) {G : Prop} {i : Nat} {a : Addr} {q : Nat × zaw} (h : st.fu i = some q) (e : Ix w.ρ i a) (k : ∀ ob n l fd, w.s.heap.get? a = some ob → FnR C w.ρ w.s.heap ob q.1 q.2 n l fd → G) : G :=
 zag h λ o ho h => R.obj ho λ b ob t => by
   cases zFt h
   cases t.ix.eq e
   obtain ⟨n, l, fd, r⟩ := t.rel
   exact k ob n l fd t.at_ r
theorem zG8 (g : Good C) {f : AV} {fu : Value} {vs : List AV} (h : (mk C.T n).callv z f vs st K) (R : Rep C w.ρ st w.s.heap) (rf : VR w.ρ f fu) : Kp C fu w.s.heap := by
 cases n with
 | zero => exact False.elim h
 | succ n =>
   cases f with
   | bi b => cases rf; cases b <;> exact zvw rfl
   | old a =>
     cases rf
     change (match C.T.fn.get a with | some fd => _ | none => _) at h
     cases hf : C.T.fn.get a with
     | some fd => exact keeps_K (g.keepf _ _ hf) _ (R.K g)
     | none => rw [hf] at h; exact Opt.inv h λ cd hc _ => keeps_K (g.keepc _ _ hc) _ (R.K g)
   | ref i =>
     obtain ⟨a, e, rfl⟩ := rf
     exact Opt.inv h λ q hq _ => R.fu hq e λ ob m l fd e2 t => by
       obtain ⟨oc, od, oda, osl⟩ := ob
       have e5 := t.cls; have e6 := t.data
       dsimp only at e5 e6
       subst e5 e6
       exact keeps_F _ ⟨_, _, _, _, e2⟩
   | _ => exact False.elim h
theorem ziv (g : Good C) (S : SEv C n) (Ss : SEvs C n) (Sc : SCall C n) {xs : List Expr} (hx : zBk x = false) (ns : zex xs = true) (h : evF C.T (mk C.T n) z Γ σ (.call (er d P.fx.ek x) (xs.map (er d P.fx.ek))) st K) (H : Here C P Γ σ n st w) (hQ : QE C z w K Q) : wpAny (model C.prog C.w) P.A (eval (.Call x xs [] p) P.env) Q E w.s := by
 have he : eval (.Call x xs [] p) P.env = (do callWith p (← eval x P.env) [] (backTo p (starEach xs P.env)) (backToKw p (keywordEach [] P.env))) := by
   cases x <;> first | rfl | exact nomatch hx
 rw [he]
 exact wpAny_bind (S.go h H λ _ _ _ u1 h a1 r1 => zfa Ss ns h (H.step a1) λ _ _ _ us h a2 r2 => ⟨zG8 g h a2.rep (r1.up a2), Sc.go h H.room a2.rep (r1.up a2) r2 (hQ.after (a1.trans a2))⟩)
theorem zAg {name : Str} {xs : List Expr} {ap : Pos} {env : Env} {s : Shared} (hs : zi6 x = true) (hp : (ap.endLine == p.line) = true) (hl : xs.length < 30) (hst : (backTo p (starEach xs env)).any (·.1) = false)
   (h : wpAny (model C.prog C.w) A (eval x env) (λ ov s1 => ∀ pl : Sem Bool, wpAny (model C.prog C.w) A (getMethod ov name pl) (λ q s2 => wpAny (model C.prog C.w) A (callWith p q.1 q.2 (backTo p (starEach xs env)) []) Q E s2) E s1) E s) :
   wpAny (model C.prog C.w) A (eval (.Call (.Attribute x name ap) xs [] p) env) Q E s := by
 show wpAny _ A (do
   let ov ← attributeBase x name env (eval x env)
   standAt ap.atName
   methodCall x name ap p env ov (xs.length + 0) (backTo p (starEach xs env)) []) Q E s
 rw [zq2 hs]
 refine wpAny_bind (wpAny_mono h (λ ov s1 h1 => wpAny_bind (wpAny_standAt ?_)) λ _ _ e => e)
 have hform : methodCallForm (xs.length + 0) (backTo p (starEach xs env)) ([] : List (Option Str × Sem Value)) = true := by
   unfold methodCallForm
   have : (backTo p (starEach xs env)).all (!·.1) = true := by
     rw [List.all_eq_not_any_not]
     simpa using hst
   rw [this]
   simpa using hl
 unfold methodCall
 rw [hform]
 refine wpAny_bind (wpAny_holding ?_)
 show wpAny _ A (calleeOf true x env ov name) _ E s1
 refine wpAny_mono (h1 _) (λ q s2 h2 => ?_) λ _ _ e => e
 obtain ⟨f, first⟩ := q
 have hpos : methodCallPos true x env ap p = pure p := by
   unfold methodCallPos
   rw [if_pos (by simp [hp])]
 show wpAny _ A (do
   let callPos ← methodCallPos true x env ap p
   callWith callPos f first (backTo p (starEach xs env)) []) Q E s2
 rw [hpos]
 exact wpAny_bind (wpAny_pure h2)
noncomputable def zNw (k : Nat) (m : Nat) : String := match k with
 | 0 => if m = zfy then "str.split" else if m = zf1 then "str.rpartition" else "str.index"
 | 1 => if m = zeg then "list.append" else "list.count"
 | _ => "dict.get"
noncomputable def zkv (st : Store) (v : AV) : Nat := match v with | .ref i => (match st.get i with | some o => o.kind | none => 0) | _ => 0
theorem zvb : nm zeg = "append" := zcu (by kernel_rfl)
theorem zAj : nm zfv = "count" := zcu (by kernel_rfl)
theorem zy9 : nm zfy = "split" := zcu (by kernel_rfl)
theorem zAl : nm zf1 = "rpartition" := zcu (by kernel_rfl)
theorem zzz : nm zgu = "index" := zcu (by kernel_rfl)
theorem zHu : nm zmt = "get" := zcu (by kernel_rfl)
theorem or1 {a b : Bool} (h : (a || b) = true) : a = true ∨ b = true := by
 cases a with
 | true => exact .inl rfl
 | false => exact .inr h
theorem zmz (g : Good C) {o : AV} {m : Nat} {mt : MT} {pl : Sem Bool} {K : Value × List Value → Shared → Prop} (h : zat C.T st o m = some mt) (R : Rep C w.ρ st w.s.heap) (r : VR w.ρ o u)
   (h1 : ∀ a, mt = .fnm a o → K (.ref a, [u]) w.s) (h2 : mt = .bim m o → K (.builtin (zNw (zkv st o) m), [u]) w.s) : wpAny (model C.prog C.w) A (getMethod u (nm m) pl) K E w.s := by
 cases o with
 | str x =>
   obtain ⟨hl, t, rfl⟩ := r
   refine zgr h λ hm h => ?_
   have q := h2 h.symm
   rcases or1 hm with hm | hm
   · rcases or1 hm with hm | hm
     · cases ebx hm; rw [zy9]; exact GM.split q
     · cases ebx hm; rw [zAl]; exact GM.rpartition q
   · cases ebx hm; rw [zzz]; exact GM.index q
 | ref i =>
   obtain ⟨a, e, rfl⟩ := r
   refine zag h λ ob ho h => ?_
   have ka : zkv st (.ref i) = ob.kind := by show (match st.get i with | some o => o.kind | none => 0) = _; rw [ho]
   rw [ka] at h2
   cases ob with
   | inst c d =>
     refine zag h λ q hq h => R.ins hq e λ dx ds k cd I => ?_
     cases hn : lk m q.2.2 with
     | some w => rw [hn] at h; exact nn h
     | none =>
       rw [hn] at h
       refine zag h λ cd' hcd h => zbs h λ f hf h => ?_
       have M := g.meth _ _ _ _ hcd hf
       have c := g.cls _ _ I.cls
       exact method_fn (R.K g) I.inst (plainGet_of c.plain).1 (plainGet_of c.plain).2 M.find (beq_iff_eq.mp M.fn) (by show (lookIn _ (dictOf ds k)).map _ = _; rw [lookIn_dict, zy5 I.fs hn]; rfl) (h1 f h.symm)
   | list xs =>
     refine zgr h λ hm h => R.obj ho λ b ob t => t.ls e rfl λ ob us k l => ?_
     have q := h2 h.symm
     rcases or1 hm with hm | hm
     · cases ebx hm; rw [zvb]; exact getMethod_list_append l.at_ l.seq.cls l.dict q
     · cases ebx hm; rw [zAj]
       exact getMethod_builtin (T := "list") ⟨ob, l.at_, l.seq.cls⟩ PySem.F.plainAttrs_list PySem.F.slot_list_count PySem.F.type_list_count (λ a e => by cases e; exact ⟨ob, l.at_, l.dict⟩) q
   | dict es =>
     refine zgr h λ hm h => R.obj ho λ b ob t => t.dc e rfl λ ob kvs dd => ?_
     have q := h2 h.symm
     cases ebx hm
     rw [zHu]
     exact getMethod_builtin dd.of.typeIs PySem.F.plainAttrs_dict PySem.F.slot_dict_get PySem.F.type_dict_get dd.of.mapOf.noDict q
   | _ => exact zgr h λ hm _ => nb hm
 | _ => exact nn h
end
noncomputable def zs3 (mfd : FuncData) (cel : List Nat) (hkE : Expr → Option Nat) (hkS : Stmt → Option (Nat × Nat)) : Fx := ⟨mfd.scope, mfd.code, mfd.qualname ++ ".<locals>.", cel, hkE, hkS⟩
structure FnP (C : Cx) (a : Addr) (fd : FD) (o : Obj) (mfd : FuncData) (body : List Stmt) (du : List Value) (hkE : Expr → Option Nat) (hkS : Stmt → Option (Nat × Nat)) : Prop where
 at_ : C.K.lookup a = some o
 data : o.data = .func mfd
 bodyEq : mfd.body = .stmts body
 co : mfd.scope.isCoroutine = false
 gen : mfd.scope.isGenerator = false
 globals : mfd.globals = mainGlobals
 closure : mfd.closure = []
 builtins : mfd.builtins = builtinsNs
 code : C.G.CodeRec mfd.code mfd.qualname
 cels : ∀ p ∈ fd.cel, mfd.scope.names.lookup (nm p) = some .cell ∧ (nm p, NameKind.cell) ∈ mfd.scope.names
 celn : fd.cel.Nodup
 params : ∀ p ∈ fd.ps, mfd.scope.names.lookup (nm p) = some .local ∨ p ∈ fd.cel
 nodup : fd.ps.Nodup
 dfl : VRs [] fd.dfl du
 bind : ∀ us : List Value, us.length ≤ fd.ps.length → fd.ps.length ≤ us.length + du.length → ∀ S, peek C.K S (bindArgs mfd ⟨us, []⟩) = some ((fd.ps.map nm).zip (us ++ du.drop (us.length + du.length - fd.ps.length)))
 fok : FxOK C (zs3 mfd fd.cel hkE hkS)
 body : fd.body = body.map (erS 20 (zs3 mfd fd.cel hkE hkS).ek)
theorem VRs.size {ρ : List Addr} {vs : List AV} {us : List Value} (r : VRs ρ vs us) : us.toArray.size = vs.length := Eq.trans List.size_toArray r.length
theorem zes {α : Type} (x y : Nat) (v : α) (l : List (Nat × α)) : lk y ((x, v) :: l) = if x = y then some v else lk y l := by
 show (match Nat.beq x y with | true => some v | false => lk y l) = _
 rw [Tr.beq0]
 by_cases e : x = y
 · rw [decide_eq_true e, if_pos e]
 · rw [decide_eq_false e, if_neg e]
section
variable {C : Cx} {n z : Nat} {st : Store} {ρ ρ0 : List Addr} {w w' w2 : Wd} {A : Around} {K : KV} {Q : Value → Shared → Prop} {E : Value → Shared → Prop}
theorem Step.hide {L : Addr} {ρ' : List Addr} {s s' : Shared} (x : Step C z (AtX L) ρ s ρ' s') (h : s.heap.get? L = none) : Step C z NoX ρ s ρ' s' :=
 { x with keep := λ b o e h1 h2 _ => x.keep b o e h1 h2 (by rintro rfl; rw [h] at e; cases e) }
theorem Aft.hide {L : Addr} (x : Aft C z (AtX L) w st w') (h : w.s.heap.get? L = none) : Aft C z NoX w st w' := ⟨x.step.hide h, x.rep⟩
structure CellF (C : Cx) (ρ : List Addr) (h : Heap) (cells : List (Str × Addr)) (b : zaf) (x : Nat) (c : Addr) (ob : Obj) : Prop where
 look : cells.lookup (nm x) = some c
 new : New C ρ c
 at_ : h.get? c = some ob
 rel : ObR C ρ h ob (.cell (lk x b))
structure MkI (C : Cx) (h : Heap) (cells : List (Str × Addr)) (ρ0 : List Addr) (cel : List Nat) (cs : List Nat) (Γ : zaw) (st : Store) (ρ : List Addr) : Prop where
 rep : Rep C ρ st h
 pre : ρ0 <+: ρ
 own : ∀ i a, Ix ρ i a → ρ0.length ≤ i → ∃ y, y ∉ cs ∧ cells.lookup (nm y) = some a
 at_ : CellsOK ρ Γ cells
 dom : ∀ x ∈ cel, x ∈ cs ∨ ∃ i, lk x Γ = some i
theorem zmu {G : Prop} {h : Heap} {b : zaf} {cells : List (Str × Addr)} {cel : List Nat} (one : ∀ x y c, cells.lookup (nm x) = some c → cells.lookup (nm y) = some c → x = y) (F : ∀ x ∈ cel, ∃ c ob, CellF C ρ0 h cells b x c ob) :
   ∀ (cs : List Nat) {Γ : zaw} {st : Store} {ρ : List Addr}, (∀ x ∈ cs, x ∈ cel) → cs.Nodup → MkI C h cells ρ0 cel cs Γ st ρ → (∀ ρ', MkI C h cells ρ0 cel [] (zds cs b Γ st).1 (zds cs b Γ st).2 ρ' → G) → G := by
 intro cs
 induction cs with
 | nil => exact λ _ _ I k => k _ I
 | cons x cs ih =>
   intro Γ st ρ hs hn I k
   refine (F x (hs x (.head _))).elim λ c q => q.elim λ ob f => ?_
   have hx := List.nodup_cons.mp hn
   have o : Out ρ c := λ i e => by
     by_cases l : i < ρ0.length
     · exact f.new.out i (e.back I.pre l)
     · exact (I.own i c e (Nat.le_of_not_lt l)).elim λ y q => q.1 (one x y c f.look q.2 ▸ .head _)
   refine ih (λ y hy => hs y (.tail _ hy)) hx.2 (Γ := (x, st.n) :: Γ) ⟨I.rep.adopt ⟨o, f.new.tab, f.new.old⟩ (λ _ _ _ e => e) (λ _ _ e => e) f.at_ (f.rel.mono I.pre λ _ _ e => e), I.pre.trans (List.prefix_append _ _), λ i a e l => ?_, λ y i e => ?_, λ y hy => ?_⟩ k
   · rcases zhm e with e | ⟨_, e⟩
     · exact (I.own i a e l).elim λ y q => ⟨y, λ h => q.1 (.tail _ h), q.2⟩
     · exact ⟨x, hx.1, e ▸ f.look⟩
   · rw [zes] at e
     by_cases q : x = y
     · rw [if_pos q] at e
       cases e
       exact ⟨c, q ▸ f.look, zk5 _ _ I.rep.len⟩
     · rw [if_neg q] at e
       exact (I.at_ y i e).elim λ a t => ⟨a, t.1, zfd (List.prefix_append _ _) t.2⟩
   · rcases I.dom y hy with h | ⟨i, h⟩
     · rcases List.mem_cons.mp h with rfl | h
       · exact .inr ⟨_, by rw [zes, if_pos rfl]⟩
       · exact .inl h
     · by_cases q : x = y
       · exact .inr ⟨_, by rw [zes, if_pos q]⟩
       · exact .inr ⟨i, by rw [zes, if_neg q]; exact h⟩
noncomputable def LkR (ρ : List Addr) (old : Option Value) (o : Option AV) (r : Option Value) : Prop := match o with
 | none => r = old
 | some v => ∃ u, r = some u ∧ VR ρ v u
theorem zj5 {ps : List Nat} {x : Nat} (h : x ∉ ps) : ∀ vs : List AV, lk x (ps.zip vs) = none := by
 induction ps with
 | nil => intro vs; rfl
 | cons p ps ih =>
   intro vs
   cases vs with
   | nil => rfl
   | cons v vs => rw [List.zip_cons_cons, zes, if_neg λ (e : p = x) => h (e ▸ .head _)]; exact ih (λ q => h (.tail _ q)) vs
theorem zmp {sel : Str → Prop} {f : List (Str × Value) → (Str → Option Value) → Str → Option Value} (h0 : ∀ m, f [] m = m) (h1 : ∀ a v r m, ∃ m', f ((a, v) :: r) m = f r m' ∧ (∀ y, y ≠ a → m' y = m y) ∧ (sel a → m' a = some v)) {x : Nat} (hx : sel (nm x)) :
   ∀ {ps : List Nat} {vs : List AV} {us : List Value} {m : Str → Option Value}, VRs ρ vs us → ps.Nodup → LkR ρ (m (nm x)) (lk x (ps.zip vs)) (f ((ps.map nm).zip us) m (nm x)) := by
 intro ps
 induction ps with
 | nil => intro vs us m _ _; exact congrFun (h0 m) _
 | cons p ps ih =>
   intro vs us m r hn
   cases r with
   | nil => exact congrFun (h0 m) _
   | @cons v u vs us a r =>
     have hp := List.nodup_cons.mp hn
     obtain ⟨m', e, e1, e2⟩ := h1 (nm p) u ((ps.map nm).zip us) m
     show LkR ρ _ (lk x ((p, v) :: ps.zip vs)) (f ((nm p, u) :: (ps.map nm).zip us) m (nm x))
     rw [e, zes]
     have q := ih (m := m') r hp.2
     by_cases t : p = x
     · subst t
       rw [zj5 hp.1 vs] at q
       rw [if_pos rfl]
       exact ⟨u, q.trans (e2 hx), a⟩
     · rw [if_neg t]
       rw [e1 (nm x) λ e => t (zo2 e).symm] at q
       exact q
theorem zwo {kd : Str → Option NameKind} {ps : List Nat} {vs : List AV} {us : List Value} (r : VRs ρ vs us) (hn : ps.Nodup) {x : Nat} (hx : kd (nm x) = some .local) : LkR ρ none (lk x (ps.zip vs)) (bindL kd ((ps.map nm).zip us) (λ _ => none) (nm x)) :=
 zmp (sel := λ a => kd a = some .local) (f := bindL kd) (λ _ => rfl) (λ a v r m => ⟨_, rfl, λ y hy => by split <;> first | exact if_neg hy | rfl, λ h => by rw [if_pos h]; exact if_pos rfl⟩) hx r hn
theorem zx0 {kd : Str → Option NameKind} {ps : List Nat} {vs : List AV} {us : List Value} (r : VRs ρ vs us) (hn : ps.Nodup) {x : Nat} (hx : ¬ kd (nm x) = some .local) : LkR ρ none (lk x (ps.zip vs)) (PySem.bindC kd ((ps.map nm).zip us) (λ _ => none) (nm x)) :=
 zmp (sel := λ a => ¬ kd a = some .local) (f := PySem.bindC kd) (λ _ => rfl) (λ a v r m => ⟨_, rfl, λ y hy => by split <;> first | exact if_neg hy | rfl, λ h => by rw [if_neg h]; exact if_pos rfl⟩) hx r hn
theorem zif {g : Nat → Bool} {x : Nat} {v : AV} : ∀ {σ : zaf}, lk x (σ.filter λ p => !g p.1) = some v → lk x σ = some v ∧ g x = false
 | [], h => nn h
 | (y, u) :: σ, h => by
   rw [zes]
   rw [List.filter_cons] at h
   by_cases e : y = x
   · subst e
     rw [if_pos rfl]
     cases hg : g y with
     | false => rw [if_pos (by rw [hg]; rfl), zes, if_pos rfl] at h; exact ⟨h, rfl⟩
     | true => rw [if_neg (by rw [hg]; exact Bool.false_ne_true)] at h; rw [(zif h).2] at hg; exact nb hg
   · rw [if_neg e]
     split at h
     · rw [zes, if_neg e] at h; exact zif h
     · exact zif h
theorem zyt {x : Str} : ∀ (names : List (Str × NameKind)) (k : Nat) (acc : List (Str × Addr)), (x, NameKind.cell) ∈ names ∨ (acc.lookup x).isSome = true → ((cellsFrom k names acc).lookup x).isSome = true := by
 intro names
 induction names with
 | nil => exact λ _ _ h => h.elim (λ h => nomatch h) id
 | cons p names ih =>
   obtain ⟨y, kk⟩ := p
   intro k acc h
   unfold cellsFrom
   split
   · refine ih _ _ ?_
     rw [List.lookup_cons]
     rcases h with h | h
     · rcases List.mem_cons.mp h with e | h
       · cases e; rw [beq_self_eq_true]; exact .inr rfl
       · exact .inl h
     · cases x == y with
       | true => exact .inr rfl
       | false => exact .inr h
   · rename_i hk
     refine ih _ _ (h.imp_left λ h => ?_)
     rcases List.mem_cons.mp h with e | h
     · cases e; exact absurd rfl hk
     · exact h
theorem zsb : ∀ (k : Nat) {xs : List AV} {us : List Value}, VRs ρ xs us → VRs ρ (xs.drop k) (us.drop k)
 | 0, _, _, r => r
 | k + 1, _, _, .nil => .nil
 | k + 1, _, _, .cons _ r => zsb k r
noncomputable def zLo (f : Flow) : Value := match f with | .ret v => v | _ => .none
theorem zq0 {fl : FL} {f : Flow} (q : zHw ρ fl f) : VR ρ (zck fl) (zLo f) := by
 cases fl with
 | next => cases q; exact rfl
 | ret v => obtain ⟨u, r, rfl⟩ := q; exact r
theorem AOK.deep {env : Env} (h : AOK (n + 1) A) : AOK n (A.deeper env) := ⟨h.handled, ltx (Nat.le_of_eq (Nat.add_right_comm A.depth 1 n)) h.depth, by
 have := h.units
 show A.units + 3 + 8 * n ≤ 9000
 omega⟩
theorem AOK.deepR (h : AOK n A) : A.depth < recursionLimit := Nat.lt_of_le_of_lt (ltx (zft _ _) h.depth) (by decide)
def zBr (Q : Value → Shared → Prop) (E : Value → Shared → Prop) (r : Result) (s : Shared) : Prop := match r with | .ok (.ret v) => Q v s | .ok _ => False | .error e => E e s
structure Bound (fd : FD) (vs : List AV) (b : zaf) : Prop where
 le : vs.length ≤ fd.ps.length
 ge : fd.ps.length ≤ vs.length + fd.dfl.length
 eq : b = fd.ps.zip (vs ++ fd.dfl.drop (vs.length + fd.dfl.length - fd.ps.length))
theorem znl {fd : FD} {vs : List AV} {b : zaf} (h : zow fd.ps fd.dfl vs = some b) : Bound fd vs b := zgr (x := fd.ps.zip (vs ++ fd.dfl.drop (vs.length + fd.dfl.length - fd.ps.length))) h λ h e => zbf h λ h1 h2 => ⟨blx h1, blx h2, e.symm⟩
theorem zD9 (g : Good C) (Ss : SExecs C n) {a : Addr} {fd : FD} {o : Obj} {mfd : FuncData} {body : List Stmt} {du : List Value} {hkE : Expr → Option Nat} {hkS : Stmt → Option (Nat × Nat)} (F : FnP C a fd o mfd body du hkE hkS) {vs : List AV} {us : List Value} {b : zaf}
   (B : Bound fd vs b) (h : (mk C.T n).execs z (zds fd.cel b [] st).1 (b.filter λ p => !fd.cel.contains p.1) fd.body (zds fd.cel b [] st).2 λ fl _ st2 => K (zck fl) st2)
   (hA : AOK (n + 1) A) (R : Rep C w.ρ st w.s.heap) (r : VRs w.ρ vs us) (hQ : QE C z w K Q) : codeAny (model C.prog C.w) A (.call (.ref a) ⟨us, []⟩) (zBr Q E) w.s := by
 have N := R.beyond (Nat.le_refl w.s.heap.objs.size)
 have ul := r.length
 have dl := F.dfl.length
 have rb : VRs w.ρ (vs ++ fd.dfl.drop (vs.length + fd.dfl.length - fd.ps.length)) (us ++ du.drop (us.length + du.length - fd.ps.length)) := by
   rw [ul, dl]
   exact r.append (zsb _ (F.dfl.mono List.nil_prefix))
 have inps : ∀ {x v}, lk x b = some v → x ∈ fd.ps := λ {x v} e => Classical.byContradiction λ q => by rw [B.eq, zj5 q] at e; exact nn e
 have cellAt : ∀ p ∈ fd.cel, ∃ c, (callEnvC mfd w.s.heap.objs.size a).cells.lookup (nm p) = some c := λ p hp => Option.isSome_iff_exists.mp (zyt _ _ _ (.inl (F.cels p hp).2))
 refine codeAny_call_function hA.deepR (R.K g a o F.at_) F.data F.co F.gen F.bodyEq (F.code.keeps R.stays) (kp_binds (R.K g) (F.bind us (ul ▸ B.le) (ul ▸ dl ▸ B.ge)) _ _ _ _ ?_)
 rw [F.closure]
 refine wpAny_newFunctionEnv_cells F.fok.kind (λ x hx => ?_) λ env he s1 x => ⟨(R.lim g).keeps x.toInCall.keep, codeAny_func ?_⟩
 · obtain ⟨p, hp, e⟩ := List.mem_map.mp (List.of_mem_zip hx).1
   rw [← e]
   exact (F.params p hp).imp_right λ q => ⟨(F.cels p q).1, Option.isSome_iff_exists.mpr (cellAt p q)⟩
 · change env = callEnvC mfd w.s.heap.objs.size a at he
   subst he
   obtain ⟨h1, tk, e, keep⟩ := x.done
   have abv : ∀ {x c}, (callEnvC mfd w.s.heap.objs.size a).cells.lookup x = some c → w.s.heap.objs.size < c := λ e => x.above _ _ (mem_of_lookup e)
   subst e
   refine zmu (C := C) (ρ0 := w.ρ) (h := h1) (b := b) (cells := (callEnvC mfd w.s.heap.objs.size a).cells) (cel := fd.cel) (λ p q c e f => zo2 (name_of_addr x.apart (mem_of_lookup e) (mem_of_lookup f))) (λ p hp => (cellAt p hp).elim λ c hc => ?_) fd.cel (λ _ h => h) F.celn (Γ := []) ⟨R.keeps keep, List.prefix_refl _, λ i a e l => absurd e.lt (Nat.not_lt.mpr l), λ x i e => nn e, λ x h => .inl h⟩ λ ρ1 I => ?_
   · obtain ⟨ob, k1, k2⟩ := x.cell _ _ hc
     refine ⟨c, ob, hc, R.beyond (Nat.le_of_lt (abv hc)), k1, ?_⟩
     have q := zx0 (kd := (callEnvC mfd w.s.heap.objs.size a).kindOf) rb F.nodup (x := p) (by show ¬ mfd.scope.names.lookup (nm p) = _; rw [(F.cels p hp).1]; decide)
     rw [← B.eq] at q
     cases hl : lk p b with
     | none => rw [hl] at q; exact k2.trans (congrArg _ q)
     | some v => rw [hl] at q; exact q.elim λ u t => ⟨u, t.2, k2.trans (congrArg _ t.1)⟩
   · have a0 : Aft C z NoX w (zds fd.cel b [] st).2 ⟨ρ1, { w.s with heap := h1, toks := tk }⟩ := ⟨{ Step.side w.ρ w.s { w.s with heap := h1, toks := tk } keep rfl rfl with
       pre := I.pre
       new := λ i b l e => (I.own i b e l).elim λ y q => zcg (Nat.le_of_lt (abv q.2)) }, I.rep⟩
     refine Ss.go (P := ⟨zs3 mfd fd.cel hkE hkS, A.deeper (callEnvC mfd w.s.heap.objs.size a), callEnvC mfd w.s.heap.objs.size a⟩) (w := ⟨ρ1, { w.s with heap := h1, toks := tk }⟩) (F.body ▸ h) ⟨hA.deep, ⟨rfl, F.fok, F.globals, F.builtins, λ x i _ => I.at_ x i, λ y hy => (I.dom y hy).resolve_left (λ q => nomatch q), rfl, rfl⟩, I.rep, ⟨⟨_, x.toInCall.ns, λ y v e => ?_⟩, λ i e => ?_, N.tab, N.old⟩⟩ λ fl σ st2 w2 f k a1 _ q => hQ _ _ _ (zLo f) k ((a0.toL.trans a1).hide (zcg (Nat.le_refl _))) (zq0 q)
     · obtain ⟨e1, e2⟩ := zif e
       have q := zwo (kd := (callEnvC mfd w.s.heap.objs.size a).kindOf) rb F.nodup (x := y) ((F.params y (inps e1)).resolve_right λ t => by rw [List.contains_iff_mem.mpr t] at e2; exact nb e2.symm)
       rw [← B.eq, e1] at q
       exact q.elim λ u t => ⟨u, t.1, t.2.mono I.pre⟩
     · by_cases l : i < w.ρ.length
       · exact N.out i (e.back I.pre l)
       · exact (I.own i _ e (Nat.le_of_not_lt l)).elim λ y q => Nat.lt_irrefl _ (abv q.2)
end
structure IsiC (C : Cx) (a : Nat) : Prop where
 plain : plainGet C.K a "__class__" = true
 dict : hasDictIn C.K a = true
 find : findIn C.K (.ref a) "__class__" = some (some (.builtin "object.__class__"))
 special : specialIn C.K (.builtin "object.__class__") "__get__" = some (some (.builtin "getset_descriptor.__get__"))
 takes : takesIn C.K (.builtin "object.__class__") = some true
 mro : mroIn C.K a (.type "object") = some true
structure IsiOK (C : Cx) : Prop where
 get : ∀ a ∈ C.T.isi, IsiC C a
 one : ∀ a ∈ C.T.isi, ∀ b ∈ C.T.isi, kitOne C.K (.ref a) (.ref b) = some (Nat.beq a b)
section
variable {C : Cx} {z : Nat} {A : Around} {E : Value → Shared → Prop} {w : Wd} {st : Store} {Q : Value → Shared → Prop} {v : AV} {u : Value} {vs : List AV} {us : List Value} {p : Bool × AV × Store}
theorem IsiC.own {a x : Addr} {ox od : Obj} (I : IsiC C a) : KitX C.K (.ref x) (.ref a) (λ h => InstAt h x ox a (some od)) := kitx_own I.plain I.dict I.find I.special I.takes I.mro
structure TupIs (w : Wd) (a : Addr) (o : Obj) : Prop where
 at_ : w.s.heap.get? a = some o
 cls : o.cls = .type "tuple"
theorem zA7 {G : Kd → Value → Prop} {k : Kd} (h : zGk st v = some k) (R : Rep C w.ρ st w.s.heap) (r : VR w.ρ v u) (k1 : ∀ x t, G .str (.str x t)) (k2 : ∀ i t, G .int (.int i t)) (k3 : ∀ b, G .bool (.bool b)) (k4 : ∀ a o, TupIs w a o → G .tup (.ref a))
   (k5 : ∀ c a dx ds k, InstAt w.s.heap a (instObj c dx) c (some (dictOf ds k)) → G (.own c) (.ref a)) : G k u := by
 cases v with
 | str x => obtain ⟨_, t, rfl⟩ := r; cases h; exact k1 _ _
 | int i => obtain ⟨t, rfl⟩ := r; cases h; exact k2 _ _
 | bool b => cases r; cases h; exact k3 _
 | ref i =>
   obtain ⟨a, e, rfl⟩ := r
   refine zag h λ o ho h => R.obj ho λ b ob t => ?_
   cases o with
   | tup xs => cases h; exact t.tp e rfl λ ob us n l => k4 a ob ⟨l.at_, l.seq.cls⟩
   | inst c d => exact zbs h λ q hq h => R.ins hq e λ dx ds n cd I => h ▸ k5 _ a dx ds n I.inst
   | _ => exact nn h
 | _ => exact nn h
theorem zsz {b : BI} {k : Kd} {r : Bool} (h : zM9 b k = some r) (hk : zGk st v = some k) (R : Rep C w.ρ st w.s.heap) (rv : VR w.ρ v u) (hQ : ∀ tk, Q (.bool r) { w.s with toks := tk }) : wpAny (model C.prog C.w) A (call (.builtin "isinstance") [u, zqi b]) Q E w.s := by
 have hQ' : Q (.bool r) w.s := hQ w.s.toks
 revert h
 refine zA7 (G := λ k u => zM9 b k = some r → wpAny (model C.prog C.w) A (call (.builtin "isinstance") [u, zqi b]) Q E w.s) hk R rv (λ _ _ h => ?_) (λ _ _ h => ?_) (λ _ h => ?_) (λ a o t h => ?_) λ _ _ _ _ _ _ h => nn h
 · cases b with
   | str => cases h; exact IsiPair.str_str hQ'
   | tuple => cases h; exact IsiPair.str_tuple (hQ _)
   | bool => cases h; exact IsiPair.str_bool (hQ _)
   | _ => exact nn h
 · cases b with
   | str => cases h; exact IsiPair.int_str (hQ _)
   | tuple => cases h; exact IsiPair.int_tuple (hQ _)
   | _ => exact nn h
 · cases b with
   | str => cases h; exact IsiPair.bool_str (hQ _)
   | tuple => cases h; exact IsiPair.bool_tuple (hQ _)
   | bool => cases h; exact IsiPair.bool_bool hQ'
   | _ => exact nn h
 · cases b with
   | str => cases h; exact IsiPair.tuple_str t.at_ t.cls (hQ _)
   | tuple => cases h; exact IsiPair.tuple_tuple t.at_ t.cls hQ'
   | bool => cases h; exact IsiPair.tuple_bool t.at_ t.cls (hQ _)
   | _ => exact nn h
theorem zu3 {G : Kd → Prop} {k : Kd} {cs : List Nat} {r : Bool} (h : zt0 C.T cs k = some r) (f : ∀ c, c ∈ C.T.isi → (∀ a ∈ cs, a ∈ C.T.isi) → (cs.any λ a => Nat.beq c a) = r → G (.own c)) : G k := by
 cases k with
 | own c => exact zgr (x := cs.any λ a => Nat.beq c a) h λ h e => zbf h λ h1 h2 => f c (List.contains_iff_mem.mp h1) (λ a ha => List.contains_iff_mem.mp (List.all_eq_true.mp h2 a ha)) e
 | _ => exact nn h
theorem zrg {v : AV} {a : Nat} (h : zqa v = some a) : v = .old a := by
 cases v with
 | old => cases h; rfl
 | _ => exact nn h
theorem zuf (I : IsiOK C) {c : Nat} (hc : c ∈ C.T.isi) : ∀ {cs : List Nat}, (∀ a ∈ cs, a ∈ C.T.isi) → kitAny C.K (.ref c) (cs.map Value.ref) = some (cs.any λ a => Nat.beq c a)
 | [], _ => rfl
 | a :: cs, h => by
   show kitAny C.K (.ref c) (.ref a :: cs.map Value.ref) = some (Nat.beq c a || cs.any λ a => Nat.beq c a)
   unfold kitAny
   rw [I.one c hc a (h a (.head _))]
   cases Nat.beq c a with
   | true => rfl
   | false => exact zuf I hc λ b hb => h b (.tail _ hb)
theorem zpb (g : Good C) (I : IsiOK C) {c : AV} {r : Bool} {u' : Value} (h : zlw C.T st v c = some r) (R : Rep C w.ρ st w.s.heap) (rv : VR w.ρ v u) (rc : VR w.ρ c u') (hQ : ∀ tk, Q (.bool r) { w.s with toks := tk }) :
   wpAny (model C.prog C.w) A (call (.builtin "isinstance") [u, u']) Q E w.s := by
 refine zag h λ k hk h => ?_
 have own : ∀ {cs : List Nat}, zt0 C.T cs k = some r → (∀ c a dx ds n, c ∈ C.T.isi → (∀ a ∈ cs, a ∈ C.T.isi) → (cs.any λ a => Nat.beq c a) = r → InstAt w.s.heap a (instObj c dx) c (some (dictOf ds n)) → wpAny (model C.prog C.w) A (call (.builtin "isinstance") [.ref a, u']) Q E w.s) →
     wpAny (model C.prog C.w) A (call (.builtin "isinstance") [u, u']) Q E w.s := λ {cs} h f =>
   zA7 (G := λ k u => zt0 C.T cs k = some r → wpAny (model C.prog C.w) A (call (.builtin "isinstance") [u, u']) Q E w.s) hk R rv (λ _ _ h => nn h) (λ _ _ h => nn h) (λ _ h => nn h) (λ _ _ _ h => nn h)
     (λ c a dx ds n i h => zu3 (G := λ k => k = .own c → wpAny (model C.prog C.w) A (call (.builtin "isinstance") [.ref a, u']) Q E w.s) h (λ c' h1 h2 h3 e => by cases e; exact f c a dx ds n h1 h2 h3 i) rfl) h
 cases c with
 | bi b => cases rc; exact zsz h hk R rv hQ
 | old a =>
   cases rc
   refine own h λ c x dx ds n h1 h2 h3 i => kia_one (I.get c h1).own (R.K g) i ?_ (by intro q; cases q) hQ
   rw [I.one c h1 a (h2 a (.head _)), ← h3]
   exact congrArg some (Bool.or_false _).symm
 | ref j =>
   obtain ⟨t, e, rfl⟩ := rc
   refine zag h λ xs hx h => R.tp hx e λ ob us n l => ?_
   match xs, l, h with
   | [x, y], l, h =>
     refine zag h λ a ha h => zag h λ b hb h => ?_
     cases zrg ha
     cases zrg hb
     obtain ⟨oc, od, oda, osl⟩ := ob
     have e2 := l.seq.cls; have e3 := l.seq.data; have e4 := l.at_; have e5 := l.seq.items
     dsimp only at e2 e3
     subst e2 e3
     cases e5 with
     | cons a1 e5 =>
       cases e5 with
       | cons a2 e5 =>
         cases e5; cases a1; cases a2
         exact own h λ c x dx ds n h1 h2 h3 i => kia_tup (I.get c h1).own (R.K g) i e4 (h3 ▸ zuf I h1 h2) (by intro q; cases q) hQ
   | [], _, h => exact nn h
   | [_], _, h => exact nn h
   | _ :: _ :: _ :: _, _, h => exact nn h
 | _ => exact nn h
theorem zJn {α : Type} {l : List α} {x : α} (h : one l = some x) : l = [x] := by
 match l, h with
 | [_], h => rw [Option.some.inj h]
 | [], h => exact nn h
 | _ :: _ :: _, h => exact nn h
theorem zkr {G : List Value → Prop} (h : one vs = some v) (r : VRs w.ρ vs us) (k : ∀ u, VR w.ρ v u → G [u]) : G us := by
 cases zJn h
 cases r with
 | cons a r => cases r; exact k _ a
theorem zzh {G : AO → Prop} {o : AO} {xs : List AV} (h : o.toLT = some xs) (k1 : G (.list xs)) (k2 : G (.tup xs)) : G o := by
 cases o with
 | list => cases h; exact k1
 | tup => cases h; exact k2
 | _ => exact nn h
theorem zso {n : Nat} (h : n ≤ 1001) : (n : Int) < 2 ^ 63 := Int.lt_of_le_of_lt (Int.ofNat_le.mpr h) (by decide)
theorem zue (g : Good C) (h : biv C.T .len [v] st = some p) (R : Rep C w.ρ st w.s.heap) (r : VR w.ρ v u) (hQ : QV C z w p.2.2 p.2.1 Q) : wpAny (model C.prog C.w) A (call (.builtin "len") [u]) Q E w.s := by
 cases v with
 | str x =>
   obtain ⟨hl, t, rfl⟩ := r
   cases h
   exact PyProof.Rows.len_str (Int.not_le.mpr (zso (Nat.le_succ_of_le hl))) (hQ.tk R _ (.int _ _))
 | ref i =>
   obtain ⟨a, e, rfl⟩ := r
   refine zbs h λ xs hx h => ?_
   subst h
   refine zag hx λ o ho hx => R.obj ho λ b ob t => zzh (G := λ o => At C w.ρ w.s.heap i o b ob → wpAny (model C.prog C.w) A (call (.builtin "len") [.ref a]) Q E w.s) hx (λ t => t.ls e rfl λ ob us n l => ?_) (λ t => t.tp e rfl λ ob us n l => ?_) t
   · exact PyProof.Rows.len_list l.is (l.seq.items.size ▸ zso l.len) (l.seq.items.size ▸ hQ.tk R _ (.int _ _))
   · exact PyProof.Rows.len_tuple l.is (l.seq.items.size ▸ zso l.len) (l.seq.items.size ▸ hQ.tk R _ (.int _ _))
 | old a =>
   cases r
   refine zbs h λ xs hx h => ?_
   subst h
   obtain ⟨hl, us, r, o, e1, e2⟩ := g.tups _ _ hx
   exact PyProof.Rows.len_tuple (items := us.toArray) ⟨o, R.stays _ _ e1, e2⟩ (r.size ▸ zso hl) (r.size ▸ hQ.tk R _ (.int _ _))
 | _ => exact nn h
theorem zBs {j : Int} : Builtin.Range.rangeSize 0 j 2 = (((j + 1) / 2).toNat : Int) := by
 unfold Builtin.Range.rangeSize
 rw [if_pos (by decide)]
 split <;> omega
theorem zx1 (i : Int) : (if i < 0 then -i else i) = (i.natAbs : Int) := by split <;> omega
structure SetsOK (C : Cx) : Prop where
 set : ∀ {z : Nat} {A : Around} {E : Value → Shared → Prop} {w : Wd} {st : Store} {Q : Value → Shared → Prop} {v : AV} {u : Value} {p : Bool × AV × Store}, biv C.T .set [v] st = some p → p.1 = true → A.handled = none → Rep C w.ρ st w.s.heap → VR w.ρ v u →
   QV C z w p.2.2 p.2.1 Q → wpAny (model C.prog C.w) A (call (.type "set") [u]) Q E w.s
 sorted : ∀ {z : Nat} {A : Around} {E : Value → Shared → Prop} {w : Wd} {st : Store} {Q : Value → Shared → Prop} {v : AV} {u : Value} {p : Bool × AV × Store}, biv C.T .sorted [v] st = some p → p.1 = true → A.handled = none → Rep C w.ρ st w.s.heap → VR w.ρ v u →
   QV C z w p.2.2 p.2.1 Q → wpAny (model C.prog C.w) A (call (.builtin "sorted") [u]) Q E w.s
theorem Aft.made (X : Addr → Prop) (R : Rep C w.ρ st w.s.heap) {h' : Heap} {k : Nat} {o : AO} {ob : Obj} (keep : ∀ b o, w.s.heap.get? b = some o → h'.get? b = some o) (e : h'.get? w.s.heap.objs.size = some ob) (ho : ObR C w.ρ h' ob o) :
   Aft C z X w (st.add o) ⟨w.ρ ++ [w.s.heap.objs.size], { w.s with heap := h', toks := k }⟩ := ⟨(Step.side w.ρ w.s { w.s with heap := h', toks := k } keep rfl rfl).join (zcg (Nat.le_refl _)), (R.keeps keep).adopt (R.beyond (Nat.le_refl _)) (λ _ _ _ e => e) (λ _ _ e => e) e ho⟩
theorem zJt {j : Int} (h0 : 0 ≤ j) (h1 : j ≤ 1000) : Builtin.Range.small 0 j 2 = true := by
 unfold Builtin.Range.small
 rw [zBs]
 simp only [Builtin.Range.rangeFitsLong, Bool.and_eq_true, Bool.or_eq_true, decide_eq_true_eq, beq_iff_eq, show (2 : Int) > 0 by decide, if_true]
 omega
def BG (C : Cx) (A : Around) (Q : Value → Shared → Prop) (E : Value → Shared → Prop) (w : Wd) (b : BI) (us : List Value) : Prop := wpAny (model C.prog C.w) A (call (zqi b) us) Q E w.s
theorem zwt (g : Good C) (I : IsiOK C) (S : SetsOK C) {b : BI} (h : biv C.T b vs st = some p) (hp : p.1 = true) (hh : A.handled = none) (R : Rep C w.ρ st w.s.heap) (r : VRs w.ρ vs us) (hQ : QV C z w p.2.2 p.2.1 Q) : BG C A Q E w b us := by
 cases b with
 | set => exact zag h λ v hv _ => zkr (G := BG C A Q E w .set) hv r λ u a => S.set (zJn hv ▸ h) hp hh R a hQ
 | sorted => exact zag h λ v hv _ => zkr (G := BG C A Q E w .sorted) hv r λ u a => S.sorted (zJn hv ▸ h) hp hh R a hQ
 | len => exact zag h λ v hv _ => zkr (G := BG C A Q E w .len) hv r λ u a => zue g (zJn hv ▸ h) R a hQ
 | abs =>
   refine zag h λ v hv h => zkr (G := BG C A Q E w .abs) hv r λ u a => zbs h λ i hi h => zcc (G := λ u => BG C A Q E w .abs [u]) hi a λ t => call_abs_int λ t2 tk => ?_
   subst h; rw [zx1]; exact hQ.tk R _ (.int _ _)
 | max =>
   cases r with
   | nil => exact nn h
   | cons a r =>
     cases r with
     | nil => exact nn h
     | cons a' r =>
       cases r with
       | cons => exact nn h
       | nil =>
         refine zag h λ i hi h => zbs h λ j hj h => zcc (G := λ u => BG C A Q E w .max [u, _]) hi a λ t => zcc (G := λ u => BG C A Q E w .max [_, u]) hj a' λ t2 => max_two_ints hh λ h' tk keep => ?_
         subst h
         refine hQ _ _ (Aft.side NoX R (k := tk) keep) ?_
         show VR _ (AV.int (if j > i then j else i)) _
         by_cases q : j > i
         · rw [if_pos q, if_pos q]; exact .int _ _
         · rw [if_neg q, if_neg q]; exact .int _ _
 | int =>
   refine zag h λ v hv h => zkr (G := BG C A Q E w .int) hv r λ u a => ?_
   cases v with
   | bool b =>
     cases a
     cases h
     exact call_int_bool (hQ.tk R _ (by cases b <;> exact .int _ _))
   | _ => exact nn h
 | list =>
   refine zag h λ v hv h => zkr (G := BG C A Q E w .list) hv r λ u a => zag h λ i hi h => zbs h λ xs hx h => zd8 (G := λ u => BG C A Q E w .list [u]) hi a λ b e => R.ls hx e λ ob us n l => ?_
   subst h
   exact call_list_seq b (.inl rfl) l.at_ l.seq.cls l.seq.data (λ h' c' keep hn => hQ _ _ (Aft.made NoX R keep hn ⟨zhb hp, ⟨us, c', l.seq.items, rfl, rfl⟩, rfl⟩) (zg1 R _)) (l.seq.items.size ▸ fits hp)
 | isinstance =>
   cases r with
   | nil => exact nn h
   | cons a r =>
     cases r with
     | nil => exact nn h
     | cons a' r =>
       cases r with
       | cons => exact nn h
       | nil => exact zbs h λ b hb h => zpb g I hb R a a' λ tk => by subst h; exact hQ.tk R _ (.bool _)
 | range =>
   cases r with
   | nil => exact nn h
   | cons a r =>
     cases r with
     | nil =>
       refine zbs h λ i hi h => zcc (G := λ u => BG C A Q E w .range [u]) hi a λ t => ?_
       subst h
       refine zbf hp λ h1 h2 => call_range_1 ?_
       have h1 := of_decide_eq_true h1
       have h2 := of_decide_eq_true h2
       exact hQ.push R _ (o := .rng 0 1 i.toNat) rfl ⟨i, _, _, _, rfl, small_one (by decide) (by decide) (by omega) (by omega), (rangeSize_one 0 i).trans (by split <;> omega)⟩
     | cons a' r =>
       cases r with
       | nil => exact nn h
       | cons a'' r =>
         cases r with
         | cons => exact nn h
         | nil =>
           refine zag h λ i hi h => zag h λ j hj h => zbs h λ k hk h => zcc (G := λ u => BG C A Q E w .range [u, _, _]) hi a λ t => zcc (G := λ u => BG C A Q E w .range [_, u, _]) hj a' λ t2 => zcc (G := λ u => BG C A Q E w .range [_, _, u]) hk a'' λ t3 => ?_
           subst h
           refine zbf hp λ hp h4 => zbf hp λ hp h3 => zbf hp λ h1 h2 => ?_
           cases of_decide_eq_true h1
           cases of_decide_eq_true h2
           exact call_range_3 (by decide) (hQ.push R _ (o := .rng 0 2 ((j + 1) / 2).toNat) rfl ⟨j, _, _, _, rfl, zJt (of_decide_eq_true h3) (of_decide_eq_true h4), zBs⟩) (.inl (PyProof.noPylong_small (by decide)))
 | ord =>
   refine zag h λ v hv h => zkr (G := BG C A Q E w .ord) hv r λ u a => zag h λ s hs h => zbs h λ c hc h => zgk (G := λ u => BG C A Q E w .ord [u]) hs a λ t hl => ?_
   subst h
   refine zag hc λ c' h1 h2 => ?_
   cases h2
   cases zJn h1
   exact P.ord_of_char (hQ.tk R _ (.int _ _))
 | _ => exact nn h
end
structure TabsOK (C : Cx) : Prop where
 inj : ∀ q ∈ C.tabs, ∀ q' ∈ C.tabs, q.2 = q'.2 → q = q'
section
variable {C : Cx} {P : Pl} {n d z : Nat} {Γ : zaw} {σ σ' : zaf} {st st' : Store} {w w' : Wd} {K : KV} {Q : Value → Shared → Prop} {E : Value → Shared → Prop} {A : Around} {env : Env} {ρ : List Addr} {fx : Fx}
structure ClosG (env : Env) (f : Str × NameKind → List (Str × Addr) → Sem (ForInStep (List (Str × Addr)))) (names : List (Str × NameKind)) (acc l : List (Str × Addr)) : Prop where
 go : forIn names acc f = pure l
 look : ∀ y, (y, NameKind.free) ∈ names ∨ acc.lookup y = env.cells.lookup y → l.lookup y = env.cells.lookup y
theorem ztq {f : Str × NameKind → List (Str × Addr) → Sem (ForInStep (List (Str × Addr)))} (hf : ∀ name kind cs, f (name, kind) cs = if (kind == NameKind.free) = true then (do let a ← cellOf env name; pure (.yield ((name, a) :: cs))) else pure (.yield cs)) :
   ∀ (names : List (Str × NameKind)) (acc : List (Str × Addr)), (∀ y ∈ names, y.2 = .free → ∃ a, env.cells.lookup y.1 = some a) → ∃ l, ClosG env f names acc l := by
 intro names
 induction names with
 | nil => exact λ acc _ => ⟨acc, List.forIn_nil, λ y h => h.elim (λ h => nomatch h) id⟩
 | cons p r ih =>
   obtain ⟨name, kind⟩ := p
   intro acc h
   by_cases hk : (kind == NameKind.free) = true
   · obtain ⟨a, ha⟩ := h (name, kind) (.head _) (eq_of_beq hk)
     obtain ⟨l, I⟩ := ih ((name, a) :: acc) λ y hy => h y (.tail _ hy)
     refine ⟨l, ?_, λ y hy => I.look y ?_⟩
     · rw [List.forIn_cons, hf, if_pos hk]
       unfold cellOf
       rw [show env.cells.lookup name = some a from ha]
       exact I.go
     · rw [List.lookup_cons]
       by_cases e : y = name
       · rw [e, beq_self_eq_true]; exact .inr ha.symm
       · rw [beq_eq_false_iff_ne.mpr e]
         exact hy.imp_left λ hy => (List.mem_cons.mp hy).resolve_left λ q => e (congrArg (·.1) q)
   · obtain ⟨l, I⟩ := ih acc λ y hy => h y (.tail _ hy)
     refine ⟨l, ?_, λ y hy => I.look y (hy.imp_left λ hy => (List.mem_cons.mp hy).resolve_left λ q => ?_)⟩
     · rw [List.forIn_cons, hf, if_neg hk]
       exact I.go
     · cases q; exact hk rfl
structure CellIn (Γ : zaw) (fr : List Nat) (x i : Nat) : Prop where
 mem : x ∈ fr
 look : lk x Γ = some i
theorem zpy {x i : Nat} : ∀ {fr : List Nat} {cl : zaw}, zd1 Γ fr = some cl → lk x cl = some i → CellIn Γ fr x i := by
 intro fr
 induction fr with
 | nil => intro cl h e; cases h; exact nn e
 | cons y r ih =>
   intro cl h e
   refine zag h λ j hj h => zbs h λ c' h1 h => ?_
   subst h
   rw [zes] at e
   by_cases q : y = x
   · rw [if_pos q] at e
     cases e
     exact ⟨q ▸ .head _, q ▸ hj⟩
   · rw [if_neg q] at e
     have t := ih h1 e
     exact ⟨.tail _ t.mem, t.look⟩
structure ClosOK (env : Env) (ρ : List Addr) (scope : Scope) (cl : zaw) (clos : List (Str × Addr)) : Prop where
 eq : closureFor scope env = pure clos
 ok : CellsOK ρ cl clos
structure ClosD (fx : Fx) (Γ : zaw) (env : Env) (ρ : List Addr) (scope : Scope) (clos : List (Str × Addr)) : Prop where
 eq : closureFor scope env = pure clos
 at_ : ∀ x i, x ∈ fx.dom → (nm x, NameKind.free) ∈ scope.names → lk x Γ = some i → ∃ a, clos.lookup (nm x) = some a ∧ Ix ρ i a
theorem zu4 (e : EnvOK C fx Γ ρ env) {scope : Scope} (hf : ∀ y ∈ scope.names, y.2 = .free → ∃ x ∈ fx.dom, nm x = y.1) : ∃ clos, ClosD fx Γ env ρ scope clos := by
 obtain ⟨l, I⟩ := ztq (env := env) (f := λ p cs => match p with | (name, kind) => if (kind == NameKind.free) = true then (do let a ← cellOf env name; pure (.yield ((name, a) :: cs))) else pure (.yield cs)) (λ _ _ _ => rfl) scope.names [] λ y hy hk => by
   obtain ⟨x, hx, hn⟩ := hf y hy hk
   obtain ⟨i, hi⟩ := e.dom x hx
   exact (e.cells x i hx hi).elim λ a q => ⟨a, hn ▸ q.1⟩
 refine ⟨l, ?_, λ x i hx hm hi => (e.cells x i hx hi).elim λ a r => ⟨a, (I.look _ (.inl hm)).trans r.1, r.2⟩⟩
 unfold closureFor
 show (forIn scope.names [] _ >>= λ cs => pure cs) = pure l
 rw [← I.go]
 exact bind_pure (m := Sem) _
theorem zj7 {k : Nat} {args : Arguments} {scope : Scope} {m : NMod} {nd : ND} {cl : zaw} (h : zd1 Γ nd.free = some cl) (e : EnvOK C fx Γ ρ env) (L : LamOK C fx k args scope m nd) : ∃ clos, ClosOK env ρ scope cl clos :=
 (zu4 e λ y hy hk => (L.free y hy hk).elim λ x q => ⟨x, (L.isfree x q.1).1, q.2⟩).elim λ clos D => ⟨clos, D.eq, λ x i hx =>
   have t := zpy h hx
   D.at_ x i (L.isfree x t.mem).1 (L.isfree x t.mem).2 t.look⟩
theorem zmx {pos : Pos} {a b : Int} {c v : Value} (l : List Value) (h : TriplesOk l) (e : codeAmong pos (l ++ [rawInt a, rawInt b, c]) = some v) : codeAmong pos l = some v ∨ (a = pos.line ∧ b = pos.col ∧ v = c) := by
 fun_induction TriplesOk l with
 | case1 =>
   unfold codeAmong rawInt at e
   simp only [List.nil_append, codeAmong] at e
   split at e
   · rename_i hh
     cases e
     simp only [Bool.and_eq_true, beq_iff_eq] at hh
     exact .inr ⟨hh.1, hh.2, rfl⟩
   · exact nn e
 | case2 a' t b' u x rest ih =>
   simp only [List.cons_append, codeAmong] at e ⊢
   split at e
   · rename_i hh
     rw [if_pos hh]; exact .inl e
   · rename_i hh
     rw [if_neg hh]
     exact ih h e
 | case3 => exact h.elim
theorem zpm {ps : Array Value} (h : TriplesOk ps.toList) : zfb (tabObj ps) := by
 intro vs e q t
 cases e
 rw [← Array.getElem?_toList]
 revert h
 generalize ps.toList = l
 intro h
 cases l with
 | nil => exact λ h => nomatch h
 | cons a r => cases a with
   | int =>
     intro e
     cases r with
     | nil => cases e
     | cons b r => cases (Option.some.inj e : b = _); exact h.elim
   | _ => exact h.elim
theorem Rep.grow (g : Good C) (T : TabsOK C) {h h' : Heap} (R : Rep C ρ st h) {ps : Array Value} {c' : Addr} {k : Nat} {m : NMod} (hq : m.tab ∈ C.tabs) (t : TabAt C h m.tab ps) (hx : Heap.ExtBut m.tab.2 h h') (hm : C.nmods k = some m)
   (hP : h'.get? m.tab.2 = some (tabObj (ps ++ #[rawInt m.pos.line, rawInt m.pos.col, .ref c']))) (hc : h'.CodeRec (.ref c') m.qual) : Rep C ρ st h' :=
 have code : ∀ cd q, h.CodeRec cd q → h'.CodeRec cd q := λ cd q x => zeo x t.at_ (zpm t.ok) λ b o hb e => hx b o hb e
 { R with
   stays := λ b o e => hx b o (by rintro rfl; rw [(g.bts _ hq).new] at e; cases e) (R.stays b o e)
   objs := λ i o e => R.obj e λ a ob q => ⟨a, ob, q.ix, hx a ob (by rintro rfl; exact R.tabo _ hq i q.ix) q.at_, q.rel.mono (List.prefix_refl _) code⟩
   tabs := λ q' hq' => (R.tabs q' hq').elim λ ps' t' => by
     by_cases e : q'.2 = m.tab.2
     · cases T.inj _ hq' _ hq e
       have : ps = ps' := by
         have := Option.some.inj (t.at_.symm.trans t'.at_)
         simpa [tabObj] using this
       subst this
       refine ⟨_, hP, ?_, λ k' n' hk' hn' v hv => ?_⟩
       · rw [Array.toList_append]; exact TriplesOk_snoc _ _ _ _ t.ok
       · rw [Array.toList_append] at hv
         rcases zmx _ t.ok hv with z | ⟨z1, z2, rfl⟩
         · exact code _ _ (t.code k' n' hk' hn' v z)
         · rw [← g.quals k k' m n' hm hk' hn'.symm (Int.ofNat.inj z1) (Int.ofNat.inj z2)]
           exact hc
     · exact ⟨ps', hx _ _ e t'.at_, t'.ok, λ k' n' hk' hn' v hv => code _ _ (t'.code k' n' hk' hn' v hv)⟩ }
theorem zjr {mg : Str → Option Value} {G h : Heap} {P : Addr} (x : G.BuiltinsAt mg P) (k : ∀ b o, G.get? b = some o → h.get? b = some o) : h.BuiltinsAt mg P := by
 obtain ⟨bm, ob, a1, a2, a3, a4, a5, a6⟩ := x
 exact ⟨bm, ob, a1, a2, a3, a4, k _ _ a5, a6⟩
structure FnO (ob : Obj) (fd : FuncData) (m : NMod) (clos : List (Str × Addr)) : Prop where
 cls : ob.cls = .type "function"
 data : ob.data = .func fd
 free : ob.isFreed = false
 fn : fnOf m clos fd
structure Grown (C : Cx) (w : Wd) (st : Store) (h' : Heap) : Prop where
 rep : Rep C w.ρ st h'
 keep : ∀ b o, w.s.heap.get? b = some o → ¬ C.isTab b → h'.get? b = some o
 alive : ∀ b o, w.s.heap.get? b = some o → ∃ o', h'.get? b = some o'
theorem zvg {h' : Heap} {tk : Tok} {ob : Obj} {fd : FuncData} {m : NMod} {k : Nat} {cl : zaw} {clos : List (Str × Addr)} (hm : C.nmods k = some m) (hc : CellsOK w.ρ cl clos) (o : FnO ob fd m clos) (N : Grown C w st h') (hrec : h'.CodeRec fd.code fd.qualname) (hQ : QV C z w (st.add (.fn k cl)) (.ref st.n) Q) :
   Q (.ref h'.objs.size) { w.s with heap := h'.push ob, toks := tk } := by
 refine hQ ⟨w.ρ ++ [h'.objs.size], { w.s with heap := h'.push ob, toks := tk }⟩ _ ⟨Step.join (s' := { w.s with heap := h'.push ob, toks := tk }) { Step.refl (C := C) (z := z) NoX w.ρ w.s with
     keep := λ b o e _ ht _ => Heap.get?_push_of_some _ (N.keep b o e ht)
     alive := λ b o e => (N.alive b o e).elim λ o' e' => ⟨o', Heap.get?_push_of_some _ e'⟩
     gens := rfl
     os := rfl } ?_, N.rep.add o.free ⟨m, clos, fd, hm, hc, o.cls, o.data, o.fn, hrec⟩⟩ (zg1 N.rep _)
 cases e : w.s.heap.get? h'.objs.size with
 | none => rfl
 | some o => exact (N.alive _ _ e).elim λ o' e' => absurd (Heap.lt_size e') (Nat.lt_irrefl _)
theorem zl8 (g : Good C) (T : TabsOK C) {k : Nat} {m : NMod} {cl : zaw} {clos : List (Str × Addr)} {first : Nat} (hm : C.nmods k = some m) (hmt : m.tab ∈ C.tabs) (hcode : env.code = .ref m.tab.1) (hg : env.globals = mainGlobals) (R : Rep C w.ρ st w.s.heap)
   (O : ClosOK env w.ρ m.scope cl clos) (hQ : QV C z w (st.add (.fn k cl)) (.ref st.n) Q) : wpAny (model C.prog C.w) A (makeFunction m.name m.qual m.params m.body m.scope env [] [] [] m.pos first) Q E w.s := by
 have B := g.bts _ hmt
 obtain ⟨ps, t⟩ := R.tabs _ hmt
 have hCH : CodeHd w.s.heap m.tab.1 m.tab.2 := B.code.keeps R.stays
 have hB := zjr B.bi R.stays
 have hgP : mainGlobals ≠ m.tab.2 := λ e => by
   obtain ⟨o, es, ep, e1, _⟩ := g.mg
   rw [e, B.new] at e1; cases e1
 have hit : ∀ (cv : Value), codeAmong m.pos ps.toList = some cv → ∀ (h' : Heap) (tk : Tok) (ob : Obj) (fd : FuncData), FnO ob fd m clos → fd.code = cv → (∀ b o, w.s.heap.get? b = some o → h'.get? b = some o) → Q (.ref h'.objs.size) { w.s with heap := h'.push ob, toks := tk } :=
   λ cv hcv h' tk ob fd o e keep => zvg hm O.ok o ⟨R.keeps keep, λ b o e _ => keep b o e, λ b o e => ⟨o, keep b o e⟩⟩ (by rw [e, o.fn.qual]; exact (t.code k m hm rfl cv hcv).keeps keep) hQ
 have new : ∀ (c' : Addr) (h' : Heap) (tk : Tok) (ob : Obj) (fd : FuncData), FnO ob fd m clos → fd.code = .ref c' → Heap.ExtBut m.tab.2 w.s.heap h' → h'.CodeRec (.ref c') m.qual →
     h'.get? m.tab.2 = some (tabObj (ps ++ #[rawInt m.pos.line, rawInt m.pos.col, .ref c'])) → Q (.ref h'.objs.size) { w.s with heap := h'.push ob, toks := tk } :=
   λ c' h' tk ob fd o e hx hrec hP => zvg hm O.ok o ⟨R.grow g T hmt t hx hm hP hrec, λ b o e ht => hx b o (by rintro rfl; exact ht ⟨_, hmt, rfl⟩) e, λ b o e => by
     by_cases q : b = m.tab.2
     · exact ⟨_, q ▸ hP⟩
     · exact ⟨o, hx b o q e⟩⟩ (by rw [e, o.fn.qual]; exact hrec) hQ
 have h1 := t.at_; have h2 := t.ok; have hcl := O.eq
 obtain ⟨nn, nq, np, nb, ns, npos, nt⟩ := m
 dsimp only at *
 cases nb with
 | stmts body =>
   cases hcv : codeAmong npos ps.toList with
   | some cv => exact makeFunction_hit (mg := C.mg) hcl hg (R.mg g) hcode hCH h1 h2 hcv hB λ ctv doc h' tk keep _ => hit cv hcv h' tk _ _ ⟨rfl, rfl, rfl, rfl, rfl, rfl, rfl, rfl, rfl, rfl, rfl, rfl⟩ rfl keep
   | none => exact makeFunction_K (mg := C.mg) hcl hg (R.mg g) hcode hCH h1 h2 hcv hgP hB λ c' ctv doc h' tk hx _ _ hrec hP' => new c' h' tk _ _ ⟨rfl, rfl, rfl, rfl, rfl, rfl, rfl, rfl, rfl, rfl, rfl, rfl⟩ rfl hx hrec hP'
 | expr body =>
   cases hcv : codeAmong npos ps.toList with
   | some cv => exact kla_makeFunctionHit (mg := C.mg) hcl hg (R.mg g) hcode hCH h1 h2 hcv hB λ ctv h' tk keep _ => hit cv hcv h' tk _ _ ⟨rfl, rfl, rfl, rfl, rfl, rfl, rfl, rfl, rfl, rfl, rfl, rfl⟩ rfl keep
   | none => exact kla_makeFunction (mg := C.mg) hcl hg (R.mg g) hcode hCH h1 h2 hcv hgP hB λ c' ctv h' tk hx _ _ hrec hP' => new c' h' tk _ _ ⟨rfl, rfl, rfl, rfl, rfl, rfl, rfl, rfl, rfl, rfl, rfl, rfl⟩ rfl hx hrec hP'
theorem zHp (g : Good C) (T : TabsOK C) {k : Nat} {x : Expr} (hk : P.fx.hkE x = some k) (h : evF C.T (mk C.T n) z Γ σ (.lam k) st K) (H : Here C P Γ σ n st w) (hQ : QE C z w K Q) : wpAny (model C.prog C.w) P.A (eval x P.env) Q E w.s := by
 obtain ⟨args, body, scope, p, m, nd, rfl, e, _, L⟩ := H.fr.fok.lam x k hk
 refine Opt.inv h λ nd' hn h => ?_
 cases L.nst.symm.trans hn
 refine Opt.inv h λ cl hcl h => ?_
 obtain ⟨clos, O⟩ := zj7 hcl H.fr L
 refine kla_eval ?_ ?_
 · rw [defaultsOf_eq, L.dfl, L.kwd]; rfl
 · rw [show P.env.qual ++ "<lambda>" = m.qual by rw [e, H.fr.qual]]
   have q := zl8 (E := E) (A := P.A) (first := p.line) (clos := clos) g T L.nmod L.tab (by rw [H.fr.code]; exact L.code) H.fr.globals H.rep (by rw [e]; exact O) (hQ.of h)
   rw [e] at q ⊢
   exact q
theorem zG2 (g : Good C) (T : TabsOK C) {x : Stmt} {q : Nat × Nat} {K : KX} {Q : Flow → Shared → Prop} (hk : P.fx.hkS x = some q) (h : zd9 C.T (mk C.T n) z Γ σ (.dfn q.1 q.2) st K) (H : Here C P Γ σ n st w) (hQ : QX C z w P.env.locals K Q) : wpAny (model C.prog C.w) P.A (exec x P.env) Q E w.s := by
 obtain ⟨args, body, scope, p, m, nd, rfl, e, ha, hl, L⟩ := H.fr.fok.dfn x q hk
 refine Opt.inv h λ nd' hn h => ?_
 cases L.nst.symm.trans hn
 refine Opt.inv h λ cl hcl h => ?_
 obtain ⟨clos, O⟩ := zj7 hcl H.fr L
 refine nestDef_K L.dfl L.kwd (ha P.env) ?_
 have ek : P.env.kindOf (nm q.1) = some .local := by unfold Env.kindOf; rw [H.fr.scope]; exact hl
 rw [show qualnameIn P.env (nm q.1) (nm q.1) = m.qual by unfold qualnameIn; rw [ek, e, H.fr.qual]; rfl]
 have t := zl8 (E := E) (A := P.A) (first := p.line) (z := z) (clos := clos) (Q := λ v s' => wpAny (model C.prog C.w) P.A (storeName P.env (nm q.1) v) (λ _ s'' => Q .next s'') E s') g T L.nmod L.tab (by rw [H.fr.code]; exact L.code) H.fr.globals H.rep (by rw [e]; exact O) λ w1 u1 a1 r1 =>
   zdq (H.step a1) ek r1 λ w2 a2 l2 => hQ _ _ _ w2 .next h (a1.toL.trans a2) l2 rfl
 rw [e] at t ⊢
 exact t
end
noncomputable def zE3 (m : NMod) (nd : ND) : Prop := match nd.lam with
 | none => ∃ b, m.body = .stmts b ∧ nd.body = b.map (erS 20 ⟨m.scope, nd.free, λ _ => none, λ _ => none⟩)
 | some e => ∃ x, m.body = .expr x ∧ e = er 40 ⟨m.scope, nd.free, λ _ => none, λ _ => none⟩ x
section
variable (C : Cx)
structure NstP (k : Nat) (nd : ND) (m : NMod) : Prop where
 nmod : C.nmods k = some m
 co : m.scope.isCoroutine = false
 gen : m.scope.isGenerator = false
 kind : m.scope.kind = .function
 names : ∀ x ∈ m.scope.names, x.2 ≠ .cell
 params : ∀ p ∈ nd.ps, m.scope.names.lookup (nm p) = some .local
 nodup : nd.ps.Nodup
 bind : ∀ fd : FuncData, fd.params = m.params → fd.qualname = m.qual → fd.defaults = .none → fd.kwdefaults = .none → ∀ us : List Value, us.length = nd.ps.length → bindArgs fd ⟨us, []⟩ = pure ((nd.ps.map nm).zip us)
 body : zE3 m nd
structure ClsP (a : Addr) (i : Addr) : Prop where
 makes : makesIn C.K a = true
 find : findIn C.K (.ref a) "__init__" = some (some (.ref i))
 typ : typeIn C.K (.ref i) = some (.type "function")
 fn : (C.T.fn.get i).isSome = true
structure Full : Prop where
 good : Good C
 isi : IsiOK C
 sets : SetsOK C
 tabs : TabsOK C
 fns : ∀ a fd, C.T.fn.get a = some fd → ∃ o mfd body du hkE hkS, FnP C a fd o mfd body du hkE hkS
 clss : ∀ a cd, C.T.cls.get a = some cd → ∀ i, cd.init = some i → ClsP C a i
 nsts : ∀ k nd, lk k C.T.nst = some nd → ∃ m, NstP C k nd m
structure SFn (n : Nat) : Prop where
 go : ∀ {z : Nat} {a : Nat} {vs : List AV} {st : Store} {K : KV} {A : Around} {w : Wd} {Q : Value → Shared → Prop} {E : Value → Shared → Prop} {us : List Value}, (mk C.T n).callv z (.old a) vs st K → (C.T.fn.get a).isSome = true → AOK n A → Rep C w.ρ st w.s.heap → VRs w.ρ vs us → QE C z w K Q →
   codeAny (model C.prog C.w) A (.call (.ref a) ⟨us, []⟩) (zBr Q E) w.s
end
section
variable {C : Cx} {n z : Nat} {st st' : Store} {w w' : Wd} {K : KV} {Q : Value → Shared → Prop} {E : Value → Shared → Prop} {A : Around} {v : AV} {vs : List AV} {us : List Value} {ρ : List Addr}
theorem zq7 (F : Full C) (Ss : SExecs C n) : SFn C (n + 1) := ⟨by
 intro z a vs st K A w Q E us h hf hA R r hQ
 change (match C.T.fn.get a with | some fd => _ | none => _) at h
 cases hfd : C.T.fn.get a with
 | none => rw [hfd] at hf; exact nb hf
 | some fd =>
   rw [hfd] at h
   obtain ⟨o, mfd, body, du, hkE, hkS, P⟩ := F.fns _ _ hfd
   exact Opt.inv h λ b hb h => zD9 F.good Ss P (znl hb) h hA R r hQ⟩
theorem zEw {ps : List Nat} (r : VRs ρ vs us) (hn : ps.Nodup) (x : Nat) : LkR ρ none (lk x (ps.zip vs)) (((ps.map nm).zip us).reverse.lookup (nm x)) := by
 have q := zmp (ρ := ρ) (sel := λ _ => True) (f := λ l m y => (l.reverse.lookup y).or (m y)) (λ m => rfl) (λ a v r m => ⟨λ y => if y = a then some v else m y, funext λ y => by
   show ((((a, v) :: r).reverse.lookup y).or (m y)) = (r.reverse.lookup y).or (if y = a then some v else m y)
   rw [List.reverse_cons, List.lookup_append, Option.or_assoc]
   by_cases e : y = a
   · rw [if_pos e, List.lookup_cons, e, beq_self_eq_true]; rfl
   · rw [if_neg e, List.lookup_cons, beq_eq_false_iff_ne.mpr e]; rfl, λ y hy => if_neg hy, λ _ => if_pos rfl⟩) (x := x) trivial (m := λ _ => none) r hn
 rw [Option.or_none] at q
 exact q
theorem zxf {fx : Fx} (k : fx.sc.kind = .function) (h1 : fx.hkE = λ _ => none) (h2 : fx.hkS = λ _ => none) : FxOK C fx := ⟨k, λ x k h => by rw [h1] at h; exact nn h, λ x k h => by rw [h2] at h; exact nn h⟩
theorem zxc (F : Full C) (S : SEv C n) (Ss : SExecs C n) {q : Nat × zaw} {nd : ND} {m : NMod} {l : List (Str × Addr)} {fd : FuncData} {a : Addr} {ob : Obj} {b : zaf} (t : FnR C w.ρ w.s.heap ob q.1 q.2 m l fd) (at_ : w.s.heap.get? a = some ob) (N : NstP C q.1 nd m) (hfree : (nd.free.all λ x => (lk x q.2).isSome) = true) (hb : zow nd.ps [] vs = some b)
   (h : match nd.lam with
     | none => (mk C.T n).execs z q.2 b nd.body st λ fl _ st2 => K (zck fl) st2
     | some e => (mk C.T n).ev z q.2 b e st K)
   (hA : AOK (n + 1) A) (R : Rep C w.ρ st w.s.heap) (r : VRs w.ρ vs us) (hQ : QE C z w K Q) : codeAny (model C.prog C.w) A (.call (.ref a) ⟨us, []⟩) (zBr Q E) w.s := by
 have B := znl (fd := ⟨nd.ps, [], [], []⟩) hb
 have hL := R.beyond (Nat.le_refl w.s.heap.objs.size)
 have hul : us.length = nd.ps.length := r.length.trans (Nat.le_antisymm B.le B.ge)
 have hbe : b = nd.ps.zip vs := B.eq.trans (by rw [List.drop_nil, List.append_nil])
 have f := t.fn
 have hloc : ∀ x ∈ (nd.ps.map nm).zip us, fd.scope.names.lookup x.1 = some .local := λ x hx => by
   obtain ⟨p, hp, e⟩ := List.mem_map.mp (List.of_mem_zip hx).1
   rw [← e, f.scope]; exact N.params p hp
 have hcell : ∀ x ∈ fd.scope.names, x.2 ≠ .cell := by rw [f.scope]; exact N.names
 have here : ∀ (h₀ : Heap) (tk : Tok), h₀.Ns w.s.heap.objs.size (λ x => ((nd.ps.map nm).zip us).reverse.lookup x) → (∀ b o, w.s.heap.get? b = some o → h₀.get? b = some o) →
     Here C ⟨⟨m.scope, fd.code, m.qual ++ ".<locals>.", nd.free, λ _ => none, λ _ => none⟩, A.deeper (callEnv fd w.s.heap.objs.size a), callEnv fd w.s.heap.objs.size a⟩ q.2 b n st ⟨w.ρ, { w.s with heap := h₀, toks := tk }⟩ := λ h₀ tk hns keep =>
   ⟨hA.deep, ⟨f.scope, zxf N.kind rfl rfl, f.globals, f.builtins, λ x i hx hi => (t.cells x i hi).elim λ a' k => ⟨a', by show fd.closure.lookup _ = _; rw [f.closure]; exact k.1, k.2⟩, λ x hx => Option.isSome_iff_exists.mp (List.all_eq_true.mp hfree x hx), rfl, by show fd.qualname ++ ".<locals>." = _; rw [f.qual]⟩, R.keeps keep,
     ⟨⟨_, hns, λ x v hv => by
       have q := zEw r N.nodup x
       rw [← hbe, hv] at q
       exact q⟩, hL.out, hL.tab, hL.old⟩⟩
 have ext : ∀ {h₀ : Heap}, Heap.SameBut w.s.heap.objs.size (w.s.heap.push { cls := .type "frame", data := .dict #[] }) h₀ → ∀ b o, w.s.heap.get? b = some o → h₀.get? b = some o := λ hsb b o e => hsb.extBut b o (Nat.ne_of_lt (Heap.lt_size e)) (Heap.get?_push_of_some _ e)
 have bod := N.body
 unfold zE3 at bod
 cases hlam : nd.lam with
 | none =>
   rw [hlam] at h bod
   obtain ⟨bd, k1, k2⟩ := bod
   dsimp only at h
   rw [k2] at h
   refine codeAny_call_def hA.deepR at_ t.data (R.lim F.good) t.code (f.body.trans k1) (BindsTo.of_eq (N.bind fd f.params f.qual f.defaults f.kwdefaults us hul)) hcell hloc (λ h₀ hns keep => ?_) (by rw [f.scope]; exact N.co) (by rw [f.scope]; exact N.gen) (by rw [f.scope]; exact N.kind)
   exact Ss.go h (here h₀ _ hns keep) λ fl σ st2 w2 f k a1 _ q => hQ _ _ _ (zLo f) k (((Aft.side (z := z) NoX R keep).toL.trans a1).hide (zcg (Nat.le_refl _))) (zq0 q)
 | some e =>
   rw [hlam] at h bod
   obtain ⟨bx, k1, k2⟩ := bod
   dsimp only at h
   rw [k2] at h
   refine kla_callFunE hA.deepR at_ t.data (by rw [f.scope]; exact N.co) (by rw [f.scope]; exact N.gen) (f.body.trans k1) t.code ?_
   rw [N.bind fd f.params f.qual f.defaults f.kwdefaults us hul]
   refine wpAny_pure (wpAny_newFunctionEnv hcell hloc (λ h₀ hns hsb => ⟨(R.lim F.good).keeps (ext hsb), kla_codeExpr ?_⟩) (by rw [f.scope]; exact N.kind))
   exact S.go h (here h₀ _ hns (ext hsb)) (hQ.after (Aft.side NoX R (ext hsb)))
theorem ztr {a : Addr} {us : List Value} (h : AOK (n + 1) A) : AOK n (A.under (.builtin "type.__call__" ⟨.ref a :: us, []⟩)) := by
 have w : (Code.builtin "type.__call__" ⟨.ref a :: us, []⟩).weight ≤ 1 := by
   unfold Code.weight
   have e1 : (Code.builtin "type.__call__" ⟨.ref a :: us, []⟩).frames = 0 := by rfl
   have e2 : (Code.builtin "type.__call__" ⟨.ref a :: us, []⟩).isGuard = false := by show guardIds.contains "type.__call__" = false; decide +kernel
   have e3 : (Code.builtin "type.__call__" ⟨.ref a :: us, []⟩).isCaller = false := by rfl
   rw [e1, e2, e3]
   simp only [Bool.false_eq_true, if_false]
   split <;> omega
 have u : (Code.builtin "type.__call__" ⟨.ref a :: us, []⟩).cUnits ≤ 1 := by
   have e1 : (Code.builtin "type.__call__" ⟨.ref a :: us, []⟩).frames = 0 := by rfl
   show 1 + 3 * (Code.builtin "type.__call__" ⟨.ref a :: us, []⟩).frames ≤ 1
   rw [e1]; exact Nat.le_refl _
 have h2 := h.depth; have h3 := h.units
 refine ⟨h.handled, ?_, ?_⟩
 · show A.depth + _ + n ≤ 900; omega
 · show A.units + _ + 8 * n ≤ 9000; omega
theorem zud (F : Full C) (Sf : SFn C n) {a i : Addr} {cd : CD} (P : ClsP C a i) (hcd : C.T.cls.get a = some cd) (h : (mk C.T n).callv z (.old i) (.ref (st.n + 1) :: vs) ((st.add (.fields [])).add (.inst a st.n)) λ v st2 => Chk v.isN (K (.ref (st.n + 1)) st2))
   (hA : AOK (n + 1) A) (R : Rep C w.ρ st w.s.heap) (r : VRs w.ρ vs us) (hQ : QE C z w K Q) : codeAny (model C.prog C.w) A (.call (.ref a) ⟨us, []⟩) (zBr Q E) w.s := by
 have X := R.K F.good
 obtain ⟨ρ, ⟨hh, gg, d, t, os⟩⟩ := w
 refine make_core (makes_of X P.makes) (looks_findIn X P.find) (λ self => bind_fn X self P.typ) (.inl rfl) ?_
 have a1 : Aft C z NoX ⟨ρ, ⟨hh, gg, d, t, os⟩⟩ (st.add (.fields [])) ⟨ρ ++ [hh.objs.size], ⟨hh.push emptyDict, gg, d, t, os⟩⟩ := Aft.push NoX R t rfl ⟨[], 0, .nil, rfl⟩
 have hsz : (hh.push emptyDict).objs.size = hh.objs.size + 1 := Heap.size_push ..
 have a2 : Aft C z NoX ⟨ρ, ⟨hh, gg, d, t, os⟩⟩ ((st.add (.fields [])).add (.inst a st.n)) ⟨ρ ++ [hh.objs.size] ++ [hh.objs.size + 1], ⟨(hh.push emptyDict).push (instObj a hh.objs.size), gg, d, t, os⟩⟩ := hsz ▸ a1.trans (Aft.push (z := z) NoX a1.rep t (ob := instObj a hh.objs.size) (o := .inst a st.n) rfl ⟨hh.objs.size, zk5 _ _ R.len, rfl, cd, hcd⟩)
 have self : VR (ρ ++ [hh.objs.size] ++ [hh.objs.size + 1]) (.ref (st.n + 1)) (.ref (hh.objs.size + 1)) := zg1 (st := st.add (.fields [])) a1.rep (hh.objs.size + 1)
 refine codeAny_mono (Sf.go (w := ⟨ρ ++ [hh.objs.size] ++ [hh.objs.size + 1], ⟨(hh.push emptyDict).push (instObj a hh.objs.size), gg, d, t, os⟩⟩) (Q := λ v s' => v = .none ∧ Q (.ref (hh.objs.size + 1)) s') (E := E) h P.fn (ztr hA) a2.rep (.cons self (r.up a2)) λ v st3 w3 u k a3 r3 => Chk.inv k λ hv k => zql (G := λ u => u = .none ∧ Q (.ref (hh.objs.size + 1)) w3.s) hv r3 ⟨rfl, hQ _ _ _ _ k (a2.trans a3) (self.up a3)⟩) λ rr s' q => ?_
 unfold zBr at q
 unfold InitBack
 split at q
 · exact q
 · exact q.elim
 · exact q
theorem zs7 (F : Full C) (S : SEv C n) (Ss : SExecs C n) (Sf : SFn C n) : SCall C (n + 1) := ⟨by
 intro z f vs st K A w Q E fu us h hA R rf r hQ
 have fin : ∀ {c : Value}, codeAny (model C.prog C.w) A (.call c ⟨us, []⟩) (zBr Q E) w.s → wpAny (model C.prog C.w) A (PySem.call c us []) Q E w.s := λ hc => wpAny_call (codeAny_mono hc λ r s' q => by
   unfold zBr at q
   split at q
   · exact q
   · exact q.elim
   · exact q)
 cases f with
 | bi b => cases rf; exact Opt.inv h λ p hp h => Chk.inv h λ h1 h => zwt F.good F.isi F.sets hp h1 hA.handled R r (hQ.of h)
 | old a =>
   cases rf
   cases hfd : C.T.fn.get a with
   | some fd => exact fin ((zq7 F Ss).go h (by rw [hfd]; rfl) hA R r hQ)
   | none =>
     change (match C.T.fn.get a with | some fd => _ | none => _) at h
     rw [hfd] at h
     exact Opt.inv h λ cd hcd h => Opt.inv h λ i hi h => fin (zud F Sf (F.clss _ _ hcd i hi) hcd h hA R r hQ)
 | ref i =>
   obtain ⟨a, e, rfl⟩ := rf
   exact Opt.inv h λ q hq h => Opt.inv h λ nd hn h => Chk.inv h λ hf h => Opt.inv h λ b hb h => R.fu hq e λ ob m l fd at_ t => (F.nsts _ _ hn).elim λ m' N => by
     cases t.nmod.symm.trans N.nmod
     exact fin (zxc F S Ss t at_ N hf hb h hA R r hQ)
 | _ => exact False.elim h⟩
end
theorem zgt {α β : Type} {K : Frag} {S : Setting} {f : α → Sem β} {a : α} {r : Option β} : ∀ {t : Sem α}, peek K S t = some a → peek K S (f a) = r → peek K S (t.bind f) = r := by
 intro t
 induction t with
 | pure b => intro h e; cases h; exact e
 | rule _ k ih => exact λ h e => ih () h e
 | point _ k ih => exact λ h e => ih () h e
 | ask k ih => exact λ h e => ih _ h e
 | load b part k ih =>
   intro h e
   unfold peek at h
   split at h
   · rename_i o ho
     have : peek K S ((Sem.load b part k).bind f) = peek K S ((k o).bind f) := by
       show peek K S (Sem.load b part λ o => (k o).bind f) = _
       simp only [peek, ho]
     rw [this]
     exact ih o h e
   · cases h
 | _ => intro h; cases h
theorem zgm : ∀ {N : List Str} {us : List Value} {n : Str}, n ∉ N.take us.length → (N.zip us).lookup n = none
 | [], _, _, _ => rfl
 | _ :: _, [], _, _ => rfl
 | m :: N, u :: us, n, h => by
   rw [List.zip_cons_cons, List.lookup_cons]
   have h1 : n ≠ m := λ e => h (by rw [e]; exact .head _)
   rw [beq_eq_false_iff_ne.mpr h1]
   exact zgm λ q => h (.tail _ q)
theorem zc7 : ∀ {N : List Str} {us : List Value} {n : Str}, n ∈ N.take us.length → ((N.zip us).lookup n).isSome = true
 | [], _, _, h => by simp at h
 | _ :: _, [], _, h => by simp at h
 | m :: N, u :: us, n, h => by
   rw [List.zip_cons_cons, List.lookup_cons]
   by_cases e : n = m
   · rw [e, beq_self_eq_true]; rfl
   · rw [beq_eq_false_iff_ne.mpr e]
     rcases List.mem_cons.mp h with q | q
     · exact absurd q e
     · exact zc7 q
theorem ziw (l m : List (Str × Value)) (n : Str) : (l ++ m).lookup n = (l.lookup n).or (m.lookup n) := by
 induction l with
 | nil => rfl
 | cons p l ih =>
   rw [List.cons_append, List.lookup_cons, List.lookup_cons]
   cases n == p.1 with
   | true => rfl
   | false => exact ih
theorem zC1 {K : Frag} {S : Setting} {f : Str × Value → List (Str × Value) → Sem (ForInStep (List (Str × Value)))} (hf : ∀ n d sl, f (n, d) sl = if (sl.lookup n).isNone = true then pure (.yield (sl ++ [(n, d)])) else pure (.yield sl)) :
   ∀ (N : List Str) (du : List Value) (sl : List (Str × Value)), N.Nodup → ∃ more, peek K S (forIn (N.zip du) sl f) = some (sl ++ more) ∧ ∀ x, (sl ++ more).lookup x = (sl.lookup x).or ((N.zip du).lookup x) := by
 intro N
 induction N with
 | nil => exact λ du sl _ => ⟨[], by rw [List.append_nil]; rfl, λ x => by rw [List.append_nil]; show _ = (sl.lookup x).or none; rw [Option.or_none]⟩
 | cons n N ih =>
 intro du sl h
 cases du with
 | nil => exact ⟨[], by rw [List.append_nil]; rfl, λ x => by rw [List.append_nil]; show _ = (sl.lookup x).or none; rw [Option.or_none]⟩
 | cons d du =>
   rw [List.nodup_cons] at h
   rw [List.zip_cons_cons, List.forIn_cons, hf]
   by_cases e : (sl.lookup n).isNone = true
   · rw [if_pos e]
     obtain ⟨more, h1, h2⟩ := ih du (sl ++ [(n, d)]) h.2
     refine ⟨(n, d) :: more, ?_, λ x => ?_⟩
     · rw [show sl ++ (n, d) :: more = (sl ++ [(n, d)]) ++ more by simp]; exact h1
     · rw [show sl ++ (n, d) :: more = (sl ++ [(n, d)]) ++ more by simp, h2, ziw, Option.or_assoc]
       congr 1
       rw [List.lookup_cons, List.lookup_cons]
       cases x == n <;> rfl
   · rw [if_neg e]
     obtain ⟨more, h1, h2⟩ := ih du sl h.2
     refine ⟨more, h1, λ x => ?_⟩
     rw [h2, List.lookup_cons]
     by_cases q : x = n
     · subst q
       cases hs : sl.lookup x with
       | none => rw [hs] at e; exact absurd rfl e
       | some v => rfl
     · rw [beq_eq_false_iff_ne.mpr q]
theorem ziq : ∀ {N : List Str} {vs : List Value}, N.Nodup → N.length = vs.length → N.filterMap (λ n => ((N.zip vs).lookup n).map (n, ·)) = N.zip vs := by
 have key : ∀ {N : List Str} {vs : List Value} (g : Str → Option Value), N.Nodup → N.length = vs.length → (∀ n ∈ N, g n = (N.zip vs).lookup n) → N.filterMap (λ n => (g n).map (n, ·)) = N.zip vs := by
   intro N
   induction N with
   | nil => intro vs g _ _ _; rfl
   | cons m N ih =>
     intro vs g h hl hg
     cases vs with
     | nil => cases hl
     | cons v vs =>
       rw [List.nodup_cons] at h
       have e1 : g m = some v := by rw [hg m (.head _), List.zip_cons_cons, List.lookup_cons, beq_self_eq_true]
       rw [List.filterMap_cons, e1]
       show (m, v) :: _ = _
       rw [List.zip_cons_cons, ih g h.2 (Nat.succ.inj hl) λ n hn => ?_]
       rw [hg n (.tail _ hn), List.zip_cons_cons, List.lookup_cons, beq_eq_false_iff_ne.mpr (λ e => h.1 (by rw [← e]; exact hn))]
 exact λ {N vs} h hl => key _ h hl λ _ _ => rfl
theorem zxg {N : List Str} {us du : List Value} (h1 : us.length ≤ N.length) (h2 : N.length ≤ us.length + du.length) (h3 : du.length ≤ N.length) (x : Str) (hn : N.Nodup) :
   ((N.zip us).lookup x).or (((N.drop (N.length - du.length)).zip du).lookup x) = (N.zip (us ++ du.drop (us.length + du.length - N.length))).lookup x := by
 have e4 : N.length - du.length + (us.length + du.length - N.length) = us.length := by
   rw [← Nat.sub_sub_right us.length h3]; exact Nat.add_sub_cancel' (Nat.sub_le_iff_le_add.mpr h2)
 have e1 : N.zip (us ++ du.drop (us.length + du.length - N.length)) = N.zip us ++ (N.drop us.length).zip (du.drop (us.length + du.length - N.length)) := by
   have e2 : (N.take us.length).zip us = N.zip us := by
     have : N.zip us = (N.take us.length ++ N.drop us.length).zip (us ++ []) := by rw [List.take_append_drop, List.append_nil]
     rw [this, List.zip_append (List.length_take_of_le h1), List.zip_nil_right, List.append_nil]
   rw [← e2, ← List.zip_append (List.length_take_of_le h1), List.take_append_drop]
 rw [e1, ziw]
 cases hx : (N.zip us).lookup x with
 | some v => rfl
 | none =>
   show ((N.drop (N.length - du.length)).zip du).lookup x = _
   have e2 : (N.drop (N.length - du.length)).zip du = ((N.drop (N.length - du.length)).zip du).take (us.length + du.length - N.length) ++ (N.drop us.length).zip (du.drop (us.length + du.length - N.length)) := by
     have e3 : ((N.drop (N.length - du.length)).zip du).drop (us.length + du.length - N.length) = (N.drop us.length).zip (du.drop (us.length + du.length - N.length)) := by
       rw [List.zip, List.drop_zipWith, List.drop_drop, e4]
     rw [← e3, List.take_append_drop]
   rw [e2, ziw]
   have e3 : (((N.drop (N.length - du.length)).zip du).take (us.length + du.length - N.length)).lookup x = none := by
     rw [List.zip, List.take_zipWith]
     refine zgm λ hm => ?_
     have : x ∈ N.take us.length := by
       rw [List.mem_take_iff_getElem] at hm ⊢
       obtain ⟨i, hi, e⟩ := hm
       rw [List.getElem_take, List.getElem_drop] at e
       have hi := Nat.add_lt_add_left (llx hi (ltx (Nat.min_le_right _ _) (List.length_take_le _ _))) (N.length - du.length)
       rw [e4] at hi
       exact ⟨_, Nat.lt_min.mpr ⟨hi, llx hi h1⟩, e⟩
     have := zc7 this
     rw [hx] at this; cases this
   rw [e3]
theorem zwk {fd : FuncData} {K : Frag} {S : Setting} {us : List Value} {N : List Str} {r : Option (Array Value)} {du : List Value} (h1 : fd.params.posonlyargs = []) (h2 : fd.params.kwonlyargs = []) (h3 : fd.params.vararg = none) (h4 : fd.params.kwarg = none)
   (hN : fd.params.args.map (·.arg) = N) (hn : N.Nodup) (hr : peek K S (seqItems? fd.defaults) = some r) (hd : (r.getD #[]).toList = du) (l1 : us.length ≤ N.length) (l2 : N.length ≤ us.length + du.length) (l3 : du.length ≤ N.length) :
   peek K S (bindArgs fd ⟨us, []⟩) = some (N.zip (us ++ du.drop (us.length + du.length - N.length))) := by
 obtain ⟨nm, qn, ⟨pa, ar, va, ko, kd, kw, df⟩, bd, sc, gl, cl, ds, kds, doc, pm, an, cd, ct, bt⟩ := fd
 dsimp only at h1 h2 h3 h4 hN hr
 subst h1 h2 h3 h4 hN hd
 unfold bindArgs
 refine zgt (a := ((ar.map (·.arg)).zip us, [])) rfl ?_
 refine zgt (a := r) hr ?_
 generalize (r.getD #[]).toList = du at *
 generalize ar.map (·.arg) = N at *
 rw [if_neg (by rw [Bool.and_eq_true, decide_eq_true_eq]; exact λ q => absurd q.1 (Nat.not_lt.mpr l1))]
 have e0 : du.drop (du.length - (List.map (λ (x : Arg) => x.arg) [] ++ N).length) = du := by rw [show (List.map (λ (x : Arg) => x.arg) [] ++ N).length = N.length from rfl, Nat.sub_eq_zero_of_le l3]; rfl
 rw [e0]
 rw [if_neg (by
   rw [Bool.not_eq_true', Bool.not_eq_false, List.isEmpty_iff, List.filter_eq_nil_iff]
   intro n hm q
   have : n ∈ N.take us.length := by
     rw [List.mem_take_iff_getElem] at hm ⊢
     obtain ⟨i, hi, e⟩ := hm
     have el : (List.map (λ (x : Arg) => x.arg) [] ++ N).length = N.length := rfl
     change i < min ((List.map (λ (x : Arg) => x.arg) [] ++ N).length - du.length) (List.map (λ (x : Arg) => x.arg) [] ++ N).length at hi
     rw [el] at hi
     exact ⟨i, by omega, e⟩
   have := zc7 this
   rw [Option.isNone_iff_eq_none] at q
   rw [q] at this; cases this)]
 obtain ⟨more, g1, g2⟩ := zC1 (K := K) (S := S) (f := λ x sl => match x with | (name, d) => if (sl.lookup name).isNone = true then pure (.yield (sl ++ [(name, d)])) else pure (.yield sl)) (λ _ _ _ => rfl) (N.drop (N.length - du.length)) du (N.zip us) (hn.sublist (List.drop_sublist _ _))
 refine zgt (a := N.zip us ++ more) g1 ?_
 refine zgt (a := (N.zip us ++ more, [])) rfl ?_
 show some ((N ++ []).filterMap λ n => ((N.zip us ++ more).lookup n).map (n, ·)) = _
 congr 1
 rw [List.append_nil]
 have := ziq (N := N) (vs := us ++ du.drop (us.length + du.length - N.length)) hn (by simp; omega)
 rw [← this]
 congr 1
 funext n
 rw [g2, zxg l1 l2 l3 n hn]
theorem znf {α β : Type} {t : Sem α} {f : α → Sem β} {a : α} {r : Sem β} (h : t = pure a) (e : f a = r) : t.bind f = r := by
 subst h; exact e
theorem zFe {fd : FuncData} {us : List Value} {N : List Str} (h1 : fd.params.posonlyargs = []) (h2 : fd.params.kwonlyargs = []) (h3 : fd.params.vararg = none) (h4 : fd.params.kwarg = none)
   (hN : fd.params.args.map (·.arg) = N) (hn : N.Nodup) (hr : fd.defaults = .none) (l1 : us.length = N.length) : bindArgs fd ⟨us, []⟩ = pure (N.zip us) := by
 obtain ⟨nm, qn, ⟨pa, ar, va, ko, kd, kw, df⟩, bd, sc, gl, cl, ds, kds, doc, pm, an, cd, ct, bt⟩ := fd
 dsimp only at h1 h2 h3 h4 hN hr
 subst h1 h2 h3 h4 hN hr
 unfold bindArgs
 refine znf (a := ((ar.map (·.arg)).zip us, [])) rfl ?_
 refine znf (a := none) rfl ?_
 generalize ar.map (·.arg) = N at *
 generalize hdu : ((none : Option (Array Value)).getD #[]).toList = du at *
 have hdu : du = [] := hdu.symm
 have e0 : ∀ k : Nat, du.drop k = [] := λ k => by rw [hdu]; exact List.drop_nil
 rw [if_neg (by rw [Bool.and_eq_true, decide_eq_true_eq]; exact λ q => absurd q.1 (Nat.not_lt.mpr (Nat.le_of_eq l1)))]
 rw [if_neg (by
   rw [Bool.not_eq_true', Bool.not_eq_false, List.isEmpty_iff, List.filter_eq_nil_iff]
   intro n hm q
   rw [e0] at hm
   have hm : n ∈ N.take (N.length - 0) := hm
   have : n ∈ N.take us.length := by rw [l1]; exact hm
   have := zc7 this
   rw [Option.isNone_iff_eq_none] at q
   have q : (N.zip us).lookup n = none := q
   rw [q] at this; cases this)]
 refine znf (a := N.zip us) ?_ ?_
 · rw [e0, List.zip_nil_right]
   rfl
 refine znf (a := (N.zip us, [])) rfl ?_
 show pure ((N ++ []).filterMap λ n => ((N.zip us).lookup n).map (n, ·)) = _
 rw [List.append_nil, ziq hn l1.symm]
/-! the nested functions -/
noncomputable def zb4 (i j k : Nat) : Stmt := ((ztj i j).bind λ q => q.2.1[k]?).getD (.Pass default)
noncomputable def prt (s : Stmt) : Str × Arguments × List Stmt × Scope × Pos := (fdv s).getD default
noncomputable def nmD (x : Nat) (s : Stmt) (q : Str) (tab : Addr × Addr) : NMod := ⟨nm x, q ++ nm x, (prt s).2.1, .stmts (prt s).2.2.1, (prt s).2.2.2.1, (prt s).2.2.2.2, tab⟩
noncomputable def zOv (s : Stmt) : Option Expr := match s with
 | .Return o _ => o
 | _ => none
noncomputable def zN9 (x : Expr) : Option Expr := match x with
 | .Compare l _ _ _ => some l
 | _ => none
noncomputable def zOb (x : Expr) : List Expr := match x with
 | .Call _ as _ _ => as
 | _ => []
noncomputable def zOo (x : Expr) : Option (Arguments × Expr × Scope × Pos) := match x with
 | .Lambda a b s p => some (a, b, s, p)
 | _ => none
noncomputable def zAr : Expr := ((((zOv (zb4 203 0 4)).bind zN9).bind λ c => (zOb c)[4]?)).getD (.Constant .none 0 default)
noncomputable def prl : Arguments × Expr × Scope × Pos := (zOo zAr).getD (default, .Constant .none 0 default, default, default)
noncomputable def zAd : Str := zam [108, 105, 107, 101, 95, 110, 111, 100, 101] ++ ".<locals>."
noncomputable def zsq : Str := zam [95, 108, 97, 119, 95, 99, 111, 117, 110, 116, 101, 100, 95, 114, 105, 103, 104, 116] ++ ".<locals>."
noncomputable def zmj : Str := zam [95, 108, 97, 119, 95, 115, 111, 114, 116, 101, 100, 95, 114, 105, 103, 104, 116] ++ ".<locals>."
noncomputable def nmL : NMod := ⟨"<lambda>", zsq ++ "<lambda>", prl.1, .expr prl.2.1, prl.2.2.1, prl.2.2.2, (1672, 1670)⟩
noncomputable def zu1 (k : Nat) : Option NMod := lk k [(0, nmD zbx (zb4 2 0 4) zAd (27, 23)), (1, nmL), (2, nmD zak (zb4 205 0 3) zmj (1682, 1680))]
noncomputable def zFl (free dom : List Nat) (sc : Scope) : Bool := (sc.names.all λ y => match y.2 with | .free => free.any λ x => sB (nm x) y.1 | _ => true) && free.all λ x => dom.contains x && znw sc x
structure FreeP (free dom : List Nat) (sc : Scope) : Prop where
 fr : ∀ y ∈ sc.names, y.2 = .free → ∃ x ∈ free, nm x = y.1
 isfree : ∀ x ∈ free, x ∈ dom ∧ (nm x, NameKind.free) ∈ sc.names
theorem zyy {scope : Scope} {x : Nat} (h : znw scope x = true) : (nm x, NameKind.free) ∈ scope.names := by
 obtain ⟨y, hy, e⟩ := List.any_eq_true.mp h
 exact zbf e λ h1 h2 => by
   obtain ⟨a, k⟩ := y
   rw [show nm x = a from zpp h1, ← show k = NameKind.free from of_decide_eq_true h2]
   exact hy
theorem zt2 {free dom : List Nat} {sc : Scope} (h : zFl free dom sc = true) : FreeP free dom sc := zbf h λ h1 h2 => ⟨λ y hy e => by
   have := List.all_eq_true.mp h1 y hy
   rw [e] at this
   obtain ⟨x, hx, e⟩ := List.any_eq_true.mp this
   exact ⟨x, hx, zpp e⟩, λ x hx => zbf (List.all_eq_true.mp h2 x hx) λ h3 h4 => ⟨List.contains_iff_mem.mp h3, zyy h4⟩⟩
noncomputable def hkD {α β : Type} (s : α) (q : β) (x : α) : Option β := @ite _ (x = s) (Classical.propDecidable _) (some q) none
theorem zA1 {α β : Type} {s x : α} {q r : β} (h : hkD s q x = some r) : x = s ∧ q = r := by
 unfold hkD at h
 split at h
 · rename_i e; exact ⟨e, Option.some.inj h⟩
 · exact nn h
theorem zvz {α β : Type} (s : α) (q : β) : hkD s q s = some q := if_pos rfl
section
variable {C : Cx} {fx : Fx}
theorem fxD {s : Stmt} {x k : Nat} {nd : ND} {tab : Addr × Addr} (h1 : fx.hkS = hkD s (x, k)) (h2 : fx.hkE = λ _ => none) (kind : fx.sc.kind = .function) (hs : s = .FunctionDef (nm x) (prt s).2.1 (prt s).2.2.1 [] none [] (prt s).2.2.2.1 none (nm x) (prt s).2.2.2.2)
   (hn : C.nmods k = some (nmD x s fx.qual tab)) (ht : tab ∈ C.tabs) (hc : fx.code = .ref tab.1) (d1 : (prt s).2.1.defaults = []) (d2 : (prt s).2.1.kw_defaults = []) (d3 : ∀ env, annTrees (prt s).2.1 none env = []) (hl : isK .local (lkN (nm x) fx.sc.names) = true)
   (hnd : lk k C.T.nst = some nd) (hf : zFl nd.free fx.dom (prt s).2.2.2.1 = true) : FxOK C fx := ⟨kind, λ y k h => by rw [h2] at h; exact nn h, λ y q h => by
 rw [h1] at h
 obtain ⟨rfl, rfl⟩ := zA1 h
 have f := zt2 hf
 exact ⟨_, _, _, _, nmD x y fx.qual tab, nd, hs, rfl, d3, zkc hl, hn, ht, hc, d1, d2, hnd, f.fr, f.isfree⟩⟩
theorem fxL {k : Nat} {nd : ND} (h1 : fx.hkE = hkD zAr k) (h2 : fx.hkS = λ _ => none) (kind : fx.sc.kind = .function) (hs : zAr = .Lambda prl.1 prl.2.1 prl.2.2.1 prl.2.2.2) (hq : fx.qual = zsq)
   (hn : C.nmods k = some nmL) (ht : nmL.tab ∈ C.tabs) (hc : fx.code = .ref nmL.tab.1) (d1 : prl.1.defaults = []) (d2 : prl.1.kw_defaults = []) (d3 : prl.1.kwonlyargs = []) (hnd : lk k C.T.nst = some nd) (hf : zFl nd.free fx.dom prl.2.2.1 = true) : FxOK C fx := ⟨kind, λ y q h => by
 rw [h1] at h
 obtain ⟨rfl, rfl⟩ := zA1 h
 have f := zt2 hf
 exact ⟨_, _, _, _, nmL, nd, hs, by rw [hq]; rfl, d3, hn, ht, hc, d1, d2, hnd, f.fr, f.isfree⟩, λ y k h => by rw [h2] at h; exact nn h⟩
end
theorem zDh : zb4 2 0 4 = .FunctionDef (nm zbx) (prt (zb4 2 0 4)).2.1 (prt (zb4 2 0 4)).2.2.1 [] none [] (prt (zb4 2 0 4)).2.2.2.1 none (nm zbx) (prt (zb4 2 0 4)).2.2.2.2 := by kernel_rfl
theorem zCj : zb4 205 0 3 = .FunctionDef (nm zak) (prt (zb4 205 0 3)).2.1 (prt (zb4 205 0 3)).2.2.1 [] none [] (prt (zb4 205 0 3)).2.2.2.1 none (nm zak) (prt (zb4 205 0 3)).2.2.2.2 := by kernel_rfl
theorem zJw : zAr = .Lambda prl.1 prl.2.1 prl.2.2.1 prl.2.2.2 := by kernel_rfl
theorem zCb (h : Stmt → Option (Nat × Nat)) : ((ztj 2 0).map λ q => q.2.1.map (erS 20 ⟨q.2.2, zcj.cel, λ _ => none, h⟩)) = some (zcj.body.set 4 (zyc (h (zb4 2 0 4)) λ q => .dfn q.1 q.2)) := by kernel_rfl
theorem zxd (h : Stmt → Option (Nat × Nat)) : ((ztj 205 0).map λ q => q.2.1.map (erS 20 ⟨q.2.2, zaj.cel, λ _ => none, h⟩)) = some (zaj.body.set 3 (zyc (h (zb4 205 0 3)) λ q => .dfn q.1 q.2)) := by kernel_rfl
theorem zsu (h : Expr → Option Nat) : ((ztj 203 0).map λ q => q.2.1.map (erS 20 ⟨q.2.2, zao.cel, h, λ _ => none⟩)) = some (zao.body.set 4 (.ret (.cmp .eq (.call (.glb zb5 (.old 84)) [(.cel zac), (.idx (.loc zau) (.loc zhu)), (.txt [115, 105, 110, 103, 108, 101]), (.call (.glb zf5 (.old 28)) [(.cel zac), (.idx (.loc zau) (.loc zhu))]), (zm1 (h zAr) λ k => .lam k)]) (.lst [(.mth (.loc zf8) zhq [(.idx (.loc zf8) (.neg (.num 1)))])])))) := by kernel_rfl
theorem zis {h : Heap} {l : List Addr} {a : Addr} {m : Str → Option Value} (x : h.Ns a m) (ha : a ∉ l) : (hideAll h l).Ns a m :=
 let ⟨o, es, ep, e, r⟩ := x; ⟨o, es, ep, hideAll_get l e ha, r⟩
theorem zB7 {h : Heap} {a : Addr} {m m' : Str → Option Value} (x : h.Ns a m) (y : h.Ns a m') : m = m' := by
 obtain ⟨o, es, ep, e, d, _, f⟩ := x
 obtain ⟨o', es', ep', e', d', _, f'⟩ := y
 rw [e] at e'; cases e'
 rw [d] at d'; cases d'
 exact funext λ n => (f n).symm.trans (f' n)
structure Left (K K2 : Frag) (h0 h1 : Heap) (mg mb : Str → Option Value) : Prop where
 hb : HB tbl glO glB tabL spL K K2 = true
 bod : zKr K lcL = lcL.map λ p => (ztj p.2.1 p.2.2).map λ q => (q.1, FuncBody.stmts q.2.1, q.2.2)
 kin : K.In h0
 kin2 : K2.In h0
 kmem : ∀ a o, K.lookup a = some o → a ∈ kaL
 keeps : ∀ b o, h0.get? b = some o → h1.get? b = some o
 g : h1.Ns mainGlobals mg
 b : h1.Ns builtinsNs mb
 lim : h1.NoLimit
 bts : ∀ x : Str, x ≠ "__name__" → mb x = bootBuiltins x
 bmain : ∃ bm ob, mg "__builtins__" = some (.ref bm) ∧ bm ≠ builtinsNs ∧ h1.get? bm = some ob ∧ ob.cls = .type "module" ∧ ob.dict = some builtinsNs ∧ ob.data = .plain
theorem zBa (name : Str) : ∀ l : List DictEntry, nsQ name l = (l.find? (λ e => e.key.isStr name)).map (·.val)
 | [] => rfl
 | e :: r => by
   rw [nsQ, List.find?_cons, ← zxy, zBa name r]
   cases e.key.isStr name <;> rfl
theorem zCg {K : Frag} {h : Heap} (X : K.In h) {a : Addr} (e : nsK K a = true) : h.Ns a (mgK K a) := by
 cases ho : K.lookup a with
 | none => unfold nsK at e; rw [ho] at e; cases e
 | some o =>
   have hg := X a o ho
   have n1 : h.isNs a = true := by
     unfold nsK at e
     rw [ho] at e
     unfold Heap.isNs
     rw [hg]
     exact e
   have n2 : h.nsMap a = mgK K a := by
     funext x
     unfold Heap.nsMap mgK
     rw [hg, ho]
     show (match o.data with | .dict es _ => nsFind es x | _ => none) = (match o.data with | .dict es _ => nsQ x es.toList | _ => none)
     cases o.data with
     | dict es _ =>
       show nsFind es x = nsQ x es.toList
       rw [zBa, Array.find?_toList]; rfl
     | _ => rfl
   rw [← n2]
   exact Heap.Ns.of_isNs n1
theorem zda {α β : Type} [BEq α] [LawfulBEq α] : ∀ {l : List (α × β)} {a : α} {b : β}, l.lookup a = some b → (a, b) ∈ l := by
 intro l
 induction l with
 | nil => exact λ h => nomatch h
 | cons p r ih =>
   intro a b h
   rw [List.lookup_cons] at h
   cases q : a == p.1 with
   | true => rw [q] at h; cases h; rw [beq_iff_eq.mp q]; exact .head _
   | false => rw [q] at h; exact .tail _ (ih h)
theorem zpu {α : Type} : ∀ {l : List (Nat × α)} {x : Nat} {v : α}, lk x l = some v → (x, v) ∈ l
 | p :: r, x, v, h => by
   rw [zes] at h
   by_cases q : p.1 = x
   · rw [if_pos q] at h; cases h; rw [← q]; exact .head _
   · rw [if_neg q] at h; exact .tail _ (zpu h)
noncomputable abbrev CL (prog : Program) (w : World) (mg mb : Str → Option Value) (K : Frag) (h1 : Heap) : Cx := ⟨prog, w, mg, mb, K, hideAll h1 (tabL.map (·.2)), tbl, tabL, zu1⟩
section
variable {prog : Program} {w : World} {mg mb : Str → Option Value} {K K2 : Frag} {h0 h1 : Heap}
noncomputable def biB (x : AV) (u : Value) : Bool := match x with | .bi b => decide (u = zqi b) | _ => false
theorem zz6 : (glB.all λ p => (match bootBuiltins (nm p.1) with | some u => biB p.2 u | none => false) && !sB (nm p.1) "__name__") = true := by kernel_rfl
theorem zG6 {x : AV} {u : Value} (h : biB x u = true) : VR [] x u := by
 cases x with
 | bi b => exact of_decide_eq_true (p := u = zqi b) h
 | _ => exact nb h
structure HBs (K K2 : Frag) : Prop where
 isNs : nsK K mainGlobals = true
 gl : zNq glO glB (mgK K mainGlobals) = true
 sys : (K2.lookup sysModules).isSome = true
 cls : zyb (zN1 tbl K) tbl.cls = true
 fn : zyb (fnB K K2 spL) tbl.fn = true
 tup : zyb (zNv K) tbl.tup = true
 isi : zNk K tbl.isi = true
 tab : (tabL.all λ q => zLn K2 q) = true
theorem hbs (h : HB tbl glO glB tabL spL K K2 = true) : HBs K K2 := zbf h λ h i => zbf h λ h g => zbf h λ h f => zbf h λ h e => zbf h λ h d => zbf h λ h c => zbf h λ a b => ⟨a, b, c, d, e, f, g, i⟩
theorem Left.mgEq (L : Left K K2 h0 h1 mg mb) : mg = mgK K mainGlobals := zB7 L.g ((zCg L.kin (hbs L.hb).isNs).keeps L.keeps)
theorem Left.gl (L : Left K K2 h0 h1 mg mb) : GlOK mg mb := by
 have B := (hbs L.hb).gl
 rw [← L.mgEq] at B
 refine zbf B λ b1 b2 => ⟨λ x v h => ?_, λ x b h => zbf (List.all_eq_true.mp zz6 _ (zpu h)) λ h2 h3 => ⟨Option.isNone_iff_eq_none.mp (List.all_eq_true.mp b2 _ (zpu h)), ?_⟩⟩
 · have := List.all_eq_true.mp b1 _ (zpu h)
   dsimp only at this
   cases e : mg (nm x) with
   | none => rw [e] at this; exact nb this
   | some u => rw [e] at this; exact ⟨u, rfl, zve this⟩
 · dsimp only at h2
   rw [L.bts _ (zId (zKq h3))]
   cases e : bootBuiltins (nm x) with
   | none => rw [e] at h2; exact nb h2
   | some u => rw [e] at h2; exact ⟨u, rfl, zG6 h2⟩
theorem zGf {a : Nat} (h : a ∈ kaL) : a ∉ tabL.map (·.2) := λ hm => by
 obtain ⟨q, hq, rfl⟩ := List.mem_map.mp hm
 have := List.all_eq_true.mp (List.all_eq_true.mp zyn _ h) _ hq
 rw [Nat.beq_refl] at this; exact nb this
theorem zmb {a : Nat} (h : a ≤ 3) : a ∉ tabL.map (·.2) := λ hm => by
 obtain ⟨q, hq, rfl⟩ := List.mem_map.mp hm
 exact absurd h (Nat.not_le.mpr (blx (List.all_eq_true.mp zx9 _ hq)))
theorem Left.KG (L : Left K K2 h0 h1 mg mb) : K.In (hideAll h1 (tabL.map (·.2))) := λ a o e => hideAll_get _ (L.keeps _ _ (L.kin a o e)) (zGf (L.kmem a o e))
structure TabP (K2 : Frag) (h0 : Heap) (q : Nat × Nat) : Prop where
 code : codeHdIn K2 q.1 q.2 = true
 obj : h0.get? q.2 = some (tabObj #[])
theorem zrt {q : Nat × Nat} (X : K2.In h0) (x : zLn K2 q = true) : TabP K2 h0 q := zbf x λ h1 h2 => ⟨h1, by
 split at h2
 · rename_i vs sl e
   exact zbf h2 λ h3 h4 => by rw [X _ _ e, Array.isEmpty_iff.mp h3, Array.isEmpty_iff.mp h4]
 · exact nb h2⟩
theorem zyg {K : Frag} {S : Setting} {d : Addr} {c : Value} {e : Option Addr} {xs : Array Value} {n : Nat} {sl : Array (Option Value)} (h : K.lookup d = some ⟨c, e, .seq xs n, sl⟩) : peek K S (seqItems? (.ref d)) = some (some xs) := by
 refine zgt (a := ⟨c, e, .seq xs n, sl⟩) ?_ rfl
 show peek K S (Sem.load d _ _) = _
 simp only [peek, h]
structure DflP (K : Frag) (dfl : List AV) (v : Value) (r : Option (Array Value)) : Prop where
 peek : ∀ S, peek K S (seqItems? v) = some r
 vals : VRs [] dfl (r.getD #[]).toList
theorem zIc {K : Frag} {dfl : List AV} {v : Value} (h : zKn K dfl v = true) : ∃ r, DflP K dfl v r := by
 unfold zKn at h
 split at h
 · exact ⟨none, λ S => rfl, by rw [List.isEmpty_iff.mp h]; exact .nil⟩
 · split at h
   · rename_i d c e xs n sl hk
     rw [zlr] at hk
     exact ⟨some xs, λ S => zyg hk, zmf h⟩
   · exact nb h
 · exact nb h
theorem zn8 : ∀ {ps : List Nat} {l : List Str}, zGx (λ p x => sB (nm p) x) ps l = true → l = ps.map nm
 | [], [], _ => rfl
 | p :: ps, x :: l, h => zbf h λ h1 h2 => by rw [List.map_cons, zpp h1, zn8 h2]
 | [], _ :: _, h => nb h
 | _ :: _, [], h => nb h
theorem zqv {ps : List Nat} (h : ps.Nodup) : (ps.map nm).Nodup := List.pairwise_map.mpr (h.imp λ ne e => ne (zo2 e))
structure ArgP (ps : List Nat) (a : Arguments) : Prop where
 h1 : a.posonlyargs = []
 h2 : a.kwonlyargs = []
 h3 : a.vararg = none
 h4 : a.kwarg = none
 hN : a.args.map (·.arg) = ps.map nm
 nd : ps.Nodup
theorem zBy {ps : List Nat} {a : Arguments} (h : zMk ps a = true) : ArgP ps a := zbf h λ h a6 => zbf h λ h a5 => zbf h λ h a4 => zbf h λ h a3 => zbf h λ a1 a2 =>
 ⟨List.isEmpty_iff.mp a1, List.isEmpty_iff.mp a2, Option.isNone_iff_eq_none.mp a3, Option.isNone_iff_eq_none.mp a4, zn8 a5, of_decide_eq_true a6⟩
structure FlagP (sc : Scope) : Prop where
 co : sc.isCoroutine = false
 gen : sc.isGenerator = false
 kind : sc.kind = .function
theorem zxo {sc : Scope} (h : zEk sc = true) : FlagP sc := zbf h λ h h2 => zbf h λ h3 h4 => ⟨zKq h3, zKq h4, of_decide_eq_true h2⟩
structure HeadP (fd : FD) (a : Arguments) (sc : Scope) : Prop where
 flag : FlagP sc
 arg : ArgP fd.ps a
 dfl : fd.dfl.length ≤ fd.ps.length
 celn : fd.cel.Nodup
 cel : ∀ p ∈ fd.cel, isK .cell (lkN (nm p) sc.names) = true
 ps : ∀ p ∈ fd.ps, (isK .local (lkN (nm p) sc.names) || fd.cel.contains p) = true
theorem zDy {fd : FD} {a : Arguments} {sc : Scope} (h : zKa fd a sc = true) : HeadP fd a sc := zbf h λ h a6 => zbf h λ h a5 => zbf h λ h a4 => zbf h λ h a3 => zbf h λ a1 a2 =>
 ⟨zxo a1, zBy a2, blx a3, of_decide_eq_true a4, List.all_eq_true.mp a5, List.all_eq_true.mp a6⟩
structure BodP (C : Cx) (m : FuncData) (fd : FD) (b : List Stmt) (hkE : Expr → Option Nat) (hkS : Stmt → Option (Nat × Nat)) : Prop where
 fok : FxOK C (zs3 m fd.cel hkE hkS)
 body : fd.body = b.map (erS 20 (zs3 m fd.cel hkE hkS).ek)
noncomputable def spB (m : FuncData) (o : Option (Nat × List Nat)) : Bool := match o with | some c => m.code == .ref c.1 && decide (m.qualname.cps.toList = c.2) | none => true
theorem zD5 {a : Nat} {fd : FD} {i j : Nat} {q : Arguments × List Stmt × Scope} {m : FuncData} (hfd : tbl.fn.get a = some fd) (hl : lcL.lookup a = some (i, j)) (hq : ztj i j = some q) (hm : m.scope = q.2.2) (hk : q.2.2.kind = .function) (hc : spB m (spL.lookup a) = true) :
   ∃ hkE hkS, BodP (CL prog w mg mb K h1) m fd q.2.1 hkE hkS := by
 cases e : spL.lookup a with
 | none =>
   have t := List.map_inj_left.mp zN5 _ (zda hl)
   dsimp only at t
   rw [hfd, hq] at t
   have n1 : hE a = none := by
     unfold hE
     cases h : Nat.beq a 1673 with
     | false => rfl
     | true => cases ebx h; cases e
   have n2 : hS a = none := by
     unfold hS
     cases h : Nat.beq a 28 with
     | true => cases ebx h; cases e
     | false => cases h : Nat.beq a 1683 with
       | true => cases ebx h; cases e
       | false => rfl
   rw [n1, n2] at t
   refine ⟨λ _ => none, λ _ => none, zxf (by show m.scope.kind = _; rw [hm]; exact hk) rfl rfl, ?_⟩
   rw [show (zs3 m fd.cel (λ _ => none) λ _ => none).ek = ⟨q.2.2, fd.cel, λ _ => none, λ _ => none⟩ by unfold zs3 Fx.ek; rw [hm]]
   exact Option.some.inj t
 | some c =>
   rw [e] at hc
   refine zbf hc λ c1 c2 => ?_
   have e1 : m.code = .ref c.1 := beq_iff_eq.mp c1
   have e2 : m.qualname = zam c.2 := by rw [← of_decide_eq_true c2]; rfl
   have hs := zda e
   have k : m.scope.kind = .function := by rw [hm]; exact hk
   rw [show spL = [(28, 27, [108, 105, 107, 101, 95, 110, 111, 100, 101]), (1673, 1672, [95, 108, 97, 119, 95, 99, 111, 117, 110, 116, 101, 100, 95, 114, 105, 103, 104, 116]), (1683, 1682, [95, 108, 97, 119, 95, 115, 111, 114, 116, 101, 100, 95, 114, 105, 103, 104, 116])] from rfl] at hs
   simp only [List.mem_cons, List.not_mem_nil, or_false] at hs
   rcases hs with hs | hs | hs
   · cases hs
     cases Option.some.inj (hl.symm.trans (by kernel_rfl : lcL.lookup 28 = some (2, 0)))
     cases Option.some.inj (hfd.symm.trans (by kernel_rfl : tbl.fn.get 28 = some zcj))
     have t := zCb (hkD (zb4 2 0 4) (zbx, 0))
     rw [hq, zvz] at t
     have sc : (ztj 2 0).map (·.2.2) = some m.scope := by rw [hq, hm]; rfl
     refine ⟨λ _ => none, hkD (zb4 2 0 4) (zbx, 0), fxD (tab := (27, 23)) (nd := nd0) rfl rfl k zDh (by show some (nmD _ _ zAd _) = some (nmD _ _ (m.qualname ++ _) _); rw [e2]; rfl) (.head _) e1 (by kernel_rfl) (by kernel_rfl) (λ env => by kernel_rfl) ?_ rfl (by kernel_rfl), ?_⟩
     · show isK .local (lkN (nm zbx) m.scope.names) = true
       rw [hm, show q.2.2 = ((ztj 2 0).getD (default, [], default)).2.2 by rw [hq]; rfl]
       kernel_rfl
     · rw [show (zs3 m zcj.cel (λ _ => none) (hkD (zb4 2 0 4) (zbx, 0))).ek = ⟨q.2.2, zcj.cel, λ _ => none, hkD (zb4 2 0 4) (zbx, 0)⟩ by unfold zs3 Fx.ek; rw [hm]]
       exact (Option.some.inj t).symm
   · cases hs
     cases Option.some.inj (hl.symm.trans (by kernel_rfl : lcL.lookup 1673 = some (203, 0)))
     cases Option.some.inj (hfd.symm.trans (by kernel_rfl : tbl.fn.get 1673 = some zao))
     have t := zsu (hkD zAr 1)
     rw [hq, zvz] at t
     refine ⟨hkD zAr 1, λ _ => none, fxL (nd := nd1) rfl rfl k zJw (by show m.qualname ++ _ = _; rw [e2]; rfl) rfl (.tail _ (.head _)) e1 (by kernel_rfl) (by kernel_rfl) (by kernel_rfl) rfl (by kernel_rfl), ?_⟩
     rw [show (zs3 m zao.cel (hkD zAr 1) λ _ => none).ek = ⟨q.2.2, zao.cel, hkD zAr 1, λ _ => none⟩ by unfold zs3 Fx.ek; rw [hm]]
     exact (Option.some.inj t).symm
   · cases hs
     cases Option.some.inj (hl.symm.trans (by kernel_rfl : lcL.lookup 1683 = some (205, 0)))
     cases Option.some.inj (hfd.symm.trans (by kernel_rfl : tbl.fn.get 1683 = some zaj))
     have t := zxd (hkD (zb4 205 0 3) (zak, 2))
     rw [hq, zvz] at t
     refine ⟨λ _ => none, hkD (zb4 205 0 3) (zak, 2), fxD (tab := (1682, 1680)) (nd := nd2) rfl rfl k zCj (by show some (nmD _ _ zmj _) = some (nmD _ _ (m.qualname ++ _) _); rw [e2]; rfl) (.tail _ (.tail _ (.head _))) e1 (by kernel_rfl) (by kernel_rfl) (λ env => by kernel_rfl) ?_ rfl (by kernel_rfl), ?_⟩
     · show isK .local (lkN (nm zak) m.scope.names) = true
       rw [hm, show q.2.2 = ((ztj 205 0).getD (default, [], default)).2.2 by rw [hq]; rfl]
       kernel_rfl
     · rw [show (zs3 m zaj.cel (λ _ => none) (hkD (zb4 205 0 3) (zak, 2))).ek = ⟨q.2.2, zaj.cel, λ _ => none, hkD (zb4 205 0 3) (zak, 2)⟩ by unfold zs3 Fx.ek; rw [hm]]
       exact (Option.some.inj t).symm
end
section
variable {prog : Program} {w : World} {mg mb : Str → Option Value} {K K2 : Frag} {h0 h1 : Heap}
theorem zv6 : (tabL.all λ q => tabL.all λ q' => !Nat.beq q.1 q'.2) = true := by kernel_rfl
theorem Left.tabAt (L : Left K K2 h0 h1 mg mb) {q : Nat × Nat} (hq : q ∈ tabL) : TabP K2 h0 q := zrt L.kin2 (List.all_eq_true.mp (hbs L.hb).tab q hq)
theorem Left.codeRec (L : Left K K2 h0 h1 mg mb) {cd : Value} {q : Str} (h : zuz K2 cd q = true) : (hideAll h1 (tabL.map (·.2))).CodeRec cd q := by
 obtain ⟨c, o, vs, t, e1, e2, e3, e4⟩ := codeRec_of L.kin2 (zzr h)
 refine ⟨c, o, vs, t, e1, hideAll_get _ (L.keeps _ _ e2) λ hm => ?_, e3, e4⟩
 obtain ⟨q', hq', rfl⟩ := List.mem_map.mp hm
 have := (L.tabAt hq').obj
 rw [e2] at this
 cases this
 cases e3
 cases e4
structure FnB (K K2 : Frag) (a : Nat) (fd : FD) (m : FuncData) : Prop where
 glob : (m.globals == mainGlobals) = true
 clos : m.closure.isEmpty = true
 blt : (m.builtins == builtinsNs) = true
 code : zuz K2 m.code m.qualname = true
 dfl : zKn K fd.dfl m.defaults = true
 spec : spB m (spL.lookup a) = true
theorem zwx {a : Nat} {fd : FD} (h : fnB K K2 spL a fd = true) : ∃ c d m sl, K.lookup a = some ⟨c, d, .func m, sl⟩ ∧ FnB K K2 a fd m := by
 unfold fnB at h
 rw [zlr] at h
 split at h
 · rename_i c d m sl hk
   exact ⟨c, d, m, sl, hk, zbf h λ h b7 => zbf h λ h b5 => zbf h λ h b4 => zbf h λ h b3 => zbf h λ b1 b2 => ⟨b1, b2, b3, b4, b5, b7⟩⟩
 · exact nb h
theorem zMi (L : Left K K2 h0 h1 mg mb) {a : Nat} {fd : FD} (hfd : tbl.fn.get a = some fd) : ∃ o mfd body du hkE hkS, FnP (CL prog w mg mb K h1) a fd o mfd body du hkE hkS := by
 have S := zfw _ zF7 _ _ hfd
 unfold stB at S
 cases hl : lcL.lookup a with
 | none => rw [hl] at S; exact nb S
 | some p =>
   rw [hl] at S
   obtain ⟨i, j⟩ := p
   cases hq : ztj i j with
   | none => dsimp only at S; rw [hq] at S; exact nb S
   | some q =>
   dsimp only at S
   rw [hq] at S
   have H := zDy S
   obtain ⟨c, d, m, sl, hk, B⟩ := zwx (zfw _ (hbs L.hb).fn _ _ hfd)
   have hb := List.map_inj_left.mp (show lcL.map _ = lcL.map _ from L.bod) _ (zda hl)
   dsimp only at hb
   rw [zlr, hk, hq] at hb
   have e := Option.some.inj hb
   have p1 : m.params = q.1 := congrArg (·.1) e
   have p2 : m.body = .stmts q.2.1 := congrArg (·.2.1) e
   have p3 : m.scope = q.2.2 := congrArg (·.2.2) e
   obtain ⟨r, D⟩ := zIc B.dfl
   obtain ⟨hkE, hkS, Y⟩ := zD5 (prog := prog) (w := w) (mg := mg) (mb := mb) (K := K) (h1 := h1) hfd hl hq p3 H.flag.kind B.spec
   have A := H.arg
   refine ⟨_, m, q.2.1, _, hkE, hkS, ⟨hk, rfl, p2, by rw [p3]; exact H.flag.co, by rw [p3]; exact H.flag.gen, beq_iff_eq.mp B.glob, List.isEmpty_iff.mp B.clos, beq_iff_eq.mp B.blt, L.codeRec B.code,
     λ p hp => ?_, H.celn, λ p hp => ?_, A.nd, D.vals, λ us l1 l2 S => ?_, Y.fok, Y.body⟩⟩
   · rw [p3]
     have := zkc (H.cel p hp)
     exact ⟨this, zda this⟩
   · rw [p3]
     exact (or1 (H.ps p hp)).imp zkc List.contains_iff_mem.mp
   · have ln := D.vals.length
     have lN : (fd.ps.map nm).length = fd.ps.length := List.length_map ..
     have := zwk (fd := m) (K := K) (S := S) (us := us) (N := fd.ps.map nm) (r := r) (p1 ▸ A.h1) (p1 ▸ A.h2) (p1 ▸ A.h3) (p1 ▸ A.h4) (p1 ▸ A.hN) (zqv A.nd) (D.peek S) rfl (by rw [lN]; exact l1) (by rw [lN]; exact l2) (by rw [lN, ln]; exact H.dfl)
     rw [lN] at this
     exact this
theorem zC3 (L : Left K K2 h0 h1 mg mb) {a : Nat} {xs : List AV} (h : tbl.tup.get a = some xs) : xs.length ≤ 1001 ∧ ∃ us, VRs [] xs us ∧ IsTup (hideAll h1 (tabL.map (·.2))) a us.toArray :=
 zbf (zfw _ (hbs L.hb).tup _ _ h) λ b1 b2 => ⟨blx b1, by
   split at b2
   · rename_i c d us n sl hk
     exact zbf b2 λ b3 b4 => ⟨us.toList, zmf b4, _, L.KG _ _ hk, beq_iff_eq.mp b3, n, by rw [Array.toArray_toList]⟩
   · exact nb b2⟩
structure ClsF (C : Cx) (a : Nat) (cd : CD) : Prop where
 attr : ∀ n, okA a n = true → AttrOK C a n
 cls : ClsOK C a
 meth : ∀ n f, lk n cd.meths = some f → MethOK C a n f
 keep : keepIn C.K (.ref a) = true
 init : ∀ i, cd.init = some i → ClsP C a i
theorem znz (L : Left K K2 h0 h1 mg mb) {a : Nat} {cd : CD} (h : tbl.cls.get a = some cd) : ClsF (CL prog w mg mb K h1) a cd :=
 zbf (zfw _ (hbs L.hb).cls _ _ h) λ h b5 => zbf h λ h b4 => zbf h λ h b3 => zbf h λ b1 b2 => zbf b2 λ b2 c4 => zbf b2 λ b2 c3 => zbf b2 λ c1 c2 => {
   attr := λ n ok => by
     obtain ⟨k, hk, e⟩ := List.any_eq_true.mp ok
     cases ebx e
     refine zbf (List.all_eq_true.mp b1 n hk) λ e1 e2 => ⟨?_, ?_⟩
     · cases hf : findIn K (.ref a) (nm n) with
       | none => rw [hf] at e1; exact nb e1
       | some r => rw [hf] at e1; exact ⟨r, (by first | exact hf | rfl), e1⟩
     · show takerIn K a (nm n) = some none
       cases hf : takerIn K a (nm n) with
       | none => rw [hf] at e2; exact nb e2
       | some r => cases r with
         | none => rfl
         | some => rw [hf] at e2; exact nb e2
   cls := ⟨c1, c2, beq_iff_eq.mp c3, c4⟩
   meth := λ n f hf => zbf (List.all_eq_true.mp b3 _ (zpu hf)) λ e1 e2 => ⟨beq_iff_eq.mp e1, beq_iff_eq.mpr (zph e2)⟩
   keep := b4
   init := λ i hi => by
     rw [hi] at b5
     exact zbf b5 λ h d4 => zbf h λ h d3 => zbf h λ d1 d2 => ⟨d1, beq_iff_eq.mp d2, zph d3, d4⟩ }
theorem zoi {q : Addr × Addr} (h : q ∈ tabL) : q = (27, 23) ∨ q = (1672, 1670) ∨ q = (1682, 1680) := by
 unfold tabL at h
 simpa using h
theorem Left.tabs (L : Left K K2 h0 h1 mg mb) {q : Addr × Addr} (hq : q ∈ tabL) : TabOK (CL prog w mg mb K h1) q := by
 have hd : CodeHd (hideAll h1 (tabL.map (·.2))) q.1 q.2 := by
   obtain ⟨o, vs, f, tf, fl, tg, inF, tx, tt, e, r⟩ := codeHd_of_K L.kin2 (L.tabAt hq).code
   refine ⟨o, vs, f, tf, fl, tg, inF, tx, tt, hideAll_get _ (L.keeps _ _ e) λ hm => ?_, r⟩
   obtain ⟨q', hq', e'⟩ := List.mem_map.mp hm
   have := List.all_eq_true.mp (List.all_eq_true.mp zv6 _ hq) _ hq'
   rw [e', Nat.beq_refl] at this; exact nb this
 refine ⟨hd, hideAll_none _ (List.mem_map_of_mem hq), ?_⟩
 obtain ⟨bm, ob, e1, e2, e3, e4, e5, e6⟩ := L.bmain
 have nt : ∀ q ∈ tabL, bm ≠ q.2 := λ q hq e => by
   have := L.keeps _ _ (L.tabAt hq).obj
   rw [← e, e3] at this
   cases this
   cases e4
 refine ⟨bm, ob, e1, e2, λ e => ?_, nt q hq, hideAll_get _ e3 λ hm => ?_, e4, e5, e6⟩
 · obtain ⟨o, es, ep, f1, f2, _⟩ := L.g
   rw [← e, e3] at f1
   cases f1
   rw [e6] at f2; cases f2
 · obtain ⟨q', hq', e⟩ := List.mem_map.mp hm
   exact nt q' hq' e.symm
theorem zzu : (([(0, nmD zbx (zb4 2 0 4) zAd (27, 23)), (1, nmL), (2, nmD zak (zb4 205 0 3) zmj (1682, 1680))] : List (Nat × NMod)).map λ p => (p.1, p.2.tab)) = [(0, (27, 23)), (1, (1672, 1670)), (2, (1682, 1680))] := rfl
theorem zny {k : Nat} {n : NMod} (h : zu1 k = some n) : (k, n.tab) ∈ ([(0, (27, 23)), (1, (1672, 1670)), (2, (1682, 1680))] : List (Nat × Addr × Addr)) := by
 rw [← zzu]
 exact List.mem_map.mpr ⟨(k, n), zpu h, rfl⟩
theorem zCz : ([(0, (27, 23)), (1, (1672, 1670)), (2, (1682, 1680))] : List (Nat × Addr × Addr)).all (λ p => ([(0, (27, 23)), (1, (1672, 1670)), (2, (1682, 1680))] : List (Nat × Addr × Addr)).all λ q => Nat.beq p.1 q.1 || !Nat.beq p.2.1 q.2.1) = true := by kernel_rfl
theorem zw1 (L : Left K K2 h0 h1 mg mb) : Good (CL prog w mg mb K h1) where
 K := L.KG
 mg := zis L.g (zmb (Nat.le_refl 3))
 mb := zis L.b (zmb (Nat.zero_le 3))
 lim := let ⟨mc, a, b⟩ := L.lim; ⟨mc, zis a (zmb (by decide)), b⟩
 attr := λ a cd h => (znz L h).attr
 cls := λ a cd h => (znz L h).cls
 meth := λ a cd n f h hf => (znz L h).meth n f hf
 keepf := λ a fd h => by
   obtain ⟨c, d, m, sl, hk, _⟩ := zwx (zfw _ (hbs L.hb).fn _ _ h)
   show keepIn K (.ref a) = true
   unfold keepIn
   dsimp only
   rw [hk]
 keepc := λ a cd h => (znz (prog := prog) (w := w) L h).keep
 sys := by
   obtain ⟨o, ho⟩ := Option.isSome_iff_exists.mp (hbs L.hb).sys
   exact ⟨o, hideAll_get _ (L.keeps _ _ (L.kin2 _ _ ho)) (zmb (by decide))⟩
 tups := λ a xs h => zC3 L h
 gl := L.gl
 quals := λ k k' n n' h h' e _ _ => by
   have t := List.all_eq_true.mp (List.all_eq_true.mp zCz _ (zny h)) _ (zny h')
   dsimp only at t
   rw [e, Nat.beq_refl, Bool.not_true, Bool.or_false] at t
   cases ebx t
   cases Option.some.inj (h.symm.trans h'); rfl
 bts := λ q hq => L.tabs hq
theorem zHf (L : Left K K2 h0 h1 mg mb) : IsiOK (CL prog w mg mb K h1) := zbf (hbs L.hb).isi λ b1 b2 =>
 ⟨λ a ha => zbf (List.all_eq_true.mp b1 a ha) λ h c6 => zbf h λ h c5 => zbf h λ h c4 => zbf h λ h c3 => zbf h λ c1 c2 => ⟨c1, c2, beq_iff_eq.mp c3, beq_iff_eq.mp c4, beq_iff_eq.mp c5, beq_iff_eq.mp c6⟩,
  λ a ha b hb => beq_iff_eq.mp (List.all_eq_true.mp (List.all_eq_true.mp b2 a ha) b hb)⟩
noncomputable def zOi (nd : ND) (m : NMod) : Bool := zEk m.scope && zMk nd.ps m.params && (m.scope.names.all λ y => !decide (y.2 = .cell)) && (nd.ps.all λ p => isK .local (lkN (nm p) m.scope.names))
theorem zvu {k : Nat} {nd : ND} {m : NMod} (hm : zu1 k = some m) (h : zOi nd m = true) (hb : zE3 m nd) : NstP (CL prog w mg mb K h1) k nd m := zbf h λ h hp => zbf h λ h hn => zbf h λ hf ha => by
 have F := zxo hf
 have A := zBy ha
 refine ⟨hm, F.co, F.gen, F.kind, λ x hx e => ?_, λ p h => zkc (List.all_eq_true.mp hp p h), A.nd, λ fd e1 e2 e3 e4 us l => zFe (by rw [e1]; exact A.h1) (by rw [e1]; exact A.h2) (by rw [e1]; exact A.h3) (by rw [e1]; exact A.h4) (by rw [e1]; exact A.hN) (zqv A.nd) e3 (by rw [l, List.length_map]), hb⟩
 have := of_decide_eq_false (zKq (List.all_eq_true.mp hn x hx))
 exact this e
theorem zIs {k : Nat} {nd : ND} (h : lk k tbl.nst = some nd) : ∃ m, NstP (CL prog w mg mb K h1) k nd m := by
 have hm := zpu h
 rw [show tbl.nst = [(0, nd0), (1, nd1), (2, nd2)] from rfl] at hm
 simp only [List.mem_cons, List.not_mem_nil, or_false] at hm
 rcases hm with hm | hm | hm
 · cases hm
   exact ⟨nmD zbx (zb4 2 0 4) zAd (27, 23), zvu rfl (by kernel_rfl) ⟨_, rfl, by kernel_rfl⟩⟩
 · cases hm
   exact ⟨nmL, zvu rfl (by kernel_rfl) ⟨_, rfl, by kernel_rfl⟩⟩
 · cases hm
   exact ⟨nmD zak (zb4 205 0 3) zmj (1682, 1680), zvu rfl (by kernel_rfl) ⟨_, rfl, by kernel_rfl⟩⟩
theorem zDg (L : Left K K2 h0 h1 mg mb) (S : SetsOK (CL prog w mg mb K h1)) : Full (CL prog w mg mb K h1) where
 good := zw1 L
 isi := zHf L
 sets := S
 tabs := ⟨λ q hq q' hq' e => by rcases zoi hq with rfl | rfl | rfl <;> rcases zoi hq' with rfl | rfl | rfl <;> first | rfl | cases e⟩
 fns := λ a fd h => zMi L h
 clss := λ a cd h i hi => (znz L h).init i hi
 nsts := λ k nd h => zIs h
end
section
variable {C : Cx} {z : Nat} {A : Around} {E : Value → Shared → Prop} {s : Shared} {w : Wd} {ρ : List Addr} {st st' : Store} {Q : Value → Shared → Prop} {v : AV} {u : Value} {vs : List AV} {us : List Value} {p : Bool × AV × Store}
theorem znx : ∀ ns : List (List Nat), ns.all (·.all (· < 128)) = true → PyData.canLayAll0 ((ns.map zam).map PyData.str) = true
 | [], _ => rfl
 | a :: r, h => by
   rw [List.all_cons, Bool.and_eq_true] at h
   have : PyData.strOk (zam a) = true := by
     unfold PyData.strOk
     simp only [zam, List.all_toArray, List.all_eq_true, decide_eq_true_eq, Bool.and_eq_true, Bool.or_eq_true] at h ⊢
     intro x hx
     have := h.1 x hx
     omega
   simp only [List.map_cons, PyData.canLayAll0, PyData.canLay0, znx r h.2, this, Bool.and_self]
theorem zsa : ∀ ns : List Str, PyData.depthAll (ns.map PyData.str) = 0
 | [] => rfl
 | _ :: r => by simp [PyData.depthAll, PyData.depth, zsa r]
theorem zt7 : ∀ ns ms : List Str, PySem.Spec.sameAll (ns.map PyData.str) (ms.map PyData.str) = decide (ns = ms)
 | [], [] => by simp [PySem.Spec.sameAll]
 | [], _ :: _ => by simp [PySem.Spec.sameAll]
 | _ :: _, [] => by simp [PySem.Spec.sameAll]
 | a :: r, b :: t => by
   simp only [List.map_cons, PySem.Spec.sameAll, PySem.Spec.same, zt7 r t]
   by_cases h : a = b <;> by_cases h' : r = t <;> simp [h, h']
theorem zst : ∀ ns ms : List Str, SeqAt.noMixAll (ns.map PyData.str) (ms.map PyData.str) = true
 | [], [] => rfl
 | [], _ :: _ => rfl
 | _ :: _, [] => rfl
 | a :: r, b :: t => by
   show (SeqAt.noMix (.str a) (.str b) && SeqAt.noMixAll (r.map PyData.str) (t.map PyData.str)) = true
   rw [zst r t]; rfl
theorem zl3 {h : Heap} {xs : List AV} {us : List Value} (r : VRs ρ xs us) : ∀ {l : List (List Nat)}, zdm xs = some l → ReadsAll h us ((l.map zam).map PyData.str) [] := by
 induction r with
 | nil => intro l h; cases h; exact .nil
 | @cons x v xs vs a _ ih =>
   intro l h
   refine zag h λ i hi h => zbs h λ js hj h => ?_
   subst h
   cases zxs hi
   obtain ⟨_, t, rfl⟩ := a
   exact .cons (as := []) (bs := []) (.str _ t) (ih hj)
theorem zj3 : ∀ l m : List (List Nat), l.map zam = m.map zam → l = m
 | [], [], _ => rfl
 | [], _ :: _, h => nomatch h
 | _ :: _, [], h => nomatch h
 | a :: l, b :: m, h => by
   have := List.cons.inj h
   rw [zfj.mp this.1, zj3 l m this.2]
noncomputable def zEu (l : List (List Nat)) : Bool := l.all (·.all (· < 128))
theorem zwz {l : List (List Nat)} (h : zEu l = true) : PyData.canLay0 (.tuple ((l.map zam).map PyData.str)) = true := by rw [PyData.canLay0]; exact znx l h
theorem zs8 {a b : Addr} {xs ys : List Value} {l m : List (List Nat)} (x : IsTup s.heap a xs.toArray) (y : IsTup s.heap b ys.toArray) (rx : ReadsAll s.heap xs ((l.map zam).map PyData.str) []) (ry : ReadsAll s.heap ys ((m.map zam).map PyData.str) [])
   (hu : A.units + 64 < cLine) (ol : zEu l = true) (om : zEu m = true) : SeqAt.EqAt A s (.ref a) (.ref b) (decide (l = m)) := by
 obtain ⟨o, h1, h2, n, h3⟩ := x
 obtain ⟨o', g1, g2, n', g3⟩ := y
 have d1 : PyData.depth (.tuple ((l.map zam).map PyData.str)) ≤ 1 := by rw [PyData.depth, zsa]; decide
 have q := SeqAt.eqAt_reads _ _ A s _ _ _ _ (.tuple h1 h2 h3 rx : Reads s.heap (.ref a) _ []) (.tuple g1 g2 g3 ry : Reads s.heap (.ref b) _ []) (zwz ol) (zwz om) (by omega)
 rw [← SeqAt.same_eq_eqv _ _ (by rw [SeqAt.noMix]; exact zst _ _), PySem.Spec.same, zt7] at q
 by_cases e : l = m
 · rw [decide_eq_true e]; rw [e, decide_eq_true rfl] at q; exact q
 · rw [decide_eq_false e]; rw [decide_eq_false λ h => e (zj3 _ _ h)] at q; exact q
structure TupL (st : Store) (ρ : List Addr) (l : List (List Nat)) (y : Value) (i : Nat) (a : Addr) (zs : List AV) : Prop where
 val : y = .ref a
 ix : Ix ρ i a
 tp : st.tp i = some zs
 txt : zdm zs = some l
noncomputable def zz0 (st : Store) (ρ : List Addr) (l : List (List Nat)) (y : Value) : Bool := @decide (∃ i a zs, TupL st ρ l y i a zs) (Classical.propDecidable _)
theorem zz3 (R : Rep C ρ st s.heap) {l l' : List (List Nat)} {k : Nat} {a : Addr} {zs : List AV} (e : Ix ρ k a) (hz : st.tp k = some zs) (hl : zdm zs = some l') : zz0 st ρ l (.ref a) = decide (l' = l) := by
 by_cases q : l' = l
 · rw [decide_eq_true q]
   exact @decide_eq_true _ (_) ⟨k, a, zs, rfl, e, hz, q ▸ hl⟩
 · rw [decide_eq_false q]
   refine @decide_eq_false _ (_) λ ⟨i, b, ys, t⟩ => q ?_
   cases t.val
   have t3 := t.tp
   rw [R.uniq i k _ t.ix e, hz] at t3
   cases t3
   exact Option.some.inj (hl.symm.trans t.txt)
structure CountR (st : Store) (ρ : List Addr) (s : Shared) (b : Addr) (l : List (List Nat)) (us : List Value) (n : Nat) : Prop where
 count : us.countP (zz0 st ρ l) = n
 eqs : ∀ A : Around, A.units + 64 < cLine → ∀ y ∈ us, SeqAt.EqAt A s y (.ref b) (zz0 st ρ l y)
theorem ztf (R : Rep C ρ st s.heap) {xs : List AV} {us : List Value} (r : VRs ρ xs us) {l : List (List Nat)} {b : Addr} {ys : List Value} (hb : IsTup s.heap b ys.toArray) (hys : ReadsAll s.heap ys ((l.map zam).map PyData.str) []) (ol : zEu l = true) : ∀ {ls : List (List (List Nat))}, zhj st xs = some ls → ls.all zEu = true →
   CountR st ρ s b l us (ls.count l) := by
 induction r with
 | nil => intro ls h oo; cases h; exact ⟨rfl, λ _ _ _ h => nomatch h⟩
 | @cons x u xs us a _ ih =>
   intro ls h oo
   refine zag h λ k hk h => zag h λ zs hz h => zag h λ l' hl h => zbs h λ ls' h1 h => ?_
   subst h
   cases zxp hk
   obtain ⟨p, e, rfl⟩ := a
   have hp := zz3 (l := l) R e hz hl
   refine zbf oo λ o1 o2 => ?_
   have I := ih h1 o2
   refine ⟨?_, λ A hA y hy => ?_⟩
   · rw [List.countP_cons, List.count_cons, I.count, hp]
     by_cases q : l' = l
     · rw [decide_eq_true q, q, beq_self_eq_true]
     · rw [decide_eq_false q, beq_eq_false_iff_ne.mpr q]
   · rcases List.mem_cons.mp hy with rfl | hy
     · rw [hp]
       exact R.tp hz e λ ob us n t => zs8 t.is hb (zl3 t.seq.items hl) hys hA o1 ol
     · exact I.eqs A hA y hy
theorem zxk : ∀ p ∈ zjx, Txt.split (zam p.1) (zam [58]) = p.2.map zam := by decide +kernel
theorem zx8 : ∀ p ∈ zjx, (Builtin.Str.partsBetween (zam p.1) (Builtin.Str.occurrences (zam p.1) (zam [58]) 0 (zam p.1).length ((zam p.1).length + 1)) (zam [58]).length).length ≤ 5 ∧ (zam p.1).length ≤ 5 ∧ (∀ q ∈ p.2, q.length ≤ 1000) ∧ p.2.length ≤ 5 := by decide +kernel
theorem zwn {α : Type} {k : List Nat} : ∀ {es : List (List Nat × α)} {v : α}, lkS k es = some v → (k, v) ∈ es
 | [], v, h => nn h
 | p :: r, v, h => by
   unfold lkS at h
   by_cases q : p.1 = k
   · rw [if_pos q] at h; cases h; rw [← q]; exact .head _
   · rw [if_neg q] at h; exact .tail _ (zwn h)
theorem zj4 (ρ : List Addr) : ∀ {ps : List (List Nat)} {l : List (Str × Tok)}, l.map (·.1) = ps.map zam → (∀ q ∈ ps, q.length ≤ 1000) → VRs ρ (ps.map .str) (strValues l)
 | [], [], _, _ => .nil
 | p :: ps, [], h, _ => nomatch h
 | [], _ :: _, h, _ => nomatch h
 | p :: ps, (x, t) :: l, h, hl => by
   have h := List.cons.inj h
   cases h.1
   exact .cons (.str p t (hl p (.head _))) (zj4 ρ h.2 λ q hq => hl q (.tail _ hq))
theorem zsx {x : Str} {t u : Tok} (hx : x.length ≤ sizeLine) (hn : (Builtin.Str.partsBetween x (Builtin.Str.occurrences x (zam [58]) 0 x.length (x.length + 1)) (zam [58]).length).length ≤ sizeLine)
   (hq : ∀ l k, l.map (·.1) = Txt.split x (zam [58]) → Q (.ref w.s.heap.objs.size) { w.s with heap := w.s.heap.push { cls := .type "list", data := .seq (strValues l).toArray }, toks := k }) :
   wpAny (model C.prog C.w) A (call (.builtin "str.split") [.str x t, .str (zam [58]) u]) Q E w.s := by
 have hy : ((zam [58]).length == 0) = false := by decide
 cases h1 : (decide (x.length < (zam [58]).length) || decide (Builtin.Str.strKind x < Builtin.Str.strKind (zam [58])))
 · cases hf : (Builtin.Str.occurrences x (zam [58]) 0 x.length (x.length + 1)).isEmpty
   · refine call_meets F.slot_str_split (typeIs_str _ _ _) F.entry_str_split (F.args_str_split_2 _ _) (meets_str_split_sep x (zam [58]) t u h1 hy hf hx hn) ?_
     show wants Q E _ { w.s with toks := _, heap := w.s.heap.push { cls := .type "list", data := .seq (strsFrom w.s.toks (Builtin.Str.partsBetween x (Builtin.Str.occurrences x (zam [58]) 0 x.length (x.length + 1)) (zam [58]).length)).toArray } }
     rw [strsFrom_eq]
     exact hq (numbered w.s.toks _) _ ((numbered_texts _ _).trans ((if_neg (ne_true_of_eq_false h1)).trans (if_neg (ne_true_of_eq_false hf))).symm)
   · exact call_meets F.slot_str_split (typeIs_str _ _ _) F.entry_str_split (F.args_str_split_2 _ _) (meets_str_split_not_found x (zam [58]) t u h1 hy hf)
       (hq [(x, t)] _ ((if_neg (ne_true_of_eq_false h1)).trans (if_pos hf)).symm)
 · exact call_meets F.slot_str_split (typeIs_str _ _ _) F.entry_str_split (F.args_str_split_2 _ _) (meets_str_split_cannot_occur x (zam [58]) t u h1)
     (hq [(x, t)] _ (if_pos h1).symm)
theorem zvp : ∀ c ∈ zey, Builtin.Str.occurrences (zam zey) (zam [c]) 0 (zam zey).length 1 = [zey.idxOf c] := by decide +kernel
theorem zEs : Builtin.Str.lastOccurrence (zam [107]) (zam [58]) 0 (zam [107]).length = none := by decide +kernel
theorem zok {i : Nat} {a : Addr} {xs : List AV} (hz : Nat.ble z i = true) (hl : Nat.ble xs.length 1000 = true) (R : Rep C w.ρ st w.s.heap) (e : Ix w.ρ i a) (hx : st.get i = some (.list xs)) (rv : VR w.ρ v u) (hQ : QV C z w (st.set i (.list (xs ++ [v]))) .none Q) :
   wpAny (model C.prog C.w) A (call (.builtin "list.append") [.ref a, u]) Q E w.s := R.obj hx λ b ob t => t.ls e rfl λ ob us n l => by
 have hn := l.seq.items.size
 obtain ⟨n', hd'⟩ := Obj.data_mapSeq l.seq.data (·.push u)
 refine wpAny_call_entry slot_list_append ⟨ob, l.at_, l.seq.cls⟩ entry_list_append ?_ (args_list_append _ _)
 show wpAny _ _ (updateSeq a (·.push u) >>= λ _ => ret .none) _ _ w.s
 refine wpAny_bind (wpAny_updateSeq l.at_ l.seq.data (wpAny_pure ⟨.none, rfl, ?_⟩) (hn ▸ fits hl) (by show (us.toArray.push u).size ≤ sizeLine + 1; rw [Array.size_push, hn]; exact Nat.succ_le_succ (fits hl)))
 have hob : (w.s.heap.update a (Obj.mapSeq (·.push u))).get? a = some (Obj.mapSeq (·.push u) ob) := Heap.get?_update_self _ l.at_ (Obj.isFreed_of_seq hd')
 have sb := Heap.SameBut.update w.s.heap a (Obj.mapSeq (·.push u))
 refine hQ ⟨w.ρ, { w.s with heap := w.s.heap.update a (Obj.mapSeq (·.push u)) }⟩ _ ⟨Step.set (blx hz) e hob sb rfl rfl, R.set e l.at_ (zhs l.seq.data) sb hob ⟨?_, ⟨us ++ [u], n', l.seq.items.append (.cons rv .nil), (Obj.cls_mapSeq ..).trans l.seq.cls, ?_⟩, ?_⟩⟩ .none
 · rw [List.length_append]; exact Nat.succ_le_succ (blx hl)
 · rw [hd', List.push_toArray]
 · have e2 := l.dict; have e3 := l.seq.data
   obtain ⟨oc, od, oda, osl⟩ := ob
   dsimp only at e2 e3
   subst e3
   exact e2
def MG (C : Cx) (A : Around) (Q : Value → Shared → Prop) (E : Value → Shared → Prop) (w : Wd) (k m : Nat) (us : List Value) : Prop := wpAny (model C.prog C.w) A (call (.builtin (zNw k m)) us) Q E w.s
theorem zDs {o : Option AV} {o' : Option Value} (r : OptR ρ o o') : VR ρ (o.getD .none) (o'.getD .none) := by
 cases r with
 | none => exact .none
 | some a => exact a
theorem zts (g : Good C) {m i : Nat} {o : AO} {a : Addr} (h : zKm z m i v st o = some p) (hp : p.1 = true) (ho : st.get i = some o) (hu : A.units + 100 < cLine) (R : Rep C w.ρ st w.s.heap) (e : Ix w.ρ i a) (rv : VR w.ρ v u) (hQ : QV C z w p.2.2 p.2.1 Q) : MG C A Q E w o.kind m [.ref a, u] := by
 cases o with
 | list xs =>
   change (match Nat.beq m zeg with | true => _ | false => _) = _ at h
   cases hm : Nat.beq m zeg with
   | true =>
     rw [hm] at h
     cases h
     cases ebx hm
     exact zbf hp λ hz hl => zok hz hl R e ho rv hQ
   | false =>
     rw [hm] at h
     change (match Nat.beq m zfv with | true => _ | false => _) = _ at h
     cases hm : Nat.beq m zfv with
     | false => rw [hm] at h; exact nn h
     | true =>
       rw [hm] at h
       cases ebx hm
       refine zag h λ j hj h => zag h λ ys hy h => zag h λ l hl h => zbs h λ ls hls h => zd8 (G := λ u => MG C A Q E w 1 zfv [.ref a, u]) hj rv λ q f => R.tp hy f λ ob2 ws n2 t2 => R.obj ho λ b ob t => t.ls e rfl λ ob us n t => ?_
       subst h
       refine zbf (a := zEu l) (b := ls.all zEu) hp λ o1 o2 => ?_
       have c := ztf R t.seq.items t2.is (zl3 t2.seq.items hl) o1 hls o2
       have e1 := t.at_; have e4 := t.seq.cls; have e5 := t.seq.data
       obtain ⟨oc, od, oda, osl⟩ := ob
       dsimp only at e4 e5
       subst e4 e5
       refine call_meets PySem.F.slot_list_count ⟨_, e1, rfl⟩ PySem.F.entry_list_count (PySem.F.args_list_count_2 _ _) (SeqAt.list_countAt a us.toArray n od osl (.ref q) (zz0 st w.ρ l)) ⟨e1, λ y hy => c.eqs _ ?_ y (List.mem_toArray.mp hy), ?_⟩
       · rw [Around.in1_units]; omega
       · rw [show us.toArray.toList = us from rfl, c.count]
         exact hQ.tk R _ (.int _ _)
 | dict es =>
   change (match Nat.beq m zmt with | true => _ | false => _) = _ at h
   cases hm : Nat.beq m zmt with
   | false => rw [hm] at h; exact nn h
   | true =>
     rw [hm] at h
     cases ebx hm
     refine zbs h λ k hk h => zgk (G := λ u => MG C A Q E w 2 zmt [.ref a, u]) hk rv λ t hl => R.obj ho λ b ob q => q.dc e rfl λ ob kvs d => ?_
     subst h
     exact call_meetsIn PySem.F.slot_dict_get d.of.typeIs PySem.F.entry_dict_get (PySem.F.args_dict_get_2 _ _) (meets_dict_get (PySem.strKind C.prog C.w) a (zfn C (zam k) t) (zru g R e)) ⟨_, d.of.mapOf, hQ.tk R _ (zDs (zwd d.keys k))⟩
 | _ => exact nn h
theorem ztm {m : Nat} {x y : List Nat} {t t2 : Tok} (h : zKl m x y st = some p) (R : Rep C w.ρ st w.s.heap) (hx : x.length ≤ 1000) (hQ : QV C z w p.2.2 p.2.1 Q) : MG C A Q E w 0 m [.str (zam x) t, .str (zam y) t2] := by
 match y, h with
 | [c], h =>
   change (match Nat.beq m zfy with | true => _ | false => _) = _ at h
   cases hm : Nat.beq m zfy with
   | true =>
     rw [hm] at h
     cases ebx hm
     change (match Nat.beq c 58 with | true => _ | false => _) = _ at h
     cases hc : Nat.beq c 58 with
     | false => rw [hc] at h; exact nn h
     | true =>
       rw [hc] at h
       cases ebx hc
       refine zbs h λ ps hps h => ?_
       subst h
       have hp := zwn hps
       have k := zx8 _ hp
       exact zsx (w := w) (ltx k.2.1 (by decide)) (ltx k.1 (by decide)) λ l tk hlm => hQ.push R tk (o := .list (ps.map .str)) rfl (lsR (zj4 _ (hlm.trans (zxk _ hp)) k.2.2.1) (by rw [List.length_map]; exact ltx k.2.2.2 (by decide)))
   | false =>
     rw [hm] at h
     change (match Nat.beq m zf1 with | true => _ | false => _) = _ at h
     cases hm : Nat.beq m zf1 with
     | true =>
       rw [hm] at h
       cases ebx hm
       refine zgr h λ hc h => zbf hc λ h1 h2 => ?_
       subst h
       cases ebx h1
       cases of_decide_eq_true h2
       refine call_meets F.slot_str_rpartition (typeIs_str _ _ _) F.entry_str_rpartition (F.args_str_rpartition_2 _ _) (meets_str_rpartition (zam [107]) (zam [58]) t t2 (by decide) (by decide)) ?_
       rw [zEs]
       exact hQ.push R _ (o := .tup [.str [], .str [], .str [107]]) rfl (tpR (us := [.str Str.empty w.s.toks, .str Str.empty w.s.toks, .str (zam [107]) t]) (.cons (.str [] _ (by decide)) (.cons (.str [] _ (by decide)) (.cons (.str _ _ (by decide)) .nil))) (by decide))
     | false =>
       rw [hm] at h
       change (match Nat.beq m zgu && decide (x = zey) with | true => _ | false => _) = _ at h
       cases hm : Nat.beq m zgu && decide (x = zey) with
       | false => rw [hm] at h; exact nn h
       | true =>
         rw [hm] at h
         refine zbf hm λ h1 h2 => zbs h λ k hk h => ?_
         subst h
         cases ebx h1
         cases of_decide_eq_true h2
         refine zag hk λ k' hk e => zgr hk λ hc hk => ?_
         subst hk
         cases e
         exact SC.index (zvp c (List.contains_iff_mem.mp hc)) (hQ.tk R _ (.int _ _))
 | [], h => exact nn h
 | _ :: _ :: _, h => exact nn h
theorem zwb (g : Good C) {m : Nat} {o : AV} {uo : Value} (h : bim z m o vs st = some p) (hp : p.1 = true) (hu : A.units + 100 < cLine) (R : Rep C w.ρ st w.s.heap) (ro : VR w.ρ o uo) (r : VRs w.ρ vs us) (hQ : QV C z w p.2.2 p.2.1 Q) : MG C A Q E w (zkv st o) m (uo :: us) := by
 cases r with
 | nil => exact nn h
 | cons a r =>
   cases r with
   | cons => exact nn h
   | nil =>
     cases o with
     | ref i =>
       obtain ⟨b, e, rfl⟩ := ro
       refine zag h λ ob ho h => ?_
       rw [show zkv st (.ref i) = ob.kind by show (match st.get i with | some o => o.kind | none => 0) = _; rw [ho]]
       exact zts g h hp ho hu R e a hQ
     | str x =>
       obtain ⟨hl, t, rfl⟩ := ro
       exact zag h λ y hy h => zgk (G := λ u => MG C A Q E w 0 m [.str (zam x) t, u]) hy a λ t2 _ => ztm h R hl hQ
     | _ => exact nn h
end
section
variable {C : Cx} {P : Pl} {n d z : Nat} {Γ : zaw} {σ : zaf} {st st' : Store} {w w' : Wd} {K : KV} {Q : Value → Shared → Prop} {E : Value → Shared → Prop} {v : AV} {u : Value} {x y : Expr} {p q : Pos}
theorem zwj (h : zdz st st' v = true) : zkv st' v = zkv st v := by
 cases v with
 | ref i =>
   revert h
   unfold zdz zkv
   dsimp only
   cases st.get i with
   | none => exact λ h => nb h
   | some o => cases st'.get i with
     | none => exact λ h => nb h
     | some o' => exact λ h => zbf h λ h _ => (ebx h).symm
 | _ => rfl
theorem zJm (g : Good C) (S : SEv C n) (Ss : SEvs C n) (Sc : SCall C n) {m : Nat} {xs : List Expr} {ap : Pos} (hs : zi6 x = true) (hp : (ap.endLine == p.line) = true) (hl : Nat.blt xs.length 30 = true) (ns : zex xs = true) (h : evF C.T (mk C.T n) z Γ σ (.mth (er d P.fx.ek x) m (xs.map (er d P.fx.ek))) st K) (H : Here C P Γ σ n st w) (hQ : QE C z w K Q) :
   wpAny (model C.prog C.w) P.A (eval (.Call (.Attribute x (nm m) ap) xs [] p) P.env) Q E w.s := by
 refine zAg hs hp (blx hl) (zkl p ns) (S.go h H λ v1 st1 w1 u1 h a1 r1 pl => Opt.inv h λ mt hm h => zmz g hm a1.rep r1 (λ a e => ?_) λ e => ?_)
 · subst e
   exact zfa Ss ns h (H.step a1) λ vs st2 w2 us h a2 r2 => ⟨zG8 g h a2.rep (VR.old a), Sc.go h H.room a2.rep (VR.old a) (.cons (r1.up a2) r2) (hQ.after (a1.trans a2))⟩
 · subst e
   exact zfa Ss ns h (H.step a1) λ vs st2 w2 us h a2 r2 => ⟨zvw rfl, Chk.inv h λ hk h => Opt.inv h λ q hq h => Chk.inv h λ h1 h => zwj hk ▸ zwb g hq h1 H.room.u100 a2.rep (r1.up a2) r2 ((hQ.after (a1.trans a2)).of h)⟩
end
section
variable {prog : Program} {w : World} {A : Around} {E : Value → Shared → Prop} {R : Result → Shared → Prop} {s : Shared}
theorem zpi {elt target iter : Expr} {ifs : List Expr} {scope : Scope} {pos : Pos} {it acc : Value} {env : Env} (I : Nat → Shared → Prop)
   (turn : ∀ n s, I n s → ∀ E' : Value → Shared → Prop, wpAny (model prog w) A (pyNext it) (λ r s₁ => match r with
     | none => R (.ok .next) s₁
     | some v => wpAny (model prog w) A (letOwnedTupleGo target it v) (λ _ s₁' => wpAny (model prog w) A (assign target env v) (λ _ s₂ =>
         wpAny (model prog w) A (forIn ifs true λ c r => if r = true then do let ok ← isTrue c env (eval c env); pure (ForInStep.yield ok) else pure (ForInStep.yield r)) (λ ok s₃ =>
           if ok = true then wpAny (model prog w) A (eval elt env) (λ x s₄ =>
             wpAny (model prog w) A (call (.builtin "list.append") [acc, x]) (λ _ s₅ => ∃ m, m < n ∧ I m s₅) E' s₄) E' s₃
           else ∃ m, m < n ∧ I m s₃) E' s₂) E' s₁') E' s₁) E' s)
   (n : Nat) (h : I n s) : codeAny (model prog w) A (.compLoop (.ListComp elt [⟨target, iter, ifs, 0⟩] scope pos) 0 it acc env) R s := by
 refine codeAny_loop rfl I (λ n s hI => ?_) n h
 show wpAny _ A ((compTurn (.ListComp elt [⟨target, iter, ifs, 0⟩] scope pos) 0 it acc env).onRaise (λ x => do noteFrame x env; theTreesLotGoes x)) _ _ s
 refine wpAny_noted ?_
 rw [compTurn_list]
 refine wpAny_bind (wpAny_standAt (wpAny_bind (wpAny_mono (turn n s hI _) (λ r s₁ h₁ => ?_) λ _ _ h' => h')))
 cases r with
 | none => exact wpAny_pure h₁
 | some v =>
   refine wpAny_bind (wpAny_mono h₁ (λ _ s₁' h₁' => ?_) λ _ _ h' => h')
   refine wpAny_bind (wpAny_mono h₁' (λ _ s₂ h₂ => wpAny_bind (wpAny_mono h₂ (λ ok s₃ h₃ => ?_) λ _ _ h' => h')) λ _ _ h' => h')
   cases ok with
   | false => exact wpAny_pure ⟨rfl, h₃⟩
   | true =>
     exact wpAny_bind (wpAny_bind (wpAny_mono h₃ (λ x s₄ h₄ => wpAny_bind (wpAny_mono h₄ (λ _ s₅ h₅ => wpAny_pure (wpAny_pure ⟨rfl, h₅⟩)) λ _ _ h' => h')) λ _ _ h' => h'))
theorem zkf {env : Env} : ∀ (ifs : List Expr), (forIn ifs false λ c r => if r = true then do let ok ← isTrue c env (eval c env); pure (ForInStep.yield ok) else pure (ForInStep.yield r)) = (pure false : Sem Bool)
 | [] => rfl
 | c :: r => by
   rw [List.forIn_cons]
   exact zkf r
end
section
variable {C : Cx} {P : Pl} {n d z : Nat} {Γ : zaw} {σ σ' : zaf} {st st' : Store} {w w' w0 : Wd} {K : KV} {Q : Value → Shared → Prop} {E : Value → Shared → Prop} {v : AV} {u : Value} {x y : Expr} {p q : Pos} {src : Src} {it D L : Addr} {A : Around} {X : Addr → Prop}
theorem zpv : ∀ (n : Nat), (∀ k, k < n → STr C k) → ∀ {xs : List Expr} {st : Store} {K : Bool → Store → Prop} {w : Wd} {Q : Bool → Shared → Prop}, (mk C.T n).tr z Γ σ (.andd (xs.map (er d P.fx.ek))) st K → Here C P Γ σ n st w → QB C z w K Q →
   wpAny (model C.prog C.w) P.A (forIn xs true λ c r => if r = true then do let ok ← isTrue c P.env (eval c P.env); pure (ForInStep.yield ok) else pure (ForInStep.yield r)) Q E w.s := by
 intro n
 induction n with
 | zero => exact λ _ _ _ _ _ _ h _ _ => False.elim h
 | succ n ih =>
 intro T xs st K w Q h H hQ
 cases xs with
 | nil => exact wpAny_tests_nil (hQ _ _ w h (Aft.refl _ H.rep))
 | cons x xs =>
   rw [List.forIn_cons]
   refine wpAny_bind (wpAny_bind ((T n (Nat.lt_succ_self _)).go h H.dn λ b _ w1 h a1 => wpAny_pure ?_))
   cases b with
   | true => exact ih (λ k hk => T k (Nat.lt_succ_of_lt hk)) h (H.dn.step a1) λ b st w2 k a2 => hQ b st w2 k (a1.trans a2)
   | false => dsimp only; rw [zkf]; exact wpAny_pure (hQ _ _ w1 h a1)
theorem zv1 (I : IterAt C w.ρ w.s.heap it src) (h : Q (.ref it) w.s) : wpAny (model C.prog C.w) A (pyIter (.ref it)) Q E w.s := by
 cases src with
 | lst i k => obtain ⟨l, e1, e2⟩ := I; exact wpAny_pyIter_listiter e2 h
 | tps i k => obtain ⟨l, e1, e2⟩ := I; exact wpAny_pyIter_tupleiter e2 h
 | rng a sp m => exact wpAny_pyIter_rangeiter I h
 | chs l => obtain ⟨x, t, i, e1, _⟩ := I; exact wpAny_pyIter_striter_ascii e1 h
 | keys i k m => obtain ⟨d, kvs, ep, I⟩ := I; exact wpAny_pyIter_keyiter I.it h
structure AccI (w : Wd) (D : Addr) (acc : List AV) (us : List Value) (m : Nat) : Prop where
 at_ : w.s.heap.get? D = some { cls := .type "list", data := .seq us.toArray m }
 items : VRs w.ρ acc us
 out : Out w.ρ D
theorem AccI.aft {acc : List AV} {us : List Value} {m : Nat} (I : AccI w D acc us m) (N : Apart C L D w0) (hX : ∀ b, X b → b = L) (a : Aft C z X w st w') : AccI w' D acc us m :=
 ⟨a.step.at I.at_ I.out N.tab λ q => N.ne (hX _ q), I.items.mono a.step.pre, a.step.out I.at_ I.out⟩
structure LcI (C : Cx) (P : Pl) (d z : Nat) (Γ : zaw) (y : Expr) (t : Bool × List (Bool × Nat)) (xs : List Expr) (K : KV) (w0 : Wd) (it D : Addr) (n k : Nat) (σ : zaf) (src : Src) (acc : List AV) (us : List Value) (m : Nat) (st : Store) (w : Wd) : Prop where
 le : k ≤ n
 run : (mk C.T k).cloop z Γ σ (er d P.fx.ek y) t.1 (t.2.map (·.2)) (xs.map (er d P.fx.ek)) src acc st K
 here : Here C P Γ σ k st w
 aft : Aft C z (AtX P.env.locals) w0 st w
 iter : IterAt C w.ρ w.s.heap it src
 side : Beside z w it src
 acc : AccI w D acc us m
structure LcEnd (C : Cx) (z : Nat) (L : Addr) (K : KV) (w0 : Wd) (D : Addr) (acc : List AV) (us : List Value) (m : Nat) (st : Store) (w : Wd) : Prop where
 ok : K (.ref st.n) (st.add (.list acc))
 len : acc.length ≤ 1001
 aft : Aft C z (AtX L) w0 st w
 loc : ∃ σ, Loc C σ w.ρ L w.s.heap
 acc : AccI w D acc us m
theorem zEy (S : ∀ k, k < n → SEv C k) (T : ∀ k, k < n → STr C k) {t : Bool × List (Bool × Nat)} {xe xt xi : Expr} {xs : List Expr} {scope : Scope} {R : Result → Shared → Prop} {acc : List AV} {us : List Value} {m : Nat} (ht : zus P.fx.sc P.fx.dom xt = some t) (hl : t.2 = (t.2.map (·.2)).map λ x => (false, x))
   (N : Apart C P.env.locals it w0) (ND : Apart C P.env.locals D w0) (hDi : D ≠ it) (I : LcI C P d z Γ xe t xs K w0 it D n n σ src acc us m st w) (hR : ∀ acc us m st w, LcEnd C z P.env.locals K w0 D acc us m st w → R (.ok .next) w.s) :
   codeAny (model C.prog C.w) P.A (.compLoop (.ListComp xe [⟨xt, xi, xs, 0⟩] scope p) 0 (.ref it) (.ref D) P.env) R w.s := by
 refine zpi (λ k s1 => ∃ σ1 src1 acc1 us1 m1 st1 ρ1, LcI C P d z Γ xe t xs K w0 it D n k σ1 src1 acc1 us1 m1 st1 ⟨ρ1, s1⟩) ?_ n ⟨σ, src, acc, us, m, st, w.ρ, I⟩
 clear I
 rintro k s1 ⟨σ1, src1, acc1, us1, m1, st1, ρ1, I⟩ E'
 cases k with
 | zero => exact False.elim I.run
 | succ k =>
   obtain ⟨oi, ho, nc⟩ := zm9 I.iter
   refine Opt.inv I.run λ o hn h => Chk.inv h λ hlen h => zpe (z := z) (w := ⟨ρ1, s1⟩) hn I.here.rep I.here.room.handled I.iter I.side.out (λ v src2 u h' tk e ek r2 i2 hs => ?_) λ e h' he => ?_
   · subst e
     have he := hs.extBut
     have a2 := zg6 (tk := tk) N I.side.out ho nc I.aft he
     have H2 : Here C P Γ σ1 k st1 ⟨ρ1, { s1 with heap := h', toks := tk }⟩ := ⟨I.here.dn.room, I.here.fr, a2.rep, zg7 (w := ⟨ρ1, s1⟩) N I.here.loc he⟩
     have B2 : Beside z ⟨ρ1, { s1 with heap := h', toks := tk }⟩ it src2 := ⟨I.side.out, ek I.side.key⟩
     have c2 : AccI ⟨ρ1, { s1 with heap := h', toks := tk }⟩ D acc1 us1 m1 := ⟨he D _ hDi I.acc.at_, I.acc.items, I.acc.out⟩
     dsimp only
     refine Opt.inv h λ q hset h => ?_
     rw [← hl] at hset
     refine zKf (w := ⟨ρ1, { s1 with heap := h', toks := tk }⟩) ht (by rw [hset]; nofun) i2 r2 (zjy ht hset r2 H2 λ w3 a3 l3 => ?_)
     obtain ⟨i3, B3⟩ := zh1 B2 N a2.rep (λ b q => q) H2.loc.out i2 a3
     have c3 := c2.aft ND (λ b q => q) a3
     have H3 := H2.stepL a3 l3
     refine zpv k (λ j hj => T j (Nat.lt_trans hj I.le)) h H3 λ b st4 w4 h a4 => ?_
     obtain ⟨i4, B4⟩ := zh1 B3 N a3.rep (λ b q => False.elim q) l3.out i3 a4
     have c4 := c3.aft ND (λ b q => False.elim q) a4
     have H4 := H3.step a4
     have X4 := (a2.trans a3).trans a4.toL
     cases b with
     | false => exact ⟨k, Nat.lt_succ_self _, _, _, _, _, _, _, w4.ρ, ⟨Nat.le_of_succ_le I.le, h, H4, X4, i4, B4, c4⟩⟩
     | true =>
       refine (S k I.le).go h H4 λ v5 st5 w5 u5 h a5 r5 => ?_
       obtain ⟨i5, B5⟩ := zh1 B4 N a4.rep (λ b q => False.elim q) H4.loc.out i4 a5
       have c5 := c4.aft ND (λ b q => False.elim q) a5
       have H5 := H4.step a5
       refine append_at c5.at_ (λ h6 hs6 hD6 => ?_) (c5.items.size ▸ fits hlen)
       have he6 := hs6.extBut
       have a6 := zg6 (tk := w5.s.toks) ND c5.out c5.at_ (zhs rfl) (X4.trans a5.toL) he6
       refine ⟨k, Nat.lt_succ_self _, _, _, acc1 ++ [v5], us1 ++ [u5], m1 + 1, st5, w5.ρ, ⟨Nat.le_of_succ_le I.le, h, ⟨H5.room, H5.fr, a6.rep, zg7 (w := w5) ND H5.loc he6⟩, a6, i5.keep (List.prefix_refl _) (λ o e => he6 it o hDi.symm e) λ i k m dd o _ hd e => he6 dd o (by rintro rfl; exact c5.out i hd) e, ⟨B5.out, B5.key⟩, ⟨?_, c5.items.append (.cons r5 .nil), c5.out⟩⟩⟩
       rw [← List.push_toArray]; exact hD6
   · subst e
     exact hR acc1 us1 m1 st1 ⟨ρ1, _⟩ ⟨h, zhb hlen, zg6 (w := ⟨ρ1, s1⟩) (tk := s1.toks) N I.side.out ho nc I.aft he, ⟨_, zg7 (w := ⟨ρ1, s1⟩) N I.here.loc he⟩, ⟨he D _ hDi I.acc.at_, I.acc.items, I.acc.out⟩⟩
theorem zJk (k : NameKind) : ∀ o : Option NameKind, isK k o = (o == some k)
 | none => rfl
 | some j => by cases j <;> cases k <;> rfl
theorem zzs {scope : Scope} {env : Env} : relabel scope env = znr scope env.scope := by
 unfold relabel znr
 refine congrArg (λ l => { scope with names := l }) (congrArg (λ f => List.map f scope.names) (funext λ p => ?_))
 obtain ⟨a, k⟩ := p
 cases k with
 | free =>
   show (if (true && env.scope.kind == .function && env.kindOf a == some .cell) = true then _ else _) = bif _ then _ else _
   rw [zJk, zra, Bool.true_and, show (env.scope.kind == ScopeKind.function) = decide (env.scope.kind = ScopeKind.function) from rfl, cond_eq_ite]
   rfl
 | _ => rfl
theorem zD6 (src : Src) (z : Nat) (st : Store) : z ≤ zrf src z st := by
 unfold zrf
 cases zfg src with
 | true => exact (zz7 _ _).1
 | false => exact Nat.le_refl _
theorem zDz {h : Heap} {ρ : List Addr} (I : IterAt C ρ h it src) (l : ρ.length = st.n) : zza (zrf src z st) src := by
 cases src with
 | keys i k m => obtain ⟨d, kvs, ep, I⟩ := I; exact llx (l ▸ I.ix.lt) (zz7 _ _).2
 | _ => trivial
structure Laid (h : Heap) (ob : Obj) (D L : Addr) (h₁ : Heap) : Prop where
 old : ∀ b o, (h.push ob).get? b = some o → h₁.get? b = some o
 acc : h₁.get? D = some { cls := .type "list", data := .seq ([] : List Value).toArray }
 itD : h.objs.size < D
 DL : D < L
theorem zDc {h h₁ H2 : Heap} {ob of : Obj} (e : H2 = (h.push ob).push { cls := .type "list", dict := none, data := .seq ([] : List Value).toArray }) (hs : Heap.SameBut H2.objs.size (H2.push of) h₁) : Laid h ob (h.push ob).objs.size H2.objs.size h₁ := by
 have s1 : (h.push ob).objs.size = h.objs.size + 1 := Heap.size_push ..
 have s2 : H2.objs.size = (h.push ob).objs.size + 1 := by rw [e]; exact Heap.size_push ..
 have k : ∀ b o, H2.get? b = some o → h₁.get? b = some o := λ b o e => hs.extBut b o (Nat.ne_of_lt (Heap.lt_size e)) (Heap.get?_push_of_some _ e)
 exact ⟨λ b o e' => k b o (e ▸ Heap.get?_push_of_some _ e'), k _ _ (e ▸ Heap.get?_push_size _ rfl), s1 ▸ Nat.lt_succ_self _, s2 ▸ Nat.lt_succ_self _⟩
structure LcOut (C : Cx) (w w' : Wd) (L : Addr) : Prop where
 loc : ∃ σ, Loc C σ w'.ρ L w'.s.heap
 none : w.s.heap.get? L = none
structure LcScope (fx : Fx) (scope : Scope) : Prop where
 kind : scope.kind = .function
 nocell : ∀ y ∈ scope.names, y.2 ≠ .cell
 loc : ∀ y ∈ scope.names, y.2 = .local → scope.names.lookup y.1 = some .local
 free : ∀ y ∈ scope.names, y.2 = .free → ∃ x ∈ fx.dom, nm x = y.1
theorem ztl {fx : Fx} {scope : Scope} (hk : decide (scope.kind = .function) = true) (h : zxz scope fx.dom = true) : LcScope fx scope := by
 have q : ∀ y ∈ scope.names, _ := List.all_eq_true.mp h
 refine ⟨of_decide_eq_true hk, λ y hy e => ?_, λ y hy e => ?_, λ y hy e => ?_⟩
 · have := q y hy; rw [e] at this; exact nb this
 · have := q y hy; rw [e] at this; exact zkc this
 · have := q y hy; rw [e] at this
   obtain ⟨x, hx, hs⟩ := List.any_eq_true.mp this
   exact ⟨x, hx, zpp hs⟩
theorem zDx {scope : Scope} {x : Nat} (h : znw scope x = true) : (nm x, NameKind.free) ∈ scope.names := by
 obtain ⟨y, hy, e⟩ := List.any_eq_true.mp h
 exact zbf e λ h1 h2 => by
   obtain ⟨a, k⟩ := y
   rw [show nm x = a from zpp h1, ← show k = NameKind.free from of_decide_eq_true h2]
   exact hy
noncomputable def zOd (P : Pl) (scope : Scope) (cl : List (Str × Addr)) (L : Addr) : Pl := ⟨⟨znr scope P.fx.sc, P.fx.code, P.fx.qual, P.fx.dom.filter (znw scope), λ _ => none, λ _ => none⟩, P.A, compEnvC scope cl L P.env⟩
theorem zlz (g : Good C) (S : ∀ k, k ≤ n → SEv C k) (T : ∀ k, k ≤ n → STr C k) {t : Bool × List (Bool × Nat)} {xe xt xi : Expr} {xs : List Expr} {scope : Scope} {pos : Pos} {use : Option (Value → Sem Unit)}
   (h : evF C.T (mk C.T n) z Γ σ (.lc (er d (P.fx.ek.inner scope) xe) t.1 (t.2.map (·.2)) (er d P.fx.ek xi) (xs.map (er d (P.fx.ek.inner scope)))) st K) (hs : (!zh5 xi) = true) (F : LcScope P.fx scope) (ht : zus (P.fx.ek.inner scope).sc (P.fx.ek.inner scope).dom xt = some t) (hl : t.2.all (λ y => !y.1) = true)
   (H : Here C P Γ σ n st w) (hU : ∀ w' st' v D Lc, K v st' → Aft C z NoX w st' w' → VR w'.ρ v (.ref D) → LcOut C w w' Lc → compPost (model C.prog C.w) P.A E use Q (.ref D) Lc (.ok .next) w'.s) :
   wpAny (model C.prog C.w) P.A (comprehension (.ListComp xe [⟨xt, xi, xs, 0⟩] scope p) scope P.env pos (newList []) false (eval xi P.env) use) Q E w.s := by
 obtain ⟨cl, D⟩ := zu4 H.fr F.free
 refine wpAny_comprehension_free rfl (zHj hs) D.eq F.kind F.loc ((S n (Nat.le_refl _)).go h H λ v1 st1 w1 u1 h a1 r1 => Opt.inv h λ src hsrc h => zl2 g hsrc a1.rep r1 λ ob M => wpAny_newObj_type (wpAny_newFunctionEnv F.nocell (by intro y hy; cases hy) (λ h₁ hns hsb => ?_) F.kind))
 dsimp only at hns hsb ⊢
 generalize hH : (w1.s.heap.push ob).push { cls := .type "list", dict := none, data := .seq ([] : List Value).toArray } = H2 at hns hsb ⊢
 have Y := zDc hH.symm hsb
 have sz : w1.s.heap.objs.size ≤ w1.s.heap.objs.size := Nat.le_refl _
 have zD := Nat.le_of_lt Y.itD
 have zL := ltx zD (Nat.le_of_lt Y.DL)
 have old : ∀ b o, w1.s.heap.get? b = some o → h₁.get? b = some o := λ b o e => Y.old b o (Heap.get?_push_of_some _ e)
 have N : ∀ {a : Addr}, w1.s.heap.objs.size ≤ a → New C w1.ρ a := λ l => a1.rep.beyond l
 have n0 : ∀ {a : Addr}, w1.s.heap.objs.size ≤ a → w.s.heap.get? a = none := λ {a} l => by
   cases e : w.s.heap.get? a with
   | none => rfl
   | some o => exact (a1.step.alive _ _ e).elim λ o' e' => by rw [zcg l] at e'; cases e'
 have A1 : Aft C (zrf src z st1) (AtX H2.objs.size) w1 st1 ⟨w1.ρ, { w1.s with heap := h₁, toks := w1.s.toks + ([] : List (Str × Value)).length }⟩ := Aft.side _ a1.rep old
 have I1 : IterAt C w1.ρ h₁ w1.s.heap.objs.size src := M.at_.keep (List.prefix_refl _) (λ o e => Y.old _ o e) λ i k m dd o _ _ e => Y.old dd o e
 have fr := (H.step a1).fr
 have loop : codeAny (model C.prog C.w) P.A (.compLoop (.ListComp xe [⟨xt, xi, xs, 0⟩] scope p) 0 (.ref w1.s.heap.objs.size) (.ref (w1.s.heap.push ob).objs.size) (compEnvC scope cl H2.objs.size P.env)) (compPost (model C.prog C.w) P.A E use Q (.ref (w1.s.heap.push ob).objs.size) H2.objs.size) { w1.s with heap := h₁, toks := w1.s.toks + ([] : List (Str × Value)).length } := by
   refine zEy (P := zOd P scope cl H2.objs.size) (w := ⟨w1.ρ, { w1.s with heap := h₁, toks := w1.s.toks + ([] : List (Str × Value)).length }⟩) (w0 := w1) (λ k hk => S k (Nat.le_of_lt hk)) (λ k hk => T k (Nat.le_of_lt hk)) ht (zqn hl) ⟨(N sz).tab, (N sz).old, Nat.ne_of_lt (Nat.lt_trans Y.itD Y.DL), zcg sz⟩ ⟨(N zD).tab, (N zD).old, Nat.ne_of_lt Y.DL, zcg zD⟩ (Nat.ne_of_gt Y.itD)
     ⟨Nat.le_refl _, h, ⟨H.room, ⟨?_, ⟨F.kind, λ x k h => nn h, λ x k h => nn h⟩, fr.globals, fr.builtins, λ x i hx hi => ?_, λ x hx => fr.dom x (List.mem_filter.mp hx).1, fr.code, fr.qual⟩, A1.rep, ⟨⟨_, hns, λ x v e => nn e⟩, (N zL).out, (N zL).tab, (N zL).old⟩⟩, A1, I1, ⟨(N sz).out, zDz I1 a1.rep.len⟩, ⟨Y.acc, .nil, (N zD).out⟩⟩ λ acc us m st2 w2 e => ?_
   · show relabel scope P.env = znr scope P.fx.sc
     rw [zzs, fr.scope]
   · have q := List.mem_filter.mp hx
     exact (D.at_ x i q.1 (zDx q.2) hi).elim λ a r => ⟨a, r.1, zfd a1.step.pre r.2⟩
   · have c := e.acc
     have e3 : Aft C z NoX w (st2.add (.list acc)) ⟨w2.ρ ++ [(w1.s.heap.push ob).objs.size], w2.s⟩ :=
       a1.trans ⟨((e.aft.step.thaw (zD6 src z st1)).hide (zcg zL)).join (zcg zD), e.aft.rep.adopt ⟨c.out, (N zD).tab, (N zD).old⟩ (λ _ _ _ e => e) (λ _ _ e => e) c.at_ ⟨e.len, ⟨us, m, c.items, rfl, rfl⟩, rfl⟩⟩
     refine hU ⟨w2.ρ ++ [(w1.s.heap.push ob).objs.size], w2.s⟩ _ _ _ _ e.ok e3 (zg1 e.aft.rep _) ⟨e.loc.elim λ σ l => ⟨[], ⟨l.ns.elim λ m q => ⟨m, q.1, λ x v e => nn e⟩, λ i q => ?_, l.tab, l.new⟩⟩, n0 zL⟩
     exact (zhm q).elim (l.out i) λ q => absurd q.2 (Nat.ne_of_gt Y.DL)
 exact codeAny_compStart_list loop (zv1 (w := ⟨w1.ρ, { w1.s with heap := h₁, toks := w1.s.toks + ([] : List (Str × Value)).length }⟩) I1 loop)
end
section
variable {C : Cx} {P : Pl} {n d z : Nat} {Γ : zaw} {σ σ' : zaf} {st st' : Store} {w w' w0 : Wd} {K : KV} {Q : Value → Shared → Prop} {E : Value → Shared → Prop} {v : AV} {u : Value} {x y : Expr} {p q : Pos} {L : Addr} {A : Around} {X : Addr → Prop}
theorem LcOut.apart {L' : Addr} (O : LcOut C w w' L) (ne : L ≠ L') : Apart C L' L w := O.loc.elim λ σ l => ⟨l.tab, l.new, ne, O.none⟩
theorem LcOut.go {h' : Heap} (O : LcOut C w w' L) (a : Aft C z X w st w') (hs : Heap.SameBut L w'.s.heap h') : Aft C z X w st ⟨w'.ρ, { w'.s with heap := h' }⟩ := by
 obtain ⟨σ, l⟩ := O.loc
 obtain ⟨m, ⟨o, es, ep, ho, hd, _⟩, _⟩ := l.ns
 exact zg6 (tk := w'.s.toks) (O.apart (Nat.ne_of_lt (Nat.lt_succ_self L))) l.out ho (λ vs e => by rw [hd] at e; cases e) a hs.extBut
structure LcW (P : Pl) (T : Tbl) (r : R) (d z : Nat) (Γ : zaw) (σ : zaf) (st : Store) (K : KV) (xe : Expr) (gs : List Comprehension) (scope : Scope) (xt xi : Expr) (xs : List Expr) (t : Bool × List (Bool × Nat)) : Prop where
 gens : gs = [⟨xt, xi, xs, 0⟩]
 set : (!zh5 xi) = true
 scp : LcScope P.fx scope
 tgt : zus (P.fx.ek.inner scope).sc (P.fx.ek.inner scope).dom xt = some t
 locs : t.2.all (λ y => !y.1) = true
 run : evF T r z Γ σ (.lc (er d (P.fx.ek.inner scope) xe) t.1 (t.2.map (·.2)) (er d P.fx.ek xi) (xs.map (er d (P.fx.ek.inner scope)))) st K
theorem zE4 {gs : List Comprehension} {q : Expr × Expr × List Expr} (h : zNt gs = some q) : gs = [⟨q.1, q.2.1, q.2.2, 0⟩] := by
 match gs, h with
 | [⟨t, i, c, a⟩], h => exact zgr (b := decide (a = 0)) (x := (t, i, c)) h λ h1 e => by subst e; rw [of_decide_eq_true h1]
 | [], h => exact nn h
 | ⟨_, _, _, _⟩ :: _ :: _, h => exact nn h
theorem zBd {T : Tbl} {r : R} {xe : Expr} {gs : List Comprehension} {scope : Scope} {G : Prop} (h : evF T r z Γ σ (er (d + 1) P.fx.ek (.ListComp xe gs scope p)) st K) (k : ∀ xt xi xs t, LcW P T r d z Γ σ st K xe gs scope xt xi xs t → G) : G :=
 zcd h λ q hq h => zcd h λ t ht h => zbz h λ hc h => zbf hc λ hc h4 => zbf hc λ hc h3 => zbf hc λ h1 h2 => k q.1 q.2.1 q.2.2 t ⟨zE4 hq, h1, ztl h2 h3, ht, h4, h⟩
theorem zLw (g : Good C) (S : ∀ k, k ≤ n → SEv C k) (T : ∀ k, k ≤ n → STr C k) {xe : Expr} {gs : List Comprehension} {scope : Scope} (h : evF C.T (mk C.T n) z Γ σ (er (d + 1) P.fx.ek (.ListComp xe gs scope p)) st K) (H : Here C P Γ σ n st w) (hQ : QE C z w K Q) : wpAny (model C.prog C.w) P.A (eval (.ListComp xe gs scope p) P.env) Q E w.s :=
 zBd h λ xt xi xs t W => by
   cases W.gens
   rw [eval_ListComp]
   exact zlz g S T W.run W.set W.scp W.tgt W.locs H (use := none) λ w' st' v D Lc hK a r O => O.loc.elim λ σ l => l.ns.elim λ m hn => ⟨m, hn.1, λ h' hs => hQ _ _ _ _ hK (O.go a hs) r⟩
theorem zv4 {T : Tbl} {e : PE} : (mk T (n + 1)).ev z Γ σ e st K = evF T (mk T n) z Γ σ e st K := rfl
theorem zvl (x : Expr) : (!zjl x) = false → (∃ xe gs scope p, x = .ListComp xe gs scope p) ∨ ∀ d E, er (d + 1) E x = .bad := by
 cases x <;> first | exact λ h => nb h.symm | exact λ _ => .inl ⟨_, _, _, _, rfl⟩ | exact λ _ => .inr λ _ _ => rfl
theorem zDf (g : Good C) (S : ∀ k, k ≤ n → SEv C k) (T : ∀ k, k ≤ n → STr C k) {y : Nat} {K : KX} {Q : Flow → Shared → Prop} (h : zd9 C.T (mk C.T n) z Γ σ (.asg y (er d P.fx.ek x)) st K) (ek : P.env.kindOf (nm y) = some .local) (H : Here C P Γ σ n st w) (hQ : QX C z w P.env.locals K Q) :
   wpAny (model C.prog C.w) P.A (exec (.Assign [.Name (nm y) q] x p) P.env) Q E w.s := by
 have plain : swapsWith x (some (.Name (nm y) q)) p.line P.env = pure false → wpAny (model C.prog C.w) P.A (exec (.Assign [.Name (nm y) q] x p) P.env) Q E w.s := λ hs => zHz (S n (Nat.le_refl _)) h ek hs H hQ
 cases hc : !zjl x with
 | true => exact plain (zkt hc)
 | false =>
   change (mk C.T n).ev z Γ σ (er d P.fx.ek x) st _ at h
   cases d with
   | zero => exact zwl h
   | succ d =>
     cases n with
     | zero => exact False.elim h
     | succ n =>
       rw [zv4] at h
       rcases zvl x hc with ⟨xe, gs, scope, p', e⟩ | e
       · have hb : ∃ b, swapsWith (.ListComp xe gs scope p') (some (.Name (nm y) q)) p.line P.env = pure b := ⟨_, rfl⟩
         obtain ⟨b, hb⟩ := hb
         cases b with
         | false => exact plain (e ▸ hb)
         | true =>
           clear plain hc
           subst e
           refine zBd h λ xt xi xs t W => ?_
           cases W.gens
           rw [exec_Assign_Name_used _ _ _ _ hb]
           refine wpAny_bind (wpAny_standAt (wpAny_bind ?_))
           show wpAny _ P.A (do let _ ← comprehension (.ListComp xe [⟨xt, xi, xs, 0⟩] scope p') scope P.env _ (newList []) false (eval xi P.env) (some (assign (.Name (nm y) q) P.env))) _ _ w.s
           refine wpAny_bind (wpAny_mono (zlz (Q := λ _ s' => Q .next s') g (λ k hk => S k (Nat.le_succ_of_le hk)) (λ k hk => T k (Nat.le_succ_of_le hk)) W.run W.set W.scp W.tgt W.locs H.dn (use := some (assign (.Name (nm y) q) P.env)) λ w1 st1 v D Lc hK a r O => ?_) (λ _ s' hq => wpAny_pure (wpAny_pure hq)) λ _ _ e => e)
           refine wpAny_assign_Name (zdq (z := z) (H.step a) ek r λ w2 a2 l2 => ?_)
           have ne : Lc ≠ P.env.locals := by
             rintro rfl
             obtain ⟨⟨m, ⟨o, _, _, e, _⟩, _⟩, _⟩ := H.loc
             rw [O.none] at e; cases e
           have O2 : LcOut C w w2 Lc := ⟨O.loc.elim λ σ l => ⟨σ, l.step a2.step ne⟩, O.none⟩
           exact O2.loc.elim λ σ l => l.ns.elim λ m hn => ⟨m, hn.1, λ h' hs => hQ .next _ _ _ .next hK (O2.go (a.toL.trans a2) hs) (zg7 (w := w2) (O2.apart ne) l2 hs.extBut) rfl⟩
       · rw [e] at h; exact False.elim h
end
structure AllS (C : Cx) (n : Nat) : Prop where
 ev : SEv C n
 evs : SEvs C n
 tr : STr C n
 pr : SPr C n
 call : SCall C n
 fn : SFn C n
 exec : SExec C n
 execs : SExecs C n
section
variable {C : Cx} {P : Pl} {n d z : Nat} {Γ : zaw} {σ : zaf} {st : Store} {w : Wd} {K : KV} {Q : Value → Shared → Prop} {E : Value → Shared → Prop} {x y : Expr} {p q : Pos}
theorem zDp (g : Good C) (H : AllS C n) {as : List Expr} {ks : List Keyword} (h : evF C.T (mk C.T n) z Γ σ (er (d + 1) P.fx.ek (.Call x as ks p)) st K) (Hr : Here C P Γ σ n st w) (hQ : QE C z w K Q) : wpAny (model C.prog C.w) P.A (eval (.Call x as ks p) P.env) Q E w.s := by
 cases ks with
 | cons => exact False.elim h
 | nil =>
   have e := zma x
   change evF C.T (mk C.T n) z Γ σ (match vw x with | .att y a ap => _ | _ => _) st K at h
   generalize vw x = v at h e
   cases v with
   | att y a ap =>
     cases e
     exact zcd h λ m hm h => zbz h λ hc h => zbf hc λ hc h4 => zbf hc λ hc h3 => zbf hc λ h1 h2 => zcu hm ▸ zJm g H.ev H.evs H.call h1 h2 h3 h4 h Hr hQ
   | cst => obtain ⟨k, q, rfl⟩ := e; exact zbz h λ hs h => ziv g H.ev H.evs H.call rfl hs h Hr hQ
   | nam => obtain ⟨q, rfl⟩ := e; exact zbz h λ hs h => ziv g H.ev H.evs H.call rfl hs h Hr hQ
   | tup => obtain ⟨k, q, rfl⟩ := e; exact zbz h λ hs h => ziv g H.ev H.evs H.call rfl hs h Hr hQ
   | lst => obtain ⟨q, rfl⟩ := e; exact zbz h λ hs h => ziv g H.ev H.evs H.call rfl hs h Hr hQ
   | slc => obtain ⟨q, rfl⟩ := e; exact zbz h λ hs h => ziv g H.ev H.evs H.call rfl hs h Hr hQ
   | oth => exact zbz h λ hs h => ziv g H.ev H.evs H.call e.2 hs h Hr hQ
theorem zI1 (g : Good C) (S : SEv C n) (h : evF C.T (mk C.T n) z Γ σ (er (d + 1) P.fx.ek (.Subscript x y p)) st K) (Hr : Here C P Γ σ n st w) (hQ : QE C z w K Q) : wpAny (model C.prog C.w) P.A (eval (.Subscript x y p) P.env) Q E w.s := by
 have e := zma y
 change evF C.T (mk C.T n) z Γ σ (match vw y with | .slc l h t => _ | _ => _) st K at h
 generalize vw y = v at h e
 cases v with
 | slc l hx t => obtain ⟨q, rfl⟩ := e; exact zG4 S h Hr hQ
 | att => cases e; exact zlv g S h rfl Hr hQ
 | cst => obtain ⟨k, q, rfl⟩ := e; exact zlv g S h rfl Hr hQ
 | nam => obtain ⟨q, rfl⟩ := e; exact zlv g S h rfl Hr hQ
 | tup => obtain ⟨k, q, rfl⟩ := e; exact zlv g S h rfl Hr hQ
 | lst => obtain ⟨q, rfl⟩ := e; exact zlv g S h rfl Hr hQ
 | oth => exact zlv g S h e.1 Hr hQ
theorem zG9 {c : Const} {k : Nat} (h : evF C.T (mk C.T n) z Γ σ (er (d + 1) P.fx.ek (.Constant c k p)) st K) (Hr : Here C P Γ σ n st w) (hQ : QE C z w K Q) : wpAny (model C.prog C.w) P.A (eval (.Constant c k p) P.env) Q E w.s := by
 cases c with
 | none => exact wpAny_Constant_none (hQ.now Hr.rep h .none)
 | bool b => exact wpAny_Constant_bool (hQ.now Hr.rep h (.bool b))
 | int i => exact wpAny_Constant_int ((hQ.of h).tk Hr.rep _ (.int _ _))
 | str s => exact zbz h λ hl h => wpAny_Constant_str ((hQ.of h).tk Hr.rep _ (.str _ _ (blx hl)))
 | _ => exact False.elim h
theorem zIg (F : Full C) (H : ∀ k, k ≤ n → AllS C k) : SEv C (n + 1) := ⟨by
 intro P z Γ σ d x st K w Q E h Hr hQ
 have g := F.good
 have Hn := H n (Nat.le_refl _)
 have Hd := Hr.dn
 clear Hr
 cases d with
 | zero => exact zwl h
 | succ d =>
   rw [zv4] at h
   cases x with
   | BoolOp o ys p =>
     cases o with
     | And => exact zGq Hn.ev h rfl Hd hQ
     | Or => exact zLf Hn.ev h rfl Hd hQ
   | BinOp y o z' p => exact zcd h λ op ho h => zvo ho ▸ zGy Hn.ev h Hd hQ
   | UnaryOp o y p =>
     cases o with
     | Not => exact zJ3 Hn.ev h Hd hQ
     | USub => exact zIr Hn.ev h Hd hQ
     | _ => exact False.elim h
   | Lambda => exact zcd h λ k hk h => zHp g F.tabs hk h Hd hQ
   | IfExp c a b p => exact zHs Hn.ev Hn.tr h Hd hQ
   | Dict kx ys p => exact zcd h λ ks hk h => zbz h λ hc h => zbf hc λ h1 h2 => zI8 Hn.pr h hk (of_decide_eq_true h2) (blx h1) Hd hQ
   | ListComp xe gs scope p => exact zLw g (λ k hk => (H k hk).ev) (λ k hk => (H k hk).tr) h Hd hQ
   | Compare y os ys p => exact zs4 g Hn.ev h Hd hQ
   | Call f as ks p => exact zDp g Hn h Hd hQ
   | Constant c k p => exact zG9 h Hd hQ
   | Attribute y a p => exact zcd h λ m hm h => zbz h λ hs h => zcu hm ▸ zJf g Hn.ev h hs Hd hQ
   | Subscript y s p => exact zI1 g Hn.ev h Hd hQ
   | Name a p => exact zE5 g h Hd hQ
   | List ys p => exact zbz h λ ns h => zHe Hn.evs ns h Hd hQ
   | Tuple ys k p => exact zbz h λ ns h => zGe Hn.evs ns h Hd hQ
   | _ => exact False.elim h⟩
theorem zw8 {T : Tbl} {e : PS} {K : KX} : (mk T (n + 1)).exec z Γ σ e st K = zd9 T (mk T n) z Γ σ e st K := rfl
theorem zIp {T : Tbl} {K : KX} {G : Prop} (h : (mk T n).exec z Γ σ .bad st K) : G := by
 cases n <;> exact False.elim h
theorem zvi (g : Good C) (H : ∀ k, k ≤ n → AllS C k) {ts : List Expr} {K : KX} {Q : Flow → Shared → Prop} (h : zd9 C.T (mk C.T n) z Γ σ (erS (d + 1) P.fx.ek (.Assign ts x p)) st K) (Hr : Here C P Γ σ n st w) (hQ : QX C z w P.env.locals K Q) : wpAny (model C.prog C.w) P.A (exec (.Assign ts x p) P.env) Q E w.s := by
 have Hn := H n (Nat.le_refl _)
 match ts, h with
 | [], h => exact False.elim h
 | _ :: _ :: _, h => exact False.elim h
 | [t], h =>
   have e := zma t
   change zd9 C.T (mk C.T n) z Γ σ (match vw t with | .nam a => _ | .tup es => _ | .att o a _ => _ | .oth => _ | _ => _) st K at h
   generalize vw t = v at h e
   cases v with
   | nam a =>
     obtain ⟨q, rfl⟩ := e
     refine zfz h λ k hk h => ?_
     cases zcu hk
     have nm' : ∀ {kd}, lkN (nm k) P.fx.sc.names = some kd → P.env.kindOf (nm k) = some kd := λ e => Hr.nam e
     change zd9 C.T (mk C.T n) z Γ σ (match lkN (nm k) P.fx.sc.names with | some .local => _ | some .cell => _ | _ => _) st K at h
     generalize lkN (nm k) P.fx.sc.names = o at h nm'
     cases o with
     | none => exact False.elim h
     | some kd => cases kd with
       | «local» => exact zDf g (λ k hk => (H k hk).ev) (λ k hk => (H k hk).tr) h (nm' rfl) Hr hQ
       | cell => exact zhc h λ hd h => zKe Hn.ev h (nm' rfl) hd Hr hQ
       | _ => exact False.elim h
   | tup es =>
     obtain ⟨k, q, rfl⟩ := e
     exact zfz h λ l hl h => zhc h λ hc h => zbf hc λ h1 h2 => zIk Hn.ev h hl h1 h2 Hr hQ
   | att o a q => cases e; exact zfz h λ m hm h => zcu hm ▸ zJq g Hn.ev h Hr hQ
   | oth =>
     cases t with
     | Subscript o i q => exact zhc h λ hs h => zI6 g Hn.ev h Hr hQ
     | _ => exact False.elim h
   | _ => exact False.elim h
theorem zAo (F : Full C) (H : ∀ k, k ≤ n → AllS C k) : SExec C (n + 1) := ⟨by
 intro P z Γ σ d x st K w Q E h Hr hQ
 have g := F.good
 have Hn := H n (Nat.le_refl _)
 have Hd := Hr.dn
 clear Hr
 cases d with
 | zero => exact zIp h
 | succ d =>
   rw [zw8] at h
   cases x with
   | Expr e p => exact zhc h λ hc h => zGp Hn.ev h hc Hd hQ
   | Return o p =>
     cases o with
     | some e => exact zJ6 Hn.ev h Hd hQ
     | none => exact wpAny_Return_none (hQ _ _ _ w (.ret .none) h (Aft.refl _ Hd.rep) Hd.loc ⟨_, rfl, rfl⟩)
   | Assign ts v p => exact zvi g H h Hd hQ
   | AugAssign t o v p =>
     have e := zma t
     change zd9 C.T (mk C.T n) z Γ σ (match vw t with | .nam a => _ | _ => _) st K at h
     generalize vw t = vv at h e
     cases vv with
     | nam a =>
       obtain ⟨q, rfl⟩ := e
       exact zfz h λ k hk h => zhc h λ hl h => zfz h λ b hb h => zcu hk ▸ zvo hb ▸ zGz Hn.ev h (by unfold Env.kindOf; rw [Hd.fr.scope, zcu hk]; exact zkc hl) Hd hQ
     | _ => exact False.elim h
   | If t b o p => exact zJe Hn.tr Hn.execs h Hd hQ
   | While t b o p =>
     cases o with
     | nil => exact zKc (λ k hk => (H k (Nat.le_of_lt hk)).tr) (λ k hk => (H k (Nat.le_of_lt hk)).execs) h Hd hQ
     | cons => exact False.elim h
   | For t i b o p =>
     cases o with
     | nil => exact zfz h λ q hq h => zhc h λ hs h => zMl g Hn.ev (λ k hk => (H k (Nat.le_of_lt hk)).execs) h hs hq Hd hQ
     | cons => exact False.elim h
   | FunctionDef => exact zfz h λ q hk h => zG2 g F.tabs hk h Hd hQ
   | _ => exact False.elim h⟩
theorem zwf (F : Full C) : ∀ n, AllS C n := by
 intro n
 induction n using Nat.strongRecOn with
 | ind n ih =>
   cases n with
   | zero => exact ⟨⟨λ h => False.elim h⟩, ⟨λ _ h => False.elim h⟩, ⟨λ h => False.elim h⟩, ⟨λ h => False.elim h⟩, ⟨λ h => False.elim h⟩, ⟨λ h => False.elim h⟩, ⟨λ h => False.elim h⟩, ⟨λ h => False.elim h⟩⟩
   | succ n =>
     have H : ∀ k, k ≤ n → AllS C k := λ k hk => ih k (Nat.lt_succ_of_le hk)
     have Hn := H n (Nat.le_refl _)
     exact ⟨zIg F H, zxr Hn.ev Hn.evs, zyp F.good (λ k hk => (H k hk).ev) Hn.tr, zzf Hn.ev Hn.pr, zs7 F Hn.ev Hn.execs Hn.fn, zq7 F Hn.execs, zAo F H, zp0 Hn.exec Hn.execs⟩
end
end Mine
namespace Mine
open PySem
section
variable {f : Nat → Nat} {S0 s S s' : Store} {v a b : AV} {T : Tbl} {z z' : Nat} {p : Bool × AV × Store} {vs : List AV}
theorem zg9 : ∀ {xs : List AV} {is : List Int}, zde xs = some is → zde (xs.map (mV f)) = some is
 | [], _, h => h
 | x :: xs, _, h => zag h λ i hi h => zbs h λ js hj h => by
   show ((mV f x).toI).bind _ = _
   rw [zgc hi]
   show (zde (xs.map (mV f))).map _ = _
   rw [zg9 hj, ← h]; rfl
theorem zjw : ∀ {xs : List AV} {is : List (List Nat)}, zdm xs = some is → zdm (xs.map (mV f)) = some is
 | [], _, h => h
 | x :: xs, _, h => zag h λ i hi h => zbs h λ js hj h => by
   show ((mV f x).toS).bind _ = _
   rw [zoc hi]
   show (zdm (xs.map (mV f))).map _ = _
   rw [zjw hj, ← h]; rfl
theorem zMx {o : AO} {xs : List AV} (h : o.toL = some xs) : (mO f o).toL = some (xs.map (mV f)) := by
 cases o with
 | list => cases h; rfl
 | _ => exact nn h
theorem zMt {o : AO} {xs : List AV} (h : o.toT = some xs) : (mO f o).toT = some (xs.map (mV f)) := by
 cases o with
 | tup => cases h; rfl
 | _ => exact nn h
theorem zK5 {o o' : AO} {r : Bool} (h : eqO o o' = some r) : eqO (mO f o) (mO f o') = some r := by
 cases o with
 | list xs =>
   refine zag h λ ys hy h => ?_
   show ((mO f o').toL).bind _ = _
   rw [zMx hy]
   cases ys with
   | nil => cases h; cases xs <;> rfl
   | cons y ys =>
     refine zag h λ is hi h => zbs h λ js hj h => ?_
     show (zde (xs.map (mV f))).bind _ = _
     rw [zg9 hi]
     show (zde ((y :: ys).map (mV f))).map _ = _
     rw [zg9 hj, ← h]; rfl
 | tup xs =>
   refine zag h λ ys hy h => zag h λ is hi h => zbs h λ js hj h => ?_
   show ((mO f o').toT).bind _ = _
   rw [zMt hy]
   show (zde (xs.map (mV f))).bind _ = _
   rw [zg9 hi]
   show (zde (ys.map (mV f))).map _ = _
   rw [zg9 hj, ← h]; rfl
 | _ => exact nn h
theorem zH6 (M : Em f S0 s S) {r : Bool} (h : eqv s a b = some r) : eqv S (mV f a) (mV f b) = some r := by
 cases a with
 | none =>
   cases b with
   | none => exact h
   | str => exact h
   | _ => exact nn h
 | int i =>
   refine zbs h λ j hj h => ?_
   show ((mV f b).toI).map _ = _
   rw [zgc hj, ← h]; rfl
 | str x =>
   cases b with
   | none => exact h
   | str => exact h
   | _ => exact nn h
 | ref i =>
   refine zag h λ j hj h => zag h λ o ho h => zag h λ o' ho' h => ?_
   show ((mV f b).toR).bind _ = _
   rw [zh3 hj]
   show (S.get (f i)).bind _ = _
   rw [M.get _ _ ho]
   show (S.get (f j)).bind _ = _
   rw [M.get _ _ ho']
   exact zK5 h
 | _ => exact nn h
theorem zJu {g : Int → Int → Bool} {g2 : List Nat → List Nat → Bool} {r : Bool} (h : zD1 g g2 a b = some r) : zD1 g g2 (mV f a) (mV f b) = some r := by
 cases a with
 | int i =>
   refine zbs h λ j hj h => ?_
   show ((mV f b).toI).map _ = _
   rw [zgc hj, ← h]; rfl
 | str i =>
   refine zbs h λ j hj h => ?_
   show ((mV f b).toS).map _ = _
   rw [zoc hj, ← h]; rfl
 | _ => exact nn h
theorem zv8 (M : Em f S0 s S) {op : CO} {r : Bool} (h : zhy op a b s = some r) : zhy op (mV f a) (mV f b) S = some r := by
 cases op with
 | eq => exact zH6 M h
 | ne =>
   refine zbs h λ q hq h => ?_
   show (eqv S (mV f a) (mV f b)).map _ = _
   rw [zH6 M hq, ← h]; rfl
 | is => show cnd (mV f b).isN (mV f a).isN = _; rw [zxe, zxe]; exact h
 | isNot => show cnd (mV f b).isN (!(mV f a).isN) = _; rw [zxe, zxe]; exact h
 | _ => exact zJu h
theorem zJv {α : Type} (es : List (α × AV)) : (es.map (mP f)).map (·.1) = es.map (·.1) := by rw [List.map_map]; rfl
theorem zM2 {x : List Nat} {o : AO} {r : Bool} (h : inO x o = some r) : inO x (mO f o) = some r := by
 cases o with
 | list xs =>
   refine zbs h λ l hl h => ?_
   show (zdm (xs.map (mV f))).map _ = _
   rw [zjw hl, ← h]; rfl
 | dict es => show some (((es.map (mP f)).map (·.1)).contains x) = _; rw [zJv]; exact h
 | _ => exact nn h
theorem zLi (M : Em f S0 s S) {r : Bool} (h : inv T s a b = some r) : inv T S (mV f a) (mV f b) = some r := zag h λ x hx h => by
 unfold inv
 rw [zoc hx]
 cases b with
 | str t => exact h
 | old t => exact h
 | ref i =>
   refine zag h λ o ho h => ?_
   show (S.get (f i)).bind _ = _
   rw [M.get _ _ ho]; exact zM2 h
 | _ => exact nn h
structure PrR (f : Nat → Nat) (S0 : Store) (p p' : Bool × AV × Store) : Prop where
 ok : p.1 = true → p'.1 = true
 val : p'.2.1 = mV f p.2.1
 em : Em f S0 p.2.2 p'.2.2
theorem zMz (M : Em f S0 s S) {g : Int → Int → Bool} {g2 : Int → Int → Int} (h : iop a b s g g2 = some p) : ∃ p', iop (mV f a) (mV f b) S g g2 = some p' ∧ PrR f S0 p p' := zag h λ i hi h => zbs h λ j hj h => by
 refine ⟨(g i j, .int (g2 i j), S), ?_, ?_⟩
 · unfold iop
   rw [zgc hi]
   show ((mV f b).toI).map _ = _
   rw [zgc hj]; rfl
 · subst h; exact ⟨id, rfl, M⟩
theorem zJa (M : Em f S0 s S) {op : BO} (h : zDq op a b s = some p) : ∃ p', zDq op (mV f a) (mV f b) S = some p' ∧ PrR f S0 p p' := by
 cases op with
 | add =>
   cases a with
   | int i =>
     refine zbs h λ j hj h => ⟨(true, .int (i + j), S), ?_, ?_⟩
     · show ((mV f b).toI).map _ = _; rw [zgc hj]; rfl
     · subst h; exact ⟨id, rfl, M⟩
   | str x =>
     refine zbs h λ y hj h => ⟨(Nat.ble (x.length + y.length) 1000, .str (x ++ y), S), ?_, ?_⟩
     · show ((mV f b).toS).map _ = _; rw [zoc hj]; rfl
     · subst h; exact ⟨id, rfl, M⟩
   | ref i =>
     refine zag h λ j hj h => zag h λ xs hx h => zbs h λ ys hy h => ⟨(Nat.ble (xs.length + ys.length) 1000, .ref S.n, S.add (mO f (.list (xs ++ ys)))), ?_, ?_⟩
     · show ((mV f b).toR).bind _ = _
       rw [zh3 hj]
       show (S.ls (f i)).bind _ = _
       rw [M.ls hx]
       show (S.ls (f j)).map _ = _
       rw [M.ls hy]
       show some _ = some (_, _, S.add (.list ((xs ++ ys).map (mV f))))
       rw [List.map_append, List.length_map]
       show some (Nat.ble (xs.length + (ys.map (mV f)).length) 1000, _, _) = _
       rw [List.length_map]
     · subst h; exact ⟨id, congrArg AV.ref M.at0.symm, M.add _⟩
   | _ => exact nn h
 | _ => exact zMz M h
theorem zq8 (M : Em f S0 s S) : ∀ {xs : List AV} {ls : List (List (List Nat))}, zhj s xs = some ls → zhj S (xs.map (mV f)) = some ls
 | [], _, h => h
 | x :: xs, _, h => zag h λ k hk h => zag h λ zs hz h => zag h λ l hl h => zbs h λ ls hls h => by
   show ((mV f x).toR).bind _ = _
   rw [zh3 hk]
   show (S.tp (f k)).bind _ = _
   rw [M.tp hz]
   show (zdm (zs.map (mV f))).bind _ = _
   rw [zjw hl]
   show (zhj S (xs.map (mV f))).map _ = _
   rw [zq8 M hls, ← h]; rfl
theorem zIj (ps : List (List Nat)) : (ps.map AV.str).map (mV f) = ps.map AV.str := by rw [List.map_map]; rfl
theorem zIo (M : Em f S0 s S) (zk : Zk f z z') {n i : Nat} {o : AO} (ho : s.get i = some o) (h : zKm z n i v s o = some p) : ∃ p', zKm z' n (f i) (mV f v) S (mO f o) = some p' ∧ PrR f S0 p p' := by
 cases o with
 | list xs =>
   change (match Nat.beq n zeg with | true => _ | false => _) = _ at h
   show ∃ p', (match Nat.beq n zeg with | true => _ | false => _) = some p' ∧ _
   cases hn : Nat.beq n zeg with
   | true =>
     rw [hn] at h
     cases h
     refine ⟨_, rfl, λ h => zbf h λ h1 h2 => ?_, rfl, ?_⟩
     · show (Nat.ble z' (f i) && Nat.ble (xs.map (mV f)).length 1000) = true
       rw [List.length_map, lbx (zk _ (blx h1)), h2]; rfl
     · have := M.set i (.list (xs ++ [v]))
       rw [show mO f (.list (xs ++ [v])) = .list (xs.map (mV f) ++ [mV f v]) from congrArg AO.list List.map_append] at this
       exact this
   | false =>
     rw [hn] at h
     change (match Nat.beq n zfv with | true => _ | false => _) = _ at h
     show ∃ p', (match Nat.beq n zfv with | true => _ | false => _) = some p' ∧ _
     cases hn : Nat.beq n zfv with
     | false => rw [hn] at h; exact nn h
     | true =>
       rw [hn] at h
       refine zag h λ j hj h => zag h λ ys hy h => zag h λ l hl h => zbs h λ ls hls h => ⟨((l :: ls).all (·.all (·.all (· < 128))), .int (ls.count l), S), ?_, ?_⟩
       · show ((mV f v).toR).bind _ = _
         rw [zh3 hj]
         show (S.tp (f j)).bind _ = _
         rw [M.tp hy]
         show (zdm (ys.map (mV f))).bind _ = _
         rw [zjw hl]
         show (zhj S (xs.map (mV f))).map _ = _
         rw [zq8 M hls]; rfl
       · subst h; exact ⟨id, rfl, M⟩
 | dict es =>
   change (match Nat.beq n zmt with | true => _ | false => _) = _ at h
   show ∃ p', (match Nat.beq n zmt with | true => _ | false => _) = some p' ∧ _
   cases hn : Nat.beq n zmt with
   | false => rw [hn] at h; exact nn h
   | true =>
     rw [hn] at h
     refine zbs h λ k hk h => ⟨(true, (lkS k (es.map (mP f))).getD .none, S), ?_, ?_⟩
     · show ((mV f v).toS).map _ = _
       rw [zoc hk]; rfl
     · subst h
       refine ⟨id, ?_, M⟩
       show (lkS k (es.map λ p => (p.1, mV f p.2))).getD .none = mV f ((lkS k es).getD .none)
       rw [zAs]
       cases lkS k es <;> rfl
 | _ => exact nn h
theorem zJ8 (M : Em f S0 s S) {n : Nat} {x t : List Nat} (h : zKl n x t s = some p) : ∃ p', zKl n x t S = some p' ∧ PrR f S0 p p' := by
 match t, h with
 | [c], h =>
   change (match Nat.beq n zfy with | true => _ | false => _) = _ at h
   show ∃ p', (match Nat.beq n zfy with | true => _ | false => _) = some p' ∧ _
   cases hn : Nat.beq n zfy with
   | true =>
     rw [hn] at h
     change (match Nat.beq c 58 with | true => _ | false => _) = _ at h
     show ∃ p', (match Nat.beq c 58 with | true => _ | false => _) = some p' ∧ _
     cases hc : Nat.beq c 58 with
     | false => rw [hc] at h; exact nn h
     | true =>
       rw [hc] at h
       refine zbs h λ ps hp h => ⟨(true, .ref S.n, S.add (.list (ps.map .str))), ?_, ?_⟩
       · show (lkS x zjx).map _ = _; rw [hp]; rfl
       · subst h
         have := M.add (.list (ps.map .str))
         rw [show mO f (.list (ps.map .str)) = .list (ps.map .str) from congrArg AO.list (zIj ps)] at this
         exact ⟨id, congrArg AV.ref M.at0.symm, this⟩
   | false =>
     rw [hn] at h
     change (match Nat.beq n zf1 with | true => _ | false => _) = _ at h
     show ∃ p', (match Nat.beq n zf1 with | true => _ | false => _) = some p' ∧ _
     cases hn : Nat.beq n zf1 with
     | true =>
       rw [hn] at h
       refine zgr h λ hc h => ⟨(true, .ref S.n, S.add (.tup [.str [], .str [], .str [107]])), ?_, ?_⟩
       · show cnd _ _ = _; rw [hc]; rfl
       · subst h; exact ⟨id, congrArg AV.ref M.at0.symm, M.add (.tup [.str [], .str [], .str [107]])⟩
     | false =>
       rw [hn] at h
       change (match Nat.beq n zgu && decide (x = zey) with | true => _ | false => _) = _ at h
       show ∃ p', (match Nat.beq n zgu && decide (x = zey) with | true => _ | false => _) = some p' ∧ _
       cases hc : Nat.beq n zgu && decide (x = zey) with
       | false => rw [hc] at h; exact nn h
       | true =>
         rw [hc] at h
         refine zbs h λ k hk h => ⟨(true, .int k, S), ?_, ?_⟩
         · exact congrArg (λ o => Option.map (λ k => (true, AV.int k, S)) o) hk
         · subst h; exact ⟨id, rfl, M⟩
 | [], h => exact nn h
 | _ :: _ :: _, h => exact nn h
theorem zNe (M : Em f S0 s S) (zk : Zk f z z') {n : Nat} (h : bim z n a vs s = some p) : ∃ p', bim z' n (mV f a) (vs.map (mV f)) S = some p' ∧ PrR f S0 p p' := by
 match vs, h with
 | [v], h =>
   cases a with
   | ref i =>
     refine zag h λ o ho h => ?_
     show ∃ p', (S.get (f i)).bind _ = some p' ∧ _
     rw [M.get _ _ ho]
     exact zIo M zk ho h
   | str x =>
     refine zag h λ t ht h => ?_
     show ∃ p', ((mV f v).toS).bind _ = some p' ∧ _
     rw [zoc ht]
     exact zJ8 M h
   | _ => exact nn h
 | [], h => exact nn h
 | _ :: _ :: _, h => exact nn h
theorem zBv {n : Nat} {o : AO} : zL4 n (mO f o) = zL4 n o := by cases o <;> rfl
theorem zwu (M : Em f S0 s S) {n : Nat} {m : MT} (h : zat T s a n = some m) : zat T S (mV f a) n = some (mM f m) := by
 cases a with
 | str x => exact zgr h λ hc h => by subst h; show cnd _ _ = _; rw [hc]; rfl
 | ref i =>
   refine zag h λ o ho h => ?_
   show (S.get (f i)).bind _ = _
   rw [M.get _ _ ho]
   cases o with
   | inst c d =>
     refine zag h λ q hq h => ?_
     show (S.ins (f i)).bind _ = _
     rw [M.ins hq]
     show (match lk n (q.2.2.map λ p => (p.1, mV f p.2)) with | some _ => _ | none => _) = _
     rw [zH9]
     cases hn : lk n q.2.2 with
     | some w => rw [hn] at h; exact nn h
     | none =>
       rw [hn] at h
       refine zag h λ cd hcd h => zbs h λ a ha h => ?_
       subst h
       show (T.cls.get q.1).bind _ = _
       rw [hcd]
       show (lk n cd.meths).map _ = _
       rw [ha]; rfl
   | list => exact zgr h λ hc h => by subst h; show cnd _ _ = _; rw [zBv, hc]; rfl
   | dict => exact zgr h λ hc h => by subst h; show cnd _ _ = _; rw [zBv, hc]; rfl
   | _ => exact zgr h λ hc h => nb hc
 | _ => exact nn h
theorem zA3 {o : AO} : (mO f o).kind = o.kind := by cases o <;> rfl
theorem ztg {s1 S1 : Store} (M : Em f S0 s S) (M1 : Em f S0 s1 S1) {n : Nat} {m : MT} (hr : zat T s a n = some m) (h : zdz s s1 a = true) : zdz S S1 (mV f a) = true := by
 cases a with
 | ref i =>
   revert h
   unfold zdz
   dsimp only [mV]
   cases h1 : s.get i with
   | none => exact λ h => nb h
   | some o =>
     cases h2 : s1.get i with
     | none => exact λ h => nb h
     | some o' =>
       rw [M.get _ _ h1, M1.get _ _ h2]
       dsimp only
       rw [zA3, zA3]
       exact id
 | ext => exact nn hr
 | _ => rfl
end
section
variable {f : Nat → Nat} {S0 s S s' : Store} {v a b : AV} {T : Tbl} {z z' : Nat} {p : Bool × AV × Store} {vs : List AV}
theorem zGg (M : Em f S0 s S) {k : Kd} (h : zGk s v = some k) : zGk S (mV f v) = some k := by
 cases v with
 | ref i =>
   refine zag h λ o ho h => ?_
   show (S.get (f i)).bind _ = _
   rw [M.get _ _ ho]
   cases o with
   | tup => exact h
   | inst c d =>
     refine zbs h λ q hq h => ?_
     show (S.ins (f i)).map _ = _
     rw [M.ins hq, ← h]; rfl
   | _ => exact nn h
 | ext => exact nn h
 | _ => exact h
theorem zur {n : Nat} (h : zqa v = some n) : zqa (mV f v) = some n := by
 cases v with
 | old => exact h
 | _ => exact nn h
theorem zy6 (M : Em f S0 s S) {r : Bool} (h : zlw T s a b = some r) : zlw T S (mV f a) (mV f b) = some r := zag h λ k hk h => by
 unfold zlw
 rw [zGg M hk]
 cases b with
 | bi => exact h
 | old => exact h
 | ref j =>
   refine zag h λ xs hx h => ?_
   show (S.tp (f j)).bind _ = _
   rw [M.tp hx]
   match xs, h with
   | [x, y], h =>
     refine zag h λ c hc h => zag h λ d hd h => ?_
     show (zqa (mV f x)).bind _ = _
     rw [zur hc]
     show (zqa (mV f y)).bind _ = _
     rw [zur hd]; exact h
   | [], h => exact nn h
   | [_], h => exact nn h
   | _ :: _ :: _ :: _, h => exact nn h
 | _ => exact nn h
theorem zqr (h : one vs = some v) : vs = [v] := by
 match vs, h with
 | [_], h => rw [Option.some.inj h]
 | [], h => exact nn h
 | _ :: _ :: _, h => exact nn h
def PrG (f : Nat → Nat) (S0 : Store) (o : Option (Bool × AV × Store)) (p : Bool × AV × Store) : Prop := ∃ p', o = some p' ∧ PrR f S0 p p'
theorem PrG.keep (M : Em f S0 s S) {o : Option (Bool × AV × Store)} {g : Bool} {v : AV} (e : o = some (g, mV f v, S)) : PrG f S0 o (g, v, s) := ⟨_, e, id, rfl, M⟩
theorem PrG.add (M : Em f S0 s S) {o : Option (Bool × AV × Store)} {g : Bool} {x : AO} (e : o = some (g, .ref S.n, S.add (mO f x))) : PrG f S0 o (g, .ref s.n, s.add x) := ⟨_, e, id, congrArg AV.ref M.at0.symm, M.add x⟩
theorem zJo (is : List Int) : (is.map AV.int).map (mV f) = is.map AV.int := by rw [List.map_map]; rfl
theorem zMn (M : Em f S0 s S) (F : TFlat T) {c : BI} (h : biv T c vs s = some p) : PrG f S0 (biv T c (vs.map (mV f)) S) p := by
 cases c with
 | len =>
   refine zag h λ v hv h => ?_
   cases zqr hv
   cases v with
   | str x => cases h; exact .keep M rfl
   | ref i =>
     refine zbs h λ xs hx h => h ▸ .keep M ?_
     show (zb1 T S (mV f (.ref i))).map _ = _
     rw [zh9 M F hx]
     show some (_, AV.int (xs.map (mV f)).length, _) = _
     rw [List.length_map]; rfl
   | old i =>
     refine zbs h λ xs hx h => h ▸ .keep M ?_
     show (zb1 T S (mV f (.old i))).map _ = _
     rw [zh9 M F hx]
     show some (_, AV.int (xs.map (mV f)).length, _) = _
     rw [List.length_map]; rfl
   | _ => exact nn h
 | abs =>
   refine zag h λ v hv h => zbs h λ i hi h => h ▸ .keep M ?_
   cases zqr hv
   show ((mV f v).toI).map _ = _
   rw [zgc hi]; rfl
 | max =>
   match vs, h with
   | [x, y], h =>
     refine zag h λ i hi h => zbs h λ j hj h => h ▸ .keep M ?_
     show ((mV f x).toI).bind _ = _
     rw [zgc hi]
     show ((mV f y).toI).map _ = _
     rw [zgc hj]; rfl
   | [], h => exact nn h
   | [_], h => exact nn h
   | _ :: _ :: _ :: _, h => exact nn h
 | int =>
   refine zag h λ v hv h => ?_
   cases zqr hv
   cases v with
   | bool b => cases h; exact .keep M rfl
   | _ => exact nn h
 | list =>
   refine zag h λ v hv h => zag h λ i hi h => zbs h λ xs hx h => h ▸ .add M ?_
   cases zqr hv
   show ((mV f v).toR).bind _ = _
   rw [zh3 hi]
   show (S.ls (f i)).map _ = _
   rw [M.ls hx]
   show some (Nat.ble (xs.map (mV f)).length 1000, _, _) = _
   rw [List.length_map]; rfl
 | isinstance =>
   match vs, h with
   | [x, y], h =>
     refine zbs h λ r hr h => h ▸ .keep M ?_
     show (zlw T S (mV f x) (mV f y)).map _ = _
     rw [zy6 M hr]; rfl
   | [], h => exact nn h
   | [_], h => exact nn h
   | _ :: _ :: _ :: _, h => exact nn h
 | range =>
   match vs, h with
   | [x], h =>
     refine zbs h λ i hi h => h ▸ .add M ?_
     show ((mV f x).toI).map _ = _
     rw [zgc hi]; rfl
   | [x, y, w], h =>
     refine zag h λ i hi h => zag h λ j hj h => zbs h λ k hk h => h ▸ .add M ?_
     show ((mV f x).toI).bind _ = _
     rw [zgc hi]
     show ((mV f y).toI).bind _ = _
     rw [zgc hj]
     show ((mV f w).toI).map _ = _
     rw [zgc hk]; rfl
   | [], h => exact nn h
   | [_, _], h => exact nn h
   | _ :: _ :: _ :: _ :: _, h => exact nn h
 | set =>
   refine zag h λ v hv h => zag h λ i hi h => zag h λ xs hx h => zbs h λ is his h => h ▸ .add M ?_
   cases zqr hv
   show ((mV f v).toR).bind _ = _
   rw [zh3 hi]
   show (S.ls (f i)).bind _ = _
   rw [M.ls hx]
   show (zde (xs.map (mV f))).map _ = _
   rw [zg9 his]; rfl
 | sorted =>
   refine zag h λ v hv h => zag h λ i hi h => zag h λ o ho h => ?_
   cases zqr hv
   cases o with
   | iset is =>
     cases h
     refine .add M ?_
     show ((mV f v).toR).bind _ = _
     rw [zh3 hi]
     show (S.get (f i)).bind _ = _
     rw [M.get _ _ ho]
     exact congrArg (λ l => some (true, AV.ref S.n, S.add (.list l))) (zJo is).symm
   | _ => exact nn h
 | ord =>
   refine zag h λ v hv h => zag h λ x hx h => zbs h λ i hi h => h ▸ .keep M ?_
   cases zqr hv
   show ((mV f v).toS).bind _ = _
   rw [zoc hx]
   exact congrArg (λ o => Option.map (λ c => (true, AV.int c, S)) o) hi
 | _ => exact nn h
theorem zw6 (M : Em f S0 s S) {src : Src} (h : zeh s v = some src) : zeh S (mV f v) = some (mS f src) := by
 cases v with
 | str x => exact zgr h λ hc h => by subst h; show cnd _ _ = _; rw [hc]; rfl
 | ref i =>
   refine zag h λ o ho h => ?_
   show (S.get (f i)).bind _ = _
   rw [M.get _ _ ho]
   cases o with
   | list => cases h; rfl
   | tup => cases h; rfl
   | rng => cases h; rfl
   | dict es => cases h; show some (Src.keys _ _ (es.map (mP f)).length) = _; rw [List.length_map]; rfl
   | _ => exact nn h
 | _ => exact nn h
noncomputable def mN (f : Nat → Nat) (p : AV × Src) : AV × Src := (mV f p.1, mS f p.2)
theorem zre (M : Em f S0 s S) {src : Src} {o : Option (AV × Src)} (h : zfm s src = some o) : zfm S (mS f src) = some (o.map (mN f)) := by
 cases src with
 | lst i k =>
   refine zbs h λ xs hx h => ?_
   subst h
   show (S.ls (f i)).map _ = _
   rw [M.ls hx]
   show some ((nth (xs.map (mV f)) k).map _) = _
   rw [zqj, Option.map_map, Option.map_map]; rfl
 | tps i k =>
   refine zbs h λ xs hx h => ?_
   subst h
   show (S.tp (f i)).map _ = _
   rw [M.tp hx]
   show some ((nth (xs.map (mV f)) k).map _) = _
   rw [zqj, Option.map_map, Option.map_map]; rfl
 | rng a st n => cases n <;> (cases h; rfl)
 | chs l => cases l <;> (cases h; rfl)
 | keys i k n =>
   refine zag h λ es hx h => ?_
   show (S.dc (f i)).bind _ = _
   rw [M.dc hx]
   show (match Nat.beq (es.map (mP f)).length n with | true => _ | false => _) = _
   rw [List.length_map]
   cases hb : Nat.beq es.length n with
   | false => rw [hb] at h; exact nn h
   | true =>
     rw [hb] at h
     cases h
     show some ((nth (es.map (mP f)) k).map _) = _
     rw [zqj, Option.map_map, Option.map_map]; rfl
theorem zr7 (x : Nat) (σ : zaf) : (putL x v σ).map (mP f) = putL x (mV f v) (σ.map (mP f)) := (zv9 x σ).symm
theorem zuu {Γ : zaw} (zk : Zk f z z') : ∀ {ts : List (Bool × Nat)} {vs : List AV} {σ : zaf} {s S : Store} {q : zaf × Store}, Em f S0 s S → zbe z Γ ts vs σ s = some q → ∃ S', zbe z' (Γ.map (mQ f)) ts (vs.map (mV f)) (σ.map (mP f)) S = some (q.1.map (mP f), S') ∧ Em f S0 q.2 S' := by
 intro ts
 induction ts with
 | nil =>
   intro vs σ s S q M h
   cases vs with
   | nil => cases h; exact ⟨S, rfl, M⟩
   | cons => exact nn h
 | cons t ts ih =>
 intro vs σ s S q M h
 obtain ⟨b, x⟩ := t
 cases vs with
 | nil => cases b <;> exact nn h
 | cons v vs =>
 cases b with
 | false =>
   obtain ⟨S', e, M'⟩ := ih (σ := putL x v σ) M h
   refine ⟨S', ?_, M'⟩
   show zbe z' _ ts _ (putL x (mV f v) (σ.map (mP f))) S = _
   rw [← zr7]; exact e
 | true =>
   refine zag h λ i hi h => zag h λ o ho h => ?_
   cases hz : Nat.ble z i with
   | false => rw [hz] at h; exact nn h
   | true =>
     rw [hz] at h
     obtain ⟨S', e, M'⟩ := ih (M.set i (.cell (some v))) h
     refine ⟨S', ?_, M'⟩
     show (lk x (Γ.map (mQ f))).bind _ = _
     rw [lkC hi]
     show (S.cl (f i)).bind _ = _
     rw [M.cl ho]
     show (match Nat.ble z' (f i) with | true => _ | false => _) = _
     rw [lbx (zk _ (blx hz))]; exact e
theorem zqy {Γ : zaw} (zk : Zk f z z') (M : Em f S0 s S) {tup : Bool} {xs : List (Bool × Nat)} {σ : zaf} {q : zaf × Store} (h : zgo z Γ tup xs v σ s = some q) : ∃ S', zgo z' (Γ.map (mQ f)) tup xs (mV f v) (σ.map (mP f)) S = some (q.1.map (mP f), S') ∧ Em f S0 q.2 S' := by
 cases tup with
 | false => exact zuu zk M h
 | true =>
   refine zag h λ i hi h => zag h λ us hu h => ?_
   show ∃ S', ((mV f v).toR).bind _ = _ ∧ _
   rw [zh3 hi]
   show ∃ S', (S.tp (f i)).bind _ = _ ∧ _
   rw [M.tp hu]
   exact zuu zk M h
theorem zov (b : zaf) : ∀ {cs : List Nat} {Γ : zaw} {s S : Store}, Em f S0 s S → (zds cs (b.map (mP f)) (Γ.map (mQ f)) S).1 = (zds cs b Γ s).1.map (mQ f) ∧ Em f S0 (zds cs b Γ s).2 (zds cs (b.map (mP f)) (Γ.map (mQ f)) S).2
 | [], _, _, _, M => ⟨rfl, M⟩
 | x :: cs, Γ, s, S, M => by
   have := zov b (cs := cs) (Γ := (x, s.n) :: Γ) (M.add (.cell (lk x b)))
   rw [show ((x, s.n) :: Γ).map (mQ f) = (x, S.n) :: Γ.map (mQ f) from congrArg (λ n => (x, n) :: Γ.map (mQ f)) M.at0, show mO f (.cell (lk x b)) = .cell (lk x (b.map (mP f))) from congrArg AO.cell (zH9 (mV f) x b).symm] at this
   exact this
theorem zi4 {Γ : zaw} : ∀ {fr : List Nat} {cl : zaw}, zd1 Γ fr = some cl → zd1 (Γ.map (mQ f)) fr = some (cl.map (mQ f))
 | [], _, h => by cases h; rfl
 | x :: fr, _, h => zag h λ i hi h => zbs h λ c hc h => by
   subst h
   show (lk x (Γ.map (mQ f))).bind _ = _
   rw [lkC hi]
   show (zd1 (Γ.map (mQ f)) fr).map _ = _
   rw [zi4 hc]; rfl
theorem zDm {α : Type} : ∀ (ps : List α) (vs : List AV), ps.zip (vs.map (mV f)) = (ps.zip vs).map (mP f)
 | [], _ => rfl
 | _ :: _, [] => rfl
 | p :: ps, v :: vs => congrArg ((p, mV f v) :: ·) (zDm ps vs)
theorem zvd {ps : List Nat} {dfl : List AV} {b : zaf} (hd : dfl.all AV.flat = true) (h : zow ps dfl vs = some b) : zow ps dfl (vs.map (mV f)) = some (b.map (mP f)) := by
 refine zgr (x := ps.zip (vs ++ dfl.drop (vs.length + dfl.length - ps.length))) h λ hc e => ?_
 subst e
 unfold zow
 rw [List.length_map, hc, ← zDm, List.map_append, List.map_drop, zgi hd]; rfl
theorem zI2 {op : BO} {r : AV} (h : zIf op a b = some r) : zIf op (mV f a) (mV f b) = some (mV f r) := by
 cases op with
 | add =>
   refine zag h λ i hi h => zbs h λ j hj h => ?_
   subst h
   show ((mV f a).toI).bind _ = _
   rw [zgc hi]
   show ((mV f b).toI).map _ = _
   rw [zgc hj]; rfl
 | sub =>
   refine zag h λ i hi h => zbs h λ j hj h => ?_
   subst h
   show ((mV f a).toI).bind _ = _
   rw [zgc hi]
   show ((mV f b).toI).map _ = _
   rw [zgc hj]; rfl
 | _ => exact nn h
theorem zHm {α β : Type} (g : α → β) (xs : List α) (lo hi : AV) {r : List α} (h : cut xs lo hi = some r) : cut (xs.map g) (mV f lo) (mV f hi) = some (r.map g) := by
 cases lo with
 | none =>
   cases hi with
   | none => cases h; rfl
   | int b => cases h; show some ((xs.map g).take (zpk b (xs.map g).length)) = _; rw [List.length_map, List.map_take]
   | _ => exact nn h
 | int a =>
   cases hi with
   | none => cases h; show some ((xs.map g).drop (zpk a (xs.map g).length)) = _; rw [List.length_map, List.map_drop]
   | int b => cases h; show some (((xs.map g).take (zpk b (xs.map g).length)).drop (zpk a (xs.map g).length)) = _; rw [List.length_map, List.map_drop, List.map_take]
   | _ => exact nn h
 | _ => exact nn h
theorem zGo (xs : List AV) (lo hi sp : AV) {r : List AV} (h : zCa xs lo hi sp = some r) : zCa (xs.map (mV f)) (mV f lo) (mV f hi) (mV f sp) = some (r.map (mV f)) := by
 cases sp with
 | none => exact zHm _ _ _ _ h
 | int k =>
   cases lo with
   | none =>
     cases hi with
     | none => exact zgr h λ hc h => by subst h; show cnd _ _ = _; rw [hc, List.map_reverse]; rfl
     | int b => exact zgr h λ hc h => by subst h; show cnd _ _ = _; rw [hc, List.map_reverse, List.map_drop]; rfl
     | _ => exact nn h
   | _ => exact nn h
 | _ => exact nn h
theorem zH2 (x : List Nat) (lo hi : AV) {r : List Nat} (h : cut x lo hi = some r) : cut x (mV f lo) (mV f hi) = some r := by
 have := zHm (f := f) (id : Nat → Nat) x lo hi h
 rw [List.map_id, List.map_id] at this
 exact this
end
section
variable (f : Nat → Nat) (S0 : Store)
def KV2 (K' K : KV) : Prop := ∀ v s S, K' v s → Em f S0 s S → K (mV f v) S
def zNj (K' K : List AV → Store → Prop) : Prop := ∀ vs s S, K' vs s → Em f S0 s S → K (vs.map (mV f)) S
def KB2 (K' K : Bool → Store → Prop) : Prop := ∀ b s S, K' b s → Em f S0 s S → K b S
def KX2 (K' K : KX) : Prop := ∀ fl σ s S, K' fl σ s → Em f S0 s S → K (mF f fl) (σ.map (mP f)) S
end
structure EqR (r r' : R) : Prop where
 ev : ∀ {f S0 z z' Γ σ e s S K' K}, r.ev z Γ σ e s K' → Em f S0 s S → Zk f z z' → KV2 f S0 K' K → r'.ev z' (Γ.map (mQ f)) (σ.map (mP f)) e S K
 evs : ∀ {f S0 z z' Γ σ e s S K' K}, r.evs z Γ σ e s K' → Em f S0 s S → Zk f z z' → zNj f S0 K' K → r'.evs z' (Γ.map (mQ f)) (σ.map (mP f)) e S K
 tr : ∀ {f S0 z z' Γ σ e s S K' K}, r.tr z Γ σ e s K' → Em f S0 s S → Zk f z z' → KB2 f S0 K' K → r'.tr z' (Γ.map (mQ f)) (σ.map (mP f)) e S K
 callv : ∀ {f S0 z z' g vs s S K' K}, r.callv z g vs s K' → Em f S0 s S → Zk f z z' → KV2 f S0 K' K → r'.callv z' (mV f g) (vs.map (mV f)) S K
 cloop : ∀ {f S0 z z' Γ σ elt tup xs ifs src acc s S K' K}, r.cloop z Γ σ elt tup xs ifs src acc s K' → Em f S0 s S → Zk f z z' → KV2 f S0 K' K → r'.cloop z' (Γ.map (mQ f)) (σ.map (mP f)) elt tup xs ifs (mS f src) (acc.map (mV f)) S K
 exec : ∀ {f S0 z z' Γ σ e s S K' K}, r.exec z Γ σ e s K' → Em f S0 s S → Zk f z z' → KX2 f S0 K' K → r'.exec z' (Γ.map (mQ f)) (σ.map (mP f)) e S K
 execs : ∀ {f S0 z z' Γ σ e s S K' K}, r.execs z Γ σ e s K' → Em f S0 s S → Zk f z z' → KX2 f S0 K' K → r'.execs z' (Γ.map (mQ f)) (σ.map (mP f)) e S K
 wloop : ∀ {f S0 z z' Γ σ c b s S K' K}, r.wloop z Γ σ c b s K' → Em f S0 s S → Zk f z z' → KX2 f S0 K' K → r'.wloop z' (Γ.map (mQ f)) (σ.map (mP f)) c b S K
 floop : ∀ {f S0 z z' Γ σ tup xs src b s S K' K}, r.floop z Γ σ tup xs src b s K' → Em f S0 s S → Zk f z z' → KX2 f S0 K' K → r'.floop z' (Γ.map (mQ f)) (σ.map (mP f)) tup xs (mS f src) b S K
section
variable {f : Nat → Nat} {S0 s S s' : Store} {T : Tbl} {z z' : Nat} {Γ : zaw} {σ : zaf} {r r' : R} {K' K : KV}
theorem KV2.add (k : KV2 f S0 K' K) {o : AO} (h : K' (.ref s.n) (s.add o)) (M : Em f S0 s S) : K (.ref S.n) (S.add (mO f o)) := M.at0 ▸ k _ _ _ h (M.add o)
theorem zo1 {o self : AV} {n m : Nat} (h : zat T s o n = some (.bim m self)) : self = o := by
 cases o with
 | str => exact zgr h λ _ h => by cases h; rfl
 | ref i =>
   refine zag h λ o ho h => ?_
   cases o with
   | inst =>
     refine zag h λ q hq h => ?_
     · cases hn : lk n q.2.2 with
       | some => rw [hn] at h; exact nn h
       | none => rw [hn] at h; exact zag h λ _ _ h => zbs h λ _ _ h => nomatch h
   | _ => exact zgr h λ _ h => by cases h; rfl
 | _ => exact nn h
theorem zMr (M : Em f S0 s S) (zk : Zk f z z') (src : Src) : Zk f (zrf src z s) (zrf (mS f src) z' S) := by
 have key : ∀ z1 z1', Zk f z1 z1' → Zk f (mx z1 s.n) (mx z1' S.n) := λ z1 z1' zk i h => by
   have h1 := zk i (ltx (zz7 z1 s.n).1 h)
   obtain ⟨k, rfl⟩ := Nat.le.dest (ltx (zz7 z1 s.n).2 h)
   have h2 : S.n ≤ f (s.n + k) := M.new k ▸ zft _ _
   unfold mx
   cases Nat.ble z1' S.n with
   | true => exact h2
   | false => exact h1
 cases src with
 | keys => exact key _ _ zk
 | _ => exact zk
theorem zL7 (fl : FL) : zck (mF f fl) = mV f (zck fl) := by cases fl <;> rfl
theorem KV2.fl (k : KV2 f S0 K' K) : KX2 f S0 (λ fl _ st2 => K' (zck fl) st2) (λ fl _ st2 => K (zck fl) st2) := λ fl σ s S h M => by
 have := k _ _ _ h M
 rw [← zL7] at this
 exact this
theorem zMq (E : EqR r r') (F : TFlat T) {e : PE} (h : evF T r z Γ σ e s K') (M : Em f S0 s S) (zk : Zk f z z') (k : KV2 f S0 K' K) : evF T r' z' (Γ.map (mQ f)) (σ.map (mP f)) e S K := by
 cases e with
 | non => exact k _ _ _ h M
 | boo => exact k _ _ _ h M
 | num => exact k _ _ _ h M
 | txt => exact k _ _ _ h M
 | loc x => exact Opt.inv h λ v hv h => Opt.of (lkV hv) (k _ _ _ h M)
 | cel x => exact Opt.inv h λ i hi h => Opt.of (lkC hi) (h.inv λ o ho h => Opt.of (M.cl ho) (h.inv λ v hv h => Opt.of (congrArg (Option.map (mV f)) hv) (k _ _ _ h M)))
 | glb x v => exact Chk.inv h λ hf h => Chk.of hf (zA2 (f := f) hf ▸ k _ _ _ h M)
 | att e a => exact E.ev h M zk λ o s S h M => h.inv λ v hv h => Opt.of (zB5 M hv) (k _ _ _ h M)
 | call g as => exact E.ev h M zk λ o s S h M => E.evs h M zk λ vs s S h M => E.callv h M zk k
 | mth o m as =>
   refine E.ev h M zk λ o s0 S1 h M0 => h.inv λ mt hm h => Opt.of (zwu M0 hm) (E.evs h M0 zk λ vs s S h M => ?_)
   cases mt with
   | fnm a self => exact E.callv (vs := self :: vs) h M zk k
   | bim m self =>
     cases zo1 hm
     exact Chk.inv h λ hk h => Chk.of (ztg M0 M hm hk) (h.inv λ p hp h => (zNe M zk hp).elim λ p' q => Opt.of q.1 (h.inv λ h1 h => Chk.of (q.2.ok h1) (q.2.val ▸ k _ _ _ h q.2.em)))
 | cmp op a b => exact E.ev h M zk λ a s S h M => E.ev h M zk λ b s S h M => h.inv λ q hq h => Opt.of (zv8 M hq) (k _ _ _ h M)
 | chn a o1 b o2 c =>
   refine E.ev h M zk λ a s S h M => E.ev h M zk λ b s S h M => h.inv λ q hq h => Opt.of (zv8 M hq) ?_
   cases q with
   | true => exact E.ev h M zk λ c s S h M => h.inv λ q hq h => Opt.of (zv8 M hq) (k _ _ _ h M)
   | false => exact k _ _ _ h M
 | inn neg a b => exact E.ev h M zk λ a s S h M => E.ev h M zk λ b s S h M => h.inv λ q hq h => Opt.of (zLi M hq) (k _ _ _ h M)
 | inl neg a l ss => exact E.ev h M zk λ a s S h M => h.inv λ q hq h => Opt.of (zoc hq) (k _ _ _ h M)
 | andd es =>
   match es, h with
   | [], h => exact h
   | [e], h => exact E.ev h M zk k
   | e :: e2 :: es, h =>
     refine E.ev h M zk λ v s S h M => h.inv λ q hq h => Opt.of (zjs hq) ?_
     cases q with
     | true => exact E.ev h M zk k
     | false => exact k _ _ _ h M
 | orr es =>
   match es, h with
   | [], h => exact h
   | [e], h => exact E.ev h M zk k
   | e :: e2 :: es, h =>
     refine E.ev h M zk λ v s S h M => h.inv λ q hq h => Opt.of (zjs hq) ?_
     cases q with
     | false => exact E.ev h M zk k
     | true => exact k _ _ _ h M
 | nott e => exact E.ev h M zk λ v s S h M => h.inv λ q hq h => Opt.of (zjs hq) (k _ _ _ h M)
 | neg e => exact E.ev h M zk λ v s S h M => h.inv λ i hi h => Opt.of (zgc hi) (k _ _ _ h M)
 | bin op a b => exact E.ev h M zk λ a s S h M => E.ev h M zk λ b s S h M => h.inv λ p hp h => (zJa M hp).elim λ p' q => Opt.of q.1 (h.inv λ h1 h => Chk.of (q.2.ok h1) (q.2.val ▸ k _ _ _ h q.2.em))
 | ite c a b =>
   refine E.tr h M zk λ q s S h M => ?_
   cases q with
   | true => exact E.ev h M zk k
   | false => exact E.ev h M zk k
 | idx o i => exact E.ev h M zk λ a s S h M => E.ev h M zk λ b s S h M => h.inv λ q hq h => Opt.of (zEf M F hq) (k _ _ _ h M)
 | slc o lo hi sp =>
   refine E.ev h M zk λ o s S h M => E.ev h M zk λ lo s S h M => E.ev h M zk λ hi s S h M => E.ev h M zk λ sp s S h M => ?_
   cases o with
   | str x =>
     cases sp with
     | none => exact Opt.inv h λ q hq h => Opt.of (zH2 _ _ _ hq) (k _ _ _ h M)
     | _ => exact False.elim h
   | ref i => exact Opt.inv h λ xs hx h => Opt.of (M.ls hx) (h.inv λ hl h => Chk.of ((List.length_map (as := xs) (mV f)).symm ▸ hl) (h.inv λ ys hy h => Opt.of (zGo _ _ _ _ hy) (k.add h M)))
   | _ => exact False.elim h
 | lst es => exact E.evs h M zk λ vs s S h M => h.inv λ hl h => Chk.of ((List.length_map (as := vs) (mV f)).symm ▸ hl) (k.add h M)
 | tpl es => exact E.evs h M zk λ vs s S h M => h.inv λ hl h => Chk.of ((List.length_map (as := vs) (mV f)).symm ▸ hl) (k.add h M)
 | dct ks es => exact E.evs h M zk λ vs s S h M => h.inv λ hl h => Chk.of ((List.length_map (as := vs) (mV f)).symm ▸ hl) (zDm (f := f) ks vs ▸ k.add h M)
 | lc elt tup xs iter ifs => exact E.ev h M zk λ v s S h M => h.inv λ src hs h => Opt.of (zw6 M hs) (E.cloop (σ := []) (acc := []) h M (zMr M zk src) k)
 | bad => exact h
 | lam n => exact Opt.inv h λ nd hn h => Opt.of hn (h.inv λ cl hc h => Opt.of (zi4 hc) (k.add h M))
theorem zJ4 (E : EqR r r') {es : List PE} {K' K : List AV → Store → Prop} (h : zMg r z Γ σ es s K') (M : Em f S0 s S) (zk : Zk f z z') (k : zNj f S0 K' K) : zMg r' z' (Γ.map (mQ f)) (σ.map (mP f)) es S K := by
 cases es with
 | nil => exact k _ _ _ h M
 | cons e es => exact E.ev h M zk λ v s S h M => E.evs h M zk λ vs s S h M => k (v :: vs) _ _ h M
theorem zLq (E : EqR r r') {e : PE} {K' K : Bool → Store → Prop} (h : trF r z Γ σ e s K') (M : Em f S0 s S) (zk : Zk f z z') (k : KB2 f S0 K' K) : trF r' z' (Γ.map (mQ f)) (σ.map (mP f)) e S K := by
 cases e with
 | nott e => exact E.tr h M zk λ b s S h M => k _ _ _ h M
 | andd es =>
   cases es with
   | nil => exact k _ _ _ h M
   | cons e es =>
     refine E.tr h M zk λ b s S h M => ?_
     cases b with
     | true => exact E.tr h M zk k
     | false => exact k _ _ _ h M
 | orr es =>
   cases es with
   | nil => exact k _ _ _ h M
   | cons e es =>
     refine E.tr h M zk λ b s S h M => ?_
     cases b with
     | false => exact E.tr h M zk k
     | true => exact k _ _ _ h M
 | ite => exact h
 | _ => exact E.ev h M zk λ v s S h M => h.inv λ q hq h => Opt.of (zjs hq) (k _ _ _ h M)
theorem zAb (E : EqR r r') (F : TFlat T) {g : AV} {vs : List AV} (h : zob T r z g vs s K') (M : Em f S0 s S) (zk : Zk f z z') (k : KV2 f S0 K' K) : zob T r' z' (mV f g) (vs.map (mV f)) S K := by
 cases g with
 | bi b => exact Opt.inv h λ p hp h => (zMn M F hp).elim λ p' q => Opt.of q.1 (h.inv λ h1 h => Chk.of (q.2.ok h1) (q.2.val ▸ k _ _ _ h q.2.em))
 | old a =>
   change (match T.fn.get a with | some fd => _ | none => _) at h
   show (match T.fn.get a with | some fd => _ | none => _)
   cases hf : T.fn.get a with
   | some fd =>
     rw [hf] at h
     refine Opt.inv h λ b hb h => Opt.of (zvd (F.dfl _ _ hf) hb) ?_
     have c := zov (f := f) (S0 := S0) b (cs := fd.cel) (Γ := []) M
     have := E.execs h c.2 zk k.fl
     rw [← c.1, ← show (b.map (mP f)).filter (λ p => !fd.cel.contains p.1) = (b.filter λ p => !fd.cel.contains p.1).map (mP f) from List.filter_map] at this
     exact this
   | none =>
     rw [hf] at h
     refine Opt.inv h λ cd hc h => Opt.of hc (h.inv λ i hi h => Opt.of hi ?_)
     have := E.callv (K := λ v st2 => Chk v.isN (K (.ref (S.n + 1)) st2)) h ((M.add _).add _) zk λ v s2 S2 h M2 => h.inv λ hn h => Chk.of (zxe.trans hn) (M.at1 ▸ k _ _ _ h M2)
     rw [show mO f (.inst a s.n) = .inst a S.n from congrArg (AO.inst a) M.at0, List.map_cons, show mV f (.ref (s.n + 1)) = .ref (S.n + 1) from congrArg AV.ref M.at1] at this
     exact this
 | ref i =>
   refine Opt.inv h λ p hp h => Opt.of (M.fu hp) (h.inv λ nd hn h => Opt.of hn (h.inv λ hf h => Chk.of ?_ (h.inv λ b hb h => Opt.of (zvd rfl hb) ?_)))
   · refine List.all_eq_true.mpr λ x hx => ?_
     obtain ⟨i, hi⟩ := Option.isSome_iff_exists.mp (List.all_eq_true.mp hf x hx)
     show (lk x (p.2.map (mQ f))).isSome = true
     rw [lkC hi]; rfl
   · revert h
     cases nd.lam with
     | none => exact λ h => E.execs h M zk k.fl
     | some e => exact λ h => E.ev h M zk k
 | _ => exact False.elim h
theorem zzw (E : EqR r r') {elt : PE} {tup : Bool} {xs : List Nat} {ifs : List PE} {src : Src} {acc : List AV} (h : zn9 r z Γ σ elt tup xs ifs src acc s K') (M : Em f S0 s S) (zk : Zk f z z') (k : KV2 f S0 K' K) : zn9 r' z' (Γ.map (mQ f)) (σ.map (mP f)) elt tup xs ifs (mS f src) (acc.map (mV f)) S K :=
 Opt.inv h λ o ho h => Opt.of (zre M ho) (Chk.inv h λ hl h => Chk.of ((List.length_map (as := acc) (mV f)).symm ▸ hl) (by
   cases o with
   | none => exact k.add h M
   | some p =>
     refine Opt.inv h λ q hq h => (zqy zk M hq).elim λ S' c => Opt.of c.1 (E.tr h c.2 zk λ b s S h M => ?_)
     cases b with
     | true =>
       refine E.ev h M zk λ v s S h M => ?_
       have := E.cloop h M zk k
       rw [List.map_append] at this
       exact this
     | false => exact E.cloop h M zk k))
theorem zEr (E : EqR r r') {e : PS} {K' K : KX} (h : zd9 T r z Γ σ e s K') (M : Em f S0 s S) (zk : Zk f z z') (k : KX2 f S0 K' K) : zd9 T r' z' (Γ.map (mQ f)) (σ.map (mP f)) e S K := by
 cases e with
 | exp e => exact E.ev h M zk λ v s S h M => k _ _ _ _ h M
 | ret e => exact E.ev h M zk λ v s S h M => k _ _ _ _ h M
 | rtn => exact k _ _ _ _ h M
 | asg x e => exact E.ev h M zk λ v s S h M => zr7 (f := f) x σ ▸ k _ _ _ _ h M
 | asc x e => exact E.ev h M zk λ v s S h M => h.inv λ i hi h => Opt.of (lkC hi) (h.inv λ o ho h => Opt.of (M.cl ho) (h.inv λ hz h => Chk.of (lbx (zk _ (blx hz))) (k _ _ _ _ h (M.set i (.cell (some v))))))
 | ast ts e => exact E.ev h M zk λ v s S h M => h.inv λ i hi h => Opt.of (zh3 hi) (h.inv λ vs hv h => Opt.of (M.tp hv) (h.inv λ q hq h => (zuu zk M hq).elim λ S' c => Opt.of c.1 (k _ _ _ _ h c.2)))
 | asa o a e => exact E.ev h M zk λ v s S h M => E.ev h M zk λ o s S h M => h.inv λ s2 hs h => zEe M zk hs λ S' e M => Opt.of e (k _ _ _ _ h M)
 | asi o i e => exact E.ev h M zk λ v s S h M => E.ev h M zk λ o s S h M => E.ev h M zk λ i s S h M => h.inv λ s2 hs h => zEj M zk hs λ S' e M => Opt.of e (k _ _ _ _ h M)
 | aug x op e => exact Opt.inv h λ old ho h => Opt.of (lkV ho) (E.ev h M zk λ v s S h M => h.inv λ w hw h => Opt.of (zI2 hw) (zr7 (f := f) x σ ▸ k _ _ _ _ h M))
 | iff c a b =>
   refine E.tr h M zk λ q s S h M => ?_
   cases q with
   | true => exact E.execs h M zk k
   | false => exact E.execs h M zk k
 | whl c b => exact E.wloop h M zk k
 | fr tup xs iter b => exact E.ev h M zk λ v s S h M => h.inv λ src hs h => Opt.of (zw6 M hs) (h.inv λ hk h => Chk.of (by cases src <;> exact hk) (E.floop h M zk k))
 | dfn x n => exact Opt.inv h λ nd hn h => Opt.of hn (h.inv λ cl hc h => Opt.of (zi4 hc) (by
     have := k _ _ _ _ h (M.add (.fn n cl))
     rw [zr7, show mV f (.ref s.n) = .ref S.n from congrArg AV.ref M.at0] at this
     exact this))
 | bad => exact h
theorem zzc (E : EqR r r') {ss : List PS} {K' K : KX} (h : zvf r z Γ σ ss s K') (M : Em f S0 s S) (zk : Zk f z z') (k : KX2 f S0 K' K) : zvf r' z' (Γ.map (mQ f)) (σ.map (mP f)) ss S K := by
 cases ss with
 | nil => exact k _ _ _ _ h M
 | cons e es =>
   refine E.exec h M zk λ fl σ s S h M => ?_
   cases fl with
   | next => exact E.execs h M zk k
   | ret v => exact k _ _ _ _ h M
theorem zAw (E : EqR r r') {c : PE} {b : List PS} {K' K : KX} (h : zwi r z Γ σ c b s K') (M : Em f S0 s S) (zk : Zk f z z') (k : KX2 f S0 K' K) : zwi r' z' (Γ.map (mQ f)) (σ.map (mP f)) c b S K := by
 refine E.tr h M zk λ q s S h M => ?_
 cases q with
 | false => exact k _ _ _ _ h M
 | true =>
   refine E.execs h M zk λ fl σ s S h M => ?_
   cases fl with
   | next => exact E.wloop h M zk k
   | ret v => exact k _ _ _ _ h M
theorem zz9 (E : EqR r r') {tup : Bool} {xs : List (Bool × Nat)} {src : Src} {b : List PS} {K' K : KX} (h : zo4 r z Γ σ tup xs src b s K') (M : Em f S0 s S) (zk : Zk f z z') (k : KX2 f S0 K' K) : zo4 r' z' (Γ.map (mQ f)) (σ.map (mP f)) tup xs (mS f src) b S K :=
 Opt.inv h λ o ho h => Opt.of (zre M ho) (by
   cases o with
   | none => exact k _ _ _ _ h M
   | some p =>
     refine Opt.inv h λ q hq h => (zqy zk M hq).elim λ S' c => Opt.of c.1 (E.execs h c.2 zk λ fl σ s S h M => ?_)
     cases fl with
     | next => exact E.floop h M zk k
     | ret v => exact k _ _ _ _ h M)
theorem zDj (E : EqR r r') (F : TFlat T) : EqR (zC6 T r) (zC6 T r') := ⟨zMq E F, zJ4 E, zLq E, zAb E F, zzw E, zEr E, zzc E, zAw E, zz9 E⟩
theorem zLg : EqR bot r' := ⟨λ h => False.elim h, λ h => False.elim h, λ h => False.elim h, λ h => False.elim h, λ h => False.elim h, λ h => False.elim h, λ h => False.elim h, λ h => False.elim h, λ h => False.elim h⟩
theorem zFw (F : TFlat T) (m : Nat) : ∀ n, EqR (mk T n) (mk T (m + n))
 | 0 => zLg
 | n + 1 => zDj (zFw F m n) F
end
theorem ze3 {α : Type} : ∀ {l : List α} {i : Nat} {x : α}, nth l i = some x → l[i]? = some x
 | [], _, _, h => nn h
 | y :: l, 0, _, h => h
 | y :: l, i + 1, _, h => ze3 (l := l) h
theorem za6 {α : Type} : ∀ (l : List α) (i : Nat), nth l i = l[i]?
 | [], i => rfl
 | x :: l, 0 => rfl
 | x :: l, i + 1 => za6 l i
structure IsRow (s : Store) (l : List AO) : Prop where
 n : s.n = l.length
 get : ∀ i, s.get i = l[i]?
theorem IsRow.add {s : Store} {l : List AO} (h : IsRow s l) (o : AO) : IsRow (s.add o) (l ++ [o]) where
 n := by rw [List.length_append]; exact congrArg Nat.succ h.n
 get := λ i => by
   rw [Store.get_add, h.n, h.get]
   by_cases e : i = l.length
   · rw [if_pos e, e, List.getElem?_append_right (Nat.le_refl _), Nat.sub_self]; rfl
   · rw [if_neg e]
     rcases Nat.lt_or_gt_of_ne e with q | q
     · exact (List.getElem?_append_left q).symm
     · rw [List.getElem?_eq_none (Nat.le_of_lt q), List.getElem?_eq_none]
       rw [List.length_append]; exact q
theorem zrx (l : List AO) : IsRow (Store.ofList l) l := by
 have key : ∀ (l p : List AO) (s : Store), IsRow s p → IsRow (l.foldl Store.add s) (p ++ l) := by
   intro l
   induction l with
   | nil => intro p s h; rw [List.append_nil]; exact h
   | cons o l ih =>
     intro p s h
     have := ih (p ++ [o]) (s.add o) (h.add o)
     rw [List.append_assoc] at this
     exact this
 exact key l [] ⟨.nil, 0⟩ ⟨rfl, λ i => rfl⟩
noncomputable def adr (as : List Nat) (N i : Nat) : Nat := match nth as i with
 | some a => a
 | none => N + (i - as.length)
noncomputable def zo0 (S : Store) (f : Nat → Nat) : List Nat → List AO → Prop
 | [], l => l = []
 | a :: as, l => match l with
   | [] => False
   | o :: l => S.get a = some (mO f o) ∧ zo0 S f as l
theorem zgq {S : Store} {f : Nat → Nat} : ∀ {as : List Nat} {l : List AO}, zo0 S f as l → as.length = l.length
 | [], _, h => by cases h; rfl
 | _ :: _, [], h => h.elim
 | _ :: as, _ :: l, h => congrArg Nat.succ (zgq h.2)
theorem zrm {S : Store} {f : Nat → Nat} : ∀ {as : List Nat} {l : List AO} {i : Nat} {o : AO}, zo0 S f as l → l[i]? = some o → ∃ a, nth as i = some a ∧ S.get a = some (mO f o)
 | [], _, _, _, h, e => by cases h; exact nn e
 | _ :: _, [], _, _, h, _ => h.elim
 | a :: as, o :: l, 0, _, h, e => by cases e; exact ⟨a, rfl, h.1⟩
 | a :: as, o :: l, i + 1, _, h, e => zrm (as := as) (l := l) h.2 e
theorem zGj {S : Store} {as : List Nat} {l : List AO} (h : zo0 S (adr as S.n) as l) (hn : as.Nodup) (hl : ∀ a ∈ as, a < S.n) : Em (adr as S.n) S (Store.ofList l) S where
 get := λ i o e => by
   rw [(zrx l).get] at e
   obtain ⟨a, h1, h2⟩ := zrm h e
   show S.get (match nth as i with | some a => a | none => _) = _
   rw [h1]; exact h2
 new := λ k => by
   have : nth as (as.length + k) = none := by rw [za6]; exact List.getElem?_eq_none (zft _ _)
   rw [(zrx l).n, ← zgq h]
   show (match nth as (as.length + k) with | some a => a | none => _) = _
   rw [this]
   show S.n + (as.length + k - as.length) = _
   rw [Nat.add_sub_cancel_left]
 inj := λ i j e => by
   have none_ge : ∀ {i}, nth as i = none → as.length ≤ i := λ h => by rw [za6] at h; exact List.getElem?_eq_none_iff.mp h
   have some_lt : ∀ {i a}, nth as i = some a → a < S.n := λ h => hl _ (List.mem_of_getElem? (ze3 h))
   unfold adr at e
   cases hi : nth as i with
   | some a =>
     cases hj : nth as j with
     | some b =>
       rw [hi, hj] at e
       have e : a = b := e
       have h1 := ze3 hi
       have h2 := ze3 hj
       rw [← e] at h2
       have l1 := (List.getElem?_eq_some_iff.mp h1).1
       exact (List.getElem?_inj l1 hn).mp (h1.trans h2.symm)
     | none =>
       rw [hi, hj] at e
       have e : a = S.n + (j - as.length) := e
       exact absurd (e ▸ some_lt hi) (Nat.not_lt.mpr (zft _ _))
   | none =>
     cases hj : nth as j with
     | some b =>
       rw [hi, hj] at e
       have e : S.n + (i - as.length) = b := e
       exact absurd (e ▸ some_lt hj) (Nat.not_lt.mpr (zft _ _))
     | none =>
       rw [hi, hj] at e
       have e : S.n + (i - as.length) = S.n + (j - as.length) := e
       have e := Nat.add_left_cancel e
       rw [← Nat.sub_add_cancel (none_ge hi), ← Nat.sub_add_cancel (none_ge hj), e]
 fr := λ j _ => rfl
theorem zuo : TFlat tbl := ⟨λ a xs h => zfw zBl (p := λ _ xs => xs.all AV.flat) (by kernel_rfl) a xs h, λ a fd h => zfw zF8 (p := λ _ fd => fd.dfl.all AV.flat) (by kernel_rfl) a fd h⟩
section
variable {f : Nat → Nat} {S0 s S : Store} {n m : Nat} {Γ : zaw} {σ : zaf}
theorem zk0 : Zk f 0 0 := λ i _ => Nat.zero_le _
theorem ze0 {g : AV} {vs : List AV} {K' K : KV} (h : (mk tbl n).callv 0 g vs s K') (M : Em f S0 s S) (k : KV2 f S0 K' K) : (mk tbl (m + n)).callv 0 (mV f g) (vs.map (mV f)) S K := (zFw zuo m n).callv h M zk0 k
theorem zcn {b : List PS} {K' K : KX} (h : (mk tbl n).execs 0 Γ σ b s K') (M : Em f S0 s S) (k : KX2 f S0 K' K) : (mk tbl (m + n)).execs 0 (Γ.map (mQ f)) (σ.map (mP f)) b S K := (zFw zuo m n).execs h M zk0 k
structure Keep (X : Nat → Prop) (S S' : Store) : Prop where
 n : S.n ≤ S'.n
 get : ∀ j o, ¬ X j → j < S.n → S.get j = some o → S'.get j = some o
theorem Keep.refl (X : Nat → Prop) (S : Store) : Keep X S S := ⟨Nat.le_refl _, λ _ _ _ _ e => e⟩
theorem Keep.trans {X : Nat → Prop} {a b c : Store} (x : Keep X a b) (y : Keep X b c) : Keep X a c := ⟨ltx x.n y.n, λ j o h l e => y.get j o h (llx l x.n) (x.get j o h l e)⟩
theorem Em.keep {as : List Nat} {s' S' : Store} (M : Em (adr as S.n) S s' S') (h : as.length ≤ s'.n) : Keep (· ∈ as) S S' where
 n := by
   obtain ⟨k, e⟩ := Nat.le.dest h
   have a := M.new 0
   have : nth as (s'.n + 0) = none := by rw [za6]; exact List.getElem?_eq_none h
   unfold adr at a
   rw [this] at a
   have a : S.n + (s'.n - as.length) = S'.n := a
   exact a ▸ zft _ _
 get := λ j o hx hl e => by
   rw [M.fr j λ i q => ?_]
   · exact e
   · unfold adr at q
     cases hi : nth as i with
     | some a => rw [hi] at q; exact hx ((show a = j from q) ▸ List.mem_of_getElem? (ze3 hi))
     | none => rw [hi] at q; exact absurd hl (Nat.not_lt.mpr ((show S.n + (i - as.length) = j from q) ▸ zft _ _))
end
noncomputable def zk7 (a b : Int) : AO := .list [.int a, .int b]
noncomputable def nxt (b : Int) : Int := (b * 39373 + 7).fmod 2147483647
theorem zzj (a b top : Int) (K : KV) : (mk tbl 40).callv 0 (.old 1654) [.ref 0, .int top] (Store.ofList [zk7 a b]) K = (match decide (0 < a) with
   | true => Chk (!decide (top = 0)) (Chk (!decide (top = 0) && small top) (K (.int (a.fmod top)) (Store.ofList [zk7 (a.fdiv top) b])))
   | false => Chk (decide ((nxt b).natAbs < 2 ^ 60) || small (nxt b) && small (nxt b)) (Chk (!decide (top = 0)) (K (.int ((((nxt b * nxt b).fmod 2147483629).fdiv 32).fmod top)) (Store.ofList [zk7 a (nxt b)])))) := by kernel_rfl
structure Drawn (top : Nat) (v : AV) (s : Store) (j : Nat) (a b : Int) : Prop where
 lt : j < top
 val : v = .int j
 st : s = Store.ofList [zk7 a b]
theorem zys {i : Int} (h : i.natAbs < 2 ^ 60) : small i = true := decide_eq_true (llx h (Nat.pow_le_pow_right (n := 2) (Nat.le_succ 1) (blx rfl)))
theorem zmg {x : Int} {top : Nat} (h : 0 < top) : ∃ j : Nat, j < top ∧ x.fmod top = j := by
 have h1 : (0 : Int) < top := Int.ofNat_lt.mpr h
 rw [Int.fmod_eq_emod_of_nonneg x (Int.le_of_lt h1)]
 have h2 := Int.emod_nonneg x (Int.ne_of_gt h1)
 have h3 := Int.emod_lt_of_pos x h1
 obtain ⟨j, e⟩ := Int.eq_ofNat_of_zero_le h2
 rw [e] at h3
 exact ⟨j, Int.ofNat_lt.mp h3, e⟩
theorem zte {a b : Int} {top : Nat} (h : 0 < top) (hs : top ≤ 1000) : (mk tbl 40).callv 0 (.old 1654) [.ref 0, .int top] (Store.ofList [zk7 a b]) λ v s => ∃ j a b, Drawn top v s j a b := by
 have n0 : (!decide ((top : Int) = 0)) = true := by rw [decide_eq_false (p := (top : Int) = 0) (λ e => absurd (Int.ofNat.inj e) (Nat.ne_of_gt h))]; rfl
 have ns : small (top : Int) = true := zys (Nat.lt_of_le_of_lt hs (by decide))
 rw [zzj]
 cases decide (0 < a) with
 | true =>
   obtain ⟨j, hj, e⟩ := zmg (x := a) h
   exact Chk.of n0 (Chk.of (by rw [n0, ns]; rfl) ⟨j, _, b, hj, by rw [e], rfl⟩)
 | false =>
   obtain ⟨j, hj, e⟩ := zmg (x := ((nxt b * nxt b).fmod 2147483629).fdiv 32) h
   obtain ⟨i, hi, e2⟩ := zmg (x := b * 39373 + 7) (top := 2147483647) (by decide)
   refine Chk.of ?_ (Chk.of n0 ⟨j, a, _, hj, by rw [e], rfl⟩)
   have : (nxt b).natAbs < 2 ^ 60 := by
     rw [show nxt b = (i : Int) from e2]
     exact Nat.lt_trans hi (by decide)
   rw [decide_eq_true this]; rfl
theorem zu5 {S : Store} {src top : Nat} {a b : Int} {K : KV} (hS : S.get src = some (zk7 a b)) (hl : src < S.n) (h : 0 < top) (hs : top ≤ 1000) (k : ∀ (j : Nat) a' b' S', j < top → S'.get src = some (zk7 a' b') → Keep (· ∈ [src]) S S' → K (.int j) S') (m : Nat) :
   (mk tbl (m + 40)).callv 0 (.old 1654) [.ref src, .int top] S K :=
 ze0 (zte h hs) (zGj (as := [src]) (l := [zk7 a b]) ⟨hS, rfl⟩ (List.pairwise_singleton _ _) λ x hx => msx hx ▸ hl) λ v s S' ⟨j, a', b', D⟩ M => by
   cases D.val
   cases D.st
   exact k j a' b' S' D.lt (M.get 0 (zk7 a' b') rfl) (M.keep (Nat.le_refl 1))
theorem zE7 (m s t : Nat) (S : Store) (K : KV) : (mk tbl (m + 60)).callv 0 (.old 1661) [.ref s, .ref t] S K = Opt (biv tbl .len [.ref t] S) λ p => Chk p.1 ((mk tbl (m + 55)).callv 0 (.old 1654) [.ref s, p.2.1] p.2.2 λ i st => Opt (zem tbl st (.ref t) i) λ v => K v st) := by kernel_rfl
theorem zl4 {α : Type} {l : List α} {j : Nat} (h : j < l.length) : zhf l (j : Int) = l[j]? := by
 have e : pix (j : Int) l.length = some j := by
   unfold pix
   rw [if_pos (Int.natCast_nonneg j), if_pos (show (j : Int).toNat < l.length from h)]; rfl
 unfold zhf
 rw [e]
 exact za6 l j
theorem zJ2 {S : Store} {s t : Nat} {a b : Int} {xs : List AV} {K : KV} (hS : S.get s = some (zk7 a b)) (hl : s < S.n) (ht : S.get t = some (.list xs)) (lt : t < S.n) (ne : t ≠ s) (h : 0 < xs.length) (hs : xs.length ≤ 1000)
   (k : ∀ v a' b' S', v ∈ xs → S'.get s = some (zk7 a' b') → Keep (· ∈ [s]) S S' → K v S') (m : Nat) : (mk tbl (m + 60)).callv 0 (.old 1661) [.ref s, .ref t] S K := by
 rw [zE7]
 have e : zb1 tbl S (.ref t) = some xs := by show (S.get t).bind AO.toLT = _; rw [ht]; rfl
 refine Opt.of (a := (true, .int xs.length, S)) (by show (zb1 tbl S (.ref t)).map _ = _; rw [e]; rfl) (Chk.of rfl (zu5 hS hl h hs (λ j a' b' S' hj h1 hk => ?_) (m + 15)))
 have e2 : zb1 tbl S' (.ref t) = some xs := by show (S'.get t).bind AO.toLT = _; rw [hk.get t _ (λ q => ne (msx q)) lt ht]; rfl
 refine Opt.of (a := xs[j]) ?_ (k _ a' b' S' (List.getElem_mem hj) h1 hk)
 show (zb1 tbl S' (.ref t)).bind _ = _
 rw [e2]
 exact (zl4 hj).trans (List.getElem?_eq_getElem hj)
section
variable {T : Tbl} {z : Nat} {Γ : zaw} {elt : PE} {x : Nat} {K : KV}
theorem zb7 {n : Nat} {Γ : zaw} {b : List PS} {K : KX} : ∀ (a : List PS) (σ : zaf) (S : Store), (mk T (n + 1 + a.length)).execs z Γ σ (a ++ b) S K = (mk T (n + 1 + a.length)).execs z Γ σ a S λ fl σ st => match fl with
   | .next => (mk T (n + 1)).execs z Γ σ b st K
   | .ret v => K (.ret v) σ st
 | [], _, _ => rfl
 | s :: a, σ, S => congrArg (λ k => (mk T (n + 1 + a.length)).exec z Γ σ s S k) (funext λ fl => funext λ σ => funext λ st => by
   cases fl with
   | next => exact zb7 a σ st
   | ret => rfl)
theorem Em.lt {f : Nat → Nat} {S0 s S : Store} (M : Em f S0 s S) {i : Nat} (h : i < s.n) : f i < S.n := Nat.lt_of_not_le λ q => by
 obtain ⟨k, e⟩ := Nat.le.dest q
 have := M.inj _ _ ((M.new k).trans e)
 exact absurd h (Nat.not_lt.mpr (this ▸ zft _ _))
theorem zE9 {Γ : zaw} {σ : zaf} {a : Int} {s n k : Nat} {acc : List AV} {S : Store} : (mk T (k + 2)).cloop z Γ σ elt false [x] [] (.rng a s (n + 1)) acc S K = Chk (Nat.ble acc.length 1000) ((mk T (k + 1)).ev z Γ (putL x (.int a) σ) elt S λ v st => (mk T (k + 1)).cloop z Γ (putL x (.int a) σ) elt false [x] [] (.rng (a + s) s n) (acc ++ [v]) st K) := by kernel_rfl
theorem znm {c : Nat} {Inv : List AV → Store → Prop} (step : ∀ σ acc S K m, Inv acc S → (∀ v S', Inv (acc ++ [v]) S' → K v S') → (mk T (m + c)).ev z Γ σ elt S K) :
   ∀ (n m : Nat) (a : Int) (s : Nat) (σ : zaf) (acc : List AV) (S : Store), acc.length + n ≤ 1000 → Inv acc S → (∀ vs S', vs.length = n → Inv (acc ++ vs) S' → K (.ref S'.n) (S'.add (.list (acc ++ vs)))) → (mk T (m + c + n + 2)).cloop z Γ σ elt false [x] [] (.rng a s n) acc S K := by
 intro n
 induction n with
 | zero => exact λ m a s σ acc S hl I k => Chk.of (lbx hl) (by have := k [] S rfl (by rw [List.append_nil]; exact I); rw [List.append_nil] at this; exact this)
 | succ n ih =>
   intro m a s σ acc S hl I k
   rw [show m + c + (n + 1) + 2 = m + c + n + 1 + 2 from rfl, zE9]
   refine Chk.of (lbx (ltx (zft _ _) hl)) ?_
   have e : m + c + n + 2 = m + n + 2 + c := by rw [Nat.add_right_comm m c n, Nat.add_right_comm (m + n) c 2]
   rw [show m + c + n + 1 + 1 = m + n + 2 + c from e]
   refine step _ acc S _ _ I λ v S' I' => ?_
   rw [← e]
   refine ih m (a + s) s _ (acc ++ [v]) S' (by rw [List.length_append, Nat.add_assoc, Nat.add_comm [v].length]; exact hl) I' λ vs S2 h I2 => ?_
   rw [List.append_assoc] at I2 ⊢
   exact k (v :: vs) S2 (congrArg Nat.succ h) I2
end
abbrev T3 := List Nat × List Nat × List Nat
noncomputable def t3 (t : T3) : AO := .tup [.str t.1, .str t.2.1, .str t.2.2]
noncomputable def wEl : List Nat := [101, 108, 101, 109, 101, 110, 116]
noncomputable def wIn : List Nat := [105, 110, 115, 116, 114, 117, 99, 116, 105, 111, 110]
noncomputable def wCo : List Nat := [99, 111, 109, 109, 101, 110, 116]
noncomputable def wTe : List Nat := [116, 101, 120, 116]
noncomputable def zec : List T3 := [(wEl, [97], []), (wEl, [112, 58, 97], [117, 58, 49]), (wEl, [113, 58, 97], [117, 58, 50]), (wEl, [114, 58, 97], [117, 58, 49]), (wEl, [98], []), (wEl, [112, 58, 98], [117, 58, 49]), (wIn, [97], []), (wIn, [98], []), (wCo, [], []), (wTe, [], [])]
noncomputable def zFv : List Nat := [2, 3, 4, 5, 7, 8, 9, 10, 13, 14]
noncomputable def zH5 (src : Nat) : KX := λ fl σ s => (fl, σ, s.n, s.get 0, s.get 1, s.get 16, zFv.map s.get) = (.next, [], 17, some (.cell (some (.ext src))), some (.cell (some (.ref 16))), some (.list (zFv.map .ref)), zec.map λ t => some (t3 t))
theorem zCh (src : Nat) : (mk tbl 60).execs 0 [(zcw, 1), (zae, 0)] [] (za7.body.take 3) (Store.ofList [.cell (some (.ext src)), .cell none]) (zH5 src) = ((FL.next, ([] : zaf), 17, some (AO.cell (some (.ext src))), some (AO.cell (some (.ref 16))), some (AO.list (zFv.map .ref)), zec.map λ t => some (t3 t)) = (FL.next, ([] : zaf), 17, some (AO.cell (some (.ext src))), some (AO.cell (some (.ref 16))), some (AO.list (zFv.map .ref)), zec.map λ t => some (t3 t))) := by kernel_rfl
theorem zAv (src : Nat) : (mk tbl 60).execs 0 [(zcw, 1), (zae, 0)] [] (za7.body.take 3) (Store.ofList [.cell (some (.ext src)), .cell none]) (zH5 src) := (zCh src).mpr rfl
theorem zFm (m i0 i1 : Nat) (S : Store) (K : KX) : (mk tbl (m + 80)).execs 0 [(zcw, i1), (zae, i0)] [] (za7.body.drop 3) S K =
   Opt (S.cl i0) λ o => Opt o λ v => (mk tbl (m + 73)).callv 0 (.old 1654) [v, .int 7] S λ k st => Opt (zDq .add (.int 1) k st) λ p => Chk p.1 (Opt (biv tbl .range [p.2.1] p.2.2) λ q => Chk q.1 (Opt (zeh q.2.2 q.2.1) λ src =>
     (mk tbl (m + 77)).cloop (zrf src 0 q.2.2) [(zcw, i1), (zae, i0)] [] (.call (.glb zbd (.old 1661)) [(.cel zae), (.cel zcw)]) false [ze7] [] src [] q.2.2 λ v st => K (.ret v) [] st)) := by kernel_rfl
theorem zD4 (m z i0 i1 : Nat) (σ : zaf) (S : Store) (K : KV) : (mk tbl (m + 10)).ev z [(zcw, i1), (zae, i0)] σ (.call (.glb zbd (.old 1661)) [(.cel zae), (.cel zcw)]) S K =
   Opt (S.cl i0) λ o => Opt o λ v => Opt (S.cl i1) λ o => Opt o λ w => (mk tbl (m + 9)).callv z (.old 1661) [v, w] S K := by kernel_rfl
def Lies (S : Store) (j : Nat) (o : AO) : Prop := S.get j = some o ∧ j < S.n
noncomputable def AO.isL : AO → Bool | .list _ => true | _ => false
structure Kept (X : List Nat) (S S' : Store) : Prop where
 n : S.n ≤ S'.n
 at' : ∀ {j : Nat} {o : AO}, Lies S j o → (o.isL = true → j ∉ X) → Lies S' j o
inductive All2 {α β : Type} (R : α → β → Prop) : List α → List β → Prop
 | nil : All2 R [] []
 | cons {a : α} {b : β} {as : List α} {bs : List β} : R a b → All2 R as bs → All2 R (a :: as) (b :: bs)
section
variable {α β : Type} {R R' : α → β → Prop} {as : List α} {bs : List β} {a : α} {b : β}
theorem All2.mono (h : All2 R as bs) (f : ∀ a b, R a b → R' a b) : All2 R' as bs := by
 induction h with
 | nil => exact .nil
 | cons x _ ih => exact .cons (f _ _ x) ih
theorem All2.snoc (h : All2 R as bs) (x : R a b) : All2 R (as ++ [a]) (bs ++ [b]) := by
 induction h with
 | nil => exact .cons x .nil
 | cons y _ ih => exact .cons y ih
theorem All2.len (h : All2 R as bs) : as.length = bs.length := by
 induction h with
 | nil => rfl
 | cons _ _ ih => exact congrArg Nat.succ ih
theorem All2.get (h : All2 R as bs) : ∀ {i : Nat}, bs[i]? = some b → ∃ a, as[i]? = some a ∧ R a b := by
 induction h with
 | nil => intro i e; exact nn e
 | cons y _ ih =>
   intro i e
   cases i with
   | zero => cases e; exact ⟨_, rfl, y⟩
   | succ i => exact ih e
end
section
variable {S S' S2 : Store} {X : List Nat} {src j top : Nat} {o : AO} {K : KV} {xs : List AV}
theorem Kept.refl : Kept X S S := ⟨Nat.le_refl _, λ h _ => h⟩
theorem Kept.trans (a : Kept X S S') (b : Kept X S' S2) : Kept X S S2 := ⟨ltx a.n b.n, λ h f => b.at' (a.at' h f) f⟩
theorem Kept.sub {Y : List Nat} (a : Kept X S S') (h : ∀ x, x ∈ X → x ∈ Y) : Kept Y S S' := ⟨a.n, λ e f => a.at' e λ l m => f l (h _ m)⟩
theorem Kept.new {Y : List Nat} (a : Kept X S S') (h : ∀ x, x ∈ X → S.n ≤ x ∨ x ∈ Y) : Kept Y S S' := ⟨a.n, λ e f => a.at' e λ l m => (h _ m).elim (λ q => absurd e.2 (Nat.not_lt.mpr q)) (f l)⟩
theorem Lies.add (h : Lies S j o) (o' : AO) : Lies (S.add o') j o := ⟨by rw [Store.get_add, if_neg (Nat.ne_of_lt h.2)]; exact h.1, Nat.lt_succ_of_lt h.2⟩
theorem Lies.new (S : Store) (o : AO) : Lies (S.add o) S.n o := ⟨by rw [Store.get_add, if_pos rfl], Nat.lt_succ_self _⟩
theorem Kept.add (o : AO) : Kept X S (S.add o) := ⟨Nat.le_succ _, λ h _ => h.add o⟩
theorem Keep.toL (k : Keep (· ∈ X) S S') (h : ∀ x, x ∈ X → ∃ xs, S.get x = some (.list xs)) : Kept X S S' := ⟨k.n, λ {j o} e f => ⟨k.get _ _ (λ m => by
 obtain ⟨xs, q⟩ := h _ m
 rw [e.1] at q
 cases q
 exact f rfl m) e.2 e.1, llx e.2 k.n⟩⟩
def IsSrc (S : Store) (s : Nat) : Prop := ∃ a b, Lies S s (zk7 a b)
theorem znu (h : IsSrc S src) (h0 : 0 < top) (hs : top ≤ 1000) (m : Nat) (k : ∀ (j : Nat) S', j < top → IsSrc S' src → Kept [src] S S' → K (.int j) S') : (mk tbl (m + 40)).callv 0 (.old 1654) [.ref src, .int top] S K := by
 obtain ⟨a, b, e, l⟩ := h
 exact zu5 e l h0 hs (λ j a' b' S' hj h1 hk => k j S' hj ⟨a', b', h1, llx l hk.n⟩ (hk.toL λ x m => ⟨_, msx m ▸ e⟩)) m
theorem zs1 {t : Nat} (h : IsSrc S src) (ht : Lies S t (.list xs)) (ne : t ≠ src) (h0 : 0 < xs.length) (hs : xs.length ≤ 1000) (m : Nat) (k : ∀ v S', v ∈ xs → IsSrc S' src → Kept [src] S S' → K v S') : (mk tbl (m + 60)).callv 0 (.old 1661) [.ref src, .ref t] S K := by
 obtain ⟨a, b, e, l⟩ := h
 exact zJ2 e l ht.1 ht.2 ne h0 hs (λ v a' b' S' hj h1 hk => k v S' hj ⟨a', b', h1, llx l hk.n⟩ (hk.toL λ x m => ⟨_, msx m ▸ e⟩)) m
theorem IsSrc.keep (h : IsSrc S src) (k : Kept X S S') (n : src ∉ X) : IsSrc S' src := by
 obtain ⟨a, b, h⟩ := h
 exact ⟨a, b, k.at' h λ _ => n⟩
theorem zbo {T : Tbl} {a : Nat} {fd : FD} {vs : List AV} {b : zaf} (h : T.fn.get a = some fd) (e : zow fd.ps fd.dfl vs = some b) (n z : Nat) (S : Store) (K : KV) : (mk T (n + 1)).callv z (.old a) vs S K =
   (mk T n).execs z (zds fd.cel b [] S).1 (b.filter λ p => !fd.cel.contains p.1) fd.body (zds fd.cel b [] S).2 λ fl _ st => K (zck fl) st := by
 show zob T (mk T n) z (.old a) vs S K = _
 unfold zob
 simp only [h]
 rw [e]
 rfl
abbrev RowsF (S : Store) : List Nat → List T3 → Prop := All2 λ q t => Lies S q (t3 t)
theorem RowsF.keep {qs : List Nat} {ts : List T3} (r : RowsF S qs ts) (k : Kept X S S') : RowsF S' qs ts := r.mono λ _ _ h => k.at' h nb
noncomputable def AtL (S : Store) (f : Nat → Nat) : List Nat → List AO → Prop
 | [], l => l = []
 | a :: as, l => match l with
   | [] => False
   | o :: l => Lies S a (mO f o) ∧ AtL S f as l
theorem AtL.facts {f : Nat → Nat} : ∀ {as : List Nat} {l : List AO}, AtL S f as l → zo0 S f as l
 | [], _, h => h
 | _ :: _, [], h => h
 | _ :: as, _ :: l, h => ⟨h.1.1, AtL.facts (as := as) (l := l) h.2⟩
theorem AtL.lt {f : Nat → Nat} : ∀ {as : List Nat} {l : List AO}, AtL S f as l → ∀ a ∈ as, a < S.n
 | [], _, _, _, m => nomatch m
 | _ :: _, [], h, _, _ => h.elim
 | _ :: as, _ :: l, h, a, m => (List.mem_cons.mp m).elim (λ e => e ▸ h.1.2) (AtL.lt (as := as) (l := l) h.2 a)
theorem zgd {as : List Nat} {l : List AO} (h : AtL S (adr as S.n) as l) (hn : as.Nodup) : Em (adr as S.n) S (Store.ofList l) S := zGj h.facts hn h.lt
theorem Lies.em {f : Nat → Nat} {S0 s S : Store} (M : Em f S0 s S) {i : Nat} {o : AO} (h : s.get i = some o) (l : i < s.n) : Lies S (f i) (mO f o) := ⟨M.get _ _ h, M.lt l⟩
theorem Keep.new {as : List Nat} (k : Keep (· ∈ as) S2 S') (k0 : Kept X S S2) (h : ∀ a, a ∈ as → S.n ≤ a) : Kept X S S' := ⟨ltx k0.n k.n, λ e f => ⟨k.get _ _ (λ m => absurd e.2 (Nat.not_lt.mpr (h _ m))) (k0.at' e f).2 (k0.at' e f).1, llx (k0.at' e f).2 k.n⟩⟩
theorem zy4 : tbl.fn.get 1678 = some za7 := by kernel_rfl
end
section
variable {S S0 S' : Store} {src i0 i1 L : Nat} {qs : List Nat}
structure DrF (S : Store) (src i0 i1 L : Nat) (qs : List Nat) : Prop where
 sr : IsSrc S src
 c0 : Lies S i0 (.cell (some (.ref src)))
 c1 : Lies S i1 (.cell (some (.ref L)))
 li : Lies S L (.list (qs.map .ref))
 ne : L ≠ src
 rows : RowsF S qs zec
theorem DrF.keep (D : DrF S src i0 i1 L qs) (k : Kept [src] S S') (h : IsSrc S' src) : DrF S' src i0 i1 L qs where
 sr := h
 c0 := k.at' D.c0 nb
 c1 := k.at' D.c1 nb
 li := k.at' D.li λ _ m => D.ne (msx m)
 ne := D.ne
 rows := D.rows.keep k
structure DrI (S0 : Store) (src i0 i1 L : Nat) (qs : List Nat) (acc : List AV) (S : Store) (ps : List Nat) (ts : List T3) : Prop where
 fr : DrF S src i0 i1 L qs
 ac : acc = ps.map .ref
 rows : RowsF S ps ts
 mem : ∀ t ∈ ts, t ∈ zec
 keep : Kept [src] S0 S
theorem RowsF.mem {ts : List T3} (r : RowsF S qs ts) {v : AV} {G : Prop} (h : v ∈ qs.map AV.ref) (k : ∀ q t, v = .ref q → t ∈ ts → Lies S q (t3 t) → G) : G := by
 induction r with
 | nil => cases h
 | cons a _ ih =>
   rcases List.mem_cons.mp h with h | h
   · exact k _ _ h (.head _) a
   · exact ih h λ q t e m => k q t e (.tail _ m)
theorem zJ5 {σ : zaf} {acc : List AV} {K : KV} {m : Nat} (I : ∃ ps ts, DrI S0 src i0 i1 L qs acc S ps ts) (k : ∀ v S', (∃ ps ts, DrI S0 src i0 i1 L qs (acc ++ [v]) S' ps ts) → K v S') :
   (mk tbl (m + 61)).ev 0 [(zcw, i1), (zae, i0)] σ (.call (.glb zbd (.old 1661)) [(.cel zae), (.cel zcw)]) S K := by
 obtain ⟨ps, ts, I⟩ := I
 have D := I.fr
 rw [show m + 61 = m + 51 + 10 from rfl, zD4]
 refine Opt.of (by unfold Store.cl; rw [D.c0.1]; rfl) (Opt.of rfl (Opt.of (by unfold Store.cl; rw [D.c1.1]; rfl) (Opt.of rfl ?_)))
 have l10 : (qs.map AV.ref).length = 10 := by rw [List.length_map]; exact D.rows.len
 exact zs1 D.sr D.li D.ne (by rw [l10]; decide) (by rw [l10]; decide) m λ v S' hv h1 hk => (D.rows.keep hk).mem hv λ q t e mt hq => k v S' ⟨ps ++ [q], ts ++ [t], D.keep hk h1, by rw [List.map_append, I.ac, e]; rfl, (I.rows.keep hk).snoc hq, λ t' h => (List.mem_append.mp h).elim (I.mem t') λ h => msx h ▸ mt, I.keep.trans hk⟩
theorem zAy {K : KV} (h : IsSrc S src) (m : Nat) (k : ∀ ps ts S' R, Lies S' R (.list (ps.map .ref)) → RowsF S' ps ts → (∀ t ∈ ts, t ∈ zec) → 1 ≤ ts.length → ts.length ≤ 7 → IsSrc S' src → Kept [src] S S' → K (.ref R) S') :
   (mk tbl (m + 85)).callv 0 (.old 1678) [.ref src] S K := by
 rw [zbo (n := m + 84) (b := [(zae, .ref src)]) zy4 rfl]
 show (mk tbl (m + 80 + 1 + (za7.body.take 3).length)).execs 0 [(zcw, S.n + 1), (zae, S.n)] [] (za7.body.take 3 ++ za7.body.drop 3) ((S.add (.cell (some (.ref src)))).add (.cell none)) _
 rw [zb7]
 have h2 : IsSrc ((S.add (.cell (some (.ref src)))).add (.cell none)) src := by
   obtain ⟨a, b, h⟩ := h
   exact ⟨a, b, (h.add _).add _⟩
 have M0 := zgd (S := (S.add (.cell (some (.ref src)))).add (.cell none)) (as := [S.n, S.n + 1]) (l := [.cell (some (.ext src)), .cell none]) ⟨(Lies.new S _).add _, Lies.new (S.add _) _, rfl⟩ (List.nodup_cons.mpr ⟨λ e => absurd (msx e) (Nat.ne_of_lt (Nat.lt_succ_self _)), List.pairwise_singleton _ _⟩)
 refine zcn (f := adr [S.n, S.n + 1] (S.n + 2)) (Γ := [(zcw, 1), (zae, 0)]) (σ := []) (m := m + 24) (zAv src) M0 λ fl σ s S' hk M => ?_
 have en : s.n = 17 := congrArg (·.2.2.1) hk
 have l10 : ∀ i, i < 17 → i < s.n := λ i h => en ▸ h
 have g0 := Lies.em M (congrArg (·.2.2.2.1) hk : s.get 0 = _) (l10 0 (by decide))
 have g1 := Lies.em M (congrArg (·.2.2.2.2.1) hk : s.get 1 = _) (l10 1 (by decide))
 have g16 := Lies.em M (congrArg (·.2.2.2.2.2.1) hk : s.get 16 = _) (l10 16 (by decide))
 have gr : RowsF S' (zFv.map (adr [S.n, S.n + 1] (S.n + 2))) zec := by
   have := (congrArg (·.2.2.2.2.2.2) hk : zFv.map s.get = _)
   have key : ∀ (is : List Nat) (ts : List T3), is.map s.get = ts.map (λ t => some (t3 t)) → (∀ i ∈ is, i < 17) → RowsF S' (is.map (adr [S.n, S.n + 1] (S.n + 2))) ts := by
     intro is
     induction is with
     | nil => intro ts e _; cases ts with | nil => exact .nil | cons => cases e
     | cons i is ih =>
       intro ts e h
       cases ts with
       | nil => cases e
       | cons t ts =>
         injection e with e1 e2
         exact .cons (Lies.em M e1 (l10 i (h i (.head _)))) (ih ts e2 λ j m => h j (.tail _ m))
   exact key _ _ this (by decide)
 cases (congrArg (·.1) hk : fl = .next)
 cases (congrArg (·.2.1) hk : σ = [])
 have K1 : Kept [] S S' := (M.keep (as := [S.n, S.n + 1]) (l10 1 (by decide))).new (Kept.add _ |>.trans (Kept.add _)) λ a m => by rcases List.mem_cons.mp m with e | e; exact e ▸ Nat.le_refl _; exact msx e ▸ Nat.le_succ _
 have h3 : IsSrc S' src := h.keep K1 (λ m => nomatch m)
 show (mk tbl (m + 1 + 80)).execs 0 [(zcw, S.n + 1), (zae, S.n)] [] (za7.body.drop 3) S' _
 rw [zFm]
 refine Opt.of (by unfold Store.cl; rw [show S'.get S.n = _ from g0.1]; rfl) (Opt.of rfl (znu h3 (top := 7) (by decide) (by decide) (m + 34) λ j S2 hj h4 k4 => ?_))
 have D : DrF S2 src S.n (S.n + 1) _ _ := DrF.keep ⟨h3, g0, g1, List.map_map .. ▸ g16, λ e => ?_, gr⟩ k4 h4
 refine Opt.of rfl (Chk.of rfl (Opt.of rfl (Chk.of ?_ (Opt.of (by show ((S2.add _).get S2.n).bind _ = _; rw [(Lies.new S2 _).1]; rfl) ?_))))
 · have : (1 + (j : Int)) ≤ 7 := by lia
   have h7 : (-1000 : Int) ≤ 1 + (j : Int) ∧ 1 + (j : Int) ≤ 1000 := by lia
   show (decide (-1000 ≤ 1 + (j : Int)) && decide (1 + (j : Int) ≤ 1000)) = true
   rw [decide_eq_true h7.1, decide_eq_true h7.2]; rfl
 · obtain ⟨q, e⟩ := Nat.le.dest hj
   have e : j + 1 + q = 7 := e
   have e2 : m + 78 = m + q + 8 + 61 + (j + 1) + 2 := by lia
   have e3 : (1 + (j : Int)).toNat = j + 1 := by lia
   show (mk tbl (m + 78)).cloop 0 [(zcw, S.n + 1), (zae, S.n)] [] (.call (.glb zbd (.old 1661)) [(.cel zae), (.cel zcw)]) false [ze7] [] (.rng 0 1 (1 + (j : Int)).toNat) [] (S2.add (.rng 0 1 (1 + (j : Int)).toNat)) λ v st => K v st
   rw [e2, e3]
   refine znm (Inv := λ acc st => ∃ ps ts, DrI S src S.n (S.n + 1) _ _ acc st ps ts) (λ σ acc S K m I k => zJ5 I k) (j + 1) _ 0 1 [] [] _ (by show 0 + (j + 1) ≤ 1000; lia) ⟨[], [], D.keep (Kept.add _) (h4.keep (Kept.add (X := []) _) (λ m => nomatch m)), rfl, .nil, (λ t m => nomatch m), (K1.sub (λ x m => nomatch m)).trans (k4.trans (Kept.add _))⟩ λ vs S3 hl I => ?_
   obtain ⟨ps, ts, I⟩ := I
   have I2 : DrI S src S.n (S.n + 1) _ _ vs S3 ps ts := I
   rw [List.nil_append, I2.ac]
   have len : ts.length = j + 1 := by rw [← hl, I2.ac, List.length_map]; exact I2.rows.len.symm
   exact k ps ts _ _ (Lies.new _ _) (I2.rows.keep (Kept.add (X := []) _)) I2.mem (by rw [len]; exact Nat.succ_pos j) (by rw [len]; exact hj) (I2.fr.sr.keep (Kept.add (X := []) _) (λ m => nomatch m)) (I2.keep.trans (Kept.add _))
 · obtain ⟨a, b, q⟩ := h
   have e : S.n + 2 + 14 = src := e
   exact absurd q.2 (Nat.not_lt.mpr (e ▸ ltx (zft _ 2) (zft _ 14)))
end
section
variable {T : Tbl} {z c : Nat} {Γ : zaw} {elt : PE} {tup : Bool} {ys : List Nat} {zs : List (Bool × Nat)} {ifs : List PE} {xs : List AV} {Nx : Nat → Src} {b : List PS}
theorem zio {K : KV} {Inv : Nat → List AV → Store → Prop} (nx : ∀ k acc S, Inv k acc S → zfm S (Nx k) = some ((nth xs k).map λ v => (v, Nx (k + 1))))
   (step : ∀ k v acc σ S m, nth xs k = some v → Inv k acc S →
     ∃ σ', zgo z Γ tup (ys.map λ x => (false, x)) v σ S = some (σ', S) ∧ ∀ (K1 : KV) (K0 : Store → Prop), (∀ w S', Inv (k + 1) (acc ++ [w]) S' → K1 w S') → (∀ S', Inv (k + 1) acc S' → K0 S') → (mk T (m + c)).tr z Γ σ' (.andd ifs) S λ b st => match b with | true => (mk T (m + c)).ev z Γ σ' elt st K1 | false => K0 st) :
   ∀ (j k m : Nat) (σ : zaf) (acc : List AV) (S : Store), k + j = xs.length → acc.length + j ≤ 1000 → Inv k acc S → (∀ acc' S', Inv xs.length acc' S' → K (.ref S'.n) (S'.add (.list acc'))) → (mk T (m + c + j + 2)).cloop z Γ σ elt tup ys ifs (Nx k) acc S K := by
 intro j
 induction j with
 | zero =>
   intro k m σ acc S e hl I q
   cases (e : k = xs.length)
   show zn9 _ z Γ σ elt tup ys ifs (Nx xs.length) acc S K
   exact Opt.of ((nx _ _ _ I).trans (by rw [za6, List.getElem?_eq_none (Nat.le_refl _)])) (Chk.of (lbx hl) (q acc S I))
 | succ j ih =>
   intro k m σ acc S e hl I q
   have lt : k < xs.length := e ▸ Nat.lt_add_of_pos_right (Nat.succ_pos j)
   have ek : nth xs k = some xs[k] := (za6 _ _).trans (List.getElem?_eq_getElem lt)
   have e' : k + 1 + j = xs.length := (Nat.add_right_comm k 1 j).trans e
   obtain ⟨σ', e1, e2⟩ := step k _ acc σ S (m + (j + 1) + 1) ek I
   have e2 := e2 (λ v st => (mk T (m + c + j + 2)).cloop z Γ σ' elt tup ys ifs (Nx (k + 1)) (acc ++ [v]) st K) (λ st => (mk T (m + c + j + 2)).cloop z Γ σ' elt tup ys ifs (Nx (k + 1)) acc st K)
     (λ w S' I' => ih (k + 1) m σ' _ S' e' (by rw [List.length_append]; exact (Nat.add_right_comm acc.length 1 j) ▸ hl) I' q) (λ S' I' => ih (k + 1) m σ' acc S' e' (ltx (Nat.le_succ _) hl) I' q)
   rw [← (congrArg (· + 1) (Nat.add_right_comm m c (j + 1))).trans (Nat.add_right_comm (m + (j + 1)) c 1)] at e2
   show zn9 (mk T (m + c + (j + 1) + 1)) z Γ σ elt tup ys ifs (Nx k) acc S K
   exact Opt.of ((nx _ _ _ I).trans (by rw [ek])) (Chk.of (lbx (ltx (zft _ _) hl)) (Opt.of e1 e2))
theorem zel {K : KX} {Inv : Nat → zaf → Store → Prop} {Rt : AV → Store → Prop} (nx : ∀ k σ S, Inv k σ S → zfm S (Nx k) = some ((nth xs k).map λ v => (v, Nx (k + 1))))
   (step : ∀ k v σ S m, nth xs k = some v → Inv k σ S →
     ∃ σ', zgo z Γ tup zs v σ S = some (σ', S) ∧ ∀ K1 : KX, (∀ σ' S', Inv (k + 1) σ' S' → K1 .next σ' S') → (∀ w σ' S', Rt w S' → K1 (.ret w) σ' S') → (mk T (m + c)).execs z Γ σ' b S K1) :
   ∀ (j k m : Nat) (σ : zaf) (S : Store), k + j = xs.length → Inv k σ S → (∀ σ' S', Inv xs.length σ' S' → K .next σ' S') → (∀ w σ' S', Rt w S' → K (.ret w) σ' S') → (mk T (m + c + j + 2)).floop z Γ σ tup zs (Nx k) b S K := by
 intro j
 induction j with
 | zero =>
   intro k m σ S e I q q2
   cases (e : k = xs.length)
   show zo4 _ z Γ σ tup zs (Nx xs.length) b S K
   exact Opt.of ((nx _ _ _ I).trans (by rw [za6, List.getElem?_eq_none (Nat.le_refl _)])) (q σ S I)
 | succ j ih =>
   intro k m σ S e I q q2
   have lt : k < xs.length := e ▸ Nat.lt_add_of_pos_right (Nat.succ_pos j)
   have ek : nth xs k = some xs[k] := (za6 _ _).trans (List.getElem?_eq_getElem lt)
   obtain ⟨σ', e1, e2⟩ := step k _ σ S (m + (j + 1) + 1) ek I
   have e2 := e2 (λ fl σ st => match fl with | .next => (mk T (m + c + j + 2)).floop z Γ σ tup zs (Nx (k + 1)) b st K | .ret v => K (.ret v) σ st)
     (λ σ' S' I' => ih (k + 1) m σ' S' ((Nat.add_right_comm k 1 j).trans e) I' q q2) (λ w σ' S' h => q2 w σ' S' h)
   rw [← (congrArg (· + 1) (Nat.add_right_comm m c (j + 1))).trans (Nat.add_right_comm (m + (j + 1)) c 1)] at e2
   show zo4 (mk T (m + c + (j + 1) + 1)) z Γ σ tup zs (Nx k) b S K
   exact Opt.of ((nx _ _ _ I).trans (by rw [ek])) (Opt.of e1 e2)
theorem zbw {S : Store} {R k : Nat} (h : Lies S R (.list xs)) : zfm S (.lst R k) = some ((nth xs k).map λ v => (v, .lst R (k + 1))) := by
 show ((S.get R).bind AO.toL).map _ = _
 rw [h.1]; rfl
end
noncomputable def MtA (r : R) (z : Nat) (st0 : Store) (vs : List AV) (st : Store) (K : KV) (mt : MT) : Prop := match mt with
 | .fnm a self => r.callv z (.old a) (self :: vs) st K
 | .bim m self => Chk (zdz st0 st self) (Opt (bim z m self vs st) λ p => Chk p.1 (K p.2.1 p.2.2))
noncomputable def Nk (b : Bool) (K : Prop) : Prop := match b with | true => False | false => K
theorem Nk.of {b : Bool} {K : Prop} (e : b = false) (h : K) : Nk b K := by rw [e]; exact h
structure Nd where
 k : List Nat
 n : List Nat
 u : List Nat
 l : List Nat
 v : List Nat
 p : AV
 c : Nat
 a : Nat
 s : Nat
noncomputable def Nd.es (x : Nd) : List (Nat × AV) := [(zbk, .str x.k), (zah, .str x.n), (zar, .str x.u), (za3, .str x.l), (zax, .str x.v), (zap, x.p), (zb2, .ref x.c), (zbq, .ref x.a), (zav, .ref x.s)]
section
variable {S S' : Store} {X : List Nat} {t L r C : Nat} {es : List (Nat × AV)} {x : Nd} {ds : List Nd} {rs : List Nat} {K : KV} {i a n : Nat} {v : AV} {xs : List AV}
def Ob (S : Store) (r C : Nat) (es : List (Nat × AV)) : Prop := ∃ d, Lies S r (.inst C d) ∧ Lies S d (.fields es)
theorem zBw {d : Nat} (e1 : S.get r = some (.inst C d)) (e2 : S.get d = some (.fields es)) : S.ins r = some (C, d, es) := by
 unfold Store.ins
 rw [e1]
 show ((S.get d).bind _).map _ = _
 rw [e2]; rfl
theorem Ob.keep (h : Ob S r C es) (k : Kept X S S') : Ob S' r C es := h.elim λ d h => ⟨d, k.at' h.1 nb, k.at' h.2 nb⟩
theorem Ob.ins (h : Ob S r C es) : ∃ d, S.ins r = some (C, d, es) := h.elim λ d h => ⟨d, zBw h.1.1 h.2.1⟩
theorem Ob.att (h : Ob S r C es) (o : okA C n = true) (e : lk n es = some v) : zc6 S (.ref r) n = some v := h.ins.elim λ d q => by
 show (S.ins r).bind _ = _
 rw [q]
 show (match okA C n with | true => lk n es | false => none) = _
 rw [o]; exact e
theorem Ob.mth {cd : CD} (h : Ob S r C es) (e1 : lk n es = none) (e2 : tbl.cls.get C = some cd) (e3 : lk n cd.meths = some a) : zat tbl S (.ref r) n = some (.fnm a (.ref r)) := h.elim λ d h => by
 show (S.get r).bind _ = _
 rw [h.1.1]
 show (S.ins r).bind _ = _
 rw [zBw h.1.1 h.2.1]
 show (match lk n es with | some _ => none | none => _) = _
 rw [e1]
 show (tbl.cls.get C).bind _ = _
 rw [e2]
 show (lk n cd.meths).map _ = _
 rw [e3]; rfl
theorem zz5 : tbl.cls.get 1636 = some zv5 := by kernel_rfl
structure TreeF (S : Store) (t L : Nat) (ds : List Nd) (rs : List Nat) : Prop where
 o : Ob S t 1636 [(zaz, .ref L)]
 l : Lies S L (.list (rs.map .ref))
 r : All2 (λ r x => Ob S r 1447 (Nd.es x)) rs ds
theorem TreeF.keep (h : TreeF S t L ds rs) (k : Kept X S S') (n : L ∉ X) : TreeF S' t L ds rs := ⟨h.o.keep k, k.at' h.l λ _ => n, h.r.mono λ _ _ q => q.keep k⟩
theorem TreeF.mth (h : TreeF S t L ds rs) (e1 : lk n [(zaz, AV.ref L)] = none) (e3 : lk n zv5.meths = some a) : zat tbl S (.ref t) n = some (.fnm a (.ref t)) := h.o.mth e1 zz5 e3
theorem zFf (m t : Nat) (i : Int) (S : Store) (K : KV) : (mk tbl (m + 20)).callv 0 (.old 1479) [.ref t, .int i] S K =
   Opt (zhy .le (.int 0) (.int i) S) λ q => match q with
     | true => Opt (zc6 S (.ref t) zaz) λ l => Opt (biv tbl .len [l] S) λ p => Chk p.1 (Opt (zhy .lt (.int i) p.2.1 p.2.2) λ q => Nk (!q) (Opt (zc6 p.2.2 (.ref t) zaz) λ l => Opt (zem tbl p.2.2 l (.int i)) λ v => K v p.2.2))
     | false => False := by kernel_rfl
theorem zr3 (h : Lies S r (.list xs)) : zb1 tbl S (.ref r) = some xs := by show (S.get r).bind AO.toLT = _; rw [h.1]; rfl
theorem len_list (h : Lies S r (.list xs)) : biv tbl .len [.ref r] S = some (true, .int xs.length, S) := by show (zb1 tbl S (.ref r)).map _ = _; rw [zr3 h]; rfl
theorem zpx (h : Lies S r (.list xs)) (e : xs[i]? = some v) : zem tbl S (.ref r) (.int i) = some v := by
 show (zb1 tbl S (.ref r)).bind _ = _
 rw [zr3 h]
 exact (zl4 (List.getElem?_eq_some_iff.mp e).1).trans e
theorem zw5 (h : TreeF S t L ds rs) (e : ds[i]? = some x) (m : Nat) (k : ∀ r, Ob S r 1447 x.es → K (.ref r) S) : (mk tbl (m + 20)).callv 0 (.old 1479) [.ref t, .int i] S K := by
 rw [zFf]
 obtain ⟨r, e1, e2⟩ := h.r.get e
 have lt : i < (rs.map AV.ref).length := by rw [List.length_map]; exact (List.getElem?_eq_some_iff.mp e1).1
 have ea := h.o.att (n := zaz) (v := .ref L) rfl rfl
 refine Opt.of (a := true) ?_ (Opt.of ea (Opt.of (len_list h.l) (Chk.of rfl (Opt.of (a := true) ?_ (Nk.of rfl (Opt.of ea (Opt.of (zpx h.l (by rw [List.getElem?_map, e1]; rfl)) (k r e2))))))))
 · show some (decide _) = _; rw [decide_eq_true (Int.natCast_nonneg i)]
 · show some (decide _) = _; rw [decide_eq_true (Int.ofNat_lt.mpr lt)]
noncomputable def zoq (n : Nat) : FD := { ps := [zaa, zab], dfl := [], cel := [], body := [.ret (.att (.mth (.loc zaa) zbb [(.loc zab)]) n)] }
noncomputable def zxw (n : Nat) : FD := { ps := [zaa, zab], dfl := [], cel := [], body := [.ret (.call (.glb zo7 (.bi .list)) [(.att (.mth (.loc zaa) zbb [(.loc zab)]) n)])] }
theorem zDw (m n t : Nat) (w : AV) (S : Store) (K : KX) : (mk tbl (m + 9)).execs 0 [] [(zaa, .ref t), (zab, w)] (zoq n).body S K = Opt (zat tbl S (.ref t) zbb) (MtA (mk tbl (m + 5)) 0 S [w] S λ o st => Opt (zc6 st o n) λ v => K (.ret v) [(zaa, .ref t), (zab, w)] st) := by kernel_rfl
theorem zD7 (m n t : Nat) (w : AV) (S : Store) (K : KX) : (mk tbl (m + 9)).execs 0 [] [(zaa, .ref t), (zab, w)] (zxw n).body S K = Opt (zat tbl S (.ref t) zbb) (MtA (mk tbl (m + 3)) 0 S [w] S λ o st => Opt (zc6 st o n) λ v => Opt (biv tbl .list [v] st) λ p => Chk p.1 (K (.ret p.2.1) [(zaa, .ref t), (zab, w)] p.2.2)) := by kernel_rfl
theorem zee (hf : tbl.fn.get a = some (zoq n)) (h : TreeF S t L ds rs) (e : ds[i]? = some x) (g : lk n x.es = some v) (o : okA 1447 n = true) (m : Nat) (k : K v S) : (mk tbl (m + 30)).callv 0 (.old a) [.ref t, .int i] S K := by
 rw [zbo (n := m + 29) (b := [(zaa, .ref t), (zab, .int i)]) hf rfl]
 refine (zDw (m + 20) n t (.int i) S _).mpr (Opt.of (h.mth rfl rfl) (zw5 h e (m + 5) λ r q => Opt.of (q.att o g) k))
theorem zoo (hf : tbl.fn.get a = some (zxw n)) (h : TreeF S t L ds rs) (e : ds[i]? = some x) (g : lk n x.es = some (.ref r)) (o : okA 1447 n = true) (hr : Lies S r (.list xs)) (hl : xs.length ≤ 1000) (m : Nat) (k : K (.ref S.n) (S.add (.list xs))) : (mk tbl (m + 30)).callv 0 (.old a) [.ref t, .int i] S K := by
 rw [zbo (n := m + 29) (b := [(zaa, .ref t), (zab, .int i)]) hf rfl]
 refine (zD7 (m + 20) n t (.int i) S _).mpr (Opt.of (h.mth rfl rfl) (zw5 h e (m + 3) λ r' q => Opt.of (q.att o g) (Opt.of (a := (true, .ref S.n, S.add (.list xs))) ?_ (Chk.of rfl k))))
 show (S.ls r).map _ = _
 unfold Store.ls
 rw [hr.1]
 show some (Nat.ble xs.length 1000, _) = _
 rw [lbx hl]
theorem fnT : tbl.fn.get 1556 = some (zoq zbk) ∧ tbl.fn.get 1563 = some (zoq zah) ∧ tbl.fn.get 1570 = some (zoq zar) ∧ tbl.fn.get 1577 = some (zoq za3) ∧ tbl.fn.get 1584 = some (zoq zax) ∧ tbl.fn.get 1591 = some (zoq zap) ∧ tbl.fn.get 1598 = some (zxw zb2) ∧ tbl.fn.get 1605 = some (zxw zbq) ∧ tbl.fn.get 1612 = some (zxw zav) := by
 refine ⟨?_, ?_, ?_, ?_, ?_, ?_, ?_, ?_, ?_⟩ <;> kernel_rfl
end
section
variable {S S0 S' : Store} {X : List Nat} {t L F f g i d : Nat} {x : Nd} {ds : List Nd} {rs : List Nat} {K : KV} {KK : KX} {v : AV} {xs : List AV}
theorem Lies.set (h : Lies S F (.list xs)) (o : AO) : Lies (S.set F o) F o := ⟨by rw [Store.get_set, if_pos rfl], h.2⟩
theorem Kept.set (h : Lies S F (.list xs)) (o : AO) (m : F ∈ X) : Kept X S (S.set F o) := ⟨Nat.le_refl _, λ {j o'} e q => ⟨by
 rw [Store.get_set]
 by_cases n : j = F
 · cases n
   have := h.1.symm.trans e.1
   cases this
   exact absurd m (q rfl)
 · rw [if_neg n]; exact e.1, e.2⟩⟩
theorem zrl {r : R} (h0 : Lies S0 F (.list xs)) (h : Lies S F (.list xs)) (hl : xs.length ≤ 1000) (k : Lies (S.set F (.list (xs ++ [v]))) F (.list (xs ++ [v])) → Kept [F] S (S.set F (.list (xs ++ [v]))) → K .none (S.set F (.list (xs ++ [v])))) : ∃ mt, zat tbl S0 (.ref F) za0 = some mt ∧ MtA r 0 S0 [v] S K mt := by
 refine ⟨.bim za0 (.ref F), ?_, ?_⟩
 · show (S0.get F).bind _ = _
   rw [h0.1]; rfl
 · refine Chk.of ?_ (Opt.of (a := (true, .none, S.set F (.list (xs ++ [v])))) ?_ (Chk.of rfl (k (h.set _) (Kept.set h _ (.head _)))))
   · unfold zdz
     simp only [h0.1, h.1]
     rfl
   · show (S.get F).bind _ = _
     rw [h.1]
     show some (Nat.ble 0 F && Nat.ble xs.length 1000, _) = _
     rw [lbx hl, lbx (Nat.zero_le F)]; rfl
theorem zrn (m t F : Nat) (w : AV) (S : Store) (K : KX) : (mk tbl (m + 20)).wloop 0 [] [(zac, .ref t), (zab, w), (zan, .ref F)] (.cmp .isNot (.loc zab) .non) [.exp (.mth (.loc zan) za0 [(.loc zab)]), .asg zab (.mth (.loc zac) zap [(.loc zab)])] S K =
   Opt (zhy .isNot w .none S) λ q => match q with
     | true => Opt (zat tbl S (.ref F) za0) (MtA (mk tbl (m + 16)) 0 S [w] S λ _ st => Opt (zat tbl st (.ref t) zap) (MtA (mk tbl (m + 15)) 0 st [w] st λ v st => (mk tbl (m + 19)).wloop 0 [] [(zac, .ref t), (zab, v), (zan, .ref F)] (.cmp .isNot (.loc zab) .non) [.exp (.mth (.loc zan) za0 [(.loc zab)]), .asg zab (.mth (.loc zac) zap [(.loc zab)])] st K))
     | false => K .next [(zac, .ref t), (zab, w), (zan, .ref F)] S := by kernel_rfl
theorem zDb (m t : Nat) (w : AV) (S : Store) (K : KX) : (mk tbl (m + 9)).execs 0 [] [(zac, .ref t), (zab, w)] zby.body S K = (mk tbl (m + 6)).wloop 0 [] [(zac, .ref t), (zab, w), (zan, .ref S.n)] (.cmp .isNot (.loc zab) .non) [.exp (.mth (.loc zan) za0 [(.loc zab)]), .asg zab (.mth (.loc zac) zap [(.loc zab)])] (S.add (.list [])) λ fl σ st => match fl with
   | .next => (mk tbl (m + 6)).execs 0 [] σ [.ret (.loc zan)] st K
   | .ret v => K (.ret v) σ st := by kernel_rfl
inductive Line (ds : List Nd) : AV → List AV → Prop
 | nil : Line ds .none []
 | cons {i : Nat} {x : Nd} {l : List AV} : ds[i]? = some x → Line ds x.p l → Line ds (.int i) (.int i :: l)
theorem zq1 {t : Nat} {l : List AV} : ∀ {w : AV} {acc : List AV} {S : Store} (m : Nat) (h : TreeF S t L ds rs) (hF : Lies S F (.list acc)) (ne : F ≠ L) (ln : Line ds w l) (hl : acc.length + l.length ≤ 1000) (k : ∀ σ S', lk zan σ = some (.ref F) → Lies S' F (.list (acc ++ l)) → Kept [F] S S' → KK .next σ S'),
   (mk tbl (m + l.length + 44)).wloop 0 [] [(zac, .ref t), (zab, w), (zan, .ref F)] (.cmp .isNot (.loc zab) .non) [.exp (.mth (.loc zan) za0 [(.loc zab)]), .asg zab (.mth (.loc zac) zap [(.loc zab)])] S KK := by
 induction l with
 | nil =>
   intro w acc S m h hF ne ln hl k
   cases ln
   exact (zrn (m + 24) t F .none S KK).mpr (k [(zac, .ref t), (zab, .none), (zan, .ref F)] S rfl (by rw [List.append_nil]; exact hF) Kept.refl)
 | cons v l ih =>
   intro w acc S m h hF ne ln hl k
   cases ln with
   | @cons i x _ e ln =>
   refine (zrn (m + l.length + 25) t F (.int i) S KK).mpr (Opt.of (a := true) rfl ?_)
   have hl' : acc.length + (l.length + 1) ≤ 1000 := hl
   obtain ⟨mt, e1, e2⟩ := zrl (r := mk tbl (m + l.length + 25 + 16)) (K := λ _ st => Opt (zat tbl st (.ref t) zap) (MtA (mk tbl (m + l.length + 25 + 15)) 0 st [.int i] st λ v st => (mk tbl (m + l.length + 25 + 19)).wloop 0 [] [(zac, .ref t), (zab, v), (zan, .ref F)] (.cmp .isNot (.loc zab) .non) [.exp (.mth (.loc zan) za0 [(.loc zab)]), .asg zab (.mth (.loc zac) zap [(.loc zab)])] st KK)) (v := .int i) hF hF (ltx (zft _ _) hl') λ a b => by
     have h2 := h.keep b (λ m => ne (msx m).symm)
     refine Opt.of (h2.mth rfl rfl) (zee fnT.2.2.2.2.2.1 h2 e rfl rfl (m + l.length + 10) ?_)
     exact ih m h2 a ne ln (by rw [List.length_append]; exact (Nat.add_right_comm acc.length l.length 1) ▸ hl') λ σ S' q1 q2 q3 => k σ S' q1 (by rw [List.append_assoc] at q2; exact q2) (b.trans q3)
   exact Opt.of e1 e2
theorem zJ7 : tbl.fn.get 35 = some zby := by kernel_rfl
theorem zGu {w : AV} {l : List AV} (h : TreeF S t L ds rs) (ln : Line ds w l) (hl : l.length ≤ 40) (m : Nat) (k : ∀ F S', Lies S' F (.list l) → S.n ≤ F → Kept [] S S' → K (.ref F) S') : (mk tbl (m + 90)).callv 0 (.old 35) [.ref t, w] S K := by
 obtain ⟨q, e⟩ := Nat.le.dest hl
 rw [zbo (n := m + 89) (b := [(zac, .ref t), (zab, w)]) zJ7 rfl]
 show (mk tbl (m + 80 + 9)).execs 0 [] [(zac, .ref t), (zab, w)] zby.body S _
 rw [zDb, show m + 80 + 6 = m + q + 2 + l.length + 44 by rw [show m + 80 + 6 = m + 40 + 2 + 44 from rfl, ← e]; simp only [Nat.add_assoc, Nat.add_comm, Nat.add_left_comm]]
 have ne : S.n ≠ L := λ e => absurd h.l.2 (Nat.not_lt.mpr (Nat.le_of_eq e))
 refine zq1 (m + q + 2) (h.keep (Kept.add (X := []) _) (λ m => nomatch m)) (Lies.new S _) ne ln (by show 0 + l.length ≤ 1000; lia) λ σ S' q1 q2 q3 => ?_
 show Opt (lk zan σ) _
 exact Opt.of q1 (k _ S' q2 (Nat.le_refl _) (((Kept.add _).trans q3).new λ x m => .inl (msx m ▸ Nat.le_refl _)))
end
noncomputable def tg : AO → Nat × Nat
 | .list xs => match xs with | [] => (0, 0) | x :: _ => match x with | .int _ => (0, 0) | _ => (0, 1)
 | .tup _ => (1, 0)
 | .inst C _ => (2, C)
 | .fields es => match es with | [] => (3, 0) | e :: _ => (3, e.1)
 | .dict _ => (4, 0)
 | .cell _ => (5, 0)
 | .fn k _ => (6, k)
 | .rng .. => (7, 0)
 | .iset _ => (8, 0)
theorem zNu (f : Nat → Nat) (o : AO) : tg (mO f o) = tg o := by
 cases o with
 | list xs => cases xs with | nil => rfl | cons x xs => cases x <;> rfl
 | fields es => cases es <;> rfl
 | _ => rfl
theorem zBp {S : Store} {f : Nat → Nat} : ∀ {as : List Nat} {l : List AO}, AtL S f as l → ∀ a ∈ as, ∃ o ∈ l, S.get a = some (mO f o)
 | [], _, _, _, m => nomatch m
 | _ :: _, [], h, _, _ => h.elim
 | b :: as, o :: l, h, a, m => (List.mem_cons.mp m).elim (λ e => ⟨o, .head _, e ▸ h.1.1⟩) λ m => (zBp (as := as) (l := l) h.2 a m).elim λ o q => ⟨o, .tail _ q.1, q.2⟩
theorem zmq {S : Store} {f : Nat → Nat} : ∀ {as : List Nat} {l : List AO}, AtL S f as l → (l.map tg).Nodup → as.Nodup
 | [], _, _, _ => .nil
 | _ :: _, [], h, _ => h.elim
 | a :: as, o :: l, h, n => List.nodup_cons.mpr ⟨λ m => (zBp (as := as) (l := l) h.2 a m).elim λ o' q => (List.nodup_cons.mp n).1 (List.mem_map.mpr ⟨o', q.1, by rw [← zNu f o', ← zNu f o]; exact congrArg tg (Option.some.inj (q.2.symm.trans h.1.1))⟩), zmq (as := as) (l := l) h.2 (List.nodup_cons.mp n).2⟩
noncomputable def zE0 (s : Store) (P : Nat → AO → Prop) : Nat → List Nat → List AO → Prop
 | _, [], _ => True
 | _, _ :: _, [] => True
 | i, a :: as, o :: l => (s.get i = some o ∨ P a o) ∧ zE0 s P (i + 1) as l
theorem zMj (f : Nat → Nat) (o : AO) : (mO f o).isL = o.isL := by cases o <;> rfl
theorem zCf {S s : Store} {P : Nat → AO → Prop} {f : Nat → Nat} {G : Prop} : ∀ {as : List Nat} {l : List AO} {k j : Nat}, AtL S f as l → zE0 s P k as l → j ∈ as → (∀ i o, nth as i = some j → S.get j = some (mO f o) → (s.get (k + i) = some o ∨ P j o) → G) → G := by
 intro as
 induction as with
 | nil => exact λ _ _ m _ => nomatch m
 | cons a as ih =>
 intro l k j h hs m q
 cases l with
 | nil => exact h.elim
 | cons o l => exact (List.mem_cons.mp m).elim (λ e => by cases e; exact q 0 o rfl h.1.1 hs.1) λ m => ih h.2 hs.2 m λ i o e1 e2 e3 => q (i + 1) o e1 e2 (by rw [← Nat.add_assoc, Nat.add_right_comm]; exact e3)
theorem zmr {S0 S S' s : Store} {X as : List Nat} {l : List AO} (k0 : Kept X S0 S) (h : AtL S (adr as S.n) as l) (M : Em (adr as S.n) S s S') (hl : as.length ≤ s.n) (hs : zE0 s (λ a o => (o.isL = true ∧ a ∈ X) ∨ S0.n ≤ a) 0 as l) : Kept X S0 S' where
 n := ltx k0.n (M.keep hl).n
 at' := λ {j o} e q => by
   have e' := k0.at' e q
   refine ⟨?_, llx e'.2 (M.keep hl).n⟩
   by_cases m : j ∈ as
   · refine zCf h hs m λ i o' e1 e2 e3 => ?_
     cases e'.1.symm.trans e2
     rcases e3 with e3 | e3 | e3
     · have := M.get _ _ e3
       unfold adr at this
       rw [Nat.zero_add, e1] at this
       exact this
     · exact absurd e3.2 (q ((zMj _ _).trans e3.1))
     · exact absurd e.2 (Nat.not_lt.mpr e3)
   · exact (M.keep hl).get _ _ m e'.2 e'.1
noncomputable def zum (s : List Nat) : List Nat := s.drop (zpk (-1) s.length)
structure N5 where
 k : List Nat
 n : List Nat
 u : List Nat
 l : List Nat
 v : List Nat
noncomputable def N5.nd (y : N5) (p : AV) (c a s : Nat) : Nd := ⟨y.k, y.n, y.u, y.l, y.v, p, c, a, s⟩
noncomputable def pE (n u : List Nat) : N5 := ⟨wEl, n, u, zum n, []⟩
noncomputable def pI (n : List Nat) : N5 := ⟨wIn, n, [], n, []⟩
noncomputable def pC : N5 := ⟨wCo, [], [], [], [99]⟩
noncomputable def pT : N5 := ⟨wTe, [], [], [], [116]⟩
inductive Put : T3 → N5 → Prop
 | el (n u : List Nat) : Put (wEl, n, u) (pE n u)
 | is (n u : List Nat) : Put (wIn, n, u) (pI n)
 | co (n u : List Nat) : Put (wCo, n, u) pC
 | te (n u : List Nat) : Put (wTe, n, u) pT
section
variable (tail cs : List AV) (r0 a1 s1 : Nat) (x : Nd) (n u : List Nat)
noncomputable def rw2 : List AV := .ext r0 :: .ref 3 :: tail
noncomputable def rw3 : List AV := rw2 tail r0 ++ [.ref 8]
noncomputable def zNh (l2 l5 : List AV) (w : List Nat) : List AO := [.inst 1636 1, .fields [(zaz, .ref 2)], .list l2, .inst 1447 4,
 .fields [(zbk, .str wEl), (zah, .str x.n), (zar, .str x.u), (za3, .str x.l), (zax, .str x.v), (zap, .int 0), (zb2, .ref 5), (zbq, .ext a1), (zav, .ext s1)], .list l5, .tup [.str w, .str n, .str u]]
noncomputable def zFz (w : List Nat) : List AO := zNh a1 s1 x n u (rw2 tail r0) cs w
noncomputable def zM7 (w : List Nat) (y : N5) : AV × Nat × List (Option AO) :=
 (.int ((rw3 tail r0).length - 1), 12, (zNh a1 s1 x n u (rw3 tail r0) (cs ++ [AV.int ((rw3 tail r0).length - 1)]) w ++ [AO.fields (y.nd (.int 1) 9 10 11).es, AO.inst 1447 7]).map some)
noncomputable def zNp (w : List Nat) (y : N5) : KV := λ v s => (v, s.n, [0, 1, 2, 3, 4, 5, 6, 7, 8].map s.get) = zM7 tail cs r0 a1 s1 x n u w y
noncomputable def zOm (w : List Nat) (y : N5) : Prop := Nk (!decide ((1 : Int) < (rw2 tail r0).length)) (Chk (Nat.ble (rw2 tail r0).length 1000) (Chk (Nat.ble cs.length 1000) (zM7 tail cs r0 a1 s1 x n u w y = zM7 tail cs r0 a1 s1 x n u w y)))
theorem zDv (t : T3) (y : N5) (p : Put t y) : (mk tbl 100).callv 0 (.old 1668) [.ref 0, .int 1, .ref 6] (Store.ofList (zFz tail cs r0 a1 s1 x t.2.1 t.2.2 t.1)) (zNp tail cs r0 a1 s1 x t.2.1 t.2.2 t.1 y) = zOm tail cs r0 a1 s1 x t.2.1 t.2.2 t.1 y := by
 cases p <;> kernel_rfl
end
section
variable {S S' : Store} {t L q : Nat} {x : Nd} {ds : List Nd} {rs : List Nat} {cs : List AV} {K : KV} {w : T3} {y : N5}
theorem pick {v : AV} {s : Store} {o : AO} {G : Prop} (h1 : v.toR.bind s.get = some o) (h2 : v.toR.map (λ i => Nat.blt i s.n) = some true) (k : ∀ i, v = .ref i → s.get i = some o → i < s.n → G) : G := by
 cases v with
 | ref i => exact k i rfl h1 (blx (Option.some.inj h2))
 | _ => exact nn h1
theorem zK0 {α β γ : Type} {a a' : α} {b b' : β} {c c' : γ} {G : Prop} (h : (a, b, c) = (a', b', c')) (k : a = a' → b = b' → c = c' → G) : G := by
 cases h; exact k rfl rfl rfl
theorem zBi {s : Store} {is : List Nat} {l : List (Option AO)} (h : is.map s.get = l) (j : Nat) {i : Nat} (e : is[j]? = some i) : s.get i = (l[j]?).getD none := by
 rw [← h, List.getElem?_map, e]; rfl
theorem zI5 {is : List Int} (h : TreeF S t L ds rs) (ex : ds[1]? = some x) (hk : x.k = wEl) (hp : x.p = .int 0) (hc : Lies S x.c (.list (is.map .int))) (hq : Lies S q (t3 w)) (p : Put w y) (l1 : ds.length ≤ 900) (l2 : is.length ≤ 900) (m : Nat)
   (k : ∀ r c a s S', TreeF S' t L (ds ++ [y.nd (.int 1) c a s]) (rs ++ [r]) → Lies S' x.c (.list ((is ++ [(ds.length : Int)]).map .int)) → Kept [L, x.c] S S' → K (.int ds.length) S') : (mk tbl (m + 100)).callv 0 (.old 1668) [.ref t, .int 1, .ref q] S K := by
 obtain ⟨d, hd1, hd2⟩ := h.o
 have er := h.r.len
 obtain ⟨r1, e1, d1, o1, o2⟩ := h.r.get ex
 match rs, e1, er, h with
 | r0 :: r1' :: rs, e1, er, h =>
 cases (e1 : some r1' = some r1)
 have A : AtL S (adr [t, d, L, r1, d1, x.c, q] S.n) [t, d, L, r1, d1, x.c, q] (zFz (rs.map .ext) (is.map .int) r0 x.a x.s x w.2.1 w.2.2 w.1) := by
   refine ⟨hd1, hd2, ?_, o1, ?_, ?_, hq, rfl⟩
   · show Lies S L (.list (.ref r0 :: .ref r1 :: (rs.map AV.ext).map (mV (adr [t, d, L, r1, d1, x.c, q] S.n))))
     rw [List.map_map]
     exact h.l
   · have : Nd.es x = [(zbk, .str wEl), (zah, .str x.n), (zar, .str x.u), (za3, .str x.l), (zax, .str x.v), (zap, .int 0), (zb2, .ref x.c), (zbq, .ref x.a), (zav, .ref x.s)] := by rw [← hk, ← hp]; rfl
     rw [this] at o2
     exact o2
   · show Lies S x.c (.list ((is.map AV.int).map (mV (adr [t, d, L, r1, d1, x.c, q] S.n))))
     rw [List.map_map]
     exact hc
 have el : (rw2 (rs.map AV.ext) r0).length = ds.length := by rw [← er]; exact congrArg (· + 2) (List.length_map _)
 have el3 : (((rw3 (rs.map AV.ext) r0).length : Nat) : Int) - 1 = ds.length := by
   rw [show (rw3 (rs.map AV.ext) r0).length = ds.length + 1 from List.length_append.trans (congrArg (· + 1) el)]
   exact Int.add_sub_cancel (ds.length : Int) 1
 have run : (mk tbl 100).callv 0 (.old 1668) [.ref 0, .int 1, .ref 6] (Store.ofList (zFz (rs.map .ext) (is.map .int) r0 x.a x.s x w.2.1 w.2.2 w.1)) (zNp (rs.map .ext) (is.map .int) r0 x.a x.s x w.2.1 w.2.2 w.1 y) := by
   rw [zDv _ _ _ _ _ _ w y p]
   refine Nk.of ?_ (Chk.of ?_ (Chk.of ?_ rfl))
   · rw [el, decide_eq_true (show (1 : Int) < ds.length from Int.ofNat_lt.mpr (List.getElem?_eq_some_iff.mp ex).1)]; rfl
   · rw [el]; exact lbx (ltx l1 (by decide))
   · rw [List.length_map]; exact lbx (ltx l2 (by decide))
 refine ze0 (vs := [.ref 0, .int 1, .ref 6]) run (zgd A (zmq A (by cases is <;> exact of_decide_eq_true rfl))) λ v s S' hk M => zK0 hk λ ev en eg => ?_
 have g := λ j {i} e => zBi eg j (i := i) e
 have ln : ∀ {i}, i < 12 → i < s.n := λ h => en ▸ h
 have kp : Kept [L, x.c] S S' := zmr Kept.refl A M (ln (show 7 < 12 by decide) |> Nat.le_of_lt) ⟨.inl (g 0 rfl), .inl (g 1 rfl), .inr (.inl ⟨rfl, .head _⟩), .inl (g 3 rfl), .inl (g 4 rfl), .inr (.inl ⟨rfl, .tail _ (.head _)⟩), .inl (g 6 rfl), trivial⟩
 have g2 := Lies.em M (g 2 rfl) (ln (by decide))
 have g5 := Lies.em M (g 5 rfl) (ln (by decide))
 have g7 := Lies.em M (g 7 rfl) (ln (by decide))
 have g8 := Lies.em M (g 8 rfl) (ln (by decide))
 cases ev
 rw [show mV (adr [t, d, L, r1, d1, x.c, q] S.n) (.int (((rw3 (rs.map AV.ext) r0).length : Nat) - 1)) = .int (((rw3 (rs.map AV.ext) r0).length : Nat) - 1) from rfl, el3]
 refine k _ _ _ _ S' ⟨h.o.keep kp, ?_, (h.r.mono λ _ _ z => z.keep kp).snoc (b := y.nd (.int 1) (adr [t, d, L, r1, d1, x.c, q] S.n 9) (adr [t, d, L, r1, d1, x.c, q] S.n 10) (adr [t, d, L, r1, d1, x.c, q] S.n 11)) ⟨_, g8, g7⟩⟩ ?_ kp
 · have g2 : Lies S' L (.list (.ref r0 :: .ref r1 :: (rs.map AV.ext ++ [AV.ref 8]).map (mV (adr [t, d, L, r1, d1, x.c, q] S.n)))) := g2
   rw [List.map_append, List.map_map] at g2
   show Lies S' L (.list (.ref r0 :: .ref r1 :: (rs ++ [_]).map .ref))
   rw [List.map_append]
   exact g2
 · have g5 : Lies S' x.c (.list ((is.map AV.int ++ [AV.int (((rw3 (rs.map AV.ext) r0).length : Nat) - 1)]).map (mV (adr [t, d, L, r1, d1, x.c, q] S.n)))) := g5
   rw [List.map_append, List.map_map, el3] at g5
   rw [List.map_append]
   exact g5
end
noncomputable def znh (k : Nat) : List Int := (List.range' 2 k).map λ (i : Nat) => (i : Int)
theorem zn5 (k : Nat) : znh (k + 1) = znh k ++ [((k + 2 : Nat) : Int)] := by
 unfold znh
 rw [List.range'_concat, List.map_append, Nat.one_mul, Nat.add_comm 2 k]; rfl
structure CtF (S : Store) (t L : Nat) (x : Nd) (ts : List T3) (k : Nat) (ds : List Nd) (rs : List Nat) : Prop where
 tr : TreeF S t L ds rs
 x0 : ∃ x0, ds[0]? = some x0 ∧ x0.p = .none
 x1 : ds[1]? = some x
 xk : x.k = wEl
 xp : x.p = .int 0
 ch : Lies S x.c (.list ((znh k).map .int))
 row : ∀ i w, i < k → ts[i]? = some w → ∃ y c a s, Put w y ∧ ds[i + 2]? = some (y.nd (.int 1) c a s)
 len : ds.length = k + 2
section
variable {S S' S0 : Store} {t L q R c0 c1 : Nat} {x : Nd} {ts : List T3} {qs : List Nat} {k : Nat} {ds : List Nd} {rs : List Nat} {X : List Nat} {K : KV} {σ : zaf}
theorem CtF.keep (C : CtF S t L x ts k ds rs) (h : Kept X S S') (n1 : L ∉ X) (n2 : x.c ∉ X) : CtF S' t L x ts k ds rs := { C with tr := C.tr.keep h n1, ch := h.at' C.ch λ _ => n2 }
structure PutF (S0 S : Store) (t L : Nat) (x : Nd) (c0 c1 R : Nat) (qs : List Nat) (ts : List T3) : Prop where
 c0 : Lies S c0 (.cell (some (.ref t)))
 c1 : Lies S c1 (.cell (some (.int 1)))
 li : Lies S R (.list (qs.map .ref))
 nL : R ≠ L
 nc : R ≠ x.c
 rows : RowsF S qs ts
 kept : Kept [L, x.c] S0 S
theorem PutF.keep (P : PutF S0 S t L x c0 c1 R qs ts) (h : Kept [L, x.c] S S') : PutF S0 S' t L x c0 c1 R qs ts where
 c0 := h.at' P.c0 nb
 c1 := h.at' P.c1 nb
 li := h.at' P.li λ _ m => (List.mem_cons.mp m).elim P.nL λ m => P.nc (msx m)
 nL := P.nL
 nc := P.nc
 rows := P.rows.keep h
 kept := P.kept.trans h
theorem zzv (m z c0 c1 : Nat) (σ : zaf) (S : Store) (K : KV) : (mk tbl (m + 10)).ev z [(zch, c1), (zac, c0)] σ (.call (.glb zej (.old 1668)) [(.cel zac), (.cel zch), (.loc zbb)]) S K =
   Opt (S.cl c0) λ o => Opt o λ v => Opt (S.cl c1) λ o => Opt o λ w => Opt (lk zbb σ) λ u => (mk tbl (m + 9)).callv z (.old 1668) [v, w, u] S K := by kernel_rfl
theorem zbh (x : Nat) (v : AV) : ∀ σ : zaf, lk x (putL x v σ) = some v
 | [] => by show (match Nat.beq x x with | true => _ | false => _) = _; rw [Nat.beq_refl]
 | (y, w) :: r => by
   show lk x (if y = x then (y, v) :: r else (y, w) :: zxv x v r) = _
   by_cases e : y = x
   · rw [if_pos e]; show (match Nat.beq y x with | true => _ | false => _) = _; rw [e, Nat.beq_refl]
   · rw [if_neg e]; show (match Nat.beq y x with | true => _ | false => _) = _
     rw [Tr.beq0, decide_eq_false e]
     exact zbh x v r
theorem zb6 {S : Store} {c : Nat} {o : Option AV} (h : Lies S c (.cell o)) : S.cl c = some o := by unfold Store.cl; rw [h.1]; rfl
theorem zr1 {T : Tbl} {m z : Nat} {Γ : zaw} {σ : zaf} {S : Store} {K : Bool → Store → Prop} (h : K true S) : (mk T (m + 1)).tr z Γ σ (.andd []) S K := h
theorem zOa (h : ∀ w ∈ ts, ∃ y, Put w y) (hl : ts.length ≤ 7) (C : ∃ ds rs, CtF S t L x ts 0 ds rs) (P : PutF S S t L x c0 c1 R qs ts) (m : Nat)
   (k : ∀ N S' ds rs, Lies S' N (.list ((znh ts.length).map .int)) → S.n ≤ N → CtF S' t L x ts ts.length ds rs → PutF S S' t L x c0 c1 R qs ts → K (.ref N) S') :
   (mk tbl (m + 120)).cloop 0 [(zch, c1), (zac, c0)] σ (.call (.glb zej (.old 1668)) [(.cel zac), (.cel zch), (.loc zbb)]) false [zbb] [] (.lst R 0) [] S K := by
 obtain ⟨j, e⟩ := Nat.le.dest hl
 have el : (qs.map AV.ref).length = ts.length := by rw [List.length_map]; exact P.rows.len
 have key := zio (T := tbl) (z := 0) (c := 101) (Γ := [(zch, c1), (zac, c0)]) (elt := .call (.glb zej (.old 1668)) [(.cel zac), (.cel zch), (.loc zbb)]) (tup := false) (ys := [zbb]) (ifs := []) (xs := qs.map .ref) (Nx := .lst R) (K := K)
   (Inv := λ k acc S' => acc = (znh k).map .int ∧ k ≤ ts.length ∧ (∃ ds rs, CtF S' t L x ts k ds rs) ∧ PutF S S' t L x c0 c1 R qs ts)
   (λ k acc S' I => zbw I.2.2.2.li)
   (λ k v acc σ S' m hv I => ⟨_, rfl, λ K1 K0 q1 q0 => by
     obtain ⟨I1, I2, ⟨ds, rs, C⟩, P⟩ := I
     rw [za6, List.getElem?_map] at hv
     refine zbs hv λ q hq ev => ?_
     cases ev
     have lt : k < ts.length := P.rows.len ▸ (List.getElem?_eq_some_iff.mp hq).1
     have ew : ts[k]? = some ts[k] := List.getElem?_eq_getElem lt
     obtain ⟨y, hy⟩ := h _ (List.getElem_mem lt)
     obtain ⟨q', e1, e2⟩ := P.rows.get ew
     cases hq.symm.trans e1
     refine zr1 ((zzv (m + 91) 0 c0 c1 _ S' K1).mpr ?_)
     refine Opt.of (zb6 P.c0) (Opt.of rfl (Opt.of (zb6 P.c1) (Opt.of rfl (Opt.of (zbh _ _ _) (zI5 C.tr C.x1 C.xk C.xp C.ch e2 hy ?_ ?_ m λ r c a s S2 T2 ch kp => ?_)))))
     · rw [C.len]; exact ltx (Nat.succ_le_succ (Nat.succ_le_succ I2)) (ltx (Nat.succ_le_succ (Nat.succ_le_succ hl)) (by decide))
     · unfold znh; rw [List.length_map, List.length_range']; exact ltx I2 (ltx hl (by decide))
     · rw [C.len, ← zn5] at ch
       rw [C.len]
       refine q1 _ _ ⟨?_, lt, ⟨_, _, ⟨T2, ?_, ?_, C.xk, C.xp, ch, ?_, ?_⟩⟩, P.keep kp⟩
       · rw [I1, zn5, List.map_append]; rfl
       · obtain ⟨x0, a, b⟩ := C.x0
         exact ⟨x0, by rw [List.getElem?_append_left (List.getElem?_eq_some_iff.mp a).1]; exact a, b⟩
       · rw [List.getElem?_append_left (List.getElem?_eq_some_iff.mp C.x1).1]; exact C.x1
       · intro i w hi hw
         rcases Nat.lt_or_eq_of_le (Nat.le_of_lt_succ hi) with hi | hi
         · obtain ⟨y, c, a, s, h1, h2⟩ := C.row i w hi hw
           exact ⟨y, c, a, s, h1, by rw [List.getElem?_append_left (List.getElem?_eq_some_iff.mp h2).1]; exact h2⟩
         · cases hi
           cases hw.symm.trans ew
           exact ⟨y, c, a, s, hy, by rw [← C.len, List.getElem?_append_right (Nat.le_refl _), Nat.sub_self]; rfl⟩
       · rw [List.length_append, C.len]; rfl⟩)
   (qs.map AV.ref).length 0 (m + j + 10) σ [] S (Nat.zero_add _) (by rw [el]; exact ltx (Nat.add_le_add (Nat.le_refl 0) hl) (by decide)) ⟨rfl, Nat.zero_le _, C, P⟩ λ acc' S' I => by
     obtain ⟨I1, I2, ⟨ds, rs, C⟩, P⟩ := I
     rw [el] at C I1
     rw [I1]
     exact k _ _ ds rs (Lies.new _ _) P.kept.n (C.keep (Kept.add (X := []) _) (λ m => nomatch m) λ m => nomatch m) (P.keep (Kept.add _))
 rw [el] at key
 rw [show m + 120 = m + j + 10 + 101 + ts.length + 2 by rw [show m + 120 = m + 7 + 113 from rfl, ← e]; simp only [Nat.add_assoc, Nat.add_comm, Nat.add_left_comm]]
 exact key
end
noncomputable def zKo (o lo hi sp : AV) (st : Store) (K : KV) : Prop := match o with
 | .str s => match sp with
   | .none => Opt (cut s lo hi) λ r => K (.str r) st
   | _ => False
 | .ref i => Opt (st.ls i) λ xs => Chk (Nat.ble xs.length 1000) (Opt (zCa xs lo hi sp) λ r => K (.ref st.n) (st.add (.list r)))
 | _ => False
noncomputable def zh6 : List (List Nat) := [[101, 108, 101, 109, 101, 110, 116], [97, 116, 116, 114, 105, 98, 117, 116, 101], [105, 110, 115, 116, 114, 117, 99, 116, 105, 111, 110]]
noncomputable def zNa : PE := .call (.glb zej (.old 1668)) [(.cel zac), (.cel zch), (.loc zbb)]
noncomputable def ztb : PE := .tpl [(.loc zcp), (.slc (.loc zah) (.neg (.num 1)) .non .non), (.loc zar)]
section
variable (T : Tbl) (m : Nat) (S : Store) (KX : KX) (K : KV)
theorem zw2 (z : Nat) (Γ : zaw) (σ : zaf) : (mk T (m + 10)).ev z Γ σ ztb S K = Opt (lk zcp σ) λ u => Opt (lk zah σ) λ v => zKo v (.int (-1)) .none .none S λ b st => Opt (lk zar σ) λ w => K (.ref st.n) (st.add (.tup [u, b, w])) := by kernel_rfl
theorem zN2 (c0 c1 R : Nat) (a : AV) : (mk T (m + 30)).exec 0 [(zch, c1), (zac, c0)] [(zaz, .ref R), (zhu, a)] (.asg zau (.lc zNa false [zbb] (.loc zaz) [])) S KX =
   Opt (zeh S (.ref R)) λ src => (mk T (m + 28)).cloop (zrf src 0 S) [(zch, c1), (zac, c0)] [] zNa false [zbb] [] src [] S λ v st => KX .next [(zaz, .ref R), (zhu, a), (zau, v)] st := by kernel_rfl
theorem zN7 (c0 c1 R : Nat) (a : Int) (v : AV) : (mk T (m + 30)).exec 0 [(zch, c1), (zac, c0)] [(zaz, .ref R), (zhu, .int a), (zau, v)] (.asg zf8 (.lc ztb true [zcp, zah, zar] (.slc (.loc zaz) .non (.bin .add (.loc zhu) (.num 1)) .non) [])) S KX =
   Opt (zDq .add (.int a) (.int 1) S) λ p => Chk p.1 (zKo (.ref R) .none p.2.1 .none p.2.2 λ l st => Opt (zeh st l) λ src => (mk T (m + 28)).cloop (zrf src 0 st) [(zch, c1), (zac, c0)] [] ztb true [zcp, zah, zar] [] src [] st λ w st => KX .next [(zaz, .ref R), (zhu, .int a), (zau, v), (zf8, w)] st) := by kernel_rfl
noncomputable def zNf : PS := .ret (.cmp .eq (.call (.glb zb5 (.old 84)) [(.cel zac), (.idx (.loc zau) (.loc zhu)), (.txt [115, 105, 110, 103, 108, 101]), (.call (.glb zf5 (.old 28)) [(.cel zac), (.idx (.loc zau) (.loc zhu))]), (.lam 1)]) (.lst [(.mth (.loc zf8) zhq [(.idx (.loc zf8) (.neg (.num 1)))])]))
theorem zOh (c0 c1 : Nat) (a r ns ls : AV) : (mk T (m + 30)).exec 0 [(zch, c1), (zac, c0)] [(zaz, r), (zhu, a), (zau, ns), (zf8, ls)] zNf S KX =
   Opt (S.cl c0) λ o => Opt o λ t => Opt (zem T S ns a) λ n => Opt (S.cl c0) λ o => Opt o λ t' => Opt (zem T S ns a) λ n' => (mk T (m + 22)).callv 0 (.old 28) [t', n'] S λ g st =>
     Opt (lk 1 T.nst) λ nd => Opt (zd1 [(zch, c1), (zac, c0)] nd.free) λ cl => (mk T (m + 27)).callv 0 (.old 84) [t, n, .str [115, 105, 110, 103, 108, 101], g, .ref st.n] (st.add (.fn 1 cl)) λ q st =>
       Opt (zat T st ls zhq) λ mt => Opt (zem T st ls (.int (-1))) λ k => MtA (mk T (m + 25)) 0 st [k] st (λ c st => Opt (zhy .eq q (.ref st.n) (st.add (.list [c]))) λ q => KX (.ret (.bool q)) [(zaz, r), (zhu, a), (zau, ns), (zf8, ls)] (st.add (.list [c]))) mt := by kernel_rfl
theorem zK4 : zao.body.drop 2 = [.asg zau (.lc zNa false [zbb] (.loc zaz) []), .asg zf8 (.lc ztb true [zcp, zah, zar] (.slc (.loc zaz) .non (.bin .add (.loc zhu) (.num 1)) .non) []), zNf] := rfl
theorem zEc (i0 i1 i2 i3 : Nat) (w : AV) : (mk T (m + 39)).execs 0 [(zbk, i1), (za3, i2), (zac, i0), (zar, i3)] [(zba, w)] nd0.body S KX =
   Opt (S.cl i0) λ o => Opt o λ t => Opt (zat T S t zbk) (MtA (mk T (m + 34)) 0 S [w] S λ k st => Opt (st.cl i1) λ o => Opt o λ k2 => Opt (zhy .ne k k2 st) λ q => match q with
     | true => KX (.ret (.bool false)) [(zba, w)] st
     | false => Opt (st.cl i1) λ o => Opt o λ k3 => Opt k3.toS λ s => match zh6.contains s != true with
       | true => KX (.ret (.bool true)) [(zba, w)] st
       | false => Opt (st.cl i0) λ o => Opt o λ t => Opt (zat T st t za3) (MtA (mk T (m + 32)) 0 st [w] st λ l st => Opt (st.cl i2) λ o => Opt o λ l2 => Opt (zhy .eq l l2 st) λ q => match q with
         | true => Opt (st.cl i0) λ o => Opt o λ t => Opt (zat T st t zar) (MtA (mk T (m + 31)) 0 st [w] st λ u st => Opt (st.cl i3) λ o => Opt o λ u2 => Opt (zhy .eq u u2 st) λ q => KX (.ret (.bool q)) [(zba, w)] st)
         | false => KX (.ret (.bool q)) [(zba, w)] st)) := by kernel_rfl
theorem zAf (i0 i1 i2 i3 : Nat) (w : AV) : (mk T (m + 39)).execs 0 [(zar, i3), (za3, i2), (zbk, i1), (zac, i0)] [(zab, w)] zcj.body S KX =
   Opt (S.cl i0) λ o => Opt o λ t => Opt (zat T S t zbk) (MtA (mk T (m + 36)) 0 S [w] S λ k st => Opt (st.cl i1) λ _ => Opt ((st.set i1 (.cell (some k))).cl i3) λ _ => Opt (((st.set i1 (.cell (some k))).set i3 (.cell (some (.str [])))).cl i2) λ _ =>
     (λ st : Store => Opt (st.cl i1) λ o => Opt o λ k => Opt k.toS λ s => (λ J : Store → Prop => match zh6.contains s != false with
       | true => Opt (st.cl i0) λ o => Opt o λ t => Opt (zat T st t za3) (MtA (mk T (m + 31)) 0 st [w] st λ l st => Opt (st.cl i2) λ _ => Opt ((st.set i2 (.cell (some l))).cl i0) λ o => Opt o λ t => Opt (zat T (st.set i2 (.cell (some l))) t zar) (MtA (mk T (m + 30)) 0 (st.set i2 (.cell (some l))) [w] (st.set i2 (.cell (some l))) λ u st => Opt (st.cl i3) λ _ => J (st.set i3 (.cell (some u)))))
       | false => J st) λ st => Opt (lk 0 T.nst) λ nd => Opt (zd1 [(zar, i3), (za3, i2), (zbk, i1), (zac, i0)] nd.free) λ cl => KX (.ret (.ref st.n)) [(zab, w), (zbx, .ref st.n)] (st.add (.fn 0 cl))) (((st.set i1 (.cell (some k))).set i3 (.cell (some (.str [])))).set i2 (.cell (some (.str []))))) := by kernel_rfl
end
noncomputable def zro : List (List Nat) := [[97, 116, 116, 114, 105, 98, 117, 116, 101], [110, 97, 109, 101, 115, 112, 97, 99, 101]]
noncomputable def paB : List PS := [.iff (.cmp .eq (.loc zdo) (.loc zab)) [.ret (.loc zed)] [], .iff (.call (.loc zal) [(.loc zdo)]) [.aug zed .add (.num 1)] []]
noncomputable def ubB : List PS := [.iff (.andd [(.cmp .ne (.loc zbm) (.loc zab)), (.call (.loc za2) [(.loc zbm)])]) [.ret (.loc zan)] [], .exp (.mth (.loc zan) za0 [(.loc zbm)])]
noncomputable def snB : List PS := [.iff (.call (.loc zal) [(.loc zbm)]) [.ret (.lst [(.call (.glb zf2 (.old 42)) [(.loc zac), (.loc zbm), (.loc zal)])])] []]
section
variable (T : Tbl) (m : Nat) (S : Store) (KX : KX) (t n g b : AV) (σ : zaf)
theorem zKb : (mk T (m + 39)).execs 0 [] [(zac, t), (zab, n), (zal, g)] zfs.body S KX =
   Opt (zat T S t zap) (MtA (mk T (m + 36)) 0 S [n] S λ p st => Opt (zhy .is p .none st) λ q => match q with
     | true => KX (.ret (.int 1)) [(zac, t), (zab, n), (zal, g), (zap, p)] st
     | false => Opt (zat T st t zbk) (MtA (mk T (m + 31)) 0 st [n] st λ k st => Opt k.toS λ s => match zro.contains s != false with
       | true => KX (.ret (.int 1)) [(zac, t), (zab, n), (zal, g), (zap, p)] st
       | false => Opt (zat T st t zb2) (MtA (mk T (m + 33)) 0 st [p] st λ l st => Opt (zeh st l) λ src => Chk (!zfg src) ((mk T (m + 34)).floop 0 [] [(zac, t), (zab, n), (zal, g), (zap, p), (zed, .int 1)] false [(false, zdo)] src paB st λ fl σ st => match fl with
         | .next => Opt (lk zed σ) λ v => KX (.ret v) σ st
         | .ret v => KX (.ret v) σ st)))) := by kernel_rfl
theorem zFp : (mk T (m + 20)).execs 0 [] σ paB S KX = Opt (lk zdo σ) λ c => Opt (lk zab σ) λ n => Opt (zhy .eq c n S) λ q => match q with
   | true => Opt (lk zed σ) λ v => KX (.ret v) σ S
   | false => Opt (lk zal σ) λ g => Opt (lk zdo σ) λ c => (mk T (m + 15)).callv 0 g [c] S λ b st => Opt (truthy b) λ q => match q with
     | true => Opt (lk zed σ) λ old => Opt (zIf .add old (.int 1)) λ w => KX .next (putL zed w σ) st
     | false => KX .next σ st := by kernel_rfl
theorem zIm : (mk T (m + 39)).execs 0 [] [(zac, t), (zab, n), (za2, b)] zfx.body S KX =
   (mk T (m + 35)).callv 0 (.old 35) [t, n] (S.add (.list [])) λ l st => Opt (zeh st l) λ src => Chk (!zfg src) ((mk T (m + 36)).floop 0 [] [(zac, t), (zab, n), (za2, b), (zan, .ref S.n)] false [(false, zbm)] src ubB st λ fl σ st => match fl with
     | .next => Opt (lk zan σ) λ v => KX (.ret v) σ st
     | .ret v => KX (.ret v) σ st) := by kernel_rfl
theorem zDr : (mk T (m + 20)).execs 0 [] σ ubB S KX = Opt (lk zbm σ) λ o => Opt (lk zab σ) λ n => Opt (zhy .ne o n S) λ q => (λ J : Store → Prop => match q with
   | true => Opt (lk za2 σ) λ b => Opt (lk zbm σ) λ o => (mk T (m + 14)).callv 0 b [o] S λ r st => Opt (truthy r) λ q => match q with
     | true => Opt (lk zan σ) λ v => KX (.ret v) σ st
     | false => J st
   | false => J S) λ st => Opt (lk zan σ) λ f => Opt (zat T st f za0) λ mt => Opt (lk zbm σ) λ o => MtA (mk T (m + 16)) 0 st [o] st (λ _ st => KX .next σ st) mt := by kernel_rfl
theorem zKd : (mk T (m + 39)).execs 0 [] [(zac, t), (zab, n), (zal, g), (za2, b)] zeu.body S KX =
   (mk T (m + 36)).callv 0 (.old 49) [t, n, b] S λ l st => Opt (zeh st l) λ src => Chk (!zfg src) ((mk T (m + 37)).floop 0 [] [(zac, t), (zab, n), (zal, g), (za2, b)] false [(false, zbm)] src snB st λ fl σ st => match fl with
     | .next => KX (.ret (.ref st.n)) σ (st.add (.list []))
     | .ret v => KX (.ret v) σ st) := by kernel_rfl
theorem zC7 : (mk T (m + 20)).execs 0 [] σ snB S KX = Opt (lk zal σ) λ g => Opt (lk zbm σ) λ o => (mk T (m + 16)).callv 0 g [o] S λ b st => Opt (truthy b) λ q => match q with
   | true => Opt (lk zac σ) λ t => Opt (lk zbm σ) λ o => Opt (lk zal σ) λ g => (mk T (m + 13)).callv 0 (.old 42) [t, o, g] st λ v st => KX (.ret (.ref st.n)) σ (st.add (.list [v]))
   | false => KX .next σ st := by kernel_rfl
theorem zHx : (mk T (m + 39)).execs 0 [] [(zac, t), (zab, n), (zjc, .str [115, 105, 110, 103, 108, 101]), (zal, g), (za2, b)] zc3.body S KX =
   (mk T (m + 34)).callv 0 (.old 56) [t, n, g, b] S λ v st => KX (.ret v) [(zac, t), (zab, n), (zjc, .str [115, 105, 110, 103, 108, 101]), (zal, g), (za2, b)] st := by kernel_rfl
end
section
variable {S S' : Store} {X : List Nat} {t L F i : Nat} {x : Nd} {ds : List Nd} {rs : List Nat} {K : KV} {k0 lo ur : List Nat}
theorem zH8 {k : Nat} {Γ : zaw} (h : Lies S F (.fn k Γ)) : S.fu F = some (k, Γ) := by unfold Store.fu; rw [h.1]; rfl
structure IsF (S : Store) (F t i0 i1 i2 i3 : Nat) (k0 lo ur : List Nat) : Prop where
 f : Lies S F (.fn 0 [(zbk, i1), (za3, i2), (zac, i0), (zar, i3)])
 c0 : Lies S i0 (.cell (some (.ref t)))
 c1 : Lies S i1 (.cell (some (.str k0)))
 c2 : Lies S i2 (.cell (some (.str lo)))
 c3 : Lies S i3 (.cell (some (.str ur)))
variable {i0 i1 i2 i3 : Nat}
theorem IsF.keep (h : IsF S F t i0 i1 i2 i3 k0 lo ur) (k : Kept X S S') : IsF S' F t i0 i1 i2 i3 k0 lo ur := ⟨k.at' h.f nb, k.at' h.c0 nb, k.at' h.c1 nb, k.at' h.c2 nb, k.at' h.c3 nb⟩
noncomputable def zAn (k0 lo ur : List Nat) (x : Nd) : Bool := match decide (x.k = k0) with
 | false => false
 | true => match zh6.contains k0 with
   | false => true
   | true => match decide (x.l = lo) with
     | true => decide (x.u = ur)
     | false => false
theorem zBu (h : TreeF S t L ds rs) (I : IsF S F t i0 i1 i2 i3 k0 lo ur) (e : ds[i]? = some x) (m : Nat) (k : K (.bool (zAn k0 lo ur x)) S) : (mk tbl (m + 70)).callv 0 (.ref F) [.int i] S K := by
 refine Opt.of (zH8 I.f) (Opt.of rfl (Chk.of rfl (Opt.of rfl ((zEc tbl (m + 30) S _ i0 i1 i2 i3 (.int i)).mpr (Opt.of (zb6 I.c0) (Opt.of rfl (Opt.of (h.mth rfl rfl) (zee fnT.1 h e (v := .str x.k) rfl rfl (m + 34) (Opt.of (zb6 I.c1) (Opt.of rfl (Opt.of (a := !decide (x.k = k0)) rfl ?_)))))))))))
 unfold zAn at k
 cases e1 : decide (x.k = k0) with
 | false => rw [e1] at k; exact k
 | true =>
   rw [e1] at k
   refine Opt.of (zb6 I.c1) (Opt.of rfl (Opt.of (a := k0) rfl ?_))
   cases e2 : zh6.contains k0 with
   | false => rw [e2] at k; exact k
   | true =>
     rw [e2] at k
     refine Opt.of (zb6 I.c0) (Opt.of rfl (Opt.of (h.mth rfl rfl) (zee fnT.2.2.2.1 h e (v := .str x.l) rfl rfl (m + 32) (Opt.of (zb6 I.c2) (Opt.of rfl (Opt.of (a := decide (x.l = lo)) rfl ?_))))))
     cases e3 : decide (x.l = lo) with
     | false => rw [e3] at k; exact k
     | true =>
       rw [e3] at k
       exact Opt.of (zb6 I.c0) (Opt.of rfl (Opt.of (h.mth rfl rfl) (zee fnT.2.2.1 h e (v := .str x.u) rfl rfl (m + 31) (Opt.of (zb6 I.c3) (Opt.of rfl (Opt.of (a := decide (x.u = ur)) rfl k))))))
theorem Kept.setN {c : Nat} {o : AO} (h : Kept X S S') (l : S.n ≤ c) : Kept X S (S'.set c o) := ⟨h.n, λ {j o'} e q => ⟨by
 rw [Store.get_set, if_neg (Nat.ne_of_lt (llx e.2 l))]
 exact (h.at' e q).1, (h.at' e q).2⟩⟩
theorem Lies.setC {c j : Nat} {o o' : AO} (h : Lies S j o) (n : j ≠ c) : Lies (S.set c o') j o := ⟨by rw [Store.get_set, if_neg n]; exact h.1, h.2⟩
theorem Lies.setS {c : Nat} {o o' : AO} (h : Lies S c o) : Lies (S.set c o') c o' := ⟨by rw [Store.get_set, if_pos rfl], h.2⟩
theorem zDi : tbl.fn.get 28 = some zcj := by kernel_rfl
structure Ce (S0 S : Store) (t : Nat) (k lo ur : Option AV) : Prop where
 c0 : Lies S S0.n (.cell (some (.ref t)))
 c1 : Lies S (S0.n + 1) (.cell k)
 c2 : Lies S (S0.n + 2) (.cell lo)
 c3 : Lies S (S0.n + 3) (.cell ur)
 kp : Kept [] S0 S
variable {S0 : Store} {k1 l1 u1 : Option AV} {v : AV}
theorem Ce.s1 (h : Ce S0 S t k1 l1 u1) (v : AV) : Ce S0 (S.set (S0.n + 1) (.cell (some v))) t (some v) l1 u1 := ⟨h.c0.setC (Nat.ne_of_lt (Nat.lt_succ_self _)), h.c1.setS, h.c2.setC (Nat.ne_of_gt (Nat.lt_succ_self _)), h.c3.setC (λ e => nomatch Nat.add_left_cancel e), h.kp.setN (zft _ _)⟩
theorem Ce.s2 (h : Ce S0 S t k1 l1 u1) (v : AV) : Ce S0 (S.set (S0.n + 2) (.cell (some v))) t k1 (some v) u1 := ⟨h.c0.setC (λ e => nomatch Nat.add_left_cancel (m := 0) e), h.c1.setC (Nat.ne_of_lt (Nat.lt_succ_self _)), h.c2.setS, h.c3.setC (Nat.ne_of_gt (Nat.lt_succ_self _)), h.kp.setN (zft _ _)⟩
theorem Ce.s3 (h : Ce S0 S t k1 l1 u1) (v : AV) : Ce S0 (S.set (S0.n + 3) (.cell (some v))) t k1 l1 (some v) := ⟨h.c0.setC (λ e => nomatch Nat.add_left_cancel (m := 0) e), h.c1.setC (λ e => nomatch Nat.add_left_cancel e), h.c2.setC (Nat.ne_of_lt (Nat.lt_succ_self _)), h.c3.setS, h.kp.setN (zft _ _)⟩
theorem zCe (h : TreeF S t L ds rs) (e : ds[i]? = some x) (m : Nat) (k : ∀ S', IsF S' S'.n.pred t S.n (S.n + 1) (S.n + 2) (S.n + 3) x.k (if zh6.contains x.k then x.l else []) (if zh6.contains x.k then x.u else []) → Kept [] S S' → K (.ref S'.n.pred) S') : (mk tbl (m + 70)).callv 0 (.old 28) [.ref t, .int i] S K := by
 rw [zbo (n := m + 69) (b := [(zac, .ref t), (zab, .int i)]) zDi rfl]
 have C : Ce S ((((S.add (.cell (some (.ref t)))).add (.cell none)).add (.cell none)).add (.cell none)) t none none none := ⟨(((Lies.new S _).add _).add _).add _, ((Lies.new (S.add _) _).add _).add _, (Lies.new ((S.add _).add _) _).add _, Lies.new (((S.add _).add _).add _) _, (((Kept.add _).trans (Kept.add _)).trans (Kept.add _)).trans (Kept.add _)⟩
 have hk := λ {S' : Store} {a b c : Option AV} (C : Ce S S' t a b c) => h.keep C.kp λ m => nomatch m
 refine (zAf tbl (m + 30) _ _ S.n (S.n + 1) (S.n + 2) (S.n + 3) (.int i)).mpr (Opt.of (zb6 C.c0) (Opt.of rfl (Opt.of ((hk C).mth rfl rfl) (zee fnT.1 (hk C) e (v := .str x.k) rfl rfl (m + 36) ?_))))
 have C1 := C.s1 (.str x.k)
 have C3 := C1.s3 (.str [])
 have C2 := C3.s2 (.str [])
 refine Opt.of (zb6 C.c1) (Opt.of (zb6 C1.c3) (Opt.of (zb6 C3.c2) (Opt.of (zb6 C2.c1) (Opt.of rfl (Opt.of (a := x.k) rfl ?_)))))
 have fin : ∀ {S' : Store} {lo ur : List Nat}, Ce S S' t (some (.str x.k)) (some (.str lo)) (some (.str ur)) → IsF (S'.add (.fn 0 [(zbk, S.n + 1), (za3, S.n + 2), (zac, S.n), (zar, S.n + 3)])) S'.n t S.n (S.n + 1) (S.n + 2) (S.n + 3) x.k lo ur ∧ Kept [] S (S'.add (.fn 0 [(zbk, S.n + 1), (za3, S.n + 2), (zac, S.n), (zar, S.n + 3)])) := λ C => ⟨⟨Lies.new _ _, C.c0.add _, C.c1.add _, C.c2.add _, C.c3.add _⟩, C.kp.trans (Kept.add _)⟩
 cases e2 : zh6.contains x.k with
 | false =>
   rw [e2] at k
   exact Opt.of rfl (Opt.of rfl (k _ (fin C2).1 (fin C2).2))
 | true =>
   rw [e2] at k
   refine Opt.of (zb6 C2.c0) (Opt.of rfl (Opt.of ((hk C2).mth rfl rfl) (zee fnT.2.2.2.1 (hk C2) e (v := .str x.l) rfl rfl (m + 31) (Opt.of (zb6 C2.c2) ?_))))
   have C4 := C2.s2 (.str x.l)
   refine Opt.of (zb6 C4.c0) (Opt.of rfl (Opt.of ((hk C4).mth rfl rfl) (zee fnT.2.2.1 (hk C4) e (v := .str x.u) rfl rfl (m + 30) (Opt.of (zb6 C4.c3) (Opt.of rfl (Opt.of rfl (k _ (fin (C4.s3 (.str x.u))).1 (fin (C4.s3 (.str x.u))).2)))))))
end
theorem zdw {x y : Nat} (v : AV) (h : Nat.beq x y = false) : ∀ σ : zaf, lk y (putL x v σ) = lk y σ
 | [] => by show (match Nat.beq x y with | true => _ | false => _) = _; rw [h]
 | (z, w) :: r => by
   show lk y (if z = x then (z, v) :: r else (z, w) :: zxv x v r) = (match Nat.beq z y with | true => _ | false => _)
   by_cases e : z = x
   · rw [if_pos e]; show (match Nat.beq z y with | true => _ | false => _) = _; rw [e, h]
   · rw [if_neg e]; show (match Nat.beq z y with | true => _ | false => _) = _
     have ih := zdw v h r
     cases Nat.beq z y with
     | true => rfl
     | false => exact ih
section
variable {S S' : Store} {X : List Nat} {t L F i a n : Nat} {x y : Nd} {ds : List Nd} {rs : List Nat} {K : KV} {k0 lo ur : List Nat} {i0 i1 i2 i3 : Nat} {bs : List Bool}
noncomputable def cnt (bs : List Bool) (k : Nat) : Int := 1 + ((bs.take k).count true : Nat)
theorem zyw {k : Nat} {b : Bool} (e : bs[k]? = some b) : cnt bs (k + 1) = cond b (cnt bs k + 1) (cnt bs k) := by
 unfold cnt
 rw [List.take_add_one, e, List.count_append]
 cases b with
 | true => exact (Int.add_assoc 1 ((bs.take k).count true : Nat) 1).symm
 | false => rfl
theorem zLh : tbl.fn.get 42 = some zfs := by kernel_rfl
theorem zrj {k n : Nat} (h : k < n) : (znh n)[k]? = some ((k + 2 : Nat) : Int) := by
 unfold znh
 rw [List.getElem?_map, List.getElem?_range' h, Nat.one_mul, Nat.add_comm 2 k]; rfl
theorem zLu (h : TreeF S t L ds rs) (I : IsF S F t i0 i1 i2 i3 k0 lo ur) (e : ds[a + 2]? = some x) (ep : x.p = .int 1) (ek : zro.contains x.k = false) (e1 : ds[1]? = some y) (hc : Lies S y.c (.list ((znh n).map .int))) (hn : n ≤ 7) (ha : a < n) (hb : ∀ k, k < a → ∃ z, ds[k + 2]? = some z ∧ bs[k]? = some (zAn k0 lo ur z)) (m : Nat)
   (k : ∀ S', Kept [] S S' → K (.int (cnt bs a)) S') : (mk tbl (m + 100)).callv 0 (.old 42) [.ref t, .int ((a + 2 : Nat) : Int), .ref F] S K := by
 obtain ⟨j, ej⟩ := Nat.le.dest hn
 rw [zbo (n := m + 99) (b := [(zac, .ref t), (zab, .int ((a + 2 : Nat) : Int)), (zal, .ref F)]) zLh rfl]
 refine (zKb tbl (m + 60) S _ (.ref t) (.int ((a + 2 : Nat) : Int)) (.ref F)).mpr (Opt.of (h.mth rfl rfl) (zee fnT.2.2.2.2.2.1 h e (v := .int 1) (congrArg some ep) rfl (m + 66) (Opt.of (a := false) rfl (Opt.of (h.mth rfl rfl) (zee fnT.1 h e (v := .str x.k) rfl rfl (m + 61) (Opt.of (a := x.k) rfl ?_))))))
 rw [ek]
 have hl : ((znh n).map AV.int).length = n := by unfold znh; rw [List.length_map, List.length_map, List.length_range']
 refine Opt.of (h.mth rfl rfl) (zoo fnT.2.2.2.2.2.2.1 h e1 (r := y.c) rfl rfl hc (by rw [hl]; exact ltx hn (by decide)) (m + 63) (Opt.of (a := .lst S.n 0) (by show ((S.add _).get S.n).bind _ = _; rw [(Lies.new S _).1]; rfl) (Chk.of rfl ?_)))
 have kp : Kept [] S (S.add (.list ((znh n).map .int))) := Kept.add _
 have h' := h.keep kp λ m => nomatch m
 have I' := I.keep kp
 generalize eS : S.add (.list ((znh n).map .int)) = S1 at *
 have aL : Lies S1 S.n (.list ((znh n).map .int)) := eS ▸ Lies.new S _
 have := zel (T := tbl) (z := 0) (c := 75) (Γ := []) (tup := false) (zs := [(false, zdo)]) (b := paB) (xs := (znh n).map .int) (Nx := .lst S.n)
   (Inv := λ k σ S' => S' = S1 ∧ k ≤ a ∧ lk zab σ = some (.int ((a + 2 : Nat) : Int)) ∧ lk zal σ = some (.ref F) ∧ lk zed σ = some (.int (cnt bs k)))
   (Rt := λ w S' => w = .int (cnt bs a) ∧ S' = S1)
   (K := λ fl σ st => match fl with | .next => Opt (lk zed σ) λ v => K (zck (.ret v)) st | .ret v => K (zck (.ret v)) st)
   (λ k σ S' I => I.1 ▸ zbw aL)
   (λ k v σ S' m hv I => ⟨putL zdo v σ, rfl, λ K1 q1 q2 => by
     obtain ⟨rfl, hk, g1, g2, g3⟩ := I
     rw [za6, List.getElem?_map, zrj (Nat.lt_of_le_of_lt hk ha)] at hv
     cases hv
     have f1 := (zdw (x := zdo) (.int ((k + 2 : Nat) : Int)) rfl σ).trans g1
     have f2 := (zdw (x := zdo) (.int ((k + 2 : Nat) : Int)) rfl σ).trans g2
     have f3 := (zdw (x := zdo) (.int ((k + 2 : Nat) : Int)) rfl σ).trans g3
     refine (zFp tbl (m + 55) S' K1 _).mpr (Opt.of (zbh _ _ _) (Opt.of f1 (Opt.of (a := decide (((k + 2 : Nat) : Int) = ((a + 2 : Nat) : Int))) rfl ?_)))
     by_cases d : k = a
     · rw [d, decide_eq_true rfl]
       exact Opt.of (d ▸ f3) (q2 _ _ _ ⟨rfl, rfl⟩)
     · have hne : ((k + 2 : Nat) : Int) ≠ ((a + 2 : Nat) : Int) := λ e => d (Nat.add_right_cancel (Int.ofNat.inj e))
       rw [decide_eq_false hne]
       have lt : k < a := Nat.lt_of_le_of_ne hk d
       obtain ⟨z, z1, z2⟩ := hb k lt
       refine Opt.of f2 (Opt.of (zbh _ _ _) (zBu h' I' z1 m (Opt.of (a := zAn k0 lo ur z) rfl ?_)))
       have c := zyw z2
       cases eb : zAn k0 lo ur z with
       | true =>
         rw [eb] at c
         exact Opt.of f3 (Opt.of rfl (q1 _ _ ⟨rfl, lt, (zdw (x := zed) _ rfl _).trans f1, (zdw (x := zed) _ rfl _).trans f2, (zbh _ _ _).trans (congrArg (λ i => some (AV.int i)) c.symm)⟩))
       | false =>
         rw [eb] at c
         exact q1 _ _ ⟨rfl, lt, f1, f2, f3.trans (congrArg (λ i => some (AV.int i)) c.symm)⟩⟩)
   ((znh n).map AV.int).length 0 (m + j + 10) [(zac, .ref t), (zab, .int ((a + 2 : Nat) : Int)), (zal, .ref F), (zap, .int 1), (zed, .int 1)] S1 (Nat.zero_add _) ⟨rfl, Nat.zero_le _, rfl, rfl, rfl⟩
   (λ σ S' I => absurd ha (Nat.not_lt.mpr (hl ▸ I.2.1))) (λ w σ S' q => q.1 ▸ k S' (q.2 ▸ kp))
 rw [hl, show m + j + 10 + 75 + n + 2 = m + 94 by rw [show m + 94 = m + 10 + 75 + 7 + 2 from rfl, ← ej]; simp only [Nat.add_assoc, Nat.add_comm, Nat.add_left_comm]] at this
 exact this
end
section
variable {S S' : Store} {X : List Nat} {t L F B i a n : Nat} {x y : Nd} {ds : List Nd} {rs : List Nat} {K : KV} {k0 lo ur : List Nat} {i0 i1 i2 i3 : Nat} {bs : List Bool}
theorem zGs {v : AV} (h : Lies S B (.fn 1 [])) (m : Nat) (k : K (.bool false) S) : (mk tbl (m + 9)).callv 0 (.ref B) [v] S K := Opt.of (zH8 h) (Opt.of rfl (Chk.of rfl (Opt.of rfl k)))
theorem zK1 : tbl.fn.get 49 = some zfx := by kernel_rfl
theorem zK2 : tbl.fn.get 56 = some zeu := by kernel_rfl
theorem zMp : tbl.fn.get 84 = some zc3 := by kernel_rfl
theorem zdc {xs : List AV} (h : Lies S F (.list xs)) : zeh S (.ref F) = some (.lst F 0) := by show (S.get F).bind _ = _; rw [h.1]; rfl
theorem zL0 {is : List Int} {w : Int} (h : TreeF S t L ds rs) (hB : Lies S B (.fn 1 [])) (ln : Line ds (.int w) (is.map .int)) (hl : is.length ≤ 3) (m : Nat) (k : ∀ R S', Lies S' R (.list (is.map .int)) → Kept [] S S' → K (.ref R) S') : (mk tbl (m + 130)).callv 0 (.old 49) [.ref t, .int w, .ref B] S K := by
 obtain ⟨j, ej⟩ := Nat.le.dest hl
 have el : (is.map AV.int).length = is.length := List.length_map _
 rw [zbo (n := m + 129) (b := [(zac, .ref t), (zab, .int w), (za2, .ref B)]) zK1 rfl]
 refine (zIm tbl (m + 90) S _ (.ref t) (.int w) (.ref B)).mpr (zGu (h.keep (Kept.add (X := []) _) λ m => nomatch m) ln (by rw [el]; exact ltx hl (by decide)) (m + 35) λ M S1 aM lM k1 => Opt.of (zdc aM) (Chk.of rfl ?_))
 have hF : Lies S1 S.n (.list []) := k1.at' (Lies.new S _) λ _ m => nomatch m
 have nF : S.n ≠ M := Nat.ne_of_lt lM
 have hB' : Lies S1 B (.fn 1 []) := k1.at' (hB.add _) nb
 have := zel (T := tbl) (z := 0) (c := 25) (Γ := []) (tup := false) (zs := [(false, zbm)]) (b := ubB) (xs := is.map .int) (Nx := .lst M)
   (Inv := λ k σ S' => Lies S' S.n (.list ((is.take k).map .int)) ∧ Lies S' M (.list (is.map .int)) ∧ Kept [S.n] S1 S' ∧ lk zab σ = some (.int w) ∧ lk za2 σ = some (.ref B) ∧ lk zan σ = some (.ref S.n))
   (Rt := λ _ _ => False)
   (K := λ fl σ st => match fl with | .next => Opt (lk zan σ) λ v => K (zck (.ret v)) st | .ret v => K (zck (.ret v)) st)
   (λ k σ S' I => zbw I.2.1)
   (λ k v σ S' m hv I => ⟨putL zbm v σ, rfl, λ K1 q1 q2 => by
     obtain ⟨g0, gM, gk, g1, g2, g3⟩ := I
     rw [za6, List.getElem?_map] at hv
     refine zbs hv λ i hi ev => ?_
     cases ev
     have f1 := (zdw (x := zbm) (.int i) rfl σ).trans g1
     have f2 := (zdw (x := zbm) (.int i) rfl σ).trans g2
     have f3 := (zdw (x := zbm) (.int i) rfl σ).trans g3
     have lt : (is.take k).length ≤ 1000 := ltx (ltx (by rw [List.length_take]; exact Nat.min_le_right _ _) hl) (by decide)
     obtain ⟨mt, e1, e2⟩ := zrl (r := mk tbl (m + 5 + 16)) (v := .int i) (K := λ _ st => K1 .next (putL zbm (.int i) σ) st) g0 g0 (by rw [List.length_map]; exact lt) λ a1 b1 => q1 _ _ ⟨by rw [List.take_add_one, hi, List.map_append]; exact a1, b1.at' gM λ _ m => nF (msx m).symm, gk.trans b1, f1, f2, f3⟩
     refine (zDr tbl (m + 5) S' K1 _).mpr (Opt.of (zbh _ _ _) (Opt.of f1 (Opt.of (a := !decide (i = w)) rfl ?_)))
     have J : (λ st => Opt (lk zan (putL zbm (.int i) σ)) λ f => Opt (zat tbl st f za0) λ mt => Opt (lk zbm (putL zbm (.int i) σ)) λ o => MtA (mk tbl (m + 5 + 16)) 0 st [o] st (λ _ st => K1 .next (putL zbm (.int i) σ) st) mt) S' := Opt.of f3 (Opt.of e1 (Opt.of (zbh _ _ _) e2))
     cases decide (i = w) with
     | true => exact J
     | false => exact Opt.of f2 (Opt.of (zbh _ _ _) (zGs (gk.at' hB' nb) (m + 10) (Opt.of rfl J)))⟩)
   (is.map AV.int).length 0 (m + j + 96) [(zac, .ref t), (zab, .int w), (za2, .ref B), (zan, .ref S.n)] S1 (Nat.zero_add _) ⟨hF, aM, Kept.refl, rfl, rfl, rfl⟩
   (λ σ S' I => Opt.of I.2.2.2.2.2 (k _ S' (by have := I.1; rw [el, List.take_length] at this; exact this) (((Kept.add _).trans ((k1.sub λ _ m => nomatch m).trans I.2.2.1)).new λ x m => .inl (msx m ▸ Nat.le_refl _)))) (λ w σ S' q => q.elim)
 rw [el, show m + j + 96 + 25 + is.length + 2 = m + 126 by rw [show m + 126 = m + 96 + 25 + 3 + 2 from rfl, ← ej]; simp only [Nat.add_assoc, Nat.add_comm, Nat.add_left_comm]] at this
 exact this
theorem zi5 {T : Tbl} {z n : Nat} {Γ : zaw} {σ σ' : zaf} {tup : Bool} {xs : List (Bool × Nat)} {src src' : Src} {b : List PS} {K : KX} {v : AV} (e1 : zfm S src = some (some (v, src'))) (e2 : zgo z Γ tup xs v σ S = some (σ', S')) (h : (mk T n).execs z Γ σ' b S' λ fl σ st => match fl with | .next => (mk T n).floop z Γ σ tup xs src' b st K | .ret v => K (.ret v) σ st) : (mk T (n + 1)).floop z Γ σ tup xs src b S K := Opt.of e1 (Opt.of e2 h)
structure Ask (S : Store) (t L : Nat) (ds : List Nd) (rs : List Nat) (F i0 i1 i2 i3 : Nat) (k0 lo ur : List Nat) (a n : Nat) (x y x0 : Nd) (bs : List Bool) : Prop where
 tr : TreeF S t L ds rs
 f : IsF S F t i0 i1 i2 i3 k0 lo ur
 e : ds[a + 2]? = some x
 ep : x.p = .int 1
 ek : zro.contains x.k = false
 eb : zAn k0 lo ur x = true
 e1 : ds[1]? = some y
 yp : y.p = .int 0
 e0 : ds[0]? = some x0
 zp : x0.p = .none
 ch : Lies S y.c (.list ((znh n).map .int))
 hn : n ≤ 7
 ha : a < n
 hb : ∀ k, k < a → ∃ z, ds[k + 2]? = some z ∧ bs[k]? = some (zAn k0 lo ur z)
variable {x0 : Nd}
theorem zNb (A : Ask S t L ds rs F i0 i1 i2 i3 k0 lo ur a n x y x0 bs) (hB : Lies S B (.fn 1 [])) (m : Nat) (k : ∀ R S', Lies S' R (.list [.int (cnt bs a)]) → Kept [] S S' → K (.ref R) S') : (mk tbl (m + 140)).callv 0 (.old 56) [.ref t, .int ((a + 2 : Nat) : Int), .ref F, .ref B] S K := by
 rw [zbo (n := m + 139) (b := [(zac, .ref t), (zab, .int ((a + 2 : Nat) : Int)), (zal, .ref F), (za2, .ref B)]) zK2 rfl]
 refine (zKd tbl (m + 100) S _ (.ref t) (.int ((a + 2 : Nat) : Int)) (.ref F) (.ref B)).mpr (zL0 (is := [((a + 2 : Nat) : Int), ((1 : Nat) : Int), ((0 : Nat) : Int)]) A.tr hB (.cons A.e (A.ep.symm ▸ .cons A.e1 (A.yp.symm ▸ .cons A.e0 (A.zp.symm ▸ .nil)))) (Nat.le_refl 3) (m + 6) λ R S1 aR k1 => Opt.of (zdc aR) (Chk.of rfl ?_))
 have I := A.f.keep k1
 have h := A.tr.keep k1 λ m => nomatch m
 refine zi5 (n := m + 136) (σ' := putL zbm (.int ((a + 2 : Nat) : Int)) [(zac, .ref t), (zab, .int ((a + 2 : Nat) : Int)), (zal, .ref F), (za2, .ref B)]) ((zbw aR).trans rfl) rfl ?_
 refine (zC7 tbl (m + 116) S1 _ _).mpr (Opt.of rfl (Opt.of rfl (zBu h I A.e (m + 62) (Opt.of (a := true) (by rw [A.eb]; rfl) (Opt.of rfl (Opt.of rfl (Opt.of rfl (zLu h I A.e A.ep A.ek A.e1 (k1.at' A.ch λ _ m => nomatch m) A.hn A.ha A.hb (m + 29) λ S2 k2 => k _ _ (Lies.new _ _) (k1.trans (k2.trans (Kept.add _)))))))))))
theorem zMf (A : Ask S t L ds rs F i0 i1 i2 i3 k0 lo ur a n x y x0 bs) (hB : Lies S B (.fn 1 [])) (m : Nat) (k : ∀ R S', Lies S' R (.list [.int (cnt bs a)]) → Kept [] S S' → K (.ref R) S') : (mk tbl (m + 160)).callv 0 (.old 84) [.ref t, .int ((a + 2 : Nat) : Int), .str [115, 105, 110, 103, 108, 101], .ref F, .ref B] S K := by
 rw [zbo (n := m + 159) (b := [(zac, .ref t), (zab, .int ((a + 2 : Nat) : Int)), (zjc, .str [115, 105, 110, 103, 108, 101]), (zal, .ref F), (za2, .ref B)]) zMp rfl]
 exact (zHx tbl (m + 120) S _ (.ref t) (.int ((a + 2 : Nat) : Int)) (.ref F) (.ref B)).mpr (zNb A hB (m + 14) k)
end
noncomputable def k3 (t : T3) : T3 := (t.1, zum t.2.1, t.2.2)
noncomputable def l3 (t : T3) : List (List Nat) := [t.1, t.2.1, t.2.2]
noncomputable def zrw (w : T3) : N5 := if w.1 = wEl then pE w.2.1 w.2.2 else if w.1 = wIn then pI w.2.1 else if w.1 = wCo then pC else pT
theorem Put.eq {w : T3} {y : N5} (h : Put w y) : zrw w = y := by cases h <;> rfl
noncomputable def key (w : T3) : List (List Nat) := l3 (k3 w)
noncomputable def zFy (y : N5) : List Nat × List Nat := (if zh6.contains y.k then y.l else [], if zh6.contains y.k then y.u else [])
noncomputable def zK6 (w w' : T3) : Bool := zAn (zrw w').k (zFy (zrw w')).1 (zFy (zrw w')).2 ((zrw w).nd .none 0 0 0) == decide (key w = key w')
noncomputable def zOc (w : T3) : Bool := (decide (w.1 = wEl) || decide (w.1 = wIn) || decide (w.1 = wCo) || decide (w.1 = wTe)) && !zro.contains (zrw w).k && (key w).all (·.all (· < 128))
theorem zmd : zec.all zOc = true := by kernel_rfl
theorem zx5 : (zec.all λ w => zec.all λ w' => zK6 w w') = true := by kernel_rfl
theorem zCl {w : T3} (h : w ∈ zec) : ∃ y, Put w y := by
 obtain ⟨a, b, c⟩ := w
 refine zbf (List.all_eq_true.mp zmd _ h) λ h _ => zbf h λ h _ => ?_
 rcases Bool.or_eq_true_iff.mp h with h | h
 · rcases Bool.or_eq_true_iff.mp h with h | h
   · rcases Bool.or_eq_true_iff.mp h with h | h
     · cases of_decide_eq_true h; exact ⟨_, .el b c⟩
     · cases of_decide_eq_true h; exact ⟨_, .is b c⟩
   · cases of_decide_eq_true h; exact ⟨_, .co b c⟩
 · cases of_decide_eq_true h; exact ⟨_, .te b c⟩
theorem zv3 {w w' : T3} (h : w ∈ zec) (h' : w' ∈ zec) (p : AV) (c a s : Nat) : zAn (zrw w').k (zFy (zrw w')).1 (zFy (zrw w')).2 ((zrw w).nd p c a s) = decide (key w = key w') :=
 beq_iff_eq.mp (List.all_eq_true.mp (List.all_eq_true.mp zx5 w h) w' h')
theorem zxq (w : T3) : ∀ l : List T3, (l.map λ w' => decide (key w' = key w)).count true = (l.map key).count (key w)
 | [] => rfl
 | w' :: l => by
   rw [List.map_cons, List.map_cons, List.count_cons, List.count_cons, zxq w l]
   by_cases e : key w' = key w
   · rw [decide_eq_true e, e, beq_self_eq_true, beq_self_eq_true]
   · rw [decide_eq_false e, beq_eq_false_iff_ne.mpr e]; rfl
theorem zD2 {ts : List T3} {a : Nat} {w : T3} (e : ts[a]? = some w) : cnt (ts.map λ w' => decide (key w' = key w)) a = (((ts.take (a + 1)).map key).count (key w) : Nat) := by
 unfold cnt
 rw [← List.map_take, zxq, List.take_add_one, e, List.map_append, List.count_append]
 show (1 : Int) + _ = ((_ + [key w].count (key w) : Nat) : Int)
 rw [List.count_singleton_self, Int.add_comm]; rfl
section
variable {S S' : Store} {R : Nat} {ts : List T3} {qs : List Nat} {K : KV} {σ : zaf} {Γ : zaw}
theorem zMh (hL : Lies S R (.list (qs.map .ref))) (r : RowsF S qs ts) (hl : ts.length ≤ 7) (m : Nat) (k : ∀ N S' ps, Lies S' N (.list (ps.map .ref)) → RowsF S' ps (ts.map k3) → Kept [] S S' → K (.ref N) S') :
   (mk tbl (m + 30)).cloop 0 Γ σ ztb true [zcp, zah, zar] [] (.lst R 0) [] S K := by
 obtain ⟨j, e⟩ := Nat.le.dest hl
 have el : (qs.map AV.ref).length = ts.length := by rw [List.length_map]; exact r.len
 have key := zio (T := tbl) (z := 0) (c := 11) (Γ := Γ) (elt := ztb) (tup := true) (ys := [zcp, zah, zar]) (ifs := []) (xs := qs.map .ref) (Nx := .lst R) (K := K)
   (Inv := λ k acc S' => ∃ ps, acc = ps.map .ref ∧ RowsF S' ps ((ts.take k).map k3) ∧ Kept [] S S')
   (λ k acc S' I => I.elim λ ps I => zbw (I.2.2.at' hL λ _ m => nomatch m))
   (λ k v acc σ S' m hv I => by
     obtain ⟨ps, I1, I2, I3⟩ := I
     rw [za6, List.getElem?_map] at hv
     refine zbs hv λ q hq ev => ?_
     cases ev
     have lt : k < ts.length := r.len ▸ (List.getElem?_eq_some_iff.mp hq).1
     have ew : ts[k]? = some ts[k] := List.getElem?_eq_getElem lt
     obtain ⟨q', e1, e2⟩ := (r.keep I3).get ew
     cases hq.symm.trans e1
     refine ⟨putL zar (.str ts[k].2.2) (putL zah (.str ts[k].2.1) (putL zcp (.str ts[k].1) σ)), ?_, λ K1 K0 q1 q0 => zr1 ((zw2 tbl (m + 1) S' K1 0 Γ _).mpr (Opt.of (((zdw _ rfl _).trans (zdw _ rfl _)).trans (zbh _ _ _)) (Opt.of ((zdw _ rfl _).trans (zbh _ _ _)) (Opt.of (zbh _ _ _) (q1 _ _ ⟨ps ++ [S'.n], ?_, ?_, I3.trans (Kept.add _)⟩)))))⟩
     · show (S'.tp q).bind _ = _
       unfold Store.tp
       rw [e2.1]; rfl
     · rw [I1, List.map_append]; rfl
     · rw [List.take_add_one, ew, List.map_append]
       exact (I2.keep (Kept.add (X := []) _)).snoc (Lies.new S' _))
   (qs.map AV.ref).length 0 (m + j + 10) σ [] S (Nat.zero_add _) (by rw [el]; exact ltx (Nat.add_le_add (Nat.le_refl 0) hl) (by decide)) ⟨[], rfl, .nil, Kept.refl⟩ λ acc' S' I => by
     obtain ⟨ps, I1, I2, I3⟩ := I
     rw [el, List.take_length] at I2
     rw [I1]
     exact k _ _ ps (Lies.new _ _) (I2.keep (Kept.add (X := []) _)) (I3.trans (Kept.add _))
 rw [el] at key
 rw [show m + 30 = m + j + 10 + 11 + ts.length + 2 by rw [show m + 30 = m + 10 + 11 + 7 + 2 from rfl, ← e]; simp only [Nat.add_assoc, Nat.add_comm, Nat.add_left_comm]]
 exact key
theorem zuv : ∀ {qs : List Nat} {ts : List T3}, RowsF S qs ts → zhj S (qs.map .ref) = some (ts.map l3)
 | [], _, r => by cases r; rfl
 | q :: qs, _, r => by
   cases r with
   | cons h r =>
   show (S.tp q).bind _ = _
   unfold Store.tp
   rw [h.1]
   show (zhj S (qs.map .ref)).map _ = _
   rw [zuv r]; rfl
noncomputable def crV (R : Nat) (a : Int) : FL × zaf × Nat × List (Option AO) := (.next, [(zaz, .ext R), (zhu, .int a)], 15, [AO.cell (some (.ref 3)), .cell (some (.int 1)), .fields [(zaz, .ref 4)], .inst 1636 2, .list [.ref 6, .ref 11], .fields (Nd.es ⟨[114, 111, 111, 116], [], [], [], [], .none, 7, 8, 9⟩), .inst 1447 5, .list [.int 1], .list [], .list [], .fields (Nd.es ⟨wEl, [111], [], [111], [], .int 0, 12, 13, 14⟩), .inst 1447 10, .list []].map some)
theorem zy8 (R : Nat) (a : Int) : (mk tbl 100).execs 0 [(zch, 1), (zac, 0)] [(zaz, .ext R), (zhu, .int a)] (zao.body.take 2) (Store.ofList [.cell none, .cell none]) (λ fl σ s => (fl, σ, s.n, [0, 1, 2, 3, 4, 5, 6, 7, 8, 9, 10, 11, 12].map s.get) = crV R a) = (crV R a = crV R a) := by kernel_rfl
theorem zLt : tbl.fn.get 1673 = some zao := by kernel_rfl
theorem zA6 {α β γ δ : Type} {a a' : α} {b b' : β} {c c' : γ} {d d' : δ} {G : Prop} (h : (a, b, c, d) = (a', b', c', d')) (k : a = a' → b = b' → c = c' → d = d' → G) : G := by
 cases h; exact k rfl rfl rfl rfl
theorem zce {T : Tbl} {n z : Nat} {Γ : zaw} {σ : zaf} {s : PS} {ss : List PS} {K : KX} (h : (mk T n).exec z Γ σ s S λ fl σ st => match fl with | .next => (mk T n).execs z Γ σ ss st K | .ret v => K (.ret v) σ st) : (mk T (n + 1)).execs z Γ σ (s :: ss) S K := h
theorem All2.take {α β : Type} {P : α → β → Prop} {as : List α} {bs : List β} (h : All2 P as bs) : ∀ n, All2 P (as.take n) (bs.take n) := by
 induction h with
 | nil => intro n; rw [List.take_nil, List.take_nil]; exact .nil
 | cons x _ ih => intro n; cases n with | zero => exact .nil | succ n => exact .cons x (ih n)
theorem zka {α : Type} {l : List α} {n : Nat} (h : l.length = n + 1) : zhf l (-1) = l[n]? := by
 have e : pix (-1) l.length = some n := by rw [h]; rfl
 unfold zhf
 rw [e]
 exact za6 l n
theorem zGw {α : Type} (l : List α) (a : Nat) : zCa l .none (.int ((a : Int) + 1)) .none = some (l.take (a + 1)) := by
 exact congrArg some (List.take_eq_take_min).symm
theorem zzp {N j a' : Nat} {us : List T3} {u : T3} {ps : List Nat} (h : Lies S N (.list (ps.map .ref))) (r : RowsF S ps us) (hj : ps[j]? = some a') (hu : us[j]? = some u) (asc : ∀ u ∈ us, (l3 u).all (·.all (· < 128)) = true) (m : Nat) (k : K (.int ((us.map l3).count (l3 u) : Nat)) S) : MtA (mk tbl m) 0 S [.ref a'] S K (.bim zhq (.ref N)) := by
 obtain ⟨q, e1, e2⟩ := r.get hu
 cases hj.symm.trans e1
 have um := List.mem_of_getElem? hu
 refine Chk.of ?_ (Opt.of (a := (true, .int ((us.map l3).count (l3 u) : Nat), S)) ?_ (Chk.of rfl k))
 · unfold zdz
   simp only [h.1]
   rfl
 · show (S.get N).bind _ = _
   rw [h.1]
   show (S.tp a').bind _ = _
   unfold Store.tp
   rw [e2.1]
   show (zhj S (ps.map .ref)).map _ = _
   rw [zuv r]
   have all : ((l3 u :: us.map l3).all λ l => l.all (·.all (· < 128))) = true := List.all_eq_true.mpr λ l hl => by
     rcases List.mem_cons.mp hl with e | e
     · rw [e]; exact asc u um
     · obtain ⟨v, hv, rfl⟩ := List.mem_map.mp e
       exact asc v hv
   exact congrArg (λ b => some (b, AV.int ((us.map l3).count (l3 u) : Nat), S)) all
theorem zDo {a c0 c1 t L : Nat} {w : T3} {x : Nd} {ds : List Nd} {rs : List Nat} (h0 : Lies S c0 (.cell (some (.ref t)))) (h1 : Lies S c1 (.cell (some (.int 1)))) (C : CtF S t L x ts 0 ds rs) (hL : Lies S R (.list (qs.map .ref))) (r : RowsF S qs ts) (nL : R ≠ L) (nc : R ≠ x.c) (hm : ∀ t ∈ ts, t ∈ zec) (hl : ts.length ≤ 7) (ha : ts[a]? = some w) (m : Nat) (k : ∀ S', Kept [L, x.c] S S' → K (.bool true) S') :
   (mk tbl (m + 217)).execs 0 [(zch, c1), (zac, c0)] [(zaz, .ref R), (zhu, .int a)] (zao.body.drop 2) S λ fl _ st => K (zck fl) st := by
 have lt := (List.getElem?_eq_some_iff.mp ha).1
 refine zce ((zN2 tbl (m + 186) S _ c0 c1 R (.int a)).mpr (Opt.of (zdc hL) (zOa (λ w h => zCl (hm w h)) hl ⟨_, _, C⟩ ⟨h0, h1, hL, nL, nc, r, Kept.refl⟩ (m + 94) λ N S1 ds rs aN lN C P => ?_)))
 refine zce ((zN7 tbl (m + 185) S1 _ c0 c1 R a (.ref N)).mpr (Opt.of rfl (Chk.of rfl (Opt.of (a := qs.map .ref) ?_ (Chk.of ?_ (Opt.of (zGw _ a) (Opt.of (zdc (Lies.new S1 _)) ?_)))))))
 · unfold Store.ls; rw [P.li.1]; rfl
 · rw [List.length_map, P.rows.len]; exact lbx (ltx hl (by decide))
 · rw [← List.map_take]
   have k1 : Kept [] S1 (S1.add (.list ((qs.take (a + 1)).map .ref))) := Kept.add _
   have lta : (ts.take (a + 1)).length = a + 1 := by rw [List.length_take]; exact Nat.min_eq_left lt
   refine zMh (Lies.new S1 _) ((P.rows.keep k1).take (a + 1)) (by rw [lta]; exact ltx lt hl) (m + 183) λ N2 S2 ps a2 r2 k2 => zce ?_
   have k3 := k1.trans k2
   have C2 := C.keep k3 (λ m => nomatch m) λ m => nomatch m
   obtain ⟨y, c, a1, s1, py, ey⟩ := C2.row a w lt ha
   have eix : zem tbl S2 (.ref N) (.int a) = some (.int ((a + 2 : Nat) : Int)) := zpx (k3.at' aN λ _ m => nomatch m) (by rw [List.getElem?_map, zrj lt]; rfl)
   refine (zOh tbl (m + 184) S2 _ c0 c1 (.int a) (.ref R) (.ref N) (.ref N2)).mpr (Opt.of (zb6 (k3.at' P.c0 nb)) (Opt.of rfl (Opt.of eix (Opt.of (zb6 (k3.at' P.c0 nb)) (Opt.of rfl (Opt.of eix (zCe C2.tr ey (m + 136) λ S3 I k4 => Opt.of rfl (Opt.of rfl ?_))))))))
   have k6 : Kept [] S2 (S3.add (.fn 1 [])) := k4.trans (Kept.add _)
   have C3 := C2.keep k6 (λ m => nomatch m) λ m => nomatch m
   obtain ⟨x0, z0, zp⟩ := C3.x0
   have wm := hm w (List.mem_of_getElem? ha)
   cases py.eq
   have A : Ask (S3.add (.fn 1 [])) t L ds rs S3.n.pred S2.n (S2.n + 1) (S2.n + 2) (S2.n + 3) (zrw w).k (zFy (zrw w)).1 (zFy (zrw w)).2 a ts.length ((zrw w).nd (.int 1) c a1 s1) x x0 (ts.map λ w' => decide (key w' = key w)) := {
     tr := C3.tr, f := I.keep (Kept.add (X := []) _), e := ey, ep := rfl, e1 := C3.x1, yp := C3.xp, e0 := z0, zp := zp, ch := C3.ch, hn := hl, ha := lt
     ek := zbf (List.all_eq_true.mp zmd w wm) λ h _ => zbf h λ _ h => Bool.not_eq_true' _ |>.mp h
     eb := (zv3 wm wm _ _ _ _).trans (decide_eq_true rfl)
     hb := λ k lk => by
       have ek : ts[k]? = some ts[k] := List.getElem?_eq_getElem (Nat.lt_trans lk lt)
       obtain ⟨y', c', a', s', p', e'⟩ := C3.row k _ (Nat.lt_trans lk lt) ek
       cases p'.eq
       exact ⟨_, e', by rw [zv3 (hm _ (List.mem_of_getElem? ek)) wm, List.getElem?_map, ek]; rfl⟩ }
   refine zMf A (Lies.new S3 _) (m + 51) λ R4 S4 a4 k7 => ?_
   have k8 := k6.trans k7
   have a5 := k8.at' a2 λ _ m => nomatch m
   have r5 := r2.keep k8
   have lps : ps.length = a + 1 := by rw [r2.len, List.length_map, lta]
   have eps : ps[a]? = some ps[a] := List.getElem?_eq_getElem (lps ▸ Nat.lt_succ_self a)
   refine Opt.of (a := .bim zhq (.ref N2)) (by show (S4.get N2).bind _ = _; rw [a5.1]; rfl) (Opt.of (a := .ref ps[a]) ?_ (zzp (u := Mine.k3 w) a5 r5 eps ?_ ?_ _ ?_))
   · show (zb1 tbl S4 (.ref N2)).bind _ = _
     rw [zr3 a5]
     exact (zka (by rw [List.length_map]; exact lps)).trans (by rw [List.getElem?_map, eps]; rfl)
   · rw [List.getElem?_map, List.getElem?_take_of_lt (Nat.lt_succ_self a), ha]; rfl
   · intro u hu
     obtain ⟨v, hv, rfl⟩ := List.mem_map.mp hu
     exact zbf (List.all_eq_true.mp zmd v (hm v (List.mem_of_mem_take hv))) λ _ h => h
   · refine Opt.of (a := true) ?_ (k _ ((P.kept.trans (k3.sub λ _ m => nomatch m)).trans ((k8.trans (Kept.add _)).sub λ _ m => nomatch m)))
     have := zD2 ha
     rw [List.map_map, show l3 (Mine.k3 w) = key w from rfl, show l3 ∘ Mine.k3 = key from rfl, ← this]
     show ((S4.add _).get R4).bind _ = _
     rw [(a4.add _).1]
     show ((S4.add _).get S4.n).bind _ = _
     rw [(Lies.new S4 _).1]
     show some (decide _) = _
     rw [decide_eq_true rfl]
theorem zDl {a : Nat} {w : T3} (hL : Lies S R (.list (qs.map .ref))) (r : RowsF S qs ts) (hm : ∀ t ∈ ts, t ∈ zec) (hl : ts.length ≤ 7) (ha : ts[a]? = some w) (m : Nat) (k : ∀ S', Kept [] S S' → K (.bool true) S') : (mk tbl (m + 220)).callv 0 (.old 1673) [.ref R, .int a] S K := by
 rw [zbo (n := m + 219) (b := [(zaz, .ref R), (zhu, .int a)]) zLt rfl]
 show (mk tbl (m + 216 + 1 + (zao.body.take 2).length)).execs 0 [(zch, S.n + 1), (zac, S.n)] [(zaz, .ref R), (zhu, .int a)] (zao.body.take 2 ++ zao.body.drop 2) ((S.add (.cell none)).add (.cell none)) _
 rw [zb7]
 have M0 := zgd (S := (S.add (.cell none)).add (.cell none)) (as := [S.n, S.n + 1]) (l := [.cell none, .cell none]) ⟨(Lies.new S _).add _, Lies.new (S.add _) _, rfl⟩ (List.nodup_cons.mpr ⟨λ e => absurd (msx e) (Nat.ne_of_lt (Nat.lt_succ_self _)), List.pairwise_singleton _ _⟩)
 have k0 : Kept [] S ((S.add (.cell none)).add (.cell none)) := (Kept.add _).trans (Kept.add _)
 refine zcn (f := adr [S.n, S.n + 1] (S.n + 2)) (Γ := [(zch, 1), (zac, 0)]) (σ := [(zaz, .ext R), (zhu, .int a)]) (m := m + 119) ((zy8 R a).mpr rfl) M0 λ fl σ s S1 hk M => zA6 hk λ e1 e2 en eg => ?_
 have ln : ∀ {i}, i < 15 → i < s.n := λ h => en ▸ h
 have g := λ j {i} e => zBi eg j (i := i) e
 have k1 : Kept [] S S1 := (M.keep (as := [S.n, S.n + 1]) (ln (i := 2) (by decide) |> Nat.le_of_lt)).new k0 λ a m => by rcases List.mem_cons.mp m with e | e; exact e ▸ Nat.le_refl _; exact msx e ▸ Nat.le_succ _
 have nw : ∀ i, S.n ≤ adr [S.n, S.n + 1] (S.n + 2) i := λ i => match i with
   | 0 => Nat.le_refl _
   | 1 => Nat.le_succ _
   | i + 2 => ltx (zft _ 2) (zft _ _)
 have g0 := Lies.em M (g 0 rfl) (ln (by decide))
 have g1 := Lies.em M (g 1 rfl) (ln (by decide))
 have g2 := Lies.em M (g 2 rfl) (ln (by decide))
 have g3 := Lies.em M (g 3 rfl) (ln (by decide))
 have g4 := Lies.em M (g 4 rfl) (ln (by decide))
 have g5 := Lies.em M (g 5 rfl) (ln (by decide))
 have g6 := Lies.em M (g 6 rfl) (ln (by decide))
 have g10 := Lies.em M (g 10 rfl) (ln (by decide))
 have g11 := Lies.em M (g 11 rfl) (ln (by decide))
 have g12 := Lies.em M (g 12 rfl) (ln (by decide))
 cases e1
 cases e2
 show (mk tbl (m + 217)).execs 0 [(zch, adr [S.n, S.n + 1] (S.n + 2) 1), (zac, adr [S.n, S.n + 1] (S.n + 2) 0)] [(zaz, .ref R), (zhu, .int a)] (zao.body.drop 2) S1 (λ fl _ st => K (zck fl) st)
 clear M M0 hk eg g ln en
 revert g0 g1 g2 g3 g4 g5 g6 g10 g11 g12 nw
 generalize adr [S.n, S.n + 1] (S.n + 2) = f
 intro nw g0 g1 g2 g3 g4 g5 g6 g10 g11 g12
 have C : CtF S1 (f 3) (f 4) ⟨wEl, [111], [], [111], [], .int 0, f 12, f 13, f 14⟩ ts 0 [⟨[114, 111, 111, 116], [], [], [], [], .none, f 7, f 8, f 9⟩, ⟨wEl, [111], [], [111], [], .int 0, f 12, f 13, f 14⟩] [f 6, f 11] :=
   ⟨⟨⟨_, g3, g2⟩, g4, .cons ⟨_, g6, g5⟩ (.cons ⟨_, g11, g10⟩ .nil)⟩, ⟨_, rfl, rfl⟩, rfl, rfl, rfl, g12, λ i w h => absurd h (Nat.not_lt_zero _), rfl⟩
 have nR : ∀ i, R ≠ f i := λ i e => absurd hL.2 (Nat.not_lt.mpr (e ▸ nw i))
 exact zDo g0 g1 C (k1.at' hL λ _ m => nomatch m) (r.keep k1) (nR 4) (nR 12) hm hl ha m λ S' k2 => k S' (((k1.sub λ _ m => nomatch m).trans k2).new λ z m => .inl (by
   rcases List.mem_cons.mp m with e | e
   · exact e ▸ nw 4
   · exact msx e ▸ nw 12))
end
noncomputable def zni : List Nat := [104, 116, 116, 112, 58, 47, 47, 119, 119, 119, 46, 119, 51, 46, 111, 114, 103, 47, 88, 77, 76, 47, 49, 57, 57, 56, 47, 110, 97, 109, 101, 115, 112, 97, 99, 101]
noncomputable def zBm : List Nat := [120, 109, 108]
noncomputable def zKj : List Nat := [97, 32, 110, 97, 109, 101, 115, 112, 97, 99, 101]
noncomputable def nms : List (List Nat) := [[], [120, 109, 108], [120, 109, 108, 110, 115]]
noncomputable def nmE : PE := .mth (.att (.cel zaa) zac) zah [(.loc zab)]
noncomputable def spE : PE := .idx (.call (.glb zd5 (.old 318)) [(.mth (.att (.cel zaa) zac) zah [(.loc zab)])]) (.num 0)
noncomputable def zIu : List PS := [.iff (.cmp .eq (.mth (.att (.loc zaa) zac) zah [(.loc zab)]) (.loc zad)) [.ret (.mth (.att (.loc zaa) zac) zax [(.loc zab)])] []]
noncomputable def buB : List PS := [.fr false [(false, zab)] (.mth (.att (.loc zaa) zac) zav [(.loc zaq)]) zIu]
noncomputable def anB : List PS := [.iff (.cmp .eq (.att (.idx (.att (.loc zaa) zaz) (.loc zab)) zah) (.loc zad)) [.asa (.idx (.att (.loc zaa) zaz) (.loc zab)) zax (.loc zar), .ret (.loc zab)] []]
section
variable (T : Tbl) (m : Nat) (S : Store) (KX : KX) (K : KV) (s t p u i h : AV) (σ : zaf) (Γ : zaw) (c0 z c : Nat)
theorem zy1 : (mk T (m + 9)).execs 0 [] [(zaa, s)] zf3.body S KX = Opt (zc6 S s zer) λ o => Opt (zem T S o (.int (-1))) λ v => KX (.ret v) [(zaa, s)] S := by kernel_rfl
theorem zG7 : (mk T (m + 20)).execs 0 [] [(zaa, s), (zss, p)] zcs.body S KX = Opt (zc6 S s zer) λ o => Opt (biv T .len [o] S) λ q => Chk q.1 (Opt (zhy .eq q.2.1 (.int 1) q.2.2) λ b => Nk b (Opt (zc6 q.2.2 s zbc) λ h => Opt (zem T q.2.2 h (.int (-1))) λ v => Opt (truthy v) λ b => Nk b (KX .next [(zaa, s), (zss, p)] q.2.2))) := by kernel_rfl
theorem zGc : (mk T (m + 39)).execs 0 [(zaa, c0)] [(zad, p)] zca.body S KX =
   Opt (S.cl c0) λ o => Opt o λ s => Opt (zc6 S s zac) λ t => Opt (zat T S t zav) λ mt => Opt (S.cl c0) λ o => Opt o λ s => Opt (zat T S s zf9) (MtA (mk T (m + 32)) 0 S [] S λ h st => MtA (mk T (m + 34)) 0 S [h] st (λ l st => Opt (zeh st l) λ src => (mk T (m + 35)).cloop (zrf src 0 st) [(zaa, c0)] [] nmE false [zab] [] src [] st λ v st => Opt (inv T st p v) λ q => KX (.ret (.bool (q != false))) [(zad, p)] st) mt) := by kernel_rfl
theorem zDn : (mk T (m + 10)).ev z [(zaa, c0)] σ nmE S K = Opt (S.cl c0) λ o => Opt o λ s => Opt (zc6 S s zac) λ t => Opt (zat T S t zah) λ mt => Opt (lk zab σ) λ i => MtA (mk T (m + 9)) z S [i] S K mt := by kernel_rfl
theorem zHh : (mk T (m + 39)).execs 0 [] [(zaa, s), (zad, p)] zdb.body S KX =
   Opt (zhy .eq p (.str zBm) S) λ q => match q with
     | true => KX (.ret (.str zni)) [(zaa, s), (zad, p)] S
     | false => Opt (zc6 S s zer) λ l => zKo l .none (.int 0) (.int (-1)) S λ l st => Opt (zeh st l) λ src => Chk (!zfg src) ((mk T (m + 36)).floop 0 [] [(zaa, s), (zad, p)] false [(false, zaq)] src buB st λ fl σ st => match fl with
       | .next => KX (.ret (.str [])) σ st
       | .ret v => KX (.ret v) σ st) := by kernel_rfl
theorem zC9 : (mk T (m + 20)).execs 0 [] σ buB S KX = Opt (lk zaa σ) λ s => Opt (zc6 S s zac) λ t => Opt (zat T S t zav) λ mt => Opt (lk zaq σ) λ e => MtA (mk T (m + 17)) 0 S [e] S (λ l st => Opt (zeh st l) λ src => Chk (!zfg src) ((mk T (m + 18)).floop 0 [] σ false [(false, zab)] src zIu st λ fl σ st => match fl with
   | .next => KX .next σ st
   | .ret v => KX (.ret v) σ st)) mt := by kernel_rfl
theorem zym : (mk T (m + 20)).execs 0 [] σ zIu S KX = Opt (lk zaa σ) λ s => Opt (zc6 S s zac) λ t => Opt (zat T S t zah) λ mt => Opt (lk zab σ) λ i => MtA (mk T (m + 15)) 0 S [i] S (λ v st => Opt (lk zad σ) λ p => Opt (zhy .eq v p st) λ q => match q with
   | true => Opt (lk zaa σ) λ s => Opt (zc6 st s zac) λ t => Opt (zat T st t zax) λ mt => Opt (lk zab σ) λ i => MtA (mk T (m + 15)) 0 st [i] st (λ v st => KX (.ret v) σ st) mt
   | false => KX .next σ st) mt := by kernel_rfl
theorem zJ0 : (mk T (m + 39)).execs 0 [(zaa, c0)] [(zad, .str [c])] zdt.body S KX =
   (λ J : Store → Prop => match nms.contains [c] != false with
     | true => KX (.ret (.bool true)) [(zad, .str [c])] S
     | false => Opt (S.cl c0) λ o => Opt o λ s => Opt (zc6 S s zev) λ l => Opt (zem T S l (.int (-1))) λ k => Opt (inv T S (.str [c]) k) λ q => match q != false with
       | true => KX (.ret (.bool true)) [(zad, .str [c])] S
       | false => Opt (S.cl c0) λ o => Opt o λ s => Opt (zat T S s zcl) (MtA (mk T (m + 32)) 0 S [.str [c]] S λ b st => Opt (truthy b) λ q => match q with
         | true => KX (.ret (.bool true)) [(zad, .str [c])] st
         | false => J st)) λ st => Opt (st.cl c0) λ o => Opt o λ s => Opt (zat T st s zf9) (MtA (mk T (m + 32)) 0 st [] st λ h st => (λ N st => Opt (st.cl c0) λ o => Opt o λ s => Opt (zc6 st s zac) λ t => Opt (zat T st t zbq) λ mt => Opt (st.cl c0) λ o => Opt o λ s => Opt (zat T st s zf9) (MtA (mk T (m + 32)) 0 st [] st λ h st' => MtA (mk T (m + 34)) 0 st [h] st' (λ a st => Opt (zDq .add (.ref N) a st) λ q => Chk q.1 (Opt (zeh q.2.2 q.2.1) λ src => (mk T (m + 33)).cloop (zrf src 0 q.2.2) [(zaa, c0)] [] spE false [zab] [] src [] q.2.2 λ v st => Opt (inv T st (.str [c]) v) λ b => KX (.ret (.bool (b != false))) [(zad, .str [c]), (zau, q.2.1)] st)) mt)) st.n (st.add (.list [h]))) := by kernel_rfl
theorem zEi : (mk T (m + 10)).ev z [(zaa, c0)] σ spE S K = Opt (S.cl c0) λ o => Opt o λ s => Opt (zc6 S s zac) λ t => Opt (zat T S t zah) λ mt => Opt (lk zab σ) λ i => MtA (mk T (m + 6)) z S [i] S (λ n st => (mk T (m + 8)).callv z (.old 318) [n] st λ r st => Opt (zem T st r (.int 0)) λ v => K v st) mt := by kernel_rfl
end
noncomputable def tG (i0 i1 : Nat) : zaw := [(zjd, i1), (zc2, i0)]
noncomputable def tu1 : PS := .ast [(false, za4), (false, zcb)] (.tpl [(.call (.glb zbd (.old 1661)) [(.loc zae), (.lst [(.txt [112]), (.txt [113]), (.txt [114])])]), (.call (.glb zbd (.old 1661)) [(.loc zae), (.lst [(.txt [117, 58, 49]), (.txt [117, 58, 50]), (.txt [117, 58, 51]), (.txt []), (.glb zg2 (.str [104, 116, 116, 112, 58, 47, 47, 119, 119, 119, 46, 119, 51, 46, 111, 114, 103, 47, 88, 77, 76, 47, 49, 57, 57, 56, 47, 110, 97, 109, 101, 115, 112, 97, 99, 101]))])])])
noncomputable def tu2 : PS := .exp (.mth (.loc zbv) zcz [(.loc za4), (.loc zcb)])
noncomputable def two : List (List Nat) := [[], [104, 116, 116, 112, 58, 47, 47, 119, 119, 119, 46, 119, 51, 46, 111, 114, 103, 47, 88, 77, 76, 47, 49, 57, 57, 56, 47, 110, 97, 109, 101, 115, 112, 97, 99, 101]]
noncomputable def tu3 : PS := .iff (.andd [(.inl true (.loc zcb) true two), (.inn true (.loc za4) (.cel zc2))]) [.asi (.cel zc2) (.loc za4) (.loc zcb)] []
noncomputable def qB : List PS := [.exp (.mth (.loc zbv) zcz [(.txt [113]), (.txt [117, 58, 50])])]
noncomputable def s4S : PS := .iff (.cmp .eq (.call (.glb zbj (.old 1654)) [(.loc zae), (.num 2)]) (.num 0)) qB []
noncomputable def s5S : PS := .ast [(false, zad), (false, zar)] (.tpl [(.call (.glb zbd (.old 1661)) [(.loc zae), (.lst [(.txt []), (.txt [112, 58]), (.txt [113, 58]), (.txt [114, 58])])]), (.call (.glb zbd (.old 1661)) [(.loc zae), (.lst [(.txt [117, 58, 49]), (.txt [117, 58, 50]), (.txt [117, 58, 51]), (.txt [])])])])
noncomputable def s8S : PS := .fr false [(false, ze7)] (.call (.glb zdg (.bi .range)) [(.call (.glb zbj (.old 1654)) [(.loc zae), (.num 6)])]) [tu1, tu2, tu3]
noncomputable def s9S : PS := .asc zjd (.call (.glb zi1 (.old 238)) [(.loc zac), (.loc zaq)])
noncomputable def cnE : PE := .cmp .ne (.mth (.cel zjd) ztw [(.loc za4)]) (.idx (.cel zc2) (.loc za4))
noncomputable def ztk : PS := .ret (.andd [(.cmp .eq (.lc (.loc za4) false [za4] (.cel zc2) [cnE]) (.lst [])), (.cmp .eq (.mth (.loc zac) zar [(.loc zaq)]) (.loc zar))])
theorem zC8 : zas.body = zas.body.take 4 ++ (s4S :: s5S :: ((zas.body.drop 6).take 2 ++ [s8S, s9S, ztk])) := rfl
noncomputable def ss (l : List (List Nat)) : AO := .list (l.map .str)
noncomputable def pqr : List (List Nat) := [[112], [113], [114]]
noncomputable def us5 : List (List Nat) := [[117, 58, 49], [117, 58, 50], [117, 58, 51], [], [104, 116, 116, 112, 58, 47, 47, 119, 119, 119, 46, 119, 51, 46, 111, 114, 103, 47, 88, 77, 76, 47, 49, 57, 57, 56, 47, 110, 97, 109, 101, 115, 112, 97, 99, 101]]
noncomputable def ps4 : List (List Nat) := [[], [112, 58], [113, 58], [114, 58]]
noncomputable def us4 : List (List Nat) := [[117, 58, 49], [117, 58, 50], [117, 58, 51], []]
noncomputable def zH1 : List PS := [.ast [(false, zad), (false, zar)] (.tpl [(.mth (.loc zac) zah [(.loc zab)]), (.mth (.loc zac) zax [(.loc zab)])]), .iff (.cmp .ne (.loc zar) (.txt [])) [.asi (.loc zan) (.loc zad) (.loc zar)] [.iff (.inn false (.loc zad) (.loc zan)) [.exp (.mth (.loc zan) zAm [(.loc zad)])] []]]
noncomputable def scB : List PS := [.fr false [(false, zab)] (.mth (.loc zac) zav [(.loc zf6)]) zH1]
section
variable (T : Tbl) (m : Nat) (S : Store) (KX : KX) (K : KV) (K2 : Bool → Store → Prop) (s t e p u i h : AV) (σ : zaf) (Γ : zaw) (i0 i1 z : Nat)
theorem zFk : (mk T (m + 30)).exec 0 Γ σ tu1 S KX = Opt (lk zae σ) λ s => (mk T (m + 26)).callv 0 (.old 1661) [s, .ref S.n] (S.add (ss pqr)) λ v st => Opt (lk zae σ) λ s => (mk T (m + 25)).callv 0 (.old 1661) [s, .ref st.n] (st.add (ss us5)) λ w st => Opt ((st.add (.tup [v, w])).tp st.n) λ vs => Opt (zbe 0 Γ [(false, za4), (false, zcb)] vs σ (st.add (.tup [v, w]))) λ q => KX .next q.1 q.2 := by kernel_rfl
theorem zFb : (mk T (m + 20)).exec 0 Γ σ tu2 S KX = Opt (lk zbv σ) λ r => Opt (zat T S r zcz) λ mt => Opt (lk za4 σ) λ a => Opt (lk zcb σ) λ b => MtA (mk T (m + 18)) 0 S [a, b] S (λ _ st => KX .next σ st) mt := by kernel_rfl
theorem zCt : (mk T (m + 20)).exec 0 (tG i0 i1) σ tu3 S KX = Opt (lk zcb σ) λ b => Opt b.toS λ x => match two.contains x != true with
   | true => Opt (lk za4 σ) λ a => Opt (S.cl i0) λ o => Opt o λ d => Opt (inv T S a d) λ q => match q != true with
     | true => Opt (lk zcb σ) λ v => Opt (S.cl i0) λ o => Opt o λ d => Opt (lk za4 σ) λ k => Opt (zos 0 S d k v) λ st => KX .next σ st
     | false => KX .next σ S
   | false => KX .next σ S := by kernel_rfl
theorem zHv : (mk T (m + 30)).exec 0 Γ σ s4S S KX = Opt (lk zae σ) λ s => (mk T (m + 26)).callv 0 (.old 1654) [s, .int 2] S λ v st => Opt (zhy .eq v (.int 0) st) λ q => match q with
   | true => (mk T (m + 29)).execs 0 Γ σ qB st KX
   | false => KX .next σ st := by kernel_rfl
theorem zG5 : (mk T (m + 30)).exec 0 Γ σ s5S S KX = Opt (lk zae σ) λ s => (mk T (m + 26)).callv 0 (.old 1661) [s, .ref S.n] (S.add (ss ps4)) λ v st => Opt (lk zae σ) λ s => (mk T (m + 25)).callv 0 (.old 1661) [s, .ref st.n] (st.add (ss us4)) λ w st => Opt ((st.add (.tup [v, w])).tp st.n) λ vs => Opt (zbe 0 Γ [(false, zad), (false, zar)] vs σ (st.add (.tup [v, w]))) λ q => KX .next q.1 q.2 := by kernel_rfl
theorem zJh : (mk T (m + 30)).exec 0 Γ σ s8S S KX = Opt (lk zae σ) λ s => (mk T (m + 26)).callv 0 (.old 1654) [s, .int 6] S λ v st => Opt (biv T .range [v] st) λ q => Chk q.1 (Opt (zeh q.2.2 q.2.1) λ src => Chk (!zfg src) ((mk T (m + 29)).floop 0 Γ σ false [(false, ze7)] src [tu1, tu2, tu3] q.2.2 KX)) := by kernel_rfl
theorem zHc : (mk T (m + 20)).exec 0 (tG i0 i1) σ s9S S KX = Opt (lk zac σ) λ t => Opt (lk zaq σ) λ e => (mk T (m + 18)).callv 0 (.old 238) [t, e] S λ v st => Opt (st.cl i1) λ _ => KX .next σ (st.set i1 (.cell (some v))) := by kernel_rfl
theorem zDt : (mk T (m + 30)).exec 0 (tG i0 i1) σ ztk S KX = Opt (S.cl i0) λ o => Opt o λ d => Opt (zeh S d) λ src => (mk T (m + 26)).cloop (zrf src 0 S) (tG i0 i1) [] (.loc za4) false [za4] [cnE] src [] S λ v st => Opt (zhy .eq v (.ref st.n) (st.add (.list []))) λ q => match q with
   | true => Opt (lk zac σ) λ t => Opt (zat T (st.add (.list [])) t zar) λ mt => Opt (lk zaq σ) λ e => MtA (mk T (m + 25)) 0 (st.add (.list [])) [e] (st.add (.list [])) (λ u st => Opt (lk zar σ) λ w => Opt (zhy .eq u w st) λ q => KX (.ret (.bool q)) σ st) mt
   | false => KX (.ret (.bool q)) σ (st.add (.list [])) := by kernel_rfl
theorem zMo : (mk T (m + 10)).tr z (tG i0 i1) σ (.andd [cnE]) S K2 = Opt (S.cl i1) λ o => Opt o λ c => Opt (zat T S c ztw) λ mt => Opt (lk za4 σ) λ k => MtA (mk T (m + 6)) z S [k] S (λ a st => Opt (st.cl i0) λ o => Opt o λ d => Opt (lk za4 σ) λ k => Opt (zem T st d k) λ b => Opt (zhy .ne a b st) λ q => match q with
   | true => K2 true st
   | false => K2 false st) mt := by kernel_rfl
theorem zIw : (mk T (m + 39)).execs 0 [] [(zac, t), (zaq, e)] zix.body S KX = (mk T (m + 35)).callv 0 (.old 202) [t, e] (S.add (.dict [(zBm, .str zni)])) λ l st => Opt (zeh st l) λ src => Chk (!zfg src) ((mk T (m + 36)).floop 0 [] [(zac, t), (zaq, e), (zan, .ref S.n)] false [(false, zf6)] src scB st λ fl σ st => match fl with
   | .next => Opt (lk zan σ) λ v => KX (.ret v) σ st
   | .ret v => KX (.ret v) σ st) := by kernel_rfl
theorem zCp : (mk T (m + 20)).execs 0 [] σ scB S KX = Opt (lk zac σ) λ t => Opt (zat T S t zav) λ mt => Opt (lk zf6 σ) λ e => MtA (mk T (m + 17)) 0 S [e] S (λ l st => Opt (zeh st l) λ src => Chk (!zfg src) ((mk T (m + 18)).floop 0 [] σ false [(false, zab)] src zH1 st λ fl σ st => match fl with
   | .next => KX .next σ st
   | .ret v => KX (.ret v) σ st)) mt := by kernel_rfl
theorem zyv : (mk T (m + 20)).exec 0 [] σ (.ast [(false, zad), (false, zar)] (.tpl [(.mth (.loc zac) zah [(.loc zab)]), (.mth (.loc zac) zax [(.loc zab)])])) S KX = Opt (lk zac σ) λ t => Opt (zat T S t zah) λ mt => Opt (lk zab σ) λ i => MtA (mk T (m + 16)) 0 S [i] S (λ a st => Opt (lk zac σ) λ t => Opt (zat T st t zax) λ mt => Opt (lk zab σ) λ i => MtA (mk T (m + 15)) 0 st [i] st (λ b st => Opt ((st.add (.tup [a, b])).tp st.n) λ vs => Opt (zbe 0 [] [(false, zad), (false, zar)] vs σ (st.add (.tup [a, b]))) λ q => KX .next q.1 q.2) mt) mt := by kernel_rfl
theorem zzi : (mk T (m + 20)).exec 0 [] σ (.iff (.cmp .ne (.loc zar) (.txt [])) [.asi (.loc zan) (.loc zad) (.loc zar)] [.iff (.inn false (.loc zad) (.loc zan)) [.exp (.mth (.loc zan) zAm [(.loc zad)])] []]) S KX = Opt (lk zar σ) λ u => Opt (zhy .ne u (.str []) S) λ q => match q with
   | true => Opt (lk zar σ) λ v => Opt (lk zan σ) λ f => Opt (lk zad σ) λ k => Opt (zos 0 S f k v) λ st => KX .next σ st
   | false => (mk T (m + 19)).execs 0 [] σ [.iff (.inn false (.loc zad) (.loc zan)) [.exp (.mth (.loc zan) zAm [(.loc zad)])] []] S KX := by kernel_rfl
theorem zIz : (mk T (m + 9)).execs 0 [] [(zac, t), (zab, e)] zgl.body S KX = (mk T (m + 6)).wloop 0 [] [(zac, t), (zab, e), (zan, .ref S.n)] (.cmp .isNot (.loc zab) .non) [.exp (.mth (.loc zan) za0 [(.loc zab)]), .asg zab (.mth (.loc zac) zap [(.loc zab)])] (S.add (.list [])) λ fl σ st => match fl with
   | .next => Opt (lk zan σ) λ f => zKo f .none .none (.int (-1)) st λ v st => KX (.ret v) σ st
   | .ret v => KX (.ret v) σ st := by kernel_rfl
end
noncomputable def anR : List PS := [.asg zab (.mth (.loc zaa) zfo [(.txt [110, 97, 109, 101, 115, 112, 97, 99, 101]), (.loc zad), (.txt []), (.loc zad), (.loc zar), (.loc zaq)]), .exp (.mth (.att (.loc zbb) zav) za0 [(.loc zab)]), .ret (.loc zab)]
section
variable (T : Tbl) (m : Nat) (S : Store) (KX : KX) (K : KV) (s t e p u i h : AV) (σ : zaf) (Γ : zaw) (c : Nat) (U : List Nat)
theorem zHy : (mk T (m + 39)).execs 0 [] [(zaa, s), (zad, .str [c]), (zar, .str U)] zfr.body S KX =
   (mk T (m + 36)).callv 0 (.old 339) [.str U] S λ _ st => Nk (decide (U = [])) (Opt (zc6 st s zac) λ t => Opt (zat T st t zez) λ mt => Opt (zat T st s zf9) (MtA (mk T (m + 32)) 0 st [] st λ h st' => MtA (mk T (m + 34)) 0 st [h, .str [c], .str U] st' (λ _ st => KX .next [(zaa, s), (zad, .str [c]), (zar, .str U)] st) mt)) := by kernel_rfl
theorem zHq : (mk T (m + 19)).execs 0 [] [(zaa, t), (zaq, e)] zc9.body S KX = Opt (zat T S t zbb) (MtA (mk T (m + 16)) 0 S [e] S λ r st => Opt (zc6 st r zbk) λ k => Opt (zhy .ne k (.str wEl) st) λ q => Nk q (KX (.ret r) [(zaa, t), (zaq, e), (zbb, r)] st)) := by kernel_rfl
theorem zHr : (mk T (m + 39)).execs 0 [] [(zaa, t), (zaq, e), (zad, p), (zar, u)] zct.body S KX =
   Opt (zat T S t zfq) (MtA (mk T (m + 36)) 0 S [e] S λ r st => Opt (zc6 st r zav) λ l => Opt (zeh st l) λ src => Chk (!zfg src) ((mk T (m + 36)).floop 0 [] [(zaa, t), (zaq, e), (zad, p), (zar, u), (zbb, r)] false [(false, zab)] src anB st λ fl σ st => match fl with
     | .next => (mk T (m + 37)).execs 0 [] σ anR st KX
     | .ret v => KX (.ret v) σ st)) := by kernel_rfl
theorem zFa : (mk T (m + 30)).execs 0 [] σ anR S KX = Opt (lk zaa σ) λ t => Opt (zat T S t zfo) λ mt => Opt (lk zad σ) λ p => Opt (lk zad σ) λ p' => Opt (lk zar σ) λ u => Opt (lk zaq σ) λ e => MtA (mk T (m + 27)) 0 S [.str [110, 97, 109, 101, 115, 112, 97, 99, 101], p, .str [], p', u, e] S (λ n st => Opt (lk zbb (putL zab n σ)) λ r => Opt (zc6 st r zav) λ l => Opt (zat T st l za0) λ mt => Opt (lk zab (putL zab n σ)) λ v => MtA (mk T (m + 26)) 0 st [v] st (λ _ st => Opt (lk zab (putL zab n σ)) λ v => KX (.ret v) (putL zab n σ) st) mt) mt := by kernel_rfl
theorem zCw : (mk T (m + 20)).execs 0 [] σ anB S KX = Opt (lk zaa σ) λ t => Opt (zc6 S t zaz) λ l => Opt (lk zab σ) λ i => Opt (zem T S l i) λ r => Opt (zc6 S r zah) λ n => Opt (lk zad σ) λ p => Opt (zhy .eq n p S) λ q => match q with
   | true => Opt (lk zar σ) λ u => Opt (lk zaa σ) λ t => Opt (zc6 S t zaz) λ l => Opt (lk zab σ) λ i => Opt (zem T S l i) λ r => Opt (ztt 0 S r zax u) λ st => Opt (lk zab σ) λ v => KX (.ret v) σ st
   | false => KX .next σ S := by kernel_rfl
theorem zHo : (mk T (m + 39)).execs 0 [] [(zaa, s), (zad, .str [c]), (zar, .str U)] zdd.body S KX =
   Opt (zat T S s zfu) (MtA (mk T (m + 36)) 0 S [.str zKj] S λ _ st => match decide (U = zni) with
     | true => KX (.ret .none) [(zaa, s), (zad, .str [c]), (zar, .str U)] st
     | false => match decide (U = []) with
       | true => KX (.ret .none) [(zaa, s), (zad, .str [c]), (zar, .str U)] st
       | false => Opt (zat T st s zcl) (MtA (mk T (m + 31)) 0 st [.str [c]] st λ b st => Opt (truthy b) λ q => match q with
         | true => KX (.ret .none) [(zaa, s), (zad, .str [c]), (zar, .str U)] st
         | false => Opt (zat T st s zf4) (MtA (mk T (m + 32)) 0 st [.str [c]] st λ b st => Opt (zhy .eq b (.str U) st) λ q => match q with
           | true => Opt (zc6 st s zev) λ l => Opt (zem T st l (.int (-1))) λ k => Opt (zat T st k za0) (MtA (mk T (m + 32)) 0 st [.str [c]] st λ _ st => KX (.ret .none) [(zaa, s), (zad, .str [c]), (zar, .str U)] st)
           | false => Opt (zat T st s zi2) (MtA (mk T (m + 29)) 0 st [.str [c]] st λ b st => Opt (truthy b) λ q => match !q with
             | true => Opt (zat T st s zn2) (MtA (mk T (m + 29)) 0 st [.str [c], .str U] st λ _ st => KX .next [(zaa, s), (zad, .str [c]), (zar, .str U)] st)
             | false => KX .next [(zaa, s), (zad, .str [c]), (zar, .str U)] st)))) := by kernel_rfl
end
abbrev T2 := List Nat × List Nat
structure RA where
 r : Nat
 t : Nat
 L : Nat
 oL : Nat
 hL : Nat
 kL : Nat
 k0 : Nat
 k1 : Nat
 k2 : Nat
 gL : Nat
 pL : Nat
 ie : Nat
noncomputable def RA.es (a : RA) : List (Nat × AV) := [(zac, .ref a.t), (zjh, .int 0), (zer, .ref a.oL), (zbc, .ref a.hL), (zev, .ref a.kL), (zi8, .ref a.gL), (zd6, .ref a.pL)]
abbrev NsF (ds : List Nd) : List Nat → List T2 → Prop := All2 λ i p => ∃ x, ds[i]? = some x ∧ x.n = p.1 ∧ x.v = p.2
structure Rs (S : Store) (a : RA) (z o e : Nd) (ds : List Nd) (rs : List Nat) (oi ei : List Nat) (os es : List T2) (ks : List (List Nat)) (bud : Nat) : Prop where
 r : Ob S a.r 492 a.es
 tr : TreeF S a.t a.L ds rs
 op : Lies S a.oL (.list [.int 0, .int 1, .int a.ie])
 hc : Lies S a.hL (.list [.bool true, .bool true, .bool false])
 kp : Lies S a.kL (.list [.ref a.k0, .ref a.k1, .ref a.k2])
 kk : Lies S a.k2 (.list (ks.map .str))
 z0 : ds[0]? = some z
 zp : z.p = .none
 zs : Lies S z.s (.list [])
 o1 : ds[1]? = some o
 op' : o.p = .int 0
 hos : Lies S o.s (.list (oi.map λ (i : Nat) => .int i))
 on : NsF ds oi os
 e2 : ds[a.ie]? = some e
 ep : e.p = .int 1
 ek : e.k = wEl
 hes : Lies S e.s (.list (ei.map λ (i : Nat) => .int i))
 en : NsF ds ei es
 ea : Lies S e.a (.list [])
 lo : os.length ≤ 5
 le0 : es.length + bud ≤ 15
 ld0 : ds.length + bud ≤ 50
 lk0 : ks.length + bud ≤ 50
 md : ∀ l ∈ [a.oL, a.hL, a.kL, z.s, o.s, e.a], l ∉ [a.L, e.s, a.k2]
 mn : [a.L, e.s, a.k2].Nodup
section
variable {S S' : Store} {a : RA} {z o e : Nd} {ds : List Nd} {rs oi ei : List Nat} {os es : List T2} {ks : List (List Nat)} {K : KV} {KK : KX} {p : List Nat} {c bud : Nat}
theorem Rs.keep (R : Rs S a z o e ds rs oi ei os es ks bud) (k : Kept [] S S') : Rs S' a z o e ds rs oi ei os es ks bud :=
 have n : ∀ {x : Nat}, x ∉ ([] : List Nat) := λ m => nomatch m
 { R with r := R.r.keep k, tr := R.tr.keep k n, op := k.at' R.op λ _ => n, hc := k.at' R.hc λ _ => n, kp := k.at' R.kp λ _ => n, kk := k.at' R.kk λ _ => n, zs := k.at' R.zs λ _ => n, hos := k.at' R.hos λ _ => n, hes := k.at' R.hes λ _ => n, ea := k.at' R.ea λ _ => n }
theorem Rs.le (R : Rs S a z o e ds rs oi ei os es ks bud) : es.length ≤ 15 := ltx (zft _ _) R.le0
theorem zD3 : tbl.cls.get 492 = some zms := by kernel_rfl
theorem Rs.mth {n b : Nat} (R : Rs S a z o e ds rs oi ei os es ks bud) (e1 : lk n a.es = none) (e3 : lk n zms.meths = some b) : zat tbl S (.ref a.r) n = some (.fnm b (.ref a.r)) := R.r.mth e1 zD3 e3
theorem fnR : tbl.fn.get 360 = some zf3 ∧ tbl.fn.get 409 = some zdb ∧ tbl.fn.get 416 = some zfr ∧ tbl.fn.get 421 = some zca ∧ tbl.fn.get 426 = some zdt ∧ tbl.fn.get 433 = some zdd ∧ tbl.fn.get 454 = some zcs := by
 refine ⟨?_, ?_, ?_, ?_, ?_, ?_, ?_⟩ <;> kernel_rfl
theorem znc {xs : List AV} {v : AV} {R n : Nat} (h : Lies S R (.list xs)) (hl : xs.length = n + 1) (hv : xs[n]? = some v) : zem tbl S (.ref R) (.int (-1)) = some v := by
 show (zb1 tbl S (.ref R)).bind _ = _
 rw [zr3 h]
 exact (zka hl).trans hv
theorem zm2 (R : Rs S a z o e ds rs oi ei os es ks bud) (m : Nat) (k : K (.int a.ie) S) : (mk tbl (m + 20)).callv 0 (.old 360) [.ref a.r] S K := by
 rw [zbo (n := m + 19) (b := [(zaa, .ref a.r)]) fnR.1 rfl]
 exact (zy1 tbl (m + 10) S _ (.ref a.r)).mpr (Opt.of (R.r.att (n := zer) (v := .ref a.oL) rfl rfl) (Opt.of (znc R.op (n := 2) rfl rfl) k))
theorem zLb (R : Rs S a z o e ds rs oi ei os es ks bud) (m : Nat) (k : K .none S) : (mk tbl (m + 30)).callv 0 (.old 454) [.ref a.r, .str zKj] S K := by
 rw [zbo (n := m + 29) (b := [(zaa, .ref a.r), (zss, .str zKj)]) fnR.2.2.2.2.2.2 rfl]
 exact (zG7 tbl (m + 9) S _ (.ref a.r) (.str zKj)).mpr (Opt.of (R.r.att (n := zer) (v := .ref a.oL) rfl rfl) (Opt.of (len_list R.op) (Chk.of rfl (Opt.of (a := false) rfl (Nk.of rfl (Opt.of (R.r.att (n := zbc) (v := .ref a.hL) rfl rfl) (Opt.of (znc R.hc (n := 2) rfl rfl) (Opt.of rfl (Nk.of rfl k)))))))))
theorem zx6 : ∀ l : List (List Nat), zdm (l.map AV.str) = some l
 | [] => rfl
 | s :: l => by show (zdm (l.map AV.str)).map _ = _; rw [zx6 l]; rfl
theorem zmo {N : Nat} {l : List (List Nat)} (h : Lies S N (.list (l.map .str))) : inv tbl S (.str p) (.ref N) = some (l.contains p) := by
 show (S.get N).bind (inO p) = _
 rw [h.1]
 show (zdm (l.map AV.str)).map _ = _
 rw [zx6]; rfl
theorem zF6 (R : Rs S a z o e ds rs oi ei os es ks bud) (m : Nat) (k : ∀ S', Kept [] S S' → K (.bool ((es.map (·.1)).contains p)) S') : (mk tbl (m + 80)).callv 0 (.old 421) [.ref a.r, .str p] S K := by
 obtain ⟨j, ej⟩ := Nat.le.dest R.le
 have el : ei.length = es.length := R.en.len
 rw [zbo (n := m + 79) (b := [(zaa, .ref a.r), (zad, .str p)]) fnR.2.2.2.1 rfl]
 have k1 : Kept [] S (S.add (.cell (some (.ref a.r)))) := Kept.add _
 have R1 := R.keep k1
 have c0 := Lies.new S (.cell (some (.ref a.r)))
 refine (zGc tbl (m + 40) (S.add (.cell (some (.ref a.r)))) _ (.str p) S.n).mpr (Opt.of (zb6 c0) (Opt.of rfl (Opt.of (R1.r.att (n := zac) (v := .ref a.t) rfl rfl) (Opt.of (R1.tr.mth rfl rfl) (Opt.of (zb6 c0) (Opt.of rfl (Opt.of (R1.mth rfl rfl) (zm2 R1 (m + 52) (zoo fnT.2.2.2.2.2.2.2.2 R1.tr R1.e2 rfl rfl R1.hes ?_ (m + 44) (Opt.of (zdc (Lies.new _ _)) ?_))))))))))
 · rw [List.length_map, el]; exact ltx R.le (by decide)
 have k2 : Kept [] S ((S.add (.cell (some (.ref a.r)))).add (.list (ei.map λ (i : Nat) => .int i))) := k1.trans (Kept.add _)
 have c2 := c0.add (.list (ei.map λ (i : Nat) => .int i))
 have l2 := Lies.new (S.add (.cell (some (.ref a.r)))) (.list (ei.map λ (i : Nat) => .int i))
 have R2 := R.keep k2
 generalize hS2 : (S.add (.cell (some (.ref a.r)))).add (.list (ei.map λ (i : Nat) => .int i)) = S2 at *
 have lx : (ei.map λ (i : Nat) => AV.int i).length = es.length := by rw [List.length_map]; exact el
 have key := zio (T := tbl) (z := 0) (c := 45) (Γ := [(zaa, S.n)]) (elt := nmE) (tup := false) (ys := [zab]) (ifs := []) (xs := ei.map λ (i : Nat) => AV.int i) (Nx := .lst (S.add (.cell (some (.ref a.r)))).n) (K := λ v st => Opt (inv tbl st (.str p) v) λ q => K (zck (.ret (.bool (q != false)))) st)
   (Inv := λ k acc S' => acc = (es.take k).map (λ p => AV.str p.1) ∧ S' = S2)
   (λ k acc S' I => I.2 ▸ zbw l2)
   (λ k v acc σ S' m hv I => ⟨_, rfl, λ K1 K0 q1 q0 => by
     obtain ⟨I1, rfl⟩ := I
     rw [za6, List.getElem?_map] at hv
     refine zbs hv λ i hi ev => ?_
     cases ev
     have lt : k < es.length := el ▸ (List.getElem?_eq_some_iff.mp hi).1
     have ee : es[k]? = some es[k] := List.getElem?_eq_getElem lt
     obtain ⟨i', e1, x, x1, x2, x3⟩ := R2.en.get ee
     cases hi.symm.trans e1
     refine zr1 ((zDn tbl (m + 35) S' K1 _ S.n 0).mpr (Opt.of (zb6 c2) (Opt.of rfl (Opt.of (R2.r.att (n := zac) (v := .ref a.t) rfl rfl) (Opt.of (R2.tr.mth rfl rfl) (Opt.of (zbh _ _ _) (zee fnT.2.1 R2.tr x1 (v := .str x.n) rfl rfl (m + 14) (q1 _ _ ⟨?_, rfl⟩))))))))
     rw [I1, List.take_add_one, ee, List.map_append, x2]; rfl⟩)
   es.length 0 (m + j + 13) [] [] S2 ((Nat.zero_add _).trans lx.symm) (by show 0 + es.length ≤ 1000; rw [Nat.zero_add]; exact ltx R.le (by decide)) ⟨rfl, rfl⟩ (λ acc' S' I => by
     obtain ⟨I1, rfl⟩ := I
     rw [lx, List.take_length] at I1
     rw [I1]
     refine Opt.of (a := (es.map (·.1)).contains p) ?_ ?_
     · rw [show es.map (λ p => AV.str p.1) = (es.map (·.1)).map .str by rw [List.map_map]; rfl]
       exact zmo (Lies.new S' _)
     · have := k _ (k2.trans (Kept.add (.list (es.map λ p => AV.str p.1))))
       generalize (es.map (·.1)).contains p = b at *
       cases b <;> exact this)
 rw [show m + 40 + 35 = m + j + 13 + 45 + es.length + 2 by rw [show m + 40 + 35 = m + 13 + 45 + 15 + 2 from rfl, ← ej]; simp only [Nat.add_assoc, Nat.add_comm, Nat.add_left_comm]]
 exact key
end
section
variable {S S' : Store} {a : RA} {z o e x : Nd} {ds : List Nd} {rs oi ei is : List Nat} {os es ps : List T2} {ks : List (List Nat)} {K : KV} {KK : KX} {p : List Nat} {c N i bud : Nat} {σ : zaf}
theorem zju {q : T2} : ∀ {l : List T2}, lkS p l = none → lkS p (l ++ [q]) = if q.1 = p then some q.2 else none
 | [], _ => rfl
 | y :: l, h => by
   unfold lkS at h
   show (if y.1 = p then some y.2 else lkS p (l ++ [q])) = _
   by_cases e : y.1 = p
   · rw [if_pos e] at h; cases h
   · rw [if_neg e] at h ⊢; exact zju h
theorem zv2 {l' : List T2} {u : List Nat} : ∀ {l : List T2}, lkS p l = some u → lkS p (l ++ l') = some u
 | [], h => nn h
 | y :: l, h => by
   unfold lkS at h
   show (if y.1 = p then some y.2 else lkS p (l ++ l')) = _
   by_cases e : y.1 = p
   · rw [if_pos e] at h ⊢; exact h
   · rw [if_neg e] at h ⊢; exact zv2 (l := l) h
theorem zAz {T : Tbl} {z n : Nat} {Γ : zaw} {tup : Bool} {xs : List (Bool × Nat)} {src : Src} {b : List PS} {K : KX} (e1 : zfm S src = some none) (h : K .next σ S) : (mk T (n + 1)).floop z Γ σ tup xs src b S K := Opt.of e1 h
theorem zLa (R : Rs S a z o e ds rs oi ei os es ks bud) (hN : Lies S N (.list (is.map λ (i : Nat) => .int i))) (hn : NsF ds is ps) (hl : ps.length ≤ 15) (g1 : lk zaa σ = some (.ref a.r)) (g2 : lk zad σ = some (.str p)) (m : Nat)
   (k1 : lkS p ps = none → ∀ σ', lk zaa σ' = some (.ref a.r) → lk zad σ' = some (.str p) → KK .next σ' S) (k2 : ∀ u σ', lkS p ps = some u → KK (.ret (.str u)) σ' S) :
   (mk tbl (m + 80)).floop 0 [] σ false [(false, zab)] (.lst N 0) zIu S KK := by
 obtain ⟨j, ej⟩ := Nat.le.dest hl
 have lx : (is.map λ (i : Nat) => AV.int i).length = ps.length := by rw [List.length_map]; exact hn.len
 have key := zel (T := tbl) (z := 0) (c := 50) (Γ := []) (tup := false) (zs := [(false, zab)]) (b := zIu) (xs := is.map λ (i : Nat) => AV.int i) (Nx := .lst N) (K := KK)
   (Inv := λ k σ S' => S' = S ∧ lk zaa σ = some (.ref a.r) ∧ lk zad σ = some (.str p) ∧ lkS p (ps.take k) = none)
   (Rt := λ w S' => S' = S ∧ ∃ u, lkS p ps = some u ∧ w = .str u)
   (λ k σ S' I => I.1 ▸ zbw hN)
   (λ k v σ S' m hv I => ⟨_, rfl, λ K1 q1 q2 => by
     obtain ⟨rfl, g1, g2, g3⟩ := I
     rw [za6, List.getElem?_map] at hv
     refine zbs hv λ i hi ev => ?_
     cases ev
     have lt : k < ps.length := hn.len ▸ (List.getElem?_eq_some_iff.mp hi).1
     have ee : ps[k]? = some ps[k] := List.getElem?_eq_getElem lt
     obtain ⟨i', e1, x, x1, x2, x3⟩ := hn.get ee
     cases hi.symm.trans e1
     have f1 := (zdw (x := zab) (.int (i : Int)) rfl σ).trans g1
     have f2 := (zdw (x := zab) (.int (i : Int)) rfl σ).trans g2
     have ep : lkS p (ps.take (k + 1)) = if ps[k].1 = p then some ps[k].2 else none := by rw [List.take_add_one, ee]; exact zju g3
     refine (zym tbl (m + 30) S' K1 _).mpr (Opt.of f1 (Opt.of (R.r.att (n := zac) (v := .ref a.t) rfl rfl) (Opt.of (R.tr.mth rfl rfl) (Opt.of (zbh _ _ _) (zee fnT.2.1 R.tr x1 (v := .str x.n) rfl rfl (m + 15) (Opt.of f2 (Opt.of (a := decide (x.n = p)) rfl ?_)))))))
     rw [x2]
     by_cases d : ps[k].1 = p
     · rw [decide_eq_true d]
       rw [if_pos d] at ep
       refine Opt.of f1 (Opt.of (R.r.att (n := zac) (v := .ref a.t) rfl rfl) (Opt.of (R.tr.mth rfl rfl) (Opt.of (zbh _ _ _) (zee fnT.2.2.2.2.1 R.tr x1 (v := .str x.v) rfl rfl (m + 15) (q2 _ _ _ ⟨rfl, _, ?_, congrArg AV.str x3⟩)))))
       have := zv2 (l' := ps.drop (k + 1)) ep
       rw [List.take_append_drop] at this
       exact this
     · rw [decide_eq_false d]
       rw [if_neg d] at ep
       exact q1 _ _ ⟨rfl, f1, f2, ep⟩⟩)
   ps.length 0 (m + j + 13) σ S ((Nat.zero_add _).trans lx.symm) ⟨rfl, g1, g2, rfl⟩
   (λ σ' S' I => by
     obtain ⟨rfl, g1, g2, g3⟩ := I
     rw [lx, List.take_length] at g3
     exact k1 g3 σ' g1 g2)
   (λ w σ' S' I => by
     obtain ⟨rfl, u, g, rfl⟩ := I
     exact k2 u σ' g)
 rw [show m + 80 = m + j + 13 + 50 + ps.length + 2 by rw [show m + 80 = m + 13 + 50 + 15 + 2 from rfl, ← ej]; simp only [Nat.add_assoc, Nat.add_comm, Nat.add_left_comm]]
 exact key
theorem zH3 (R : Rs S a z o e ds rs oi ei os es ks bud) (hi : ds[i]? = some x) (hx : Lies S x.s (.list (is.map λ (i : Nat) => .int i))) (hn : NsF ds is ps) (hl : ps.length ≤ 15) (g0 : lk zaq σ = some (.int i)) (g1 : lk zaa σ = some (.ref a.r)) (g2 : lk zad σ = some (.str p)) (m : Nat)
   (k1 : lkS p ps = none → ∀ σ' S', Kept [] S S' → lk zaa σ' = some (.ref a.r) → lk zad σ' = some (.str p) → KK .next σ' S') (k2 : ∀ u σ' S', Kept [] S S' → lkS p ps = some u → KK (.ret (.str u)) σ' S') :
   (mk tbl (m + 90)).execs 0 [] σ buB S KK := by
 refine (zC9 tbl (m + 70) S KK σ).mpr (Opt.of g1 (Opt.of (R.r.att (n := zac) (v := .ref a.t) rfl rfl) (Opt.of (R.tr.mth rfl rfl) (Opt.of g0 (zoo fnT.2.2.2.2.2.2.2.2 R.tr hi rfl rfl hx ?_ (m + 57) (Opt.of (zdc (Lies.new _ _)) (Chk.of rfl (zLa (R.keep (Kept.add _)) (Lies.new _ _) hn hl g1 g2 (m + 8) (λ h σ' a b => k1 h σ' _ (Kept.add _) a b) λ u σ' h => k2 u σ' _ (Kept.add _) h))))))))
 rw [List.length_map, hn.len]; exact ltx hl (by decide)
noncomputable def bu (p : List Nat) (es os : List T2) : List Nat := match lkS p es with | some u => u | none => match lkS p os with | some u => u | none => []
theorem zLl (R : Rs S a z o e ds rs oi ei os es ks bud) (hp : p ≠ zBm) (m : Nat) (k : ∀ S', Kept [] S S' → K (.str (bu p es os)) S') : (mk tbl (m + 140)).callv 0 (.old 409) [.ref a.r, .str p] S K := by
 rw [zbo (n := m + 139) (b := [(zaa, .ref a.r), (zad, .str p)]) fnR.2.1 rfl]
 refine (zHh tbl (m + 100) S _ (.ref a.r) (.str p)).mpr (Opt.of (a := false) (congrArg some (decide_eq_false hp)) (Opt.of (R.r.att (n := zer) (v := .ref a.oL) rfl rfl) (Opt.of (a := [.int 0, .int 1, .int a.ie]) (by unfold Store.ls; rw [R.op.1]; rfl) (Chk.of rfl (Opt.of rfl (Opt.of (zdc (Lies.new _ _)) (Chk.of rfl ?_)))))))
 have k1 : Kept [] S (S.add (.list [.int a.ie, .int 1])) := Kept.add _
 have l1 := Lies.new S (.list [.int a.ie, .int 1])
 have R1 := R.keep k1
 refine zi5 (n := m + 135) ((zbw l1).trans rfl) rfl (zH3 R1 R1.e2 R1.hes R1.en R1.le rfl rfl rfl (m + 45) (λ he σ' S2 k2 g1 g2 => ?_) λ u σ' S2 k2 he => ?_)
 · have R2 := R1.keep k2
   refine zi5 (n := m + 134) ((zbw (k2.at' l1 λ _ m => nomatch m)).trans rfl) rfl (zH3 R2 (i := 1) R2.o1 R2.hos R2.on (ltx R2.lo (by decide)) (zbh _ _ _) ((zdw _ rfl _).trans g1) ((zdw _ rfl _).trans g2) (m + 44) (λ ho σ3 S3 k3 g3 g4 => ?_) λ u σ3 S3 k3 ho => ?_)
   · refine zAz (n := m + 133) ((zbw ((k2.trans k3).at' l1 λ _ m => nomatch m)).trans rfl) ?_
     have := k _ (k1.trans (k2.trans k3))
     unfold bu at this
     rw [he, ho] at this
     exact this
   · have := k _ (k1.trans (k2.trans k3))
     unfold bu at this
     rw [he, ho] at this
     exact this
 · have := k _ (k1.trans k2)
   unfold bu at this
   rw [he] at this
   exact this
end
noncomputable def zBq : List (List Nat) := [[101], [112, 58, 101], [113, 58, 101], [114, 58, 101]]
noncomputable def zlc (n : List Nat) : List Nat := match decide (n = [101]) with | true => [] | false => n.take 1
noncomputable def zNz (n : List Nat) : Prop := (mk tbl 100).callv 0 (.old 318) [.str n] (Store.ofList []) λ v s => (v.toR.bind s.get, v.toR.map (λ i => Nat.blt i s.n)) = (some (.tup [.str (zlc n), .str [101]]), some true)
theorem zFd : zBq.map zNz = zBq.map λ n => (some (AO.tup [.str (zlc n), .str [101]]), some true) = (some (AO.tup [.str (zlc n), .str [101]]), some true) := by kernel_rfl
noncomputable def nrV (xs : List AV) (k n u l v : List Nat) (p : Int) : AV × Nat × List (Option AO) := (.int ((xs ++ [AV.ref 4]).length - 1), 8, [some (AO.inst 1636 1), some (.fields [(zaz, .ref 2)]), some (.list (xs ++ [AV.ref 4])), some (.fields (Nd.es ⟨k, n, u, l, v, .int p, 5, 6, 7⟩)), some (.inst 1447 3), some (.list []), some (.list []), some (.list [])])
theorem zIb (xs : List AV) (k n u l v : List Nat) (p : Int) : (mk tbl 60).callv 0 (.old 1472) [.ref 0, .str k, .str n, .str u, .str l, .str v, .int p] (Store.ofList [.inst 1636 1, .fields [(zaz, .ref 2)], .list xs]) (λ w s => (w, s.n, [0, 1, 2, 3, 4, 5, 6, 7].map s.get) = nrV xs k n u l v p) = Chk (Nat.ble xs.length 1000) (nrV xs k n u l v p = nrV xs k n u l v p) := by kernel_rfl
noncomputable def cuR (U : List Nat) : Prop := (mk tbl 30).callv 0 (.old 339) [.str U] (Store.ofList []) λ w s => (w, s.n) = (.none, 0)
theorem zJ9 : ([[117, 58, 49], [117, 58, 50], [117, 58, 51]].map cuR) = [[117, 58, 49], [117, 58, 50], [117, 58, 51]].map λ _ => (AV.none, 0) = (AV.none, 0) := by kernel_rfl
section
variable {S S' : Store} {a : RA} {z o e x : Nd} {ds : List Nd} {rs oi ei is : List Nat} {os es ps : List T2} {ks : List (List Nat)} {K : KV} {KK : KX} {p U : List Nat} {c N i bud : Nat} {σ : zaf}
theorem zGv {n : List Nat} (h : n ∈ zBq) (m : Nat) (k : ∀ S' i, Lies S' i (.tup [.str (zlc n), .str [101]]) → Kept [] S S' → K (.ref i) S') : (mk tbl (m + 100)).callv 0 (.old 318) [.str n] S K := by
 have run : zNz n := (List.map_inj_left.mp zFd n h).mpr rfl
 refine ze0 (vs := [.str n]) run (zgd (S := S) (as := []) rfl .nil) λ v s S' hv M => ?_
 refine pick (congrArg (·.1) hv) (congrArg (·.2) hv) λ i ev e1 e2 => ?_
 cases ev
 exact k S' _ (Lies.em M e1 e2) ((M.keep (as := []) (Nat.zero_le _)).new Kept.refl λ a m => nomatch m)
theorem zL6 (h : U ∈ [[117, 58, 49], [117, 58, 50], [117, 58, 51]]) (m : Nat) (k : ∀ S', Kept [] S S' → K .none S') : (mk tbl (m + 30)).callv 0 (.old 339) [.str U] S K := by
 have run : cuR U := (List.map_inj_left.mp zJ9 U h).mpr rfl
 refine ze0 (vs := [.str U]) run (zgd (S := S) (as := []) rfl .nil) λ v s S' hv M => ?_
 cases (congrArg (·.1) hv : v = .none)
 exact k S' ((M.keep (as := []) (Nat.zero_le _)).new Kept.refl λ a m => nomatch m)
theorem zKt {t L : Nat} {k n u l v : List Nat} {p : Int} (h : TreeF S t L ds rs) (hl : ds.length ≤ 900) (m : Nat) (q : ∀ r c a s S', TreeF S' t L (ds ++ [⟨k, n, u, l, v, .int p, c, a, s⟩]) (rs ++ [r]) → Kept [L] S S' → K (.int ds.length) S') : (mk tbl (m + 60)).callv 0 (.old 1472) [.ref t, .str k, .str n, .str u, .str l, .str v, .int p] S K := by
 obtain ⟨d, h1, h2⟩ := h.o
 have A : AtL S (adr [t, d, L] S.n) [t, d, L] [.inst 1636 1, .fields [(zaz, .ref 2)], .list (rs.map .ext)] := by
   refine ⟨h1, h2, ?_, rfl⟩
   show Lies S L (.list ((rs.map AV.ext).map _))
   rw [List.map_map]; exact h.l
 have nd : [t, d, L].Nodup := by
   refine zmq A ?_
   cases rs <;> exact of_decide_eq_true rfl
 have er := h.r.len
 refine ze0 (vs := [.ref 0, .str k, .str n, .str u, .str l, .str v, .int p]) ((zIb (rs.map .ext) k n u l v p).mpr (Chk.of (lbx (by rw [List.length_map, er]; exact ltx hl (by decide))) rfl)) (zgd A nd) λ w s S' hv M => zK0 hv λ ev en eg => ?_
 have ln : ∀ {i}, i < 8 → i < s.n := λ h => en ▸ h
 have g := λ j {i} e => zBi eg j (i := i) e
 have kp : Kept [L] S S' := zmr Kept.refl A M (Nat.le_of_lt (ln (i := 3) (by decide))) ⟨.inl (g 0 rfl), .inl (g 1 rfl), .inr (.inl ⟨rfl, .head _⟩), trivial⟩
 have g2 := Lies.em M (g 2 rfl) (ln (by decide))
 have g3 := Lies.em M (g 3 rfl) (ln (by decide))
 have g4 := Lies.em M (g 4 rfl) (ln (by decide))
 cases ev
 have el : (((rs.map AV.ext ++ [AV.ref 4]).length : Nat) : Int) - 1 = ds.length := by
   rw [List.length_append, List.length_map, er]
   exact Int.add_sub_cancel (ds.length : Int) 1
 show K (.int (((rs.map AV.ext ++ [AV.ref 4]).length : Nat) - 1)) S'
 rw [el]
 refine q (adr [t, d, L] S.n 4) (adr [t, d, L] S.n 5) (adr [t, d, L] S.n 6) (adr [t, d, L] S.n 7) S' ⟨h.o.keep kp, ?_, (h.r.mono λ _ _ z => z.keep kp).snoc ⟨_, g4, g3⟩⟩ kp
 have g2 : Lies S' L (.list ((rs.map AV.ext ++ [AV.ref 4]).map (mV (adr [t, d, L] S.n)))) := g2
 rw [List.map_append, List.map_map] at g2
 rw [List.map_append]
 exact g2
end
section
variable {S S' : Store} {a : RA} {z o e x : Nd} {ds : List Nd} {rs oi ei is : List Nat} {os es ps : List T2} {ks : List (List Nat)} {K : KV} {KK : KX} {p U : List Nat} {c N i bud : Nat} {σ σ' : zaf}
theorem zIl {T : Tbl} {zz n : Nat} {Γ : zaw} {elt : PE} {tup : Bool} {xs : List Nat} {src src' : Src} {acc : List AV} {v : AV} (e1 : zfm S src = some (some (v, src'))) (hl : acc.length ≤ 1000) (e2 : zgo zz Γ tup (xs.map λ x => (false, x)) v σ S = some (σ', S)) (h : (mk T (n + 1)).ev zz Γ σ' elt S λ w st => (mk T (n + 1)).cloop zz Γ σ' elt tup xs [] src' (acc ++ [w]) st K) : (mk T (n + 2)).cloop zz Γ σ elt tup xs [] src acc S K := Opt.of e1 (Chk.of (lbx hl) (Opt.of e2 (zr1 h)))
theorem zHg {T : Tbl} {zz n : Nat} {Γ : zaw} {elt : PE} {tup : Bool} {xs : List Nat} {ifs : List PE} {src : Src} {acc : List AV} (e1 : zfm S src = some none) (hl : acc.length ≤ 1000) (h : K (.ref S.n) (S.add (.list acc))) : (mk T (n + 1)).cloop zz Γ σ elt tup xs ifs src acc S K := Opt.of e1 (Chk.of (lbx hl) h)
noncomputable def tk (ks : List (List Nat)) (n : List Nat) (c : Nat) : Bool := ks.contains [c] || [zlc n].contains [c]
theorem zLx (R : Rs S a z o e ds rs oi ei os es ks bud) (hn : nms.contains [c] = false) (hb : (es.map (·.1)).contains [c] = false) (he : e.n ∈ zBq) (m : Nat) (k : ∀ S', Kept [] S S' → K (.bool (tk ks e.n c)) S') : (mk tbl (m + 150)).callv 0 (.old 426) [.ref a.r, .str [c]] S K := by
 rw [zbo (n := m + 149) (b := [(zaa, .ref a.r), (zad, .str [c])]) fnR.2.2.2.2.1 rfl]
 have k1 : Kept [] S (S.add (.cell (some (.ref a.r)))) := Kept.add _
 have R1 := R.keep k1
 have c1 := Lies.new S (.cell (some (.ref a.r)))
 refine (zJ0 tbl (m + 110) (S.add (.cell (some (.ref a.r)))) _ S.n c).mpr ?_
 show (match nms.contains [c] != false with | true => _ | false => _)
 rw [hn]
 refine Opt.of (zb6 c1) (Opt.of rfl (Opt.of (R1.r.att (n := zev) (v := .ref a.kL) rfl rfl) (Opt.of (znc R1.kp (n := 2) rfl rfl) (Opt.of (zmo R1.kk) ?_))))
 unfold tk at k
 cases hk : ks.contains [c] with
 | true => rw [hk] at k; exact k _ k1
 | false =>
   rw [hk] at k
   refine Opt.of (zb6 c1) (Opt.of rfl (Opt.of (R1.mth rfl rfl) (zF6 R1 (m + 62) λ S2 k2 => ?_)))
   rw [hb]
   have R2 := R1.keep k2
   have c2 := k2.at' c1 nb
   refine Opt.of rfl (Opt.of (zb6 c2) (Opt.of rfl (Opt.of (R2.mth rfl rfl) (zm2 R2 (m + 122) ?_))))
   have k3 : Kept [] S2 (S2.add (.list [.int a.ie])) := Kept.add _
   have R3 := R2.keep k3
   have c3 := k3.at' c2 nb
   have l3 := Lies.new S2 (.list [.int a.ie])
   refine Opt.of (zb6 c3) (Opt.of rfl (Opt.of (R3.r.att (n := zac) (v := .ref a.t) rfl rfl) (Opt.of (R3.tr.mth rfl rfl) (Opt.of (zb6 c3) (Opt.of rfl (Opt.of (R3.mth rfl rfl) (zm2 R3 (m + 122) (zoo fnT.2.2.2.2.2.2.2.1 R3.tr R3.e2 rfl rfl R3.ea (Nat.zero_le _) (m + 114) ?_))))))))
   have l4 := l3.add (.list [])
   refine Opt.of (a := (true, .ref (S2.n + 2), ((S2.add (.list [.int a.ie])).add (.list [])).add (.list [.int a.ie]))) ?_ (Chk.of rfl (Opt.of (zdc (Lies.new _ _)) ?_))
   · show (((S2.add (.list [.int a.ie])).add (.list [])).ls S2.n).bind _ = _
     unfold Store.ls
     rw [l4.1]
     show (((S2.add (.list [.int a.ie])).add (.list [])).ls (S2.n + 1)).map _ = _
     unfold Store.ls
     have l4' : Lies ((S2.add (.list [.int a.ie])).add (.list [])) (S2.n + 1) (.list []) := Lies.new (S2.add (.list [.int a.ie])) (.list [])
     rw [l4'.1]; rfl
   · have k5 : Kept [] S2 (((S2.add (.list [.int a.ie])).add (.list [])).add (.list [.int a.ie])) := k3.trans ((Kept.add _).trans (Kept.add _))
     have R5 := R2.keep k5
     have c5 := k5.at' c2 nb
     have l5 := Lies.new ((S2.add (.list [.int a.ie])).add (.list [])) (.list [.int a.ie])
     refine zIl (n := m + 141) ((zbw l5).trans rfl) (Nat.zero_le _) rfl ((zEi tbl (m + 132) _ _ _ S.n 0).mpr (Opt.of (zb6 c5) (Opt.of rfl (Opt.of (R5.r.att (n := zac) (v := .ref a.t) rfl rfl) (Opt.of (R5.tr.mth rfl rfl) (Opt.of (zbh _ _ _) (zee fnT.2.1 R5.tr R5.e2 (v := .str e.n) rfl rfl (m + 108) (zGv he (m + 40) λ S6 i6 a6 k6 => Opt.of (a := .str (zlc e.n)) ?_ ?_))))))))
     · show (zb1 tbl S6 (.ref i6)).bind _ = _
       have : zb1 tbl S6 (.ref i6) = some [.str (zlc e.n), .str [101]] := by show (S6.get i6).bind AO.toLT = _; rw [a6.1]; rfl
       rw [this]; rfl
     · refine zHg (n := m + 141) ((zbw (k6.at' l5 λ _ m => nomatch m)).trans rfl) (blx rfl) (Opt.of (zmo (l := [zlc e.n]) (Lies.new S6 _)) ?_)
       have := k _ (k1.trans (k2.trans (k5.trans (k6.trans (Kept.add (.list [.str (zlc e.n)]))))))
       generalize [zlc e.n].contains [c] = b at *
       cases b <;> exact this
theorem zN0 : tbl.fn.get 1528 = some zc9 ∧ tbl.fn.get 1542 = some zct := by
 refine ⟨?_, ?_⟩ <;> kernel_rfl
theorem zKs {t L : Nat} (h : TreeF S t L ds rs) (e1 : ds[i]? = some x) (ek : x.k = wEl) (m : Nat) (k : ∀ r, Ob S r 1447 x.es → K (.ref r) S) : (mk tbl (m + 40)).callv 0 (.old 1528) [.ref t, .int i] S K := by
 rw [zbo (n := m + 39) (b := [(zaa, .ref t), (zaq, .int i)]) zN0.1 rfl]
 refine (zHq tbl (m + 20) S _ (.ref t) (.int i)).mpr (Opt.of (h.mth rfl rfl) (zw5 h e1 (m + 16) λ r q => Opt.of (q.att (n := zbk) (v := .str x.k) rfl rfl) (Opt.of (a := !decide (x.k = wEl)) rfl (Nk.of ?_ (k r q)))))
 rw [decide_eq_true ek]; rfl
theorem Rs.grow {r : Nat} {v u : List Nat} (R : Rs S a z o e ds rs oi ei os es ks (bud + 1)) (kp : Kept [a.L, e.s] S S') (T : TreeF S' a.t a.L (ds ++ [x]) (rs ++ [r])) (h : Lies S' e.s (.list ((ei ++ [ds.length]).map λ (i : Nat) => .int i))) (xn : x.n = v) (xv : x.v = u) : Rs S' a z o e (ds ++ [x]) (rs ++ [r]) oi (ei ++ [ds.length]) os (es ++ [(v, u)]) ks bud :=
 have n : ∀ {l}, l ∈ [a.oL, a.hL, a.kL, z.s, o.s, e.a] → l ∉ [a.L, e.s] := λ h m => R.md _ h (by rcases List.mem_cons.mp m with m | m; exact m ▸ .head _; exact msx m ▸ .tail _ (.head _))
 have ge : ∀ {i : Nat} {y : Nd}, ds[i]? = some y → (ds ++ [x])[i]? = some y := λ h => by rw [List.getElem?_append_left (List.getElem?_eq_some_iff.mp h).1]; exact h
 have nk : a.k2 ∉ [a.L, e.s] := λ m => by
   have q := (List.nodup_append (l₁ := [a.L, e.s]) (l₂ := [a.k2])).mp R.mn
   exact q.2.2 _ m _ (.head _) rfl
 { r := R.r.keep kp, tr := T, op := kp.at' R.op λ _ => n (.head _), hc := kp.at' R.hc λ _ => n (.tail _ (.head _)), kp := kp.at' R.kp λ _ => n (.tail _ (.tail _ (.head _))), kk := kp.at' R.kk λ _ => nk
   z0 := ge R.z0, zp := R.zp, zs := kp.at' R.zs λ _ => n (.tail _ (.tail _ (.tail _ (.head _)))), o1 := ge R.o1, op' := R.op', hos := kp.at' R.hos λ _ => n (.tail _ (.tail _ (.tail _ (.tail _ (.head _))))), on := R.on.mono λ _ _ h => h.elim λ y h => ⟨y, ge h.1, h.2⟩
   e2 := ge R.e2, ep := R.ep, ek := R.ek, hes := h, en := (R.en.mono λ _ _ h => h.elim λ y h => ⟨y, ge h.1, h.2⟩).snoc ⟨x, by rw [List.getElem?_append_right (Nat.le_refl _), Nat.sub_self]; rfl, xn, xv⟩
   ea := kp.at' R.ea λ _ => n (.tail _ (.tail _ (.tail _ (.tail _ (.tail _ (.head _)))))), lo := R.lo
   le0 := by have := R.le0; rw [List.length_append]; exact (Nat.add_right_comm _ 1 bud) ▸ this
   ld0 := by have := R.ld0; rw [List.length_append]; exact (Nat.add_right_comm _ 1 bud) ▸ this
   lk0 := ltx (Nat.le_succ _) R.lk0, md := R.md, mn := R.mn }
theorem zM4 (R : Rs S a z o e ds rs oi ei os es ks (bud + 1)) (hb : (es.map (·.1)).contains p = false) (m : Nat) (kk : ∀ S' x r, Rs S' a z o e (ds ++ [x]) (rs ++ [r]) oi (ei ++ [ds.length]) os (es ++ [(p, U)]) ks bud → Kept [a.L, e.s] S S' → K (.int ds.length) S') : (mk tbl (m + 120)).callv 0 (.old 1542) [.ref a.t, .int a.ie, .str p, .str U] S K := by
 obtain ⟨j, ej⟩ := Nat.le.dest R.le
 have lx : (ei.map λ (i : Nat) => AV.int i).length = es.length := by rw [List.length_map]; exact R.en.len
 rw [zbo (n := m + 119) (b := [(zaa, .ref a.t), (zaq, .int a.ie), (zad, .str p), (zar, .str U)]) zN0.2 rfl]
 refine (zHr tbl (m + 80) S _ (.ref a.t) (.int a.ie) (.str p) (.str U)).mpr (Opt.of (R.tr.mth rfl rfl) (zKs R.tr R.e2 R.ek (m + 76) λ re oe => Opt.of (oe.att (n := zav) (v := .ref e.s) rfl rfl) (Opt.of (zdc R.hes) (Chk.of rfl ?_))))
 have key := zel (T := tbl) (z := 0) (c := 20) (Γ := []) (tup := false) (zs := [(false, zab)]) (b := anB) (xs := ei.map λ (i : Nat) => AV.int i) (Nx := .lst e.s)
   (K := λ fl σ st => match fl with | .next => (mk tbl (m + 117)).execs 0 [] σ anR st (λ fl _ st => K (zck fl) st) | .ret v => K (zck (.ret v)) st)
   (Inv := λ k σ S' => S' = S ∧ lk zaa σ = some (.ref a.t) ∧ lk zaq σ = some (.int a.ie) ∧ lk zad σ = some (.str p) ∧ lk zar σ = some (.str U) ∧ lk zbb σ = some (.ref re))
   (Rt := λ _ _ => False)
   (λ k σ S' I => I.1 ▸ zbw R.hes)
   (λ k v σ S' m hv I => ⟨_, rfl, λ K1 q1 q2 => by
     obtain ⟨rfl, g1, g2, g3, g4, g5⟩ := I
     rw [za6, List.getElem?_map] at hv
     refine zbs hv λ i hi ev => ?_
     cases ev
     have lt : k < es.length := R.en.len ▸ (List.getElem?_eq_some_iff.mp hi).1
     have ee : es[k]? = some es[k] := List.getElem?_eq_getElem lt
     obtain ⟨i', e1, x, x1, x2, x3⟩ := R.en.get ee
     cases hi.symm.trans e1
     obtain ⟨rx, hr, ox⟩ := R.tr.r.get x1
     have ne : x.n ≠ p := λ e => by
       have : (es.map (·.1)).contains p = true := List.contains_iff_mem.mpr (List.mem_map.mpr ⟨es[k], List.getElem_mem lt, x2.symm.trans e⟩)
       rw [hb] at this; cases this
     have f := λ {y : Nat} {w : AV} (n : Nat.beq zab y = false) (h : lk y σ = some w) => (zdw (x := zab) (.int (i : Int)) n σ).trans h
     refine (zCw tbl m S' K1 _).mpr (Opt.of (f rfl g1) (Opt.of (R.tr.o.att (n := zaz) (v := .ref a.L) rfl rfl) (Opt.of (zbh _ _ _) (Opt.of (zpx R.tr.l (by rw [List.getElem?_map, hr]; rfl)) (Opt.of (ox.att (n := zah) (v := .str x.n) rfl rfl) (Opt.of (f rfl g3) (Opt.of (a := decide (x.n = p)) rfl ?_)))))))
     rw [decide_eq_false ne]
     exact q1 _ _ ⟨rfl, f rfl g1, f rfl g2, f rfl g3, f rfl g4, f rfl g5⟩⟩)
   es.length 0 (m + j + 79) [(zaa, .ref a.t), (zaq, .int a.ie), (zad, .str p), (zar, .str U), (zbb, .ref re)] S ((Nat.zero_add _).trans lx.symm) ⟨rfl, rfl, rfl, rfl, rfl, rfl⟩
   (λ σ S' I => by
     obtain ⟨rfl, g1, g2, g3, g4, g5⟩ := I
     refine (zFa tbl (m + 87) S' _ σ).mpr (Opt.of g1 (Opt.of (R.tr.mth rfl rfl) (Opt.of g3 (Opt.of g3 (Opt.of g4 (Opt.of g2 (zKt R.tr (ltx (ltx (zft _ _) R.ld0) (by decide)) (m + 54) λ r c' a' s' S1 T1 k1 => ?_)))))))
     have f := λ {y : Nat} {w : AV} (n : Nat.beq zab y = false) (h : lk y σ = some w) => (zdw (x := zab) (.int (ds.length : Int)) n σ).trans h
     have h1 : Lies S1 e.s _ := k1.at' R.hes λ _ m => by
       have q := (List.nodup_cons.mp R.mn).1
       exact q (msx m ▸ .head _)
     obtain ⟨mt, e1, e2⟩ := zrl (r := mk tbl (m + 113)) (v := .int (ds.length : Int)) (K := λ _ st => Opt (lk zab (putL zab (.int (ds.length : Int)) σ)) λ v => K (zck (.ret v)) st) h1 h1 (by rw [lx]; exact ltx R.le (by decide)) λ a1 b1 => Opt.of (zbh _ _ _) (kk _ _ r (R.grow ((k1.sub λ x m => msx m ▸ .head _).trans (b1.sub λ x m => msx m ▸ .tail _ (.head _))) (T1.keep b1 λ m => (List.nodup_cons.mp R.mn).1 (msx m ▸ .head _)) (by rw [List.map_append]; exact a1) rfl rfl) ((k1.sub λ x m => msx m ▸ .head _).trans (b1.sub λ x m => msx m ▸ .tail _ (.head _))))
     exact Opt.of (f rfl g5) (Opt.of ((oe.keep k1).att (n := zav) (v := .ref e.s) rfl rfl) (Opt.of e1 (Opt.of (zbh _ _ _) e2))))
   (λ w σ S' q => q.elim)
 rw [show m + j + 79 + 20 + es.length + 2 = m + 116 by rw [show m + 116 = m + 79 + 20 + 15 + 2 from rfl, ← ej]; simp only [Nat.add_assoc, Nat.add_comm, Nat.add_left_comm]] at key
 exact key
end
noncomputable def us3 : List (List Nat) := [[117, 58, 49], [117, 58, 50], [117, 58, 51]]
noncomputable def zqz (n : List Nat) (os es : List T2) (ks : List (List Nat)) (c : Nat) (U : List Nat) : List T2 × List (List Nat) := match decide (U = zni) with
 | true => (es, ks)
 | false => match decide (U = []) with
   | true => (es, ks)
   | false => match (es.map (·.1)).contains [c] with
     | true => (es, ks)
     | false => match decide (bu [c] es os = U) with
       | true => (es, ks ++ [[c]])
       | false => match tk ks n c with
         | true => (es, ks)
         | false => (es ++ [([c], U)], ks)
section
variable {S S' : Store} {a : RA} {z o e x : Nd} {ds : List Nd} {rs oi ei is : List Nat} {os es ps : List T2} {ks : List (List Nat)} {K : KV} {KK : KX} {p U : List Nat} {c N i bud : Nat} {σ σ' : zaf}
theorem Rs.weak (R : Rs S a z o e ds rs oi ei os es ks (bud + 1)) : Rs S a z o e ds rs oi ei os es ks bud := { R with le0 := ltx (Nat.le_succ _) R.le0, ld0 := ltx (Nat.le_succ _) R.ld0, lk0 := ltx (Nat.le_succ _) R.lk0 }
theorem Rs.keptL {v : List Nat} (R : Rs S a z o e ds rs oi ei os es ks (bud + 1)) (kp : Kept [a.k2] S S') (h : Lies S' a.k2 (.list ((ks ++ [v]).map .str))) : Rs S' a z o e ds rs oi ei os es (ks ++ [v]) bud :=
 have n : ∀ {l}, l ∈ [a.oL, a.hL, a.kL, z.s, o.s, e.a] → l ∉ [a.k2] := λ h m => R.md _ h (msx m ▸ .tail _ (.tail _ (.head _)))
 have q := (List.nodup_append (l₁ := [a.L, e.s]) (l₂ := [a.k2])).mp R.mn
 { R with r := R.r.keep kp, tr := R.tr.keep kp λ m => q.2.2 _ (.head _) _ (.head _) (msx m), op := kp.at' R.op λ _ => n (.head _), hc := kp.at' R.hc λ _ => n (.tail _ (.head _)), kp := kp.at' R.kp λ _ => n (.tail _ (.tail _ (.head _))), kk := h
          zs := kp.at' R.zs λ _ => n (.tail _ (.tail _ (.tail _ (.head _)))), hos := kp.at' R.hos λ _ => n (.tail _ (.tail _ (.tail _ (.tail _ (.head _))))), hes := kp.at' R.hes λ _ m => q.2.2 _ (.tail _ (.head _)) _ (.head _) (msx m)
          ea := kp.at' R.ea λ _ => n (.tail _ (.tail _ (.tail _ (.tail _ (.tail _ (.head _)))))), le0 := ltx (Nat.le_succ _) R.le0, ld0 := ltx (Nat.le_succ _) R.ld0
          lk0 := by have := R.lk0; rw [List.length_append]; exact (Nat.add_right_comm _ 1 bud) ▸ this }
theorem zM6 (R : Rs S a z o e ds rs oi ei os es ks (bud + 1)) (hU : U ∈ us3) (hb : (es.map (·.1)).contains [c] = false) (m : Nat) (k : ∀ S' x r, Rs S' a z o e (ds ++ [x]) (rs ++ [r]) oi (ei ++ [ds.length]) os (es ++ [([c], U)]) ks bud → Kept [a.L, e.s] S S' → K .none S') : (mk tbl (m + 160)).callv 0 (.old 416) [.ref a.r, .str [c], .str U] S K := by
 rw [zbo (n := m + 159) (b := [(zaa, .ref a.r), (zad, .str [c]), (zar, .str U)]) fnR.2.2.1 rfl]
 refine (zHy tbl (m + 120) S _ (.ref a.r) c U).mpr (zL6 hU (m + 126) λ S1 k1 => Nk.of (decide_eq_false λ e => ?_) ?_)
 · rw [e] at hU
   exact absurd hU (of_decide_eq_true rfl)
 · have R1 := R.keep k1
   exact Opt.of (R1.r.att (n := zac) (v := .ref a.t) rfl rfl) (Opt.of (R1.tr.mth rfl rfl) (Opt.of (R1.mth rfl rfl) (zm2 R1 (m + 132) (zM4 R1 hb (m + 34) λ S2 x r R2 k2 => k S2 x r R2 ((k1.sub λ _ m => nomatch m).trans k2)))))
theorem zLp (R : Rs S a z o e ds rs oi ei os es ks (bud + 1)) (hn : nms.contains [c] = false) (he : e.n ∈ zBq) (hU : U = zni ∨ U = [] ∨ U ∈ us3) (m : Nat)
   (k : ∀ S' ds' rs' ei', Rs S' a z o e ds' rs' oi ei' os (zqz e.n os es ks c U).1 (zqz e.n os es ks c U).2 bud → Kept [a.L, e.s, a.k2] S S' → K .none S') : (mk tbl (m + 220)).callv 0 (.old 433) [.ref a.r, .str [c], .str U] S K := by
 rw [zbo (n := m + 219) (b := [(zaa, .ref a.r), (zad, .str [c]), (zar, .str U)]) fnR.2.2.2.2.2.1 rfl]
 refine (zHo tbl (m + 180) S _ (.ref a.r) c U).mpr (Opt.of (R.mth rfl rfl) (zLb R (m + 186) ?_))
 unfold zqz at k
 cases h1 : decide (U = zni) with
 | true => rw [h1] at k; exact k _ _ _ _ R.weak Kept.refl
 | false =>
   rw [h1] at k
   cases h2 : decide (U = []) with
   | true => rw [h2] at k; exact k _ _ _ _ R.weak Kept.refl
   | false =>
     rw [h2] at k
     refine Opt.of (R.mth rfl rfl) (zF6 R (m + 131) λ S1 k1 => ?_)
     have s1 : Kept [a.L, e.s, a.k2] S S1 := k1.sub λ _ m => nomatch m
     have R1 := R.keep k1
     cases h3 : (es.map (·.1)).contains [c] with
     | true => rw [h3] at k; exact Opt.of rfl (k _ _ _ _ R1.weak s1)
     | false =>
       rw [h3] at k
       refine Opt.of rfl (Opt.of (R1.mth rfl rfl) (zLl (p := [c]) R1 (λ h => nomatch (List.cons.inj (show [c] = [120, 109, 108] from h)).2) (m + 72) λ S2 k2 => Opt.of (a := decide (bu [c] es os = U)) rfl ?_))
       have s2 : Kept [a.L, e.s, a.k2] S S2 := s1.trans (k2.sub λ _ m => nomatch m)
       have R2 := R1.keep k2
       cases h4 : decide (bu [c] es os = U) with
       | true =>
         rw [h4] at k
         obtain ⟨mt, e1, e2⟩ := zrl (r := mk tbl (m + 212)) (v := .str [c]) (K := λ _ st => K (zck (.ret .none)) st) R2.kk R2.kk (by rw [List.length_map]; exact ltx (ltx (zft _ _) R2.lk0) (by decide)) λ a1 b1 => k _ _ _ _ (R2.keptL b1 (by rw [List.map_append]; exact a1)) (s2.trans (b1.sub λ x m => msx m ▸ .tail _ (.tail _ (.head _))))
         exact Opt.of (R2.r.att (n := zev) (v := .ref a.kL) rfl rfl) (Opt.of (znc R2.kp (n := 2) rfl rfl) (Opt.of e1 e2))
       | false =>
         rw [h4] at k
         refine Opt.of (R2.mth rfl rfl) (zLx R2 hn h3 he (m + 59) λ S3 k3 => Opt.of rfl ?_)
         have s3 : Kept [a.L, e.s, a.k2] S S3 := s2.trans (k3.sub λ _ m => nomatch m)
         have R3 := R2.keep k3
         cases h5 : tk ks e.n c with
         | true => rw [h5] at k; exact k _ _ _ _ R3.weak s3
         | false =>
           rw [h5] at k
           have hU : U ∈ us3 := hU.elim (λ e => absurd (decide_eq_true e) (by rw [h1]; exact Bool.noConfusion)) λ h => h.elim (λ e => absurd (decide_eq_true e) (by rw [h2]; exact Bool.noConfusion)) id
           exact Opt.of (R3.mth rfl rfl) (zM6 R3 hU h3 (m + 49) λ S4 x r R4 k4 => k _ _ _ _ R4 (s3.trans (k4.sub λ x m => by rcases List.mem_cons.mp m with m | m; exact m ▸ .head _; exact msx m ▸ .tail _ (.head _))))
end
noncomputable def zty (dd : List T2) (c : Nat) (U : List Nat) : List T2 := match decide (U = []) || decide (U = zni) with
 | true => dd
 | false => match (dd.map (·.1)).contains [c] with
   | true => dd
   | false => dd ++ [([c], U)]
noncomputable def liB (os es : List T2) (ks : List (List Nat)) (nm : List Nat) (dd : List T2) (c : Nat) : Bool := match lkS [c] dd with
 | some u => match lkS [c] es with
   | some w => decide (w = u)
   | none => match lkS [c] os with
     | some w => decide (w = u) && tk ks nm c
     | none => false
 | none => (lkS [c] es).isNone && !tk ks nm c
section
variable {os es dd : List T2} {ks : List (List Nat)} {nm U u : List Nat} {c d : Nat} {p : List Nat}
theorem zCm : ∀ (l : List T2), (l.map (·.1)).contains p = (lkS p l).isSome
 | [] => rfl
 | q :: l => by
   rw [List.map_cons, List.contains_cons]
   show (p == q.1 || _) = (if q.1 = p then some q.2 else lkS p l).isSome
   by_cases e : q.1 = p
   · rw [if_pos e, e, beq_self_eq_true]; rfl
   · rw [if_neg e, beq_eq_false_iff_ne.mpr (Ne.symm e)]; exact zCm l
theorem zx3 {x v : List Nat} (n : x ≠ p) : ∀ (l : List T2), lkS p (l ++ [(x, v)]) = lkS p l
 | [] => by show (if x = p then _ else _) = _; rw [if_neg n]
 | q :: l => by
   show (if q.1 = p then some q.2 else lkS p (l ++ [(x, v)])) = if q.1 = p then some q.2 else lkS p l
   rw [zx3 n l]
theorem zqm (h : c ≠ d) : [c] ≠ [d] := λ e => h (List.cons.inj e).1
theorem zM0 (h : c ≠ d) : tk (ks ++ [[c]]) nm d = tk ks nm d := by
 unfold tk
 rw [List.contains_append]
 have : ([[c]] : List (List Nat)).contains [d] = false := by
   rw [List.contains_cons, beq_eq_false_iff_ne.mpr (zqm h).symm]; rfl
 rw [this, Bool.or_false]
theorem zHn : tk (ks ++ [[c]]) nm c = true := by
 unfold tk
 have : (ks ++ [[c]]).contains [c] = true := List.contains_iff_mem.mpr (List.mem_append_right _ (.head _))
 rw [this]; rfl
theorem zg3 {G : List T2 × List (List Nat) → Prop} (h0 : G (es, ks)) (h1 : G (es, ks ++ [[c]])) (h2 : U ≠ [] → (es.map (·.1)).contains [c] = false → G (es ++ [([c], U)], ks)) : G (zqz nm os es ks c U) := by
 unfold zqz
 cases decide (U = zni) with
 | true => exact h0
 | false =>
   cases q : decide (U = []) with
   | true => exact h0
   | false =>
     cases r : (es.map (·.1)).contains [c] with
     | true => exact h0
     | false =>
       cases decide (bu [c] es os = U) with
       | true => exact h1
       | false =>
         cases tk ks nm c with
         | true => exact h0
         | false => exact h2 (of_decide_eq_false q) r
theorem zky {G : List T2 → Prop} (h0 : G dd) (h1 : (dd.map (·.1)).contains [c] = false → G (dd ++ [([c], U)])) : G (zty dd c U) := by
 unfold zty
 cases decide (U = []) || decide (U = zni) with
 | true => exact h0
 | false =>
   cases r : (dd.map (·.1)).contains [c] with
   | true => exact h0
   | false => exact h1 r
theorem zLd (n : c ≠ d) : liB os (zqz nm os es ks c U).1 (zqz nm os es ks c U).2 nm (zty dd c U) d = liB os es ks nm dd d := by
 have h1 : lkS [d] (zqz nm os es ks c U).1 = lkS [d] es := zg3 (G := λ q => lkS [d] q.1 = lkS [d] es) rfl rfl λ _ _ => zx3 (zqm n) es
 have h2 : tk (zqz nm os es ks c U).2 nm d = tk ks nm d := zg3 (G := λ q => tk q.2 nm d = tk ks nm d) rfl (zM0 n) λ _ _ => rfl
 have h3 : lkS [d] (zty dd c U) = lkS [d] dd := zky (G := λ q => lkS [d] q = lkS [d] dd) rfl λ _ => zx3 (zqm n) dd
 unfold liB
 rw [h1, h2, h3]
theorem zMd (h : liB os es ks nm dd c = true) : liB os (zqz nm os es ks c U).1 (zqz nm os es ks c U).2 nm (zty dd c U) c = true := by
 unfold zqz zty
 rw [zCm, zCm]
 cases h1 : decide (U = zni) with
 | true => rw [Bool.or_true]; exact h
 | false =>
   cases h2 : decide (U = []) with
   | true => exact h
   | false =>
     show liB os (match (lkS [c] es).isSome with | true => (es, ks) | false => _).1 (match (lkS [c] es).isSome with | true => (es, ks) | false => _).2 nm (match (lkS [c] dd).isSome with | true => dd | false => dd ++ [([c], U)]) c = true
     have H := h
     unfold liB at H
     cases h3 : lkS [c] es with
     | some w =>
       rw [h3] at H
       cases h4 : lkS [c] dd with
       | some u => exact h
       | none => rw [h4] at H; exact nb H
     | none =>
       rw [h3] at H
       have eb : bu [c] es os = match lkS [c] os with | some u => u | none => [] := by unfold bu; rw [h3] <;> rfl
       cases h4 : lkS [c] dd with
       | some u =>
         rw [h4] at H
         cases h5 : lkS [c] os with
         | none => rw [h5] at H; exact nb H
         | some w =>
           rw [h5] at H
           refine zbf H λ H1 H2 => ?_
           show liB os (match decide (bu [c] es os = U) with | true => (es, ks ++ [[c]]) | false => match tk ks nm c with | true => (es, ks) | false => (es ++ [([c], U)], ks)).1 (match decide (bu [c] es os = U) with | true => (es, ks ++ [[c]]) | false => match tk ks nm c with | true => (es, ks) | false => (es ++ [([c], U)], ks)).2 nm dd c = true
           rw [H2]
           cases decide (bu [c] es os = U) with
           | false => exact h
           | true =>
             unfold liB
             rw [h4, h3, h5]
             show (decide (w = u) && tk (ks ++ [[c]]) nm c) = true
             rw [H1, zHn]; rfl
       | none =>
         rw [h4] at H
         refine zbf H λ _ H2 => ?_
         have H2 : tk ks nm c = false := by cases q : tk ks nm c with | false => rfl | true => rw [q] at H2; cases H2
         show liB os (match decide (bu [c] es os = U) with | true => (es, ks ++ [[c]]) | false => match tk ks nm c with | true => (es, ks) | false => (es ++ [([c], U)], ks)).1 (match decide (bu [c] es os = U) with | true => (es, ks ++ [[c]]) | false => match tk ks nm c with | true => (es, ks) | false => (es ++ [([c], U)], ks)).2 nm (dd ++ [([c], U)]) c = true
         rw [H2, eb]
         have ed : lkS [c] (dd ++ [([c], U)]) = some U := (zju h4).trans (if_pos rfl)
         cases h5 : decide ((match lkS [c] os with | some u => u | none => []) = U) with
         | false =>
           unfold liB
           rw [ed]
           show (match lkS [c] (es ++ [([c], U)]) with | some w => decide (w = U) | none => _) = true
           rw [(zju h3).trans (if_pos rfl)]
           exact decide_eq_true rfl
         | true =>
           unfold liB
           rw [ed]
           show (match lkS [c] es with | some w => decide (w = U) | none => match lkS [c] os with | some w => decide (w = U) && tk (ks ++ [[c]]) nm c | none => false) = true
           rw [h3]
           cases h6 : lkS [c] os with
           | none => rw [h6] at h5; exact absurd (of_decide_eq_true h5).symm (of_decide_eq_false h2)
           | some w => rw [h6] at h5; show (decide (w = U) && _) = true; rw [h5, zHn]; rfl
structure Inv2 (os es : List T2) (ks : List (List Nat)) (nm : List Nat) (dd : List T2) : Prop where
 li : ∀ c ∈ [112, 113, 114], liB os es ks nm dd c = true
 ne : (es.map (·.1)).Nodup
 nd : (dd.map (·.1)).Nodup
 dn : ∀ q ∈ dd, ∃ c ∈ [112, 113, 114], q.1 = [c]
 uv : ∀ q ∈ es, q.2 ≠ []
theorem zx7 {l : List T2} {q : T2} (h : (l.map (·.1)).Nodup) (n : (l.map (·.1)).contains q.1 = false) : ((l ++ [q]).map (·.1)).Nodup := by
 rw [List.map_append]
 refine List.nodup_append.mpr ⟨h, List.pairwise_singleton _ _, λ x hx y hy e => ?_⟩
 cases msx hy
 rw [e] at hx
 rw [List.contains_iff_mem.mpr hx] at n
 cases n
theorem Inv2.step (I : Inv2 os es ks nm dd) (hc : c ∈ [112, 113, 114]) : Inv2 os (zqz nm os es ks c U).1 (zqz nm os es ks c U).2 nm (zty dd c U) where
 li := λ d hd => by
   by_cases e : c = d
   · cases e; exact zMd (I.li c hc)
   · rw [zLd e]; exact I.li d hd
 ne := zg3 (G := λ q => (q.1.map (·.1)).Nodup) I.ne I.ne λ _ h => zx7 I.ne h
 nd := zky (G := λ q => (q.map (·.1)).Nodup) I.nd λ h => zx7 I.nd h
 dn := zky (G := λ l => ∀ q ∈ l, ∃ c ∈ [112, 113, 114], q.1 = [c]) I.dn λ _ q hq => by
   rcases List.mem_append.mp hq with m | m
   · exact I.dn q m
   · exact ⟨c, hc, (msx m) ▸ rfl⟩
 uv := zg3 (G := λ l => ∀ q ∈ l.1, q.2 ≠ []) I.uv I.uv λ hU _ q hq => by
   rcases List.mem_append.mp hq with m | m
   · exact I.uv q m
   · exact (msx m) ▸ hU
end
noncomputable def wNs : List Nat := [110, 97, 109, 101, 115, 112, 97, 99, 101]
noncomputable def sel {α : Type} (b : Bool) (x y : α) : α := match b with | true => x | false => y
noncomputable def nsO (c u : List Nat) (i : Nat) : List AO := [.fields (Nd.es ⟨wNs, c, [], c, u, .int 1, i + 2, i + 3, i + 4⟩), .inst 1447 i, .list [], .list [], .list []]
noncomputable def caO (q : Bool) : List AO := [.cell none, .cell none, .fields [(zaz, .ref 4)], .inst 1636 2, .list ([.ref 6, .ref 19, .ref 25] ++ sel q [.ref 30] []),
 .fields (Nd.es ⟨[114, 111, 111, 116], [], [], [], [], .none, 7, 8, 9⟩), .inst 1447 5, .list [.int 1], .list [], .list [],
 .fields [(zac, .ref 3), (zjh, .int 0), (zer, .ref 12), (zbc, .ref 13), (zev, .ref 15), (zi8, .ref 16), (zd6, .ref 17)], .inst 492 10, .list [.int 0, .int 1], .list [.bool true, .bool false], .list [], .list [.ref 14, .ref 23], .list [.int 0, .int 0], .list [],
 .fields (Nd.es ⟨wEl, [111], [], [111], [], .int 0, 20, 21, 22⟩), .inst 1447 18, .list [], .list [], .list (.int 2 :: sel q [.int 3] []), .list []] ++ nsO [112] [117, 58, 49] 24 ++ sel q (nsO [113] [117, 58, 50] 29) []
noncomputable def rnA : List Nat := [0, 1, 2, 3, 4, 5, 6, 7, 8, 9, 10, 11, 12, 13, 14, 15, 16, 17, 21, 22, 23, 24, 25, 26, 44, 45, 46, 47, 48]
noncomputable def rnQ : List Nat := [0, 1, 2, 3, 4, 5, 6, 7, 8, 9, 10, 11, 12, 13, 14, 15, 16, 17, 18, 19, 20, 21, 22, 23, 24, 25, 26, 27, 28, 44, 45, 46, 47, 48]
noncomputable def rnO (rn : List Nat) (l : List AO) : List (Option AO) := l.map λ o => some (mO (λ i => (nth rn i).getD 0) o)
noncomputable def tL (src t r : AV) : zaf := [(zae, src), (zac, t), (zbv, r)]
noncomputable def opV (src : Nat) : FL × zaf × Bool × List (Option AO) := (.next, tL (.ext src) (.ref 3) (.ref 11), true, rnO rnA (caO false))
theorem zJd (src : Nat) : (mk tbl 200).execs 0 (tG 0 1) [(zae, .ext src)] (zas.body.take 4) (Store.ofList [.cell none, .cell none]) (λ fl σ s => (fl, σ, Nat.ble 49 s.n, rnA.map s.get) = opV src) = (opV src = opV src) := by kernel_rfl
noncomputable def opQ (src : Nat) : FL × zaf × Bool × List (Option AO) := (.next, tL (.ext src) (.ref 3) (.ref 11), true, rnO rnQ (caO true))
theorem zMw (src : Nat) : (mk tbl 200).execs 0 (tG 0 1) (tL (.ext src) (.ref 3) (.ref 11)) qB (Store.ofList (caO false)) (λ fl σ s => (fl, σ, Nat.ble 49 s.n, rnQ.map s.get) = opQ src) = (opQ src = opQ src) := by kernel_rfl
noncomputable def dq (q : Bool) : Nat := sel q 5 0
noncomputable def znj (q : Bool) (P U : List Nat) : Bool := !decide (U = []) && !(decide (P = [112, 58]) && decide (U = [117, 58, 49])) && !(q && decide (P = [113, 58]) && decide (U = [117, 58, 50]))
noncomputable def nmP (P U : List Nat) : List Nat := match decide (U = []) with | true => [101] | false => P ++ [101]
noncomputable def zyf (P : List Nat) : List Nat := P.take 1
noncomputable def dd0 (P U : List Nat) : List T2 := match decide (P = []) || decide (U = []) with | true => [] | false => [(zyf P, U)]
noncomputable def pD (q w : Bool) : Nat := dq q + sel w 46 41
noncomputable def cbO (q w : Bool) (nm U x : List Nat) (dd : List T2) : List (Nat × AO) := [(0, .cell (some (.ref (pD q w)))), (1, .cell none), (2, .fields [(zaz, .ref 4)]), (3, .inst 1636 2), (4, .list ([.ref 6, .ref 19, .ref 25] ++ sel q [.ref 30] [] ++ [.ref (dq q + 33)] ++ sel w [.ref (dq q + 42)] [])),
 (5, .fields (Nd.es ⟨[114, 111, 111, 116], [], [], [], [], .none, 7, 8, 9⟩)), (6, .inst 1447 5), (9, .list []), (10, .fields [(zac, .ref 3), (zjh, .int 0), (zer, .ref 12), (zbc, .ref 13), (zev, .ref 15), (zi8, .ref 16), (zd6, .ref 17)]), (11, .inst 492 10),
 (12, .list [.int 0, .int 1, .int (sel q 4 3 : Nat)]), (13, .list [.bool true, .bool true, .bool false]), (15, .list [.ref 14, .ref 23, .ref (dq q + 37)]), (18, .fields (Nd.es ⟨wEl, [111], [], [111], [], .int 0, 20, 21, 22⟩)), (19, .inst 1447 18), (22, .list (.int 2 :: sel q [.int 3] [])),
 (24, .fields (Nd.es ⟨wNs, [112], [], [112], [117, 58, 49], .int 1, 26, 27, 28⟩)), (25, .inst 1447 24), (dq q + 32, .fields (Nd.es ⟨wEl, nm, U, [101], [], .int 1, dq q + 34, dq q + 35, dq q + 36⟩)), (dq q + 33, .inst 1447 (dq q + 32)), (dq q + 35, .list []), (dq q + 36, .list (sel w [.int (sel q 5 4 : Nat)] [])), (dq q + 37, .list []),
 (pD q w, .dict (dd.map λ p => (p.1, .str p.2)))] ++ sel q [(29, .fields (Nd.es ⟨wNs, [113], [], [113], [117, 58, 50], .int 1, 31, 32, 33⟩)), (30, .inst 1447 29)] [] ++ sel w [(dq q + 41, .fields (Nd.es ⟨wNs, x, [], x, U, .int (sel q 4 3 : Nat), dq q + 43, dq q + 44, dq q + 45⟩)), (dq q + 42, .inst 1447 (dq q + 41))] []
noncomputable def elO (q : Bool) (P U : List Nat) : List (Nat × AO) := cbO q (znj q P U) (nmP P U) U (zyf P) (dd0 P U)
noncomputable def elL (src t r e : AV) (P U : List Nat) : zaf := [(zae, src), (zac, t), (zbv, r), (zad, .str P), (zar, .str U), (zaq, e)]
noncomputable def elV (src : Nat) (q : Bool) (P U : List Nat) : FL × zaf × Nat × List (Option AO) := (.next, elL (.ext src) (.ref 3) (.ref 11) (.int (sel q 4 3 : Nat)) P U, dq q + sel (znj q P U) 48 43, (elO q P U).map λ p => some p.2)
noncomputable def elR (src : Nat) (q : Bool) (P U : List Nat) : Prop := (mk tbl 200).execs 0 (tG 0 1) [(zae, .ext src), (zac, .ref 3), (zbv, .ref 11), (zad, .str P), (zar, .str U)] ((zas.body.drop 6).take 2) (Store.ofList (caO q)) λ fl σ s => (fl, σ, s.n, (elO q P U).map λ p => s.get p.1) = elV src q P U
theorem zJz (src : Nat) : ([false, true].map λ q => ps4.map λ P => us4.map λ U => elR src q P U) = ([false, true].map λ q => ps4.map λ P => us4.map λ U => elV src q P U = elV src q P U) := by kernel_rfl
noncomputable def bdV (n : Nat) (v : AV) : Bool := match v with
 | .ref i => Nat.blt i n
 | .ext _ => false
 | _ => true
noncomputable def bdO (n : Nat) (o : AO) : Bool := match o with
 | .list xs => xs.all (bdV n)
 | .inst _ d => Nat.blt d n
 | .fields es => es.all λ p => bdV n p.2
 | .cell v => match v with | none => true | some v => bdV n v
 | _ => false
section
variable {S S0 S' s : Store} {f g h : Nat → Nat} {n : Nat} {rn as : List Nat} {l : List AO} {X : List Nat}
theorem zC2 (e : ∀ i, i < n → f (g i) = h i) : ∀ {v : AV}, bdV n v = true → mV f (mV g v) = mV h v
 | .ref i, b => congrArg AV.ref (e i (blx b))
 | .none, _ => rfl
 | .bool _, _ => rfl
 | .int _, _ => rfl
 | .str _, _ => rfl
 | .old _, _ => rfl
 | .bi _, _ => rfl
theorem zFu (e : ∀ i, i < n → f (g i) = h i) {o : AO} (b : bdO n o = true) : mO f (mO g o) = mO h o := by
 cases o with
 | list xs =>
   show AO.list ((xs.map (mV g)).map (mV f)) = .list (xs.map (mV h))
   rw [List.map_map]
   exact congrArg AO.list (List.map_inj_left.mpr λ v hv => zC2 e (List.all_eq_true.mp b v hv))
 | inst C d => exact congrArg (AO.inst C) (e d (blx b))
 | fields es =>
   show AO.fields ((es.map (mP g)).map (mP f)) = .fields (es.map (mP h))
   rw [List.map_map]
   exact congrArg AO.fields (List.map_inj_left.mpr λ p hp => congrArg (Prod.mk p.1) (zC2 e (List.all_eq_true.mp b p hp)))
 | cell v =>
   cases v with
   | none => rfl
   | some v => exact congrArg (λ v => AO.cell (some v)) (zC2 e b)
 | _ => exact nb b
theorem zF9 {as : List Nat} : ∀ {l : List AO}, as.length = l.length → (∀ (i a : Nat) (o : AO), as[i]? = some a → l[i]? = some o → Lies S a (mO h o)) → AtL S h as l := by
 induction as with
 | nil => intro l e k; cases l with | nil => rfl | cons => cases e
 | cons a as ih => intro l e k; cases l with | nil => cases e | cons o l => exact ⟨k 0 a o rfl rfl, ih (Nat.succ.inj e) λ i a o => k (i + 1) a o⟩
theorem zB0 (M : Em f S0 s S) (hg : rn.map s.get = rnO rn l) (hn : ∀ i ∈ rn, i < s.n) (hd : rn.Nodup) (hb : l.all (bdO rn.length) = true) (N : Nat) : AtL S (adr (rn.map f) N) (rn.map f) l ∧ (rn.map f).Nodup := by
 have hl : rn.length = l.length := by rw [← List.length_map (f := s.get), hg]; exact List.length_map _
 refine ⟨zF9 (by rw [List.length_map]; exact hl) λ i a o ha ho => ?_, List.pairwise_map.mpr (hd.imp λ ne e => ne (M.inj _ _ e))⟩
 rw [List.getElem?_map] at ha
 refine zbs ha λ j hj e => ?_
 cases e
 have e1 : s.get j = some (mO (λ i => (nth rn i).getD 0) o) := by
   have := congrArg (·[i]?) hg
   unfold rnO at this
   simp only [List.getElem?_map, hj, ho, Option.map_some] at this
   exact Option.some.inj this
 have := Lies.em M e1 (hn j (List.mem_of_getElem? hj))
 rw [zFu (h := adr (rn.map f) N) (λ k hk => ?_) (List.all_eq_true.mp hb o (List.mem_of_getElem? ho))] at this
 · exact this
 · show f ((nth rn k).getD 0) = (match nth (rn.map f) k with | some a => a | none => _)
   rw [za6, za6, List.getElem?_map, List.getElem?_eq_getElem hk]; rfl
theorem AtL.kept (k : Kept X S S') : ∀ {as : List Nat} {l : List AO}, AtL S h as l → (∀ a ∈ as, a ∉ X) → AtL S' h as l
 | [], _, e, _ => e
 | _ :: _, [], e, _ => e
 | a :: as, o :: l, e, n => ⟨k.at' e.1 λ _ => n a (.head _), AtL.kept k (as := as) (l := l) e.2 λ a m => n a (.tail _ m)⟩
theorem AtL.map {h' : Nat → Nat} : ∀ {as : List Nat} {l : List AO}, AtL S h as l → (∀ o ∈ l, mO h o = mO h' o) → AtL S h' as l
 | [], _, e, _ => e
 | _ :: _, [], e, _ => e
 | a :: as, o :: l, e, n => ⟨n o (.head _) ▸ e.1, AtL.map (as := as) (l := l) e.2 λ o m => n o (.tail _ m)⟩
theorem zNn {α : Type} {F : α → Option AO} {G : α → AO} {l : List α} (h : l.map F = l.map λ p => some (G p)) {j : Nat} {p : α} (e : l[j]? = some p) : F p = some (G p) := List.map_inj_left.mp h p (List.mem_of_getElem? e)
end
noncomputable def zN (f : Nat → Nat) : Nd := ⟨[114, 111, 111, 116], [], [], [], [], .none, f 7, f 8, f 9⟩
noncomputable def oN (f : Nat → Nat) : Nd := ⟨wEl, [111], [], [111], [], .int 0, f 20, f 21, f 22⟩
noncomputable def eN (f : Nat → Nat) (d : Nat) (nm U : List Nat) : Nd := ⟨wEl, nm, U, [101], [], .int 1, f (d + 34), f (d + 35), f (d + 36)⟩
noncomputable def dsN (f : Nat → Nat) (q w : Bool) (nm U x : List Nat) : List Nd := [zN f, oN f, ⟨wNs, [112], [], [112], [117, 58, 49], .int 1, f 26, f 27, f 28⟩] ++ sel q [⟨wNs, [113], [], [113], [117, 58, 50], .int 1, f 31, f 32, f 33⟩] [] ++ [eN f (dq q) nm U] ++ sel w [⟨wNs, x, [], x, U, .int (sel q 4 3 : Nat), f (dq q + 43), f (dq q + 44), f (dq q + 45)⟩] []
noncomputable def rsN (f : Nat → Nat) (q w : Bool) : List Nat := [f 6, f 19, f 25] ++ sel q [f 30] [] ++ [f (dq q + 33)] ++ sel w [f (dq q + 42)] []
noncomputable def aN (f : Nat → Nat) (q : Bool) : RA := ⟨f 11, f 3, f 4, f 12, f 13, f 15, f 14, f 23, f (dq q + 37), f 16, f 17, sel q 4 3⟩
noncomputable def osN (q : Bool) : List T2 := ([112], [117, 58, 49]) :: sel q [([113], [117, 58, 50])] []
noncomputable def esN (w : Bool) (x U : List Nat) : List T2 := sel w [(x, U)] []
theorem zM8 {S S0 s : Store} {f : Nat → Nat} {nm U x : List Nat} {dd : List T2} (M : Em f S0 s S) : ∀ q w, ((cbO q w nm U x dd).map λ p => s.get p.1) = (cbO q w nm U x dd).map (λ p => some p.2) → s.n = dq q + sel w 48 43 →
   Rs S (aN f q) (zN f) (oN f) (eN f (dq q) nm U) (dsN f q w nm U x) (rsN f q w) (2 :: sel q [3] []) (sel w [sel q 5 4] []) (osN q) (esN w x U) [] 6 := by
 have nin : ∀ {A B : List Nat}, (∀ i ∈ A, i ∉ B) → ∀ l ∈ A.map f, l ∉ B.map f := λ h l hl hm => by
   obtain ⟨i, hi, rfl⟩ := List.mem_map.mp hl
   obtain ⟨j, hj, e⟩ := List.mem_map.mp hm
   cases M.inj _ _ e
   exact h _ hi hj
 have ndp : ∀ {A : List Nat}, A.Nodup → (A.map f).Nodup := λ h => List.pairwise_map.mpr (h.imp λ ne e => ne (M.inj _ _ e))
 intro q w hg hn
 have G := λ (j : Nat) {i : Nat} {o : AO} (e : (cbO q w nm U x dd)[j]? = some (i, o)) (l : i < s.n) => Lies.em M (zNn (G := λ p : Nat × AO => p.2) hg e) l
 cases q <;> cases w
 · have ln : ∀ {i}, i < 43 → i < s.n := λ h => hn ▸ h
   exact ⟨⟨_, G 9 rfl (ln (by decide)), G 8 rfl (ln (by decide))⟩, ⟨⟨_, G 3 rfl (ln (by decide)), G 2 rfl (ln (by decide))⟩, G 4 rfl (ln (by decide)), (.cons ⟨_, G 6 rfl (ln (by decide)), G 5 rfl (ln (by decide))⟩ (.cons ⟨_, G 14 rfl (ln (by decide)), G 13 rfl (ln (by decide))⟩ (.cons ⟨_, G 17 rfl (ln (by decide)), G 16 rfl (ln (by decide))⟩ (.cons ⟨_, G 19 rfl (ln (by decide)), G 18 rfl (ln (by decide))⟩ .nil))))⟩,
     G 10 rfl (ln (by decide)), G 11 rfl (ln (by decide)), G 12 rfl (ln (by decide)), G 22 rfl (ln (by decide)), rfl, rfl, G 7 rfl (ln (by decide)), rfl, rfl, G 15 rfl (ln (by decide)), (.cons ⟨_, rfl, rfl, rfl⟩ .nil), rfl, rfl, rfl, G 21 rfl (ln (by decide)), .nil, G 20 rfl (ln (by decide)), blx rfl, blx rfl, blx rfl, blx rfl,
     nin (A := [12, 13, 15, 9, 22, 35]) (B := [4, 36, 37]) (by decide), ndp (A := [4, 36, 37]) (by decide)⟩
 · have ln : ∀ {i}, i < 48 → i < s.n := λ h => hn ▸ h
   exact ⟨⟨_, G 9 rfl (ln (by decide)), G 8 rfl (ln (by decide))⟩, ⟨⟨_, G 3 rfl (ln (by decide)), G 2 rfl (ln (by decide))⟩, G 4 rfl (ln (by decide)), (.cons ⟨_, G 6 rfl (ln (by decide)), G 5 rfl (ln (by decide))⟩ (.cons ⟨_, G 14 rfl (ln (by decide)), G 13 rfl (ln (by decide))⟩ (.cons ⟨_, G 17 rfl (ln (by decide)), G 16 rfl (ln (by decide))⟩ (.cons ⟨_, G 19 rfl (ln (by decide)), G 18 rfl (ln (by decide))⟩ (.cons ⟨_, G 25 rfl (ln (by decide)), G 24 rfl (ln (by decide))⟩ .nil)))))⟩,
     G 10 rfl (ln (by decide)), G 11 rfl (ln (by decide)), G 12 rfl (ln (by decide)), G 22 rfl (ln (by decide)), rfl, rfl, G 7 rfl (ln (by decide)), rfl, rfl, G 15 rfl (ln (by decide)), (.cons ⟨_, rfl, rfl, rfl⟩ .nil), rfl, rfl, rfl, G 21 rfl (ln (by decide)), (.cons ⟨_, rfl, rfl, rfl⟩ .nil), G 20 rfl (ln (by decide)), blx rfl, blx rfl, blx rfl, blx rfl,
     nin (A := [12, 13, 15, 9, 22, 35]) (B := [4, 36, 37]) (by decide), ndp (A := [4, 36, 37]) (by decide)⟩
 · have ln : ∀ {i}, i < 48 → i < s.n := λ h => hn ▸ h
   exact ⟨⟨_, G 9 rfl (ln (by decide)), G 8 rfl (ln (by decide))⟩, ⟨⟨_, G 3 rfl (ln (by decide)), G 2 rfl (ln (by decide))⟩, G 4 rfl (ln (by decide)), (.cons ⟨_, G 6 rfl (ln (by decide)), G 5 rfl (ln (by decide))⟩ (.cons ⟨_, G 14 rfl (ln (by decide)), G 13 rfl (ln (by decide))⟩ (.cons ⟨_, G 17 rfl (ln (by decide)), G 16 rfl (ln (by decide))⟩ (.cons ⟨_, G 25 rfl (ln (by decide)), G 24 rfl (ln (by decide))⟩ (.cons ⟨_, G 19 rfl (ln (by decide)), G 18 rfl (ln (by decide))⟩ .nil)))))⟩,
     G 10 rfl (ln (by decide)), G 11 rfl (ln (by decide)), G 12 rfl (ln (by decide)), G 22 rfl (ln (by decide)), rfl, rfl, G 7 rfl (ln (by decide)), rfl, rfl, G 15 rfl (ln (by decide)), (.cons ⟨_, rfl, rfl, rfl⟩ (.cons ⟨_, rfl, rfl, rfl⟩ .nil)), rfl, rfl, rfl, G 21 rfl (ln (by decide)), .nil, G 20 rfl (ln (by decide)), blx rfl, blx rfl, blx rfl, blx rfl,
     nin (A := [12, 13, 15, 9, 22, 40]) (B := [4, 41, 42]) (by decide), ndp (A := [4, 41, 42]) (by decide)⟩
 · have ln : ∀ {i}, i < 53 → i < s.n := λ h => hn ▸ h
   exact ⟨⟨_, G 9 rfl (ln (by decide)), G 8 rfl (ln (by decide))⟩, ⟨⟨_, G 3 rfl (ln (by decide)), G 2 rfl (ln (by decide))⟩, G 4 rfl (ln (by decide)), (.cons ⟨_, G 6 rfl (ln (by decide)), G 5 rfl (ln (by decide))⟩ (.cons ⟨_, G 14 rfl (ln (by decide)), G 13 rfl (ln (by decide))⟩ (.cons ⟨_, G 17 rfl (ln (by decide)), G 16 rfl (ln (by decide))⟩ (.cons ⟨_, G 25 rfl (ln (by decide)), G 24 rfl (ln (by decide))⟩ (.cons ⟨_, G 19 rfl (ln (by decide)), G 18 rfl (ln (by decide))⟩ (.cons ⟨_, G 27 rfl (ln (by decide)), G 26 rfl (ln (by decide))⟩ .nil))))))⟩,
     G 10 rfl (ln (by decide)), G 11 rfl (ln (by decide)), G 12 rfl (ln (by decide)), G 22 rfl (ln (by decide)), rfl, rfl, G 7 rfl (ln (by decide)), rfl, rfl, G 15 rfl (ln (by decide)), (.cons ⟨_, rfl, rfl, rfl⟩ (.cons ⟨_, rfl, rfl, rfl⟩ .nil)), rfl, rfl, rfl, G 21 rfl (ln (by decide)), (.cons ⟨_, rfl, rfl, rfl⟩ .nil), G 20 rfl (ln (by decide)), blx rfl, blx rfl, blx rfl, blx rfl,
     nin (A := [12, 13, 15, 9, 22, 40]) (B := [4, 41, 42]) (by decide), ndp (A := [4, 41, 42]) (by decide)⟩
noncomputable def ddO (dd : List T2) : AO := .dict (dd.map λ p => (p.1, .str p.2))
noncomputable def zMm : AO → Bool | .dict _ => true | .cell _ => true | _ => false
section
variable {S S0 S' : Store} {a : RA} {z o e : Nd} {ds : List Nd} {rs oi ei : List Nat} {os es dd : List T2} {ks : List (List Nat)} {src i0 i1 dL bud c : Nat} {U : List Nat} {σ : zaf} {KK : KX} {X : List Nat}
theorem Lies.noD {d : List (List Nat × AV)} {o' : AO} {j : Nat} {q : AO} (hd : Lies S dL (.dict d)) (h : Lies S j q) (n : zMm q = false) : Lies (S.set dL o') j q := h.setC λ e => by
 cases e
 cases hd.1.symm.trans h.1
 cases n
theorem Lies.noDc {d : List (List Nat × AV)} {o' : AO} {j : Nat} {v : Option AV} (hd : Lies S dL (.dict d)) (h : Lies S j (.cell v)) : Lies (S.set dL o') j (.cell v) := h.setC λ e => by
 cases e
 cases hd.1.symm.trans h.1
def Pres (S S' : Store) : Prop := ∀ j q, Lies S j q → zMm q = false → Lies S' j q
theorem Ob.pres {r C : Nat} {fs : List (Nat × AV)} (p : Pres S S') (h : Ob S r C fs) : Ob S' r C fs := h.elim λ x h => ⟨x, p _ _ h.1 rfl, p _ _ h.2 rfl⟩
theorem Rs.pres (p : Pres S S') (R : Rs S a z o e ds rs oi ei os es ks bud) : Rs S' a z o e ds rs oi ei os es ks bud :=
 { R with r := R.r.pres p, tr := ⟨R.tr.o.pres p, p _ _ R.tr.l rfl, R.tr.r.mono λ _ _ h => h.pres p⟩, op := p _ _ R.op rfl, hc := p _ _ R.hc rfl, kp := p _ _ R.kp rfl, kk := p _ _ R.kk rfl, zs := p _ _ R.zs rfl, hos := p _ _ R.hos rfl, hes := p _ _ R.hes rfl, ea := p _ _ R.ea rfl }
theorem Pres.set {d : List (List Nat × AV)} (hd : Lies S dL (.dict d)) (o' : AO) : Pres S (S.set dL o') := λ _ _ h n => hd.noD h n
theorem Pres.kept (k : Kept [] S S') : Pres S S' := λ _ _ h _ => k.at' h λ _ m => nomatch m
theorem Pres.trans {S2 : Store} (p : Pres S S') (q : Pres S' S2) : Pres S S2 := λ _ _ h n => q _ _ (p _ _ h n) n
noncomputable def zLe (a : RA) (z o e : Nd) : List Nat := [a.L, e.s, a.k2, a.oL, a.hL, a.kL, z.s, o.s, e.a]
theorem Rs.keepX (R : Rs S a z o e ds rs oi ei os es ks bud) (k : Kept X S S') (n : ∀ l ∈ zLe a z o e, l ∉ X) : Rs S' a z o e ds rs oi ei os es ks bud :=
 { R with r := R.r.keep k, tr := R.tr.keep k (n _ (.head _)), hes := k.at' R.hes λ _ => n _ (.tail _ (.head _)), kk := k.at' R.kk λ _ => n _ (.tail _ (.tail _ (.head _))), op := k.at' R.op λ _ => n _ (.tail _ (.tail _ (.tail _ (.head _)))), hc := k.at' R.hc λ _ => n _ (.tail _ (.tail _ (.tail _ (.tail _ (.head _))))), kp := k.at' R.kp λ _ => n _ (.tail _ (.tail _ (.tail _ (.tail _ (.tail _ (.head _)))))), zs := k.at' R.zs λ _ => n _ (.tail _ (.tail _ (.tail _ (.tail _ (.tail _ (.tail _ (.head _))))))), hos := k.at' R.hos λ _ => n _ (.tail _ (.tail _ (.tail _ (.tail _ (.tail _ (.tail _ (.tail _ (.head _)))))))), ea := k.at' R.ea λ _ => n _ (.tail _ (.tail _ (.tail _ (.tail _ (.tail _ (.tail _ (.tail _ (.tail _ (.head _)))))))))}
structure TeF (S0 S : Store) (src i0 i1 dL : Nat) (a : RA) (z o e : Nd) (ds : List Nd) (rs oi ei : List Nat) (os es : List T2) (ks : List (List Nat)) (bud : Nat) (dd : List T2) : Prop where
 R : Rs S a z o e ds rs oi ei os es ks bud
 sr : IsSrc S src
 c0 : Lies S i0 (.cell (some (.ref dL)))
 c1 : Lies S i1 (.cell none)
 d : Lies S dL (ddO dd)
 I : Inv2 os es ks e.n dd
 nm : e.n ∈ zBq
 nl : ∀ l ∈ zLe a z o e, S0.n ≤ l
 ls : src < S0.n
 kp : Kept [src] S0 S
 n0 : S0.n ≤ i0
 n1 : S0.n ≤ i1
 nd : S0.n ≤ dL
 ld : dd.length + bud ≤ 20
theorem TeF.srcX (F : TeF S0 S src i0 i1 dL a z o e ds rs oi ei os es ks bud dd) : ∀ l ∈ zLe a z o e, l ∉ [src] := λ l h m => absurd F.ls (Nat.not_lt.mpr (msx m ▸ F.nl l h))
theorem TeF.keep (F : TeF S0 S src i0 i1 dL a z o e ds rs oi ei os es ks bud dd) (k : Kept [src] S S') (h : IsSrc S' src) : TeF S0 S' src i0 i1 dL a z o e ds rs oi ei os es ks bud dd :=
 { F with R := F.R.keepX k F.srcX, sr := h, c0 := k.at' F.c0 nb, c1 := k.at' F.c1 nb, d := k.at' F.d nb, kp := F.kp.trans k }
theorem IsSrc.plus (h : IsSrc S src) (q : AO) : IsSrc (S.add q) src := h.keep (Kept.add (X := []) _) λ m => nomatch m
theorem lkD {l : List T2} : (l.map λ p => (p.1, AV.str p.2)).map (·.1) = l.map (·.1) := by rw [List.map_map]; rfl
structure LkF (σ : zaf) (src r t ie : Nat) (u : List Nat) : Prop where
 s : lk zae σ = some (.ref src)
 r : lk zbv σ = some (.ref r)
 t : lk zac σ = some (.ref t)
 e : lk zaq σ = some (.int ie)
 u : lk zar σ = some (.str u)
theorem LkF.put {src r t ie : Nat} {u : List Nat} (h : LkF σ src r t ie u) (x : Nat) (v : AV) (b : (Nat.beq x zae || Nat.beq x zbv || Nat.beq x zac || Nat.beq x zaq || Nat.beq x zar) = false) : LkF (putL x v σ) src r t ie u := by
 rw [Bool.or_eq_false_iff, Bool.or_eq_false_iff, Bool.or_eq_false_iff, Bool.or_eq_false_iff] at b
 exact ⟨(zdw v b.1.1.1.1 σ).trans h.s, (zdw v b.1.1.1.2 σ).trans h.r, (zdw v b.1.1.2 σ).trans h.t, (zdw v b.1.2 σ).trans h.e, (zdw v b.2 σ).trans h.u⟩
theorem zr9 {n : List Nat} {v : AV} : ∀ {l : List (List Nat × AV)}, (l.map (·.1)).contains n = false → zlp n v l = l ++ [(n, v)]
 | [], _ => rfl
 | (m, w) :: l, h => by
   rw [List.map_cons, List.contains_cons, Bool.or_eq_false_iff] at h
   show (if m = n then _ else (m, w) :: zlp n v l) = _
   rw [if_neg λ e => absurd h.1 (by rw [show (m, w).1 = n from e, beq_self_eq_true]; exact Bool.noConfusion), zr9 h.2]; rfl
theorem zD8 : (us5.all λ U => two.contains U == (decide (U = []) || decide (U = zni)) && (decide (U = zni) || decide (U = []) || us3.contains U)) = true := by kernel_rfl
theorem zCr : (pqr.all λ p => match p with | [c] => !nms.contains [c] && [112, 113, 114].contains c | _ => false) = true := by kernel_rfl
theorem zLj {u : List Nat} (F : TeF S0 S src i0 i1 dL a z o e ds rs oi ei os es ks (bud + 1) dd) (L : LkF σ src a.r a.t a.ie u) (m : Nat)
   (k : ∀ S' σ' ds' rs' ei' es' ks' dd', TeF S0 S' src i0 i1 dL a z o e ds' rs' oi ei' os es' ks' bud dd' → LkF σ' src a.r a.t a.ie u → KK .next σ' S') : (mk tbl (m + 250)).execs 0 (tG i0 i1) σ [tu1, tu2, tu3] S KK := by
 have ns : ∀ {S : Store}, IsSrc S src → S.n ≠ src := λ h e => h.elim λ _ h => h.elim λ _ h => absurd h.2 (Nat.not_lt.mpr (Nat.le_of_eq e))
 refine zce ((zFk tbl (m + 219) S _ σ (tG i0 i1)).mpr (Opt.of L.s (zs1 (F.sr.plus _) (Lies.new S _) (ns F.sr) (by decide) (by decide) (m + 185) λ v S1 hv h1 k1 => Opt.of L.s (zs1 (h1.plus _) (Lies.new S1 _) (ns h1) (by decide) (by decide) (m + 184) λ w S2 hw h2 k2 => ?_))))
 obtain ⟨p, hp, rfl⟩ := List.mem_map.mp hv
 obtain ⟨U, hU, rfl⟩ := List.mem_map.mp hw
 refine Opt.of (a := [.str p, .str U]) (by unfold Store.tp; rw [(Lies.new S2 _).1]; rfl) (Opt.of rfl ?_)
 have pq := List.all_eq_true.mp zCr p hp
 match p, pq with
 | [c], pq => ?_
 refine zbf pq λ nc hc => ?_
 have nc : nms.contains [c] = false := by cases q : nms.contains [c] with | false => rfl | true => rw [q] at nc; cases nc
 have hc : c ∈ [112, 113, 114] := List.contains_iff_mem.mp hc
 refine zbf (List.all_eq_true.mp zD8 U hU) λ tw hU3 => ?_
 have tw := beq_iff_eq.mp tw
 have hU3 : U = zni ∨ U = [] ∨ U ∈ us3 := by
   rcases Bool.or_eq_true_iff.mp hU3 with h | h
   · rcases Bool.or_eq_true_iff.mp h with h | h
     · exact .inl (of_decide_eq_true h)
     · exact .inr (.inl (of_decide_eq_true h))
   · exact .inr (.inr (List.contains_iff_mem.mp h))
 have F3 := F.keep ((((Kept.add _).trans k1).trans ((Kept.add _).trans k2)).trans (Kept.add (.tup [.str [c], .str U]))) (h2.plus _)
 have L3 := (L.put za4 (.str [c]) rfl).put zcb (.str U) rfl
 have lt : lk za4 (putL zcb (.str U) (putL za4 (.str [c]) σ)) = some (.str [c]) := (zdw _ rfl _).trans (zbh _ _ _)
 have lu : lk zcb (putL zcb (.str U) (putL za4 (.str [c]) σ)) = some (.str U) := zbh _ _ _
 show (mk tbl (m + 249)).execs 0 (tG i0 i1) (putL zcb (.str U) (putL za4 (.str [c]) σ)) [tu2, tu3] (S2.add (.tup [.str [c], .str U])) KK
 generalize S2.add (.tup [.str [c], .str U]) = S3 at *
 generalize putL zcb (.str U) (putL za4 (.str [c]) σ) = σ3 at *
 refine zce ((zFb tbl (m + 228) S3 _ σ3 (tG i0 i1)).mpr (Opt.of L3.r (Opt.of (F3.R.mth rfl rfl) (Opt.of lt (Opt.of lu (zLp F3.R nc F3.nm hU3 (m + 26) λ S4 ds' rs' ei' R4 k4 => zce ((zCt tbl (m + 227) S4 _ σ3 i0 i1).mpr (Opt.of lu (Opt.of (a := U) rfl ?_)))))))))
 have s4 : IsSrc S4 src := F3.sr.keep k4 λ m => F3.srcX src (List.mem_append_left (as := [a.L, e.s, a.k2]) [a.oL, a.hL, a.kL, z.s, o.s, e.a] m) (.head _)
 have kp4 : Kept [src] S0 S4 := (((F3.kp.sub (Y := [src, a.L, e.s, a.k2]) λ x m => msx m ▸ .head _)).trans (k4.sub λ x m => .tail _ m)).new λ x m => (List.mem_cons.mp m).elim (λ q => .inr (q ▸ .head _)) λ m => .inl (F3.nl x (List.mem_append_left (as := [a.L, e.s, a.k2]) [a.oL, a.hL, a.kL, z.s, o.s, e.a] m))
 have d4 := k4.at' F3.d nb
 have I4 := F3.I.step (U := U) hc
 have ld4 : dd.length + bud ≤ 20 := ltx (Nat.le_succ _) F3.ld
 have same : zty dd c U = dd → KK .next σ3 S4 := λ q => by
   rw [q] at I4
   exact k S4 σ3 ds' rs' ei' _ _ dd ⟨R4, s4, k4.at' F3.c0 nb, k4.at' F3.c1 nb, d4, I4, F3.nm, F3.nl, F3.ls, kp4, F3.n0, F3.n1, F3.nd, ld4⟩ L3
 cases hT : two.contains U with
 | true =>
   rw [hT] at tw
   exact same (by unfold zty; rw [← tw])
 | false =>
   rw [hT] at tw
   refine Opt.of lt (Opt.of (zb6 (k4.at' F3.c0 nb)) (Opt.of rfl (Opt.of (a := (dd.map (·.1)).contains [c]) ?_ ?_)))
   · show (S4.get dL).bind (inO [c]) = _
     rw [d4.1]
     show some ((List.map (·.1) (dd.map λ p => (p.1, AV.str p.2))).contains [c]) = _
     rw [lkD]
   · cases hD : (dd.map (·.1)).contains [c] with
     | true => exact same (by unfold zty; rw [← tw, hD])
     | false =>
       have eD : zty dd c U = dd ++ [([c], U)] := by unfold zty; rw [← tw, hD]
       rw [eD] at I4
       have dl : (dd.map λ p => (p.1, AV.str p.2)).length ≤ 100 := by rw [List.length_map]; exact ltx (ltx (zft _ _) ld4) (by decide)
       refine Opt.of lu (Opt.of (zb6 (k4.at' F3.c0 nb)) (Opt.of rfl (Opt.of lt (Opt.of (a := S4.set dL (ddO (dd ++ [([c], U)]))) ?_ ?_))))
       · show (S4.dc dL).bind _ = _
         have : S4.dc dL = some (dd.map λ p => (p.1, AV.str p.2)) := by unfold Store.dc; rw [d4.1]; rfl
         rw [this]
         show cnd (Nat.ble 0 dL && Nat.ble (dd.map λ p => (p.1, AV.str p.2)).length 100) (S4.set dL (.dict (zlp [c] (.str U) (dd.map λ p => (p.1, AV.str p.2))))) = _
         rw [lbx (Nat.zero_le dL), lbx dl, zr9 (by rw [lkD]; exact hD)]
         unfold ddO
         rw [List.map_append]; rfl
       · have hs : IsSrc (S4.set dL (ddO (dd ++ [([c], U)]))) src := s4.elim λ x h => h.elim λ y h => ⟨x, y, d4.noD h rfl⟩
         exact k _ σ3 ds' rs' ei' _ _ _ ⟨R4.pres (Pres.set d4 _), hs, d4.noDc (k4.at' F3.c0 nb), d4.noDc (k4.at' F3.c1 nb), d4.setS, I4, F3.nm, F3.nl, F3.ls, kp4.setN F3.nd, F3.n0, F3.n1, F3.nd, by
           have := F3.ld
           rw [List.length_append]
           exact (Nat.add_right_comm _ 1 bud) ▸ this⟩ L3
end
noncomputable def fD : List T2 → List (List Nat × AV) → List (List Nat × AV)
 | [], D => D
 | q :: l, D => fD l (zlp q.1 (.str q.2) D)
theorem zmv (n : List Nat) (v : AV) : ∀ l : List (List Nat × AV), (zlp n v l).length ≤ l.length + 1
 | [] => Nat.le_refl _
 | (m, w) :: l => by
   show (if m = n then (m, v) :: l else (m, w) :: zlp n v l).length ≤ _
   by_cases e : m = n
   · rw [if_pos e]; exact Nat.le_succ _
   · rw [if_neg e]; exact Nat.succ_le_succ (zmv n v l)
theorem zqh (n x : List Nat) (v : AV) : ∀ l : List (List Nat × AV), lkS x (zlp n v l) = if n = x then some v else lkS x l
 | [] => rfl
 | (m, w) :: l => by
   show lkS x (if m = n then (m, v) :: l else (m, w) :: zlp n v l) = if n = x then some v else if m = x then some w else lkS x l
   by_cases e : m = n
   · rw [if_pos e]
     show (if m = x then some v else lkS x l) = _
     by_cases e2 : n = x
     · rw [if_pos e2, if_pos (e.trans e2)]
     · rw [if_neg e2, if_neg λ h => e2 (e.symm.trans h), if_neg λ h => e2 (e.symm.trans h)]
   · rw [if_neg e]
     show (if m = x then some w else lkS x (zlp n v l)) = _
     rw [zqh n x v l]
     by_cases e2 : n = x
     · rw [if_pos e2, if_pos e2, if_neg λ h => e (h.trans e2.symm)]
     · rw [if_neg e2, if_neg e2]
theorem zpr {x : List Nat} : ∀ {l : List T2} {D : List (List Nat × AV)}, lkS x l = none → lkS x (fD l D) = lkS x D
 | [], _, _ => rfl
 | q :: l, D, h => by
   unfold lkS at h
   by_cases e : q.1 = x
   · rw [if_pos e] at h; cases h
   · rw [if_neg e] at h
     show lkS x (fD l (zlp q.1 (.str q.2) D)) = _
     rw [zpr h, zqh, if_neg e]
theorem zBn {x : List Nat} : ∀ {l : List T2}, x ∉ l.map (·.1) → lkS x l = none
 | [], _ => rfl
 | q :: l, h => by
   show (if q.1 = x then some q.2 else lkS x l) = none
   rw [if_neg λ e : q.1 = x => h (by rw [← e]; exact .head _)]
   exact zBn λ m => h (.tail _ m)
theorem zp9 {x u : List Nat} : ∀ {l : List T2} {D : List (List Nat × AV)}, (l.map (·.1)).Nodup → lkS x l = some u → lkS x (fD l D) = some (.str u)
 | [], _, _, h => nn h
 | q :: l, D, nd, h => by
   rw [List.map_cons, List.nodup_cons] at nd
   unfold lkS at h
   show lkS x (fD l (zlp q.1 (.str q.2) D)) = _
   by_cases e : q.1 = x
   · rw [if_pos e] at h
     cases h
     rw [zpr (zBn (e ▸ nd.1)), zqh, if_pos e]
   · rw [if_neg e] at h
     exact zp9 nd.2 h
section
variable {S S0 S' : Store} {a : RA} {z o e x : Nd} {ds : List Nd} {rs oi ei is : List Nat} {os es dd ps : List T2} {ks : List (List Nat)} {F N i bud : Nat} {σ : zaf} {KK : KX} {K : KV} {D : List (List Nat × AV)}
structure ScL (σ : zaf) (t F : Nat) : Prop where
 t : lk zac σ = some (.ref t)
 f : lk zan σ = some (.ref F)
theorem ScL.put {t : Nat} (h : ScL σ t F) (x : Nat) (v : AV) (b1 : Nat.beq x zac = false) (b2 : Nat.beq x zan = false) : ScL (putL x v σ) t F := ⟨(zdw v b1 σ).trans h.t, (zdw v b2 σ).trans h.f⟩
theorem zIi (R : Rs S a z o e ds rs oi ei os es ks bud) (hF : Lies S F (.dict D)) (hi : ds[i]? = some x) (hv : x.v ≠ []) (hD : D.length ≤ 100) (kp : Kept [] S0 S) (nF : S0.n ≤ F) (L : ScL σ a.t F) (gi : lk zab σ = some (.int i)) (m : Nat)
   (k : ∀ σ' S', Pres S S' → Lies S' F (.dict (zlp x.n (.str x.v) D)) → Kept [] S0 S' → ScL σ' a.t F → KK .next σ' S') : (mk tbl (m + 60)).execs 0 [] σ zH1 S KK := by
 refine zce ((zyv tbl (m + 39) S _ σ).mpr (Opt.of L.t (Opt.of (R.tr.mth rfl rfl) (Opt.of gi (zee fnT.2.1 R.tr hi (v := .str x.n) rfl rfl (m + 25) (Opt.of L.t (Opt.of (R.tr.mth rfl rfl) (Opt.of gi (zee fnT.2.2.2.2.1 R.tr hi (v := .str x.v) rfl rfl (m + 24) (Opt.of (a := [.str x.n, .str x.v]) (by unfold Store.tp; rw [(Lies.new S _).1]; rfl) (Opt.of rfl ?_)))))))))))
 have L2 := (L.put zad (.str x.n) rfl rfl).put zar (.str x.v) rfl rfl
 have lu : lk zar (putL zar (.str x.v) (putL zad (.str x.n) σ)) = some (.str x.v) := zbh _ _ _
 have lp : lk zad (putL zar (.str x.v) (putL zad (.str x.n) σ)) = some (.str x.n) := (zdw _ rfl _).trans (zbh _ _ _)
 have hF2 := hF.add (.tup [.str x.n, .str x.v])
 refine zce ((zzi tbl (m + 38) (S.add (.tup [.str x.n, .str x.v])) _ (putL zar (.str x.v) (putL zad (.str x.n) σ))).mpr (Opt.of lu (Opt.of (a := !decide (x.v = [])) rfl ?_)))
 rw [decide_eq_false hv]
 refine Opt.of lu (Opt.of L2.f (Opt.of lp (Opt.of (a := (S.add (.tup [.str x.n, .str x.v])).set F (.dict (zlp x.n (.str x.v) D))) ?_ (k _ _ ((Pres.kept (Kept.add _)).trans (Pres.set hF2 _)) hF2.setS ((kp.trans (Kept.add _)).setN nF) L2))))
 show ((S.add (.tup [.str x.n, .str x.v])).dc F).bind _ = _
 have : (S.add (.tup [.str x.n, .str x.v])).dc F = some D := by unfold Store.dc; rw [hF2.1]; rfl
 rw [this]
 show cnd (Nat.ble 0 F && Nat.ble D.length 100) _ = _
 rw [lbx (Nat.zero_le F), lbx hD]; rfl
theorem zGt (R : Rs S a z o e ds rs oi ei os es ks bud) (hF : Lies S F (.dict D)) (hN : Lies S N (.list (is.map λ (i : Nat) => .int i))) (hn : NsF ds is ps) (hl : ps.length ≤ 15) (hv : ∀ q ∈ ps, q.2 ≠ []) (hD : D.length + ps.length ≤ 100) (kp : Kept [] S0 S) (nF : S0.n ≤ F) (L : ScL σ a.t F) (m : Nat)
   (k : ∀ σ' S', Pres S S' → Lies S' F (.dict (fD ps D)) → Kept [] S0 S' → ScL σ' a.t F → KK .next σ' S') : (mk tbl (m + 90)).floop 0 [] σ false [(false, zab)] (.lst N 0) zH1 S KK := by
 obtain ⟨j, ej⟩ := Nat.le.dest hl
 have lx : (is.map λ (i : Nat) => AV.int i).length = ps.length := by rw [List.length_map]; exact hn.len
 have fsn : ∀ {q : T2} {l : List T2} {D : List (List Nat × AV)}, fD (l ++ [q]) D = zlp q.1 (.str q.2) (fD l D) := λ {q} {l} => by
   induction l with
   | nil => intro D; rfl
   | cons y l ih => intro D; exact ih
 have fln : ∀ {l : List T2} {D : List (List Nat × AV)}, (fD l D).length ≤ D.length + l.length := λ {l} => by
   induction l with
   | nil => intro D; exact Nat.le_refl _
   | cons y l ih =>
     intro D
     refine ltx ih ?_
     rw [List.length_cons, Nat.add_comm l.length 1, ← Nat.add_assoc]
     exact Nat.add_le_add_right (zmv _ _ _) _
 have key := zel (T := tbl) (z := 0) (c := 60) (Γ := []) (tup := false) (zs := [(false, zab)]) (b := zH1) (xs := is.map λ (i : Nat) => AV.int i) (Nx := .lst N) (K := KK)
   (Inv := λ k σ S' => Pres S S' ∧ Lies S' F (.dict (fD (ps.take k) D)) ∧ Kept [] S0 S' ∧ ScL σ a.t F)
   (Rt := λ _ _ => False)
   (λ k σ S' I => zbw (I.1 _ _ hN rfl))
   (λ k v σ S' m hv' I => ⟨_, rfl, λ K1 q1 q2 => by
     obtain ⟨I1, I2, I3, I4⟩ := I
     rw [za6, List.getElem?_map] at hv'
     refine zbs hv' λ i hi ev => ?_
     cases ev
     have lt : k < ps.length := hn.len ▸ (List.getElem?_eq_some_iff.mp hi).1
     have ee : ps[k]? = some ps[k] := List.getElem?_eq_getElem lt
     obtain ⟨i', e1, x, x1, x2, x3⟩ := hn.get ee
     cases hi.symm.trans e1
     refine zIi (m := m) (R.pres I1) I2 x1 (x3 ▸ hv _ (List.getElem_mem lt)) (ltx fln (ltx (Nat.add_le_add_left (by rw [List.length_take]; exact Nat.min_le_right _ _) _) hD)) I3 nF (I4.put zab (.int i) rfl rfl) (zbh _ _ _) λ σ2 S2 p2 f2 k2 L2 => q1 _ _ ⟨I1.trans p2, ?_, k2, L2⟩
     rw [List.take_add_one, ee]
     show Lies S2 F (.dict (fD (ps.take k ++ [ps[k]]) D))
     rw [fsn, ← x2, ← x3]; exact f2⟩)
   ps.length 0 (m + j + 13) σ S ((Nat.zero_add _).trans lx.symm) ⟨λ _ _ h _ => h, hF, kp, L⟩
   (λ σ' S' I => by
     obtain ⟨I1, I2, I3, I4⟩ := I
     rw [lx, List.take_length] at I2
     exact k σ' S' I1 I2 I3 I4)
   (λ w σ' S' I => I.elim)
 rw [show m + 90 = m + j + 13 + 60 + ps.length + 2 by rw [show m + 90 = m + 13 + 60 + 15 + 2 from rfl, ← ej]; simp only [Nat.add_assoc, Nat.add_comm, Nat.add_left_comm]]
 exact key
end
section
variable {S S0 S' : Store} {a : RA} {z o e x : Nd} {ds : List Nd} {rs oi ei is : List Nat} {os es dd ps : List T2} {ks : List (List Nat)} {F N i bud src i0 i1 dL : Nat} {σ : zaf} {KK : KX} {K : KV} {D : List (List Nat × AV)}
theorem zG3 : tbl.fn.get 202 = some zgl ∧ tbl.fn.get 238 = some zix := by
 refine ⟨?_, ?_⟩ <;> kernel_rfl
theorem zMa (R : Rs S a z o e ds rs oi ei os es ks bud) (m : Nat) (k : ∀ M S', Lies S' M (.list [.int 0, .int 1, .int a.ie]) → Kept [] S S' → K (.ref M) S') : (mk tbl (m + 90)).callv 0 (.old 202) [.ref a.t, .int a.ie] S K := by
 rw [zbo (n := m + 89) (b := [(zac, .ref a.t), (zab, .int a.ie)]) zG3.1 rfl]
 refine (zIz tbl (m + 80) S _ (.ref a.t) (.int a.ie)).mpr ?_
 have ne : S.n ≠ a.L := λ h => absurd R.tr.l.2 (Nat.not_lt.mpr (Nat.le_of_eq h))
 refine zq1 (l := [.int a.ie, .int ((1 : Nat) : Int), .int ((0 : Nat) : Int)]) (m + 39) (R.tr.keep (Kept.add (X := []) _) λ m => nomatch m) (Lies.new S _) ne (.cons R.e2 (R.ep ▸ .cons R.o1 (R.op' ▸ .cons R.z0 (R.zp ▸ .nil)))) (blx rfl) λ σ S1 g1 h1 k1 => ?_
 have kp : Kept [] S S1 := ((Kept.add _).trans k1).new λ x m => .inl (msx m ▸ Nat.le_refl _)
 exact Opt.of g1 (Opt.of (a := [.int a.ie, .int 1, .int 0]) (by unfold Store.ls; rw [h1.1]; rfl) (Chk.of rfl (Opt.of rfl (k _ _ (Lies.new _ _) (kp.trans (Kept.add _))))))
theorem zxi (R : Rs S a z o e ds rs oi ei os es ks bud) (hi : ds[i]? = some x) (hx : Lies S x.s (.list (is.map λ (i : Nat) => .int i))) (hF : Lies S F (.dict D)) (hn : NsF ds is ps) (hl : ps.length ≤ 15) (hv : ∀ q ∈ ps, q.2 ≠ []) (hD : D.length + ps.length ≤ 100) (kp : Kept [] S0 S) (nF : S0.n ≤ F) (L : ScL σ a.t F) (g : lk zf6 σ = some (.int i)) (m : Nat)
   (k : ∀ σ' S', Pres S S' → Lies S' F (.dict (fD ps D)) → Kept [] S0 S' → ScL σ' a.t F → KK .next σ' S') : (mk tbl (m + 120)).execs 0 [] σ scB S KK := by
 refine (zCp tbl (m + 100) S KK σ).mpr (Opt.of L.t (Opt.of (R.tr.mth rfl rfl) (Opt.of g (zoo fnT.2.2.2.2.2.2.2.2 R.tr hi rfl rfl hx ?_ (m + 87) (Opt.of (zdc (Lies.new _ _)) (Chk.of rfl (zGt (R.keep (Kept.add _)) (hF.add _) (Lies.new _ _) hn hl hv hD (kp.trans (Kept.add _)) nF L (m + 28) λ σ' S' p f kk l => k σ' S' ((Pres.kept (Kept.add _)).trans p) f kk l)))))))
 rw [List.length_map, hn.len]; exact ltx hl (by decide)
theorem zB1 : ∀ {l : List T2} {D : List (List Nat × AV)}, (fD l D).length ≤ D.length + l.length
 | [], _ => Nat.le_refl _
 | y :: l, D => by
   refine ltx (zB1 (l := l)) ?_
   rw [List.length_cons, Nat.add_comm l.length 1, ← Nat.add_assoc]
   exact Nat.add_le_add_right (zmv _ _ _) _
theorem zK8 (R : Rs S a z o e ds rs oi ei os es ks bud) (ho : ∀ q ∈ os, q.2 ≠ []) (he : ∀ q ∈ es, q.2 ≠ []) (m : Nat) (k : ∀ d S', Lies S' d (.dict (fD es (fD os [(zBm, .str zni)]))) → Kept [] S S' → K (.ref d) S') : (mk tbl (m + 150)).callv 0 (.old 238) [.ref a.t, .int a.ie] S K := by
 rw [zbo (n := m + 149) (b := [(zac, .ref a.t), (zaq, .int a.ie)]) zG3.2 rfl]
 have k0 : Kept [] S (S.add (.dict [(zBm, .str zni)])) := Kept.add _
 have h0 := Lies.new S (.dict [(zBm, .str zni)])
 refine (zIw tbl (m + 110) S _ (.ref a.t) (.int a.ie)).mpr (zMa (R.keep k0) (m + 55) λ M S1 h1 k1 => Opt.of (zdc h1) (Chk.of rfl ?_))
 have R1 := (R.keep k0).keep k1
 have L1 : ScL [(zac, .ref a.t), (zaq, .int a.ie), (zan, .ref S.n)] a.t S.n := ⟨rfl, rfl⟩
 have lo := zB1 (l := os) (D := [(zBm, AV.str zni)])
 refine zi5 (n := m + 145) ((zbw h1).trans rfl) rfl (zxi (i := 0) (ps := []) (is := []) R1 R1.z0 R1.zs (k1.at' h0 nb) .nil (Nat.zero_le _) (λ _ m => nomatch m) (blx rfl) (k0.trans k1) (Nat.le_refl _) (L1.put zf6 _ rfl rfl) (zbh _ _ _) (m + 25) λ σ2 S2 p2 f2 k2 L2 => ?_)
 have R2 := R1.pres p2
 refine zi5 (n := m + 144) ((zbw (p2 _ _ h1 rfl)).trans rfl) rfl (zxi (i := 1) R2 R2.o1 R2.hos f2 R2.on (ltx R2.lo (by decide)) ho (ltx (Nat.add_le_add_left R2.lo _) (blx rfl)) k2 (Nat.le_refl _) (L2.put zf6 _ rfl rfl) (zbh _ _ _) (m + 24) λ σ3 S3 p3 f3 k3 L3 => ?_)
 have R3 := R2.pres p3
 have hl : (fD os [(zBm, AV.str zni)]).length + es.length ≤ 100 := ltx (Nat.add_le_add (ltx lo (Nat.add_le_add_left R3.lo _)) R3.le) (blx rfl)
 refine zi5 (n := m + 143) ((zbw (p3 _ _ (p2 _ _ h1 rfl) rfl)).trans rfl) rfl (zxi R3 R3.e2 R3.hes f3 R3.en R3.le he hl k3 (Nat.le_refl _) (L3.put zf6 _ rfl rfl) (zbh _ _ _) (m + 23) λ σ4 S4 p4 f4 k4 L4 => ?_)
 exact zAz (n := m + 142) ((zbw (p4 _ _ (p3 _ _ (p2 _ _ h1 rfl) rfl) rfl)).trans rfl) (Opt.of L4.f (k _ S4 f4 k4))
theorem zwc : ∀ {l : List T2} {k : Nat} {q : T2}, (l.map (·.1)).Nodup → l[k]? = some q → lkS q.1 l = some q.2
 | [], _, _, _, h => nn h
 | y :: l, 0, q, _, h => by cases h; show (if _ then _ else _) = _; rw [if_pos rfl]
 | y :: l, k + 1, q, nd, h => by
   rw [List.map_cons, List.nodup_cons] at nd
   have h : l[k]? = some q := h
   show (if y.1 = q.1 then _ else lkS q.1 l) = _
   rw [if_neg λ e : y.1 = q.1 => nd.1 (List.mem_map.mpr ⟨q, List.mem_of_getElem? h, e.symm⟩)]
   exact zwc nd.2 h
theorem zJs (I : Inv2 os es ks e.n dd) (no : (os.map (·.1)).Nodup) {k : Nat} {q : T2} (h : dd[k]? = some q) : lkS q.1 (fD es (fD os D)) = some (.str q.2) := by
 obtain ⟨c, hc, ec⟩ := I.dn q (List.mem_of_getElem? h)
 have h1 := zwc I.nd h
 have h2 := I.li c hc
 rw [ec] at h1 ⊢
 unfold liB at h2
 rw [h1] at h2
 cases h3 : lkS [c] es with
 | some w => rw [h3] at h2; rw [zp9 I.ne h3, of_decide_eq_true h2]
 | none =>
   rw [h3] at h2
   cases h4 : lkS [c] os with
   | none => rw [h4] at h2; exact nb h2
   | some w =>
     rw [h4] at h2
     refine zbf h2 λ h2 _ => ?_
     rw [zpr h3, zp9 no h4, of_decide_eq_true h2]
end
section
variable {S S0 S' : Store} {a : RA} {z o e x : Nd} {ds : List Nd} {rs oi ei is : List Nat} {os es dd ps : List T2} {ks : List (List Nat)} {F N i bud src i0 i1 dL : Nat} {σ : zaf} {KK : KX} {K : KV} {D : List (List Nat × AV)}
theorem Lies.noC {j : Nat} {q : AO} {v : Option AV} {o' : AO} (hc : Lies S i (.cell v)) (h : Lies S j q) (n : zMm q = false) : Lies (S.set i o') j q := h.setC λ e => by
 cases e
 cases hc.1.symm.trans h.1
 cases n
theorem zEq {d : Nat} {k : List Nat} (h : Lies S d (.dict D)) : zem tbl S (.ref d) (.str k) = lkS k D := by
 show (S.dc d).bind _ = _
 unfold Store.dc
 rw [h.1]; rfl
theorem zJx {r : R} {zz d : Nat} {k : List Nat} (h : Lies S d (.dict D)) (q : K ((lkS k D).getD .none) S) : ∃ mt, zat tbl S (.ref d) ztw = some mt ∧ MtA r zz S [.str k] S K mt := by
 refine ⟨.bim ztw (.ref d), ?_, Chk.of ?_ (Opt.of (a := (true, (lkS k D).getD .none, S)) ?_ (Chk.of rfl q))⟩
 · show (S.get d).bind _ = _
   rw [h.1]; rfl
 · unfold zdz
   simp only [h.1]
   rfl
 · show (S.get d).bind _ = _
   rw [h.1]; rfl
theorem zI3 {zz : Nat} {q : T2} {K2 : Bool → Store → Prop} (a0 : Lies S i0 (.cell (some (.ref dL)))) (a1 : Lies S i1 (.cell (some (.ref F)))) (e2 : Lies S dL (ddO dd)) (d2 : Lies S F (.dict D)) (h1 : lkS q.1 dd = some q.2) (h2 : lkS q.1 D = some (.str q.2)) (m : Nat) (k : K2 false S) : (mk tbl (m + 20)).tr zz (tG i0 i1) (putL za4 (.str q.1) σ) (.andd [cnE]) S K2 := by
 refine (zMo tbl (m + 10) S K2 _ i0 i1 zz).mpr (Opt.of (zb6 a1) (Opt.of rfl ?_))
 have lt : lk za4 (putL za4 (.str q.1) σ) = some (.str q.1) := zbh _ _ _
 have e1 : zem tbl S (.ref dL) (.str q.1) = some (.str q.2) := (zEq e2).trans (by rw [zAs, h1]; rfl)
 obtain ⟨mt, g1, g2⟩ := zJx (r := mk tbl (m + 16)) (zz := zz) (k := q.1) (K := λ a st => Opt (st.cl i0) λ o => Opt o λ d => Opt (lk za4 (putL za4 (.str q.1) σ)) λ k => Opt (zem tbl st d k) λ b => Opt (zhy .ne a b st) λ q => match q with
   | true => K2 true st
   | false => K2 false st) d2 (Opt.of (zb6 a0) (Opt.of rfl (Opt.of lt (Opt.of e1 (Opt.of (a := false) (by rw [h2]; show some (!decide (q.2 = q.2)) = _; rw [decide_eq_true rfl]; rfl) k)))))
 exact Opt.of g1 (Opt.of lt g2)
theorem zMb (a0 : Lies S i0 (.cell (some (.ref dL)))) (a1 : Lies S i1 (.cell (some (.ref F)))) (e2 : Lies S dL (ddO dd)) (d2 : Lies S F (.dict D)) (nd : (dd.map (·.1)).Nodup) (h2 : ∀ (k : Nat) (q : T2), dd[k]? = some q → lkS q.1 D = some (.str q.2)) (hd : dd.length ≤ 20) (zz m : Nat) (k : K (.ref S.n) (S.add (.list []))) : (mk tbl (m + 50)).cloop zz (tG i0 i1) [] (.loc za4) false [za4] [cnE] (.keys dL 0 dd.length) [] S K := by
 have ex : (dd.map λ p => (p.1, AV.str p.2)).length = dd.length := List.length_map _
 obtain ⟨j, ej⟩ := Nat.le.dest hd
 have lx : (dd.map λ p => AV.str p.1).length = dd.length := List.length_map _
 have key := zio (T := tbl) (z := zz) (c := 20) (Γ := tG i0 i1) (elt := .loc za4) (tup := false) (ys := [za4]) (ifs := [cnE]) (xs := dd.map λ p => AV.str p.1) (Nx := λ k => .keys dL k dd.length) (K := K)
   (Inv := λ k acc S' => acc = [] ∧ S' = S)
   (λ k acc S' I => by
     rw [I.2]
     show (S.dc dL).bind _ = _
     have : S.dc dL = some (dd.map λ p => (p.1, AV.str p.2)) := by unfold Store.dc; rw [e2.1]; rfl
     rw [this]
     show (match Nat.beq (dd.map λ p => (p.1, AV.str p.2)).length dd.length with | true => _ | false => _) = _
     rw [ex, Nat.beq_refl]
     show some ((nth (dd.map λ p => (p.1, AV.str p.2)) k).map _) = _
     rw [zqj, zqj, Option.map_map, Option.map_map]; rfl)
   (λ k v acc σ2 S' m hv I => ⟨_, rfl, λ K1 K0 q1 q0 => by
     obtain ⟨rfl, rfl⟩ := I
     rw [za6, List.getElem?_map] at hv
     refine zbs hv λ q hq ev => ?_
     cases ev
     exact zI3 a0 a1 e2 d2 (zwc nd hq) (h2 _ _ hq) m (q0 S' ⟨rfl, rfl⟩)⟩)
   dd.length 0 (m + j + 8) [] [] S ((Nat.zero_add _).trans lx.symm) (by show 0 + dd.length ≤ 1000; rw [Nat.zero_add]; exact ltx hd (by decide)) ⟨rfl, rfl⟩ (λ acc' S' I => by
     obtain ⟨rfl, rfl⟩ := I
     exact k)
 rw [show m + j + 8 + 20 + dd.length + 2 = m + 50 by rw [show m + 50 = m + 8 + 20 + 20 + 2 from rfl, ← ej]; simp only [Nat.add_assoc, Nat.add_comm, Nat.add_left_comm]] at key
 exact key
theorem zF2 (R : Rs S a z o e ds rs oi ei os es ks bud) (sr : IsSrc S src) (kp : Kept [src] S0 S) (L : LkF σ src a.r a.t a.ie e.u) (a0 : Lies S i0 (.cell (some (.ref dL)))) (a1 : Lies S i1 (.cell (some (.ref F)))) (e2 : Lies S dL (ddO dd)) (d2 : Lies S F (.dict D)) (nd : (dd.map (·.1)).Nodup) (h2 : ∀ (k : Nat) (q : T2), dd[k]? = some q → lkS q.1 D = some (.str q.2)) (hd : dd.length ≤ 20) (m : Nat) (k : ∀ σ S', IsSrc S' src → Kept [src] S0 S' → KK (.ret (.bool true)) σ S') :
   (mk tbl (m + 80)).exec 0 (tG i0 i1) σ ztk S KK := by
 have ex : (dd.map λ p => (p.1, AV.str p.2)).length = dd.length := List.length_map _
 have sd : zeh S (.ref dL) = some (.keys dL 0 dd.length) := by show (S.get dL).bind _ = _; rw [e2.1]; show some (Src.keys dL 0 (dd.map λ p => (p.1, AV.str p.2)).length) = _; rw [ex]
 refine (zDt tbl (m + 50) S KK σ i0 i1).mpr (Opt.of (zb6 a0) (Opt.of rfl (Opt.of sd (zMb a0 a1 e2 d2 nd h2 hd _ (m + 26) ?_))))
 have k5 : Kept [] S ((S.add (.list [])).add (.list [])) := (Kept.add _).trans (Kept.add _)
 have R5 := R.keep k5
 refine Opt.of (a := true) ?_ (Opt.of L.t (Opt.of (R5.tr.mth rfl rfl) (Opt.of L.e (zee fnT.2.2.1 R5.tr R5.e2 (v := .str e.u) rfl rfl (m + 45) (Opt.of L.u (Opt.of (a := true) (congrArg some (decide_eq_true rfl)) (k _ _ (sr.keep k5 (λ m => nomatch m)) (kp.trans (k5.sub λ _ m => nomatch m)))))))))
 show (((S.add (.list [])).add (.list [])).get S.n).bind _ = _
 rw [((Lies.new S (.list [])).add (.list [])).1]
 show (((S.add (.list [])).add (.list [])).get (S.n + 1)).bind _ = _
 have : Lies ((S.add (.list [])).add (.list [])) (S.n + 1) (.list []) := Lies.new (S.add (.list [])) _
 rw [this.1]; rfl
theorem zHa (F : TeF S0 S src i0 i1 dL a z o e ds rs oi ei os es ks bud dd) (L : LkF σ src a.r a.t a.ie e.u) (no : (os.map (·.1)).Nodup) (ho : ∀ q ∈ os, q.2 ≠ []) (hd : dd.length ≤ 20) (i01 : i0 ≠ i1) (m : Nat) (k : ∀ σ S', IsSrc S' src → Kept [src] S0 S' → KK (.ret (.bool true)) σ S') :
   (mk tbl (m + 180)).execs 0 (tG i0 i1) σ [s9S, ztk] S KK := by
 refine zce ((zHc tbl (m + 159) S _ σ i0 i1).mpr (Opt.of L.t (Opt.of L.e (zK8 F.R ho F.I.uv (m + 27) λ d S1 h1 k1 => Opt.of (zb6 (k1.at' F.c1 nb)) ?_))))
 have nm : ∀ {x : Nat}, x ∉ ([] : List Nat) := λ m => nomatch m
 have c1 := k1.at' F.c1 nb
 have dl := k1.at' F.d nb
 have s1 := F.sr.keep k1 nm
 exact zce (zF2 ((F.R.keep k1).pres λ j q h n => c1.noC h n) (s1.elim λ x h => h.elim λ y h => ⟨x, y, c1.noC h rfl⟩) ((F.kp.trans (k1.sub λ _ m => nomatch m)).setN F.n1) L ((k1.at' F.c0 nb).setC i01) c1.setS (dl.setC λ e => by cases e; exact nomatch c1.1.symm.trans dl.1) (h1.setC λ e => by cases e; exact nomatch c1.1.symm.trans h1.1) F.I.nd (λ _ _ h => zJs F.I no h) hd (m + 98) k)
end
noncomputable def zMe (q : Bool) (P U : List Nat) : Bool := [112, 113, 114].all (liB (osN q) (esN (znj q P U) (zyf P) U) [] (nmP P U) (dd0 P U)) && (decide (dd0 P U = []) || pqr.contains (zyf P)) && (!znj q P U || !decide (U = [])) && zBq.contains (nmP P U)
theorem zzn : ([false, true].all λ q => ps4.all λ P => us4.all λ U => zMe q P U) = true := by kernel_rfl
theorem zIn : ∀ q, ((osN q).map (·.1)).Nodup ∧ ∀ p ∈ osN q, p.2 ≠ []
 | false => ⟨of_decide_eq_true rfl, of_decide_eq_true rfl⟩
 | true => ⟨of_decide_eq_true rfl, of_decide_eq_true rfl⟩
theorem zrv : ∀ q : Bool, q ∈ [false, true]
 | false => .head _
 | true => .tail _ (.head _)
theorem zOk {q : Bool} {P U : List Nat} (hP : P ∈ ps4) (hU : U ∈ us4) : Inv2 (osN q) (esN (znj q P U) (zyf P) U) [] (nmP P U) (dd0 P U) ∧ nmP P U ∈ zBq := by
 have h := List.all_eq_true.mp (List.all_eq_true.mp (List.all_eq_true.mp zzn q (zrv q)) P hP) U hU
 refine zbf h λ h h4 => zbf h λ h h3 => zbf h λ h1 h2 => ⟨⟨List.all_eq_true.mp h1, ?_, ?_, ?_, ?_⟩, List.contains_iff_mem.mp h4⟩
 · cases znj q P U
   · exact .nil
   · exact List.pairwise_singleton _ _
 · unfold dd0
   cases decide (P = []) || decide (U = [])
   · exact List.pairwise_singleton _ _
   · exact .nil
 · rcases Bool.or_eq_true_iff.mp h2 with h2 | h2
   · rw [of_decide_eq_true h2]; exact λ _ m => nomatch m
   · intro p hp
     have h2 := List.contains_iff_mem.mp h2
     have e : p.1 = zyf P := by
       unfold dd0 at hp
       cases hq : (decide (P = []) || decide (U = [])) <;> rw [hq] at hp
       · rw [msx hp]
       · cases hp
     rw [e]
     rcases List.mem_cons.mp h2 with m | m
     · exact ⟨112, .head _, m⟩
     · rcases List.mem_cons.mp m with m | m
       · exact ⟨113, .tail _ (.head _), m⟩
       · exact ⟨114, .tail _ (.tail _ (.head _)), msx m⟩
 · intro p hp
   cases hw : znj q P U <;> rw [hw] at hp h3
   · cases hp
   · rw [msx hp]
     intro e
     have e : U = [] := e
     rw [decide_eq_true e] at h3
     cases h3
section
variable {S S0 S' : Store} {src i0 i1 t r : Nat} {q : Bool} {as : List Nat} {K : KV} {KK : KX}
theorem zEp {f h : Nat → Nat} {n : Nat} {o : AO} (b : bdO n o = true) (e : ∀ i, i < n → f i = h i) : mO f o = mO h o := (zFu (f := f) (g := id) (h := f) (λ _ _ => rfl) b).symm.trans (zFu (f := f) (g := id) (h := h) e b)
theorem zwe : ∀ q, (caO q).all (bdO (caO q).length) = true
 | false => by kernel_rfl
 | true => by kernel_rfl
structure OpF (S0 S : Store) (src i0 i1 t r : Nat) (q : Bool) (as : List Nat) : Prop where
 A : AtL S (adr as S.n) as (caO q)
 nd : as.Nodup
 nw : ∀ x ∈ as, S0.n ≤ x
 e0 : nth as 0 = some i0
 e1 : nth as 1 = some i1
 e3 : nth as 3 = some t
 e11 : nth as 11 = some r
 sr : IsSrc S src
 kp : Kept [src] S0 S
 ls : src < S0.n
theorem OpF.keep (O : OpF S0 S src i0 i1 t r q as) (k : Kept [src] S S') (h : IsSrc S' src) : OpF S0 S' src i0 i1 t r q as :=
 have hl : as.length = (caO q).length := zgq O.A.facts
 { O with A := (O.A.kept k λ a m e => absurd O.ls (Nat.not_lt.mpr (msx e ▸ O.nw a m))).map λ o ho => zEp (List.all_eq_true.mp (zwe q) o ho) λ i hi => by
            unfold adr
            rw [za6, List.getElem?_eq_getElem (hl.symm ▸ hi)]
          sr := h, kp := O.kp.trans k }
theorem zA8 (O : OpF S0 S src i0 i1 t r q as) (i : Nat) : S0.n ≤ adr as S.n i := by
 unfold adr
 cases h : nth as i with
 | some a => exact O.nw a (List.mem_of_getElem? (ze3 h))
 | none => exact ltx O.kp.n (zft _ _)
theorem ze5 {i b : Nat} (h : nth as i = some b) (N : Nat) : adr as N i = b := by unfold adr; rw [h]
theorem zGm {n k : Nat} (h : k ≤ n) (S : Store) : zfm S (.rng k 1 (n - k)) = some ((nth ((List.range n).map λ (i : Nat) => AV.int i) k).map λ v => (v, .rng (k + 1 : Nat) 1 (n - (k + 1)))) := by
 rcases Nat.lt_or_eq_of_le h with h | h
 · obtain ⟨d, e⟩ := Nat.le.dest h
   have e1 : n - (k + 1) = d := by rw [← e]; exact Nat.add_sub_cancel_left (n := k + 1) (m := d)
   have e2 : n - k = d + 1 := by rw [← e1]; exact (Nat.succ_pred_eq_of_pos (Nat.sub_pos_of_lt h)).symm
   rw [za6, List.getElem?_map, List.getElem?_range h, e1, e2]
   rfl
 · rw [h, Nat.sub_self, za6, List.getElem?_eq_none (by rw [List.length_map, List.length_range]; exact Nat.le_refl _)]; rfl
theorem zL9 {dL : Nat} {a : RA} {z o e : Nd} {ds : List Nd} {rs oi ei : List Nat} {os es dd : List T2} {ks : List (List Nat)} {σ : zaf} {u : List Nat} (F : TeF S0 S src i0 i1 dL a z o e ds rs oi ei os es ks 6 dd) (L : LkF σ src a.r a.t a.ie u) (m : Nat)
   (k : ∀ S' σ' ds' rs' ei' es' ks' b dd', TeF S0 S' src i0 i1 dL a z o e ds' rs' oi ei' os es' ks' b dd' → LkF σ' src a.r a.t a.ie u → KK .next σ' S') : (mk tbl (m + 290)).exec 0 (tG i0 i1) σ s8S S KK := by
 refine (zJh tbl (m + 260) S KK σ (tG i0 i1)).mpr (Opt.of L.s (znu F.sr (top := 6) (by decide) (by decide) (m + 246) λ j S1 hj h1 k1 => Opt.of rfl (Chk.of ?_ (Opt.of (by show ((S1.add _).get S1.n).bind _ = _; rw [(Lies.new S1 _).1]; rfl) (Chk.of rfl ?_)))))
 · have h7 : (-1000 : Int) ≤ (j : Int) ∧ (j : Int) ≤ 1000 := by lia
   show (decide (-1000 ≤ (j : Int)) && decide ((j : Int) ≤ 1000)) = true
   rw [decide_eq_true h7.1, decide_eq_true h7.2]; rfl
 · obtain ⟨q, ej⟩ := Nat.le.dest (Nat.le_of_lt_succ hj)
   have F2 := F.keep (k1.trans (Kept.add (.rng 0 1 j))) (h1.plus _)
   have lx : ((List.range j).map λ (i : Nat) => AV.int i).length = j := by rw [List.length_map, List.length_range]
   have key := zel (T := tbl) (z := 0) (c := 250) (Γ := tG i0 i1) (tup := false) (zs := [(false, ze7)]) (b := [tu1, tu2, tu3]) (xs := (List.range j).map λ (i : Nat) => AV.int i) (Nx := λ k => .rng k 1 (j - k)) (K := KK)
     (Inv := λ k σ S' => k ≤ j ∧ LkF σ src a.r a.t a.ie u ∧ ∃ ds rs ei es ks b dd, b + k = 6 ∧ TeF S0 S' src i0 i1 dL a z o e ds rs oi ei os es ks b dd)
     (Rt := λ _ _ => False)
     (λ k σ S' I => zGm I.1 S')
     (λ k v σ S' m hv I => ⟨_, rfl, λ K1 q1 q2 => by
       obtain ⟨I1, I2, ds, rs, ei, es, ks, b, dd, I3, I4⟩ := I
       have lt : k < j := by
         have := ze3 hv
         exact lx ▸ (List.getElem?_eq_some_iff.mp this).1
       cases b with
       | zero => exact absurd (Nat.lt_trans lt hj) (by rw [← I3, Nat.zero_add]; exact Nat.lt_irrefl _)
       | succ b => exact zLj I4 (I2.put ze7 v rfl) m λ S2 σ2 ds rs ei es ks dd F3 L3 => q1 _ _ ⟨lt, L3, ds, rs, ei, es, ks, b, dd, by rw [← I3, Nat.add_right_comm]; rfl, F3⟩⟩)
     j 0 (m + q + 32) σ _ ((Nat.zero_add _).trans lx.symm) ⟨Nat.zero_le _, L, ds, rs, ei, es, ks, 6, dd, rfl, F2⟩
     (λ σ' S' I => by
       obtain ⟨I1, I2, ds, rs, ei, es, ks, b, dd, I3, I4⟩ := I
       exact k S' σ' ds rs ei es ks b dd I4 I2)
     (λ w σ' S' I => I.elim)
   rw [show m + q + 32 + 250 + j + 2 = m + 289 by rw [show m + 289 = m + 32 + 250 + 5 + 2 from rfl, ← ej]; simp only [Nat.add_assoc, Nat.add_comm, Nat.add_left_comm]] at key
   exact key
end
section
variable {S S0 S' : Store} {src i0 i1 t r : Nat} {q : Bool} {as : List Nat} {K : KV} {KK : KX}
theorem zF4 {l : List (List Nat)} {G : Prop} {v : AV} (h : v ∈ l.map AV.str) (k : ∀ p, p ∈ l → v = .str p → G) : G := (List.mem_map.mp h).elim λ p h => k p h.1 h.2.symm
theorem n43 : ∀ q w, 43 ≤ dq q + sel w 48 43 := λ q w => by cases q <;> cases w <;> exact blx rfl
theorem lpD : ∀ q w, pD q w < dq q + sel w 48 43 := λ q w => by cases q <;> cases w <;> exact blx rfl
theorem IsSrc.keepT {as : List Nat} (h : IsSrc S src) (k : Keep (· ∈ as) S S') (n : src ∉ as) : IsSrc S' src := by
 obtain ⟨a, b, h⟩ := h
 exact ⟨a, b, k.get _ _ n h.2 h.1, llx h.2 k.n⟩
theorem zKz {P U : List Nat} (O : OpF S0 S src i0 i1 t r q as) (hP : P ∈ ps4) (hU : U ∈ us4) (m : Nat) (k : ∀ σ S', IsSrc S' src → Kept [src] S0 S' → KK (.ret (.bool true)) σ S') :
   (mk tbl (m + 323)).execs 0 (tG i0 i1) [(zae, .ref src), (zac, .ref t), (zbv, .ref r), (zad, .str P), (zar, .str U)] ((zas.body.drop 6).take 2 ++ [s8S, s9S, ztk]) S KK := by
 have sp := zb7 (T := tbl) (z := 0) (n := m + 320) (Γ := tG i0 i1) (b := [s8S, s9S, ztk]) (K := KK) ((zas.body.drop 6).take 2) [(zae, .ref src), (zac, .ref t), (zbv, .ref r), (zad, .str P), (zar, .str U)] S
 refine sp.mpr ?_
 have run : elR src q P U := (List.map_inj_left.mp (List.map_inj_left.mp (List.map_inj_left.mp (zJz src) q (zrv q)) P hP) U hU).mpr rfl
 obtain ⟨I, hnm⟩ := zOk (q := q) hP hU
 have M0 := zgd O.A O.nd
 have ge := zA8 O
 have x0 := ze5 O.e0 S.n
 have x1 := ze5 O.e1 S.n
 have x3 := ze5 O.e3 S.n
 have x11 := ze5 O.e11 S.n
 have hl : as.length = (caO q).length := zgq O.A.facts
 have lift := zcn (f := adr as S.n) (m := m + 123) (K := λ fl σ st => match fl with | .next => (mk tbl (m + 321)).execs 0 (tG i0 i1) σ [s8S, s9S, ztk] st KK | .ret v => KK (.ret v) σ st) run M0 λ fl σ s S2 hv M => zA6 hv λ e1 e2 en eg => ?_
 · rw [show (tG 0 1).map (mQ (adr as S.n)) = tG (adr as S.n 0) (adr as S.n 1) from rfl, show [(zae, AV.ext src), (zac, .ref 3), (zbv, .ref 11), (zad, .str P), (zar, .str U)].map (mP (adr as S.n)) = [(zae, .ref src), (zac, .ref (adr as S.n 3)), (zbv, .ref (adr as S.n 11)), (zad, .str P), (zar, .str U)] from rfl, x0, x1, x3, x11] at lift
   exact lift
 · have R := zM8 (nm := nmP P U) (U := U) (x := zyf P) (dd := dd0 P U) M q (znj q P U) eg en
   have G := λ (j : Nat) {i : Nat} {o : AO} (e : (cbO q (znj q P U) (nmP P U) U (zyf P) (dd0 P U))[j]? = some (i, o)) (l : i < s.n) => Lies.em M (zNn (G := λ p : Nat × AO => p.2) eg e) l
   have n43 : 43 ≤ s.n := en ▸ n43 q (znj q P U)
   have lp : pD q (znj q P U) < s.n := en ▸ lpD q (znj q P U)
   have la : as.length ≤ s.n := by rw [hl]; exact ltx (by cases q <;> exact blx rfl) n43
   have kD := M.keep la
   have g0 := G 0 rfl (llx (by decide) n43)
   have g1 := G 1 rfl (llx (by decide) n43)
   have g23 := G 23 rfl lp
   cases e1
   cases e2
   have i01 : adr as S.n 0 ≠ adr as S.n 1 := λ e => nomatch M.inj _ _ e
   have F : TeF S0 S2 src (adr as S.n 0) (adr as S.n 1) (adr as S.n (pD q (znj q P U))) (aN (adr as S.n) q) (zN (adr as S.n)) (oN (adr as S.n)) (eN (adr as S.n) (dq q) (nmP P U) U) (dsN (adr as S.n) q (znj q P U) (nmP P U) U (zyf P)) (rsN (adr as S.n) q (znj q P U)) (2 :: sel q [3] []) (sel (znj q P U) [sel q 5 4] []) (osN q) (esN (znj q P U) (zyf P) U) [] 6 (dd0 P U) := {
     R := R, sr := IsSrc.keepT O.sr kD λ m => absurd O.ls (Nat.not_lt.mpr (O.nw _ m)), c0 := g0, c1 := g1
     d := by
       have t : Lies S2 (adr as S.n (pD q (znj q P U))) (.dict (((dd0 P U).map λ p => (p.1, AV.str p.2)).map (mP (adr as S.n)))) := g23
       rw [List.map_map] at t
       exact t
     I := I, nm := hnm
     nl := λ l hl => by
       rcases List.mem_map.mp (show l ∈ [4, dq q + 36, dq q + 37, 12, 13, 15, 9, 22, dq q + 35].map (adr as S.n) from hl) with ⟨i, _, e⟩
       exact e ▸ ge i
     ls := O.ls, kp := kD.new O.kp O.nw, n0 := ge 0, n1 := ge 1, nd := ge _
     ld := by unfold dd0; cases decide (P = []) || decide (U = []) <;> exact blx rfl }
   have L : LkF (elL (.ref src) (.ref (adr as S.n 3)) (.ref (adr as S.n 11)) (.int (sel q 4 3 : Nat)) P U) src (aN (adr as S.n) q).r (aN (adr as S.n) q).t (aN (adr as S.n) q).ie U := ⟨rfl, rfl, rfl, rfl, rfl⟩
   show (mk tbl (m + 321)).execs 0 (tG i0 i1) (elL (.ref src) (.ref (adr as S.n 3)) (.ref (adr as S.n 11)) (.int (sel q 4 3 : Nat)) P U) [s8S, s9S, ztk] S2 KK
   rw [x0, x1] at F i01
   refine zce (zL9 F L (m + 30) λ S3 σ3 ds rs ei es ks b dd F3 L3 => ?_)
   exact zHa F3 L3 (zIn q).1 (zIn q).2 (ltx (zft _ _) F3.ld) i01 (m + 140) k
theorem zKw : tbl.fn.get 1688 = some zas := by kernel_rfl
theorem zrc : rnA.Nodup ∧ (∀ i ∈ rnA, i < 49) ∧ rnQ.Nodup ∧ (∀ i ∈ rnQ, i < 49) := ⟨of_decide_eq_true rfl, of_decide_eq_true rfl, of_decide_eq_true rfl, of_decide_eq_true rfl⟩
theorem zGd (O : OpF S0 S src i0 i1 t r q as) (m : Nat) (k : ∀ σ S', IsSrc S' src → Kept [src] S0 S' → KK (.ret (.bool true)) σ S') : (mk tbl (m + 324)).execs 0 (tG i0 i1) (tL (.ref src) (.ref t) (.ref r)) (s5S :: ((zas.body.drop 6).take 2 ++ [s8S, s9S, ztk])) S KK := by
 have ns : ∀ {S : Store}, IsSrc S src → S.n ≠ src := λ h e => h.elim λ _ h => h.elim λ _ h => absurd h.2 (Nat.not_lt.mpr (Nat.le_of_eq e))
 refine zce ((zG5 tbl (m + 293) S _ (tL (.ref src) (.ref t) (.ref r)) (tG i0 i1)).mpr (Opt.of rfl (zs1 (O.sr.plus _) (Lies.new S _) (ns O.sr) (by decide) (by decide) (m + 259) λ v S1 hv h1 k1 => Opt.of rfl (zs1 (h1.plus _) (Lies.new S1 _) (ns h1) (by decide) (by decide) (m + 258) λ w S2 hw h2 k2 => zF4 hv λ P hP ep => zF4 hw λ U hU eu => ?_))))
 cases ep
 cases eu
 refine Opt.of (a := [.str P, .str U]) (by unfold Store.tp; rw [(Lies.new S2 _).1]; rfl) (Opt.of rfl ?_)
 exact zKz (O.keep ((((Kept.add _).trans k1).trans ((Kept.add _).trans k2)).trans (Kept.add (.tup [.str P, .str U]))) (h2.plus _)) hP hU m k
theorem zt9 (h : IsSrc S src) (m : Nat) (k : ∀ S', IsSrc S' src → Kept [src] S S' → K (.bool true) S') : (mk tbl (m + 330)).callv 0 (.old 1688) [.ref src] S K := by
 rw [zbo (n := m + 329) (b := [(zae, .ref src)]) zKw rfl]
 have ls : src < S.n := h.elim λ _ h => h.elim λ _ h => h.2
 have kA : Kept [src] S ((S.add (.cell none)).add (.cell none)) := (Kept.add _).trans (Kept.add _)
 show (mk tbl (m + 329)).execs 0 (tG S.n (S.n + 1)) [(zae, .ref src)] zas.body ((S.add (.cell none)).add (.cell none)) _
 rw [zC8]
 have sp := zb7 (T := tbl) (z := 0) (n := m + 324) (Γ := tG S.n (S.n + 1)) (b := s4S :: s5S :: ((zas.body.drop 6).take 2 ++ [s8S, s9S, ztk])) (K := λ fl _ st => K (zck fl) st) (zas.body.take 4) [(zae, .ref src)] ((S.add (.cell none)).add (.cell none))
 refine sp.mpr ?_
 have M0 := zgd (S := (S.add (.cell none)).add (.cell none)) (as := [S.n, S.n + 1]) (l := [.cell none, .cell none]) ⟨(Lies.new S _).add _, Lies.new (S.add _) _, rfl⟩ (List.nodup_cons.mpr ⟨λ e => absurd (msx e) (Nat.ne_of_lt (Nat.lt_succ_self _)), List.pairwise_singleton _ _⟩)
 refine zcn (f := adr [S.n, S.n + 1] (S.n + 2)) (Γ := tG 0 1) (σ := [(zae, .ext src)]) (m := m + 129) ((zJd src).mpr rfl) M0 λ fl σ s S1 hv M => zA6 hv λ e1 e2 en eg => ?_
 have nw : ∀ i, S.n ≤ adr [S.n, S.n + 1] (S.n + 2) i := λ i => match i with
   | 0 => Nat.le_refl _
   | 1 => Nat.le_succ _
   | i + 2 => ltx (zft _ 2) (zft _ _)
 have l49 : 49 ≤ s.n := blx en
 have RB := zB0 M eg (λ i hi => llx (zrc.2.1 i hi) l49) zrc.1 (zwe false) S1.n
 have nwl : ∀ x ∈ rnA.map (adr [S.n, S.n + 1] (S.n + 2)), S.n ≤ x := λ x hx => (List.mem_map.mp hx).elim λ i h => h.2 ▸ nw i
 have kD : Keep (· ∈ [S.n, S.n + 1]) ((S.add (.cell none)).add (.cell none)) S1 := Em.keep (S := (S.add (.cell none)).add (.cell none)) (as := [S.n, S.n + 1]) M (ltx (show 2 ≤ 49 by decide) l49)
 have nw2 : ∀ x ∈ [S.n, S.n + 1], S.n ≤ x := λ x m => (List.mem_cons.mp m).elim (λ e => Nat.le_of_eq e.symm) λ m => msx m ▸ Nat.le_succ _
 have O1 : OpF S S1 src S.n (S.n + 1) (adr [S.n, S.n + 1] (S.n + 2) 3) (adr [S.n, S.n + 1] (S.n + 2) 11) false (rnA.map (adr [S.n, S.n + 1] (S.n + 2))) := ⟨RB.1, RB.2, nwl, rfl, rfl, rfl, rfl, IsSrc.keepT ((h.plus _).plus _) kD λ m => absurd ls (Nat.not_lt.mpr (nw2 _ m)), kD.new kA nw2, ls⟩
 cases e1
 cases e2
 show (mk tbl (m + 325)).execs 0 (tG S.n (S.n + 1)) (tL (.ref src) (.ref (adr [S.n, S.n + 1] (S.n + 2) 3)) (.ref (adr [S.n, S.n + 1] (S.n + 2) 11))) (s4S :: s5S :: ((zas.body.drop 6).take 2 ++ [s8S, s9S, ztk])) S1 (λ fl _ st => K (zck fl) st)
 clear M M0 RB eg sp hv kD
 generalize adr [S.n, S.n + 1] (S.n + 2) 3 = t at *
 generalize adr [S.n, S.n + 1] (S.n + 2) 11 = r at *
 generalize rnA.map (adr [S.n, S.n + 1] (S.n + 2)) = as at *
 refine zce ((zHv tbl (m + 294) S1 _ (tL (.ref src) (.ref t) (.ref r)) (tG S.n (S.n + 1))).mpr (Opt.of rfl (znu O1.sr (top := 2) (by decide) (by decide) (m + 280) λ j S2 hj h2 k2 => Opt.of (a := decide ((j : Int) = 0)) rfl ?_)))
 have O2 := O1.keep k2 h2
 cases decide ((j : Int) = 0) with
 | false => exact zGd O2 m λ _ S' a b => k S' a b
 | true =>
   have lift := zcn (f := adr as S2.n) (m := m + 123) (K := λ fl σ st => match fl with | .next => (mk tbl (m + 324)).execs 0 (tG S.n (S.n + 1)) σ (s5S :: ((zas.body.drop 6).take 2 ++ [s8S, s9S, ztk])) st (λ fl _ st => K (zck fl) st) | .ret v => K (zck (.ret v)) st) ((zMw src).mpr rfl) (zgd O2.A O2.nd) λ fl σ s S3 hv M => zA6 hv λ e1 e2 en eg => ?_
   · rw [show (tG 0 1).map (mQ (adr as S2.n)) = tG (adr as S2.n 0) (adr as S2.n 1) from rfl, show (tL (.ext src) (.ref 3) (.ref 11)).map (mP (adr as S2.n)) = tL (.ref src) (.ref (adr as S2.n 3)) (.ref (adr as S2.n 11)) from rfl, ze5 O2.e0, ze5 O2.e1, ze5 O2.e3, ze5 O2.e11] at lift
     exact lift
   · have l49 : 49 ≤ s.n := blx en
     have RB := zB0 M eg (λ i hi => llx (zrc.2.2.2 i hi) l49) zrc.2.2.1 (zwe true) S3.n
     have kD := M.keep (as := as) (by rw [zgq O2.A.facts]; exact ltx (blx rfl) l49)
     have O3 : OpF S S3 src S.n (S.n + 1) t r true (rnQ.map (adr as S2.n)) := ⟨RB.1, RB.2, λ x hx => (List.mem_map.mp hx).elim λ i h => h.2 ▸ zA8 O2 i, congrArg some (ze5 O2.e0 S2.n), congrArg some (ze5 O2.e1 S2.n), congrArg some (ze5 O2.e3 S2.n), congrArg some (ze5 O2.e11 S2.n), IsSrc.keepT O2.sr kD λ m => absurd ls (Nat.not_lt.mpr (O2.nw _ m)), kD.new O2.kp O2.nw, ls⟩
     cases e1
     cases e2
     show (mk tbl (m + 324)).execs 0 (tG S.n (S.n + 1)) (tL (.ref src) (.ref (adr as S2.n 3)) (.ref (adr as S2.n 11))) (s5S :: ((zas.body.drop 6).take 2 ++ [s8S, s9S, ztk])) S3 (λ fl _ st => K (zck fl) st)
     rw [ze5 O2.e3, ze5 O2.e11]
     exact zGd O3 m λ _ S' a b => k S' a b
end
noncomputable def zs2 : List (List Nat) := [[50], [32, 50, 32], [50, 46, 48], [45, 50], [49, 46, 53]]
noncomputable def zse : AO := .dict [([50], .int 4), ([32, 50, 32], .int 4), ([50, 46, 48], .int 4), ([45, 50], .int (-4)), ([49, 46, 53], .int 3)]
noncomputable def ztu : PE := .call (.glb zbd (.old 1661)) [(.cel zae), (.lst [(.txt [50]), (.txt [32, 50, 32]), (.txt [50, 46, 48]), (.txt [45, 50]), (.txt [49, 46, 53])])]
section
variable (T : Tbl) (m : Nat) (S : Store) (KX : KX) (K : KV) (c0 c1 c2 c3 : Nat)
noncomputable def sG : zaw := [(zci, c3), (zmk, c2), (ze1, c1), (zae, c0)]
theorem zOp : (mk T (m + 20)).exec 0 (sG c0 c1 c2 c3) [] (.asc ze1 (.dct [[50], [32, 50, 32], [50, 46, 48], [45, 50], [49, 46, 53]] [(.num 4), (.num 4), (.num 4), (.neg (.num 4)), (.num 3)])) S KX = Opt ((S.add zse).cl c1) λ _ => KX .next [] ((S.add zse).set c1 (.cell (some (.ref S.n)))) := by kernel_rfl
theorem zN8 : (mk T (m + 20)).exec 0 (sG c0 c1 c2 c3) [] (.asc zci (.lc ztu false [ze7] (.call (.glb zdg (.bi .range)) [(.call (.glb zbj (.old 1654)) [(.cel zae), (.num 5)])]) [])) S KX =
   Opt (S.cl c0) λ o => Opt o λ v => (mk T (m + 15)).callv 0 (.old 1654) [v, .int 5] S λ k st => Opt (biv T .range [k] st) λ q => Chk q.1 (Opt (zeh q.2.2 q.2.1) λ src => (mk T (m + 18)).cloop (zrf src 0 q.2.2) (sG c0 c1 c2 c3) [] ztu false [ze7] [] src [] q.2.2 λ v st => Opt (st.cl c3) λ _ => KX .next [] (st.set c3 (.cell (some v)))) := by kernel_rfl
theorem zN3 (z : Nat) (σ : zaf) : (mk T (m + 10)).ev z (sG c0 c1 c2 c3) σ ztu S K = Opt (S.cl c0) λ o => Opt o λ v => (mk T (m + 9)).callv z (.old 1661) [v, .ref S.n] (S.add (.list (zs2.map .str))) K := by kernel_rfl
end
section
variable {S S' S0 : Store} {src c0 c1 c2 c3 : Nat} {K : KX}
theorem IsSrc.add (h : IsSrc S src) (o : AO) : IsSrc (S.add o) src := h.keep (Kept.add (X := []) _) λ m => nomatch m
structure SdF (S : Store) (src c0 c1 c2 c3 W TL : Nat) (ts : List (List Nat)) : Prop where
 sr : IsSrc S src
 c0 : Lies S c0 (.cell (some (.ref src)))
 c1 : Lies S c1 (.cell (some (.ref W)))
 c2 : Lies S c2 (.cell none)
 c3 : Lies S c3 (.cell (some (.ref TL)))
 w : Lies S W zse
 tl : Lies S TL (.list (ts.map .str))
 ne : TL ≠ src
 len : ts.length ≤ 4
 mem : ∀ t ∈ ts, t ∈ zs2
theorem zLm {ss : List PS} (h : IsSrc S src) (h0 : Lies S c0 (.cell (some (.ref src)))) (h1 : Lies S c1 (.cell none)) (h2 : Lies S c2 (.cell none)) (h3 : Lies S c3 (.cell none)) (n13 : c1 ≠ c3) (n12 : c1 ≠ c2) (n23 : c2 ≠ c3) (n01 : c0 ≠ c1) (n03 : c0 ≠ c3) (m : Nat)
   (k : ∀ S' W TL ts, SdF S' src c0 c1 c2 c3 W TL ts → S.n ≤ W → W < TL → S.n ≤ S'.n → (∀ j o, Lies S j o → j ≠ c1 → j ≠ c3 → (o.isL = true → j ≠ src) → Lies S' j o) → (mk tbl (m + 118)).execs 0 (sG c0 c1 c2 c3) [] ss S' K) :
   (mk tbl (m + 120)).execs 0 (sG c0 c1 c2 c3) [] (.asc ze1 (.dct [[50], [32, 50, 32], [50, 46, 48], [45, 50], [49, 46, 53]] [(.num 4), (.num 4), (.num 4), (.neg (.num 4)), (.num 3)]) :: .asc zci (.lc ztu false [ze7] (.call (.glb zdg (.bi .range)) [(.call (.glb zbj (.old 1654)) [(.cel zae), (.num 5)])]) []) :: ss) S K := by
 refine zce ((zOp tbl (m + 99) S _ c0 c1 c2 c3).mpr (Opt.of (zb6 (h1.add _)) (zce ((zN8 tbl (m + 98) _ _ c0 c1 c2 c3).mpr ?_))))
 have a0 := (h0.add zse).setC (o' := .cell (some (.ref S.n))) n01
 have a1 := (h1.add zse).setS (o' := .cell (some (.ref S.n)))
 have a2 := (h2.add zse).setC (o' := .cell (some (.ref S.n))) n12.symm
 have a3 := (h3.add zse).setC (o' := .cell (some (.ref S.n))) n13.symm
 have aw := (Lies.new S zse).setC (o' := .cell (some (.ref S.n))) (λ e => absurd h1.2 (Nat.not_lt.mpr (Nat.le_of_eq e)))
 have a := λ j o (q : Lies S j o) (n : j ≠ c1) => (q.add zse).setC (o' := .cell (some (.ref S.n))) n
 have hs : IsSrc ((S.add zse).set c1 (.cell (some (.ref S.n)))) src := by
   obtain ⟨x, y, q⟩ := h
   exact ⟨x, y, a _ _ q λ e => by cases e; exact nomatch q.1.symm.trans h1.1⟩
 have hn : S.n ≤ ((S.add zse).set c1 (.cell (some (.ref S.n)))).n := Nat.le_succ _
 generalize (S.add zse).set c1 (.cell (some (.ref S.n))) = S1 at *
 refine Opt.of (zb6 a0) (Opt.of rfl (znu hs (top := 5) (by decide) (by decide) (m + 73) λ j S2 hj h2' k2 => Opt.of rfl (Chk.of ?_ (Opt.of (by show ((S2.add _).get S2.n).bind _ = _; rw [(Lies.new S2 _).1]; rfl) ?_))))
 · have h7 : (-1000 : Int) ≤ (j : Int) ∧ (j : Int) ≤ 1000 := by lia
   show (decide (-1000 ≤ (j : Int)) && decide ((j : Int) ≤ 1000)) = true
   rw [decide_eq_true h7.1, decide_eq_true h7.2]; rfl
 · obtain ⟨q, e⟩ := Nat.le.dest hj
   have e : j + 1 + q = 5 := e
   show (mk tbl (m + 116)).cloop 0 (sG c0 c1 c2 c3) [] ztu false [ze7] [] (.rng 0 1 j) [] (S2.add (.rng 0 1 j)) _
   rw [show m + 116 = m + q + 41 + 69 + j + 2 from by lia]
   have k3 : Kept [src] S1 (S2.add (.rng 0 1 j)) := k2.trans (Kept.add _)
   refine znm (Inv := λ acc st => ∃ ts, acc = ts.map AV.str ∧ (∀ t ∈ ts, t ∈ zs2) ∧ IsSrc st src ∧ Kept [src] S1 st) (λ σ acc S3 K m I k => ?_) j (m + q + 41) 0 1 [] [] _ (by show 0 + j ≤ 1000; lia) ⟨[], rfl, (λ t m => nomatch m), h2'.add _, k3⟩ λ vs S3 hl I => ?_
   · obtain ⟨ts, I1, I2, I3, I4⟩ := I
     refine (zN3 tbl (m + 59) S3 K c0 c1 c2 c3 0 σ).mpr (Opt.of (zb6 (I4.at' a0 nb)) (Opt.of rfl (zs1 (I3.add _) (Lies.new S3 _) ?_ (by decide) (by decide) (m + 8) λ v S4 hv h4 k4 => ?_)))
     · obtain ⟨x, y, q⟩ := I3
       exact λ e => absurd q.2 (Nat.not_lt.mpr (Nat.le_of_eq e))
     · obtain ⟨t, ht, rfl⟩ := List.mem_map.mp hv
       exact k _ _ ⟨ts ++ [t], by rw [I1, List.map_append]; rfl, λ t' h' => (List.mem_append.mp h').elim (I2 t') λ h' => msx h' ▸ ht, h4, I4.trans ((Kept.add _).trans k4)⟩
   · obtain ⟨ts, I1, I2, I3, I4⟩ := I
     have l3 := (I4.at' a3 nb).2
     have I4' := I4
     have I4 := I4.trans (Kept.add (.list ([] ++ vs)))
     refine Opt.of (zb6 (I4.at' a3 nb)) (k _ S.n S3.n ts ⟨?_, (I4.at' a0 nb).setC n03, (I4.at' a1 nb).setC n13, (I4.at' a2 nb).setC n23, (I4.at' a3 nb).setS, (I4.at' aw nb).setC ?_, ?_, ?_, ?_, I2⟩ (Nat.le_refl _) (llx aw.2 I4'.n) (ltx hn I4.n) λ z o q n1 n2 n3 => (I4.at' (a z o q n1) λ l m => n3 l (msx m)).setC n2)
     · obtain ⟨x, y, q⟩ := I3.add (.list ([] ++ vs))
       exact ⟨x, y, q.setC λ e => by cases e; exact nomatch q.1.symm.trans (I4.at' a3 nb).1⟩
     · exact λ e => absurd h3.2 (Nat.not_lt.mpr (Nat.le_of_eq e))
     · rw [← I1]
       exact (Lies.new S3 _).setC λ e => absurd l3 (Nat.not_lt.mpr (Nat.le_of_eq e))
     · obtain ⟨x, y, q⟩ := I3
       exact λ e => absurd q.2 (Nat.not_lt.mpr (Nat.le_of_eq e))
     · have : ts.length = j := by rw [← hl]; exact (List.length_map _).symm.trans (congrArg List.length I1.symm)
       rw [this]; exact Nat.le_of_lt_succ hj
end
noncomputable def tnB : List PS := [.asc zai (.call (.loc zbg) [(.idx (.loc zau) (.loc zbn)), (.bin .add (.loc zbn) (.num 1)), (.call (.glb zdi (.bi .len)) [(.loc zau)])]),
 .asg zbb (.lc (.call (.glb zff (.old 1424)) [(.loc zb0), (.loc za5), (.cel zai)]) true [zb0, za5, za1, zdh] (.loc zfl) []),
 .exp (.mth (.loc zb9) za0 [(.tpl [(.loc zbb), (.idx (.loc zau) (.loc zbn))])])]
noncomputable def pOf (t : List Nat) : Nat := match decide (t = [45, 50]) || decide (t = [49, 46, 53]) with | true => 29 | false => 28
noncomputable def zgg (t : List Nat) : Int := match decide (t = [45, 50]) with | true => -4 | false => match decide (t = [49, 46, 53]) with | true => 3 | false => 4
noncomputable def num (w : Int) : Int × Int := match decide (w = -4) with | true => (-2, 1) | false => match decide (w = 3) with | true => (3, 2) | false => (2, 1)
noncomputable def nmT (t : List Nat) : Int × Int := num (zgg t)
section
variable (as : Nat → List Nat) (tl nl acc : List AV) (r x : Nat)
noncomputable def ndO (k : Nat) : List AV := (List.range k).map λ i => .int ((30 + i : Nat) : Int)
noncomputable def tnO (k : Nat) (t : List Nat) (cc : Option AV) (acc : List AV) : List AO := [.cell (some (.ref 1)), .list ((List.range k).map (λ i => AV.str (as i)) ++ .str t :: tl), .list (ndO (k + 1) ++ nl), .fn 2 [(zci, 0)], .fields [(zah, .str [107])], .inst 1144 4, .tup [.ref 5, .bool true, .bool false, .none], .list [.ref 6], .cell cc, .fields [(za5, .bool true), (za1, .bool false), (zbp, .none)], .inst 1366 9, .list [.ref 10], .list acc]
noncomputable def tnC (k : Nat) : Option AV := match k with | 0 => none | _ => some (.ext x)
noncomputable def tnL (k : Nat) (row : List (Nat × AV)) : zaf := [(zau, .ref 2), (zfl, .ref 7), (zbg, .ref 3), (zbl, .ref 11), (zb9, .ref 12), (zbn, .int k)] ++ row
noncomputable def tnP (k : Nat) : List (Nat × AV) := match k with | 0 => [] | _ => [(zbb, .ext r)]
noncomputable def tnV (k : Nat) (t : List Nat) : FL × zaf × Nat × List (Option AO) := (.next, tnL k [(zbb, .ref (pOf t - 1))], pOf t + 1, (tnO as tl nl k t (some (.ref 15)) (acc ++ [AV.ref (pOf t)]) ++ [AO.tup [.int (nmT t).1, .int (nmT t).2], .list [.ref (pOf t - 2)], .tup [.ref (pOf t - 1), .int ((30 + k : Nat) : Int)]]).map some)
noncomputable def tnR (k : Nat) (t : List Nat) : Prop := (mk tbl 200).execs 0 [(zai, 8)] (tnL k (tnP r k)) tnB (Store.ofList (tnO as tl nl k t (tnC x k) acc)) λ fl σ s => (fl, σ, s.n, [0, 1, 2, 3, 4, 5, 6, 7, 8, 9, 10, 11, 12, pOf t - 2, pOf t - 1, pOf t].map s.get) = tnV as tl nl acc k t
end
theorem zLr (as : Nat → List Nat) (tl nl acc : List AV) (r x : Nat) : ([0, 1, 2, 3].map λ k => zs2.map λ t => tnR as tl nl acc r x k t) = ([0, 1, 2, 3].map λ k => zs2.map λ t => Chk (Nat.ble acc.length 1000) (tnV as tl nl acc k t = tnV as tl nl acc k t)) := by kernel_rfl
structure SA where
 c3 : Nat
 TL : Nat
 N : Nat
 CF : Nat
 vf : Nat
 vn : Nat
 KT : Nat
 KL : Nat
 cc : Nat
 oF : Nat
 oI : Nat
 O : Nat
 PL : Nat
noncomputable def SA.all (a : SA) : List Nat := [a.c3, a.TL, a.N, a.CF, a.vf, a.vn, a.KT, a.KL, a.cc, a.oF, a.oI, a.O, a.PL]
noncomputable def zei : List (Nat × Nat × Nat) → List Nat
 | [] => []
 | q :: ps => q.1 :: q.2.1 :: q.2.2 :: zei ps
section
variable {S0 S S' : Store} {a : SA} {ts : List (List Nat)} {ps : List (Nat × Nat × Nat)} {k : Nat} {K : KX} {q : Nat × Nat × Nat}
structure PairF (S : Store) (P : Nat) (q : Nat × Nat × Nat) (w : Int) (i : Nat) : Prop where
 v : Lies S q.1 (.tup [.int (num w).1, .int (num w).2])
 r : Lies S q.2.1 (.list [.ref q.1])
 p : Lies S q.2.2 (.tup [.ref q.2.1, .int ((30 + i : Nat) : Int)])
 lt : P < q.1 ∧ q.1 < q.2.1 ∧ q.2.1 < q.2.2
noncomputable def PairsF (S : Store) (P : Nat) : Nat → List (Nat × Nat × Nat) → List Int → Prop
 | _, [], ws => ws = []
 | i, q :: ps, ws => match ws with
   | [] => False
   | w :: ws => PairF S P q w i ∧ PairsF S q.2.2 (i + 1) ps ws
theorem Keep.lo {P : Nat} {as : List Nat} (h : Keep (· ∈ as) S S') (hl : ∀ x ∈ as, x ≤ P) {j : Nat} {o : AO} (e : Lies S j o) (l : P < j) : Lies S' j o := ⟨h.get j o (λ m => absurd l (Nat.not_lt.mpr (hl _ m))) e.2 e.1, llx e.2 h.n⟩
theorem PairsF.keep {as : List Nat} {Q : Nat} (h : Keep (· ∈ as) S S') (hl : ∀ x ∈ as, x ≤ Q) : ∀ {P i : Nat} {ps : List (Nat × Nat × Nat)} {ws : List Int}, Q ≤ P → PairsF S P i ps ws → PairsF S' P i ps ws
 | _, _, [], _, _, e => e
 | _, _, _ :: _, [], _, e => e.elim
 | P, i, q :: ps, w :: ws, l, e =>
   have l1 := Nat.lt_of_le_of_lt l e.1.lt.1
   have l2 := Nat.lt_trans l1 e.1.lt.2.1
   have l3 := Nat.lt_trans l2 e.1.lt.2.2
   ⟨⟨h.lo hl e.1.v l1, h.lo hl e.1.r l2, h.lo hl e.1.p l3, e.1.lt⟩, PairsF.keep h hl (ps := ps) (ws := ws) (Nat.le_of_lt l3) e.2⟩
theorem PairsF.snoc {q : Nat × Nat × Nat} {w : Int} {L : Nat} : ∀ {P i : Nat} {ps : List (Nat × Nat × Nat)} {ws : List Int}, PairsF S P i ps ws → P < L → (∀ p ∈ ps, p.2.2 < L) → (∀ P, P < L → PairF S P q w (i + ps.length)) → PairsF S P i (ps ++ [q]) (ws ++ [w])
 | P, i, [], _, e, l, _, h => by cases (e : _ = []); exact ⟨h P l, rfl⟩
 | _, _, _ :: _, [], e, _, _, _ => e.elim
 | P, i, p :: ps, w' :: ws, e, l, m, h => ⟨e.1, PairsF.snoc (ps := ps) (ws := ws) e.2 (m p (.head _)) (λ p' h' => m p' (.tail _ h')) λ P lp => by rw [Nat.add_assoc, Nat.add_comm 1]; exact h P lp⟩
theorem PairsF.lt : ∀ {P i : Nat} {ps : List (Nat × Nat × Nat)} {ws : List Int}, PairsF S P i ps ws → ∀ p ∈ ps, p.2.2 < S.n
 | _, _, [], _, _, _, m => nomatch m
 | _, _, _ :: _, [], e, _, _ => e.elim
 | _, _, q :: ps, _ :: ws, e, p, m => (List.mem_cons.mp m).elim (λ h => h ▸ e.1.p.2) λ m => PairsF.lt (ps := ps) (ws := ws) e.2 p m
structure TnF (S0 S : Store) (a : SA) (ts : List (List Nat)) (ps : List (Nat × Nat × Nat)) (k : Nat) : Prop where
 c3 : Lies S a.c3 (.cell (some (.ref a.TL)))
 tl : Lies S a.TL (.list (ts.map .str))
 n : Lies S a.N (.list (ndO ts.length))
 cf : Lies S a.CF (.fn 2 [(zci, a.c3)])
 vf : Lies S a.vf (.fields [(zah, .str [107])])
 vn : Lies S a.vn (.inst 1144 a.vf)
 kt : Lies S a.KT (.tup [.ref a.vn, .bool true, .bool false, .none])
 kl : Lies S a.KL (.list [.ref a.KT])
 cc : ∃ x, Lies S a.cc (.cell (match k with | 0 => none | _ => some (.ref x)))
 oF : Lies S a.oF (.fields [(za5, .bool true), (za1, .bool false), (zbp, .none)])
 oI : Lies S a.oI (.inst 1366 a.oF)
 o : Lies S a.O (.list [.ref a.oI])
 pl : Lies S a.PL (.list (ps.map λ q => .ref q.2.2))
 pf : PairsF S a.PL 0 ps ((ts.take k).map zgg)
 len : ps.length = k
 ord : a.all.Pairwise (· < ·)
 kp : Kept [] S0 S
 n1 : S0.n ≤ a.cc
 n2 : S0.n ≤ a.PL
noncomputable def snL (a : SA) (k : Nat) (row : List (Nat × AV)) : zaf := [(zau, .ref a.N), (zfl, .ref a.KL), (zbg, .ref a.CF), (zbl, .ref a.O), (zb9, .ref a.PL), (zbn, .int k)] ++ row
theorem zsd (h : k < ts.length) : (List.range k).map (λ i => AV.str (ts[i]?.getD [])) ++ .str ts[k] :: (ts.drop (k + 1)).map .str = ts.map .str := by
 have e1 : (List.range k).map (λ i => AV.str (ts[i]?.getD [])) = (ts.take k).map .str := by
   refine List.ext_getElem ?_ λ i h1 h2 => ?_
   · rw [List.length_map, List.length_map, List.length_range, List.length_take, Nat.min_eq_left (Nat.le_of_lt h)]
   · rw [List.length_map, List.length_range] at h1
     rw [List.getElem_map, List.getElem_map, List.getElem_range, List.getElem_take, List.getElem?_eq_getElem (Nat.lt_trans h1 h)]; rfl
 rw [e1, ← List.map_cons, ← List.map_append, ← List.drop_eq_getElem_cons h, List.take_append_drop]
theorem zqu {n : Nat} (h : k < n) : ndO (k + 1) ++ (ndO n).drop (k + 1) = ndO n := by
 have : ndO (k + 1) = (ndO n).take (k + 1) := by unfold ndO; rw [← List.map_take, List.take_range, Nat.min_eq_left h]
 rw [this, List.take_append_drop]
theorem zke (n : Nat) : (ndO n).all AV.flat = true := by
 unfold ndO
 rw [List.all_map]
 exact List.all_eq_true.mpr λ _ _ => rfl
theorem zOw {α β γ δ : Type} {a a' : α} {b b' : β} {c c' : γ} {d d' : δ} {G : Prop} (h : (a, b, c, d) = (a', b', c', d')) (k : a = a' → b = b' → c = c' → d = d' → G) : G := zA6 h k
theorem zzo (as : Nat → List Nat) (tl nl acc : List AV) (r x : Nat) {t : List Nat} (hk : k < 4) (ht : t ∈ zs2) (hl : acc.length ≤ 1000) : tnR as tl nl acc r x k t := by
 have h1 := List.map_inj_left.mp (zLr as tl nl acc r x) k (by match k, hk with | 0, _ => exact .head _ | 1, _ => exact .tail _ (.head _) | 2, _ => exact .tail _ (.tail _ (.head _)) | 3, _ => exact .tail _ (.tail _ (.tail _ (.head _))))
 have h2 := List.map_inj_left.mp h1 t ht
 exact h2.mpr (Chk.of (lbx hl) rfl)
theorem pO (t : List Nat) : ∃ p, pOf t = p + 28 := by
 unfold pOf
 cases decide (t = [45, 50]) || decide (t = [49, 46, 53])
 · exact ⟨0, rfl⟩
 · exact ⟨1, rfl⟩
theorem zgx {l : List Nat} (h : l.Pairwise (· < ·)) : l.Nodup := h.imp Nat.ne_of_lt
theorem zEz {r : Nat} (F : TnF S0 S a ts ps k) (hk : k < ts.length) (hl : ts.length ≤ 4) (ht : ∀ t ∈ ts, t ∈ zs2) (m : Nat) (q : ∀ S' p r', TnF S0 S' a ts (ps ++ [p]) (k + 1) → K .next (snL a k [(zbb, .ref r')]) S') :
   (mk tbl (m + 200)).execs 0 [(zai, a.cc)] (snL a k (match k with | 0 => [] | _ => [(zbb, .ref r)])) tnB S K := by
 obtain ⟨x, cx⟩ := F.cc
 have A : AtL S (adr a.all S.n) a.all (tnO (λ i => ts[i]?.getD []) ((ts.drop (k + 1)).map .str) ((ndO ts.length).drop (k + 1)) k ts[k] (tnC x k) (ps.map λ q => .ext q.2.2)) := by
   unfold tnO
   rw [zsd hk, zqu hk]
   refine ⟨F.c3, ?_, ?_, F.cf, F.vf, F.vn, F.kt, F.kl, ?_, F.oF, F.oI, F.o, ?_, rfl⟩
   · show Lies S a.TL (.list ((ts.map AV.str).map _))
     rw [List.map_map]; exact F.tl
   · show Lies S a.N (.list ((ndO ts.length).map _))
     rw [zgi (zke _)]; exact F.n
   · cases k <;> exact cx
   · show Lies S a.PL (.list ((ps.map λ q => AV.ext q.2.2).map _))
     rw [List.map_map]; exact F.pl
 have run := zzo (λ i => ts[i]?.getD []) ((ts.drop (k + 1)).map .str) ((ndO ts.length).drop (k + 1)) (ps.map λ q => .ext q.2.2) r x (llx hk hl) (ht _ (List.getElem_mem hk)) (by rw [List.length_map, F.len]; exact ltx (Nat.le_of_lt (llx hk hl)) (by decide))
 have lift := zcn (m := m) (K := K) run (zgd A (zgx F.ord)) λ fl σ s S' hv M => zA6 hv λ e1 e2 en eg => by
   obtain ⟨p, ep⟩ := pO ts[k]
   have l3 : ∀ {i}, i ≤ p + 28 → i < s.n := λ h => by rw [en, ep]; exact Nat.lt_succ_of_le h
   have l0 : ∀ {i}, i ≤ 28 → i < s.n := λ h => l3 (ltx h (Nat.le_add_left _ _))
   rw [ep] at eg
   have g := λ j {i} e => zBi eg j (i := i) e
   cases e1
   cases e2
   have kp : Keep (· ∈ a.all) S S' := M.keep (l0 (show 12 ≤ 28 by decide))
   have v0 := Lies.em M (g 13 rfl) (l3 (ltx (Nat.sub_le _ 2) (Nat.le_refl _)))
   have v1 := Lies.em M (g 14 rfl) (l3 (Nat.sub_le _ 1))
   have v2 := Lies.em M (g 15 rfl) (l3 (Nat.le_refl _))
   have fr : ∀ i, 13 ≤ i → adr a.all S.n i = S.n + (i - 13) := λ i h => by
     obtain ⟨d, e⟩ := Nat.le.dest h
     cases e
     have : nth a.all (13 + d) = none := by rw [za6]; exact List.getElem?_eq_none (zft _ _)
     unfold adr
     rw [this]; rfl
   have fp : ∀ d, adr a.all S.n (p + (13 + d)) = S.n + (p + d) := λ d => by rw [fr _ (ltx (zft 13 d) (Nat.le_add_left _ _)), Nat.add_left_comm, Nat.add_sub_cancel_left]
   have lA : ∀ x ∈ a.all, x ≤ a.PL := λ x hx => by
     have := List.pairwise_append.mp (show ([a.c3, a.TL, a.N, a.CF, a.vf, a.vn, a.KT, a.KL, a.cc, a.oF, a.oI, a.O] ++ [a.PL]).Pairwise (· < ·) from F.ord)
     rcases List.mem_append.mp (show x ∈ [a.c3, a.TL, a.N, a.CF, a.vf, a.vn, a.KT, a.KL, a.cc, a.oF, a.oI, a.O] ++ [a.PL] from hx) with h | h
     · exact Nat.le_of_lt (this.2.2 x h _ (.head _))
     · exact Nat.le_of_eq (msx h)
   rw [ep]
   refine q S' (adr a.all S.n (p + 26), adr a.all S.n (p + 27), adr a.all S.n (p + 28)) _ ⟨Lies.em M (g 0 rfl) (l0 (by decide)), ?_, ?_, Lies.em M (g 3 rfl) (l0 (by decide)), Lies.em M (g 4 rfl) (l0 (by decide)), Lies.em M (g 5 rfl) (l0 (by decide)), Lies.em M (g 6 rfl) (l0 (by decide)), Lies.em M (g 7 rfl) (l0 (by decide)), ⟨_, Lies.em M (g 8 rfl) (l0 (by decide))⟩, Lies.em M (g 9 rfl) (l0 (by decide)), Lies.em M (g 10 rfl) (l0 (by decide)), Lies.em M (g 11 rfl) (l0 (by decide)), ?_, ?_, ?_, F.ord, ?_, F.n1, F.n2⟩
   · have t1 := Lies.em M (g 1 rfl) (l0 (by decide))
     rw [zsd hk] at t1
     have t1 : Lies S' a.TL (.list ((ts.map AV.str).map (mV (adr a.all S.n)))) := t1
     rw [List.map_map] at t1
     exact t1
   · have t1 := Lies.em M (g 2 rfl) (l0 (by decide))
     rw [zqu hk] at t1
     have t1 : Lies S' a.N (.list ((ndO ts.length).map (mV (adr a.all S.n)))) := t1
     rw [zgi (zke _)] at t1
     exact t1
   · have t1 : Lies S' a.PL (.list ((ps.map (λ q => AV.ext q.2.2) ++ [AV.ref (p + 28)]).map (mV (adr a.all S.n)))) := Lies.em M (g 12 rfl) (l0 (by decide))
     rw [List.map_append, List.map_map] at t1
     rw [List.map_append]
     exact t1
   · rw [List.take_add_one, List.getElem?_eq_getElem hk, List.map_append]
     refine (F.pf.keep kp lA (Nat.le_refl _)).snoc (L := S.n) F.pl.2 F.pf.lt λ P lP => ⟨v0, v1, ?_, ?_⟩
     · rw [Nat.zero_add, F.len]; exact v2
     · rw [fp 13, fp 14, fp 15]
       exact ⟨llx lP (zft _ _), Nat.lt_succ_self _, Nat.lt_succ_self _⟩
   · rw [List.length_append, F.len]; rfl
   · exact zmr F.kp A M (Nat.le_of_lt (l0 (i := 13) (by decide))) ⟨.inl (g 0 rfl), .inl (g 1 rfl), .inl (g 2 rfl), .inl (g 3 rfl), .inl (g 4 rfl), .inl (g 5 rfl), .inl (g 6 rfl), .inl (g 7 rfl), .inr (.inr F.n1), .inl (g 9 rfl), .inl (g 10 rfl), .inl (g 11 rfl), .inr (.inr F.n2), trivial⟩
 have e : (tnL k (tnP r k)).map (mP (adr a.all S.n)) = snL a k (match k with | 0 => [] | _ => [(zbb, .ref r)]) := by cases k <;> rfl
 rw [e] at lift
 exact lift
end
section
variable (T : Tbl) (m : Nat) (S : Store) (KX : KX) (Γ : zaw) (σ : zaf)
theorem zL8 : (mk T (m + 20)).exec 0 Γ σ (.fr false [(false, zbn)] (.call (.glb zdg (.bi .range)) [(.call (.glb zdi (.bi .len)) [(.loc zau)])]) tnB) S KX =
   Opt (lk zau σ) λ v => Opt (biv T .len [v] S) λ p => Chk p.1 (Opt (biv T .range [p.2.1] p.2.2) λ q => Chk q.1 (Opt (zeh q.2.2 q.2.1) λ src => Chk (!zfg src) ((mk T (m + 19)).floop 0 Γ σ false [(false, zbn)] src tnB q.2.2 KX))) := by kernel_rfl
theorem zJj : (mk T (m + 20)).exec 0 Γ σ (.ret (.call (.glb zdl (.old 1417)) [(.loc zbl), (.loc zb9)])) S KX =
   Opt (lk zbl σ) λ o => Opt (lk zb9 σ) λ p => (mk T (m + 18)).callv 0 (.old 1417) [o, p] S λ v st => KX (.ret v) σ st := by kernel_rfl
noncomputable def s7S : PS := .ret (.cmp .eq (.call (.glb zdx (.old 1429)) [(.loc zau), (.lst [(.tpl [(.call (.glb zd0 (.old 1144)) [(.txt [107])]), (.boo true), (.boo false), .non])]), (.loc zak)]) (.loc zc2))
theorem zGb : (mk T (m + 30)).exec 0 Γ σ s7S S KX = Opt (lk zau σ) λ nv => (mk T (m + 20)).callv 0 (.old 1144) [.str [107]] S λ vn st => Opt (lk zak σ) λ cv => (mk T (m + 27)).callv 0 (.old 1429) [nv, .ref (st.n + 1), cv] ((st.add (.tup [vn, .bool true, .bool false, .none])).add (.list [.ref st.n])) λ r st => Opt (lk zc2 σ) λ d => Opt (zhy .eq r d st) λ q => KX (.ret (.bool q)) σ st := by kernel_rfl
end
theorem zMc : zbr.body.drop 2 = [.fr false [(false, zbn)] (.call (.glb zdg (.bi .range)) [(.call (.glb zdi (.bi .len)) [(.loc zau)])]) tnB, .ret (.call (.glb zdl (.old 1417)) [(.loc zbl), (.loc zb9)])] := rfl
noncomputable def zMu (N CF vn : Nat) : FL × zaf × Nat × List (Option AO) := (.next, [(zau, .ext N), (zfl, .ref 1), (zbg, .ext CF), (zbl, .ref 5), (zb9, .ref 6)], 7, [AO.tup [.ext vn, .bool true, .bool false, .none], .list [.ref 0], .cell none, .fields [(za5, .bool true), (za1, .bool false), (zbp, .none)], .inst 1366 3, .list [.ref 4], .list []].map some)
theorem zEo (N CF vn : Nat) : (mk tbl 60).execs 0 [(zai, 2)] [(zau, .ext N), (zfl, .ref 1), (zbg, .ext CF)] (zbr.body.take 2) (Store.ofList [.tup [.ext vn, .bool true, .bool false, .none], .list [.ref 0], .cell none]) (λ fl σ s => (fl, σ, s.n, [0, 1, 2, 3, 4, 5, 6].map s.get) = zMu N CF vn) = (zMu N CF vn = zMu N CF vn) := by kernel_rfl
theorem zIa : (mk tbl 30).callv 0 (.old 1144) [.str [107]] (Store.ofList []) (λ w s => (w, s.n, [0, 1].map s.get) = (AV.ref 1, 2, [some (AO.fields [(zah, .str [107])]), some (.inst 1144 0)])) = ((AV.ref 1, 2, [some (AO.fields [(zah, .str [107])]), some (.inst 1144 0)]) = (AV.ref 1, 2, [some (AO.fields [(zah, .str [107])]), some (.inst 1144 0)])) := by kernel_rfl
theorem zGl : tbl.fn.get 1429 = some zbr := by kernel_rfl
noncomputable def zp4 {α : Type} (l : List α) : Nat → List (List α)
 | 0 => [[]]
 | n + 1 => l.flatMap λ x => (zp4 l n).map (x :: ·)
theorem znn {α : Type} {l : List α} : ∀ {ts : List α}, (∀ t ∈ ts, t ∈ l) → ts ∈ zp4 l ts.length
 | [], _ => .head _
 | t :: ts, h => List.mem_flatMap.mpr ⟨t, h t (.head _), List.mem_map.mpr ⟨ts, znn λ x m => h x (.tail _ m), rfl⟩⟩
noncomputable def zFi {α : Type} (l : List α) : List (List α) := zp4 l 0 ++ (zp4 l 1 ++ (zp4 l 2 ++ (zp4 l 3 ++ zp4 l 4)))
theorem zry {α : Type} {l ts : List α} (h : ∀ t ∈ ts, t ∈ l) (n : ts.length ≤ 4) : ts ∈ zFi l := by
 have m := znn h
 unfold zFi
 match hn : ts.length, n with
 | 0, _ => rw [hn] at m; exact List.mem_append_left _ m
 | 1, _ => rw [hn] at m; exact List.mem_append_right _ (List.mem_append_left _ m)
 | 2, _ => rw [hn] at m; exact List.mem_append_right _ (List.mem_append_right _ (List.mem_append_left _ m))
 | 3, _ => rw [hn] at m; exact List.mem_append_right _ (List.mem_append_right _ (List.mem_append_right _ (List.mem_append_left _ m)))
 | 4, _ => rw [hn] at m; exact List.mem_append_right _ (List.mem_append_right _ (List.mem_append_right _ (List.mem_append_right _ m)))
noncomputable def zku (w : Int) : Int → List Int → List Int
 | _, [] => []
 | i, x :: l => match decide (x = w) with | true => i :: zku w (i + 1) l | false => zku w (i + 1) l
noncomputable def zya (ws : List Int) : List Int := zku (-4) 30 ws ++ (zku 3 30 ws ++ zku 4 30 ws)
noncomputable def zJi (src : Nat) (ts : List (List Nat)) : List AO := [.cell (some (.ext src)), .cell (some (.ref 4)), .cell none, .cell (some (.ref 5)), zse, .list (ts.map .str)]
noncomputable def zN4 : zaf := [(zau, .ref 7), (zak, .ref 8), (zcp, .str [108, 97, 115, 116]), (zd3, .bool true), (zc2, .ref 7)]
noncomputable def zug (src : Nat) (ts : List (List Nat)) : FL × zaf × Bool × List (Option AO) := (.next, zN4, true, (zJi src ts).map some ++ [some (.list (ndO ts.length)), some (.fn 2 [(zci, 3)])])
noncomputable def zF0 (src : Nat) (ts : List (List Nat)) : Prop := (mk tbl 200).execs 0 (sG 0 1 2 3) [] ((zaj.body.drop 2).take 3) (Store.ofList (zJi src ts)) λ fl σ s => (fl, σ, Nat.blt 8 s.n, [0, 1, 2, 3, 4, 5, 7, 8].map s.get) = zug src ts
theorem zB9 (src : Nat) : ∀ ts : List (List Nat), ts.length ≤ 4 → zF0 src ts
 | [], _ => (show zF0 src [] = (zug src [] = zug src []) by kernel_rfl).mpr rfl
 | [a], _ => (show zF0 src [a] = (zug src [a] = zug src [a]) by kernel_rfl).mpr rfl
 | [a, b], _ => (show zF0 src [a, b] = (zug src [a, b] = zug src [a, b]) by kernel_rfl).mpr rfl
 | [a, b, c], _ => (show zF0 src [a, b, c] = (zug src [a, b, c] = zug src [a, b, c]) by kernel_rfl).mpr rfl
 | [a, b, c, d], _ => (show zF0 src [a, b, c, d] = (zug src [a, b, c, d] = zug src [a, b, c, d]) by kernel_rfl).mpr rfl
 | _ :: _ :: _ :: _ :: _ :: _, h => absurd h (by simp)
noncomputable def zLy (src CF : Nat) (ts : List (List Nat)) : FL × Option AV × Option AV × Option AO × Option Bool × Bool × List (Option AO) := (.next, some (.ref 6), some (.ext CF), some (.list ((zya (ts.map zgg)).map .int)), some true, true, [some (.cell (some (.ext src))), some (.cell (some (.ref 5))), some (.list (ts.map .str)), some (.list (ndO ts.length))])
noncomputable def zNs (src CF : Nat) (ts : List (List Nat)) : Prop := (mk tbl 100).execs 0 (sG 0 1 2 3) [(zau, .ref 6), (zak, .ext CF), (zcp, .str [108, 97, 115, 116]), (zd3, .bool true), (zc2, .ref 6)] ((zaj.body.drop 5).take 2) (Store.ofList (zJi src ts ++ [.list (ndO ts.length)])) λ fl σ s => (fl, lk zau σ, lk zak σ, ((lk zc2 σ).bind AV.toR).bind s.get, ((lk zc2 σ).bind AV.toR).map (λ i => Nat.blt i s.n), Nat.ble 7 s.n, [0, 3, 5, 6].map s.get) = zLy src CF ts
theorem zCs (src CF : Nat) : (zFi zs2).map (zNs src CF) = (zFi zs2).map λ ts => zLy src CF ts = zLy src CF ts := by kernel_rfl
noncomputable def zwq : Nat → List Int → List AO
 | _, [] => []
 | i, w :: ws => .tup [.int (num w).1, .int (num w).2] :: .list [.ref (3 * i + 4)] :: .tup [.ref (3 * i + 5), .int ((30 + i : Nat) : Int)] :: zwq (i + 1) ws
noncomputable def zI0 (ws : List Int) : List AO := .fields [(za5, .bool true), (za1, .bool false), (zbp, .none)] :: .inst 1366 0 :: .list [.ref 1] :: .list ((List.range ws.length).map λ i => .ref (3 * i + 6)) :: zwq 0 ws
noncomputable def zCd (ws : List Int) : Option AO × Option Bool × Bool := (some (.list ((zya ws).map .int)), some true, true)
noncomputable def zIh (ws : List Int) : Prop := (mk tbl 100).callv 0 (.old 1417) [.ref 2, .ref 3] (Store.ofList (zI0 ws)) λ v s => (v.toR.bind s.get, v.toR.map (λ i => Nat.blt i s.n), Nat.ble (4 + ws.length * 3) s.n) = zCd ws
theorem zzg : (zFi [(4 : Int), -4, 3]).map zIh = (zFi [(4 : Int), -4, 3]).map λ ws => zCd ws = zCd ws := by kernel_rfl
theorem zml : ∀ {ps : List (Nat × Nat × Nat)} {i : Nat} {q : Nat × Nat × Nat}, ps[i]? = some q → nth (zei ps) (3 * i) = some q.1 ∧ nth (zei ps) (3 * i + 1) = some q.2.1 ∧ nth (zei ps) (3 * i + 2) = some q.2.2
 | [], _, _, h => nn h
 | _ :: _, 0, _, h => by cases h; exact ⟨rfl, rfl, rfl⟩
 | _ :: ps, i + 1, _, h => zml (ps := ps) (i := i) h
section
variable {S S0 S' : Store} {a : SA} {ts : List (List Nat)} {ps : List (Nat × Nat × Nat)} {K : KV}
theorem zJb {f : Nat → Nat} : ∀ {ws : List Int} {ps : List (Nat × Nat × Nat)} {P i : Nat}, PairsF S P i ps ws → (∀ j q, ps[j]? = some q → f (3 * (i + j) + 4) = q.1 ∧ f (3 * (i + j) + 5) = q.2.1 ∧ f (3 * (i + j) + 6) = q.2.2) → AtL S f (zei ps) (zwq i ws) := by
 intro ws
 induction ws with
 | nil =>
   intro ps P i h _
   cases ps with
   | nil => rfl
   | cons => exact h.elim
 | cons w ws ih =>
 intro ps P i h hf
 cases ps with
 | nil => exact nomatch (show _ = [] from h)
 | cons q ps =>
   obtain ⟨h1, h2, h3⟩ := hf 0 q rfl
   refine ⟨h.1.v, ?_, ?_, ih h.2 λ j q' e => ?_⟩
   · show Lies S q.2.1 (.list [.ref (f (3 * i + 4))])
     rw [show f (3 * i + 4) = q.1 from h1]; exact h.1.r
   · show Lies S q.2.2 (.tup [.ref (f (3 * i + 5)), .int ((30 + i : Nat) : Int)])
     rw [show f (3 * i + 5) = q.2.1 from h2]; exact h.1.p
   · have := hf (j + 1) q' e
     rw [← Nat.add_assoc, Nat.add_right_comm] at this
     exact this
theorem zmy : ∀ {ps : List (Nat × Nat × Nat)} {ws : List Int} {P i : Nat}, PairsF S P i ps ws → (∀ x ∈ zei ps, P < x) ∧ (zei ps).Pairwise (· < ·)
 | [], _, _, _, _ => ⟨(λ _ m => nomatch m), List.Pairwise.nil⟩
 | _ :: _, [], _, _, h => h.elim
 | q :: ps, w :: ws, P, i, h => by
   obtain ⟨l1, l2, l3⟩ := h.1.lt
   obtain ⟨i1, i2⟩ := zmy h.2
   have m1 : ∀ x ∈ q.2.2 :: zei ps, q.2.1 < x := λ x m => (List.mem_cons.mp m).elim (λ e => e ▸ l3) λ m => Nat.lt_trans l3 (i1 x m)
   have m2 : ∀ x ∈ q.2.1 :: q.2.2 :: zei ps, q.1 < x := λ x m => (List.mem_cons.mp m).elim (λ e => e ▸ l2) λ m => Nat.lt_trans l2 (m1 x m)
   exact ⟨λ x m => (List.mem_cons.mp m).elim (λ e => e ▸ l1) λ m => Nat.lt_trans l1 (m2 x m), List.pairwise_cons.mpr ⟨m2, List.pairwise_cons.mpr ⟨m1, List.pairwise_cons.mpr ⟨i1, i2⟩⟩⟩⟩
theorem zu0 (t : List Nat) : zgg t ∈ [(4 : Int), -4, 3] := by
 unfold zgg
 cases decide (t = [45, 50]) with
 | true => exact .tail _ (.head _)
 | false => cases decide (t = [49, 46, 53]) with
   | true => exact .tail _ (.tail _ (.head _))
   | false => exact .head _
theorem zz1 {ws : List Int} (h : ws ∈ zFi [(4 : Int), -4, 3]) : zIh ws := (List.map_inj_left.mp zzg ws h).mpr rfl
theorem zEg (F : TnF S0 S a ts ps ts.length) (hl : ts.length ≤ 4) (m : Nat) (k : ∀ S' R, Lies S' R (.list ((zya (ts.map zgg)).map .int)) → Kept [] S0 S' → K (.ref R) S') : (mk tbl (m + 100)).callv 0 (.old 1417) [.ref a.O, .ref a.PL] S K := by
 have pf := F.pf
 rw [List.take_length] at pf
 have A : AtL S (adr (a.oF :: a.oI :: a.O :: a.PL :: zei ps) S.n) (a.oF :: a.oI :: a.O :: a.PL :: zei ps) (zI0 (ts.map zgg)) := by
   refine ⟨F.oF, F.oI, F.o, ?_, zJb pf λ j q e => ?_⟩
   · have : mO (adr (a.oF :: a.oI :: a.O :: a.PL :: zei ps) S.n) (.list ((List.range (ts.map zgg).length).map λ i => .ref (3 * i + 6))) = .list (ps.map λ q => .ref q.2.2) := by
       show AO.list (List.map _ _) = _
       rw [List.map_map]
       congr 1
       refine List.ext_getElem ?_ λ i h1 h2 => ?_
       · rw [List.length_map, List.length_map, List.length_range, List.length_map, F.len]
       · rw [List.length_map] at h2
         rw [List.getElem_map, List.getElem_map, List.getElem_range]
         have := (zml (List.getElem?_eq_getElem h2)).2.2
         show AV.ref (match nth (zei ps) (3 * i + 2) with | some a => a | none => _) = _
         rw [this]
     rw [this]; exact F.pl
   · obtain ⟨h1, h2, h3⟩ := zml e
     rw [Nat.zero_add]
     refine ⟨?_, ?_, ?_⟩
     · show (match nth (zei ps) (3 * j) with | some a => a | none => _) = _; rw [h1]
     · show (match nth (zei ps) (3 * j + 1) with | some a => a | none => _) = _; rw [h2]
     · show (match nth (zei ps) (3 * j + 2) with | some a => a | none => _) = _; rw [h3]
 have nd : (a.oF :: a.oI :: a.O :: a.PL :: zei ps).Nodup := by
   obtain ⟨i1, i2⟩ := zmy pf
   have o1 := (List.pairwise_append.mp (show ([a.c3, a.TL, a.N, a.CF, a.vf, a.vn, a.KT, a.KL, a.cc] ++ [a.oF, a.oI, a.O, a.PL]).Pairwise (· < ·) from F.ord)).2.1
   have lP : ∀ x ∈ [a.oF, a.oI, a.O, a.PL], x ≤ a.PL := λ x hx => by
     rcases List.mem_append.mp (show x ∈ [a.oF, a.oI, a.O] ++ [a.PL] from hx) with h | h
     · exact Nat.le_of_lt ((List.pairwise_append.mp (show ([a.oF, a.oI, a.O] ++ [a.PL]).Pairwise (· < ·) from o1)).2.2 x h _ (.head _))
     · exact Nat.le_of_eq (msx h)
   exact zgx (show ([a.oF, a.oI, a.O, a.PL] ++ zei ps).Pairwise (· < ·) from List.pairwise_append.mpr ⟨o1, i2, λ x hx y hy => Nat.lt_of_le_of_lt (lP x hx) (i1 y hy)⟩)
 have run := zz1 (zry (ts := ts.map zgg) (λ w hw => by obtain ⟨t, _, e⟩ := List.mem_map.mp hw; exact e ▸ zu0 t) (by rw [List.length_map]; exact hl))
 refine ze0 (vs := [.ref 2, .ref 3]) run (zgd A nd) λ v s S' hv M => ?_
 have e1 : v.toR.bind s.get = some (.list ((zya (ts.map zgg)).map .int)) := congrArg (·.1) hv
 have e2 : v.toR.map (λ i => Nat.blt i s.n) = some true := congrArg (·.2.1) hv
 have e3 : Nat.ble (4 + (ts.map zgg).length * 3) s.n = true := congrArg (·.2.2) hv
 have nw : ∀ x ∈ a.oF :: a.oI :: a.O :: a.PL :: zei ps, S0.n ≤ x := λ x hx => by
   have c : ∀ y ∈ [a.oF, a.oI, a.O, a.PL], a.cc < y := (List.pairwise_cons.mp (List.pairwise_append.mp (show ([a.c3, a.TL, a.N, a.CF, a.vf, a.vn, a.KT, a.KL] ++ [a.cc, a.oF, a.oI, a.O, a.PL]).Pairwise (· < ·) from F.ord)).2.1).1
   rcases List.mem_append.mp (show x ∈ [a.oF, a.oI, a.O, a.PL] ++ zei ps from hx) with h | h
   · exact ltx F.n1 (Nat.le_of_lt (c x h))
   · exact ltx F.n2 (Nat.le_of_lt ((zmy pf).1 x h))
 have len : (a.oF :: a.oI :: a.O :: a.PL :: zei ps).length = 4 + (ts.map zgg).length * 3 := by
   have : ∀ ps : List (Nat × Nat × Nat), (zei ps).length = ps.length * 3 := λ ps => by
     induction ps with
     | nil => rfl
     | cons q ps ih => rw [List.length_cons, Nat.succ_mul, ← ih]; rfl
   rw [List.length_map, ← F.len, ← this ps, Nat.add_comm]; rfl
 have kp := (M.keep (by rw [len]; exact blx e3)).new F.kp nw
 refine pick e1 e2 λ i ev d1 d2 => ?_
 cases ev
 have t := Lies.em M d1 d2
 have t : Lies S' (adr (a.oF :: a.oI :: a.O :: a.PL :: zei ps) S.n i) (.list (((zya (ts.map zgg)).map AV.int).map (mV (adr (a.oF :: a.oI :: a.O :: a.PL :: zei ps) S.n)))) := t
 rw [List.map_map] at t
 exact k S' _ t kp
end
section
variable {S S0 S' : Store} {a : SA} {ts : List (List Nat)} {ps : List (Nat × Nat × Nat)} {K : KV}
theorem zBe {n k : Nat} (h : k < n) : nth ((List.range n).map λ (i : Nat) => AV.int i) k = some (.int k) := by
 rw [za6, List.getElem?_map, List.getElem?_range h]; rfl
noncomputable def zpa (a : SA) : zaf := [(zau, .ref a.N), (zfl, .ref a.KL), (zbg, .ref a.CF), (zbl, .ref a.O), (zb9, .ref a.PL)]
noncomputable def zK7 (r k : Nat) : zaf := match k with | 0 => [] | _ => [(zbb, .ref r)]
theorem zOq (a : SA) : putL zbn (.int (0 : Nat)) (zpa a) = snL a 0 [] := by kernel_rfl
theorem zKv (a : SA) (k r : Nat) : putL zbn (.int (k + 1 : Nat)) (snL a k [(zbb, .ref r)]) = snL a (k + 1) [(zbb, .ref r)] := by kernel_rfl
theorem lkO (a : SA) (k r : Nat) : lk zbl (snL a k [(zbb, .ref r)]) = some (.ref a.O) ∧ lk zb9 (snL a k [(zbb, .ref r)]) = some (.ref a.PL) := ⟨by kernel_rfl, by kernel_rfl⟩
theorem lkB (a : SA) : lk zbl (zpa a) = some (.ref a.O) ∧ lk zb9 (zpa a) = some (.ref a.PL) := ⟨by kernel_rfl, by kernel_rfl⟩
noncomputable def zNm : List PS := [.ret (.call (.glb zdl (.old 1417)) [(.loc zbl), (.loc zb9)])]
theorem zDe (T0 : TnF S0 S a ts [] 0) (hl : ts.length ≤ 4) (ht : ∀ t ∈ ts, t ∈ zs2) (m : Nat) (k : ∀ S' R, Lies S' R (.list ((zya (ts.map zgg)).map .int)) → Kept [] S0 S' → K (.ref R) S') :
   (mk tbl (m + 225)).floop 0 [(zai, a.cc)] (zpa a) false [(false, zbn)] (.rng 0 1 ts.length) tnB S (λ fl σ st => match fl with | .next => (mk tbl (m + 226)).execs 0 [(zai, a.cc)] σ zNm st (λ fl _ st => K (zck fl) st) | .ret v => K (zck (.ret v)) st) := by
 obtain ⟨j, ej⟩ := Nat.le.dest hl
 have lx : ((List.range ts.length).map λ (i : Nat) => AV.int i).length = ts.length := by rw [List.length_map, List.length_range]
 have key := zel (T := tbl) (z := 0) (c := 201) (Γ := [(zai, a.cc)]) (tup := false) (zs := [(false, zbn)]) (b := tnB) (xs := (List.range ts.length).map λ (i : Nat) => AV.int i) (Nx := λ k => .rng k 1 (ts.length - k))
   (Inv := λ k σ S' => k ≤ ts.length ∧ (lk zbl σ = some (.ref a.O) ∧ lk zb9 σ = some (.ref a.PL)) ∧ ∃ ps r, TnF S0 S' a ts ps k ∧ putL zbn (.int k) σ = snL a k (zK7 r k))
   (Rt := λ _ _ => False)
   (K := λ fl σ st => match fl with | .next => (mk tbl (m + 226)).execs 0 [(zai, a.cc)] σ zNm st (λ fl _ st => K (zck fl) st) | .ret v => K (zck (.ret v)) st)
   (λ k σ S' I => by
     rcases Nat.lt_or_eq_of_le I.1 with h | h
     · obtain ⟨d, e⟩ := Nat.le.dest h
       have e1 : ts.length - (k + 1) = d := by rw [← e]; exact Nat.add_sub_cancel_left (n := k + 1) (m := d)
       have e2 : ts.length - k = d + 1 := by rw [← e1]; exact (Nat.succ_pred_eq_of_pos (Nat.sub_pos_of_lt h)).symm
       rw [zBe h, e1, e2]
       rfl
     · rw [h, Nat.sub_self, za6, List.getElem?_eq_none (Nat.le_of_eq lx)]; rfl)
   (λ k v σ S' m hv I => ⟨putL zbn v σ, rfl, λ K1 q1 q2 => by
     obtain ⟨I1, I2, ps, r, I4, I5⟩ := I
     have lt : k < ts.length := by
       have := ze3 hv
       rw [← lx]; exact (List.getElem?_eq_some_iff.mp this).1
     cases (zBe lt).symm.trans hv
     rw [I5]
     exact zEz (m := m + 1) I4 lt hl ht λ S3 p r' F' => q1 _ _ ⟨lt, lkO a k r', _, r', F', zKv a k r'⟩⟩)
   ts.length 0 (m + j + 18) (zpa a) S (by rw [lx, Nat.zero_add]) ⟨Nat.zero_le _, lkB a, [], 0, T0, zOq a⟩
   (λ σ S' I => by
     rw [lx] at I
     obtain ⟨I1, I2, ps, r, I4, I5⟩ := I
     exact zce ((zJj tbl (m + 205) S' _ _ σ).mpr (Opt.of I2.1 (Opt.of I2.2 (zEg I4 hl (m + 123) λ S' R aR kp => k S' R aR kp)))))
   (λ w σ S' q => q.elim)
 rw [show m + 225 = m + j + 18 + 201 + ts.length + 2 by rw [show m + 225 = m + 18 + 201 + 4 + 2 from rfl, ← ej]; simp only [Nat.add_assoc, Nat.add_comm, Nat.add_left_comm]]
 exact key
theorem zH4 (c3 TL N CF vf vn KT KL : Nat) (h3 : Lies S c3 (.cell (some (.ref TL)))) (hT : Lies S TL (.list (ts.map .str))) (hN : Lies S N (.list (ndO ts.length))) (hC : Lies S CF (.fn 2 [(zci, c3)])) (hf : Lies S vf (.fields [(zah, .str [107])])) (hv : Lies S vn (.inst 1144 vf)) (hk : Lies S KT (.tup [.ref vn, .bool true, .bool false, .none])) (hK : Lies S KL (.list [.ref KT]))
   (ord : [c3, TL, N, CF, vf, vn, KT, KL].Pairwise (· < ·)) (hl : ts.length ≤ 4) (ht : ∀ t ∈ ts, t ∈ zs2) (m : Nat) (k : ∀ S' R, Lies S' R (.list ((zya (ts.map zgg)).map .int)) → Kept [] S S' → K (.ref R) S') : (mk tbl (m + 230)).callv 0 (.old 1429) [.ref N, .ref KL, .ref CF] S K := by
 rw [zbo (n := m + 229) (b := [(zau, .ref N), (zfl, .ref KL), (zbg, .ref CF)]) zGl rfl]
 show (mk tbl (m + 226 + 1 + (zbr.body.take 2).length)).execs 0 [(zai, S.n)] [(zau, .ref N), (zfl, .ref KL), (zbg, .ref CF)] (zbr.body.take 2 ++ zbr.body.drop 2) (S.add (.cell none)) _
 rw [zb7]
 have A : AtL (S.add (.cell none)) (adr [KT, KL, S.n] (S.n + 1)) [KT, KL, S.n] [.tup [.ext vn, .bool true, .bool false, .none], .list [.ref 0], .cell none] := ⟨hk.add _, hK.add _, Lies.new S _, rfl⟩
 have o2 := (List.pairwise_append.mp (show ([c3, TL, N, CF, vf, vn] ++ [KT, KL]).Pairwise (· < ·) from ord)).2.1
 have o3 : [KT, KL, S.n].Pairwise (· < ·) := List.pairwise_append (l₁ := [KT, KL]).mpr ⟨o2, List.pairwise_singleton _ _, λ x hx y hy => by
   cases msx hy
   rcases List.mem_cons.mp hx with e | e
   · exact e ▸ hk.2
   · exact msx e ▸ hK.2⟩
 refine zcn (f := adr [KT, KL, S.n] (S.n + 1)) (Γ := [(zai, 2)]) (σ := [(zau, .ext N), (zfl, .ref 1), (zbg, .ext CF)]) (m := m + 169) ((zEo N CF vn).mpr rfl) (zgd A (zgx o3)) λ fl σ s S1 hk' M => zA6 hk' λ e1 e2 en eg => ?_
 have ln : ∀ {i}, i < 7 → i < s.n := λ h => en ▸ h
 have g := λ j {i} e => zBi eg j (i := i) e
 have kp : Kept [] S S1 := zmr (Kept.add _) A M (Nat.le_of_lt (ln (i := 3) (by decide))) ⟨.inl (g 0 rfl), .inl (g 1 rfl), .inr (.inr (Nat.le_refl _)), trivial⟩
 cases e1
 cases e2
 have en : (ndO ts.length).length = ts.length := by unfold ndO; rw [List.length_map, List.length_range]
 have o4 : [c3, TL, N, CF, vf, vn, KT, KL, S.n, S.n + 1, S.n + 2, S.n + 3, S.n + 4].Pairwise (· < ·) := by
   refine List.pairwise_append (l₁ := [c3, TL, N, CF, vf, vn, KT, KL]).mpr ⟨ord, (show ([S.n, S.n + 1, S.n + 2, S.n + 3, S.n + 4] : List Nat) = List.range' S.n 5 from rfl) ▸ List.pairwise_lt_range', ?_⟩
   intro x hx y hy
   have hy : S.n ≤ y := by
     have : y ∈ List.range' S.n 5 := hy
     exact (List.mem_range'_1.mp this).1
   refine llx ?_ hy
   rcases List.mem_append.mp (show x ∈ [c3, TL, N, CF, vf, vn, KT] ++ [KL] from hx) with h | h
   · exact Nat.lt_trans ((List.pairwise_append.mp (show ([c3, TL, N, CF, vf, vn, KT] ++ [KL]).Pairwise (· < ·) from ord)).2.2 x h _ (.head _)) hK.2
   · exact msx h ▸ hK.2
 have nm : ∀ {x : Nat}, x ∉ ([] : List Nat) := λ m => nomatch m
 have f2 := Lies.em M (g 2 rfl) (ln (by decide))
 have f3 := Lies.em M (g 3 rfl) (ln (by decide))
 have f4 := Lies.em M (g 4 rfl) (ln (by decide))
 have f5 := Lies.em M (g 5 rfl) (ln (by decide))
 have f6 := Lies.em M (g 6 rfl) (ln (by decide))
 show (mk tbl (m + 226 + 1)).execs 0 [(zai, S.n)] [(zau, .ref N), (zfl, .ref KL), (zbg, .ref CF), (zbl, .ref (S.n + 3)), (zb9, .ref (S.n + 4))] (zbr.body.drop 2) S1 (λ fl _ st => K (zck fl) st)
 refine zce ((zL8 tbl (m + 206) S1 _ [(zai, S.n)] _).mpr (Opt.of rfl (Opt.of (len_list (kp.at' hN λ _ => nm)) (Chk.of rfl (Opt.of rfl (Chk.of ?_ (Opt.of (a := .rng 0 1 ts.length) ?_ (Chk.of rfl ?_))))))))
 · have : (-1000 : Int) ≤ ((ndO ts.length).length : Int) ∧ ((ndO ts.length).length : Int) ≤ 1000 := by rw [en]; lia
   show (decide (-1000 ≤ ((ndO ts.length).length : Int)) && decide (((ndO ts.length).length : Int) ≤ 1000)) = true
   rw [decide_eq_true this.1, decide_eq_true this.2]; rfl
 · show ((S1.add _).get S1.n).bind _ = _
   rw [(Lies.new S1 _).1, en]; rfl
 have kp2 : Kept [] S (S1.add (.rng 0 1 ((ndO ts.length).length : Int).toNat)) := kp.trans (Kept.add _)
 exact zDe (a := ⟨c3, TL, N, CF, vf, vn, KT, KL, S.n, S.n + 1, S.n + 2, S.n + 3, S.n + 4⟩) ⟨kp2.at' h3 nb, kp2.at' hT λ _ => nm, kp2.at' hN λ _ => nm, kp2.at' hC nb, kp2.at' hf nb, kp2.at' hv nb, kp2.at' hk nb, kp2.at' hK λ _ => nm, ⟨0, f2.add _⟩, f3.add _, f4.add _, f5.add _, f6.add _, rfl, rfl, o4, kp2, Nat.le_refl _, zft _ _⟩ hl ht m k
end
section
variable {S S0 S' : Store} {src c0 c1 c2 c3 W TL : Nat} {ts : List (List Nat)} {K : KV} {as : List Nat} {KK : KX}
theorem IsSrc.keepK (h : IsSrc S src) (k : Keep (· ∈ as) S S') (n : src ∉ as) : IsSrc S' src := by
 obtain ⟨a, b, h⟩ := h
 exact ⟨a, b, k.get _ _ n h.2 h.1, llx h.2 k.n⟩
theorem zLs : tbl.fn.get 1683 = some zaj := by kernel_rfl
theorem zFc : zaj.body = .asc ze1 (.dct [[50], [32, 50, 32], [50, 46, 48], [45, 50], [49, 46, 53]] [(.num 4), (.num 4), (.num 4), (.neg (.num 4)), (.num 3)]) :: .asc zci (.lc ztu false [ze7] (.call (.glb zdg (.bi .range)) [(.call (.glb zbj (.old 1654)) [(.cel zae), (.num 5)])]) []) :: ((zaj.body.drop 2).take 3 ++ ((zaj.body.drop 5).take 2 ++ [s7S])) := rfl
theorem zAq (is : List Int) : eqO (.list (is.map .int)) (.list (is.map .int)) = some true := by
 have h : ∀ l : List Int, zde (l.map AV.int) = some l := λ l => by
   induction l with
   | nil => rfl
   | cons i l ih => show (zde (l.map AV.int)).map _ = _; rw [ih]; rfl
 cases is with
 | nil => rfl
 | cons i l =>
   show (zde ((i :: l).map AV.int)).bind (λ is => (zde ((i :: l).map AV.int)).map λ js => decide (is = js)) = _
   rw [h]
   show some (decide _) = _
   rw [decide_eq_true rfl]
structure S7F (S0 S : Store) (src c3 TL N CF D : Nat) (ts : List (List Nat)) : Prop where
 sr : IsSrc S src
 f3 : Lies S c3 (.cell (some (.ref TL)))
 tl : Lies S TL (.list (ts.map .str))
 n : Lies S N (.list (ndO ts.length))
 cf : Lies S CF (.fn 2 [(zci, c3)])
 d : Lies S D (.list ((zya (ts.map zgg)).map .int))
 ord : [c3, TL, N, CF].Pairwise (· < ·)
 kp : Kept [src] S0 S
theorem zL1 {N CF D : Nat} {Γ : zaw} {σ : zaf} (F : S7F S0 S src c3 TL N CF D ts) (hl : ts.length ≤ 4) (ht : ∀ t ∈ ts, t ∈ zs2) (g1 : lk zau σ = some (.ref N)) (g2 : lk zak σ = some (.ref CF)) (g3 : lk zc2 σ = some (.ref D)) (m : Nat) (k : ∀ σ S', IsSrc S' src → Kept [src] S0 S' → KK (.ret (.bool true)) σ S') : (mk tbl (m + 241)).exec 0 Γ σ s7S S KK := by
 refine (zGb tbl (m + 211) S KK Γ σ).mpr (Opt.of g1 (ze0 (m := m + 201) (vs := [.str [107]]) (zIa.mpr rfl) (zgd (S := S) (as := []) rfl .nil) λ v s S1 hv M => zK0 hv λ e1 en eg => ?_))
 have ln : ∀ {i}, i < 2 → i < s.n := λ h => en ▸ h
 have g := λ j {i} e => zBi eg j (i := i) e
 have v0 := Lies.em M (g 0 rfl) (ln (by decide))
 have v1 := Lies.em M (g 1 rfl) (ln (by decide))
 have kp : Kept [] S S1 := (M.keep (as := []) (Nat.zero_le _)).new Kept.refl λ a m => nomatch m
 cases e1
 have nm : ∀ {x : Nat}, x ∉ ([] : List Nat) := λ m => nomatch m
 refine Opt.of g2 ?_
 have k2 : Kept [] S ((S1.add (.tup [.ref (S.n + 1), .bool true, .bool false, .none])).add (.list [.ref S1.n])) := kp.trans ((Kept.add _).trans (Kept.add _))
 have o : [c3, TL, N, CF, S.n, S.n + 1, S1.n, S1.n + 1].Pairwise (· < ·) := by
   have l1 : S.n + 1 < S1.n := v1.2
   refine List.pairwise_append (l₁ := [c3, TL, N, CF]).mpr ⟨F.ord, List.pairwise_append (l₁ := [S.n, S.n + 1]) (l₂ := [S1.n, S1.n + 1]).mpr ⟨(show ([S.n, S.n + 1] : List Nat) = List.range' S.n 2 from rfl) ▸ List.pairwise_lt_range', (show ([S1.n, S1.n + 1] : List Nat) = List.range' S1.n 2 from rfl) ▸ List.pairwise_lt_range', ?_⟩, ?_⟩
   · intro x hx y hy
     have hx := (List.mem_range'_1.mp (show x ∈ List.range' S.n 2 from hx)).2
     have hy := (List.mem_range'_1.mp (show y ∈ List.range' S1.n 2 from hy)).1
     exact Nat.lt_of_le_of_lt (Nat.le_of_lt_succ hx) (llx l1 hy)
   · intro x hx y hy
     have hx : x < S.n := by
       rcases List.mem_append.mp (show x ∈ [c3, TL, N] ++ [CF] from hx) with h | h
       · exact Nat.lt_trans ((List.pairwise_append.mp (show ([c3, TL, N] ++ [CF]).Pairwise (· < ·) from F.ord)).2.2 x h _ (.head _)) F.cf.2
       · exact msx h ▸ F.cf.2
     have hy : S.n ≤ y := by
       rcases List.mem_append.mp (show y ∈ List.range' S.n 2 ++ List.range' S1.n 2 from hy) with h | h
       · exact (List.mem_range'_1.mp h).1
       · exact ltx kp.n (List.mem_range'_1.mp h).1
     exact llx hx hy
 show (mk tbl (m + 8 + 230)).callv 0 (.old 1429) [.ref N, .ref (S1.n + 1), .ref CF] ((S1.add (.tup [.ref (S.n + 1), .bool true, .bool false, .none])).add (.list [.ref S1.n])) _
 refine zH4 c3 TL N CF S.n (S.n + 1) S1.n (S1.n + 1) (k2.at' F.f3 nb) (k2.at' F.tl λ _ => nm) (k2.at' F.n λ _ => nm) (k2.at' F.cf nb) ((v0.add _).add _) ((v1.add _).add _) ((Lies.new S1 _).add _) (Lies.new (S1.add _) _) o hl ht (m + 8) λ S2 R aR k3 => ?_
 have k4 := k2.trans k3
 refine Opt.of g3 (Opt.of (a := true) ?_ (k _ _ (F.sr.keep k4 nm) (F.kp.trans (k4.sub λ _ m => nomatch m))))
 show (S2.get R).bind _ = _
 rw [aR.1]
 show (S2.get D).bind _ = _
 rw [(k4.at' F.d λ _ => nm).1]
 exact zAq _
theorem zA4 {c : Nat} {l : List Nat} (h : (c :: l).Pairwise (· < ·)) : ∀ x ∈ c :: l, c ≤ x := λ x m => (List.mem_cons.mp m).elim (λ e => Nat.le_of_eq e.symm) λ m => Nat.le_of_lt ((List.pairwise_cons.mp h).1 x m)
theorem zjv {l : List Nat} {L x : Nat} (h : (l ++ [L]).Pairwise (· < ·)) (lx : L < x) : (l ++ [L] ++ [x]).Pairwise (· < ·) := List.pairwise_append.mpr ⟨h, List.pairwise_singleton _ _, λ y hy z hz => by
 cases msx hz
 rcases List.mem_append.mp hy with e | e
 · exact Nat.lt_trans ((List.pairwise_append.mp h).2.2 y e _ (.head _)) lx
 · exact msx e ▸ lx⟩
theorem zF5 {N CF : Nat} (hs : IsSrc S src) (h0 : Lies S c0 (.cell (some (.ref src)))) (h1 : Lies S c1 (.cell (some (.ref W)))) (h2 : Lies S c2 (.cell none)) (h3 : Lies S c3 (.cell (some (.ref TL)))) (hw : Lies S W zse) (hT : Lies S TL (.list (ts.map .str))) (hN : Lies S N (.list (ndO ts.length))) (hC : Lies S CF (.fn 2 [(zci, c3)])) (o : [c0, c1, c2, c3, W, TL, N].Pairwise (· < ·)) (lC : N < CF) (kp : Kept [src] S0 S) (n0 : S0.n ≤ c0) (ls : src < S0.n) (hl : ts.length ≤ 4) (ht : ∀ t ∈ ts, t ∈ zs2) (m : Nat) (k : ∀ σ S', IsSrc S' src → Kept [src] S0 S' → KK (.ret (.bool true)) σ S') :
   (mk tbl (m + 244)).execs 0 (sG c0 c1 c2 c3) [(zau, .ref N), (zak, .ref CF), (zcp, .str [108, 97, 115, 116]), (zd3, .bool true), (zc2, .ref N)] ((zaj.body.drop 5).take 2 ++ [s7S]) S KK := by
 have sp := zb7 (T := tbl) (z := 0) (n := m + 241) (Γ := sG c0 c1 c2 c3) (b := [s7S]) (K := KK) ((zaj.body.drop 5).take 2) [(zau, .ref N), (zak, .ref CF), (zcp, .str [108, 97, 115, 116]), (zd3, .bool true), (zc2, .ref N)] S
 refine sp.mpr ?_
 have A : AtL S (adr [c0, c1, c2, c3, W, TL, N] S.n) [c0, c1, c2, c3, W, TL, N] (zJi src ts ++ [.list (ndO ts.length)]) := by
   refine ⟨h0, h1, h2, h3, hw, ?_, ?_, rfl⟩
   · show Lies S TL (.list ((ts.map AV.str).map _))
     rw [List.map_map]; exact hT
   · show Lies S N (.list ((ndO ts.length).map _))
     rw [zgi (zke _)]; exact hN
 have run : zNs src CF ts := (List.map_inj_left.mp (zCs src CF) ts (zry ht hl)).mpr rfl
 refine zcn (f := adr [c0, c1, c2, c3, W, TL, N] S.n) (Γ := sG 0 1 2 3) (σ := [(zau, .ref 6), (zak, .ext CF), (zcp, .str [108, 97, 115, 116]), (zd3, .bool true), (zc2, .ref 6)]) (m := m + 144) run (zgd A (zgx o)) λ fl σ s S' hv M => ?_
 have e1 : fl = .next := congrArg (·.1) hv
 have e2 : lk zau σ = some (.ref 6) := congrArg (·.2.1) hv
 have e3 : lk zak σ = some (.ext CF) := congrArg (·.2.2.1) hv
 have e4 : ((lk zc2 σ).bind AV.toR).bind s.get = some (.list ((zya (ts.map zgg)).map .int)) := congrArg (·.2.2.2.1) hv
 have e5 : ((lk zc2 σ).bind AV.toR).map (λ i => Nat.blt i s.n) = some true := congrArg (·.2.2.2.2.1) hv
 have e6 : Nat.ble 7 s.n = true := congrArg (·.2.2.2.2.2.1) hv
 have eg : [0, 3, 5, 6].map s.get = [some (.cell (some (.ext src))), some (.cell (some (.ref 5))), some (.list (ts.map .str)), some (.list (ndO ts.length))] := congrArg (·.2.2.2.2.2.2) hv
 have l7 := blx e6
 have g := λ j {i} e => zBi eg j (i := i) e
 cases e1
 cases hd : lk zc2 σ with
 | none => rw [hd] at e4; exact nn e4
 | some v =>
 rw [hd] at e4 e5
 refine pick (v := v) e4 e5 λ D ev d4 d5 => ?_
 cases ev
 have kD := M.keep l7
 have nw : ∀ x ∈ [c0, c1, c2, c3, W, TL, N], S0.n ≤ x := λ x hx => ltx n0 (zA4 o x hx)
 have hiN : ∀ x ∈ [c0, c1, c2, c3, W, TL, N], x ≤ N := λ x hx => by
   rcases List.mem_append.mp (show x ∈ [c0, c1, c2, c3, W, TL] ++ [N] from hx) with h | h
   · exact Nat.le_of_lt ((List.pairwise_append.mp (show ([c0, c1, c2, c3, W, TL] ++ [N]).Pairwise (· < ·) from o)).2.2 x h _ (.head _))
   · exact Nat.le_of_eq (msx h)
 refine zce (zL1 (Γ := sG c0 c1 c2 c3) (N := N) (CF := CF) (c3 := c3) (TL := TL) ⟨hs.keepK kD λ m => absurd ls (Nat.not_lt.mpr (nw _ m)), Lies.em M (g 1 rfl) (llx (by decide) l7), ?_, ?_, kD.lo hiN hC lC, ?_, ?_, kD.new kp nw⟩ hl ht (lkV e2) (lkV e3) (lkV hd) m k)
 · have t : Lies S' TL (.list ((ts.map AV.str).map (mV (adr [c0, c1, c2, c3, W, TL, N] S.n)))) := Lies.em M (g 2 rfl) (llx (by decide) l7)
   rw [List.map_map] at t
   exact t
 · have t : Lies S' N (.list ((ndO ts.length).map (mV (adr [c0, c1, c2, c3, W, TL, N] S.n)))) := Lies.em M (g 3 rfl) (llx (by decide) l7)
   rw [zgi (zke _)] at t
   exact t
 · have t : Lies S' (adr [c0, c1, c2, c3, W, TL, N] S.n D) (.list (((zya (ts.map zgg)).map AV.int).map (mV (adr [c0, c1, c2, c3, W, TL, N] S.n)))) := Lies.em M d4 d5
   rw [List.map_map] at t
   exact t
 · exact zjv (l := [c3, TL]) (List.pairwise_cons.mpr ⟨λ x hx => (List.pairwise_cons.mp (List.pairwise_append.mp (show ([c0, c1, c2] ++ [c3, W, TL, N]).Pairwise (· < ·) from o)).2.1).1 x (.tail _ hx), (List.pairwise_append.mp (show ([c0, c1, c2, c3, W] ++ [TL, N]).Pairwise (· < ·) from o)).2.1⟩) lC
theorem zK9 (h : IsSrc S src) (m : Nat) (k : ∀ S', IsSrc S' src → Kept [src] S S' → K (.bool true) S') : (mk tbl (m + 250)).callv 0 (.old 1683) [.ref src] S K := by
 rw [zbo (n := m + 249) (b := [(zae, .ref src)]) zLs rfl]
 have ls : src < S.n := h.elim λ _ h => h.elim λ _ h => h.2
 have o4 : [S.n, S.n + 1, S.n + 2, S.n + 3].Pairwise (· < ·) := (show ([S.n, S.n + 1, S.n + 2, S.n + 3] : List Nat) = List.range' S.n 4 from rfl) ▸ List.pairwise_lt_range'
 have kA : Kept [src] S ((((S.add (.cell (some (.ref src)))).add (.cell none)).add (.cell none)).add (.cell none)) := ((Kept.add _).trans (Kept.add _)).trans ((Kept.add _).trans (Kept.add _))
 show (mk tbl (m + 129 + 120)).execs 0 (sG S.n (S.n + 1) (S.n + 2) (S.n + 3)) [] zaj.body ((((S.add (.cell (some (.ref src)))).add (.cell none)).add (.cell none)).add (.cell none)) _
 rw [zFc]
 refine zLm ((((h.add _).add _).add _).add _) ((((Lies.new S _).add _).add _).add _) (((Lies.new (S.add _) _).add _).add _) ((Lies.new ((S.add _).add _) _).add _) (Lies.new (((S.add _).add _).add _) _) (show S.n + 1 ≠ S.n + 3 from λ e => nomatch Nat.add_left_cancel e) (show S.n + 1 ≠ S.n + 2 from Nat.ne_of_lt (Nat.lt_succ_self _)) (show S.n + 2 ≠ S.n + 3 from Nat.ne_of_lt (Nat.lt_succ_self _)) (show S.n ≠ S.n + 1 from Nat.ne_of_lt (Nat.lt_succ_self _)) (show S.n ≠ S.n + 3 from Nat.ne_of_lt (Nat.lt_add_of_pos_right (Nat.succ_pos 2))) (m + 129) λ S1 W TL ts F lW lT hn fr => ?_
 have kp : Kept [src] S S1 := ⟨ltx kA.n hn, λ {j o} e q => fr j o (kA.at' e q) (λ h => absurd e.2 (by rw [h]; exact Nat.not_lt.mpr (Nat.le_succ _))) (λ h => absurd e.2 (by rw [h]; exact Nat.not_lt.mpr (show S.n ≤ S.n + 3 from zft _ _))) λ l m => q l (List.mem_singleton.mpr m)⟩
 have oW : [S.n, S.n + 1, S.n + 2, S.n + 3, W, TL].Pairwise (· < ·) := zjv (l := [S.n, S.n + 1, S.n + 2, S.n + 3]) (zjv (l := [S.n, S.n + 1, S.n + 2]) o4 (llx (Nat.lt_succ_self _) lW)) lT
 have sp := zb7 (T := tbl) (z := 0) (n := m + 243) (Γ := sG S.n (S.n + 1) (S.n + 2) (S.n + 3)) (b := (zaj.body.drop 5).take 2 ++ [s7S]) (K := λ fl _ st => K (zck fl) st) ((zaj.body.drop 2).take 3) [] S1
 refine sp.mpr ?_
 have A : AtL S1 (adr [S.n, S.n + 1, S.n + 2, S.n + 3, W, TL] S1.n) [S.n, S.n + 1, S.n + 2, S.n + 3, W, TL] (zJi src ts) := by
   refine ⟨F.c0, F.c1, F.c2, F.c3, F.w, ?_, rfl⟩
   show Lies S1 TL (.list ((ts.map AV.str).map _))
   rw [List.map_map]; exact F.tl
 refine zcn (f := adr [S.n, S.n + 1, S.n + 2, S.n + 3, W, TL] S1.n) (Γ := sG 0 1 2 3) (σ := []) (m := m + 47) (zB9 src ts F.len) (zgd A (zgx oW)) λ fl σ s S2 hv M => zA6 hv λ e1 e2 en eg => ?_
 have l9 : 9 ≤ s.n := blx en
 have ln : ∀ {i}, i < 9 → i < s.n := λ h => llx h l9
 have g := λ j {i} e => zBi eg j (i := i) e
 cases e1
 cases e2
 have kD := M.keep (as := [S.n, S.n + 1, S.n + 2, S.n + 3, W, TL]) (ltx (show 6 ≤ 9 by decide) l9)
 have nw := zA4 oW
 have t5 : Lies S2 TL (.list ((ts.map AV.str).map (mV (adr [S.n, S.n + 1, S.n + 2, S.n + 3, W, TL] S1.n)))) := Lies.em M (g 5 rfl) (ln (by decide))
 have t7 : Lies S2 (S1.n + 1) (.list ((ndO ts.length).map (mV (adr [S.n, S.n + 1, S.n + 2, S.n + 3, W, TL] S1.n)))) := Lies.em M (g 6 rfl) (ln (by decide))
 rw [List.map_map] at t5
 rw [zgi (zke _)] at t7
 refine zF5 (W := W) (N := S1.n + 1) (CF := S1.n + 2) (F.sr.keepK kD λ m => absurd ls (Nat.not_lt.mpr (nw _ m))) (Lies.em M (g 0 rfl) (ln (by decide))) (Lies.em M (g 1 rfl) (ln (by decide))) (Lies.em M (g 2 rfl) (ln (by decide))) (Lies.em M (g 3 rfl) (ln (by decide))) (Lies.em M (g 4 rfl) (ln (by decide))) t5 t7 (Lies.em M (g 7 rfl) (ln (by decide))) (zjv (l := [S.n, S.n + 1, S.n + 2, S.n + 3, W]) oW (Nat.lt_succ_of_lt F.tl.2)) (Nat.lt_succ_self _) (kD.new kp nw) (Nat.le_refl _) ls F.len F.mem m λ _ S' a b => k S' a b
end
noncomputable def zo3 : List T3 := [(wEl, [97], []), (wEl, [112, 58, 97], [117, 58, 49]), (wIn, [97], []), (wEl, [97], [])]
noncomputable def la1 : PS := .iff (.orr [(.nott (.call (.glb za8 (.old 1673)) [(.loc zeb), (.num 3)])), (.nott (.call (.glb za8 (.old 1673)) [(.loc zeb), (.num 1)]))]) [.ret (.boo false)] []
noncomputable def la3 : PS := .asg zaz (.call (.glb zdu (.old 1678)) [(.loc zae)])
noncomputable def la4 : PS := .iff (.nott (.call (.glb za8 (.old 1673)) [(.loc zaz), (.call (.glb zbj (.old 1654)) [(.loc zae), (.call (.glb zdi (.bi .len)) [(.loc zaz)])])])) [.ret (.boo false)] []
noncomputable def la5 : PS := .ret (.andd [(.call (.glb zc0 (.old 1683)) [(.loc zae)]), (.call (.glb zb3 (.old 1688)) [(.loc zae)]), (.call (.glb zb3 (.old 1688)) [(.loc zae)])])
theorem zKi : zk9.body.drop 1 = la1 :: zk9.body.drop 2 ∧ zk9.body.drop 3 = [la3, la4, la5] := ⟨rfl, rfl⟩
section
variable (T : Tbl) (m : Nat) (S : Store) (KX : KX) (σ : zaf)
theorem zFq : (mk T (m + 20)).exec 0 [] σ la1 S KX = Opt (lk zeb σ) λ f => (mk T (m + 15)).callv 0 (.old 1673) [f, .int 3] S λ v st => Opt (truthy v) λ q => match !q with
   | true => KX (.ret (.bool false)) σ st
   | false => Opt (lk zeb σ) λ f => (mk T (m + 14)).callv 0 (.old 1673) [f, .int 1] st λ v st => Opt (truthy v) λ q => match !q with
     | true => KX (.ret (.bool false)) σ st
     | false => KX .next σ st := by kernel_rfl
theorem zB6 : (mk T (m + 20)).exec 0 [] σ la3 S KX = Opt (lk zae σ) λ s => (mk T (m + 18)).callv 0 (.old 1678) [s] S λ v st => KX .next (putL zaz v σ) st := by kernel_rfl
theorem zB8 : (mk T (m + 20)).exec 0 [] σ la4 S KX = Opt (lk zaz σ) λ r => Opt (lk zae σ) λ s => Opt (lk zaz σ) λ r' => Opt (biv T .len [r'] S) λ p => Chk p.1 ((mk T (m + 13)).callv 0 (.old 1654) [s, p.2.1] p.2.2 λ i st => (mk T (m + 16)).callv 0 (.old 1673) [r, i] st λ v st => Opt (truthy v) λ q => match !q with
   | true => KX (.ret (.bool false)) σ st
   | false => KX .next σ st) := by kernel_rfl
theorem zB4 : (mk T (m + 20)).exec 0 [] σ la5 S KX = Opt (lk zae σ) λ s => (mk T (m + 17)).callv 0 (.old 1683) [s] S λ v st => Opt (truthy v) λ q => match q with
   | true => Opt (lk zae σ) λ s => (mk T (m + 16)).callv 0 (.old 1688) [s] st λ v st => Opt (truthy v) λ q => match q with
     | true => Opt (lk zae σ) λ s => (mk T (m + 15)).callv 0 (.old 1688) [s] st λ v st => KX (.ret v) σ st
     | false => KX (.ret v) σ st
   | false => KX (.ret v) σ st := by kernel_rfl
end
theorem zo5 : ∀ t ∈ zo3, t ∈ zec := of_decide_eq_true rfl
noncomputable def la0 : PS := .asg zeb (.lst [(.tpl [(.txt [101, 108, 101, 109, 101, 110, 116]), (.txt [97]), (.txt [])]), (.tpl [(.txt [101, 108, 101, 109, 101, 110, 116]), (.txt [112, 58, 97]), (.txt [117, 58, 49])]), (.tpl [(.txt [105, 110, 115, 116, 114, 117, 99, 116, 105, 111, 110]), (.txt [97]), (.txt [])]), (.tpl [(.txt [101, 108, 101, 109, 101, 110, 116]), (.txt [97]), (.txt [])])])
noncomputable def la2 : PS := .asg zae (.call (.glb zht (.old 1647)) [(.loc zbu), (.num 0)])
theorem zF3 : zk9.body.take 2 = [la0, la1] ∧ (zk9.body.drop 2).take 1 = [la2] := ⟨rfl, rfl⟩
noncomputable def zBz : List AO := [t3 (wEl, [97], []), t3 (wEl, [112, 58, 97], [117, 58, 49]), t3 (wIn, [97], []), t3 (wEl, [97], []), .list [.ref 0, .ref 1, .ref 2, .ref 3]]
noncomputable def laF (P : Nat) : zaf := [(zbu, .ext P), (zeb, .ref 4)]
theorem zC0 (m P : Nat) (K : KX) : (mk tbl (m + 20)).exec 0 [] [(zbu, .ext P)] la0 (Store.ofList []) K = K .next (laF P) (Store.ofList zBz) := by kernel_rfl
theorem zrk {l : List AO} {i : Nat} {o : AO} (h : l[i]? = some o) : Lies (Store.ofList l) i o := ⟨((zrx l).get i).trans h, (zrx l).n ▸ (List.getElem?_eq_some_iff.mp h).1⟩
theorem zLk {S : Store} (P : Nat) (r : RowsF S [0, 1, 2, 3] zo3) (hL : Lies S 4 (.list ([0, 1, 2, 3].map .ref))) (m : Nat) : (mk tbl (m + 259)).execs 0 [] (laF P) [la1] S λ fl σ _ => fl = .next ∧ σ = laF P := by
 have e3 : zo3[3]? = some (wEl, [97], []) := rfl
 have e1 : zo3[1]? = some (wEl, [112, 58, 97], [117, 58, 49]) := rfl
 have h4 : zo3.length ≤ 7 := blx rfl
 refine zce ((zFq tbl (m + 238) S _ (laF P)).mpr (Opt.of rfl (zDl hL r zo5 h4 e3 (m + 33) λ S1 k1 => Opt.of rfl (Opt.of rfl (zDl (k1.at' hL λ _ m => nomatch m) (r.keep k1) zo5 h4 e1 (m + 32) λ S2 k2 => Opt.of rfl ?_)))))
 exact ⟨rfl, rfl⟩
def zNr (m P : Nat) (a : PS) (S0 S : Store) : Prop := ∀ K : KX, (mk tbl (m + 259)).exec 0 [] [(zbu, .ext P)] a S0 K = K .next (laF P) S
def zNo (m P : Nat) (b : PS) (S : Store) : Prop := (mk tbl (m + 259)).execs 0 [] (laF P) [b] S λ fl σ _ => fl = .next ∧ σ = laF P
def zNl (m P : Nat) (ss : List PS) (S : Store) : Prop := (mk tbl (m + 260)).execs 0 [] [(zbu, .ext P)] ss S λ fl σ _ => fl = .next ∧ σ = laF P
theorem zGn (m P : Nat) (S S0 : Store) (a b : PS) (h1 : zNr m P a S0 S) (h2 : zNo m P b S) : zNl m P [a, b] S0 := by
 refine zce (n := m + 259) ?_
 rw [h1]
 exact h2
theorem zOj : ∃ S, S = Store.ofList zBz := ⟨_, rfl⟩
theorem zk2 {S : Store} {l : List AO} {i : Nat} {o : AO} (hS : S = Store.ofList l) (h : l[i]? = some o) : Lies S i o := hS ▸ zrk h
theorem zkx : zBz[0]? = some (t3 (wEl, [97], [])) ∧ zBz[1]? = some (t3 (wEl, [112, 58, 97], [117, 58, 49])) ∧ zBz[2]? = some (t3 (wIn, [97], [])) ∧ zBz[3]? = some (t3 (wEl, [97], [])) ∧ zBz[4]? = some (.list [.ref 0, .ref 1, .ref 2, .ref 3]) := by
 refine ⟨?_, ?_, ?_, ?_, ?_⟩ <;> kernel_rfl
theorem zI9 (S : Store) (P : Nat) (h0 : Lies S 0 (t3 (wEl, [97], []))) (h1 : Lies S 1 (t3 (wEl, [112, 58, 97], [117, 58, 49]))) (h2 : Lies S 2 (t3 (wIn, [97], []))) (h3 : Lies S 3 (t3 (wEl, [97], []))) (h4 : Lies S 4 (.list [.ref 0, .ref 1, .ref 2, .ref 3])) (m : Nat) : zNo m P la1 S := zLk P (.cons h0 (.cons h1 (.cons h2 (.cons h3 .nil)))) h4 m
theorem zLv {S S0 : Store} (P : Nat) (hS : S = Store.ofList zBz) (h0 : S0 = Store.ofList []) (m : Nat) : zNr m P la0 S0 S := by
 intro K
 rw [hS, h0]
 exact zC0 (m + 239) P K
theorem zOg (m P : Nat) (S0 : Store) (h0 : S0 = Store.ofList []) : zNl m P [la0, la1] S0 :=
 zOj.elim λ S hS => zGn m P S S0 la0 la1 (zLv P hS h0 m) (zI9 S P (zk2 hS zkx.1) (zk2 hS zkx.2.1) (zk2 hS zkx.2.2.1) (zk2 hS zkx.2.2.2.1) (zk2 hS zkx.2.2.2.2) m)
noncomputable def laC (P F src : Nat) : zaf := [(zbu, .ext P), (zeb, .ext F), (zae, .ref src)]
theorem zOt {S : Store} {src : Nat} (P F : Nat) (h : IsSrc S src) (m : Nat) : (mk tbl (m + 360)).execs 0 [] (laC P F src) [la3, la4, la5] S λ fl _ _ => fl = .ret (.bool true) := by
 refine zce ((zB6 tbl (m + 339) S _ _).mpr (Opt.of rfl (zAy h (m + 272) λ ps ts S1 R hR hr hm h1 h7 hs k1 => ?_)))
 have el : (ps.map AV.ref).length = ts.length := by rw [List.length_map]; exact hr.len
 refine zce ((zB8 tbl (m + 338) S1 _ (putL zaz (.ref R) (laC P F src))).mpr (Opt.of rfl (Opt.of rfl (Opt.of rfl (Opt.of (len_list hR) (Chk.of rfl ?_))))))
 rw [el]
 refine znu hs (top := ts.length) h1 (ltx h7 (by decide)) (m + 311) λ j S2 hj s2 k2 => ?_
 have nR : R ∉ [src] := λ m => by
   rw [msx m] at hR
   obtain ⟨x, y, q⟩ := hs
   have := Option.some.inj (q.1.symm.trans hR.1)
   cases ps with
   | nil => cases this
   | cons => cases this
 have ej : ts[j]? = some ts[j] := List.getElem?_eq_getElem hj
 refine zDl (k2.at' hR λ _ => nR) (hr.keep k2) hm h7 ej (m + 134) λ S3 k3 => Opt.of rfl (zce ((zB4 tbl (m + 337) S3 _ _).mpr (Opt.of rfl (zK9 (s2.keep k3 λ m => nomatch m) (m + 104) λ S4 s4 k4 => Opt.of rfl (Opt.of rfl (zt9 s4 (m + 23) λ S5 s5 k5 => Opt.of rfl (Opt.of rfl (zt9 s5 (m + 22) λ S6 s6 k6 => rfl))))))))
noncomputable def grt (i : Int) : Int := (if (-1 - i) > i then (-1 - i) else i)
noncomputable def laL (F : Nat) : zaf := [(zbu, .ref 0), (zeb, .ext F), (zae, .ref 1)]
noncomputable def laB (F : Nat) : zaf := [(zbu, .ref 0), (zeb, .ext F)]
theorem zEa (m F : Nat) (K : KX) : (mk tbl (m + 40)).exec 1 [] (laB F) la2 (Store.ofList [.list []]) K = K .next (laL F) (Store.ofList [.list [], zk7 0 820607]) := by kernel_rfl
noncomputable def zL5 (b : Bool) : Int := match b with | true => 1 | false => 0
noncomputable def laS (i : Int) (xs : List AV) (b c : Int) : Store := Store.ofList [.list (.int i :: xs), zk7 b c]
theorem zze (m F : Nat) (i : Int) (xs : List AV) (K : KX) : (mk tbl (m + 40)).exec 1 [] (laB F) la2 (Store.ofList [.list (.int i :: xs)]) K = (match decide ((0 : Int) < (AV.int i :: xs).length) with
   | true => Chk (decide ((zL5 (decide ((10 : Int) ^ (18 : Int).toNat ≤ grt i))).natAbs < 2 ^ 60) || small (grt i) && small (zL5 (decide ((10 : Int) ^ (18 : Int).toNat ≤ grt i)))) (K .next (laL F) (laS i xs (grt i * zL5 (decide ((10 : Int) ^ (18 : Int).toNat ≤ grt i))) (((((grt i).fmod 2147483629 + 7919 * 0 * 0) + 31 * 0 + 17) * 48271).fmod 2147483647)))
   | false => K .next (laL F) (laS i xs 0 820607)) := by kernel_rfl
theorem zOs (m F : Nat) (is : List Int) : (mk tbl (m + 40)).exec 1 [] (laB F) la2 (Store.ofList [.list (is.map .int)]) λ fl σ s => fl = .next ∧ σ = laL F ∧ ∃ a b, s = Store.ofList [.list (is.map .int), zk7 a b] := by
 cases is with
 | nil => exact (zEa m F _).mpr ⟨rfl, rfl, _, _, rfl⟩
 | cons i is =>
   refine (zze m F i (is.map .int) _).mpr ?_
   cases decide ((0 : Int) < (AV.int i :: is.map AV.int).length) with
   | false => exact ⟨rfl, rfl, _, _, rfl⟩
   | true =>
     refine Chk.of ?_ ⟨rfl, rfl, _, _, rfl⟩
     cases decide ((10 : Int) ^ (18 : Int).toNat ≤ grt i)
     · rfl
     · rfl
theorem zA5 : tbl.fn.get 1695 = some zk9 := by kernel_rfl
theorem zt5 : zk9.body = [la0, la1] ++ (la2 :: [la3, la4, la5]) := rfl
theorem zz8 (a0 a1 a2 : PS) (c : List PS) (SE : Store) (hE : SE = Store.ofList []) (hA : (mk tbl 260).execs 0 [] [(zbu, .ext 0)] [a0, a1] SE λ fl σ _ => fl = .next ∧ σ = laF 0)
   (hB : ∀ (F : Nat) (is : List Int), (mk tbl 40).exec 1 [] (laB F) a2 (Store.ofList [.list (is.map .int)]) λ fl σ s => fl = .next ∧ σ = laL F ∧ ∃ a b, s = Store.ofList [.list (is.map .int), zk7 a b])
   (hC : ∀ (F : Nat) (a b : Int), (mk tbl 360).execs 0 [] (laC 0 F 0) c (Store.ofList [zk7 a b]) λ fl _ _ => fl = .ret (.bool true))
   {S : Store} {is : List Int} (hS : Lies S 0 (.list (is.map .int))) (m : Nat) : (mk tbl (m + 419)).execs 1 [] [(zbu, .ref 0)] ([a0, a1] ++ (a2 :: c)) S λ fl _ _ => zck fl = .bool true := by
 have p0 : 1 ≤ S.n := hS.2
 refine (zb7 (T := tbl) (z := 1) (n := m + 416) (Γ := []) (b := a2 :: c) (K := λ fl _ _ => zck fl = .bool true) [a0, a1] [(zbu, .ref 0)] S).mpr ?_
 have M0 : Em (adr [] S.n) S SE S := hE ▸ zgd (S := S) (as := []) rfl .nil
 refine (zFw zuo (m + 159) 260).execs hA M0 (z' := 1) (λ i _ => ltx p0 (zft _ _)) λ fl σ s S1 hk M => ?_
 have k1 : Keep (· ∈ ([] : List Nat)) S S1 := M.keep (as := []) (Nat.zero_le _)
 have h1 : Lies S1 0 (.list (is.map .int)) := ⟨k1.get _ _ (λ m => nomatch m) hS.2 hS.1, llx hS.2 k1.n⟩
 cases hk.1
 cases hk.2
 have p1 : 1 ≤ S1.n := h1.2
 have A1 : AtL S1 (adr [0] S1.n) [0] [.list (is.map .int)] := by
   refine ⟨?_, rfl⟩
   show Lies S1 0 (.list ((is.map AV.int).map _))
   rw [List.map_map]; exact h1
 refine zce (n := m + 416) ((zFw zuo (m + 376) 40).exec (hB (adr [] S.n 4) is) (zgd A1 (List.pairwise_singleton _ _)) (z' := 1) (λ i h => ?_) λ fl σ s S2 hk2 M2 => ?_)
 · match i, h with
   | i + 1, _ => exact ltx p1 (zft _ _)
 · obtain ⟨e1, e2, a, b, e3⟩ := hk2
   cases e1
   cases e2
   have g1 : s.get 1 = some (zk7 a b) := by rw [e3]; exact (zrk (l := [.list (is.map .int), zk7 a b]) (i := 1) rfl).1
   have l1 : 1 < s.n := by rw [e3]; exact (zrk (l := [.list (is.map .int), zk7 a b]) (i := 1) rfl).2
   have h2 : Lies S2 (S1.n + 0) (zk7 a b) := Lies.em M2 g1 l1
   have p2 : 1 ≤ S2.n := ltx (Nat.succ_le_of_lt (llx p1 (zft _ _))) (Nat.le_of_lt h2.2)
   refine (zFw zuo (m + 56) 360).execs (hC (adr [] S.n 4) a b) (zgd (S := S2) (as := [S1.n + 0]) (l := [zk7 a b]) ⟨h2, rfl⟩ (List.pairwise_singleton _ _)) (z' := 1) (λ i _ => ?_) λ fl σ s S3 hk3 M3 => by rw [hk3]; rfl
   match i with
   | 0 => exact p1
   | i + 1 => exact ltx p2 (zft _ _)
theorem zHt {S : Store} {is : List Int} (hS : Lies S 0 (.list (is.map .int))) (m : Nat) : (mk tbl (m + 419)).execs 1 [] [(zbu, .ref 0)] zk9.body S λ fl _ _ => zck fl = .bool true := by
 obtain ⟨SE, hE⟩ : ∃ SE, SE = Store.ofList [] := ⟨_, rfl⟩
 rw [zt5]
 exact zz8 la0 la1 la2 [la3, la4, la5] SE hE (zOg 0 0 SE hE) (zOs 0) (λ F a b => zOt 0 F ⟨a, b, zrk rfl⟩ 0) hS m
end Mine
namespace Mine
open PySem PySem.W PySem.Calls PyProof.Rows PySem.Spec
section
variable {C : Cx} {A : Around} {s : Shared} {E : Value → Shared → Prop}
theorem zyo : ∀ {us : List Value} {ns : List Int}, IntsAre us ns → VRs [] (ns.map AV.int) us := by
 intro us ns r
 induction r with
 | nil => exact .nil
 | cons n t _ ih => exact .cons (.int n t) ih
theorem zvr {S : Store} {is : List Int} (hS : Lies S 0 (.list (is.map .int))) : (mk tbl 420).callv 1 (.old 1695) [.ref 0] S λ v _ => v = .bool true := by
 rw [zbo (n := 419) (b := [(zbu, .ref 0)]) zA5 rfl]
 exact zHt hS 0
noncomputable def stE : Store := ⟨.nil, 0⟩
theorem zzy (F : Full C) (hT : C.T = tbl) (hA : AOK 420 A) (R0 : Rep C [] stE s.heap) {l : Addr} {ob : Obj} {us : List Value} {ns : List Int} {k : Nat}
   (hl : s.heap.get? l = some ob) (h1 : ob.cls = .type "list") (h2 : ob.data = .seq us.toArray k) (h3 : ob.dict = none) (hi : IntsAre us ns) (hlen : ns.length ≤ 63) (hG : C.G.get? l = none) (htab : ¬ C.isTab l) {Q : Value → Shared → Prop}
   (hQ : ∀ s', (∀ b o, s.heap.get? b = some o → ¬ C.isTab b → s'.heap.get? b = some o) → (∀ q ∈ C.tabs, ∃ ps, s'.heap.get? q.2 = some (tabObj ps)) → s'.gens = s.gens → s'.os = s.os → Q (.bool true) s') :
   wpAny (model C.prog C.w) A (PySem.call (.ref 1695) [.ref l] []) Q E s := by
 have ho : ObR C [] s.heap ob (.list (ns.map .int)) := ⟨by rw [List.length_map]; exact ltx hlen (by decide), ⟨us, k, zyo hi, h1, h2⟩, h3⟩
 have R : Rep C [l] (stE.add (.list (ns.map .int))) s.heap := R0.adopt ⟨(λ i e => nomatch e), htab, hG⟩ (λ _ _ _ e => e) (λ _ _ x => x) hl ho
 have hv : (mk C.T 420).callv 1 (.old 1695) [.ref 0] (stE.add (.list (ns.map .int))) λ v _ => v = .bool true := by rw [hT]; exact zvr (Lies.new stE _)
 have fn : (C.T.fn.get 1695).isSome = true := by rw [hT, zA5]; rfl
 refine wpAny_call (codeAny_mono ((zwf F 420).fn.go (w := ⟨[l], s⟩) (Q := Q) (E := E) hv fn hA R (.cons (.ref 0 l rfl) .nil) λ v st w' u hk a r => ?_) λ r s' q => ?_)
 · cases hk
   cases r
   refine hQ w'.s (λ b o e t => a.step.keep b o e (λ i hi q => ?_) t λ h => h) (λ q hq => (a.rep.tabs q hq).elim λ ps t => ⟨ps, t.at_⟩) a.step.gens a.step.os
   match i, hi with
   | i + 1, _ => cases q
 · unfold zBr at q
   split at q
   · exact q
   · exact q.elim
   · exact q
end
end Mine
namespace Mine
open PySem PyProof.Rows PySem.Spec
noncomputable def zFx (q : Nat) (k : Int) (ks : List Int) : List Int := ks.take q ++ k :: ks.drop q
noncomputable def zp2 (p : zkm) (k : Int) : Bool := match p.2.freeSlot (hashInt k) with
 | some (slot, _) => (p.2.put slot).1.fits (p.1.length + 1) && !(p.2.put slot).1.tooFull && Nat.ble p.1.length 90
 | none => false
noncomputable def zye (p : zkm) (k : Int) : zkm := match p.1.contains k with
 | true => p
 | false => match p.2.freeSlot (hashInt k) with
   | some (slot, _) => (zFx (p.2.put slot).2 k p.1, (p.2.put slot).1)
   | none => p
structure SetIs (h : Heap) (a : Addr) (p : zkm) : Prop where
 ex : ∃ o es ep, h.get? a = some o ∧ o.ExactSet ∧ o.data = .set es ep p.2 ∧ IntsAre (es.toList.map (·.2)) p.1 ∧ es.toList.map (·.1) = p.1.map hashInt
 fits : p.2.fits p.1.length = true
 plain : p.2.plain = true
 few : p.1.length < 100
theorem zz2 {prog : Program} {w : World} : ∀ {es : List (Int × Value)} {ks : List Int}, IntsAre (es.map (·.2)) ks → es.map (·.1) = ks.map hashInt → ElemsOf (intKind prog w) es := by
 intro es
 induction es with
 | nil => exact λ _ _ e he => nomatch he
 | cons p es ih =>
   obtain ⟨h, v⟩ := p
   intro ks r e
   cases r with
   | cons k t r =>
     injection e with e1 e2
     intro x hx
     cases hx with
     | head => exact ⟨⟨k, by simp [intKind, Value.isInt], e1⟩, rfl⟩
     | tail _ hx => exact ih r e2 x hx
theorem zEl {prog : Program} {w : World} {k : Int} : ∀ {es : List (Int × Value)} {ks : List Int}, IntsAre (es.map (·.2)) ks → (es.findIdx? λ e => (intKind prog w).is k e.2).isSome = ks.contains k := by
 intro es
 induction es with
 | nil => intro ks r; cases r; rfl
 | cons p es ih =>
   obtain ⟨h, v⟩ := p
   intro ks r
   cases r with
   | cons k' t r =>
     have ih := ih r
     have e : (intKind prog w).is k (Value.int k' t) = (k == k') := by
       show Value.isInt k (.int k' t) = _
       simp only [Value.isInt]
       exact BEq.comm
     rw [List.findIdx?_cons, List.contains_cons, ← ih, e]
     cases k == k' with
     | true => rfl
     | false => cases (es.findIdx? λ e => (intKind prog w).is k e.2) <;> rfl
theorem zqx {q : Nat} {k : Int} {ks : List Int} : (zFx q k ks).length = ks.length + 1 := by
 unfold zFx
 rw [List.length_append, List.length_cons, ← Nat.add_assoc, ← List.length_append, List.take_append_drop]
theorem zzb : ∀ {a b : List Value} {x y : List Int}, IntsAre a x → IntsAre b y → IntsAre (a ++ b) (x ++ y) := by
 intro a b x y r h
 induction r with
 | nil => exact h
 | cons n t _ ih => exact .cons n t ih
theorem zot : ∀ {a : List Value} {x : List Int} (q : Nat), IntsAre a x → IntsAre (a.take q) (x.take q)
 | _, _, 0, _ => .nil
 | _, _, _ + 1, .nil => .nil
 | _, _, q + 1, .cons n t r => .cons n t (zot q r)
theorem zno : ∀ {a : List Value} {x : List Int} (q : Nat), IntsAre a x → IntsAre (a.drop q) (x.drop q)
 | _, _, 0, h => h
 | _, _, _ + 1, .nil => .nil
 | _, _, q + 1, .cons n t r => zno q r
theorem zzm {a : List Value} {x : List Int} {k : Int} {t : Tok} (h : IntsAre a x) (q : Nat) : IntsAre (a.take q ++ .int k t :: a.drop q) (zFx q k x) := zzb (zot q h) (.cons k t (zno q h))
section
variable {prog : Program} {w : World} {A : Around} {E : Value → Shared → Prop} {s : Shared}
theorem zt3 {a : Addr} {p : zkm} {k : Int} {t : Tok} {Q : Bool → Shared → Prop} (hS : SetIs s.heap a p) (ok : (p.1.contains k || zp2 p k) = true)
   (h : ∀ b h', Heap.SameBut a s.heap h' → SetIs h' a (zye p k) → Q b { s with heap := h' }) : wpAny (model prog w) A (setAddHashed a (.int k t) (hashInt k)) Q E s := by
 obtain ⟨⟨o, es, ep, ho, hex, hd, hi, hh⟩, hf, hpl, hfew⟩ := hS
 have hel := zz2 (prog := prog) (w := w) hi hh
 have hsz : es.size = p.1.length := by rw [← Array.length_toList, ← List.length_map (f := (·.1)), hh, List.length_map]
 have hf' : p.2.fits es.size = true := hsz ▸ hf
 have hkey : (intKind prog w).is k (.int k t) = true := by simp [intKind, Value.isInt]
 have hb : es.size < scanBound := by rw [hsz]; exact Nat.lt_trans hfew (by decide)
 have fnd := zEl (prog := prog) (w := w) (k := k) hi
 unfold setAddHashed setAddHashedIn
 refine wpAny_holding (wpAny_bind (wpAny_setState_of ho hd hf' ?_))
 dsimp only
 rw [byScan_of rfl hb hel, if_pos rfl]
 unfold setAddByScan
 refine wpAny_bind (wpAny_bind (wpAny_rule ?_))
 refine wpAny_bind (wpAny_setScan_of (k := k) hkey ho hd hf' hel ?_)
 cases hr : List.findIdx? (λ e => (intKind prog w).is k e.2) es.toList with
 | some j =>
   rw [hr] at fnd
   refine wpAny_pure (wpAny_pure ?_)
   have e : zye p k = p := by unfold zye; rw [← fnd]; rfl
   exact h _ s.heap (Heap.SameBut.refl a s.heap) (by rw [e]; exact ⟨⟨o, es, ep, ho, hex, hd, hi, hh⟩, hf, hpl, hfew⟩)
 | none =>
   rw [hr] at fnd
   rw [← fnd] at ok
   have ok : zp2 p k = true := ok
   unfold zp2 at ok
   cases hfs : p.2.freeSlot (hashInt k) with
   | none => rw [hfs] at ok; cases ok
   | some q =>
     obtain ⟨slot, wd⟩ := q
     rw [hfs] at ok
     obtain ⟨ok1, ok3⟩ := Bool.and_eq_true_iff.mp ok
     obtain ⟨ok1, ok2⟩ := Bool.and_eq_true_iff.mp ok1
     have e : zye p k = (zFx (p.2.put slot).2 k p.1, (p.2.put slot).1) := by unfold zye; rw [← fnd, hfs]; rfl
     have el : layNew p.2 es (hashInt k) (.int k t) = (SetTable.insertAt es (p.2.put slot).2 (hashInt k, .int k t), (p.2.put slot).1, wd, false) := by
       have e1 : (SetTable.insertAt es (p.2.put slot).2 (hashInt k, Value.int k t)).size = p.1.length + 1 := by
         rw [← Array.length_toList, (SetTable.insertAt_perm _ _ _).length_eq, Array.length_toList, Array.size_push, hsz]
       unfold layNew
       rw [hfs]
       dsimp only
       rw [e1]
       unfold SetTable.orStandIn
       rw [ok1]; rfl
     have ok4 := blx ok3
     have pl : (p.2.put slot).1.plain = true := hpl
     have e2 : (SetTable.insertAt es (p.2.put slot).2 (hashInt k, Value.int k t)).toList = es.toList.take (p.2.put slot).2 ++ (hashInt k, .int k t) :: es.toList.drop (p.2.put slot).2 := SetTable.toList_insertAt _ _ _
     have e3 : (SetTable.insertAt es (p.2.put slot).2 (hashInt k, Value.int k t)).size = p.1.length + 1 := by
       rw [← Array.length_toList, (SetTable.insertAt_perm _ _ _).length_eq, Array.length_toList, Array.size_push, hsz]
     dsimp only
     rw [el]
     dsimp only
     refine wpAny_bind (wpAny_pure (a := ()) ?_)
     rw [if_pos pl]
     refine wpAny_bind ?_
     rw [hashByValue_scannable 8 rfl]
     refine wpAny_pure ?_
     rw [if_pos (show plainKind (.int k t) = true from rfl)]
     refine wpAny_bind (wpAny_storeSet_of ho hd ?_ (by rw [e3, sizeLine_eq]; omega))
     rw [if_neg (by rw [(Bool.not_eq_true' _).mp ok2, Bool.and_false]; exact Bool.false_ne_true)]
     refine wpAny_pure (wpAny_pure (h _ _ (Heap.SameBut.update s.heap a _) ?_))
     rw [e]
     have hg : (s.heap.update a (Obj.putSet (SetTable.insertAt es (p.2.put slot).2 (hashInt k, Value.int k t)) (p.2.put slot).1)).get? a = some { o with data := .set (SetTable.insertAt es (p.2.put slot).2 (hashInt k, Value.int k t)) (ep + 1) (p.2.put slot).1 } := by
       have := Heap.get?_update_self (Obj.putSet (SetTable.insertAt es (p.2.put slot).2 (hashInt k, Value.int k t)) (p.2.put slot).1) ho (by rw [putSet_of _ _ hd]; rfl)
       rw [putSet_of _ _ hd] at this; exact this
     refine ⟨⟨_, _, _, hg, hex, rfl, ?_, ?_⟩, ?_, pl, ?_⟩
     · rw [e2, List.map_append, List.map_cons, List.map_take, List.map_drop]
       exact zzm hi _
     · rw [e2, List.map_append, List.map_cons, List.map_take, List.map_drop, hh]
       unfold zFx
       rw [List.map_append, List.map_cons, List.map_take, List.map_drop]
     · rw [zqx]; exact ok1
     · rw [zqx]; exact Nat.lt_of_le_of_lt (Nat.succ_le_succ ok4) (by decide)
end
section
variable {prog : Program} {w : World} {A : Around} {R : Result → Shared → Prop} {I : Addr} {fp wr : List Addr} {G : Array GenState → Array GenState → Prop} {n : Nat} {P : Nat → Value → Prop} {St : Nat → Shared → Prop}
theorem SetIs.keep {h h' : Heap} {a : Addr} {p : zkm} (x : SetIs h a p) (k : ∀ o, h.get? a = some o → h'.get? a = some o) : SetIs h' a p :=
 let ⟨⟨o, es, ep, e, r⟩, b, c, d⟩ := x; ⟨⟨o, es, ep, k o e, r⟩, b, c, d⟩
theorem zAa (W : WalksS prog w A.in1 I fp wr G n P St) (S : Addr) (hSf : S ∉ fp) (val : Nat → Int) (hval : ∀ i v, P i v → ∃ t, v = .int (val i) t) (p : Nat → zkm) (hp : ∀ i, i < n → p (i + 1) = zye (p i) (val i) ∧ ((p i).1.contains (val i) || zp2 (p i) (val i)) = true) :
   ∀ (k i : Nat) (s : Shared), i + k = n → St i s → SetIs s.heap S (p i) → (∀ s', Moved (S :: wr) G s s' → SetIs s'.heap S (p n) → R (.ok (.ret .none)) s') →
     codeAny (model prog w) A (.builtin "set.update.loop" ⟨[.ref S, .ref I], []⟩) R s := by
 have hSw : S ∉ wr := λ h => hSf (W.sub _ h)
 have hsub : ∀ b ∈ wr, b ∈ S :: wr := λ b hb => List.mem_cons_of_mem _ hb
 intro k
 induction k with
 | zero =>
   intro i s hk hst hS hR
   rw [Nat.add_zero] at hk
   subst hk
   refine codeAny_builtin PyProof.Rows.F.entry_set_update_loop ?_
   rw [Around.under_plainId PyProof.Rows.F.plain_set_update_loop _]
   show wpAny _ A.in1 (pyNext (.ref I) >>= _) _ _ s
   refine wpAny_bind (W.done s _ _ hst λ s' hm => ?_)
   show wpAny _ A.in1 (ret Value.none) _ _ s'
   exact wpAny_pure (hR s' (hm.mono hsub) (hS.keep λ o e => hm.heap S _ hSw e))
 | succ k ih =>
   intro i s hk hst hS hR
   have hlt : i < n := by omega
   refine codeAny_builtin PyProof.Rows.F.entry_set_update_loop ?_
   rw [Around.under_plainId PyProof.Rows.F.plain_set_update_loop _]
   show wpAny _ A.in1 (pyNext (.ref I) >>= _) _ _ s
   refine wpAny_bind (W.item i s _ _ hlt hst λ v s' hP hst' hm => ?_)
   obtain ⟨t, rfl⟩ := hval i v hP
   obtain ⟨p1, p2⟩ := hp i hlt
   show wpAny _ A.in1 (holding [Value.int (val i) t] (setAdd S (.int (val i) t)) >>= _) _ _ s'
   refine wpAny_bind (wpAny_holding ?_)
   unfold setAdd
   refine wpAny_holding (wpAny_bind ((intKind prog w).pyHash (k := val i) (intKind_is _ _ _ _) ?_))
   refine zt3 (s := { s' with toks := s'.toks + 1 }) (hS.keep λ o e => hm.heap S _ hSw e) p2 λ b h' hsb hS2 => ?_
   have hk2 : ∀ b, b ∉ S :: wr → ∀ o, s'.heap.get? b = some o → h'.get? b = some o := λ b hb o e => by
     rw [hsb.2 b λ h => hb (by rw [h]; exact List.mem_cons_self)]; exact e
   refine wpAny_pure ⟨plainId_quiet PyProof.Rows.F.plain_set_update_loop _, ih (i + 1) _ (by omega) (W.frame _ s' _ _ hst' (Nat.le_succ _) λ b hb o e => ?_) (p1 ▸ hS2) λ s'' hm'' hS'' => ?_⟩
   · rw [hsb.2 b (λ h : b = S => hSf (by rw [← h]; exact hb))]; exact e
   · exact hR s'' (Moved.trans W.gtrans ((hm.mono hsub).then_heap (Nat.le_succ _) λ b o hb e => hk2 b hb o e) hm'') hS''
end
section
variable {prog : Program} {w : World} {A : Around} {E : Value → Shared → Prop} {s : Shared}
theorem zjp (a : Value) {Q₁ : Value → Shared → Prop}
   (h : Q₁ (.ref s.heap.objs.size) { s with heap := s.heap.push { cls := .type "set", dict := none, data := .set #[] 0 (.fresh 0 0 (led w)) } }) :
   codeAny (model prog w) A (.call (.builtin "set.__new__") ⟨[.type "set", a], []⟩) (wants Q₁ E) s := by
 refine codeAny_of_tree ?_
 show wpAny _ A.in1 (do checkBuiltinCall "set.__new__" ⟨[.type "set", a], []⟩; again (.builtin "set.__new__" ⟨[.type "set", a], []⟩)) _ _ s
 refine wpAny_bind (wpAny_of_eq (PySem.F.newCall_set_1 a) (wpAny_pure ⟨plainId_quiet PySem.F.plain_set_new _, codeAny_builtin PySem.F.entry_set_new ?_⟩))
 rw [Around.under_plainId PySem.F.plain_set_new _]
 unfold Builtin.«set.__new__» Builtin.Frozenset.newClass
 have hsub := sub_set_self
 obtain ⟨hp, g, d, tk, os⟩ := s
 dsimp only
 wp_walk
 refine wpAny_askSetting (wpAny_pure ?_)
 dsimp only
 simp only [newObj]
 refine wpAny_bind (wpAny_alloc (wpAny_pure ?_))
 exact wpAny_pure h
end
section
variable {prog : Program} {w : World} {A : Around} {E : Value → Shared → Prop} {s : Shared}
noncomputable abbrev zfe (w : World) : Obj := { cls := .type "set", dict := none, data := .set #[] 0 (.fresh 0 0 (led w)) }
theorem zun {h : Heap} {a : Addr} (e : h.get? a = some (zfe w)) : SetIs h a ([], .fresh 0 0 (led w)) :=
 ⟨⟨_, #[], 0, e, ⟨rfl, rfl, rfl⟩, rfl, .nil, rfl⟩, rfl, rfl, Nat.zero_lt_succ _⟩
set_option maxHeartbeats 3200000 in
theorem zqe {l : Addr} {items : Array Value} {ns : List Int} {p : Nat → zkm} {Q : Value → Shared → Prop}
   (hh : A.handled = none) (hl : s.heap.IsList l items) (hi : IntsAre items.toList ns) (p0 : p 0 = ([], .fresh 0 0 (led w)))
   (hp : ∀ i, i < items.size → p (i + 1) = zye (p i) (ns.getD i 0) ∧ ((p i).1.contains (ns.getD i 0) || zp2 (p i) (ns.getD i 0)) = true)
   (h : ∀ (h' : Heap) (tk : Nat), SetIs h' s.heap.objs.size (p items.size) → (∀ b o, s.heap.get? b = some o → h'.get? b = some o) → Q (.ref s.heap.objs.size) { s with heap := h', toks := tk }) :
   wpAny (model prog w) A (call (.type "set") [.ref l]) Q E s := by
 obtain ⟨c, tl, hmro⟩ := PySem.F.called_set.mro
 have hmade := PySem.F.called_set.made
 have hsub := PySem.F.called_set.sub
 refine wpAny_call (codeAny_of_tree ?_)
 show wpAny _ _ (callAny (.type "set") _) _ _ _
 refine wpAny_pure ⟨Code.quiet_builtin _ (by decide +kernel), codeAny_builtin PySem.F.entry_type_call ?_⟩
 rw [Around.under_plain (weight_type_call_type "set" [.ref l] []) rfl]
 have h1 := PySem.F.called_set.notType
 have h2 := PySem.F.called_set.canCreate
 have hct := PySem.F.typeCall_set_1 (.ref l)
 repeat (any_goals (first | assumption | wp_step))
 refine codeAny_mono (zjp (.ref l) (E := E) (Q₁ := λ obj s₁ => obj = .ref s.heap.objs.size ∧ s₁ = { s with heap := s.heap.push (zfe w) }) ⟨rfl, rfl⟩) λ r s₁ hr => ?_
 cases r with
 | error e => exact hr
 | ok fl =>
   cases fl with
   | ret obj =>
     obtain ⟨rfl, rfl⟩ := hr
     have hS : (s.heap.push (zfe w)).get? s.heap.objs.size = some (zfe w) := Heap.get?_push_size _ rfl
     have hT : Shared.TypeIs { s with heap := s.heap.push (zfe w) } (.ref s.heap.objs.size) "set" := ⟨_, hS, rfl⟩
     have hli := PySem.F.called_set.init.lookup
     have hbi := PySem.F.called_set.init.bind (.ref s.heap.objs.size)
     repeat (any_goals (first | assumption | wp_step))
     refine codeAny_mono (codeAny_call_builtin (R := wants (λ r s₂ => r = .none ∧ ∃ h' tk, s₂ = { s with heap := h', toks := tk } ∧ SetIs h' s.heap.objs.size (p items.size) ∧ (∀ b o, s.heap.get? b = some o → h'.get? b = some o)) E) PySem.F.called_set.init.plain PySem.F.entry_set_init (check_set_init_1 hT ?_)) λ r₂ s₂ hr₂ => ?_
     · obtain ⟨ol, hol, hcl, nl, hdl⟩ := hl
       have hol' : (s.heap.push (zfe w)).get? l = some ol := Heap.get?_push_of_some _ hol
       have hsls := PySem.F.sub_list_set
       have hslf := PySem.F.sub_list_frozenset
       have hne : (Value.type "list" == Value.type "dict") = false := by decide
       have hl1 : (s.heap.push (zfe w)).IsList l items := ⟨_, hol', hcl, nl, hdl⟩
       have hlS : l < s.heap.objs.size := Heap.lt_size hol
       obtain ⟨ocls, odict, odata, oslots⟩ := ol
       simp only at hcl hdl
       subst hcl; subst hdl
       unfold Builtin.«set.__init__» noKeywords Builtin.Frozenset.updateFrom
       generalize hPI : pyIter = PI
       wp_walk
       subst hPI
       refine wpAny_pyIter_list hl1 ?_
       refine wpAny_bind (wpAny_runValue ?_)
       have hh3 : A.in1.in1.in1.handled = none := by simp [hh]
       have sz : (s.heap.push (zfe w)).objs.size = s.heap.objs.size + 1 := Heap.size_push _ _
       have hneI : l ≠ (s.heap.push (zfe w)).objs.size := by rw [sz]; exact Nat.ne_of_lt (Nat.lt_succ_of_lt hlS)
       have hSf : s.heap.objs.size ∉ [(s.heap.push (zfe w)).objs.size, l] := by
         rw [sz]; simp only [List.mem_cons, List.not_mem_nil, or_false, not_or]
         exact ⟨Nat.ne_of_lt (Nat.lt_succ_self _), Nat.ne_of_gt hlS⟩
       refine zAa ((Walks.list hh3 _ l hneI items).toS) s.heap.objs.size hSf (λ i => ns.getD i 0) (λ i v hv => IntsAre.int_at hi i v (by rw [Array.getElem?_toList]; exact hv)) p hp items.size 0 _ (Nat.zero_add _)
         ⟨⟨_, Heap.get?_push_size _ rfl, rfl, rfl⟩, (hl1.push _)⟩ (p0 ▸ zun (Heap.get?_push_of_some _ hS)) λ s' hm hS' => ?_
       obtain ⟨h', g', d', tk', os'⟩ := s'
       have eg : g' = s.gens := hm.gens
       have ed : d' = s.drawn := hm.drawn
       have eo : os' = s.os := hm.os
       subst eg; subst ed; subst eo
       show wpAny _ _ _ _ _ _
       refine wpAny_pure ?_
       show wpAny _ _ (ret Value.none) _ _ _
       refine wpAny_pure ⟨rfl, h', tk', rfl, hS', λ b o e => ?_⟩
       have hb := Heap.lt_size e
       refine hm.heap b o ?_ (Heap.get?_push_of_some _ (Heap.get?_push_of_some _ e))
       simp only [List.mem_cons, List.not_mem_nil, or_false, not_or]
       exact ⟨Nat.ne_of_lt hb, by rw [sz]; exact Nat.ne_of_lt (Nat.lt_succ_of_lt hb)⟩
     · cases r₂ with
       | error e => exact hr₂
       | ok fl₂ =>
         cases fl₂ with
         | ret r =>
           obtain ⟨rfl, h', tk, rfl, hS', hk'⟩ := hr₂
           repeat (any_goals (first | assumption | wp_step))
           exact h _ _ hS' hk'
         | _ => exact hr₂.elim
   | _ => exact hr.elim
end
noncomputable def zrp (l : Bool) : Nat → zkm → List Int → Bool
 | 0, p, acc => zn7 l p && decide (zgb p.1 = zgb acc)
 | f + 1, p, acc => zn7 l p && decide (zgb p.1 = zgb acc) && [4, -4, 3].all λ k => (p.1.contains k || zp2 p k) && zrp l f (zye p k) (acc ++ [k])
theorem zDk : ∀ l, zrp l 4 ([], .fresh 0 0 l) [] = true
 | true => by kernel_rfl
 | false => by kernel_rfl
noncomputable def pAt (l : Bool) (ns : List Int) (i : Nat) : zkm := (ns.take i).foldl zye ([], .fresh 0 0 l)
theorem zrh {l : Bool} {ns : List Int} {i : Nat} (h : i < ns.length) : pAt l ns (i + 1) = zye (pAt l ns i) (ns.getD i 0) := by
 unfold pAt
 rw [List.take_add_one, List.foldl_append, List.getD_eq_getElem?_getD, List.getElem?_eq_getElem h]
 rfl
theorem zvx {l : Bool} {ns : List Int} (hm : ∀ k ∈ ns, k = 4 ∨ k = -4 ∨ k = 3) (hl : ns.length ≤ 4) : ∀ i, i ≤ ns.length → zrp l (4 - i) (pAt l ns i) (ns.take i) = true
 | 0, _ => zDk l
 | i + 1, h => by
   have ih := zvx (l := l) hm hl i (Nat.le_of_succ_le h)
   have e : 4 - i = (4 - (i + 1)) + 1 := (Nat.sub_add_cancel (Nat.sub_pos_of_lt (llx h hl))).symm
   rw [e] at ih
   have ih := (Bool.and_eq_true_iff.mp ih).2
   have hk : ns.getD i 0 = ns[i] := by rw [List.getD_eq_getElem?_getD, List.getElem?_eq_getElem h]; rfl
   have hmem : ns.getD i 0 ∈ [(4 : Int), -4, 3] := by
     rw [hk]
     have := hm _ (List.getElem_mem h)
     simpa using this
   have := (Bool.and_eq_true_iff.mp (List.all_eq_true.mp ih _ hmem)).2
   rw [zrh h, List.take_add_one, List.getElem?_eq_getElem h, ← hk]
   exact this
theorem zJl {l : Bool} {ns : List Int} (hm : ∀ k ∈ ns, k = 4 ∨ k = -4 ∨ k = 3) (hl : ns.length ≤ 4) {i : Nat} (h : i < ns.length) : ((pAt l ns i).1.contains (ns.getD i 0) || zp2 (pAt l ns i) (ns.getD i 0)) = true := by
 have ih := zvx (l := l) hm hl i (Nat.le_of_lt h)
 have e : 4 - i = (4 - (i + 1)) + 1 := (Nat.sub_add_cancel (Nat.sub_pos_of_lt (llx h hl))).symm
 rw [e] at ih
 have ih := (Bool.and_eq_true_iff.mp ih).2
 have hk : ns.getD i 0 = ns[i] := by rw [List.getD_eq_getElem?_getD, List.getElem?_eq_getElem h]; rfl
 refine (Bool.and_eq_true_iff.mp (List.all_eq_true.mp ih (ns.getD i 0) ?_)).1
 rw [hk]
 have := hm _ (List.getElem_mem h)
 simpa using this
theorem zFs {l : Bool} {ns : List Int} (hm : ∀ k ∈ ns, k = 4 ∨ k = -4 ∨ k = 3) (hl : ns.length ≤ 4) : zn7 l (pAt l ns ns.length) = true ∧ zgb (pAt l ns ns.length).1 = zgb ns := by
 have ih := zvx (l := l) hm hl ns.length (Nat.le_refl _)
 rw [List.take_length] at ih
 have : ∀ f p acc, zrp l f p acc = true → zn7 l p = true ∧ zgb p.1 = zgb acc := λ f p acc h => by
   cases f with
   | zero => obtain ⟨a, b⟩ := Bool.and_eq_true_iff.mp h; exact ⟨a, of_decide_eq_true b⟩
   | succ f => obtain ⟨a, b⟩ := Bool.and_eq_true_iff.mp (Bool.and_eq_true_iff.mp h).1; exact ⟨a, of_decide_eq_true b⟩
 exact this _ _ _ ih
theorem zwy {C : Cx} {z : Nat} {A : Around} {E : Value → Shared → Prop} {w : Wd} {st : Store} {Q : Value → Shared → Prop} {v : AV} {u : Value} {q : Bool × AV × Store} (h : biv C.T .set [v] st = some q) (hp : q.1 = true) (hh : A.handled = none) (R : Rep C w.ρ st w.s.heap) (r : VR w.ρ v u) (hQ : QV C z w q.2.2 q.2.1 Q) :
   wpAny (model C.prog C.w) A (call (.type "set") [u]) Q E w.s := by
 refine zag h λ i hi h => zag h λ xs hx h => zbs h λ is his h => zd8 (G := λ u => wpAny (model C.prog C.w) A (call (.type "set") [u]) Q E w.s) hi r λ a e => R.ls hx e λ ob us n l => ?_
 subst h
 refine zbf hp λ h1 h2 => ?_
 have hl := blx h1
 have hin := zdk l.seq.items his
 have hm : ∀ k ∈ is, k = 4 ∨ k = -4 ∨ k = 3 := λ k hk => by
   have := List.all_eq_true.mp h2 k hk
   rw [Bool.or_eq_true, Bool.or_eq_true, decide_eq_true_eq, decide_eq_true_eq, decide_eq_true_eq] at this
   exact or_assoc.mp this
 have hlen : us.toArray.size = is.length := Eq.trans List.size_toArray hin.length
 have hend := zFs (l := led C.w) hm hl
 refine zqe (ns := is) (p := pAt (led C.w) is) hh l.is hin rfl (λ j hj => ⟨zrh (hlen ▸ hj), zJl hm hl (hlen ▸ hj)⟩) λ h' tk hS keep => ?_
 rw [hlen] at hS
 obtain ⟨o, es, ep, ho, hex, hd, hi', hh'⟩ := hS.ex
 exact hQ _ _ (Aft.made NoX R keep ho ⟨es, ep, pAt (led C.w) is is.length, hex, hd, hi', hh', hend.1, hend.2.symm⟩) (zg1 R _)
theorem zin : Manifest.owners.lookup (String.ofList ['r', 'o', 't', 'a', 'r', 'e', 't', 'i', '_', 't', 'e', 's'].reverse) = some Manifest.sig_set_iterator := by kernel_rfl
theorem zbi : Slot "set_iterator" "__next__" "set_iterator.__next__" :=
 .of (owner := "set_iterator") (n := "__next__") (by rw [typeLookup_type, builtinLookup_eq_fast]; kernel_rfl) (by decide +kernel) (by decide +kernel) (by decide +kernel)
   (by first | exact .inl (by decide +kernel) | exact .inr (by decide +kernel)) (by rw [isSubtype_type]; kernel_rfl)
theorem zc8 : entryFor table "set_iterator.__next__" = some Builtin.«set_iterator.__next__» := entryFor_of_tree (by kernel_rfl)
theorem zc4 (a : Value) : argsOk "set_iterator.__next__" ⟨[a], []⟩ := by
 unfold argsOk; rw [signature?_of (id := "set_iterator.__next__") (n := ['_', '_', 't', 'x', 'e', 'n', '_', '_']) (o := ['r', 'o', 't', 'a', 'r', 'e', 't', 'i', '_', 't', 'e', 's']) (by kernel_rfl) zin]; kernel_rfl
theorem zlg : entryFor table "set.__iter__" = some Builtin.«frozenset.__iter__» :=
 entryFor_alias (id' := "frozenset.__iter__") (by kernel_rfl) rfl (by decide +kernel) (by kernel_rfl)
noncomputable def zhx (S : Addr) (sl i n ep : Int) : Obj := { cls := .type "set_iterator", data := .fields #[.int sl 0, .int i 0, .ref S, .int n 0, .int ep 0] }
structure SetHere (w : World) (h : Heap) (S : Addr) (es : Array (Int × Value)) (ep : Nat) (p : zkm) : Prop where
 o : ∃ o, h.get? S = some o ∧ o.cls = .type "set" ∧ o.data = .set es ep p.2
 size : es.size = p.1.length
 good : zn7 (led w) p = true
structure GoodOf (l : Bool) (p : zkm) : Prop where
 fits : p.2.fits p.1.length = true
 plain : p.2.plain = true
 led : p.2.led = l
 few : p.1.length ≤ 4
 nodup : p.1.Nodup
 walk : ∀ i, i ≤ p.1.length → SetTable.below p.2.place (zls p.2.place i) = i
theorem zk1 {l : Bool} {p : zkm} (h : zn7 l p = true) : GoodOf l p := by
 unfold zn7 at h
 simp only [Bool.and_eq_true, beq_iff_eq, decide_eq_true_eq, List.all_eq_true, List.mem_range] at h
 obtain ⟨⟨⟨⟨⟨a, b⟩, c⟩, d⟩, e⟩, f⟩ := h
 exact ⟨a, b, c, blx d, e, λ i hi => ebx (f i (Nat.lt_succ_of_le hi))⟩
section
variable {prog : Program} {w : World} {A : Around} {E : Value → Shared → Prop} {s : Shared}
theorem zth {S : Addr} {es : Array (Int × Value)} {ep : Nat} {p : zkm} {Q : Value → Shared → Prop} (h : SetHere w s.heap S es ep p)
   (hQ : Q (.ref s.heap.objs.size) { s with heap := s.heap.push (zhx S 0 0 es.size ep) }) : wpAny (model prog w) A (pyIter (.ref S)) Q E s := by
 obtain ⟨⟨o, ho, hc, hd⟩, hsz, hg⟩ := h
 have G := zk1 hg
 have hf : p.2.fits es.size = true := hsz ▸ G.fits
 have hT : s.TypeIs (.ref S) "set" := ⟨o, ho, hc⟩
 refine wpAny_pyIter_slot hT PySem.F.slot_set_iter (wpAny_call_entry PySem.F.slot_set_iter hT zlg ?_ (PySem.F.args_set_iter_1 _))
 unfold Builtin.«frozenset.__iter__»
 refine wpAny_bind (wpAny_pure ?_)
 unfold Builtin.Frozenset.sizeOf setEntries
 refine wpAny_bind (wpAny_bind (wpAny_bind (wpAny_setState_of ho hd hf (wpAny_pure ?_))))
 refine wpAny_pure ?_
 unfold setDrawn
 refine wpAny_bind (wpAny_bind (wpAny_setState_of ho hd hf ?_))
 unfold setsByText
 refine wpAny_bind (wpAny_bind (wpAny_askSetting (wpAny_pure ?_)))
 refine wpAny_pure ?_
 dsimp only
 rw [if_neg (by
   show ¬ ((!w.params.followText "set-order" && (!p.2.plain && decide (es.size > 1))) = true)
   rw [G.plain]; simp)]
 refine wpAny_bind (wpAny_pure ?_)
 refine wpAny_bind (wpAny_setEpoch_of ho hd hf ?_)
 exact wpAny_bind (wpAny_newObj_type (wpAny_pure ⟨_, rfl, "set_iterator", _, ⟨_, Heap.get?_push_size _ rfl, rfl⟩, zbi.lookup, hQ⟩))
noncomputable def zd7 (w : World) (S : Addr) (es : Array (Int × Value)) (ep : Nat) : Array (Int × Value) := match w.params.followText "set-order" with
 | true => pickOrder (w.params.setOrder S ep) es
 | false => es
noncomputable def zgf (w : World) (p : zkm) (i : Nat) : Nat := match w.params.followText "set-order" with
 | true => 0
 | false => zls p.2.place i
theorem zl1 {S : Addr} {es : Array (Int × Value)} {ep i : Nat} {p : zkm} {Q : Option (Value × Nat) → Shared → Prop} (h : SetHere w s.heap S es ep p) (hi : i ≤ es.size)
   (hQ : Q (((zd7 w S es ep)[i]?).map λ e => (e.2, zgf w p (i + 1))) s) : wpAny (model prog w) A (setNext S (zgf w p i) i ep) Q E s := by
 obtain ⟨⟨o, ho, hc, hd⟩, hsz, hg⟩ := h
 have G := zk1 hg
 have hf : p.2.fits es.size = true := hsz ▸ G.fits
 unfold setNext
 refine wpAny_bind (wpAny_setState_of ho hd hf ?_)
 unfold setsByText
 refine wpAny_bind (wpAny_bind (wpAny_askSetting (wpAny_pure ?_)))
 dsimp only
 cases hT : w.params.followText "set-order" with
 | true =>
   rw [if_pos (show (model prog w).w.params.followText "set-order" = true from hT), if_neg (by simp)]
   unfold setWalk
   refine wpAny_bind (wpAny_bind (wpAny_setState_of ho hd hf ?_))
   unfold setsByText
   refine wpAny_bind (wpAny_bind (wpAny_askSetting (wpAny_pure ?_)))
   rw [if_pos (show (model prog w).w.params.followText "set-order" = true from hT)]
   refine wpAny_bind (wpAny_askSetting (wpAny_pure (wpAny_pure ?_)))
   unfold zd7 zgf at hQ
   rw [hT] at hQ
   unfold zgf
   rw [hT]
   exact hQ
 | false =>
   have hl : p.2.led = true := by rw [G.led]; unfold led; rw [hT]; rfl
   have hsl : zgf w p i = zls p.2.place i := by unfold zgf; rw [hT]
   have hw : zd7 w S es ep = es := by unfold zd7; rw [hT]
   rw [if_neg (by show ¬ (w.params.followText "set-order" = true); rw [hT]; exact Bool.false_ne_true),
     if_neg (by show ¬ ((!p.2.plain && decide (es.size > 1)) = true); rw [G.plain]; simp)]
   refine wpAny_bind ?_
   show wpAny _ _ (if (!p.2.led && !es.isEmpty) = true then _ else _) _ _ _
   rw [if_neg (by rw [hl]; simp)]
   refine wpAny_pure (wpAny_pure ?_)
   rw [hsl, G.walk i (hsz ▸ hi)]
   have hps : p.2.place.size = es.size := by
     have := G.fits
     unfold SetTable.fits at this
     simp only [Bool.and_eq_true, beq_iff_eq] at this
     rw [this.1, hsz]
   rw [hw] at hQ
   rcases Nat.lt_or_ge i es.size with q | q
   · have q' : i < p.2.place.size := hps ▸ q
     rw [Array.getElem?_eq_getElem q] at hQ ⊢
     rw [Array.getElem?_eq_getElem q']
     have e : zgf w p (i + 1) = p.2.place[i] + 1 := by
       unfold zgf zls
       rw [hT]
       simp [q']
     rw [e] at hQ
     exact hQ
   · rw [Array.getElem?_eq_none q] at hQ ⊢
     exact hQ
end
section
variable {prog : Program} {w : World} {A : Around} {E : Value → Shared → Prop} {s : Shared}
theorem zg8 {it S : Addr} {a b c d : Int} (h : s.heap.get? it = some (zhx S a b c d)) : s.TypeIs (.ref it) "set_iterator" := ⟨_, h, rfl⟩
theorem zm8 {it S : Addr} {i : Nat} {es : Array (Int × Value)} {ep : Nat} {p : zkm} {x : Int × Value} {Q : Option Value → Shared → Prop} (hit : s.heap.get? it = some (zhx S (zgf w p i) i es.size ep)) (h : SetHere w s.heap S es ep p) (hi : i ≤ es.size) (hx : (zd7 w S es ep)[i]? = some x)
   (hQ : ∀ h', h'.get? it = some (zhx S (zgf w p (i + 1)) ((i + 1 : Nat) : Int) es.size ep) → Heap.SameBut it s.heap h' → Q (some x.2) { s with heap := h' }) : wpAny (model prog w) A (pyNext (.ref it)) Q E s := by
 obtain ⟨⟨o, ho, hc, hd⟩, hsz, hg⟩ := id h
 have G := zk1 hg
 have hf : p.2.fits es.size = true := hsz ▸ G.fits
 unfold pyNext
 refine wpAny_bind (wpAny_attempt (wpAny_callSpecial?_slot (name := Str.ofString "__next__") (zg8 hit) zbi
   (wpAny_call_entry zbi (zg8 hit) zc8 ?_ (zc4 _))))
 unfold Builtin.«set_iterator.__next__»
 refine wpAny_bind (wpAny_pure ?_)
 refine wpAny_bind (wpAny_fieldsOf hit rfl ?_)
 show wpAny _ _ (setEntries S >>= _) _ _ _
 unfold setEntries
 refine wpAny_bind (wpAny_bind (wpAny_setState_of ho hd hf (wpAny_pure ?_)))
 rw [if_neg (by simp)]
 show wpAny _ _ (setNext S (zgf w p i) i ep >>= _) _ _ _
 refine wpAny_bind (zl1 h hi ?_)
 rw [hx]
 show wpAny _ _ (setField (.ref it) 0 (rawInt (zgf w p (i + 1))) >>= _) _ _ _
 refine wpAny_bind (wpAny_setField hit rfl (by simp [zhx]) ?_)
 have h1 := Heap.get?_update_self (Obj.mapFields (·.setIfInBounds 0 (rawInt (zgf w p (i + 1))))) hit rfl
 show wpAny _ _ (setField (.ref it) 1 (rawInt ((i : Int) + 1)) >>= _) _ _ _
 refine wpAny_bind (wpAny_setField h1 rfl (by simp) ?_)
 refine wpAny_pure ⟨_, rfl, wpAny_pure (hQ _ ?_ ((Heap.SameBut.update ..).trans (Heap.SameBut.update ..)))⟩
 exact Heap.get?_update_self (Obj.mapFields (·.setIfInBounds 1 (rawInt ((i : Int) + 1)))) h1 rfl
theorem zof {it S : Addr} {i : Nat} {es : Array (Int × Value)} {ep : Nat} {p : zkm} {Q : Option Value → Shared → Prop} (hh : A.handled = none) (hit : s.heap.get? it = some (zhx S (zgf w p i) i es.size ep)) (h : SetHere w s.heap S es ep p) (hi : i ≤ es.size) (hx : (zd7 w S es ep)[i]? = none)
   (hQ : ∀ h', Heap.ExtBut it s.heap h' → Q none { s with heap := h' }) : wpAny (model prog w) A (pyNext (.ref it)) Q E s := by
 obtain ⟨⟨o, ho, hc, hd⟩, hsz, hg⟩ := id h
 have G := zk1 hg
 have hf : p.2.fits es.size = true := hsz ▸ G.fits
 unfold pyNext
 refine wpAny_bind (wpAny_attempt (wpAny_callSpecial?_slot (name := Str.ofString "__next__") (zg8 hit) zbi
   (wpAny_call_entry zbi (zg8 hit) zc8 ?_ (zc4 _))))
 unfold Builtin.«set_iterator.__next__»
 refine wpAny_bind (wpAny_pure ?_)
 refine wpAny_bind (wpAny_fieldsOf hit rfl ?_)
 show wpAny _ _ (setEntries S >>= _) _ _ _
 unfold setEntries
 refine wpAny_bind (wpAny_bind (wpAny_setState_of ho hd hf (wpAny_pure ?_)))
 rw [if_neg (by simp)]
 show wpAny _ _ (setNext S (zgf w p i) i ep >>= _) _ _ _
 refine wpAny_bind (zl1 h hi ?_)
 rw [hx]
 show wpAny _ _ (setField (.ref it) 2 .none >>= _) _ _ _
 refine wpAny_bind (wpAny_setField hit rfl (by simp [zhx]) ?_)
 show wpAny _ _ (newExc (.type "StopIteration") [] >>= _) _ _ _
 refine wpAny_bind ?_
 simp only [newExc, newTuple]
 refine wpAny_bind (wpAny_newObj_type ?_ (by size_fits))
 refine wpAny_bind (m := firstArgMember _ _) (wpAny_of_eq (a := Value.none) (by first | rfl | (simp only [firstArgMember]; rfl)) ?_)
 refine wpAny_newObj_type ?_ (by size_fits)
 simp only [raiseNew]
 refine wpAny_bind (wpAny_handled ?_)
 rw [show A.in1.handled = none from hh]
 refine wpAny_bind (wpAny_pure (wpAny_throw ?_))
 refine wpAny_bind (wpAny_isInstance (T := "StopIteration") (b := true) ⟨_, Heap.get?_push_size _ rfl, rfl⟩ isSubtype_stop ?_)
 exact wpAny_pure (hQ _ (((Heap.SameBut.update ..).extBut.push _).push _))
end
theorem zll {α : Type} : ∀ (l : List α) (i : Nat) (h : i < l.length), ([l[i]] ++ l.eraseIdx i).Perm l
 | [], _, h => absurd h (Nat.not_lt_zero _)
 | x :: l, 0, _ => .rfl
 | x :: l, i + 1, h => by
   have ih := zll l i (Nat.lt_of_succ_lt_succ h)
   simp only [List.getElem_cons_succ, List.eraseIdx_cons_succ]
   exact (List.Perm.swap x _ _).trans (ih.cons x)
theorem zuq {α : Type} (next : Nat → Nat) : ∀ (f k : Nat) (l : List α) (out : Array α), l.length = f → (pickOrder.go next f k l out).toList.Perm (out.toList ++ l)
 | 0, k, l, out, h => by
   rw [List.length_eq_zero_iff.mp h, List.append_nil]
   exact .rfl
 | f + 1, k, l, out, h => by
   unfold pickOrder.go
   have hlt : next k % l.length < l.length := Nat.mod_lt _ (h ▸ Nat.succ_pos f)
   rw [List.getElem?_eq_getElem hlt]
   refine (zuq next f (k + 1) _ _ (by rw [List.length_eraseIdx_of_lt hlt, h]; rfl)).trans ?_
   rw [Array.toList_push, List.append_assoc]
   exact (zll l _ hlt).append_left _
theorem zog (w : World) (S : Addr) (es : Array (Int × Value)) (ep : Nat) : (zd7 w S es ep).toList.Perm es.toList := by
 unfold zd7
 split
 · exact zuq _ _ _ _ _ (by simp)
 · exact .rfl
theorem zhv (w : World) (S : Addr) (es : Array (Int × Value)) (ep : Nat) : (zd7 w S es ep).size = es.size := by
 rw [← Array.length_toList, (zog w S es ep).length_eq, Array.length_toList]
theorem zuc : ∀ {us vs : List Value}, us.Perm vs → ∀ {is : List Int}, IntsAre us is → ∃ js, IntsAre vs js ∧ is.Perm js := by
 intro us vs h
 induction h with
 | nil => intro is r; exact ⟨is, r, .rfl⟩
 | cons x _ ih => intro is r; cases r with
   | cons n t r => obtain ⟨js, a, b⟩ := ih r; exact ⟨n :: js, .cons n t a, b.cons n⟩
 | swap x y l => intro is r; cases r with
   | cons n t r => cases r with
     | cons n' t' r => exact ⟨_, .cons n' t' (.cons n t r), .swap ..⟩
 | trans _ _ ih1 ih2 => intro is r; obtain ⟨js, a, b⟩ := ih1 r; obtain ⟨ks, c, d⟩ := ih2 a; exact ⟨ks, c, b.trans d⟩
theorem zdn : entryFor table "list.extend.loop" = some Builtin.«list.extend.loop» := entryFor_of_fast (by kernel_rfl)
theorem zbt : plainId "list.extend.loop" = true := by decide +kernel
section
variable {prog : Program} {w : World} {A : Around} {s : Shared}
theorem zyz {S I L : Addr} {es : Array (Int × Value)} {ep : Nat} {p : zkm} {R : Result → Shared → Prop} {s0 : Shared} (hh : A.handled = none) (h1 : I ≠ S) (h2 : L ≠ I) (h3 : L ≠ S) (hfew : es.size ≤ 4)
   (hR : ∀ h' m, h'.get? L = some (seqObj "list" ((zd7 w S es ep).toList.map (·.2)).toArray m) → (∀ b o, b ≠ I → b ≠ L → s0.heap.get? b = some o → h'.get? b = some o) → R (.ok (.ret (.ref L))) { s0 with heap := h' }) :
   ∀ (k i : Nat) (h : Heap) (m : Nat), i + k = es.size → h.get? I = some (zhx S (zgf w p i) i es.size ep) → SetHere w h S es ep p → h.get? L = some (seqObj "list" (((zd7 w S es ep).toList.take i).map (·.2)).toArray m) →
     (∀ b o, b ≠ I → b ≠ L → s0.heap.get? b = some o → h.get? b = some o) →
     codeAny (model prog w) A (.builtin "list.extend.loop" ⟨[.ref L, .ref I, .ref L], []⟩) R { s0 with heap := h } := by
 intro k
 induction k with
 | zero =>
   intro i h m hk hit hS hL hkeep
   rw [Nat.add_zero] at hk
   subst hk
   refine codeAny_builtin zdn ?_
   rw [Around.under_plainId zbt _]
   show wpAny _ A.in1 (pyNext (.ref I) >>= _) _ _ _
   refine wpAny_bind (zof (s := { s0 with heap := h }) hh hit hS (Nat.le_refl _) (Array.getElem?_eq_none (by rw [zhv]; exact Nat.le_refl _)) λ h' hx => ?_)
   refine wpAny_pure (hR h' m ?_ λ b o b1 b2 e => hx b o b1 (hkeep b o b1 b2 e))
   have := hx L _ h2 hL
   rw [List.take_of_length_le (by rw [Array.length_toList, zhv]; exact Nat.le_refl _)] at this
   exact this
 | succ k ih =>
   intro i h m hk hit hS hL hkeep
   have hlt : i < es.size := by omega
   have hlt' : i < (zd7 w S es ep).size := by rw [zhv]; exact hlt
   refine codeAny_builtin zdn ?_
   rw [Around.under_plainId zbt _]
   show wpAny _ A.in1 (pyNext (.ref I) >>= _) _ _ _
   refine wpAny_bind (zm8 (s := { s0 with heap := h }) hit hS (Nat.le_of_lt hlt) (Array.getElem?_eq_getElem hlt') λ h' hit' hx => ?_)
   have hL' : h'.get? L = some (seqObj "list" (((zd7 w S es ep).toList.take i).map (·.2)).toArray m) := (hx.2 L h2).trans hL
   show wpAny _ A.in1 (Builtin.List.listUpdate (.ref L) (·.push ((zd7 w S es ep)[i].2)) >>= _) _ _ _
   have hsz : (((zd7 w S es ep).toList.take i).map (·.2)).toArray.size ≤ 4 := by
     rw [List.size_toArray, List.length_map, List.length_take]
     exact ltx (Nat.min_le_left _ _) (ltx (Nat.le_of_lt hlt) hfew)
   refine wpAny_bind (listUpdate_at hL' rfl ?_ (by rw [sizeLine_eq]; omega) (by rw [Array.size_push, sizeLine_eq]; omega))
   have hu := get?_update_seq hL' (·.push ((zd7 w S es ep)[i].2))
   refine wpAny_pure ⟨plainId_quiet zbt _, ?_⟩
   have sb := Heap.SameBut.update h' L (Obj.mapSeq (·.push ((zd7 w S es ep)[i].2)))
   obtain ⟨⟨o, ho, hr⟩, hs2, hs3⟩ := hS
   refine ih (i + 1) _ (by omega) ((sb.2 I (Ne.symm h2)).trans hit') ⟨⟨o, (sb.2 S (Ne.symm h3)).trans ((hx.2 S (Ne.symm h1)).trans ho), hr⟩, hs2, hs3⟩ (m := if ((((zd7 w S es ep).toList.take i).map (·.2)).toArray.push ((zd7 w S es ep)[i].2)).size == (((zd7 w S es ep).toList.take i).map (·.2)).toArray.size then m else m + 1) ?_ λ b o b1 b2 e => (sb.2 b b2).trans ((hx.2 b b1).trans (hkeep b o b1 b2 e))
   rw [hu]
   have e : ((((zd7 w S es ep).toList.take i).map (·.2)).toArray.push ((zd7 w S es ep)[i].2)) = (((zd7 w S es ep).toList.take (i + 1)).map (·.2)).toArray := by
     rw [List.push_toArray, List.take_add_one, List.map_append, Array.getElem?_toList, Array.getElem?_eq_getElem hlt']
     rfl
   rw [e]
end
section
variable {prog : Program} {w : World} {A : Around} {E : Value → Shared → Prop} {s : Shared}
theorem zlh {M : Model} {α : Type} {c : Prop} [Decidable c] {x y : Sem α} {Q : α → Shared → Prop} (h : c) (k : wpAny M A x Q E s) : wpAny M A (if c then x else y) Q E s := by
 rw [if_pos h]; exact k
theorem zle {S : Addr} {Q : Bool → Shared → Prop} (hT : s.TypeIs (.ref S) "set") (h : Q false s) : wpAny (model prog w) A (Builtin.List.listLengthHint (.ref S)) Q E s := by
 unfold Builtin.List.listLengthHint
 refine wpAny_bind (wpAny_specialOf hT PySem.F.slot_set_len.lookup ?_)
 dsimp only
 have e : splitId "set.__len__" = some ("set", "__len__") := by kernel_rfl
 rw [e]
 dsimp only
 refine wpAny_bind (wpAny_isInstance hT sub_set_self ?_)
 rw [if_neg (by decide)]
 refine zlh (by kernel_rfl) ?_
 refine wpAny_bind (wpAny_typeOf (T := "set") hT ?_)
 exact wpAny_pure h
theorem zp8 {S : Addr} {es : Array (Int × Value)} {ep : Nat} {p : zkm} {Q : List Value → Shared → Prop} (hh : A.handled = none) (h : SetHere w s.heap S es ep p)
   (hQ : ∀ h', (∀ b o, s.heap.get? b = some o → h'.get? b = some o) → Q ((zd7 w S es ep).toList.map (·.2)) { s with heap := h' }) : wpAny (model prog w) A (collect (.ref S)) Q E s := by
 obtain ⟨⟨o, ho, hc, hd⟩, hsz, hg⟩ := id h
 have G := zk1 hg
 have hS := Heap.lt_size ho
 unfold collect
 refine wpAny_bind (wpAny_runValue (codeAny_builtin entry_proto_collect' ?_))
 show wpAny _ _ (do again (.builtin "list.__iadd__" ⟨[← newList [], .ref S], []⟩)) _ _ s
 refine wpAny_bind (wpAny_newList (wpAny_pure ⟨Code.quiet_builtin _ (by decide +kernel), codeAny_builtin entry_list_iadd' ?_⟩))
 show wpAny _ _ (Builtin.List.listExtendWith (.ref s.heap.objs.size) (.ref S) (.ref s.heap.objs.size)) _ _ { s with heap := s.heap.push (seqObj "list" #[] 0) }
 unfold Builtin.List.listExtendWith
 have ho' : (s.heap.push (seqObj "list" #[] 0)).get? S = some o := Heap.get?_push_of_some _ ho
 have hn : s.heap.objs.size ≠ S := Nat.ne_of_gt hS
 refine wpAny_bind (wpAny_typeOf (T := "set") ⟨o, ho', hc⟩ ?_)
 have hsame : Builtin.List.listSameRef (.ref s.heap.objs.size) (.ref S) = false := by
   unfold Builtin.List.listSameRef
   simp [hn]
 rw [hsame, if_neg (by decide)]
 refine wpAny_bind (zth (s := { s with heap := s.heap.push (seqObj "list" #[] 0) }) ⟨⟨o, ho', hc, hd⟩, hsz, hg⟩ ?_)
 have sz1 : (s.heap.push (seqObj "list" #[] 0)).objs.size = s.heap.objs.size + 1 := size_push' _ _
 dsimp only
 rw [sz1]
 refine wpAny_bind (wpAny_holding (zle ⟨o, Heap.get?_push_of_some _ ho', hc⟩ ?_))
 rw [if_pos (by decide)]
 have hL : ((s.heap.push (seqObj "list" #[] 0)).push (zhx S 0 0 es.size ep)).get? s.heap.objs.size = some (seqObj "list" #[] 0) := Heap.get?_push_of_some _ (Heap.get?_push_size _ rfl)
 refine wpAny_bind (wpAny_rule ?_)
 unfold Builtin.List.listTouch
 refine wpAny_bind (wpAny_bind (listUpdate_at hL rfl ?_))
 have hL1 := get?_update_seq hL (·.push .none)
 refine listUpdate_at hL1 rfl ?_
 have hL2 := get?_update_seq hL1 (·.pop)
 have sb1 := Heap.SameBut.update ((s.heap.push (seqObj "list" #[] 0)).push (zhx S 0 0 es.size ep)) s.heap.objs.size (Obj.mapSeq (·.push Value.none))
 have sb2 := Heap.SameBut.update (((s.heap.push (seqObj "list" #[] 0)).push (zhx S 0 0 es.size ep)).update s.heap.objs.size (Obj.mapSeq (·.push Value.none))) s.heap.objs.size (Obj.mapSeq (·.pop))
 have old : ∀ b o, s.heap.get? b = some o → ((((s.heap.push (seqObj "list" #[] 0)).push (zhx S 0 0 es.size ep)).update s.heap.objs.size (Obj.mapSeq (·.push Value.none))).update s.heap.objs.size (Obj.mapSeq (·.pop))).get? b = some o := λ b o e => by
   have hb : b ≠ s.heap.objs.size := Nat.ne_of_lt (Heap.lt_size e)
   rw [sb2.2 b hb, sb1.2 b hb]
   exact Heap.get?_push_of_some _ (Heap.get?_push_of_some _ e)
 have hI : ((((s.heap.push (seqObj "list" #[] 0)).push (zhx S 0 0 es.size ep)).update s.heap.objs.size (Obj.mapSeq (·.push Value.none))).update s.heap.objs.size (Obj.mapSeq (·.pop))).get? (s.heap.objs.size + 1) = some (zhx S 0 0 es.size ep) := by
   have hb : s.heap.objs.size + 1 ≠ s.heap.objs.size := Nat.succ_ne_self _
   rw [sb2.2 _ hb, sb1.2 _ hb, ← sz1]
   exact Heap.get?_push_size _ rfl
 have z0 : zgf w p 0 = 0 := by unfold zgf zls; cases w.params.followText "set-order" <;> rfl
 refine wpAny_pure ⟨plainId_quiet zbt _, ?_⟩
 refine zyz (s0 := s) (p := p) (es := es) (ep := ep) hh (S := S) (I := s.heap.objs.size + 1) (L := s.heap.objs.size) (Nat.ne_of_gt (Nat.lt_succ_of_lt hS)) (Nat.ne_of_lt (Nat.lt_succ_self _)) hn (hsz ▸ G.few) (λ h' m hL' keep => ?_) es.size 0 _ _ (Nat.zero_add _) (by rw [z0]; exact hI) ⟨⟨o, old _ _ ho, hc, hd⟩, hsz, hg⟩ hL2 λ b o _ _ e => old b o e
 refine wpAny_bind (wpAny_load hL' ?_)
 refine wpAny_pure ?_
 exact hQ h' λ b o e => keep b o (Nat.ne_of_lt (Nat.lt_succ_of_lt (Heap.lt_size e))) (Nat.ne_of_lt (Heap.lt_size e)) e
end
theorem zqb (x y : Int) : ∀ l : List Int, y ∈ zek x l ↔ y = x ∨ y ∈ l
 | [] => by simp [zek]
 | z :: r => by
   unfold zek
   split
   · simp
   · split
     · rename_i h; subst h; simp
     · simp only [List.mem_cons, zqb x y r]
       constructor
       · rintro (h | h | h)
         · exact .inr (.inl h)
         · exact .inl h
         · exact .inr (.inr h)
       · rintro (h | h | h)
         · exact .inr (.inl h)
         · exact .inl h
         · exact .inr (.inr h)
theorem zl5 (x : Int) : ∀ l : List Int, l.Pairwise (· < ·) → (zek x l).Pairwise (· < ·)
 | [], _ => by simp [zek]
 | z :: r, h => by
   obtain ⟨h1, h2⟩ := List.pairwise_cons.mp h
   unfold zek
   split
   · rename_i hx
     refine List.pairwise_cons.mpr ⟨λ y hy => ?_, h⟩
     cases hy with
     | head => exact hx
     | tail _ hy => exact Int.lt_trans hx (h1 y hy)
   · split
     · exact h
     · refine List.pairwise_cons.mpr ⟨λ y hy => ?_, zl5 x r h2⟩
       rcases (zqb x y r).mp hy with q | q
       · subst q; omega
       · exact h1 y q
theorem zr0 (y : Int) : ∀ l : List Int, y ∈ zgb l ↔ y ∈ l
 | [] => Iff.rfl
 | x :: l => by
   show y ∈ zek x (zgb l) ↔ _
   rw [zqb, zr0 y l, List.mem_cons]
theorem zkz : ∀ l : List Int, (zgb l).Pairwise (· < ·)
 | [] => .nil
 | x :: l => zl5 x _ (zkz l)
theorem zsw : ∀ {a b : List Int}, a.Pairwise (· < ·) → b.Pairwise (· < ·) → (∀ x, x ∈ a ↔ x ∈ b) → a = b := by
 intro a
 induction a with
 | nil =>
   intro b _ _ h
   cases b with
   | nil => rfl
   | cons y b => exact nomatch (h y).mpr (.head _)
 | cons x a ih =>
 intro b ha hb h
 cases b with
 | nil => exact nomatch (h x).mp (.head _)
 | cons y b =>
   obtain ⟨a1, a2⟩ := List.pairwise_cons.mp ha
   obtain ⟨b1, b2⟩ := List.pairwise_cons.mp hb
   have e : x = y := by
     have h1 := (h x).mp (.head _)
     have h2 := (h y).mpr (.head _)
     cases h1 with
     | head => rfl
     | tail _ h1 => cases h2 with
       | head => rfl
       | tail _ h2 => exact absurd (Int.lt_trans (a1 _ h2) (b1 _ h1)) (Int.lt_irrefl _)
   subst e
   congr 1
   refine ih a2 b2 λ z => ⟨λ hz => ?_, λ hz => ?_⟩
   · have := (h z).mp (.tail _ hz)
     cases this with
     | head => exact absurd (a1 _ hz) (Int.lt_irrefl _)
     | tail _ q => exact q
   · have := (h z).mpr (.tail _ hz)
     cases this with
     | head => exact absurd (b1 _ hz) (Int.lt_irrefl _)
     | tail _ q => exact q
theorem zns {a b : List Int} (h : a.Pairwise (· ≤ ·)) (hp : a.Perm b) (hn : b.Nodup) : a = zgb b := by
 refine zsw ?_ (zkz b) λ x => by rw [zr0, hp.mem_iff]
 have hn' : a.Nodup := hp.nodup_iff.mpr hn
 exact (h.and hn').imp λ ⟨q1, q2⟩ => by omega
theorem zvc (x : Int) : ∀ l : List Int, (zek x l).length ≤ l.length + 1
 | [] => Nat.le_refl _
 | y :: r => by
   unfold zek
   split
   · exact Nat.le_refl _
   · split
     · exact Nat.le_succ _
     · exact Nat.succ_le_succ (zvc x r)
theorem zsn : ∀ l : List Int, (zgb l).length ≤ l.length
 | [] => Nat.le_refl _
 | x :: l => ltx (zvc x (zgb l)) (Nat.succ_le_succ (zsn l))
theorem zuk {ρ : List Addr} : ∀ {us : List Value} {ns : List Int}, IntsAre us ns → VRs ρ (ns.map AV.int) us
 | _, _, .nil => .nil
 | _, _, .cons n t r => .cons (.int n t) (zuk r)
section
variable {prog : Program} {w : World} {A : Around} {E : Value → Shared → Prop} {s : Shared}
theorem zti {S : Addr} {es : Array (Int × Value)} {ep : Nat} {p : zkm} {Q : Value → Shared → Prop} (hh : A.handled = none) (h : SetHere w s.heap S es ep p) (hi : IntsAre (es.toList.map (·.2)) p.1)
   (hQ : ∀ (h1 h' : Heap) (us : List Value) (m : Nat), (∀ b o, s.heap.get? b = some o → h1.get? b = some o) → (∀ b o, s.heap.get? b = some o → h'.get? b = some o) → h'.get? h1.objs.size = some (seqObj "list" us.toArray m) → IntsAre us (zgb p.1) → Q (.ref h1.objs.size) { s with heap := h' }) :
   wpAny (model prog w) A (call (.builtin "sorted") [.ref S]) Q E s := by
 have G := zk1 h.good
 refine Calls.call_function_entry kind_sorted plain_sorted entry_sorted (args_sorted1 _) ?_
 unfold Builtin.«sorted»
 refine wpAny_bind (m := checkCount "sorted" 1 1 _) (wpAny_pure ?_)
 refine wpAny_bind (zp8 (by first | exact hh | simpa using hh) h λ h' keep => ?_)
 obtain ⟨js, hj1, hj2⟩ := zuc ((zog w S es ep).map (·.2)).symm hi
 have hlen : ((zd7 w S es ep).toList.map (·.2)).length < 64 := by
   rw [List.length_map, Array.length_toList, zhv, h.size]
   exact Nat.lt_of_le_of_lt G.few (by decide)
 generalize (zd7 w S es ep).toList.map (·.2) = vs at hj1 hlen
 refine wpAny_bind (wpAny_newList ?_)
 have hoL : (h'.push (seqObj "list" vs.toArray 0)).get? h'.objs.size = some (seqObj "list" vs.toArray 0) := Heap.get?_push_size _ rfl
 show wpAny _ _ _ _ _ { s with heap := h'.push (seqObj "list" vs.toArray 0) }
 refine wpAny_bind (wpAny_holding (wpAny_call_entry slot_list_sort ⟨_, hoL, rfl⟩ entry_list_sort (list_sort_tree hoL hj1 hlen λ out ns' a1 a2 a3 => ⟨_, rfl, ?_⟩) (args_list_sort _)))
 have e : ns' = zgb p.1 := zns a3 (a2.trans hj2.symm) G.nodup
 subst e
 have s1 := Heap.SameBut.update (h'.push (seqObj "list" vs.toArray 0)) h'.objs.size (Obj.mapSeq λ _ => (#[] : Array Value))
 have g1 := get?_update_seq hoL λ _ => (#[] : Array Value)
 have g3 := get?_update_seq (Heap.get?_push_of_some (seqObj "list" #[] 0) (Heap.get?_push_of_some (seqObj "tuple" vs.toArray 0) g1)) λ _ => out
 have s4 := Heap.SameBut.update ((((h'.push (seqObj "list" vs.toArray 0)).update h'.objs.size (Obj.mapSeq λ _ => #[])).push (seqObj "tuple" vs.toArray 0)).push (seqObj "list" #[] 0)) h'.objs.size (Obj.mapSeq λ _ => out)
 refine wpAny_pure ⟨_, rfl, hQ h' _ out.toList _ keep (λ b o e => ?_) (by exact g3) a1⟩
 have hb : b ≠ h'.objs.size := Nat.ne_of_lt (Heap.lt_size (keep b o e))
 show (Heap.update _ _ _).get? b = _
 rw [s4.2 b hb]
 exact Heap.get?_push_of_some _ (Heap.get?_push_of_some _ ((s1.2 b hb).trans (Heap.get?_push_of_some _ (keep b o e))))
end
theorem zoe {C : Cx} {z : Nat} {A : Around} {E : Value → Shared → Prop} {w : Wd} {st : Store} {Q : Value → Shared → Prop} {v : AV} {u : Value} {q : Bool × AV × Store} (h : biv C.T .sorted [v] st = some q) (hh : A.handled = none) (R : Rep C w.ρ st w.s.heap) (r : VR w.ρ v u) (hQ : QV C z w q.2.2 q.2.1 Q) :
   wpAny (model C.prog C.w) A (call (.builtin "sorted") [u]) Q E w.s := by
 refine zag h λ i hi h => zag h λ o ho h => zd8 (G := λ u => wpAny (model C.prog C.w) A (call (.builtin "sorted") [u]) Q E w.s) hi r λ a e => R.obj ho λ b ob t => ?_
 cases o with
 | iset is =>
   cases h
   cases t.ix.eq e
   obtain ⟨es, ep, p, I⟩ := t.rel
   have G := zk1 I.good
   have hsz : es.size = p.1.length := by rw [← Array.length_toList, ← List.length_map (f := (·.1)), I.hash, List.length_map]
   refine zti hh ⟨⟨ob, t.at_, I.exact.1, I.data⟩, hsz, I.good⟩ I.items λ h1 h' us m keep1 keep hn hi => ?_
   rw [← I.eq] at hi
   have R0 : Rep C w.ρ st h1 := R.keeps keep1
   refine hQ ⟨w.ρ ++ [h1.objs.size], { w.s with heap := h' }⟩ _ ⟨(Step.side w.ρ w.s { w.s with heap := h' } keep rfl rfl).join ?_, (R.keeps keep).adopt (R0.beyond (Nat.le_refl _)) (λ _ _ _ e => e) (λ _ _ e => e) hn ⟨?_, ⟨us, m, zuk hi, rfl, rfl⟩, rfl⟩⟩ (zg1 R _)
   · cases e : w.s.heap.get? h1.objs.size with
     | none => rfl
     | some o => exact absurd (Heap.lt_size (keep1 _ _ e)) (Nat.lt_irrefl _)
   · rw [List.length_map, I.eq]
     exact ltx (zsn p.1) (ltx G.few (by decide))
 | _ => exact nn h
theorem zC4 (C : Cx) : SetsOK C := ⟨λ h hp hh R r hQ => zwy h hp hh R r hQ, λ h _ hh R r hQ => zoe h hh R r hQ⟩
end Mine
namespace Mine
open PySem PySem.W PySem.Calls PyProof.Rows PySem.Spec
theorem zK3 {a b : Bool} (h : (a && b) = true) : a = true ∧ b = true := zbf h λ x y => ⟨x, y⟩
theorem zy3 {R : WRecords} {cl : Str → Option Addr} {h : Heap} : ∀ {xs : List WData} {vs : List Value} {as : List Addr}, ReadsAllW R cl h vs xs as → WShape.hasItems R xs .int = true → ∃ ns, IntsAre vs ns ∧ ns.length = xs.length := by
 intro xs
 induction xs with
 | nil => exact λ r _ => ⟨[], (readsAllW_nil_inv r).1 ▸ .nil, rfl⟩
 | cons d ds ih =>
   intro vs as r e
   have e : (WShape.has R d .int && WShape.hasItems R ds .int) = true := e
   obtain ⟨e1, e2⟩ := zK3 e
   obtain ⟨v, vs, a, b, rfl, _, r, rs⟩ := readsAllW_cons_inv r
   obtain ⟨ns, k1, k2⟩ := ih rs e2
   cases d with
   | int i =>
     obtain ⟨t, rfl, _⟩ := readsW_int_inv r
     exact ⟨i :: ns, .cons i t k1, congrArg Nat.succ k2⟩
   | _ => exact nb (Eq.trans (Eq.symm (by kernel_rfl)) e1)
theorem zzq {R : WRecords} {cl : Str → Option Addr} {h : Heap} {vals : List Value} {args : List WData} {as : List Addr} (r : ReadsAllW R cl h vals args as) (e : WShape.hasAll R args [.list .int] = true) :
   ∃ (l : Addr) (o : Obj) (us : Array Value) (n : Nat) (ns : List Int) (xs : List WData), vals = [.ref l] ∧ args = [.list xs] ∧ l ∈ as ∧ h.get? l = some o ∧ o.cls = .type "list" ∧ o.data = .seq us n ∧ IntsAre us.toList ns ∧ ns.length = xs.length := by
 cases args with
 | nil => cases e
 | cons d ds =>
   have e : (WShape.has R d (.list .int) && WShape.hasAll R ds []) = true := e
   obtain ⟨e1, e2⟩ := zK3 e
   cases ds with
   | cons => cases e2
   | nil =>
     obtain ⟨v, vs, a, b, rfl, rfl, r1, r2⟩ := readsAllW_cons_inv r
     obtain ⟨rfl, _⟩ := readsAllW_nil_inv r2
     cases d with
     | list xs =>
       have e1 : (WShape.hasItems R xs .int || false) = true := Eq.trans (by kernel_rfl) e1
       rw [Bool.or_false] at e1
       obtain ⟨a, us, as', rfl, ⟨o, h1, h2, n, h3⟩, h4, rfl⟩ := readsW_list_inv r1
       obtain ⟨ns, k1, k2⟩ := zy3 h4 e1
       exact ⟨a, o, us, n, ns, xs, rfl, rfl, .head _, h1, h2, h3, k1, k2⟩
     | _ => exact nb (Eq.trans (Eq.symm (by kernel_rfl)) e1)
theorem zCx {R : WRecords} {xs : List WData} (h : (WTm.and (.not (.lt (.lit (.int 63)) (.len (.arg 0)))) (.lit (.bool true))).holds R { args := [.list xs] } = true) : xs.length ≤ 63 := by
 refine Nat.le_of_not_lt λ q => ?_
 have : ((63 : Int) < (xs.length : Nat)) := by omega
 simp [WTm.holds, WTm.value, W.less?, PySem.W.Num.less?, this] at h
theorem zvm {h : Heap} {l : Addr} : (hideAll h [l]).get? l = none := hideAll_none _ (List.mem_singleton_self l)
theorem hid {h : Heap} {l a : Addr} {o : Obj} (e : h.get? a = some o) (n : a ≠ l) : (hideAll h [l]).get? a = some o := hideAll_get _ e λ q => n (msx q)
theorem zEn {K K2 : Frag} {h0 h1 : Heap} {mg mb : Str → Option Value} {l : Addr} {ob : Obj} (hb : HB tbl glO glB tabL spL K K2 = true) (bod : zKr K lcL = exL) (k1 : K.In h0) (k2 : K2.In h0) (km : ∀ a o, K.lookup a = some o → a ∈ kaL)
   (keeps : ∀ b o, h0.get? b = some o → h1.get? b = some o) (l0 : h0.get? l = none) (hl : h1.get? l = some ob) (hc : ob.cls = .type "list") (g : h1.Ns mainGlobals mg) (b : h1.Ns builtinsNs mb) (lim : h1.NoLimit) (bts : ∀ x : Str, x ≠ "__name__" → mb x = bootBuiltins x)
   (bm : ∃ bm ob, mg "__builtins__" = some (.ref bm) ∧ bm ≠ builtinsNs ∧ h1.get? bm = some ob ∧ ob.cls = .type "module" ∧ ob.dict = some builtinsNs ∧ ob.data = .plain) (l4 : 4 ≤ l) :
   Left K K2 h0 (hideAll h1 [l]) mg mb where
 hb := hb
 bod := bod
 kin := k1
 kin2 := k2
 kmem := km
 keeps := λ b o e => hid (keeps b o e) λ q => by rw [q, l0] at e; cases e
 g := zis g λ q => absurd (msx q ▸ l4) (by decide)
 b := zis b λ q => absurd (msx q ▸ l4) (by decide)
 lim := let ⟨mc, a, b⟩ := lim; ⟨mc, zis a λ q => absurd (msx q ▸ l4) (by decide), b⟩
 bts := bts
 bmain := by
   obtain ⟨bm, o, a1, a2, a3, a4, a5⟩ := bm
   refine ⟨bm, o, a1, a2, hid a3 λ q => ?_, a4, a5⟩
   rw [q, hl] at a3
   cases a3
   rw [hc] at a4
   exact absurd a4 (by decide)
theorem zOl {K K2 : Frag} {h0 h1 h : Heap} {mg mb : Str → Option Value} {prog : Program} {w : World} (L : Left K K2 h0 h1 mg mb) (k : ∀ b o, h1.get? b = some o → h.get? b = some o) : Rep (CL prog w mg mb K h1) [] stE h where
 stays := λ b o e => k b o (of_hideAll _ e)
 len := rfl
 objs := λ i o e => by cases e
 uniq := λ i j a e => by cases e
 fresh := λ i a e => by cases e
 total := λ i h => absurd h (Nat.not_lt_zero _)
 tabs := λ q hq => ⟨#[], k _ _ (L.keeps _ _ (L.tabAt hq).obj), trivial, λ k n _ _ v e => nomatch e⟩
 tabo := λ q hq i e => by cases e
theorem zy2 {K K2 : Frag} {h0 h1 h : Heap} {mg mb : Str → Option Value} (L : Left K K2 h0 h1 mg mb) (k : ∀ b o, h1.get? b = some o → h.get? b = some o) {q : Addr × Addr} (hq : q ∈ tabL) : isCodeTable h q.2 := by
 obtain ⟨o, vs, f, tf, fl, tg, inF, tx, tt, e1, e2, e3, e4, _⟩ := codeHd_of_K L.kin2 (L.tabAt hq).1
 exact ⟨q.1, o, vs, k _ _ (L.keeps _ _ e1), e2, e3, e4⟩
theorem zox : (PySem.W.defOf (lawQ Challenge.pw_sm0081_01) "law").isSome = true := by kernel_rfl
noncomputable def zB2 : DefRec × List (Str × Expr) := (PySem.W.defOf (lawQ Challenge.pw_sm0081_01) "law").get zox
theorem zri : PySem.W.defOf (lawQ Challenge.pw_sm0081_01) "law" = some (zB2.1, zB2.2) := (Option.some_get zox).symm
theorem zy0 : Challenge.pw_sm0081_01.theDef "law" = some (zB2.1.params, zB2.1.body, zB2.1.scope) := by kernel_rfl
theorem zD0 : kwWritten? zB2.1.params.kwonlyargs zB2.1.params.kw_defaults = some zB2.2 := by kernel_rfl
theorem zsi : (lk zv7 glO, nm zv7, tbl.fn.get 1695) = (some (AV.old 1695), ("law" : Str), some zk9) := by kernel_rfl
theorem zz4 : (chainsOk (lawQ Challenge.pw_sm0081_01) && opensWell Challenge.rw_sm0081_01.row.prog && (frees Challenge.rw_sm0081_01.row.toRowW && Challenge.rw_sm0081_01.row.within.isEmpty)) = true := by kernel_rfl
theorem zAc : Challenge.pw_sm0081_01.bare := ⟨rfl, rfl, rfl, rfl, rfl, by kernel_rfl⟩
theorem zzd : Challenge.rw_sm0081_01.row.toRowW.promised := ⟨[.list []], by kernel_rfl, by kernel_rfl⟩
theorem zAe (SO : ∀ C : Cx, Good C → SetsOK C) (d : DefRec) (kwd : List (Str × Expr)) (hn : d.name = "law") :
   WalkX (lawQ Challenge.pw_sm0081_01) (looseQ Challenge.pw_sm0081_01) (λ _ _ => True) (zL3 tbl glO glB kaL kbL tabL spL lcL exL) (λ _ => True) Challenge.rw_sm0081_01.row.toRowW d kwd λ f vs => PySem.call f vs := by
 intro w s₀ s₁ mg mb G Y a o pm cd doc dV kV ho hod hcr hdf hga hgens args vals as L hpre hlay hr hwell hlow
 obtain ⟨K, K2, k1, k2, km, hb, bod⟩ := of_eq_true Y
 obtain ⟨p1, p2⟩ := zK3 hpre
 obtain ⟨l, ob, us, n, ns, xs, rfl, rfl, hl, h1, h2, h3, h4, h5⟩ := zzq hr p1
 have h6 : xs.length ≤ 63 := zCx p2
 have l0 : s₀.heap.get? l = none := zcg (L.within.2.2 l (by simpa using hl)).1
 have l4 : 4 ≤ l := Nat.le_of_not_lt λ q => by
   have e := (zrt k2 (List.all_eq_true.mp (hbs hb).tab (27, 23) (by decide))).obj
   rw [zcg (ltx (L.within.2.2 l (by simpa using hl)).1 (ltx (Nat.le_of_lt q) (by decide)))] at e
   cases e
 have h7 : ob.dict = none := by
   cases hwell with
   | cons a b =>
     cases a with
     | list c d => rw [c] at h1; cases h1; rfl
 have LL := zEn hb bod k1 k2 km L.keeps l0 h1 h2 G.T.g G.T.b G.T.nolimit G.T.builtins G.T.bmain l4
 have back : ∀ b o, (hideAll s₁.heap [l]).get? b = some o → s₁.heap.get? b = some o := λ b o e => of_hideAll _ e
 have F := zDg (prog := Challenge.pw_sm0081_01) (w := w) LL (SO _ (zw1 LL))
 obtain ⟨u, q1, q2⟩ := LL.gl.own zv7 _ (congrArg Prod.fst zsi)
 have q3 : nm zv7 = "law" := congrArg (λ x => x.2.1) zsi
 rw [q3, ← hn, hga] at q1
 cases q1
 cases q2
 refine zzy F rfl (A := callerA) ⟨rfl, by decide, by decide⟩ (zOl LL back) h1 h2 h3 h7 h4 (h5 ▸ h6) ?_ ?_ λ s' e1 e2 e3 e4 => ?_
 · cases e : (CL Challenge.pw_sm0081_01 w mg mb K (hideAll s₁.heap [l])).G.get? l with
   | none => rfl
   | some o' =>
     have := of_hideAll _ e
     rw [zvm] at this; cases this
 · rintro ⟨q, hq, e⟩
   have := (LL.tabAt hq).obj
   rw [← e, ] at l0
   rw [l0] at this; cases this
 · refine ⟨.inl ⟨_, .bool true, [], rfl, λ cls => rfl, .bool true, by kernel_rfl, λ _ => ⟨List.nodup_nil, λ a h => by cases h⟩⟩, ⟨λ b o e => ?_, λ b o e => ?_⟩, e4, AllBare.of_eq (e3.trans hgens)⟩
   · by_cases t : (CL Challenge.pw_sm0081_01 w mg mb K (hideAll s₁.heap [l])).isTab b
     · obtain ⟨q, hq, rfl⟩ := t
       obtain ⟨ps, e'⟩ := e2 q hq
       have e0 := L.keeps _ _ (LL.tabAt hq).obj
       rw [e0] at e; cases e
       exact .inr (.inl ⟨zy2 LL back hq, rfl, #[], ps, rfl, by rw [e']; simp [tabObj]⟩)
     · exact .inl (e1 b o e t)
   · by_cases t : (CL Challenge.pw_sm0081_01 w mg mb K (hideAll s₁.heap [l])).isTab b
     · obtain ⟨q, hq, rfl⟩ := t
       obtain ⟨ps, e'⟩ := e2 q hq
       exact ⟨_, e'⟩
     · exact ⟨o, e1 b o e t⟩
theorem zyi (SO : ∀ C : Cx, Good C → SetsOK C) : Challenge.rw_sm0081_01.Holds :=
 holds_law zNd λ said => holds_openX (r := Challenge.rw_sm0081_01.row) (q := lawQ Challenge.pw_sm0081_01) (loose := looseQ Challenge.pw_sm0081_01) (XP := λ _ _ => True) zOu (λ _ _ => trivial) (λ _ _ _ _ _ => trivial) zri zy0 zD0 (λ _ _ => recFacts_nil rfl) rfl said zz4 zAc zzd
   (zAe SO _ _ (defOf_name zri))
theorem holds : Challenge.rw_sm0081_01.Holds := zyi λ C _ => zC4 C
end Mine
theorem PySem.Challenge.cw_sm0081_01_holds : PySem.Challenge.rw_sm0081_01.Holds :=
 Mine.holds
