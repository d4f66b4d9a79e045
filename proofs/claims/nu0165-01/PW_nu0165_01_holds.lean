import PyProof.Rows.All
import Wide.All
import OpenK.AllK
import Wide.FinOn
import Lean
import PySem.Challenge.RW_nu0165_01
open PySem PySem.W PyProof.Rows
open PySem.Spec PySem.Calls
set_option Elab.async false
set_option maxRecDepth 100000
set_option linter.unusedVariables false
set_option linter.all false
section
theorem Mine.nq : PySem.Manifest.find? = PySem.Manifest.find? := rfl
name_quick tw4722309772057685236 for PySem.Manifest.find? by Mine.nq
name_quick tw8075568018651887793 for PySem.Manifest.find? by Mine.nq
name_quick tw8342603281565665359 for PySem.Manifest.find? by Mine.nq
name_quick tw11202209253345464007 for PySem.Manifest.find? by Mine.nq
name_quick tw14979626087600564940 for PySem.Manifest.find? by Mine.nq
name_quick tw5004049136738663456 for PySem.Manifest.find? by Mine.nq
name_quick tw2480624987951253665 for PySem.Manifest.find? by Mine.nq
name_quick tw14847034805825309785 for PySem.Manifest.find? by Mine.nq
name_quick tw4622596211255666275 for PySem.Manifest.find? by Mine.nq
name_quick tw8376752744543775738 for PySem.Manifest.find? by Mine.nq
name_quick tw12645651895311073657 for PySem.Manifest.find? by Mine.nq
name_quick tw5040193762218094904 for PySem.Manifest.find? by Mine.nq
name_quick tw10722855164094911255 for PySem.Manifest.find? by Mine.nq
name_quick tw15040288709643333888 for PySem.Manifest.find? by Mine.nq
name_quick tw7783732958741208154 for PySem.Manifest.find? by Mine.nq
name_quick tw10695241705296601692 for PySem.Manifest.find? by Mine.nq
name_quick tw15542503528162795033 for PySem.Manifest.find? by Mine.nq
name_quick tw3118938333895590913 for PySem.Manifest.find? by Mine.nq
name_quick tw7695134704397734373 for PySem.Manifest.find? by Mine.nq
name_quick tw11892598404827812706 for PySem.Manifest.find? by Mine.nq
name_quick tw9151444980202551346 for PySem.Manifest.find? by Mine.nq
name_quick tw16792545251062261874 for PySem.Manifest.find? by Mine.nq
name_quick tw8708707556590381134 for PySem.Manifest.find? by Mine.nq
name_quick tw5135500740108067664 for PySem.Manifest.find? by Mine.nq
name_quick tw15806122291839087668 for PySem.Manifest.find? by Mine.nq
name_quick tw2968979199505139716 for PySem.Manifest.find? by Mine.nq
name_quick tw8675153009337895557 for PySem.Manifest.find? by Mine.nq
name_quick tw12450158673883907302 for PySem.Manifest.find? by Mine.nq
name_quick tw5697894365363955025 for PySem.Manifest.find? by Mine.nq
name_quick tw16145670143442454269 for PySem.Manifest.find? by Mine.nq
name_quick tw9594665118957945026 for PySem.Manifest.find? by Mine.nq
name_quick tw9626621113073979434 for PySem.Manifest.find? by Mine.nq
name_quick tw11462045893675790159 for PySem.Manifest.find? by Mine.nq
name_quick tw12392613427281201732 for PySem.Manifest.find? by Mine.nq
name_quick tw12393455550290869266 for PySem.Manifest.find? by Mine.nq
name_quick tw12329403913580668285 for PySem.Manifest.find? by Mine.nq
name_quick tw15034313371233782410 for PySem.Manifest.find? by Mine.nq
name_quick tw12832477231654346042 for PySem.Manifest.find? by Mine.nq
name_quick tw11796506867022685745 for PySem.Manifest.find? by Mine.nq
name_quick tw16643379632663270332 for PySem.Manifest.find? by Mine.nq
name_quick tw15323854079317868165 for PySem.Manifest.find? by Mine.nq
name_quick tw3856783459128436802 for PySem.Manifest.find? by Mine.nq
name_quick tw8032284361305108907 for PySem.Manifest.find? by Mine.nq
name_quick tw10919533547850550483 for PySem.Manifest.find? by Mine.nq
name_quick tw5189142188285759775 for PySem.Manifest.find? by Mine.nq
name_quick tw11705733892432689576 for PySem.Manifest.find? by Mine.nq
name_quick tw16214148842636244229 for PySem.Manifest.find? by Mine.nq
name_quick tw16874561944515371726 for PySem.Manifest.find? by Mine.nq
name_quick tw9674257727999782656 for PySem.Manifest.find? by Mine.nq
name_quick tw15919542637913265678 for PySem.Manifest.find? by Mine.nq
name_quick tw10317580896714288900 for PySem.Manifest.find? by Mine.nq
name_quick tw8989982439271903415 for PySem.Manifest.find? by Mine.nq
name_quick tw7650934615059315214 for PySem.Manifest.find? by Mine.nq
name_quick tw11270796479367742343 for PySem.Manifest.find? by Mine.nq
name_quick tw12371321757623732685 for PySem.Manifest.find? by Mine.nq
name_quick tw1735497430108182060 for PySem.Manifest.find? by Mine.nq
name_quick tw3209381107111851631 for PySem.Manifest.find? by Mine.nq
name_quick tw14210447440969649564 for PySem.Manifest.find? by Mine.nq
name_quick tw12898947447245864913 for PySem.Manifest.find? by Mine.nq
name_quick tw1258299570235058372 for PySem.Manifest.find? by Mine.nq
name_quick tw11277716924127702174 for PySem.Manifest.find? by Mine.nq
name_quick tw17000155066101142889 for PySem.Manifest.find? by Mine.nq
name_quick tw16413264400604254196 for PySem.Manifest.find? by Mine.nq
name_quick tw3577408171920636059 for PySem.Manifest.find? by Mine.nq
name_quick tw13141144453892091621 for PySem.Manifest.find? by Mine.nq
name_quick tw17975652961387846372 for PySem.Manifest.find? by Mine.nq
name_quick tw17111948838632640456 for PySem.Manifest.find? by Mine.nq
name_quick tw17828083071136270317 for PySem.Manifest.find? by Mine.nq
name_quick tw151948405760981731 for PySem.Manifest.find? by Mine.nq
name_quick tw6929956602132211858 for PySem.Manifest.find? by Mine.nq
name_quick tw15748488997098860443 for PySem.Manifest.find? by Mine.nq
name_quick tw16741492637210864865 for PySem.Manifest.find? by Mine.nq
name_quick tw14896874001708588922 for PySem.Manifest.find? by Mine.nq
name_quick tw6722154040420286063 for PySem.Manifest.find? by Mine.nq
name_quick tw16241802466949684156 for PySem.Manifest.find? by Mine.nq
name_quick tw17517737089405305841 for PySem.Manifest.find? by Mine.nq
name_quick tw7035115661146626270 for PySem.Manifest.find? by Mine.nq
name_quick tw17532440430192770315 for PySem.Manifest.find? by Mine.nq
name_quick tw10314498396905981064 for PySem.Manifest.find? by Mine.nq
name_quick tw6679490504615227074 for PySem.Manifest.find? by Mine.nq
name_quick tw9931943479562821362 for PySem.Manifest.find? by Mine.nq
name_quick tw13912434898499826684 for PySem.Manifest.find? by Mine.nq
name_quick tw6967401301877209104 for PySem.Manifest.find? by Mine.nq
name_quick tw11838138170533393997 for PySem.Manifest.find? by Mine.nq
name_quick tw9979284746773624096 for PySem.Manifest.find? by Mine.nq
name_quick tw5721027456603625697 for PySem.Manifest.find? by Mine.nq
name_quick tw1638017585896720355 for PySem.Manifest.find? by Mine.nq
name_quick tw14884601019740666482 for PySem.Manifest.find? by Mine.nq
name_quick tw1440575883149458809 for PySem.Manifest.find? by Mine.nq
name_quick tw12734952128020822468 for PySem.Manifest.find? by Mine.nq
name_quick tw15475462885187679331 for PySem.Manifest.find? by Mine.nq
name_quick tw11013792430000457035 for PySem.Manifest.find? by Mine.nq
name_quick tw9951705424602377420 for PySem.Manifest.find? by Mine.nq
name_quick tw5701610774189311196 for PySem.Manifest.find? by Mine.nq
name_quick tw7198390536060210744 for PySem.Manifest.find? by Mine.nq
name_quick tw608726401823008365 for PySem.Manifest.find? by Mine.nq
name_quick tw13145125596335152023 for PySem.Manifest.find? by Mine.nq
name_quick tw662354867322794072 for PySem.Manifest.find? by Mine.nq
name_quick tw11420187438672877268 for PySem.Manifest.find? by Mine.nq
name_quick tw4921902886906138986 for PySem.Manifest.find? by Mine.nq
name_quick tw724751600484774222 for PySem.Manifest.find? by Mine.nq
name_quick tw4797165386629745026 for PySem.Manifest.find? by Mine.nq
name_quick tw558745408833754511 for PySem.Manifest.find? by Mine.nq
name_quick tw9467589175468403638 for PySem.Manifest.find? by Mine.nq
name_quick tw7788680626742099145 for PySem.Manifest.find? by Mine.nq
name_quick tw13317431791736044220 for PySem.Manifest.find? by Mine.nq
name_quick tw15423634916342008072 for PySem.Manifest.find? by Mine.nq
name_quick tw3619232141914619222 for PySem.Manifest.find? by Mine.nq
name_quick tw6792406925840432001 for PySem.Manifest.find? by Mine.nq
name_quick tw11625766737575182897 for PySem.Manifest.find? by Mine.nq
name_quick tw6135381517318000843 for PySem.Manifest.find? by Mine.nq
name_quick tw6714822604882049554 for PySem.Manifest.find? by Mine.nq
name_quick tw7365555872484859036 for PySem.Manifest.find? by Mine.nq
name_quick tw13335737130258781183 for PySem.Manifest.find? by Mine.nq
name_quick tw1503297043503765363 for PySem.Manifest.find? by Mine.nq
name_quick tw1402947280878808549 for PySem.Manifest.find? by Mine.nq
name_quick tw8693227569615203950 for PySem.Manifest.find? by Mine.nq
name_quick tw5357591511691535388 for PySem.Manifest.find? by Mine.nq
name_quick tw13002492023102617099 for PySem.Manifest.find? by Mine.nq
name_quick tw3560238982266916124 for PySem.Manifest.find? by Mine.nq
name_quick tw2447775223705975068 for PySem.Manifest.find? by Mine.nq
name_quick tw3094477031063562474 for PySem.Manifest.find? by Mine.nq
name_quick tw17730448691065144110 for PySem.Manifest.find? by Mine.nq
name_quick tw16414604833108395602 for PySem.Manifest.find? by Mine.nq
name_quick tw441327347791068078 for PySem.Manifest.find? by Mine.nq
name_quick tw13559156169165276386 for PySem.Manifest.find? by Mine.nq
name_quick tw16643706677886111943 for PySem.Manifest.find? by Mine.nq
name_quick tw11186114360453789277 for PySem.Manifest.find? by Mine.nq
name_quick tw5076957145309523181 for PySem.Manifest.find? by Mine.nq
name_quick tw10073347824450446311 for PySem.Manifest.find? by Mine.nq
name_quick tw14714103240675001986 for PySem.Manifest.find? by Mine.nq
name_quick tw6380047634161181297 for PySem.Manifest.find? by Mine.nq
name_quick tw347637069881736656 for PySem.Manifest.find? by Mine.nq
namespace Mine
set_option maxRecDepth 100000 in
set_option maxHeartbeats 8000000 in
open_top hd for PySem.Challenge.rw_nu0165_01
end Mine
end
section
/- small eliminators: a goal is said once, not once a component -/
namespace Mine
theorem reset_E0 : True := by
  w_top off
  exact trivial
theorem ex1 {α0 : Type} {R : α0 → Prop} {P : Prop} (h : ∃ x0, R x0) (k : ∀ x0, R x0 → P) : P := by obtain ⟨x0, h⟩ := h; exact k x0 h
theorem ex2 {α0 α1 : Type} {R : α0 → α1 → Prop} {P : Prop} (h : ∃ x0 x1, R x0 x1) (k : ∀ x0 x1, R x0 x1 → P) : P := by obtain ⟨x0, x1, h⟩ := h; exact k x0 x1 h
theorem ex3 {α0 α1 α2 : Type} {R : α0 → α1 → α2 → Prop} {P : Prop} (h : ∃ x0 x1 x2, R x0 x1 x2) (k : ∀ x0 x1 x2, R x0 x1 x2 → P) : P := by obtain ⟨x0, x1, x2, h⟩ := h; exact k x0 x1 x2 h
theorem ex4 {α0 α1 α2 α3 : Type} {R : α0 → α1 → α2 → α3 → Prop} {P : Prop} (h : ∃ x0 x1 x2 x3, R x0 x1 x2 x3) (k : ∀ x0 x1 x2 x3, R x0 x1 x2 x3 → P) : P := by obtain ⟨x0, x1, x2, x3, h⟩ := h; exact k x0 x1 x2 x3 h
theorem ex5 {α0 α1 α2 α3 α4 : Type} {R : α0 → α1 → α2 → α3 → α4 → Prop} {P : Prop} (h : ∃ x0 x1 x2 x3 x4, R x0 x1 x2 x3 x4) (k : ∀ x0 x1 x2 x3 x4, R x0 x1 x2 x3 x4 → P) : P := by obtain ⟨x0, x1, x2, x3, x4, h⟩ := h; exact k x0 x1 x2 x3 x4 h
theorem ex6 {α0 α1 α2 α3 α4 α5 : Type} {R : α0 → α1 → α2 → α3 → α4 → α5 → Prop} {P : Prop} (h : ∃ x0 x1 x2 x3 x4 x5, R x0 x1 x2 x3 x4 x5) (k : ∀ x0 x1 x2 x3 x4 x5, R x0 x1 x2 x3 x4 x5 → P) : P := by obtain ⟨x0, x1, x2, x3, x4, x5, h⟩ := h; exact k x0 x1 x2 x3 x4 x5 h
theorem ex7 {α0 α1 α2 α3 α4 α5 α6 : Type} {R : α0 → α1 → α2 → α3 → α4 → α5 → α6 → Prop} {P : Prop} (h : ∃ x0 x1 x2 x3 x4 x5 x6, R x0 x1 x2 x3 x4 x5 x6) (k : ∀ x0 x1 x2 x3 x4 x5 x6, R x0 x1 x2 x3 x4 x5 x6 → P) : P := by obtain ⟨x0, x1, x2, x3, x4, x5, x6, h⟩ := h; exact k x0 x1 x2 x3 x4 x5 x6 h
theorem ex8 {α0 α1 α2 α3 α4 α5 α6 α7 : Type} {R : α0 → α1 → α2 → α3 → α4 → α5 → α6 → α7 → Prop} {P : Prop} (h : ∃ x0 x1 x2 x3 x4 x5 x6 x7, R x0 x1 x2 x3 x4 x5 x6 x7) (k : ∀ x0 x1 x2 x3 x4 x5 x6 x7, R x0 x1 x2 x3 x4 x5 x6 x7 → P) : P := by obtain ⟨x0, x1, x2, x3, x4, x5, x6, x7, h⟩ := h; exact k x0 x1 x2 x3 x4 x5 x6 x7 h
theorem ex9 {α0 α1 α2 α3 α4 α5 α6 α7 α8 : Type} {R : α0 → α1 → α2 → α3 → α4 → α5 → α6 → α7 → α8 → Prop} {P : Prop} (h : ∃ x0 x1 x2 x3 x4 x5 x6 x7 x8, R x0 x1 x2 x3 x4 x5 x6 x7 x8) (k : ∀ x0 x1 x2 x3 x4 x5 x6 x7 x8, R x0 x1 x2 x3 x4 x5 x6 x7 x8 → P) : P := by obtain ⟨x0, x1, x2, x3, x4, x5, x6, x7, x8, h⟩ := h; exact k x0 x1 x2 x3 x4 x5 x6 x7 x8 h
theorem and2 {p0 p1 P : Prop} (h : p0 ∧ p1) (k : p0 → p1 → P) : P := by obtain ⟨h0, h1⟩ := h; exact k h0 h1
theorem and3 {p0 p1 p2 P : Prop} (h : p0 ∧ p1 ∧ p2) (k : p0 → p1 → p2 → P) : P := by obtain ⟨h0, h1, h2⟩ := h; exact k h0 h1 h2
theorem and4 {p0 p1 p2 p3 P : Prop} (h : p0 ∧ p1 ∧ p2 ∧ p3) (k : p0 → p1 → p2 → p3 → P) : P := by obtain ⟨h0, h1, h2, h3⟩ := h; exact k h0 h1 h2 h3
theorem and5 {p0 p1 p2 p3 p4 P : Prop} (h : p0 ∧ p1 ∧ p2 ∧ p3 ∧ p4) (k : p0 → p1 → p2 → p3 → p4 → P) : P := by obtain ⟨h0, h1, h2, h3, h4⟩ := h; exact k h0 h1 h2 h3 h4
theorem and6 {p0 p1 p2 p3 p4 p5 P : Prop} (h : p0 ∧ p1 ∧ p2 ∧ p3 ∧ p4 ∧ p5) (k : p0 → p1 → p2 → p3 → p4 → p5 → P) : P := by obtain ⟨h0, h1, h2, h3, h4, h5⟩ := h; exact k h0 h1 h2 h3 h4 h5
theorem and7 {p0 p1 p2 p3 p4 p5 p6 P : Prop} (h : p0 ∧ p1 ∧ p2 ∧ p3 ∧ p4 ∧ p5 ∧ p6) (k : p0 → p1 → p2 → p3 → p4 → p5 → p6 → P) : P := by obtain ⟨h0, h1, h2, h3, h4, h5, h6⟩ := h; exact k h0 h1 h2 h3 h4 h5 h6
theorem and8 {p0 p1 p2 p3 p4 p5 p6 p7 P : Prop} (h : p0 ∧ p1 ∧ p2 ∧ p3 ∧ p4 ∧ p5 ∧ p6 ∧ p7) (k : p0 → p1 → p2 → p3 → p4 → p5 → p6 → p7 → P) : P := by obtain ⟨h0, h1, h2, h3, h4, h5, h6, h7⟩ := h; exact k h0 h1 h2 h3 h4 h5 h6 h7
theorem and9 {p0 p1 p2 p3 p4 p5 p6 p7 p8 P : Prop} (h : p0 ∧ p1 ∧ p2 ∧ p3 ∧ p4 ∧ p5 ∧ p6 ∧ p7 ∧ p8) (k : p0 → p1 → p2 → p3 → p4 → p5 → p6 → p7 → p8 → P) : P := by obtain ⟨h0, h1, h2, h3, h4, h5, h6, h7, h8⟩ := h; exact k h0 h1 h2 h3 h4 h5 h6 h7 h8
theorem and10 {p0 p1 p2 p3 p4 p5 p6 p7 p8 p9 P : Prop} (h : p0 ∧ p1 ∧ p2 ∧ p3 ∧ p4 ∧ p5 ∧ p6 ∧ p7 ∧ p8 ∧ p9) (k : p0 → p1 → p2 → p3 → p4 → p5 → p6 → p7 → p8 → p9 → P) : P := by obtain ⟨h0, h1, h2, h3, h4, h5, h6, h7, h8, h9⟩ := h; exact k h0 h1 h2 h3 h4 h5 h6 h7 h8 h9
theorem and11 {p0 p1 p2 p3 p4 p5 p6 p7 p8 p9 p10 P : Prop} (h : p0 ∧ p1 ∧ p2 ∧ p3 ∧ p4 ∧ p5 ∧ p6 ∧ p7 ∧ p8 ∧ p9 ∧ p10) (k : p0 → p1 → p2 → p3 → p4 → p5 → p6 → p7 → p8 → p9 → p10 → P) : P := by obtain ⟨h0, h1, h2, h3, h4, h5, h6, h7, h8, h9, h10⟩ := h; exact k h0 h1 h2 h3 h4 h5 h6 h7 h8 h9 h10
theorem and12 {p0 p1 p2 p3 p4 p5 p6 p7 p8 p9 p10 p11 P : Prop} (h : p0 ∧ p1 ∧ p2 ∧ p3 ∧ p4 ∧ p5 ∧ p6 ∧ p7 ∧ p8 ∧ p9 ∧ p10 ∧ p11) (k : p0 → p1 → p2 → p3 → p4 → p5 → p6 → p7 → p8 → p9 → p10 → p11 → P) : P := by obtain ⟨h0, h1, h2, h3, h4, h5, h6, h7, h8, h9, h10, h11⟩ := h; exact k h0 h1 h2 h3 h4 h5 h6 h7 h8 h9 h10 h11
theorem xi2 {α0 α1 : Type} {R : α0 → α1 → Prop} (x0 : α0) (x1 : α1) (h : R x0 x1) : ∃ x0 x1, R x0 x1 := ⟨x0, x1, h⟩
theorem xi3 {α0 α1 α2 : Type} {R : α0 → α1 → α2 → Prop} (x0 : α0) (x1 : α1) (x2 : α2) (h : R x0 x1 x2) : ∃ x0 x1 x2, R x0 x1 x2 := ⟨x0, xi2 (R := R x0) x1 x2 h⟩
theorem xi4 {α0 α1 α2 α3 : Type} {R : α0 → α1 → α2 → α3 → Prop} (x0 : α0) (x1 : α1) (x2 : α2) (x3 : α3) (h : R x0 x1 x2 x3) : ∃ x0 x1 x2 x3, R x0 x1 x2 x3 := ⟨x0, xi3 (R := R x0) x1 x2 x3 h⟩
theorem xi5 {α0 α1 α2 α3 α4 : Type} {R : α0 → α1 → α2 → α3 → α4 → Prop} (x0 : α0) (x1 : α1) (x2 : α2) (x3 : α3) (x4 : α4) (h : R x0 x1 x2 x3 x4) : ∃ x0 x1 x2 x3 x4, R x0 x1 x2 x3 x4 := ⟨x0, xi4 (R := R x0) x1 x2 x3 x4 h⟩
theorem xi6 {α0 α1 α2 α3 α4 α5 : Type} {R : α0 → α1 → α2 → α3 → α4 → α5 → Prop} (x0 : α0) (x1 : α1) (x2 : α2) (x3 : α3) (x4 : α4) (x5 : α5) (h : R x0 x1 x2 x3 x4 x5) : ∃ x0 x1 x2 x3 x4 x5, R x0 x1 x2 x3 x4 x5 := ⟨x0, xi5 (R := R x0) x1 x2 x3 x4 x5 h⟩
theorem xi7 {α0 α1 α2 α3 α4 α5 α6 : Type} {R : α0 → α1 → α2 → α3 → α4 → α5 → α6 → Prop} (x0 : α0) (x1 : α1) (x2 : α2) (x3 : α3) (x4 : α4) (x5 : α5) (x6 : α6) (h : R x0 x1 x2 x3 x4 x5 x6) : ∃ x0 x1 x2 x3 x4 x5 x6, R x0 x1 x2 x3 x4 x5 x6 := ⟨x0, xi6 (R := R x0) x1 x2 x3 x4 x5 x6 h⟩
theorem xi8 {α0 α1 α2 α3 α4 α5 α6 α7 : Type} {R : α0 → α1 → α2 → α3 → α4 → α5 → α6 → α7 → Prop} (x0 : α0) (x1 : α1) (x2 : α2) (x3 : α3) (x4 : α4) (x5 : α5) (x6 : α6) (x7 : α7) (h : R x0 x1 x2 x3 x4 x5 x6 x7) : ∃ x0 x1 x2 x3 x4 x5 x6 x7, R x0 x1 x2 x3 x4 x5 x6 x7 := ⟨x0, xi7 (R := R x0) x1 x2 x3 x4 x5 x6 x7 h⟩
theorem xi9 {α0 α1 α2 α3 α4 α5 α6 α7 α8 : Type} {R : α0 → α1 → α2 → α3 → α4 → α5 → α6 → α7 → α8 → Prop} (x0 : α0) (x1 : α1) (x2 : α2) (x3 : α3) (x4 : α4) (x5 : α5) (x6 : α6) (x7 : α7) (x8 : α8) (h : R x0 x1 x2 x3 x4 x5 x6 x7 x8) : ∃ x0 x1 x2 x3 x4 x5 x6 x7 x8, R x0 x1 x2 x3 x4 x5 x6 x7 x8 := ⟨x0, xi8 (R := R x0) x1 x2 x3 x4 x5 x6 x7 x8 h⟩
theorem xi10 {α0 α1 α2 α3 α4 α5 α6 α7 α8 α9 : Type} {R : α0 → α1 → α2 → α3 → α4 → α5 → α6 → α7 → α8 → α9 → Prop} (x0 : α0) (x1 : α1) (x2 : α2) (x3 : α3) (x4 : α4) (x5 : α5) (x6 : α6) (x7 : α7) (x8 : α8) (x9 : α9) (h : R x0 x1 x2 x3 x4 x5 x6 x7 x8 x9) : ∃ x0 x1 x2 x3 x4 x5 x6 x7 x8 x9, R x0 x1 x2 x3 x4 x5 x6 x7 x8 x9 := ⟨x0, xi9 (R := R x0) x1 x2 x3 x4 x5 x6 x7 x8 x9 h⟩
theorem xi11 {α0 α1 α2 α3 α4 α5 α6 α7 α8 α9 α10 : Type} {R : α0 → α1 → α2 → α3 → α4 → α5 → α6 → α7 → α8 → α9 → α10 → Prop} (x0 : α0) (x1 : α1) (x2 : α2) (x3 : α3) (x4 : α4) (x5 : α5) (x6 : α6) (x7 : α7) (x8 : α8) (x9 : α9) (x10 : α10) (h : R x0 x1 x2 x3 x4 x5 x6 x7 x8 x9 x10) : ∃ x0 x1 x2 x3 x4 x5 x6 x7 x8 x9 x10, R x0 x1 x2 x3 x4 x5 x6 x7 x8 x9 x10 := ⟨x0, xi10 (R := R x0) x1 x2 x3 x4 x5 x6 x7 x8 x9 x10 h⟩
theorem xi12 {α0 α1 α2 α3 α4 α5 α6 α7 α8 α9 α10 α11 : Type} {R : α0 → α1 → α2 → α3 → α4 → α5 → α6 → α7 → α8 → α9 → α10 → α11 → Prop} (x0 : α0) (x1 : α1) (x2 : α2) (x3 : α3) (x4 : α4) (x5 : α5) (x6 : α6) (x7 : α7) (x8 : α8) (x9 : α9) (x10 : α10) (x11 : α11) (h : R x0 x1 x2 x3 x4 x5 x6 x7 x8 x9 x10 x11) : ∃ x0 x1 x2 x3 x4 x5 x6 x7 x8 x9 x10 x11, R x0 x1 x2 x3 x4 x5 x6 x7 x8 x9 x10 x11 := ⟨x0, xi11 (R := R x0) x1 x2 x3 x4 x5 x6 x7 x8 x9 x10 x11 h⟩
theorem xi13 {α0 α1 α2 α3 α4 α5 α6 α7 α8 α9 α10 α11 α12 : Type} {R : α0 → α1 → α2 → α3 → α4 → α5 → α6 → α7 → α8 → α9 → α10 → α11 → α12 → Prop} (x0 : α0) (x1 : α1) (x2 : α2) (x3 : α3) (x4 : α4) (x5 : α5) (x6 : α6) (x7 : α7) (x8 : α8) (x9 : α9) (x10 : α10) (x11 : α11) (x12 : α12) (h : R x0 x1 x2 x3 x4 x5 x6 x7 x8 x9 x10 x11 x12) : ∃ x0 x1 x2 x3 x4 x5 x6 x7 x8 x9 x10 x11 x12, R x0 x1 x2 x3 x4 x5 x6 x7 x8 x9 x10 x11 x12 := ⟨x0, xi12 (R := R x0) x1 x2 x3 x4 x5 x6 x7 x8 x9 x10 x11 x12 h⟩
theorem xi14 {α0 α1 α2 α3 α4 α5 α6 α7 α8 α9 α10 α11 α12 α13 : Type} {R : α0 → α1 → α2 → α3 → α4 → α5 → α6 → α7 → α8 → α9 → α10 → α11 → α12 → α13 → Prop} (x0 : α0) (x1 : α1) (x2 : α2) (x3 : α3) (x4 : α4) (x5 : α5) (x6 : α6) (x7 : α7) (x8 : α8) (x9 : α9) (x10 : α10) (x11 : α11) (x12 : α12) (x13 : α13) (h : R x0 x1 x2 x3 x4 x5 x6 x7 x8 x9 x10 x11 x12 x13) : ∃ x0 x1 x2 x3 x4 x5 x6 x7 x8 x9 x10 x11 x12 x13, R x0 x1 x2 x3 x4 x5 x6 x7 x8 x9 x10 x11 x12 x13 := ⟨x0, xi13 (R := R x0) x1 x2 x3 x4 x5 x6 x7 x8 x9 x10 x11 x12 x13 h⟩
theorem xi15 {α0 α1 α2 α3 α4 α5 α6 α7 α8 α9 α10 α11 α12 α13 α14 : Type} {R : α0 → α1 → α2 → α3 → α4 → α5 → α6 → α7 → α8 → α9 → α10 → α11 → α12 → α13 → α14 → Prop} (x0 : α0) (x1 : α1) (x2 : α2) (x3 : α3) (x4 : α4) (x5 : α5) (x6 : α6) (x7 : α7) (x8 : α8) (x9 : α9) (x10 : α10) (x11 : α11) (x12 : α12) (x13 : α13) (x14 : α14) (h : R x0 x1 x2 x3 x4 x5 x6 x7 x8 x9 x10 x11 x12 x13 x14) : ∃ x0 x1 x2 x3 x4 x5 x6 x7 x8 x9 x10 x11 x12 x13 x14, R x0 x1 x2 x3 x4 x5 x6 x7 x8 x9 x10 x11 x12 x13 x14 := ⟨x0, xi14 (R := R x0) x1 x2 x3 x4 x5 x6 x7 x8 x9 x10 x11 x12 x13 x14 h⟩
end Mine
end
section
namespace Mine
theorem reset_X1 : True := by
  w_top off
  exact trivial
theorem fill0 : PySem.Challenge.rw_nu0165_01 = PySem.Challenge.rw_nu0165_01 ∧ hd.heap_39 = hd.heap_39 := by
  k_fill
  exact ⟨rfl, rfl⟩

noncomputable abbrev excObj (t : Addr) (d : Option Addr) : Obj := { cls := .ref 61, dict := d, data := .fields #[.ref t, .none, .none, .none, .bool false, .none] }
noncomputable abbrev tupObj (vs : List Value) : Obj := { cls := .type "tuple", data := .seq vs.toArray }

section
variable {w : World} {A : Around} {R : Result → Shared → Prop} {h : Heap} {g : Array GenState} {d : Drawn} {t : Nat} {os : OsState}
theorem look {α : Type} {r : α} {T : Sem α} (X : (hd.heap_39 w.params).In h) (e : peek (hd.heap_39 w.params) ⟨PySem.Challenge.rw_nu0165_01.row.prog, w.params⟩ T = some r) :
    Looks (model PySem.Challenge.rw_nu0165_01.row.prog w) h T r := Looks.of_peek X e

set_option maxHeartbeats 4000000 in
theorem fault_new {rest : List Value} (X : (hd.heap_39 w.params).In h) (hsz : rest.length ≤ sizeLine)
    (hq : R (.ok (.ret (.ref (h.objs.size + 1)))) ⟨(h.push (tupObj rest)).push (excObj h.objs.size none), g, d, t, os⟩) :
    codeAny (model PySem.Challenge.rw_nu0165_01.row.prog w) A (.call (.builtin "Exception.__new__") ⟨.ref 61 :: rest, []⟩) R ⟨h, g, d, t, os⟩ := by
  have F := PySem.F.excBase_Exception
  have f1 : Looks (model PySem.Challenge.rw_nu0165_01.row.prog w) h (isSubtype (.ref 61) (.type "Exception")) true := look X (by kernel_rfl)
  have f2 : Looks (model PySem.Challenge.rw_nu0165_01.row.prog w) h (isType (.ref 61)) true := look X (by kernel_rfl)
  have f3 : Looks (model PySem.Challenge.rw_nu0165_01.row.prog w) h (Bind.madeHere "Exception.__new__" (.ref 61)) () := look X (by kernel_rfl)
  have f4 : Looks (model PySem.Challenge.rw_nu0165_01.row.prog w) h (Bind.madeHere "BaseException.__new__" (.ref 61)) () := look X (by kernel_rfl)
  have f5 : Looks (model PySem.Challenge.rw_nu0165_01.row.prog w) h (isSubtype (.ref 61) (.type "AttributeError")) false := look X (by kernel_rfl)
  have f6 : Looks (model PySem.Challenge.rw_nu0165_01.row.prog w) h (isSubtype (.ref 61) (.type "NameError")) false := look X (by kernel_rfl)
  have hC := fun o (e : List.lookup 61 (hd.heap_39 w.params) = some o) => X 61 o e
  specialize hC _ (by k_dflt k_is)
  refine codeAny_call_builtin_code (Code.quiet_builtin _ F.quiet) ?_
  simp only [checkBuiltinCall, F.newKind, F.newSplit, F.newRow]
  repeat lk
  refine codeAny_builtinAt F.entry ?_
  unfold Builtin.«BaseException.__new__»
  refine _root_.PySem.wpAt_bind ?_
  show _root_.PySem.wpAt _ _ _ (stack >>= _) _ _ _
  have hends := F.ends
  refine _root_.PySem.wpAt_bind (_root_.PySem.wpAt_stack fun p below => _root_.PySem.wpAt_of_wpAny ?_)
  wp_walk
  refine _root_.PySem.wpAt_of_wpAny ?_
  rw [F.owner]
  repeat lk
  rw [if_neg (by rw [List.size_toArray]; exact Nat.not_lt.mpr hsz)]
  have hC₁ := Heap.get?_push_of_some (excObj h.objs.size none) (Heap.get?_push_of_some (tupObj rest) hC)
  repeat lk
  show R _ _
  rw [Heap.size_push]
  exact hq

theorem exc_call {rest : List Value} (X : (hd.heap_39 w.params).In h) (hsz : rest.length ≤ sizeLine)
    (hq : codeAny (model PySem.Challenge.rw_nu0165_01.row.prog w) (A.under (.builtin "type.__call__" ⟨.ref 61 :: rest, []⟩)) (.call (.ref 38) ⟨.ref (h.objs.size + 1) :: rest, []⟩) (InitBack (h.objs.size + 1) R) ⟨(h.push (tupObj rest)).push (excObj h.objs.size none), g, d, t, os⟩) :
    codeAny (model PySem.Challenge.rw_nu0165_01.row.prog w) A (.call (.ref 61) ⟨rest, []⟩) R ⟨h, g, d, t, os⟩ := by
  have hC := fun o (e : List.lookup 61 (hd.heap_39 w.params) = some o) => X 61 o e
  specialize hC _ (by k_dflt k_is)
  have call : Looks (model PySem.Challenge.rw_nu0165_01.row.prog w) h (specialOf (.ref 61) "__call__") (some (.builtin "type.__call__")) := look X (by kernel_rfl)
  have typ : Looks (model PySem.Challenge.rw_nu0165_01.row.prog w) h (isInstance (.ref 61) (.type "type")) true := look X (by kernel_rfl)
  have mro : Looks (model PySem.Challenge.rw_nu0165_01.row.prog w) h (mroOf (.ref 61)) [.ref 61, .ref 48, .type "Exception", .type "BaseException", .type "object"] := look X (by kernel_rfl)
  have made : Looks (model PySem.Challenge.rw_nu0165_01.row.prog w) h (Bind.madeBy (.ref 61)) (some "Exception.__new__") := look X (by kernel_rfl)
  have self : Looks (model PySem.Challenge.rw_nu0165_01.row.prog w) h (isSubtype (.ref 61) (.ref 61)) true := look X (by kernel_rfl)
  have hi : Looks (model PySem.Challenge.rw_nu0165_01.row.prog w) h (typeLookup (.ref 61) "__init__") (some (.ref 38)) := look X (by kernel_rfl)
  refine codeAny_of_tree ?_
  show wpAny _ _ (callAny (.ref 61) _) _ _ _
  refine nd_load hC ?_
  show wpAny _ _ (callAny.viaDunder (.ref 61) _) _ _ _
  unfold callAny.viaDunder
  refine wpAny_bind (call.at ?_)
  dsimp only
  rw [tc_bind]
  refine wpAny_bind (wpAny_pure (wpAny_bind (wpAny_pure ?_)))
  refine wpAny_pure (a := Fin.again (.call (.builtin "type.__call__") ⟨.ref 61 :: rest, []⟩)) (And.intro rfl ?_)
  refine codeAny_call_builtin_at (Code.quiet_builtin _ (by decide +kernel)) entry_typeCall (check_slot tc_kind tc_split typ (tc_args _ _ _) ?_)
  unfold Builtin.«type.__call__»
  repeat (first | with_reducible refine wpAny_call ?_ | lk)
  refine fault_new X hsz ?_
  have k : ∀ b o, h.get? b = some o → ((h.push (tupObj rest)).push (excObj h.objs.size none)).get? b = some o := fun b o e => Heap.get?_push_of_some _ (Heap.get?_push_of_some _ e)
  have hx : ((h.push (tupObj rest)).push (excObj h.objs.size none)).get? (h.objs.size + 1) = some (excObj h.objs.size none) := by heap_get
  have t1 : Looks (model PySem.Challenge.rw_nu0165_01.row.prog w) ((h.push (tupObj rest)).push (excObj h.objs.size none)) (typeOf (.ref (h.objs.size + 1))) (.ref 61) := (Looks.ld hx).andThen .now
  have s1 := self.keeps k
  have i1 := hi.keeps k
  have b1 : Looks (model PySem.Challenge.rw_nu0165_01.row.prog w) ((h.push (tupObj rest)).push (excObj h.objs.size none)) (bindSpecial (.ref 38) (.ref (h.objs.size + 1))) (.ref 38, [.ref (h.objs.size + 1)]) :=
    (bind_fn X (.ref (h.objs.size + 1)) (by k_dflt k_is)).keeps k
  unfold isInstance callSpecial? specialOf
  repeat (first | with_reducible refine wpAny_call ?_ | lk)
  refine codeAny_mono hq fun r s' z => ?_
  rcases r with e | (v | _ | _ | _) <;> first | exact z | exact z.elim | skip
  obtain ⟨rfl, z⟩ := z
  exact wpAny_pure (wpAny_pure z)
end
end Mine
end
section
namespace Mine
theorem reset_X1b : True := by
  w_top off
  exact trivial
theorem slot_wd : Slot "wrapper_descriptor" "__get__" "wrapper_descriptor.__get__" :=
  .of (owner := "wrapper_descriptor") (n := "__get__") (by rw [typeLookup_type, builtinLookup_eq_fast]; kernel_rfl) (by decide +kernel) (by decide +kernel) (by decide +kernel)
    (by first | exact .inl (by decide +kernel) | exact .inr (by decide +kernel)) (by rw [isSubtype_type]; kernel_rfl)
theorem entry_wd : entryFor table "wrapper_descriptor.__get__" = some Builtin.«wrapper_descriptor.__get__» := entryFor_of_tree (by kernel_rfl)
theorem args_wd (a b c : Value) : argsOk "wrapper_descriptor.__get__" ⟨[a, b, c], []⟩ := by unfold argsOk; kernel_rfl
theorem own_exc_init : classOwn (.type "Exception") "__init__" = pure (some (.builtin "Exception.__init__")) := by kernel_rfl
theorem type_exc_init : typeOf (.builtin "Exception.__init__") = pure (.type "wrapper_descriptor") := by show builtinType _ = _; rw [builtinType_eq_fast]; kernel_rfl
theorem look_wd : typeLookup (.type "wrapper_descriptor") "__get__" = pure (some (.builtin "wrapper_descriptor.__get__")) := by rw [typeLookup_type, builtinLookup_eq_fast]; kernel_rfl
section
variable {w : World} {A : Around} {E : Value → Shared → Prop} {h : Heap} {g : Array GenState} {d : Drawn} {t : Nat} {os : OsState} {so e : Addr} {tu : Addr}

set_option maxHeartbeats 4000000 in
theorem exc_super_ga {tk : Tok} {Q : Fin → Shared → Prop} (X : (hd.heap_39 w.params).In h) (hso : h.get? so = some (ks_superObj 48 e 61)) (he : h.get? e = some (excObj tu none))
    (hq : Q (.done (.ret (.ref h.objs.size))) ⟨h.push { cls := .type "method-wrapper", data := .fields #[.builtin "Exception.__init__", .ref e] }, g, d, t, os⟩) :
    wpAny (model PySem.Challenge.rw_nu0165_01.row.prog w) A (Builtin.«super.__getattribute__» ⟨[.ref so, .str "__init__" tk], []⟩) Q E ⟨h, g, d, t, os⟩ := by
  have f0 := looks_field (M := model PySem.Challenge.rw_nu0165_01.row.prog w) hso 0 (v := .ref 48) rfl
  have f1 := looks_field (M := model PySem.Challenge.rw_nu0165_01.row.prog w) hso 1 (v := .ref e) rfl
  have f2 := looks_field (M := model PySem.Challenge.rw_nu0165_01.row.prog w) hso 2 (v := .ref 61) rfl
  have f3 : Looks (model PySem.Challenge.rw_nu0165_01.row.prog w) h (opaqueClassAbove (.ref 61)) none := look X (by kernel_rfl)
  have f4 : Looks (model PySem.Challenge.rw_nu0165_01.row.prog w) h (mroOf (.ref 61)) [.ref 61, .ref 48, .type "Exception", .type "BaseException", .type "object"] := look X (by kernel_rfl)
  have f5 : Looks (model PySem.Challenge.rw_nu0165_01.row.prog w) h (classOwn (.type "Exception") "__init__") (some (.builtin "Exception.__init__")) := Looks.of_pure own_exc_init
  have f6 : Looks (model PySem.Challenge.rw_nu0165_01.row.prog w) h (typeOf (.builtin "Exception.__init__")) (.type "wrapper_descriptor") := Looks.of_pure type_exc_init
  have f7 : Looks (model PySem.Challenge.rw_nu0165_01.row.prog w) h (typeLookup (.type "wrapper_descriptor") "__get__") (some (.builtin "wrapper_descriptor.__get__")) := Looks.of_pure look_wd
  have f8 : Looks (model PySem.Challenge.rw_nu0165_01.row.prog w) h (isSubtype (.ref 61) (.type "Exception")) true := look X (by kernel_rfl)
  have f9 : Looks (model PySem.Challenge.rw_nu0165_01.row.prog w) h (typeOf (.ref e)) (.ref 61) := (Looks.ld he).andThen .now
  unfold Builtin.«super.__getattribute__»
  have hC := fun o (e : List.lookup 61 (hd.heap_39 w.params) = some o) => X 61 o e
  specialize hC _ (by k_dflt k_is)
  have hne : (Value.ref e == Value.ref 61) = false := by
    refine Bool.eq_false_iff.mpr fun q => ?_
    have q' : e = 61 := by simpa using q
    subst q'
    rw [he] at hC
    exact absurd (congrArg Obj.cls (Option.some.inj hC)) (by intro q; cases q)
  repeat (first | with_reducible refine ks_wpAny_notOpaque f3 ?_ | with_reducible refine wpAny_call ?_ | lk)
  rw [hne, if_neg (by decide)]
  refine codeAny_call_builtin slot_wd.plain entry_wd (slot_wd.check _ _ _ _ _ _ _ _ type_exc_init (args_wd _ _ _) ?_)
  unfold Builtin.«wrapper_descriptor.__get__»
  repeat (first | with_reducible refine wpAny_call ?_ | lk)
  exact hq

theorem exc_super_method {pl : Sem Bool} {Q : Value × List Value → Shared → Prop} (X : (hd.heap_39 w.params).In h) (hso : h.get? so = some (ks_superObj 48 e 61)) (he : h.get? e = some (excObj tu none))
    (hq : Q (.ref h.objs.size, []) ⟨h.push { cls := .type "method-wrapper", data := .fields #[.builtin "Exception.__init__", .ref e] }, g, d, t + 1, os⟩) :
    wpAny (model PySem.Challenge.rw_nu0165_01.row.prog w) A (getMethod (.ref so) "__init__" pl) Q E ⟨h, g, d, t, os⟩ := by
  have hlk := PySem.F.ks_slot_super_ga.lookup
  have hcan := PySem.F.ks_canon_super_ga
  have hT : ∀ t', (⟨h, g, d, t', os⟩ : Shared).TypeIs (.ref so) "super" := fun _ => ⟨_, hso, rfl⟩
  unfold getMethod
  refine wpAny_bind (wpAny_specialOf (hT _) hlk ?_)
  show wpAny _ _ (if (Manifest.canonical "super.__getattribute__" != "object.__getattribute__") = true then _ else _) _ _ _
  rw [if_pos hcan]
  unfold getAttr getAttrBy
  refine wpAny_bind (wpAny_bind (wpAny_mkText (wpAny_holding (wpAny_bind (wpAny_typeOf (hT _) (wpAny_bind (wpAny_of_eq hlk ?_)))))))
  show wpAny _ _ (getAttrByItsOwn (.ref so) (.str "__init__" t) (.type "super") (.builtin "super.__getattribute__") true false) _ _ _
  unfold getAttrByItsOwn hookBefore callGetattribute boundAndCalled
  refine wpAny_bind (wpAny_of_eq (show (if onTheHeap (.type "super") then typeLookup (.type "super") "__getattr__" else pure none) = pure none from rfl) ?_)
  refine wpAny_bind (wpAny_attempt (wpAny_holding ?_))
  show wpAny _ _ (bindSpecial (.builtin "super.__getattribute__") (.ref so) >>= _) _ _ _
  refine wpAny_bind (wpAny_of_eq (PySem.F.ks_slot_super_ga.bind _) ?_)
  refine wpAny_mono (Q := fun v s' => v = .ref h.objs.size ∧ s' = ⟨h.push { cls := .type "method-wrapper", data := .fields #[.builtin "Exception.__init__", .ref e] }, g, d, t + 1, os⟩) (E := fun _ _ => False)
    (wpAny_call_entry PySem.F.ks_slot_super_ga (hT _) PySem.F.ks_entry_super_ga (exc_super_ga X hso he ⟨_, rfl, rfl, rfl⟩) (PySem.F.ks_gaArgs_super _ _)) (fun v s' hv => ?_) fun _ _ z => z.elim
  obtain ⟨rfl, rfl⟩ := hv
  exact wpAny_pure (wpAny_pure hq)

theorem exc_init_call {mw : Addr} {v : Value} {Q : Value → Shared → Prop} (X : (hd.heap_39 w.params).In h) (hmw : h.get? mw = some { cls := .type "method-wrapper", data := .fields #[.builtin "Exception.__init__", .ref e] }) (he : h.get? e = some (excObj tu none))
    (hq : Q .none ⟨(h.push (tupObj [v])).update e (Obj.mapFields (·.setIfInBounds 0 (.ref h.objs.size))), g, d, t, os⟩) :
    wpAny (model PySem.Challenge.rw_nu0165_01.row.prog w) A (call (.ref mw) [v]) Q E ⟨h, g, d, t, os⟩ := by
  have F := PySem.F.excBase_Exception
  have f8 : Looks (model PySem.Challenge.rw_nu0165_01.row.prog w) h (isSubtype (.ref 61) (.type "Exception")) true := look X (by kernel_rfl)
  have f9 : Looks (model PySem.Challenge.rw_nu0165_01.row.prog w) h (typeOf (.ref e)) (.ref 61) := (Looks.ld he).andThen .now
  refine wpAny_call (codeAny_of_tree ?_)
  show wpAny _ _ (callAny (.ref mw) _) _ _ _
  refine nd_load hmw ?_
  have hC := fun o (e : List.lookup 61 (hd.heap_39 w.params) = some o) => X 61 o e
  specialize hC _ (by k_dflt k_is)
  repeat lk
  refine ⟨Code.quiet_builtin _ (by decide +kernel), codeAny_builtin F.initEntry ?_⟩
  unfold Builtin.«BaseException.__init__»
  have he₁ : (h.push { cls := .type "tuple", data := .seq #[v] }).get? e = some (excObj tu none) := Heap.get?_push_of_some _ he
  repeat lk
  refine wpAny_update he₁ ?_
  repeat lk
  exact hq
end
end Mine
end
section
namespace Mine
theorem reset_X1c : True := by
  w_top off
  exact trivial
theorem exc_refuse (self : Value) : refuseLoop self "__setattr__" [.ref 61, .ref 48, .type "Exception", .type "BaseException", .type "object"] = pure () := by
  rw [refuseLoop_ref, refuseLoop_ref]
  kernel_rfl
section
variable {w : World} {A : Around} {E : Value → Shared → Prop} {h : Heap} {g : Array GenState} {d : Drawn} {t : Nat} {os : OsState} {so e : Addr} {tu : Addr}

set_option maxHeartbeats 4000000 in
theorem exc_osa {name : Str} {tk : Tok} {v : Value} {od : Option Addr} {R : Result → Shared → Prop} (X : (hd.heap_39 w.params).In h) (he : h.get? e = some (excObj tu od))
    (hl : Looks (model PySem.Challenge.rw_nu0165_01.row.prog w) h (typeLookup (.ref 61) name) none)
    (hq : ∀ A' b, wpAny (model PySem.Challenge.rw_nu0165_01.row.prog w) A' (Builtin.ObjectAttr.storeInOwnDict (.ref e) (.ref 61) (.str name tk) name v b)
      (fun fin s' => match fin with | .done f => R (.ok f) s' | .again c' => c'.quiet = true ∧ codeAny (model PySem.Challenge.rw_nu0165_01.row.prog w) A c' R s') (fun e s' => R (.error e) s') ⟨h, g, d, t, os⟩) :
    codeAny (model PySem.Challenge.rw_nu0165_01.row.prog w) A (.call (.builtin "object.__setattr__") ⟨[.ref e, .str name tk, v], []⟩) R ⟨h, g, d, t, os⟩ := by
  have SF := PySem.F.store_object
  have f9 : Looks (model PySem.Challenge.rw_nu0165_01.row.prog w) h (typeOf (.ref e)) (.ref 61) := (Looks.ld he).andThen .now
  have f8 : Looks (model PySem.Challenge.rw_nu0165_01.row.prog w) h (isSubtype (.ref 61) (.type "object")) true := look X (by kernel_rfl)
  have sub : Looks (model PySem.Challenge.rw_nu0165_01.row.prog w) h (isInstance (.ref e) (.type "object")) true := f9.andThen f8
  have f4 : Looks (model PySem.Challenge.rw_nu0165_01.row.prog w) h (mroOf (.ref 61)) [.ref 61, .ref 48, .type "Exception", .type "BaseException", .type "object"] := look X (by kernel_rfl)
  refine codeAny_call_builtin SF.slot.plain SF.entry (@check_slot (model PySem.Challenge.rw_nu0165_01.row.prog w) _ _ _ "object.__setattr__" "object" "__setattr__" (.ref e) [.str name tk, v] [] _ SF.kind SF.split sub (SF.args (.ref e) (.str name tk) v) ?_)
  rw [osa_eq, refuse_eq]
  refine wpAny_bind (wpAny_bind (f9.here (wpAny_bind (f4.here ?_))))
  rw [exc_refuse]
  refine wpAny_pure (wpAny_bind (f9.here (wpAny_bind (hl.here (wpAny_bind (wpAny_pure ?_))))))
  exact hq _ _

theorem store_in {M : Model} {s : Shared} {A : Around} {E : Value → Shared → Prop} {dx : Addr} {es : List DictEntry} {n : Nat} {name : Str} {tk : Tok} {v : Value} {Q : Fin → Shared → Prop} (D : s.heap.get? dx = some (dictOf es n)) (hl : (getL name es).isSome = true) (hz : es.length ≤ 1000)
    (hq : ∀ h2, (∀ b, b ≠ dx → h2.get? b = s.heap.get? b) → h2.get? dx = some (dictOf (putL name (PyData.keyHash M.w.params name) (.str name s.toks) v es) (putN name es n)) → Q (.done (.ret .none)) { s with heap := h2, toks := s.toks + 1 }) :
    wpAny M A (Builtin.ObjectAttr.storeInDict dx (.str name tk) name v) Q E s := by
  unfold Builtin.ObjectAttr.storeInDict
  refine wpAny_bind (wpAny_pure (wpAny_bind ?_))
  unfold nsSet
  refine wpAny_bind (wpAny_bind (wpAny_askSetting (wpAny_pure (wpAny_bind (wpAny_mkText (wpAny_bind (wpAny_loadPart D ?_)))))))
  dsimp only
  have c : (!(es.toArray).any (·.key.isStr name) && (es.toArray).any (·.refKey)) = false := by
    rw [List.any_toArray, List.any_toArray]
    unfold getL at hl
    split at hl
    · rename_i en he
      rw [List.any_eq_true.mpr ⟨en, List.mem_of_find?_eq_some he, List.find?_some he⟩]; rfl
    · split at hl
      · cases hl
      · rename_i z; rw [Bool.not_eq_true] at z; rw [z, Bool.and_false]
  rw [aRefKeyMayBeTheName_at, c]
  have D' := Heap.get?_update_self (Obj.putName name (PyData.keyHash M.w.params name) (.str name s.toks) v) D (by rw [putName_dict]; rfl)
  rw [putName_dict] at D'
  refine wpAny_updatePart D ?_
  have hlen : ∀ (hsh : Int) (key : Value) (l : List DictEntry), (putL name hsh key v l).length ≤ l.length + 1 := by
    intro hsh key l
    induction l with
    | nil => exact Nat.le_refl _
    | cons x r ih =>
      unfold putL
      split
      · exact Nat.le_succ _
      · exact Nat.succ_le_succ ih
  refine wpAny_bind (wpAny_lookBehind D' (pastItsLine_dict (by rw [List.size_toArray, sizeLine_eq]; exact Nat.le_trans (hlen _ _ _) (by (first | lia | omega)))) ?_)
  exact wpAny_pure (hq _ (fun b hb => Heap.get?_update_ne _ _ _ _ hb) D')

theorem exc_set1 {v : Value} {Q : Unit → Shared → Prop} (X : (hd.heap_39 w.params).In h) (he : h.get? e = some (excObj tu none))
    (hq : ∀ h2 tk, (∀ b o, b ≠ e → h.get? b = some o → h2.get? b = some o) → h2.get? e = some (excObj tu (some h.objs.size)) →
      (∀ c t1, h2.get? h.objs.size = some (dictOf [⟨c, .str "what" t1, v⟩] 1) → Q () ⟨h2, g, d, tk, os⟩)) :
    wpAny (model PySem.Challenge.rw_nu0165_01.row.prog w) A (setAttr (.ref e) "what" v) Q E ⟨h, g, d, t, os⟩ := by
  have I : W.InstAt h e (excObj tu none) 61 none := ⟨he, rfl, rfl, trivial⟩
  refine set_plain (s := ⟨h, g, d, t, os⟩) X I (by k_dflt k_is) (exc_osa X he (look X (by kernel_rfl)) fun A' b => ?_)
  have hC := fun o (e : List.lookup 61 (hd.heap_39 w.params) = some o) => X 61 o e
  specialize hC _ (by k_dflt k_is)
  unfold Builtin.ObjectAttr.storeInOwnDict Builtin.ObjectAttr.ownDictForStores instanceDict
  repeat lk
  have he₁ : (h.push { cls := .type "dict", data := .dict #[] }).get? e = some (excObj tu none) := Heap.get?_push_of_some _ he
  have hne : e ≠ h.objs.size := Nat.ne_of_lt (Heap.lt_size he)
  refine wpAny_update he₁ ?_
  have hd₀ := Heap.get?_push_size h (o := { cls := .type "dict", data := .dict #[] }) rfl
  have hd₁ : ((h.push { cls := .type "dict", data := .dict #[] }).update e (fun o => { cls := o.cls, dict := some h.objs.size, data := o.data, slots := o.slots })).get? h.objs.size = some (dictOf [] 0) :=
    (Heap.get?_update_ne _ _ _ _ (Ne.symm hne)).trans hd₀
  have he₂ : ((h.push { cls := .type "dict", data := .dict #[] }).update e (fun o => { cls := o.cls, dict := some h.objs.size, data := o.data, slots := o.slots })).get? e = some (excObj tu (some h.objs.size)) :=
    Heap.get?_update_self _ he₁ rfl
  have keep : ∀ b o, b ≠ e → h.get? b = some o → ((h.push { cls := .type "dict", data := .dict #[] }).update e (fun o => { cls := o.cls, dict := some h.objs.size, data := o.data, slots := o.slots })).get? b = some o :=
    fun b o hb hq => (Heap.get?_update_ne _ _ _ _ hb).trans (Heap.get?_push_of_some _ hq)
  dsimp only
  refine wpAny_pure (a := some h.objs.size) (store_in (M := model PySem.Challenge.rw_nu0165_01.row.prog w) hd₁ rfl (by decide) fun h2 k2 hD => ?_)
  have lt : ∀ b o, h.get? b = some o → b ≠ h.objs.size := fun b o hb => Nat.ne_of_lt (Heap.lt_size hb)
  exact hq h2 _ (fun b o hb q => (k2 b (lt b o q)).trans (keep b o hb q)) ((k2 e hne).trans he₂) _ _ hD

theorem exc_set2 {dx : Addr} {c : Int} {t1 : Tok} {u v : Value} {Q : Unit → Shared → Prop} (X : (hd.heap_39 w.params).In h) (he : h.get? e = some (excObj tu (some dx))) (hdx : h.get? dx = some (dictOf [⟨c, .str "what" t1, u⟩] 1))
    (hq : ∀ h2 tk, (∀ b o, b ≠ dx → h.get? b = some o → h2.get? b = some o) →
      (∀ c2 t2, h2.get? dx = some (dictOf [⟨c, .str "what" t1, u⟩, ⟨c2, .str "at" t2, v⟩] 2) → Q () ⟨h2, g, d, tk, os⟩)) :
    wpAny (model PySem.Challenge.rw_nu0165_01.row.prog w) A (setAttr (.ref e) "at" v) Q E ⟨h, g, d, t, os⟩ := by
  have I : W.InstAt h e (excObj tu (some dx)) 61 (some (dictOf [⟨c, .str "what" t1, u⟩] 1)) := ⟨he, rfl, rfl, hdx⟩
  refine set_plain (s := ⟨h, g, d, t, os⟩) X I (by k_dflt k_is) (exc_osa X he (look X (by kernel_rfl)) fun A' b => ?_)
  have hC := fun o (e : List.lookup 61 (hd.heap_39 w.params) = some o) => X 61 o e
  specialize hC _ (by k_dflt k_is)
  unfold Builtin.ObjectAttr.storeInOwnDict Builtin.ObjectAttr.ownDictForStores instanceDict
  generalize hG : Builtin.ObjectAttr.storeInDict = G
  repeat lk
  subst hG
  refine store_in (M := model PySem.Challenge.rw_nu0165_01.row.prog w) hdx rfl (by show 1 ≤ 1000; decide) fun h2 k2 hD => ?_
  exact hq h2 _ (fun b o hb q => (k2 b hb).trans q) _ _ hD
end
end Mine
end
section
namespace Mine
theorem reset_X2 : True := by
  w_top off
  exact trivial
local macro_rules | `(tactic| k_room) => `(tactic| ktr_room)

noncomputable abbrev excDict (c d : Int) (t1 t2 tx ti : Tok) (x : Str) (i : Int) : Obj := dictOf [⟨c, .str (Str.ofString "what") t1, .str x tx⟩, ⟨d, .str (Str.ofString "at") t2, .int i ti⟩] 2
noncomputable abbrev mwObj (e : Addr) : Obj := { cls := .type "method-wrapper", data := .fields #[.builtin "Exception.__init__", .ref e] }
theorem callWith_mw {M : Model} {A : Around} {E : Value → Shared → Prop} {s : Shared} {env : Env} {pos : Pos} {mw x : Addr} {first : List Value} {Q : Value → Shared → Prop} {e : Expr} {rest : List Expr}
    (h : wpAny M A (spliced (backTo pos (starEach (e :: rest) env))) (fun vs s₁ => s₁.heap.get? mw = some (mwObj x) ∧ wpAny M A (call (.ref mw) (first ++ vs)) Q E s₁) E s)
    (he : starEach (e :: rest) env = (false, eval e env) :: starEach rest env := by rfl) (hplain : (backTo pos (starEach rest env)).any (·.1) = false := by rfl) :
    wpAny M A (callWith pos (.ref mw) first (backTo pos (starEach (e :: rest) env)) []) Q E s := by
  rw [he] at h ⊢
  exact callWith_of (P := fun h => h.get? mw = some (mwObj x)) (by show ((false || (backTo pos (starEach rest env)).any (·.1)) || false) = false; rw [hplain]; rfl)
    (fun h hq => ⟨.machine, .inr (.inl rfl), (Looks.ld (part := none) hq).andThen .now⟩) (evalArgs_plain h)
theorem fr_but1 {h₀ h h' : Heap} {L I : Addr} {m : Str → Option Value} (F : Fr h₀ L h m) (hk : ∀ b o, b ≠ I → h.get? b = some o → h'.get? b = some o) (hL : L ≠ I) (hI : h₀.get? I = none) : Fr h₀ L h' m :=
  LCg.fr_but F (fun b o hb => hk b o (by simpa using hb)) hL hI
theorem news_but1 {h₀ h h' : Heap} {L I : Addr} {news : List (Addr × Obj)} (N : News h₀ L h news) (hk : ∀ b o, b ≠ I → h.get? b = some o → h'.get? b = some o) (off : ∀ p ∈ news, p.1 ≠ I) : News h₀ L h' news :=
  LCg.news_but N (fun b o hb => hk b o (by simpa using hb)) off
section
variable {w : World} {dp un : Nat} {gd : Option (List Code)} {cn : Str} {cs : Scope} {a : Addr} {ccd : Value} {cl : List (Str × Addr)} {outer : List Env} {A₀ : Around} {base h₀ : Heap} {L : Addr} {m : Str → Option Value} {s : Shared} {Q E : Value → Shared → Prop} {p : Program} {loose : List Str} {mean : ExcName → Option Value} {mg mb : Str → Option Value} {news : List (Addr × Obj)}

set_option maxHeartbeats 4000000 in
theorem fault_made (B : Below A₀ base outer h₀) (F : Fr h₀ L s.heap m) (X : (hd.heap_39 w.params).In h₀) (N : News h₀ L s.heap news) (T : Top p loose mean mg mb h₀) (hk : cs.kind = .function)
    (hd : dp + 4 < recursionLimit) (hu : un + 60 < cLine) (x : Str) (tx : Tok) (i : Int) (ti : Tok)
    (hret : ∀ h' tk' e t dx c d t1 t2, Fr h₀ L h' m → News h₀ L h' ((e, excObj t (some dx)) :: (dx, excDict c d t1 t2 tx ti x i) :: news) → (∀ p ∈ news, p.1 ≠ dx) → Q (.ref e) { s with heap := h', toks := tk' }) :
    wpAny (model PySem.Challenge.rw_nu0165_01.row.prog w) (ktrTop dp un gd cn cs L a ccd cl outer) (call (.ref 61) [.str x tx, .int i ti]) Q E s := by
  obtain ⟨hh, g, d, t, os⟩ := s
  refine wpAny_call (exc_call (X.keeps F.keep) (by rw [sizeLine_eq]; exact Nat.le_of_ble_eq_true rfl) ?_)
  have F1 := (F.push (tupObj [Value.str x tx, Value.int i ti])).push (excObj hh.objs.size none)
  have N1 := (N.push F (tupObj [Value.str x tx, Value.int i ti])).push (F.push _) (excObj hh.objs.size none)
  dsimp only at F1 N1 F N
  rw [Heap.size_push] at N1
  generalize (hh.push (tupObj [Value.str x tx, Value.int i ti])).push (excObj hh.objs.size none) = h1 at F1 N1 ⊢
  generalize he : hh.objs.size + 1 = e at N1 ⊢
  generalize ht : hh.objs.size = t' at N1 ⊢
  k_dflt (refine' ks_code_super ?k1 ?k2 ?k3 ?k4 ?k5 ?kA ?kF ?kK ?k6 ?k7 ?k8 ?k9 ?kB ?_ ?c1 ?c2 ?c3 ?c4; (case kA => exact rfl); (case kF => exact rfl); (case kK => exact hk); (case k1 => k_asm); (case k2 => exact F1); (case k3 => k_asm); (case k4 => exact N1); (case k5 => k_asm); (case k6 => k_is); (case k7 => k_is); (case k8 => ktr_room); (case k9 => exact binds_K (X.keeps F1.keep) rfl (by k_is) rfl rfl rfl); (case kB => exact locs rfl); (case c1 => decide); (case c2 => exact rfl); (case c3 => exact rfl); (case c4 => exact rfl); intro g' L' h' FG' F' N' B' X' T' l1; (try k_lt l1); (try dsimp only))
  clear F1 N1
  k_steps
  have I : InstAt h' e (excObj t' none) 61 none := ⟨(N' _ (by k_mem)).1, rfl, rfl, trivial⟩
  k_dflt (refine ks_node (by k_asm) (by k_asm) (by k_asm) (by k_asm) (by k_is) (by rfl) (by rfl) I (by k_is) (by rfl) (by first | rfl | decide +kernel) (by k_is) (by k_is) (by k_is) (by k_is) (by decide) (by rfl) (by rfl) (by rfl) (by rfl) (by decide +kernel) (by first | boot_by_name | rfl | kernel_rfl) ?_; intro so' h' F' N' l1; (try k_lt l1))
  have hso := (N' _ (List.Mem.head _)).1
  have hee := (N' _ (List.Mem.tail _ (List.Mem.head _))).1
  dsimp only at hso hee
  refine exc_super_method (X'.keeps F'.keep) hso hee ?_
  have F2 := F'.push (mwObj e)
  have N2 := N'.push F' (mwObj e)
  have l2 : ∀ p ∈ (so', ks_superObj 48 e 61) :: (e, excObj t' none) :: (t', tupObj [Value.str x tx, Value.int i ti]) :: news, p.1 < h'.objs.size := fun p hp => Heap.lt_size (N' p hp).1
  k_lt l2
  clear hso hee
  generalize h'.push (mwObj e) = h2 at F2 N2 ⊢
  generalize h'.objs.size = mw at N2 l2 ⊢
  clear F' N'
  refine callWith_mw (x := e) ?_
  k_steps
  · exact (N2 _ (List.Mem.head _)).1
  have hmw := (N2 _ (List.Mem.head _)).1
  have hee := (N2 (e, excObj t' none) (by k_mem)).1
  dsimp only at hmw hee
  have hne : ∀ p ∈ news, p.1 ≠ e := fun p hp => by
    have := Heap.lt_size (N p hp).1
    intro q
    rw [q, ← he] at this
    exact absurd this (Nat.not_lt.mpr (Nat.le_succ _))
  have eL := (N2 (e, excObj t' none) (by k_mem)).2
  refine exc_init_call (X'.keeps F2.keep) hmw hee ?_
  have hee3 := Heap.get?_push_of_some (tupObj [Value.str x tx]) hee
  have hee4 := Heap.get?_update_self (Obj.mapFields (·.setIfInBounds 0 (.ref h2.objs.size))) hee3 rfl
  have k4 : ∀ b o, b ≠ e → h2.get? b = some o → ((h2.push (tupObj [Value.str x tx])).update e (Obj.mapFields (·.setIfInBounds 0 (.ref h2.objs.size)))).get? b = some o := fun b o hb q => (Heap.get?_update_ne _ _ _ _ hb).trans (Heap.get?_push_of_some _ q)
  have F4 := fr_but1 F2 k4 (Ne.symm eL.1) eL.2
  have N4 : News g' L' _ ((e, excObj h2.objs.size none) :: news) := fun p hp => by
    rcases List.mem_cons.mp hp with rfl | hp
    · exact ⟨hee4, eL⟩
    · exact news_but1 (fun q hq => N2 q (.tail _ (.tail _ (.tail _ (.tail _ hq))))) k4 hne p hp
  clear hmw hee k4 hee3 hee4 I N2 F2 N' F' l1
  generalize (h2.push (tupObj [Value.str x tx])).update e (Obj.mapFields (·.setIfInBounds 0 (.ref h2.objs.size))) = h4 at F4 N4 ⊢
  generalize h2.objs.size = t4 at N4 ⊢
  k_steps
  have hee := (N4 _ (List.Mem.head _)).1
  dsimp only at hee
  refine exc_set1 (X'.keeps F4.keep) hee fun h5 tk5 k5 e5 => fun c t1 hD => ?_
  have hnx : ∀ p ∈ news, p.1 ≠ h4.objs.size := fun p hp => Nat.ne_of_lt (Heap.lt_size (N4 p (.tail _ hp)).1)
  have hLx : h4.objs.size ≠ L' ∧ g'.get? h4.objs.size = none := ⟨Nat.ne_of_gt F4.ns.lt, next_is_new F4⟩
  have F5 := fr_but1 F4 k5 (Ne.symm eL.1) eL.2
  have N5 : News g' L' h5 ((e, excObj t4 (some h4.objs.size)) :: (h4.objs.size, dictOf [⟨c, .str "what" t1, .str x tx⟩] 1) :: news) := fun p hp => by
    rcases List.mem_cons.mp hp with rfl | hp
    · exact ⟨e5, eL⟩
    · rcases List.mem_cons.mp hp with rfl | hp
      · exact ⟨hD, hLx⟩
      · exact news_but1 (fun q hq => N4 q (.tail _ hq)) k5 hne p hp
  clear k5 e5 hD hee N4 F4
  generalize h4.objs.size = dx at *
  k_steps
  have hee := (N5 _ (List.Mem.head _)).1
  have hdd := (N5 _ (.tail _ (List.Mem.head _))).1
  dsimp only at hee hdd
  have hed : e ≠ dx := by
    intro q
    rw [q, hdd] at hee
    exact absurd (congrArg Obj.cls (Option.some.inj hee)) (by intro q; cases q)
  refine exc_set2 (X'.keeps F5.keep) hee hdd fun h6 tk6 k6 => fun c2 t2 hD => ?_
  have F6 := fr_but1 F5 k6 (Ne.symm hLx.1) hLx.2
  have N6 : News g' L' h6 ((e, excObj t4 (some dx)) :: (dx, excDict c c2 t1 t2 tx ti x i) :: news) := fun p hp => by
    rcases List.mem_cons.mp hp with rfl | hp
    · exact ⟨k6 _ _ hed hee, eL⟩
    · rcases List.mem_cons.mp hp with rfl | hp
      · exact ⟨hD, hLx⟩
      · exact news_but1 (fun q hq => N5 q (.tail _ (.tail _ hq))) k6 hnx p hp
  clear k6 hD hee hdd N5 F5
  k_steps
  exact hret _ tk6 e t4 dx c c2 t1 t2 (by assumption) (by assumption) hnx
end
end Mine
end
section
namespace Mine
theorem reset_X3 : True := by
  w_top off
  exact trivial

/-- what is thrown: a TableFault whose `at` is z -/
structure Flies (base : Heap) (l : List Env) (kp : List (Addr × Obj)) (e : Addr) (z : Int) (tr : Bool) (h : Heap) : Prop where
  stays : base.StaysIn h
  new : base.get? e = none
  frames : h.FunFrames base l
  kept : ∀ p ∈ kp, (∀ vs, p.2.data ≠ .fields vs) ∧ ∃ sl, h.get? p.1 = some { p.2 with slots := sl }
  exc : ∃ oe vs dx od, h.get? e = some oe ∧ oe.cls = .ref 61 ∧ oe.dict = some dx ∧ oe.data = .fields vs ∧ 1 < vs.size ∧
    base.get? dx = none ∧ h.get? dx = some od ∧ (∃ c d t1 t2 tx ti x, od = excDict c d t1 t2 tx ti x z) ∧ dx ∉ l.filterMap (·.frame) ∧ (∀ p ∈ kp, p.1 ≠ dx) ∧
    ((vs[1]? = some .none ∧ tr = false) ∨ ∃ T oT ts fl, vs[1]? = some (.ref T) ∧ base.get? T = none ∧ T ≠ e ∧ h.get? T = some oT ∧ oT.data = .fields ts ∧ ts[3]? = some fl)

theorem kept_up {kp : List (Addr × Obj)} {h h' : Heap} (k : ∀ p ∈ kp, (∀ vs, p.2.data ≠ .fields vs) ∧ ∃ sl, h.get? p.1 = some { p.2 with slots := sl }) (u : h.UpToSlots h') : ∀ p ∈ kp, (∀ vs, p.2.data ≠ .fields vs) ∧ ∃ sl, h'.get? p.1 = some { p.2 with slots := sl } := fun p hp => by
  refine (let Gz : Prop := _; (?_ : Gz))
  obtain ⟨nf, sl, q⟩ := k p hp
  k_unfold; clear Gz
  refine (let Gz : Prop := _; (?_ : Gz))
  obtain ⟨sl', q'⟩ := u _ _ q nf
  k_unfold; clear Gz
  exact ⟨nf, sl', q'⟩

theorem Flies.tail {base : Heap} {env : Env} {l : List Env} {kp : List (Addr × Obj)} {e : Addr} {z : Int} {tr : Bool} {h : Heap} (x : Flies base (env :: l) kp e z tr h) : Flies base l kp e z tr h := by
  refine (let Gz : Prop := _; (?_ : Gz))
  obtain ⟨a, b, c, k, oe, vs, dx, od, h1, h2, h3, h4, h5, h6, h7, h8, h9, hkd, h10⟩ := x
  k_unfold; clear Gz
  refine ⟨a, b, c.2.2, k, xi4 oe vs dx od ⟨h1, h2, h3, h4, h5, h6, h7, h8, fun hm => h9 ?_, hkd, h10⟩⟩
  rw [List.filterMap_cons]
  split
  · exact hm
  · exact List.mem_cons_of_mem _ hm

section
variable {M : Model} {A : Around} {E : Value → Shared → Prop} {s : Shared} {base : Heap} {env : Env} {outer : List Env} {L e : Addr} {z : Int} {tr : Bool} {kp : List (Addr × Obj)}

/-- a traceback's entry is made and hung on the exception -/
theorem entry_any {oe : Obj} {vs : Array Value} {head : Value} {hadNext : Bool} {Q : Unit → Shared → Prop}
    (hfr : A.frames = some (env :: outer)) (hl : s.heap.FunFrames base (env :: outer)) (hf : env.frame = some L)
    (he : s.heap.get? e = some oe) (hd : oe.data = .fields vs) (hsz : 1 < vs.size)
    (h : ∀ H T ts, (∀ b o, b ≠ e → b ∉ (env :: outer).filterMap (·.frame) → s.heap.get? b = some o → H.get? b = some o) → (∀ b o, b ≠ e → s.heap.get? b = some o → ∃ sl, H.get? b = some { o with slots := sl }) →
      H.get? e = some (Obj.mapFields (·.setIfInBounds 1 (Value.ref T)) oe) → H.get? T = some { cls := .type "traceback", data := .fields ts } → ts[3]? = some (rawInt L) → s.heap.get? T = none → T ≠ e → Q () { s with heap := H }) :
    wpAny M A (do let a ← frameOf env; let pl ← entryPlaceOf L hadNext; let b ← EntryCells.newEntry head a .none (rawInt L) .none pl; setField (.ref e) 1 b) Q E s := by
  have hene : e ∉ (env :: outer).filterMap (·.frame) := fun hm => by
    refine (let Gz : Prop := _; (?_ : Gz))
    obtain ⟨_, o, ho, hnf⟩ := hl.mem hm
    k_unfold; clear Gz
    rw [he] at ho; injection ho with ho; subst ho; exact hnf vs hd
  refine wpAny_bind (wpAny_frameOf_fun hfr hl hf fun h₁ hs₁ => ?_)
  refine wpAny_bind (wpAny_entryPlaceOf fun pl hpl => ?_)
  unfold EntryCells.newEntry newFields
  refine wpAny_bind (wpAny_newObj_type ?_ (hpl.sizeOk5 _ _ _ _ _))
  have he₁ : h₁.get? e = some oe := (hs₁.2.1 e hene).trans he
  generalize hts : ([head, .ref L, .none, rawInt L, .none] ++ (if pl.isEmpty then List.replicate 6 Value.none else pl)).toArray = ts
  have h3 : ts[3]? = some (rawInt L) := by rw [← hts]; rfl
  have he₂ := Heap.get?_push_of_some (h := h₁) { cls := .type "traceback", dict := none, data := .fields ts } he₁
  have hTe : h₁.objs.size ≠ e := Nat.ne_of_gt (Heap.lt_size he₁)
  refine wpAny_setField he₂ hd hsz (h _ h₁.objs.size ts (fun b o hb hbf q => ?_) (fun b o hb q => ?_) ?_ ?_ h3 ?_ hTe)
  · exact (Heap.get?_update_other _ _ (Ne.symm hb)).trans (Heap.get?_push_of_some _ ((hs₁.2.1 b hbf).trans q))
  · refine (let Gz : Prop := _; (?_ : Gz))
    obtain ⟨sl, q'⟩ := hs₁.2.2 b o q
    k_unfold; clear Gz
    exact ⟨sl, (Heap.get?_update_other _ _ (Ne.symm hb)).trans (Heap.get?_push_of_some _ q')⟩
  · exact Heap.get?_update_self _ he₂ (Obj.isFreed_of_fields (Obj.data_mapFields hd _))
  · exact (Heap.get?_update_other _ _ (Ne.symm hTe)).trans (Heap.get?_push_size _ rfl)
  · exact Heap.get?_none_of_le (Nat.le_of_eq hs₁.1.symm)

/-- what flies, its parts named -/
structure FliesC (base : Heap) (l : List Env) (kp : List (Addr × Obj)) (e : Addr) (z : Int) (h : Heap) (oe : Obj) (vs : Array Value) (dx : Addr) (od : Obj) : Prop where
  stays : base.StaysIn h
  new : base.get? e = none
  frames : h.FunFrames base l
  kept : ∀ p ∈ kp, (∀ vs, p.2.data ≠ .fields vs) ∧ ∃ sl, h.get? p.1 = some { p.2 with slots := sl }
  he : h.get? e = some oe
  cls : oe.cls = .ref 61
  dict : oe.dict = some dx
  data : oe.data = .fields vs
  size : 1 < vs.size
  nd : base.get? dx = none
  hdx : h.get? dx = some od
  isd : ∃ c d t1 t2 tx ti x, od = excDict c d t1 t2 tx ti x z
  nof : dx ∉ l.filterMap (·.frame)
  apart : ∀ p ∈ kp, p.1 ≠ dx
/-- the traceback that hangs on it -/
noncomputable def HasTb (base : Heap) (e : Addr) (h : Heap) (vs : Array Value) : Prop := ∃ T oT ts fl, vs[1]? = some (.ref T) ∧ base.get? T = none ∧ T ≠ e ∧ h.get? T = some oT ∧ oT.data = .fields ts ∧ ts[3]? = some fl
theorem FliesC.flies {l : List Env} {h : Heap} {oe : Obj} {vs : Array Value} {dx : Addr} {od : Obj} (C : FliesC base l kp e z h oe vs dx od) (T : HasTb base e h vs) : Flies base l kp e z true h :=
  ⟨C.stays, C.new, C.frames, C.kept, xi4 oe vs dx od ⟨C.he, C.cls, C.dict, C.data, C.size, C.nd, C.hdx, C.isd, C.nof, C.apart, .inr T⟩⟩
theorem Flies.parts {l : List Env} {h : Heap} (x : Flies base l kp e z tr h) : ∃ oe vs dx od, FliesC base l kp e z h oe vs dx od ∧ ((vs[1]? = some .none ∧ tr = false) ∨ HasTb base e h vs) := by
  refine (let Gz : Prop := _; (?_ : Gz))
  obtain ⟨f1, f2, f3, f4, oe, vs, dx, od, he, hc, hdi, hd, hsz, hbd, hdx, hod, hnf, hkd, htb⟩ := x
  k_unfold; clear Gz
  exact xi4 oe vs dx od ⟨⟨f1, f2, f3, f4, he, hc, hdi, hd, hsz, hbd, hdx, hod, hnf, hkd⟩, htb⟩
theorem FliesC.noField {l : List Env} {h : Heap} {oe : Obj} {vs : Array Value} {dx T : Addr} {od oT : Obj} {ts : Array Value} (C : FliesC base l kp e z h oe vs dx od) (hT : h.get? T = some oT) (hdT : oT.data = .fields ts) : dx ≠ T := by
  rintro rfl
  refine (let Gz : Prop := _; (?_ : Gz))
  first | (refine ex7 (C.isd) fun _ _ _ _ _ _ _ hod => ?_) | (refine ex6 (C.isd) fun _ _ _ _ _ _ hAz7 => ?_; refine and2 (hAz7) fun _ hod => ?_; clear hAz7) | (refine ex5 (C.isd) fun _ _ _ _ _ hAz7 => ?_; refine and3 (hAz7) fun _ _ hod => ?_; clear hAz7) | (refine ex4 (C.isd) fun _ _ _ _ hAz7 => ?_; refine and4 (hAz7) fun _ _ _ hod => ?_; clear hAz7) | (refine ex3 (C.isd) fun _ _ _ hAz7 => ?_; refine and5 (hAz7) fun _ _ _ _ hod => ?_; clear hAz7) | (refine ex2 (C.isd) fun _ _ hAz7 => ?_; refine and6 (hAz7) fun _ _ _ _ _ hod => ?_; clear hAz7) | (refine ex1 (C.isd) fun _ hAz7 => ?_; refine and7 (hAz7) fun _ _ _ _ _ _ hod => ?_; clear hAz7) | (refine and8 (C.isd) fun _ _ _ _ _ _ _ hod => ?_) | obtain ⟨_, _, _, _, _, _, _, hod⟩ := C.isd
  k_unfold; clear Gz
  have := hT.symm.trans C.hdx
  cases this
  rw [hod] at hdT
  cases hdT
theorem noFld {h : Heap} {b T : Addr} {o oT : Obj} {ts : Array Value} (hT : h.get? T = some oT) (hdT : oT.data = .fields ts) (hb : h.get? b = some o) (hn : ∀ vs, o.data ≠ .fields vs) : b ≠ T := fun q => by
  subst q; cases hT.symm.trans hb; exact hn ts hdT
theorem mf_dict {o : Obj} {f : Array Value → Array Value} {vs : Array Value} {x : Option Addr} (hd : o.data = .fields vs) (hx : o.dict = x) : (Obj.mapFields f o).dict = x := by
  refine (let Gz : Prop := _; (?_ : Gz))
  first | (refine ex3 (o) fun c d dt sl => ?_; clear o) | (refine ex2 (o) fun c d hAz8 => ?_; clear o; refine and2 (hAz8) fun dt sl => ?_; clear hAz8) | (refine ex1 (o) fun c hAz8 => ?_; clear o; refine and3 (hAz8) fun d dt sl => ?_; clear hAz8) | (refine and4 (o) fun c d dt sl => ?_; clear o) | obtain ⟨c, d, dt, sl⟩ := o
  k_unfold; clear Gz
  subst hd
  exact hx
/-- the traceback's entry is changed -/
theorem FliesC.upd {l : List Env} {h : Heap} {oe : Obj} {vs : Array Value} {dx T : Addr} {od oT : Obj} {ts : Array Value} {f : Obj → Obj} (C : FliesC base l kp e z h oe vs dx od) (hT : h.get? T = some oT) (hdT : oT.data = .fields ts) (hnT : base.get? T = none) (hTe : T ≠ e) :
    FliesC base l kp e z (h.update T f) oe vs dx od ∧ h.UpToSlots (h.update T f) := by
  have other : ∀ b o, b ≠ T → h.get? b = some o → (h.update T f).get? b = some o := fun b o hb q => (Heap.get?_update_other _ _ (Ne.symm hb)).trans q
  have up : h.UpToSlots (h.update T f) := fun b o hb hn => ⟨o.slots, other b o (noFld hT hdT hb hn) hb⟩
  exact ⟨⟨fun b o hb => other b o (fun q => by rw [q, hnT] at hb; cases hb) (C.stays b o hb), C.new, C.frames.of_keeps fun b o hb hn => ⟨o, other b o (noFld hT hdT hb hn) hb, rfl⟩, kept_up C.kept up, other e _ (Ne.symm hTe) C.he, C.cls, C.dict, C.data, C.size, C.nd, other dx _ (C.noField hT hdT) C.hdx, C.isd, C.nof, C.apart⟩, up⟩
/-- a new entry is hung on it -/
theorem note_end {oe : Obj} {vs : Array Value} {dx : Addr} {od : Obj} {head : Value} {hadNext : Bool} {Q : Unit → Shared → Prop} (hfr : A.frames = some (env :: outer)) (hf : env.frame = some L) (C : FliesC base (env :: outer) kp e z s.heap oe vs dx od)
    (hQ : ∀ h', Flies base (env :: outer) kp e z true h' → s.heap.UpToSlots h' → Q () { s with heap := h' }) :
    wpAny M A (do let a ← frameOf env; let pl ← entryPlaceOf L hadNext; let b ← EntryCells.newEntry head a .none (rawInt L) .none pl; setField (.ref e) 1 b) Q E s := by
  refine entry_any hfr C.frames hf C.he C.data C.size fun H T ts k1 k2 k3 k4 k5 k6 k7 => ?_
  have hup : s.heap.UpToSlots H := fun b o hb hn => k2 b o (noFld C.he C.data hb hn) hb
  have hdxe : dx ≠ e := C.noField C.he C.data
  have C' : FliesC base (env :: outer) kp e z H _ _ dx od := ⟨fun b o hb => k1 b o (fun q => by rw [q, C.new] at hb; cases hb) (fun hm => by rw [(C.frames.mem hm).1] at hb; cases hb) (C.stays b o hb), C.new,
    C.frames.of_keeps fun b o hb hn => (hup b o hb hn).elim fun sl q => ⟨_, q, rfl⟩, kept_up C.kept hup, k3, (Obj.cls_mapFields _ _).trans C.cls, mf_dict C.data C.dict, Obj.data_mapFields C.data _, by simpa using C.size, C.nd, k1 dx od hdxe C.nof C.hdx, C.isd, C.nof, C.apart⟩
  refine hQ H (C'.flies (xi4 T _ ts _ ⟨by simp [C.size], ?_, k7, k4, rfl, k5⟩)) hup
  cases q : base.get? T with
  | none => rfl
  | some o => exact nomatch k6.symm.trans (C.stays T o q)

theorem note_flies {Q : Unit → Shared → Prop} (hfr : A.frames = some (env :: outer)) (hf : env.frame = some L) (x : Flies base (env :: outer) kp e z tr s.heap)
    (hQ : ∀ h', Flies base (env :: outer) kp e z true h' → s.heap.UpToSlots h' → Q () { s with heap := h' }) : wpAny M A (noteFrame (.ref e) env) Q E s := by
  refine (let Gz : Prop := _; (?_ : Gz))
  first | (refine ex5 (x.parts) fun oe vs dx od C htb => ?_) | (refine ex4 (x.parts) fun oe vs dx od hAz9 => ?_; refine and2 (hAz9) fun C htb => ?_; clear hAz9) | (refine ex3 (x.parts) fun oe vs dx hAz9 => ?_; refine and3 (hAz9) fun od C htb => ?_; clear hAz9) | (refine ex2 (x.parts) fun oe vs hAz9 => ?_; refine and4 (hAz9) fun dx od C htb => ?_; clear hAz9) | (refine ex1 (x.parts) fun oe hAz9 => ?_; refine and5 (hAz9) fun vs dx od C htb => ?_; clear hAz9) | (refine and6 (x.parts) fun oe vs dx od C htb => ?_) | obtain ⟨oe, vs, dx, od, C, htb⟩ := x.parts
  k_unfold; clear Gz
  unfold noteFrame
  simp only [hf]
  rcases htb with ⟨h1, _⟩ | htb
  · refine wpAny_bind (wpAny_field C.he C.data h1 ?_)
    rw [if_neg (by decide)]
    exact note_end hfr hf C hQ
  · refine (let Gz : Prop := _; (?_ : Gz))
    first | (refine ex9 (id htb) fun T oT ts fl h1 hnT hTe hT hdT h3 => ?_) | (refine ex8 (id htb) fun T oT ts fl h1 hnT hTe hT hAz10 => ?_; refine and2 (hAz10) fun hdT h3 => ?_; clear hAz10) | (refine ex7 (id htb) fun T oT ts fl h1 hnT hTe hAz10 => ?_; refine and3 (hAz10) fun hT hdT h3 => ?_; clear hAz10) | (refine ex6 (id htb) fun T oT ts fl h1 hnT hAz10 => ?_; refine and4 (hAz10) fun hTe hT hdT h3 => ?_; clear hAz10) | (refine ex5 (id htb) fun T oT ts fl h1 hAz10 => ?_; refine and5 (hAz10) fun hnT hTe hT hdT h3 => ?_; clear hAz10) | (refine ex4 (id htb) fun T oT ts fl hAz10 => ?_; refine and6 (hAz10) fun h1 hnT hTe hT hdT h3 => ?_; clear hAz10) | (refine ex3 (id htb) fun T oT ts hAz10 => ?_; refine and7 (hAz10) fun fl h1 hnT hTe hT hdT h3 => ?_; clear hAz10) | (refine ex2 (id htb) fun T oT hAz10 => ?_; refine and8 (hAz10) fun ts fl h1 hnT hTe hT hdT h3 => ?_; clear hAz10) | (refine ex1 (id htb) fun T hAz10 => ?_; refine and9 (hAz10) fun oT ts fl h1 hnT hTe hT hdT h3 => ?_; clear hAz10) | (refine and10 (id htb) fun T oT ts fl h1 hnT hTe hT hdT h3 => ?_) | obtain ⟨T, oT, ts, fl, h1, hnT, hTe, hT, hdT, h3⟩ := id htb
    k_unfold; clear Gz
    refine wpAny_bind (wpAny_field C.he C.data h1 ?_)
    rw [if_pos (show (Value.ref T != Value.none) = true from by simp)]
    refine wpAny_bind (wpAny_field hT hdT h3 ?_)
    by_cases hfl : (fl == rawInt L) = true
    · rw [if_pos hfl]
      exact wpAny_pure (hQ s.heap (C.flies htb) (Heap.UpToSlots.refl _))
    · rw [if_neg hfl]
      refine wpAny_bind (wpAny_setField hT hdT (Array.getElem?_eq_some_iff.mp h3).1 ?_)
      refine (let Gz : Prop := _; (?_ : Gz))
      obtain ⟨C', up⟩ := C.upd (f := Obj.mapFields (·.setIfInBounds 3 Value.none)) hT hdT hnT hTe
      k_unfold; clear Gz
      exact note_end (s := { s with heap := _ }) hfr hf C' fun h' x' up' => hQ h' x' (up.trans up')

theorem flight_flies {fr : Option Addr} {Q : Unit → Shared → Prop} (x : Flies base outer kp e z true s.heap)
    (hQ : ∀ h', Flies base outer kp e z true h' → s.heap.UpToSlots h' → Q () { s with heap := h' }) : wpAny M A (setFlight (.ref e) fr) Q E s := by
  refine (let Gz : Prop := _; (?_ : Gz))
  first | (refine ex5 (x.parts) fun oe vs dx od C htb => ?_) | (refine ex4 (x.parts) fun oe vs dx od hAz11 => ?_; refine and2 (hAz11) fun C htb => ?_; clear hAz11) | (refine ex3 (x.parts) fun oe vs dx hAz11 => ?_; refine and3 (hAz11) fun od C htb => ?_; clear hAz11) | (refine ex2 (x.parts) fun oe vs hAz11 => ?_; refine and4 (hAz11) fun dx od C htb => ?_; clear hAz11) | (refine ex1 (x.parts) fun oe hAz11 => ?_; refine and5 (hAz11) fun vs dx od C htb => ?_; clear hAz11) | (refine and6 (x.parts) fun oe vs dx od C htb => ?_) | obtain ⟨oe, vs, dx, od, C, htb⟩ := x.parts
  k_unfold; clear Gz
  rcases htb with ⟨_, h⟩ | ⟨T, oT, ts, fl, h1, hnT, hTe, hT, hdT, h3⟩
  · cases h
  unfold setFlight
  refine wpAny_bind (wpAny_field C.he C.data h1 ?_)
  rw [if_pos (show (Value.ref T != Value.none) = true from by simp)]
  have h3s := (Array.getElem?_eq_some_iff.mp h3).1
  refine wpAny_setField hT hdT h3s ?_
  refine (let Gz : Prop := _; (?_ : Gz))
  obtain ⟨C', up⟩ := C.upd (f := Obj.mapFields (·.setIfInBounds 3 (fr.elim .none fun f => rawInt f))) hT hdT hnT hTe
  k_unfold; clear Gz
  exact hQ _ (C'.flies (xi4 T _ _ _ ⟨h1, hnT, hTe, Heap.get?_update_self _ hT (Obj.isFreed_of_fields (Obj.data_mapFields hdT _)), Obj.data_mapFields hdT _, by simp [h3s]; exact rfl⟩)) up

theorem leave_flies {Q : Unit → Shared → Prop} (hfr : A.frames = some (env :: outer)) (hf : env.frame = some L) (x : Flies base (env :: outer) kp e z tr s.heap)
    (hQ : ∀ h', Flies base outer kp e z true h' → s.heap.UpToSlots h' → Q () { s with heap := h' }) : wpAny M A (leaving env (.ref e)) Q E s := by
  unfold leaving
  refine wpAny_bind (note_flies hfr hf x fun h1 x1 u1 => ?_)
  exact flight_flies (s := { s with heap := h1 }) x1 fun h2 x2 u2 => hQ h2 x2.tail (u1.trans u2)
end
end Mine
end
section
namespace Mine
theorem reset_X4 : True := by
  w_top off
  exact trivial
local macro_rules | `(tactic| k_room) => `(tactic| ktr_room)

noncomputable def Errs (base h₀ : Heap) (kp : List (Addr × Obj)) (env : Env) (outer : List Env) (L : Addr) (m : Str → Option Value) (E : Value → Shared → Prop) (s : Shared) (z : Int) : Prop :=
  ∀ e h' tk' tr, Flies base (env :: outer) kp e z tr h' → h₀.UpToSlots h' → h'.Ns L m → E (.ref e) { s with heap := h', toks := tk' }

noncomputable def KeptIn (kp news : List (Addr × Obj)) : Prop := (∀ p ∈ kp, p ∈ news) ∧ ∀ p ∈ kp, ∀ vs, p.2.data ≠ .fields vs

noncomputable def RaisableT (w : World) (E : Value → Shared → Prop) (v : Value) (s₁ : Shared) : Prop :=
  ∃ a t d, v = .ref a ∧ s₁.heap.get? a = some (excObj t d) ∧ (hd.heap_39 w.params).In s₁.heap ∧ E (.ref a) s₁

section
variable {M : Model} {A : Around} {E : Value → Shared → Prop} {s : Shared} {base g h₀ : Heap} {env env' : Env} {outer : List Env} {L L' e : Addr} {z : Int} {m m' : Str → Option Value} {w : World} {kp : List (Addr × Obj)}
theorem errs_in {E₂ : Value → Shared → Prop} {h1 : Heap} {t1 : Nat} (FG : Fr h₀ L g m) (hfr : A.frames = some (env' :: env :: outer)) (hf : env'.frame = some L') (H : Errs base h₀ kp env outer L m E s z) :
    Errs base g kp env' (env :: outer) L' m' (fun e s' => wpAny M A (leaving env' e) (fun _ s'' => E e s'') E₂ s') { s with heap := h1, toks := t1 } z := by
  intro e h' tk' tr x up _
  refine leave_flies hfr hf x fun h2 x2 u2 => ?_
  exact H e h2 _ true x2 ((Heap.UpToSlots.of_keeps FG.keep).trans (up.trans u2)) ((up.trans u2).ns FG.ns)

theorem flies_made {A₀ : Around} {t dx : Addr} {c d : Int} {t1 t2 tx ti : Tok} {x : Str} {h' : Heap} {news : List (Addr × Obj)} (B : Below A₀ base outer g) (F : Fr g L' h' m') (N : News g L' h' ((e, excObj t (some dx)) :: (dx, excDict c d t1 t2 tx ti x z) :: news))
    (hkp : ∀ p ∈ kp, p ∈ news) (hnf : ∀ p ∈ kp, ∀ vs, p.2.data ≠ .fields vs) (hnd : ∀ p ∈ news, p.1 ≠ dx) (hf : env'.frame = some L') (hk : env'.scope.kind = .function) : Flies base (env' :: outer) kp e z false h' := by
  have e1 := N _ (List.Mem.head _)
  have e2 := N _ (.tail _ (List.Mem.head _))
  dsimp only at e1 e2
  refine ⟨fun b o hb => F.keep b o (B.stays b o hb), fresh_of_stays B.stays e1.2.2, (pushX B F hf hk).frames, fun p hp => ⟨hnf p hp, p.2.slots, (N p (.tail _ (.tail _ (hkp p hp)))).1⟩, xi4 _ _ dx _ ⟨e1.1, rfl, rfl, rfl, by show 1 < 6; decide, fresh_of_stays B.stays e2.2.2, e2.1, (xi7 _ _ _ _ _ _ _ rfl), fun hm => ?_, fun p hp => hnd p (hkp p hp), .inl ⟨rfl, rfl⟩⟩⟩
  rw [List.filterMap_cons, hf] at hm
  rcases List.mem_cons.mp hm with q | hm
  · exact e2.2.1 q
  · obtain ⟨_, o, ho, _⟩ := B.frames.mem hm
    rw [e2.2.2] at ho; cases ho

set_option maxHeartbeats 1000000 in
theorem raise_own {x : PySem.Expr} {pos : Pos} {Q : Flow → Shared → Prop} (hh : A.handled = none)
    (h : wpAny (model PySem.Challenge.rw_nu0165_01.row.prog w) A (eval x env) (RaisableT w E) E s) : wpAny (model PySem.Challenge.rw_nu0165_01.row.prog w) A (exec (.Raise (some x) none pos) env) Q E s := by
  show wpAny _ A (do standAt pos; raiseStmt env (some (do let v ← eval x env; standAt pos; pure v)) none) Q E s
  refine wpAny_bind (wpAny_standAt ?_)
  unfold raiseStmt
  dsimp only
  refine wpAny_bind (wpAny_bind (wpAny_mono h (fun v s₁ h₁ => wpAny_bind (wpAny_standAt (wpAny_pure ?_))) fun _ _ x => x))
  obtain ⟨a, t, d, rfl, ha, X, hE⟩ := h₁
  obtain ⟨hh', g, dr, tk, os⟩ := s₁
  have f1 : Looks (model PySem.Challenge.rw_nu0165_01.row.prog w) hh' (isSubtype (.ref 61) (.type "BaseException")) true := look X (by kernel_rfl)
  have f2 : Looks (model PySem.Challenge.rw_nu0165_01.row.prog w) hh' (typeOf (.ref 61)) (.type "type") := look X (by kernel_rfl)
  have f3 : Looks (model PySem.Challenge.rw_nu0165_01.row.prog w) hh' (typeOf (.ref a)) (.ref 61) := (Looks.ld ha).andThen .now
  dsimp only at ha
  have fin : wpAny (model PySem.Challenge.rw_nu0165_01.row.prog w) A (setFlight (.ref a) none) (fun _ s' => wpAny (model PySem.Challenge.rw_nu0165_01.row.prog w) A (raiseNew (.ref a)) Q E s') E ⟨hh', g, dr, tk, os⟩ := by
    unfold setFlight raiseNew
    refine wpAny_bind (wpAny_field ha rfl (x := .none) rfl ?_)
    rw [if_neg (by decide)]
    refine wpAny_pure (wpAny_bind (wpAny_handled ?_))
    rw [hh]
    first
      | exact wpAny_throw hE
      | exact wpAny_bind (wpAny_pure (wpAny_throw hE))
  generalize hS : setFlight = S at fin ⊢
  repeat lk
  exact fin
end
noncomputable abbrev backR (Q E : Value → Shared → Prop) (r : Result) (s' : Shared) : Prop := match r with | .ok (.ret v) => Q v s' | .ok _ => False | .error e => E e s'

section
variable {w : World} {dp un : Nat} {gd : Option (List Code)} {cn : Str} {cs : Scope} {a : Addr} {ccd : Value} {cl : List (Str × Addr)} {outer : List Env} {A₀ : Around} {base h₀ : Heap} {L : Addr} {m : Str → Option Value} {s : Shared} {Q E : Value → Shared → Prop} {p : Program} {loose : List Str} {mean : ExcName → Option Value} {mg mb : Str → Option Value} {news : List (Addr × Obj)}

theorem enter {name qual : Str} {params : Arguments} {body : List Stmt} {scope : Scope} {dV kV doc pm cdv ct oc : Value} {an od : Option Addr} {osl : Array (Option Value)} {f : Addr} {vs : List Value} (binds : List (Str × Value))
    (B : Below A₀ base outer h₀) (F : Fr h₀ L s.heap m) (X : (hd.heap_39 w.params).In h₀) (N : News h₀ L s.heap news) (T : Top p loose mean mg mb h₀) (hk : cs.kind = .function)
    (ho : (hd.heap_39 w.params).lookup f = some ⟨oc, od, .func (fnOf name qual params body scope dV kV doc pm an cdv ct), osl⟩) (hcd : codeIn (hd.heap_39 w.params) cdv qual = true) (hroom : dp < recursionLimit)
    (hbind : BindsTo s (fnOf name qual params body scope dV kV doc pm an cdv ct) ⟨vs, []⟩ binds) (hloc : (binds.all fun x => decide (scope.names.lookup x.1 = some .local)) = true)
    (hco : scope.isCoroutine = false) (hgen : scope.isGenerator = false) (hks : scope.kind = .function) (hcell : ∀ x ∈ scope.names, x.2 ≠ .cell)
    (h : ∀ g L' h₁ E', Fr h₀ L g m → Fr g L' h₁ (fun y => binds.reverse.lookup y) → News g L' h₁ news → Below (ktrTop dp un gd cn cs L a ccd cl outer) base (envX cn cs L a ccd cl :: outer) g → (hd.heap_39 w.params).In g → Top p loose mean mg mb g →
      PassesOwn (model PySem.Challenge.rw_nu0165_01.row.prog w) (ktrTop (dp + 1) (un + 3) gd qual scope L' f cdv [] (envX cn cs L a ccd cl :: outer)) (envX qual scope L' f cdv []) E' →
      (∀ kp z h1 t1 m', Errs base h₀ kp (envX cn cs L a ccd cl) outer L m E s z → Errs base g kp (envX qual scope L' f cdv []) (envX cn cs L a ccd cl :: outer) L' m' E' { s with heap := h1, toks := t1 } z) →
      wpAny (model PySem.Challenge.rw_nu0165_01.row.prog w) (ktrTop (dp + 1) (un + 3) gd qual scope L' f cdv [] (envX cn cs L a ccd cl :: outer)) (execs body (envX qual scope L' f cdv []))
        (fun fl s' => LeaveK h₀ L m g (backR Q E) (match fl with | .ret v => v | _ => .none) s') E' { s with heap := h₁, toks := s.toks + binds.length }) :
    wpAny (model PySem.Challenge.rw_nu0165_01.row.prog w) (ktrTop dp un gd cn cs L a ccd cl outer) (call (.ref f) vs) Q E s := by
  refine wpAny_call (code_def (A := ktrTop dp un gd cn cs L a ccd cl outer) (env := envX cn cs L a ccd cl) (outer := outer) (binds := binds) B F X N T rfl rfl hk ho hcd hroom hbind (locs hloc) (fun g L' h₁ FG F' N' B' X' T' => ?_) hco hgen hks hcell)
  exact h g L' h₁ _ FG F' N' B' X' T' PassesOwn.leaving fun kp z h1 t1 m' H => errs_in FG rfl rfl H

theorem raised {g : Heap} {L' e t dx : Addr} {h' : Heap} {env' : Env} {E' : Value → Shared → Prop} {m' : Str → Option Value} {c d : Int} {t1 t2 tx ti : Tok} {x : Str} {z : Int} {s₁ : Shared} {A₁ : Around} {env : Env} {kp : List (Addr × Obj)}
    (B' : Below A₁ base (env :: outer) g) (F' : Fr g L' h' m') (X' : (hd.heap_39 w.params).In g) (N' : News g L' h' ((e, excObj t (some dx)) :: (dx, excDict c d t1 t2 tx ti x z) :: news))
    (hkp : KeptIn kp news) (hnd : ∀ p ∈ news, p.1 ≠ dx) (hf : env'.frame = some L') (hk : env'.scope.kind = .function) (H : Errs base g kp env' (env :: outer) L' m' E' s₁ z) (tk' : Nat) : RaisableT w E' (.ref e) { s₁ with heap := h', toks := tk' } :=
  ⟨e, t, some dx, rfl, (N' _ (List.Mem.head _)).1, X'.keeps F'.keep, H e h' tk' false (flies_made B' F' N' hkp.1 hkp.2 hnd hf hk) (Heap.UpToSlots.of_keeps F'.keep) F'.ns⟩

local macro_rules | `(tactic| walk_at "exec Raise some none") => `(tactic| (k_here; refine raise_own rfl ?_))
local macro_rules | `(tactic| walk_at "call ref") => `(tactic| (k_here; (with_reducible show wpAny _ _ (call (Value.ref 61) [Value.str _ _, Value.int _ _]) _ _ _); k_dflt (refine' fault_made ?k1 ?k2 ?k3 ?k4 ?k5 ?kK ?kd ?ku _ _ _ _ ?_; (case k1 => k_asm); (case k2 => k_asm); (case k3 => k_asm); (case k4 => k_asm); (case k5 => k_asm); (case kK => exact rfl); (case kd => ktr_room); (case ku => ktr_units); intro h' tk' e t dx c d t1 t2 F' N' nd')))
-- the entry of a def, by my own rule
local macro_rules | `(tactic| walk_at "m_enter") => `(tactic| (k_dflt (refine' enter _ ?k1 ?k2 ?k3 ?k4 ?k5 ?kK ?k6 ?k7 ?k8 ?k9 ?kB ?c2 ?c3 ?c4 ?c5 ?_; (case k1 => assumption); (case k2 => assumption); (case k3 => assumption); (case k4 => assumption); (case k5 => assumption); (case kK => assumption); (case k6 => k_is); (case k7 => k_is); (case k8 => ktr_room); (case k9 => exact BindsTo.of_eq rfl); (case kB => exact rfl); (case c2 => exact rfl); (case c3 => exact rfl); (case c4 => exact rfl); (case c5 => decide))))

set_option maxHeartbeats 4000000 in
theorem check_room_spec (B : Below A₀ base outer h₀) (F : Fr h₀ L s.heap m) (X : (hd.heap_39 w.params).In h₀) (N : News h₀ L s.heap news) (T : Top p loose mean mg mb h₀) (hk : cs.kind = .function)
    (hd : dp + 10 < recursionLimit) (hu : un + 100 < cLine) {kp : List (Addr × Obj)} (hkp : KeptIn kp news)
    (b : Array UInt8) (tb : Tok) (D : List Int) (hD : KBw.bInts b = D) (hsz : D.length ≤ 4000) (i : Int) (ti : Tok) (c : Int) (tc : Tok)
    (hok : ¬ (i < 0 ∨ i + c > D.length) → ∀ h' tk', Fr h₀ L h' m → News h₀ L h' news → Q .none { s with heap := h', toks := tk' })
    (herr : (i < 0 ∨ i + c > D.length) → Errs base h₀ kp (envX cn cs L a ccd cl) outer L m E s i) :
    wpAny (model PySem.Challenge.rw_nu0165_01.row.prog w) (ktrTop dp un gd cn cs L a ccd cl outer) (call (.ref 96) [.bytes b tb, .int i ti, .int c tc]) Q E s := by
  k_dflt (refine' enter [("data", .bytes b tb), ("at", .int i ti), ("count", .int c tc)] B F X N T hk ?k6 ?k7 ?k8 ?k9 ?kB ?c2 ?c3 ?c4 ?c5 ?_; (case k6 => k_is); (case k7 => k_is); (case k8 => ktr_room); (case k9 => exact BindsTo.of_eq rfl); (case kB => exact rfl); (case c2 => exact rfl); (case c3 => exact rfl); (case c4 => exact rfl); (case c5 => decide))
  intro g L' h₁ E' FG F' N' B' X' T' hP hE
  try dsimp only
  try k_fold
  k_steps
  · exact raised B' (by assumption) X' (by assumption) hkp (by assumption) rfl rfl (hE _ _ h₁ 0 _ (herr (by (first | lia | omega)))) _
  · exact raised B' (by assumption) X' (by assumption) hkp (by assumption) rfl rfl (hE _ _ h₁ 0 _ (herr (by (first | lia | omega)))) _
  · exact hok (by (first | lia | omega)) _ _ (by assumption) (by assumption)
end
end Mine
end
section
open PyProof.Rows.LCg
namespace Mine
theorem reset_Y0 : True := by
  w_top off
  exact trivial
noncomputable def FlyE (base h₀ : Heap) (kp : List (Addr × Obj)) (env : Env) (outer : List Env) (L : Addr) (m : Str → Option Value) (s : Shared) (Z : Int → Prop) (v : Value) (s' : Shared) : Prop :=
  ∃ e h' tk' tr z, v = .ref e ∧ s' = { s with heap := h', toks := tk' } ∧ Flies base (env :: outer) kp e z tr h' ∧ h₀.UpToSlots h' ∧ h'.Ns L m ∧ Z z
theorem errs_fly {base h₀ : Heap} {kp : List (Addr × Obj)} {env : Env} {outer : List Env} {L : Addr} {m : Str → Option Value} {s : Shared} {Z : Int → Prop} {z : Int} {h1 : Heap} {t1 : Nat} (hZ : Z z) : Errs base h₀ kp env outer L m (FlyE base h₀ kp env outer L m s Z) { s with heap := h1, toks := t1 } z :=
  fun e h' tk' tr x u n => (xi5 e h' tk' tr z ⟨rfl, rfl, x, u, n, hZ⟩)
theorem noteFrame_congr {e : Value} {env env' : Env} (h : env'.frame = env.frame) : noteFrame e env' = noteFrame e env := by
  unfold noteFrame PySem.frameOf
  rw [h]
theorem frames_but {base h h' : Heap} {C : Addr} (hs : Heap.SameBut C h h') : ∀ {l : List Env}, C ∉ l.filterMap (·.frame) → h.FunFrames base l → h'.FunFrames base l
  | [], _, _ => trivial
  | env :: rest, hm, ⟨hk, ⟨L, o, hf, hn, ho, hd⟩, hr⟩ => by
    rw [List.filterMap_cons, hf] at hm
    exact ⟨hk, ⟨L, o, hf, hn, hs.extBut _ _ (fun q => hm (q ▸ List.mem_cons_self)) ho, hd⟩, frames_but hs (fun q => hm (List.mem_cons_of_mem _ q)) hr⟩
/-- another object is changed: the one in flight stands -/
theorem Flies.but {base : Heap} {l : List Env} {C : Addr} {oC : Obj} {kp : List (Addr × Obj)} {e : Addr} {z : Int} {tr : Bool} {h h' : Heap} {m : Str → Option Value} (x : Flies base l ((C, oC) :: kp) e z tr h) (hs : Heap.SameBut C h h') (hC : base.get? C = none) (off : ∀ p ∈ kp, p.1 ≠ C) (hn : h.Ns C m) (hCl : C ∉ l.filterMap (·.frame)) : Flies base l kp e z tr h' := by
  refine (let Gz : Prop := _; (?_ : Gz))
  obtain ⟨f1, f2, f3, f4, oe, vs, dx, od, he, hc, hdi, hd, hsz, hbd, hdx, hod, hnf, hkd, htb⟩ := x
  k_unfold; clear Gz
  refine (let Gz : Prop := _; (?_ : Gz))
  (refine ex3 (hn) fun oc es ep hAz14 => ?_; clear hn; refine and3 (hAz14) fun hoc hdc _ => ?_; clear hAz14)
  k_unfold; clear Gz
  have notC : ∀ b o ws, h.get? b = some o → o.data = .fields ws → b ≠ C := fun b o ws hb hw q => by
    subst q; rw [hoc] at hb; cases hb; rw [hdc] at hw; cases hw
  refine ⟨fun b o hb => hs.extBut b o (fun q => by rw [q, hC] at hb; cases hb) (f1 b o hb), f2, frames_but hs hCl f3, fun p hp => ?_, xi4 oe vs dx od ⟨hs.extBut _ _ (notC _ _ _ he hd) he, hc, hdi, hd, hsz, hbd, hs.extBut _ _ (Ne.symm (hkd _ (List.Mem.head _))) hdx, hod, hnf, fun p hp => hkd p (.tail _ hp), ?_⟩⟩
  · refine (let Gz : Prop := _; (?_ : Gz))
    obtain ⟨nf, sl, q⟩ := f4 p (.tail _ hp)
    k_unfold; clear Gz
    exact ⟨nf, sl, hs.extBut _ _ (off p hp) q⟩
  · rcases htb with q | ⟨T, oT, ts, fl, h1, hnT, hTe, hT, hdT, h3⟩
    · exact .inl q
    · exact .inr (xi4 T oT ts fl ⟨h1, hnT, hTe, hs.extBut _ _ (notC _ _ _ hT hdT) hT, hdT, h3⟩)
theorem notframe {base h₀ : Heap} {A₀ : Around} {env : Env} {outer : List Env} {C L : Addr} (B : Below A₀ base outer h₀) (hf : env.frame = some L) (hL : C ≠ L) (hC : h₀.get? C = none) : C ∉ (env :: outer).filterMap (·.frame) := fun hm => by
  rw [List.filterMap_cons, hf] at hm
  rcases List.mem_cons.mp hm with q | hm
  · exact hL q
  · refine (let Gz : Prop := _; (?_ : Gz))
    obtain ⟨_, o, ho, _⟩ := B.frames.mem hm
    k_unfold; clear Gz
    rw [ho] at hC; cases hC

section
variable {prog : Program} {w : World} {A A₀ : Around} {E : Value → Shared → Prop} {s : Shared} {base h₀ : Heap} {L : Addr} {m : Str → Option Value} {env : Env} {outer : List Env}
/-- what leaves a block by a fault -/
theorem block_err {cenv : Env} {C : Addr} {oC : Obj} {m₂ : Str → Option Value} {kp : List (Addr × Obj)} {s₃ : Shared} {Z : Int → Prop} {use : Option (Value → Sem Unit)} {Q : Value → Shared → Prop} {acc : Value}
    (B : Below A₀ base outer h₀) (hfr : A.frames = some (env :: outer)) (hf : env.frame = some L) (hcf : cenv.frame = env.frame) (hoC : NsObj oC m₂) (hCL : C ≠ L) (hC₀ : h₀.get? C = none) (hL₀ : h₀.get? L = none) (offC : ∀ p ∈ kp, p.1 ≠ C)
    (hEr : ∀ z, Z z → Errs base h₀ kp env outer L m E s₃ z) (e : Value) (s' : Shared) (h : FlyE base h₀ ((C, oC) :: kp) env outer L m s₃ Z e s') :
    notedBy (model prog w) A cenv (fun e s' => compPost (model prog w) A E use Q acc C (.error e) s') e s' := by
  refine (let Gz : Prop := _; (?_ : Gz))
  (refine ex5 (h) fun e h' tk' tr z hAz17 => ?_; clear h; refine and6 (hAz17) fun hEz17_5 hEz17_6 x u n hZ => ?_; clear hAz17; subst hEz17_5; subst hEz17_6)
  k_unfold; clear Gz
  unfold notedBy
  rw [noteFrame_congr hcf]
  refine note_flies hfr hf x fun h1 x1 u1 => ?_
  have hnC : h1.Ns C m₂ := by
    refine (let Gz : Prop := _; (?_ : Gz))
    obtain ⟨_, sl, q⟩ := x1.kept _ (List.Mem.head _)
    k_unfold; clear Gz
    refine (let Gz : Prop := _; (?_ : Gz))
    (refine ex2 (hoC) fun es ep hAz19 => ?_; clear hoC; refine and2 (hAz19) fun hd r => ?_; clear hAz19)
    k_unfold; clear Gz
    exact ⟨_, es, ep, q, hd, r⟩
  have hbC : base.get? C = none := by
    cases q : base.get? C with
    | none => rfl
    | some o => rw [B.stays _ _ q] at hC₀; cases hC₀
  have hn1 := u1.ns n
  refine ⟨m₂, hnC, fun h2 hs2 cenv' _ => ?_⟩
  have x2 := x1.but hs2 hbC offC hnC (notframe B hf hCL hC₀)
  have u2 : h₀.UpToSlots h2 := fun b o hb hnf => by
    refine (let Gz : Prop := _; (?_ : Gz))
    obtain ⟨sl, q⟩ := (u.trans u1) b o hb hnf
    k_unfold; clear Gz
    exact ⟨sl, hs2.extBut _ _ (fun q' => by rw [q', hC₀] at hb; cases hb) q⟩
  have hn2 : h2.Ns L m := hn1.at' fun o q => hs2.extBut _ _ (Ne.symm hCL) q
  unfold PySem.passOn
  refine (let Gz : Prop := _; (?_ : Gz))
  obtain ⟨f1, f2, f3, f4, oe, vs, dx, od, he, hc, hdi, hd, hsz, hbd, hdx, hod, hnf, hkd, htb⟩ := id x2
  k_unfold; clear Gz
  rcases htb with ⟨_, hb⟩ | ⟨T, oT, ts, fl, h1', hnT, hTe, hT, hdT, h3⟩
  · cases hb
  refine wpAny_bind (wpAny_field he hd h1' ?_)
  rw [if_neg (by simp)]
  refine wpAny_bind (flight_flies (s := { s₃ with heap := h2, toks := tk' }) x2 fun h3 x3 u3 => ?_)
  exact wpAny_throw (hEr z hZ e h3 tk' true x3 (u2.trans u3) (u3.ns hn2))

/-- the places of a block: the iterator, its frame, its list -/
structure BlkF (h₀ : Heap) (fp : List Addr) (L I C D : Addr) : Prop where
  CI : @Ne Nat I C
  DI : @Ne Nat I D
  DC : @Ne Nat D C
  CL : @Ne Nat C L
  DL : @Ne Nat D L
  C0 : h₀.get? C = none
  D0 : h₀.get? D = none
  Cf : C ∉ fp
  Df : D ∉ fp
  IL : @Ne Nat L I
  I0 : h₀.get? I = none
/-- how a block stands between two turns -/
noncomputable def BlkI (h₀ : Heap) (L I C D : Addr) (m : Str → Option Value) (n : Nat) (St : Nat → Heap → Prop) (J : Nat → List Value → List (Addr × Obj) → Prop) (s₂ : Shared) (k : Nat) (s' : Shared) : Prop :=
  ∃ h' tk i ys m' news', s' = { s₂ with heap := h', toks := tk } ∧ i ≤ n ∧ k = n + 1 - i ∧ ys.length = i ∧ St i h' ∧ Fr h₀ L h' m ∧ h'.Ns C m' ∧ News h₀ L h' ((D, lst ys) :: news') ∧ Off3 I C D news' ∧ J i ys news'
theorem news_on {h₀ h : Heap} {L a : Addr} {o : Obj} {l : List (Addr × Obj)} (h1 : h.get? a = some o) (h2 : a ≠ L) (h3 : h₀.get? a = none) (N : News h₀ L h l) : News h₀ L h ((a, o) :: l) := fun p hp => by
  rcases List.mem_cons.mp hp with rfl | hp
  · exact ⟨h1, h2, h3⟩
  · exact N p hp
theorem news_off3 {h₀ h h' : Heap} {L I C D : Addr} {oD : Obj} {l : List (Addr × Obj)} (N : News h₀ L h ((D, oD) :: l)) (hDC : @Ne Nat D C) (off : Off3 I C D l) (old : ∀ b o, b ≠ C → h.get? b = some o → h'.get? b = some o) : News h₀ L h' ((D, oD) :: l) :=
  fun p hp => ⟨old _ _ ((List.forall_mem_cons.mpr ⟨hDC, fun p hp => (off.mem p hp).2.1⟩ : ∀ p ∈ (D, oD) :: l, p.1 ≠ C) p hp) (N p hp).1, (N p hp).2⟩
section
variable {s₂ : Shared} {I C D : Addr} {fp : List Addr} {n : Nat} {P : Nat → Value → Prop} {St : Nat → Heap → Prop} {S : List (Addr × Obj) → Prop} {news kp : List (Addr × Obj)} {J : Nat → List Value → List (Addr × Obj) → Prop} {Z : Int → Prop} {use : Option (Value → Sem Unit)} {Q : Value → Shared → Prop}
theorem blk_step {X : Value → Shared → Prop} {R : Shared → Prop} {Eq' : Value → Shared → Prop} {k : Nat} {s' : Shared} (W : Walks prog w A I fp [I] n P St) (G : BlkF h₀ fp L I C D) (hI : BlkI h₀ L I C D m n St J s₂ k s')
    (item : ∀ i v ys m' news' h tk, i < n → k = n + 1 - i → ys.length = i → P i v → St (i + 1) h → Fr h₀ L h m → h.Ns C m' → News h₀ L h ((D, lst ys) :: news') → Off3 I C D news' → J i ys news' → X v { s₂ with heap := h, toks := tk })
    (done : ∀ ys m' news' h tk, Fr h₀ L h m → h.Ns C m' → News h₀ L h ((D, lst ys) :: news') → Off3 I C D news' → J n ys news' → R { s₂ with heap := h, toks := tk }) :
    wpAny (model prog w) A (pyNext (.ref I)) (fun r s₁ => match r with | none => R s₁ | some v => X v s₁) Eq' s' := by
  refine (let Gz : Prop := _; (?_ : Gz))
  first | (refine ex9 (hI) fun h' tk i ys m' news' hEz22_6 hi hk hAz22 => ?_; clear hI; refine and7 (hAz22) fun hyl hst' F' hn' N' off' hJ => ?_; clear hAz22; subst hEz22_6) | (refine ex8 (hI) fun h' tk i ys m' news' hEz22_6 hi hAz22 => ?_; clear hI; refine and8 (hAz22) fun hk hyl hst' F' hn' N' off' hJ => ?_; clear hAz22; subst hEz22_6) | (refine ex7 (hI) fun h' tk i ys m' news' hEz22_6 hAz22 => ?_; clear hI; refine and9 (hAz22) fun hi hk hyl hst' F' hn' N' off' hJ => ?_; clear hAz22; subst hEz22_6) | (refine ex6 (hI) fun h' tk i ys m' news' hAz22 => ?_; clear hI; refine and10 (hAz22) fun hEz22_6 hi hk hyl hst' F' hn' N' off' hJ => ?_; clear hAz22; subst hEz22_6) | (refine ex5 (hI) fun h' tk i ys m' hAz22 => ?_; clear hI; refine and11 (hAz22) fun news' hEz22_6 hi hk hyl hst' F' hn' N' off' hJ => ?_; clear hAz22; subst hEz22_6) | (refine ex4 (hI) fun h' tk i ys hAz22 => ?_; clear hI; refine and12 (hAz22) fun m' news' hEz22_6 hi hk hyl hst' F' hn' N' off' hJ => ?_; clear hAz22; subst hEz22_6) | (refine ex3 (hI) fun h' tk i hAz22 => ?_; clear hI; refine and12 (hAz22) fun ys m' news' hEz22_6 hi hk hyl hst' F' hn' N' hAz22r => ?_; clear hAz22; refine and2 (hAz22r) fun off' hJ => ?_; clear hAz22r; subst hEz22_6) | (refine ex2 (hI) fun h' tk hAz22 => ?_; clear hI; refine and12 (hAz22) fun i ys m' news' hEz22_6 hi hk hyl hst' F' hn' hAz22r => ?_; clear hAz22; refine and3 (hAz22r) fun N' off' hJ => ?_; clear hAz22r; subst hEz22_6) | (refine ex1 (hI) fun h' hAz22 => ?_; clear hI; refine and12 (hAz22) fun tk i ys m' news' hEz22_6 hi hk hyl hst' F' hAz22r => ?_; clear hAz22; refine and4 (hAz22r) fun hn' N' off' hJ => ?_; clear hAz22r; subst hEz22_6) | (refine and12 (hI) fun h' tk i ys m' news' hEz22_6 hi hk hyl hst' hIr => ?_; clear hI; refine and5 (hIr) fun F' hn' N' off' hJ => ?_; clear hIr; subst hEz22_6) | obtain ⟨h', tk, i, ys, m', news', rfl, hi, hk, hyl, hst', F', hn', N', off', hJ⟩ := hI
  k_unfold; clear Gz
  have off3 := off'.mem
  have moved : ∀ h₂, (∀ b o, b ∉ [I] → h'.get? b = some o → h₂.get? b = some o) → Fr h₀ L h₂ m ∧ h₂.Ns C m' ∧ News h₀ L h₂ ((D, lst ys) :: news') := fun h₂ hk₂ =>
    ⟨fr_but F' hk₂ G.IL G.I0, hn'.at' fun o e => hk₂ _ o (List.not_mem_cons_of_ne_of_not_mem (Ne.symm G.CI) List.not_mem_nil) e, news_but N' hk₂ (List.forall_mem_cons.mpr ⟨Ne.symm G.DI, fun p hp => (off3 p hp).1⟩)⟩
  by_cases hlt : i < n
  · exact W.item i _ _ _ hlt hst' fun v h₂ tk₂ hPv hst₂ hk₂ => item i v ys m' news' h₂ tk₂ hlt hk hyl hPv hst₂ (moved h₂ hk₂).1 (moved h₂ hk₂).2.1 (moved h₂ hk₂).2.2 off' hJ
  · obtain rfl : i = n := Nat.le_antisymm hi (Nat.not_lt.mp hlt)
    exact W.done _ _ _ hst' fun h₂ tk₂ hk₂ => done ys m' news' h₂ tk₂ (moved h₂ hk₂).1 (moved h₂ hk₂).2.1 (moved h₂ hk₂).2.2 off' hJ
theorem blk_turn {elt : Expr} {cenv : Env} {i : Nat} {ys : List Value} {news' : List (Addr × Obj)} {h₃ : Heap} {tk₃ : Nat} {m₃ : Str → Option Value}
    (B : Below A₀ base outer h₀) (hfr : A.frames = some (env :: outer)) (hf : env.frame = some L) (hcf : cenv.frame = env.frame) (G : BlkF h₀ fp L I C D) (W : Walks prog w A I fp [I] n P St) (hsz : n ≤ sizeLine) (hIo : ∀ i h, St i h → ∃ o, h.get? I = some o)
    (hSt : ∀ i h h' o nw, St i h → h.get? I = some o → h'.get? I = some o → (∀ b o, h₀.get? b = some o → h'.get? b = some o) → News h₀ L h' nw → S nw → St i h') (hJS : ∀ i ys nw, J i ys nw → S nw)
    (hkp : ∀ i ys nw, J i ys nw → ∀ p ∈ kp, p ∈ nw) (hknf : ∀ p ∈ kp, ∀ vs, p.2.data ≠ .fields vs) (hEr : ∀ z, Z z → Errs base h₀ kp env outer L m E s₂ z)
    (hlt : i < n) (hyl : ys.length = i) (hst₃ : St (i + 1) h₃) (F₃ : Fr h₀ L h₃ m) (hn₃ : h₃.Ns C m₃) (N₃ : News h₀ L h₃ ((D, lst ys) :: news')) (off' : Off3 I C D news') (hJ : J i ys news')
    (turn : ∀ oI oC, NsObj oC m₃ → News h₀ L h₃ ((I, oI) :: (C, oC) :: (D, lst ys) :: news') → ((@Ne Nat I C) ∧ (@Ne Nat I D) ∧ (@Ne Nat C D)) → KeptIn ((C, oC) :: kp) ((I, oI) :: (C, oC) :: (D, lst ys) :: news') →
      wpAny (model prog w) A (eval elt cenv) (CompEnd h₀ L m { s₂ with heap := h₃, toks := tk₃ } I oI C oC D (lst ys) (fun _ => True) (fun y news' => J (i + 1) (ys ++ [y]) news')) (FlyE base h₀ ((C, oC) :: kp) env outer L m s₂ Z) { s₂ with heap := h₃, toks := tk₃ }) :
    wpAny (model prog w) A (eval elt cenv) (fun y s₄ => wpAny (model prog w) A (call (.builtin "list.append") [.ref D, y]) (fun _ s₅ => ∃ k', k' < n + 1 - i ∧ BlkI h₀ L I C D m n St J s₂ k' s₅) (notedBy (model prog w) A cenv fun e s' => compPost (model prog w) A E use Q (.ref D) C (.error e) s') s₄)
      (notedBy (model prog w) A cenv fun e s' => compPost (model prog w) A E use Q (.ref D) C (.error e) s') { s₂ with heap := h₃, toks := tk₃ } := by
  have off3 := off'.mem
  refine (let Gz : Prop := _; (?_ : Gz))
  obtain ⟨oI, heI⟩ := hIo _ _ hst₃
  k_unfold; clear Gz
  refine (let Gz : Prop := _; (?_ : Gz))
  (refine ex1 (ns_obj hn₃) fun oC hAz24 => ?_; refine and2 (hAz24) fun heC hoC => ?_; clear hAz24)
  k_unfold; clear Gz
  have kept : KeptIn ((C, oC) :: kp) ((I, oI) :: (C, oC) :: (D, lst ys) :: news') :=
    ⟨List.forall_mem_cons.mpr ⟨.tail _ (.head _), fun p hp => .tail _ (.tail _ (.tail _ (hkp _ _ _ hJ p hp)))⟩, List.forall_mem_cons.mpr ⟨fun vs q => (by obtain ⟨es, ep, hd, _⟩ := hoC; exact nomatch hd.symm.trans q), hknf⟩⟩
  refine wpAny_mono (turn oI oC hoC (news_on heI (Ne.symm G.IL) G.I0 (news_on heC G.CL G.C0 N₃)) ⟨G.CI, G.DI, Ne.symm G.DC⟩ kept) (fun y s₄ h₄ => ?_)
    (fun e s' he => block_err B hfr hf hcf hoC G.CL G.C0 (Heap.get?_none_of_le F₃.above) (fun p hp => (off3 p (hkp _ _ _ hJ p hp)).2.1) hEr e s' he)
  refine (let Gz : Prop := _; (?_ : Gz))
  obtain ⟨h₄, tk₄, news₄, rfl, F₄, N₄, off₄, _, J₄⟩ := h₄
  k_unfold; clear Gz
  have N₄' : News h₀ L h₄ news₄ := fun p hp => N₄ p (.tail _ (.tail _ (.tail _ hp)))
  refine append_at (hsz := by show ys.toArray.size ≤ sizeLine; rw [List.size_toArray, hyl]; exact Nat.le_trans (Nat.le_of_lt hlt) hsz) (N₄ _ (.tail _ (.tail _ (.head _)))).1 fun h₅ hs₅ hD₅ => ?_
  exact ⟨n + 1 - (i + 1), by omega, xi6 h₅ tk₄ (i + 1) (ys ++ [y]) _ news₄ ⟨rfl, hlt, rfl, by rw [List.length_append, List.length_singleton, hyl], W.frame _ _ _ (hSt _ _ _ _ _ hst₃ heI (N₄ _ (.head _)).1 F₄.keep N₄' (hJS _ _ _ J₄)) fun b hb o e => hs₅.extBut b o (fun q => G.Df (q ▸ hb)) e, F₄.change hs₅ G.DL G.D0,
    (hoC.ns (N₄ _ (.tail _ (.head _))).1).sameBut hs₅ (Ne.symm G.DC), news_on (hD₅.trans (congrArg some (lst_snoc ys y))) G.DL G.D0 fun p hp => ⟨hs₅.extBut _ _ (off₄.mem p hp).2.2 (N₄' p hp).1, (N₄' p hp).2⟩, off₄, J₄⟩⟩
theorem blk_start {elt target iter : Expr} {scope : Scope} {cl : List (Str × Addr)} {pos : Pos} (W : Walks prog w A I fp [I] n P St) (hcell : ∀ y ∈ scope.names, y.2 ≠ .cell) (hkind : scope.kind = .function) (hst : St 0 s₂.heap) (hfp : ∀ b ∈ fp, b < s₂.heap.objs.size)
    (F : Fr h₀ L s₂.heap m) (N : News h₀ L s₂.heap news) (hIL : L ≠ I) (hI₀ : h₀.get? I = none) (off : ∀ p ∈ news, p.1 ≠ I) (hJ0 : J 0 [] news)
    (h : ∀ D C s₃, BlkF h₀ fp L I C D → BlkI h₀ L I C D m n St J s₂ (n + 1) s₃ →
      codeAny (model prog w) A (.compLoop (.ListComp elt [⟨target, iter, [], 0⟩] scope pos) 0 (.ref I) (.ref D) (compEnvC scope cl C env)) (compPost (model prog w) A E use Q (.ref D) C) s₃) :
    wpAny (model prog w) A (newList []) (fun acc s₃ => wpAny (model prog w) A (newFunctionEnv scope env.globals cl [] env.qual none .none (some env)) (fun cenv s₄ =>
      codeAny (model prog w) A (.compStart (.ListComp elt [⟨target, iter, [], 0⟩] scope pos) 0 (.ref I) acc { cenv with scope := relabel scope env }) (compPost (model prog w) A E use Q acc cenv.locals) s₄) E s₃) E s₂ := by
  refine wpAny_newObj_type (wpAny_newFunctionEnv hcell (fun y hy => nomatch hy) (fun h₁ hns₁ hsb₁ => ?_) hkind)
  have hC : (s₂.heap.push { cls := .type "list", dict := none, data := .seq ([] : List Value).toArray }).objs.size = s₂.heap.objs.size + 1 := Heap.size_push ..
  have hDC : s₂.heap.objs.size ≠ (s₂.heap.push { cls := .type "list", dict := none, data := .seq ([] : List Value).toArray }).objs.size := Nat.ne_of_lt (hC ▸ Nat.lt_succ_self _)
  have acc₁ := hsb₁.extBut _ _ hDC (Heap.get?_push_of_some _ (Heap.get?_push_size s₂.heap rfl))
  have old : ∀ b o, s₂.heap.get? b = some o → h₁.get? b = some o := fun b o e => hsb₁.extBut b o (Nat.ne_of_lt (hC ▸ Nat.lt_succ_of_lt (Heap.lt_size e))) (Heap.get?_push_of_some _ (Heap.get?_push_of_some _ e))
  change h₁.Ns (s₂.heap.push { cls := .type "list", dict := none, data := .seq ([] : List Value).toArray }).objs.size _ at hns₁
  generalize (s₂.heap.push { cls := .type "list", dict := none, data := .seq ([] : List Value).toArray }).objs.size = C at hC hDC hns₁
  have hst₁ : St 0 h₁ := W.frame _ _ _ hst fun b _ o e => old b o e
  have fresh₀ : ∀ a, s₂.heap.objs.size ≤ a → h₀.get? a = none := fun a ha => by
    cases e : h₀.get? a with
    | none => rfl
    | some o' => exact absurd (Heap.lt_size (F.keep a o' e)) (Nat.not_lt.mpr ha)
  have below : ∀ b, b < s₂.heap.objs.size → b ≠ C ∧ b ≠ s₂.heap.objs.size := fun b hb => ⟨by rw [hC]; exact Nat.ne_of_lt (Nat.lt_succ_of_lt hb), Nat.ne_of_lt hb⟩
  have hI := below I (hfp I (W.sub I (List.mem_singleton.mpr rfl)))
  have hLb := below L F.ns.lt
  have G : BlkF h₀ fp L I C s₂.heap.objs.size := ⟨hI.1, hI.2, hDC, Ne.symm hLb.1, Ne.symm hLb.2, fresh₀ _ (by rw [hC]; exact Nat.le_succ _), fresh₀ _ (Nat.le_refl _), fun hm => (below _ (hfp _ hm)).1 rfl, fun hm => (below _ (hfp _ hm)).2 rfl, hIL, hI₀⟩
  have K : BlkI h₀ L I C s₂.heap.objs.size m n St J s₂ (n + 1) { s₂ with heap := h₁, toks := s₂.toks + ([] : List (Str × Value)).length } :=
    xi6 h₁ _ 0 [] _ news ⟨rfl, Nat.zero_le _, rfl, rfl, hst₁, F.keeps old, hns₁, news_on acc₁ G.DL G.D0 fun p hp => ⟨old _ _ (N p hp).1, (N p hp).2⟩,
      Off3.of fun p hp => ⟨off p hp, below _ (Heap.lt_size (N p hp).1)⟩, hJ0⟩
  exact codeAny_compStart_list (h _ _ _ G K) (W.self 0 _ _ _ hst₁ (h _ _ _ G K))
end

set_option maxHeartbeats 2000000 in
theorem block_J1 {elt iter : Expr} {x : Str} {px : Pos} {scope : Scope} {cl : List (Str × Addr)} {pos : Pos} {s₂ : Shared} {I : Addr} {fp : List Addr} {n : Nat} {P : Nat → Value → Prop} {St : Nat → Heap → Prop} {S : List (Addr × Obj) → Prop} {news kp : List (Addr × Obj)}
    {use : Option (Value → Sem Unit)} {Q : Value → Shared → Prop} {Z : Int → Prop} (J : Nat → List Value → List (Addr × Obj) → Prop)
    (B : Below A₀ base outer h₀) (hfr : A.frames = some (env :: outer)) (hf : env.frame = some L)
    (W : Walks prog w A I fp [I] n P St) (hsz : n ≤ sizeLine) (hIo : ∀ i h, St i h → ∃ o, h.get? I = some o)
    (hSt : ∀ i h h' o nw, St i h → h.get? I = some o → h'.get? I = some o → (∀ b o, h₀.get? b = some o → h'.get? b = some o) → News h₀ L h' nw → S nw → St i h') (hJS : ∀ i ys nw, J i ys nw → S nw)
    (hcell : ∀ y ∈ scope.names, y.2 ≠ .cell) (hkind : scope.kind = .function) (hx : scope.names.lookup x = some .local) (hst : St 0 s₂.heap) (hfp : ∀ b ∈ fp, b < s₂.heap.objs.size)
    (F : Fr h₀ L s₂.heap m) (N : News h₀ L s₂.heap news) (hIL : L ≠ I) (hI₀ : h₀.get? I = none) (off : ∀ p ∈ news, p.1 ≠ I)
    (hkp : ∀ i ys nw, J i ys nw → ∀ p ∈ kp, p ∈ nw) (hknf : ∀ p ∈ kp, ∀ vs, p.2.data ≠ .fields vs) (hJ0 : J 0 [] news) (hEr : ∀ z, Z z → Errs base h₀ kp env outer L m E s₂ z)
    (turn : ∀ i v ys news I oI C oC D m₂ h tk, i < n → P i v → J i ys news →  NsObj oC m₂ → m₂ x = some v → Fr h₀ L h m → News h₀ L h ((I, oI) :: (C, oC) :: (D, lst ys) :: news) → Off3 I C D news → ((@Ne Nat I C) ∧ (@Ne Nat I D) ∧ (@Ne Nat C D)) →
      KeptIn ((C, oC) :: kp) ((I, oI) :: (C, oC) :: (D, lst ys) :: news) →
      wpAny (model prog w) A (eval elt (compEnvC scope cl C env)) (CompEnd h₀ L m { s₂ with heap := h, toks := tk } I oI C oC D (lst ys) (fun _ => True) (fun y news' => J (i + 1) (ys ++ [y]) news')) (FlyE base h₀ ((C, oC) :: kp) env outer L m s₂ Z) { s₂ with heap := h, toks := tk })
    (fin : ∀ D C h tk m' ys news', Fr h₀ L h m → News h₀ L h ((D, lst ys) :: news') → Off1 D news' → h.Ns C m' → h₀.get? C = none → h₀.get? D = none → C ≠ L → D ≠ L → C ≠ D → (∀ p ∈ news', p.1 ≠ C) → J n ys news' → compPost (model prog w) A E use Q (.ref D) C (.ok .next) { s₂ with heap := h, toks := tk }) :
    wpAny (model prog w) A (newList []) (fun acc s₃ => wpAny (model prog w) A (newFunctionEnv scope env.globals cl [] env.qual none .none (some env)) (fun cenv s₄ =>
      codeAny (model prog w) A (.compStart (.ListComp elt [⟨.Name x px, iter, [], 0⟩] scope pos) 0 (.ref I) acc { cenv with scope := relabel scope env }) (compPost (model prog w) A E use Q acc cenv.locals) s₄) E s₃) E s₂ := by
  refine blk_start W hcell hkind hst hfp F N hIL hI₀ off hJ0 fun D C s₃ G K => ?_
  refine codeAny_compLoop_tests (BlkI h₀ L I C D m n St J s₂) (fun k s' hI => blk_step W G hI (fun i v ys m' news' h₂ tk₂ hlt hk hyl hPv hst₂ F₂ hn₂ N₂ off' hJ => ?_) fun ys m' news' h₂ tk₂ F₂ hn₂ N₂ off' hJ => ?_) (n + 1) K
  · subst hk
    refine wpAny_assign_Name (wpAny_storeName_local (lookup_relabel_local hx) hn₂ (fun h₃ hn₃ hs₃ => ?_) (by simp [compEnvC, relabel, hkind]))
    refine wpAny_tests_nil ?_
    rw [if_pos rfl]
    have old3 : ∀ b o, b ≠ C → h₂.get? b = some o → h₃.get? b = some o := fun b o hb e => hs₃.extBut b o hb e
    have F₃ := F₂.change hs₃ G.CL G.C0
    have N₃ := news_off3 N₂ G.DC off' old3
    exact blk_turn B hfr hf rfl G W hsz hIo hSt hJS hkp hknf hEr hlt hyl (W.frame _ _ _ hst₂ fun b hb o e => old3 b o (fun q => G.Cf (q ▸ hb)) e) F₃ hn₃ N₃ off' hJ
      fun oI oC hoC N₄ hne kept => turn i _ ys news' I oI C oC D _ h₃ _ hlt hPv hJ hoC (by simp) F₃ N₄ off' hne kept
  · exact fin _ _ h₂ tk₂ _ ys news' F₂ N₂ off'.one hn₂ G.C0 G.D0 G.CL G.DL (Ne.symm G.DC) (fun p hp => (off'.mem p hp).2.1) hJ

set_option maxHeartbeats 2000000 in
theorem block_J2 {elt iter : Expr} {x x₂ : Str} {px px₂ tp : Pos} {kk} {scope : Scope} {cl : List (Str × Addr)} {pos : Pos} {s₂ : Shared} {I : Addr} {fp : List Addr} {n : Nat} {P : Nat → Value → Prop} {St : Nat → Heap → Prop} {S : List (Addr × Obj) → Prop} {news kp : List (Addr × Obj)}
    {use : Option (Value → Sem Unit)} {Q : Value → Shared → Prop} {Z : Int → Prop} (J : Nat → List Value → List (Addr × Obj) → Prop)
    (B : Below A₀ base outer h₀) (hfr : A.frames = some (env :: outer)) (hf : env.frame = some L)
    (W : Walks prog w A I fp [I] n P St) (hsz : n ≤ sizeLine) (hIo : ∀ i h, St i h → ∃ o, h.get? I = some o)
    (hSt : ∀ i h h' o nw, St i h → h.get? I = some o → h'.get? I = some o → (∀ b o, h₀.get? b = some o → h'.get? b = some o) → News h₀ L h' nw → S nw → St i h') (hJS : ∀ i ys nw, J i ys nw → S nw)
    (hcell : ∀ y ∈ scope.names, y.2 ≠ .cell) (hkind : scope.kind = .function) (hx : scope.names.lookup x = some .local) (hx₂ : scope.names.lookup x₂ = some .local) (hxx : x ≠ x₂) (hh : A.handled = none) (hLI : ∀ i h, St i h → ∃ l j, h.IsListIter I l j)
    (hpair : ∀ i v ys nw, i < n → P i v → J i ys nw → ∃ (t : Addr) (ot : Obj) (v₁ v₂ : Value) (nt : Nat), v = .ref t ∧ (t, ot) ∈ nw ∧ ot.cls = .type "tuple" ∧ ot.data = .seq #[v₁, v₂] nt) (hst : St 0 s₂.heap) (hfp : ∀ b ∈ fp, b < s₂.heap.objs.size)
    (F : Fr h₀ L s₂.heap m) (N : News h₀ L s₂.heap news) (hIL : L ≠ I) (hI₀ : h₀.get? I = none) (off : ∀ p ∈ news, p.1 ≠ I)
    (hkp : ∀ i ys nw, J i ys nw → ∀ p ∈ kp, p ∈ nw) (hknf : ∀ p ∈ kp, ∀ vs, p.2.data ≠ .fields vs) (hJ0 : J 0 [] news) (hEr : ∀ z, Z z → Errs base h₀ kp env outer L m E s₂ z)
    (turn : ∀ i v ys news I oI C oC D m₂ h tk, i < n → P i v → J i ys news → ∀ (t : Addr) (ot : Obj) (v₁ v₂ : Value) (nt : Nat), v = .ref t → (t, ot) ∈ news → ot.cls = .type "tuple" → ot.data = .seq #[v₁, v₂] nt → NsObj oC m₂ → m₂ x = some v₁ → m₂ x₂ = some v₂ → Fr h₀ L h m → News h₀ L h ((I, oI) :: (C, oC) :: (D, lst ys) :: news) → Off3 I C D news → ((@Ne Nat I C) ∧ (@Ne Nat I D) ∧ (@Ne Nat C D)) →
      KeptIn ((C, oC) :: kp) ((I, oI) :: (C, oC) :: (D, lst ys) :: news) →
      wpAny (model prog w) A (eval elt (compEnvC scope cl C env)) (CompEnd h₀ L m { s₂ with heap := h, toks := tk } I oI C oC D (lst ys) (fun _ => True) (fun y news' => J (i + 1) (ys ++ [y]) news')) (FlyE base h₀ ((C, oC) :: kp) env outer L m s₂ Z) { s₂ with heap := h, toks := tk })
    (fin : ∀ D C h tk m' ys news', Fr h₀ L h m → News h₀ L h ((D, lst ys) :: news') → Off1 D news' → h.Ns C m' → h₀.get? C = none → h₀.get? D = none → C ≠ L → D ≠ L → C ≠ D → (∀ p ∈ news', p.1 ≠ C) → J n ys news' → compPost (model prog w) A E use Q (.ref D) C (.ok .next) { s₂ with heap := h, toks := tk }) :
    wpAny (model prog w) A (newList []) (fun acc s₃ => wpAny (model prog w) A (newFunctionEnv scope env.globals cl [] env.qual none .none (some env)) (fun cenv s₄ =>
      codeAny (model prog w) A (.compStart (.ListComp elt [⟨.Tuple [.Name x px, .Name x₂ px₂] kk tp, iter, [], 0⟩] scope pos) 0 (.ref I) acc { cenv with scope := relabel scope env }) (compPost (model prog w) A E use Q acc cenv.locals) s₄) E s₃) E s₂ := by
  refine blk_start W hcell hkind hst hfp F N hIL hI₀ off hJ0 fun D C s₃ G K => ?_
  refine LCp.codeAny_compLoop_pair (BlkI h₀ L I C D m n St J s₂) (fun k s' hI => blk_step W G hI (fun i v ys m' news' h₂ tk₂ hlt hk hyl hPv hst₂ F₂ hn₂ N₂ off' hJ => ?_) fun ys m' news' h₂ tk₂ F₂ hn₂ N₂ off' hJ => ?_) (n + 1) K
  · subst hk
    refine (let Gz : Prop := _; (?_ : Gz))
    (refine ex5 (hpair i _ ys news' hlt hPv hJ) fun t ot v₁ v₂ nt hAz26 => ?_; refine and4 (hAz26) fun hEz26_5 hmt hct hdt => ?_; clear hAz26; subst hEz26_5)
    k_unfold; clear Gz
    have ht : IsTup h₂ t #[v₁, v₂] := ⟨ot, (N₂ _ (List.mem_cons_of_mem _ hmt)).1, hct, nt, hdt⟩
    refine (let Gz : Prop := _; (?_ : Gz))
    (refine ex2 (hLI _ _ hst₂) fun lI jI hLi => ?_)
    k_unfold; clear Gz
    refine wpAny_letOwnedTupleGo_listiter hLi ?_
    refine assign_Tuple_tuple hh ht rfl rfl fun h₅ he => ?_
    have he' : ∀ b o, h₂.get? b = some o → h₅.get? b = some o := fun b o e => he b o (Nat.ne_of_lt (Heap.lt_size e)) e
    refine assignInOrder_cons (wpAny_assign_Name (wpAny_storeName_local (lookup_relabel_local hx) (hn₂.at' fun o e => he' _ o e) (fun h₆ hn₆ hs₆ => ?_) (by simp [compEnvC, relabel, hkind])))
    refine assignInOrder_cons (wpAny_assign_Name (wpAny_storeName_local (lookup_relabel_local hx₂) hn₆ (fun h₃ hn₃ hs₃ => ?_) (by simp [compEnvC, relabel, hkind])))
    refine assignInOrder_nil ?_
    have old3 : ∀ b o, b ≠ C → h₂.get? b = some o → h₃.get? b = some o := fun b o hb e => hs₃.extBut b o hb (hs₆.extBut b o hb (he' b o e))
    have F₃ := ((F₂.keeps he').change hs₆ G.CL G.C0).change hs₃ G.CL G.C0
    have N₃ := news_off3 N₂ G.DC off' old3
    exact blk_turn B hfr hf rfl G W hsz hIo hSt hJS hkp hknf hEr hlt hyl (W.frame _ _ _ hst₂ fun b hb o e => old3 b o (fun q => G.Cf (q ▸ hb)) e) F₃ hn₃ N₃ off' hJ
      fun oI oC hoC N₄ hne kept => turn i _ ys news' I oI C oC D _ h₃ _ hlt hPv hJ t ot v₁ v₂ nt rfl hmt hct hdt hoC (by simp [hxx]) (by simp) F₃ N₄ off' hne kept
  · exact fin _ _ h₂ tk₂ _ ys news' F₂ N₂ off'.one hn₂ G.C0 G.D0 G.CL G.DL (Ne.symm G.DC) (fun p hp => (off'.mem p hp).2.1) hJ

end
end Mine
end
section
open PyProof.Rows.LCg
namespace Mine
theorem reset_Y1 : True := by
  w_top off
  exact trivial
section
variable {prog : Program} {w : World} {A A₀ : Around} {E : Value → Shared → Prop} {s : Shared} {base h₀ : Heap} {L : Addr} {m : Str → Option Value} {env : Env} {outer : List Env}

/-- the block's iterable stands: its turns come next -/
noncomputable def AtBlk (prog : Program) (w : World) (A : Around) (E : Value → Shared → Prop) (env : Env) (e : PySem.Expr) (scope : Scope) (cl : List (Str × Addr)) (use : Option (Value → Sem Unit)) (Q : Value → Shared → Prop) (xv : Value) (s₁ : Shared) : Prop :=
  wpAny (model prog w) A (pyIter xv) (fun it s₂ => wpAny (model prog w) A (newList []) (fun acc s₃ => wpAny (model prog w) A (newFunctionEnv scope env.globals cl [] env.qual none .none (some env)) (fun cenv s₄ =>
      codeAny (model prog w) A (.compStart e 0 it acc { cenv with scope := relabel scope env }) (compPost (model prog w) A E use Q acc cenv.locals) s₄) E s₃) E s₂) E s₁

theorem comp_expr {elt target iter : PySem.Expr} {scope : Scope} {cl : List (Str × Addr)} {pos : Pos} {Q : Value → Shared → Prop}
    (hclos : closureFor scope env = pure cl) (hkind : scope.kind = .function) (hnames : ∀ y ∈ scope.names, y.2 = .local → scope.names.lookup y.1 = some .local)
    (hs : ∀ x, foldedSetIterable iter env x = pure x)
    (h : wpAny (model prog w) A (eval iter env) (AtBlk prog w A E env (.ListComp elt [⟨target, iter, [], 0⟩] scope pos) scope cl none Q) E s) :
    wpAny (model prog w) A (eval (.ListComp elt [⟨target, iter, [], 0⟩] scope pos) env) Q E s := by
  rw [eval_ListComp]
  exact wpAny_comprehension_free (use := none) rfl hs hclos hkind hnames (wpAny_mono h (fun xv s₁ h₁ => h₁) fun _ _ e => e)

theorem comp_assign {elt target iter : PySem.Expr} {y : Str} {py : Pos} {scope : Scope} {cl : List (Str × Addr)} {pos spos : Pos} {Q : Flow → Shared → Prop}
    (hsw : swapsWith (.ListComp elt [⟨target, iter, [], 0⟩] scope pos) (some (.Name y py)) spos.line env = pure true)
    (hclos : closureFor scope env = pure cl) (hkind : scope.kind = .function) (hnames : ∀ y ∈ scope.names, y.2 = .local → scope.names.lookup y.1 = some .local)
    (hs : ∀ x, foldedSetIterable iter env x = pure x)
    (h : wpAny (model prog w) A (eval iter env) (AtBlk prog w A E env (.ListComp elt [⟨target, iter, [], 0⟩] scope pos) scope cl (some (assign (.Name y py) env)) (fun _ s' => Q .next s')) E s) :
    wpAny (model prog w) A (exec (.Assign [.Name y py] (.ListComp elt [⟨target, iter, [], 0⟩] scope pos) spos) env) Q E s := by
  rw [exec_Assign_Name_used _ _ _ _ hsw]
  refine wpAny_bind (wpAny_standAt (wpAny_bind ?_))
  show wpAny _ A (do let _ ← comprehension (.ListComp elt [⟨target, iter, [], 0⟩] scope pos) scope env _ (newList []) false (eval iter env) (some (assign (.Name y py) env))) _ _ s
  exact wpAny_bind (wpAny_mono (wpAny_comprehension_free (use := some (assign (.Name y py) env)) (Q := fun _ s' => Q .next s') rfl hs hclos hkind hnames
    (wpAny_mono h (fun xv s₁ h₁ => h₁) fun _ _ e => e)) (fun _ s' hq => wpAny_pure (wpAny_pure hq)) fun _ _ e => e)

noncomputable abbrev FinT (prog : Program) (w : World) (A : Around) (E : Value → Shared → Prop) (h₀ : Heap) (L : Addr) (m : Str → Option Value) (use : Option (Value → Sem Unit)) (Q : Value → Shared → Prop) (s₂ : Shared) (J : List Value → List (Addr × Obj) → Prop) : Prop :=
  ∀ D C h tk m' ys news', Fr h₀ L h m → News h₀ L h ((D, lst ys) :: news') → Off1 D news' → h.Ns C m' → h₀.get? C = none → h₀.get? D = none → C ≠ L → D ≠ L → C ≠ D → (∀ p ∈ news', p.1 ≠ C) → J ys news' → compPost (model prog w) A E use Q (.ref D) C (.ok .next) { s₂ with heap := h, toks := tk }
theorem off1_ne {D : Addr} : ∀ (l : List (Addr × Obj)), Off1 D l → ∀ p ∈ l, p.1 ≠ D
  | [], _, _, h => nomatch h
  | _ :: r, x, p, h => (List.mem_cons.mp h).elim (fun e => by subst e; exact x.1) fun h => off1_ne r x.2 p h
theorem fin_none {Q : Value → Shared → Prop} {s₂ : Shared} {J : List Value → List (Addr × Obj) → Prop}
    (h : ∀ D h tk ys news', Fr h₀ L h m → News h₀ L h ((D, lst ys) :: news') → (∀ p ∈ news', p.1 ≠ D) → J ys news' → Q (.ref D) { s₂ with heap := h, toks := tk }) : FinT prog w A E h₀ L m none Q s₂ J := by
  intro D C h' tk m' ys news' F' N' o1 hn hC₀ hD₀ hCL hDL hCD offC fin
  refine ⟨m', hn, fun h'' hs'' => h D h'' tk ys news' (F'.change hs'' hCL hC₀) (fun p hp => ?_) (off1_ne _ o1) fin⟩
  refine ⟨hs''.extBut _ _ ?_ (N' p hp).1, (N' p hp).2⟩
  rcases List.mem_cons.mp hp with rfl | hp
  · exact Ne.symm hCD
  · exact offC p hp
theorem fin_some {y : Str} {py : Pos} {Q : Flow → Shared → Prop} {s₂ : Shared} {J : List Value → List (Addr × Obj) → Prop} (hLe : env.locals = L)
    (hy : env.kindOf y = some .local) (hp : (env.scope.kind == .class || (env.scope.kind == .module && env.locals != env.globals)) = false)
    (h : ∀ D h tk ys news', Fr h₀ L h (fun z => if z = y then some (.ref D) else m z) → News h₀ L h ((D, lst ys) :: news') → (∀ p ∈ news', p.1 ≠ D) → J ys news' → Q .next { s₂ with heap := h, toks := tk }) :
    FinT prog w A E h₀ L m (some (assign (.Name y py) env)) (fun _ s' => Q .next s') s₂ J := by
  subst hLe
  intro D C h' tk m' ys news' F' N' o1 hn hC₀ hD₀ hCL hDL hCD offC fin
  show wpAny _ A (assign (.Name y py) env (.ref D)) _ _ _
  refine wpAny_assign_Name (wpAny_storeName_local hy F'.ns (fun h₂ hn₂ hs₂ => ?_) hp)
  have hL₀ : h₀.get? env.locals = none := Heap.get?_none_of_le F'.above
  have F₂ : Fr h₀ env.locals h₂ (fun z => if z = y then some (.ref D) else m z) := ⟨hn₂, fun b o e => hs₂.extBut b o (fun q => by rw [q, hL₀] at e; cases e) (F'.keep b o e), F'.above⟩
  refine ⟨m', hn.sameBut hs₂ hCL, fun h'' hs'' => h D h'' _ ys news' (F₂.change hs'' hCL hC₀) (fun p hp => ?_) (off1_ne _ o1) fin⟩
  have z : h₂.get? p.1 = some p.2 := hs₂.extBut _ _ (N' p hp).2.1 (N' p hp).1
  refine ⟨hs''.extBut _ _ ?_ z, (N' p hp).2⟩
  rcases List.mem_cons.mp hp with rfl | hp
  · exact Ne.symm hCD
  · exact offC p hp

/-- the turns of a block over a list of the ledger's -/
theorem at_list1 {elt iter : PySem.Expr} {x : Str} {px : Pos} {scope : Scope} {cl : List (Str × Addr)} {pos : Pos} {news kp : List (Addr × Obj)}
    {use : Option (Value → Sem Unit)} {Q : Value → Shared → Prop} {ax : Addr} {its : Array Value} (Z : Int → Prop) (J : Nat → List Value → List (Addr × Obj) → Prop)
    (B : Below A₀ base outer h₀) (F : Fr h₀ L s.heap m) (N : News h₀ L s.heap news) (hfr : A.frames = some (env :: outer)) (hf : env.frame = some L) (hh : A.handled = none) (hsz : its.size ≤ sizeLine) (hJS : ∀ i ys nw, J i ys nw → SrcAt h₀ ax its nw)
    (hcell : ∀ y ∈ scope.names, y.2 ≠ .cell) (hkind : scope.kind = .function) (hx : scope.names.lookup x = some .local)
    (hkp : ∀ i ys nw, J i ys nw → ∀ p ∈ kp, p ∈ nw) (hknf : ∀ p ∈ kp, ∀ vs, p.2.data ≠ .fields vs) (hJ0 : J 0 [] news) (hEr : ∀ z, Z z → ∀ h, Errs base h₀ kp env outer L m E { s with heap := h } z)
    (turn : ∀ i v ys news I oI C oC D m₂ h tk, its[i]? = some v → J i ys news → NsObj oC m₂ → m₂ x = some v → Fr h₀ L h m → News h₀ L h ((I, oI) :: (C, oC) :: (D, lst ys) :: news) → Off3 I C D news → ((@Ne Nat I C) ∧ (@Ne Nat I D) ∧ (@Ne Nat C D)) →
      KeptIn ((C, oC) :: kp) ((I, oI) :: (C, oC) :: (D, lst ys) :: news) →
      wpAny (model prog w) A (eval elt (compEnvC scope cl C env)) (CompEnd h₀ L m { s with heap := h, toks := tk } I oI C oC D (lst ys) (fun _ => True) (fun y news' => J (i + 1) (ys ++ [y]) news')) (FlyE base h₀ ((C, oC) :: kp) env outer L m s Z) { s with heap := h, toks := tk })
    (fin : FinT prog w A E h₀ L m use Q s (J its.size)) :
    AtBlk prog w A E env (.ListComp elt [⟨.Name x px, iter, [], 0⟩] scope pos) scope cl use Q (.ref ax) s := by
  have hl := (hJS _ _ _ hJ0).list F.keep N
  have hlt : ax < s.heap.objs.size := by obtain ⟨_, e, _⟩ := hl; exact Heap.lt_size e
  refine wpAny_pyIter_list hl ?_
  have up : ∀ b o, s.heap.get? b = some o → (s.heap.push { cls := .type "list_iterator", data := .fields #[.ref ax, .int 0 0] }).get? b = some o := fun b o e => Heap.get?_push_of_some _ e
  refine block_J1 J B hfr hf (Walks.list hh s.heap.objs.size ax (Nat.ne_of_lt hlt) its) hsz (fun i h st => by obtain ⟨o, e, _⟩ := st.1; exact ⟨o, e⟩) list_st hJS hcell hkind hx ⟨⟨_, Heap.get?_push_size _ rfl, rfl, rfl⟩, hl.push _⟩ (fun b hb => ?_)
    (F.keeps up) (N.grown up) (Nat.ne_of_lt F.ns.lt) (next_is_new F) (fun p hp => Nat.ne_of_lt (Heap.lt_size (N p hp).1)) hkp hknf hJ0 (fun z hz => hEr z hz _) (fun i v ys nw I oI C oC D m₂ h tk _ hv => turn i v ys nw I oI C oC D m₂ h tk hv) fin
  show b < (s.heap.push _).objs.size
  rw [Heap.size_push]
  rcases List.mem_cons.mp hb with rfl | hb
  · exact Nat.lt_succ_self _
  · rw [List.mem_singleton.mp hb]; exact Nat.lt_succ_of_lt hlt

theorem at_list2 {elt iter : PySem.Expr} {x x₂ : Str} {px px₂ tp : Pos} {kk : Nat} {scope : Scope} {cl : List (Str × Addr)} {pos : Pos} {news kp : List (Addr × Obj)}
    {use : Option (Value → Sem Unit)} {Q : Value → Shared → Prop} {ax : Addr} {its : Array Value} (Z : Int → Prop) (J : Nat → List Value → List (Addr × Obj) → Prop)
    (B : Below A₀ base outer h₀) (F : Fr h₀ L s.heap m) (N : News h₀ L s.heap news) (hfr : A.frames = some (env :: outer)) (hf : env.frame = some L) (hh : A.handled = none) (hsz : its.size ≤ sizeLine) (hJS : ∀ i ys nw, J i ys nw → SrcAt h₀ ax its nw)
    (hpair : ∀ i v ys nw, its[i]? = some v → J i ys nw → ∃ (t : Addr) (ot : Obj) (v₁ v₂ : Value) (nt : Nat), v = .ref t ∧ (t, ot) ∈ nw ∧ ot.cls = .type "tuple" ∧ ot.data = .seq #[v₁, v₂] nt)
    (hcell : ∀ y ∈ scope.names, y.2 ≠ .cell) (hkind : scope.kind = .function) (hx : scope.names.lookup x = some .local) (hx₂ : scope.names.lookup x₂ = some .local) (hxx : x ≠ x₂)
    (hkp : ∀ i ys nw, J i ys nw → ∀ p ∈ kp, p ∈ nw) (hknf : ∀ p ∈ kp, ∀ vs, p.2.data ≠ .fields vs) (hJ0 : J 0 [] news) (hEr : ∀ z, Z z → ∀ h, Errs base h₀ kp env outer L m E { s with heap := h } z)
    (turn : ∀ i v ys news I oI C oC D m₂ h tk, its[i]? = some v → J i ys news → ∀ (t : Addr) (ot : Obj) (v₁ v₂ : Value) (nt : Nat), v = .ref t → (t, ot) ∈ news → ot.cls = .type "tuple" → ot.data = .seq #[v₁, v₂] nt → NsObj oC m₂ → m₂ x = some v₁ → m₂ x₂ = some v₂ → Fr h₀ L h m → News h₀ L h ((I, oI) :: (C, oC) :: (D, lst ys) :: news) → Off3 I C D news → ((@Ne Nat I C) ∧ (@Ne Nat I D) ∧ (@Ne Nat C D)) →
      KeptIn ((C, oC) :: kp) ((I, oI) :: (C, oC) :: (D, lst ys) :: news) →
      wpAny (model prog w) A (eval elt (compEnvC scope cl C env)) (CompEnd h₀ L m { s with heap := h, toks := tk } I oI C oC D (lst ys) (fun _ => True) (fun y news' => J (i + 1) (ys ++ [y]) news')) (FlyE base h₀ ((C, oC) :: kp) env outer L m s Z) { s with heap := h, toks := tk })
    (fin : FinT prog w A E h₀ L m use Q s (J its.size)) :
    AtBlk prog w A E env (.ListComp elt [⟨.Tuple [.Name x px, .Name x₂ px₂] kk tp, iter, [], 0⟩] scope pos) scope cl use Q (.ref ax) s := by
  have hl := (hJS _ _ _ hJ0).list F.keep N
  have hlt : ax < s.heap.objs.size := by obtain ⟨_, e, _⟩ := hl; exact Heap.lt_size e
  refine wpAny_pyIter_list hl ?_
  have up : ∀ b o, s.heap.get? b = some o → (s.heap.push { cls := .type "list_iterator", data := .fields #[.ref ax, .int 0 0] }).get? b = some o := fun b o e => Heap.get?_push_of_some _ e
  refine block_J2 J B hfr hf (Walks.list hh s.heap.objs.size ax (Nat.ne_of_lt hlt) its) hsz (fun i h st => by obtain ⟨o, e, _⟩ := st.1; exact ⟨o, e⟩) list_st hJS hcell hkind hx hx₂ hxx hh (fun i h st => ⟨_, _, st.1⟩) (fun i v ys nw _ hv => hpair i v ys nw hv) ⟨⟨_, Heap.get?_push_size _ rfl, rfl, rfl⟩, hl.push _⟩ (fun b hb => ?_)
    (F.keeps up) (N.grown up) (Nat.ne_of_lt F.ns.lt) (next_is_new F) (fun p hp => Nat.ne_of_lt (Heap.lt_size (N p hp).1)) hkp hknf hJ0 (fun z hz => hEr z hz _) (fun i v ys nw I oI C oC D m₂ h tk _ hv => turn i v ys nw I oI C oC D m₂ h tk hv) fin
  show b < (s.heap.push _).objs.size
  rw [Heap.size_push]
  rcases List.mem_cons.mp hb with rfl | hb
  · exact Nat.lt_succ_self _
  · rw [List.mem_singleton.mp hb]; exact Nat.lt_succ_of_lt hlt

theorem at_range1 {elt iter : PySem.Expr} {x : Str} {px : Pos} {scope : Scope} {cl : List (Str × Addr)} {pos : Pos} {news kp : List (Addr × Obj)}
    {use : Option (Value → Sem Unit)} {Q : Value → Shared → Prop} {r : Addr} {a b : Int} {t u v : Tok} {n : Nat} (Z : Int → Prop) (J : Nat → List Value → List (Addr × Obj) → Prop)
    (B : Below A₀ base outer h₀) (F : Fr h₀ L s.heap m) (N : News h₀ L s.heap news) (hfr : A.frames = some (env :: outer)) (hf : env.frame = some L) (hh : A.handled = none) (hr : IsRange s.heap r a b 1 t u v) (hsm : Builtin.Range.small a b 1 = true) (hn : Builtin.Range.rangeSize a b 1 = ((n : Nat) : Int)) (hsz : n ≤ sizeLine)
    (hcell : ∀ y ∈ scope.names, y.2 ≠ .cell) (hkind : scope.kind = .function) (hx : scope.names.lookup x = some .local)
    (hkp : ∀ i ys nw, J i ys nw → ∀ p ∈ kp, p ∈ nw) (hknf : ∀ p ∈ kp, ∀ vs, p.2.data ≠ .fields vs) (hJ0 : J 0 [] news) (hEr : ∀ z, Z z → ∀ h, Errs base h₀ kp env outer L m E { s with heap := h } z)
    (turn : ∀ i ti ys news I oI C oC D m₂ h tk, i < n → J i ys news → NsObj oC m₂ → m₂ x = some (.int (a + (i : Int)) ti) → Fr h₀ L h m → News h₀ L h ((I, oI) :: (C, oC) :: (D, lst ys) :: news) → Off3 I C D news → ((@Ne Nat I C) ∧ (@Ne Nat I D) ∧ (@Ne Nat C D)) →
      KeptIn ((C, oC) :: kp) ((I, oI) :: (C, oC) :: (D, lst ys) :: news) →
      wpAny (model prog w) A (eval elt (compEnvC scope cl C env)) (CompEnd h₀ L m { s with heap := h, toks := tk } I oI C oC D (lst ys) (fun _ => True) (fun y news' => J (i + 1) (ys ++ [y]) news')) (FlyE base h₀ ((C, oC) :: kp) env outer L m s Z) { s with heap := h, toks := tk })
    (fin : FinT prog w A E h₀ L m use Q s (J n)) :
    AtBlk prog w A E env (.ListComp elt [⟨.Name x px, iter, [], 0⟩] scope pos) scope cl use Q (.ref r) s := by
  refine wpAny_pyIter_range hr hsm ?_
  refine block_J1 (S := fun _ => True) J B hfr hf (range_walks hh a n) hsz (fun i h st => ⟨_, st⟩) range_st (fun _ _ _ _ => trivial) hcell hkind hx (by show IsRangeIter _ _ _ _ _; rw [hn]; simpa using Heap.get?_push_size _ rfl) (fun b hb => ?_)
    (F.keeps fun _ _ e => Heap.get?_push_of_some _ e) (N.grown fun _ _ e => Heap.get?_push_of_some _ e) (Nat.ne_of_lt F.ns.lt) (next_is_new F) (fun p hp => Nat.ne_of_lt (Heap.lt_size (N p hp).1)) hkp hknf hJ0 (fun z hz => hEr z hz _)
    (fun i v ys nw I oI C oC D m₂ h tk hi ⟨ti, hv⟩ hJ hC hx' => turn i ti ys nw I oI C oC D m₂ h tk hi hJ hC (hv ▸ hx')) fin
  rw [List.mem_singleton.mp hb]
  show s.heap.objs.size < (s.heap.push _).objs.size
  rw [Heap.size_push]; exact Nat.lt_succ_self _
theorem at_bytes1 {elt iter : PySem.Expr} {x : Str} {px : Pos} {scope : Scope} {cl : List (Str × Addr)} {pos : Pos} {news kp : List (Addr × Obj)}
    {use : Option (Value → Sem Unit)} {Q : Value → Shared → Prop} {b : Array UInt8} {tb : Tok} (Z : Int → Prop) (J : Nat → List Value → List (Addr × Obj) → Prop)
    (B : Below A₀ base outer h₀) (F : Fr h₀ L s.heap m) (N : News h₀ L s.heap news) (hfr : A.frames = some (env :: outer)) (hf : env.frame = some L) (hh : A.handled = none) (hsz : b.size ≤ sizeLine)
    (hcell : ∀ y ∈ scope.names, y.2 ≠ .cell) (hkind : scope.kind = .function) (hx : scope.names.lookup x = some .local)
    (hkp : ∀ i ys nw, J i ys nw → ∀ p ∈ kp, p ∈ nw) (hknf : ∀ p ∈ kp, ∀ vs, p.2.data ≠ .fields vs) (hJ0 : J 0 [] news) (hEr : ∀ z, Z z → ∀ h, Errs base h₀ kp env outer L m E { s with heap := h } z)
    (turn : ∀ i (c : Int) ti ys news I oI C oC D m₂ h tk, (KBw.bInts b)[i]? = some c → J i ys news → NsObj oC m₂ → m₂ x = some (.int c ti) → Fr h₀ L h m → News h₀ L h ((I, oI) :: (C, oC) :: (D, lst ys) :: news) → Off3 I C D news → ((@Ne Nat I C) ∧ (@Ne Nat I D) ∧ (@Ne Nat C D)) →
      KeptIn ((C, oC) :: kp) ((I, oI) :: (C, oC) :: (D, lst ys) :: news) →
      wpAny (model prog w) A (eval elt (compEnvC scope cl C env)) (CompEnd h₀ L m { s with heap := h, toks := tk } I oI C oC D (lst ys) (fun _ => True) (fun y news' => J (i + 1) (ys ++ [y]) news')) (FlyE base h₀ ((C, oC) :: kp) env outer L m s Z) { s with heap := h, toks := tk })
    (fin : FinT prog w A E h₀ L m use Q s (J b.size)) :
    AtBlk prog w A E env (.ListComp elt [⟨.Name x px, iter, [], 0⟩] scope pos) scope cl use Q (.bytes b tb) s := by
  refine KBw.pyIter_bytes ?_
  refine block_J1 (S := fun _ => True) J B hfr hf (KBw.walks hh s.heap.objs.size b tb) hsz (fun i h st => by obtain ⟨o, e, _⟩ := st; exact ⟨o, e⟩) (fun i h h' o nw st e e' _ _ _ => by obtain ⟨o', q, r⟩ := st; rw [e] at q; cases q; exact ⟨o, e', r⟩) (fun _ _ _ _ => trivial) hcell hkind hx ⟨_, Heap.get?_push_size _ rfl, rfl, rfl⟩ (fun b hb => ?_)
    (F.keeps fun _ _ e => Heap.get?_push_of_some _ e) (N.grown fun _ _ e => Heap.get?_push_of_some _ e) (Nat.ne_of_lt F.ns.lt) (next_is_new F) (fun p hp => Nat.ne_of_lt (Heap.lt_size (N p hp).1)) hkp hknf hJ0 (fun z hz => hEr z hz _)
    (fun i v ys nw I oI C oC D m₂ h tk hi ⟨c, u, hc, hv⟩ hJ hC hx' => turn i _ u ys nw I oI C oC D m₂ h tk (KBw.ints_get hc) hJ hC (hv ▸ hx')) fin
  rw [List.mem_singleton.mp hb]
  show s.heap.objs.size < (s.heap.push _).objs.size
  rw [Heap.size_push]; exact Nat.lt_succ_self _

/-! loops -/
noncomputable def Same (stored : List Str) (m₀ m' : Str → Option Value) : Prop := ∀ z, stored.contains z = false → m' z = m₀ z
theorem Same.map {stored : List Str} {m₀ m' : Str → Option Value} (h : Same stored m₀ m') : m' = fun z => if stored.contains z then m' z else m₀ z := by
  funext z
  cases q : stored.contains z with
  | true => rfl
  | false => exact h z q
noncomputable def TurnPost (h₀ : Heap) (L I : Addr) (it : Obj) (stored : List Str) (m₀ : Str → Option Value) (J : (Str → Option Value) → List (Addr × Obj) → Prop) (s₁ : Shared) (f : Flow) (s₂ : Shared) : Prop :=
  f = .next ∧ ∃ h' tk m' news', s₂ = { s₁ with heap := h', toks := tk } ∧ Fr h₀ L h' m' ∧ News h₀ L h' ((I, it) :: news') ∧ (∀ p ∈ news', p.1 ≠ I) ∧ Same stored m₀ m' ∧ J m' news'
theorem TurnPost.intro {I : Addr} {it : Obj} {stored : List Str} {m₀ m' : Str → Option Value} {J : (Str → Option Value) → List (Addr × Obj) → Prop} {s₁ : Shared} {h' : Heap} {tk : Nat} {all : List (Addr × Obj)} (F : Fr h₀ L h' m') (N : News h₀ L h' all) (news' : List (Addr × Obj))
    (sub : ∀ p ∈ (I, it) :: news', p ∈ all) (off : ∀ p ∈ news', p.1 ≠ I) (hm : Same stored m₀ m') (j : J m' news') : TurnPost h₀ L I it stored m₀ J s₁ .next { s₁ with heap := h', toks := tk } := ⟨rfl, h', tk, m', news', rfl, F, fun p hp => N p (sub p hp), off, hm, j⟩

noncomputable def AtFor1 (prog : Program) (w : World) (A : Around) (h₀ : Heap) (env : Env) (x : Str) (body : List Stmt) (Q : Flow → Shared → Prop) (E : Value → Shared → Prop) (xv : Value) (s₁ : Shared) : Prop :=
  wpAny (model prog w) A (pyIter xv) (fun it s₂ => LoopAtV prog w A h₀ env x body Q E it s₂) E s₁
theorem for1 {Q : Flow → Shared → Prop} {x : Str} {px pos : Pos} {iter : PySem.Expr} {body : List Stmt} (_F : Fr h₀ env.locals s.heap m) (hx : env.kindOf x = some .local)
    (hp : (env.scope.kind == .class || (env.scope.kind == .module && env.locals != env.globals)) = false) (hs : ∀ x, foldedSetIterable iter env x = pure x) (hE : PassesOwn (model prog w) A env E)
    (h : wpAny (model prog w) A (eval iter env) (AtFor1 prog w A h₀ env x body Q E) E s) : wpAny (model prog w) A (exec (.For (.Name x px) iter body [] pos) env) Q E s := For_invV h₀ hx hp h hs hE

theorem loop1_walks {x : Str} {body : List Stmt} {Q : Flow → Shared → Prop} {I : Addr} {fp : List Addr} {n : Nat} {P : Nat → Value → Prop} {St : Nat → Heap → Prop} {m₀ : Str → Option Value} {news : List (Addr × Obj)} (stored : List Str) (J : Nat → (Str → Option Value) → List (Addr × Obj) → Prop)
    (W : Walks prog w A I fp [I] n P St) (hIo : ∀ i h, St i h → ∃ o, h.get? I = some o) (hIf : I ∈ fp)
    (hLf : env.locals ∉ fp) (hI : h₀.get? I = none) (hnI : ∀ p ∈ news, p.1 ≠ I) (hst : St 0 s.heap) (F : Fr h₀ env.locals s.heap m₀) (N : News h₀ env.locals s.heap news) (hJ : J 0 m₀ news)
    (hfp : ∀ b ∈ fp, b = I ∨ (∃ o, h₀.get? b = some o) ∨ ∃ o, ∀ i m₁ news₁, J i m₁ news₁ → (b, o) ∈ news₁)
    (turn : ∀ i v m₁ news₁ h tk it, i < n → P i v → J i m₁ news₁ → Same stored m₀ m₁ → Fr h₀ env.locals h (fun y => if y = x then some v else if stored.contains y then m₁ y else m₀ y) → News h₀ env.locals h ((I, it) :: news₁) → (∀ p ∈ news₁, p.1 ≠ I) →
      wpAny (model prog w) A (execs body env) (TurnPost h₀ env.locals I it stored m₀ (J (i + 1)) { s with heap := h, toks := tk }) E { s with heap := h, toks := tk })
    (done : ∀ m' news' h' tk, J n m' news' → Same stored m₀ m' → Fr h₀ env.locals h' (fun y => if stored.contains y then m' y else m₀ y) → News h₀ env.locals h' news' → Q .next { s with heap := h', toks := tk }) :
    LoopAtV prog w A h₀ env x body Q E (.ref I) s := by
  refine (xi9 I fp [I] n P St m₀ news (fun i m₁ news₁ => J i m₁ news₁ ∧ Same stored m₀ m₁) ⟨rfl, W, hLf, fun b hb => by rw [List.mem_singleton.mp hb]; exact hI, fun p hp hm => hnI p hp (List.mem_singleton.mp hm), hst, F, N, ⟨hJ, fun _ _ => rfl⟩, ?_, ?_⟩)
  · intro i v m₁ news₁ s₁ own hJz1
    refine (let Gz : Prop := _; (?_ : Gz))
    (refine ex2 (hJz1) fun h tk hEz28_2 => ?_; clear hJz1; subst hEz28_2)
    k_unfold; clear Gz
    intro hi hP hJz2
    refine (let Gz : Prop := _; (?_ : Gz))
    obtain ⟨hJ₁, hS⟩ := hJz2
    k_unfold; clear Gz
    intro hoff hsub hown hall hst₁ F₁ N₁
    refine (let Gz : Prop := _; (?_ : Gz))
    obtain ⟨it, hit⟩ := hIo _ _ hst₁
    k_unfold; clear Gz
    have off : ∀ p ∈ news₁, p.1 ≠ I := fun p hp e => hoff p hp (List.mem_singleton.mpr e)
    have hmap := hS.map
    have F₂ : Fr h₀ env.locals h (fun y => if y = x then some v else if stored.contains y then m₁ y else m₀ y) := by
      have e : (fun y => if y = x then some v else if stored.contains y then m₁ y else m₀ y) = fun y => if y = x then some v else m₁ y := by
        funext y
        by_cases q : y = x
        · simp [q]
        · simp only [if_neg q]; exact (congrFun hmap y).symm
      rw [e]; exact F₁
    have hLI : env.locals ≠ I := fun q => hLf (q ▸ hIf)
    refine wpAny_mono (turn i v m₁ news₁ h tk it hi hP hJ₁ hS F₂ (fun p hp => ?_) off) (fun f s₂ hp => ?_) fun _ _ e => e
    · rcases List.mem_cons.mp hp with rfl | hp
      · exact ⟨hit, Ne.symm hLI, hI⟩
      · exact N₁ p (List.mem_append_right _ hp)
    · refine (let Gz : Prop := _; (?_ : Gz))
      obtain ⟨rfl, h', tk', m', news', rfl, F', N', off', hS', hJ'⟩ := hp
      k_unfold; clear Gz
      refine LoopStepV.next ⟨rfl, xi4 h' tk' m' news' ⟨rfl, F', fun p hp => ?_, fun p hp hm => off' p hp (List.mem_singleton.mp hm), hJ', hS'⟩⟩
      rcases List.mem_append.mp hp with hp | hp
      · have hv := hown p hp
        rcases hfp p.1 (hsub p hp) with e | ⟨o, e⟩ | ⟨o, e⟩
        · have := N' (I, it) (.head _)
          dsimp only at this hv
          rw [e, hit] at hv
          rw [← Option.some.inj hv, e]; exact this
        · have := (N₁ p (List.mem_append_left _ hp)).2.2
          rw [this] at e; cases e
        · have h1 := (N₁ _ (List.mem_append_right _ (e _ _ _ hJ₁))).1
          have h2 := N' _ (.tail _ (e _ _ _ hJ'))
          dsimp only at h1 h2 hv
          rw [h1] at hv
          rw [← Option.some.inj hv]; exact h2
      · exact N' p (.tail _ hp)
  · intro h' tk m' news' F' N' _ hJz5
    refine (let Gz : Prop := _; (?_ : Gz))
    obtain ⟨hJ', hS'⟩ := hJz5
    k_unfold; clear Gz
    have hmap := hS'.map
    exact done m' news' h' tk hJ' hS' (hmap ▸ F') N'

theorem for1_list {x : Str} {body : List Stmt} {Q : Flow → Shared → Prop} {l : Addr} {vs : Array Value} {k : Nat} {m₀ : Str → Option Value} {news : List (Addr × Obj)} (stored : List Str) (J : Nat → (Str → Option Value) → List (Addr × Obj) → Prop) (hh : A.handled = none)
    (F : Fr h₀ env.locals s.heap m₀) (N : News h₀ env.locals s.heap news) (hJl : ∀ i m₁ news₁, J i m₁ news₁ → (l, ({ cls := .type "list", data := .seq vs k } : Obj)) ∈ news₁) (hJ : J 0 m₀ news)
    (turn : ∀ i v m₁ news₁ h tk I it, vs[i]? = some v → J i m₁ news₁ → Same stored m₀ m₁ → Fr h₀ env.locals h (fun y => if y = x then some v else if stored.contains y then m₁ y else m₀ y) → News h₀ env.locals h ((I, it) :: news₁) → (∀ p ∈ news₁, p.1 ≠ I) →
      wpAny (model prog w) A (execs body env) (TurnPost h₀ env.locals I it stored m₀ (J (i + 1)) { s with heap := h, toks := tk }) E { s with heap := h, toks := tk })
    (done : ∀ m' news' h' tk, J vs.size m' news' → Same stored m₀ m' → Fr h₀ env.locals h' (fun y => if stored.contains y then m' y else m₀ y) → News h₀ env.locals h' news' → Q .next { s with heap := h', toks := tk }) :
    AtFor1 prog w A h₀ env x body Q E (.ref l) s := by
  have hl : s.heap.IsList l vs := ⟨_, (N _ (hJl _ _ _ hJ)).1, rfl, k, rfl⟩
  have hlL := (N _ (hJl _ _ _ hJ)).2
  have hlt : l < s.heap.objs.size := Heap.lt_size (N _ (hJl _ _ _ hJ)).1
  refine wpAny_pyIter_list hl ?_
  refine loop1_walks stored J (Walks.list hh s.heap.objs.size l (Nat.ne_of_lt hlt) vs) (fun i h st => by obtain ⟨o, e, _⟩ := st.1; exact ⟨o, e⟩) (List.mem_cons_self ..) ?_ (next_is_new F) (fun p hp => Nat.ne_of_lt (Heap.lt_size (N p hp).1))
    ⟨⟨_, Heap.get?_push_size _ rfl, rfl, rfl⟩, hl.at fun o e => Heap.get?_push_of_some _ e⟩ (F.push _) (N.grown fun _ _ e => Heap.get?_push_of_some _ e) hJ ?_ (fun i v m₁ news₁ h tk it _ hv => turn i v m₁ news₁ h tk _ it hv) done
  · intro hm
    rcases List.mem_cons.mp hm with e | hm
    · exact absurd F.ns.lt (e ▸ Nat.lt_irrefl _)
    · exact hlL.1 (List.mem_singleton.mp hm).symm
  · intro b hb
    rcases List.mem_cons.mp hb with rfl | hb
    · exact .inl rfl
    · rw [List.mem_singleton.mp hb]
      exact .inr (.inr ⟨_, hJl⟩)

theorem for1_range {x : Str} {body : List Stmt} {Q : Flow → Shared → Prop} {r : Addr} {a b : Int} {t u v : Tok} {n : Nat} {m₀ : Str → Option Value} {news : List (Addr × Obj)} (stored : List Str) (J : Nat → (Str → Option Value) → List (Addr × Obj) → Prop) (hh : A.handled = none)
    (F : Fr h₀ env.locals s.heap m₀) (N : News h₀ env.locals s.heap news) (hr : IsRange s.heap r a b 1 t u v) (hsm : Builtin.Range.small a b 1 = true) (hn : Builtin.Range.rangeSize a b 1 = ((n : Nat) : Int)) (hJ : J 0 m₀ news)
    (turn : ∀ i ti m₁ news₁ h tk I it, i < n → J i m₁ news₁ → Same stored m₀ m₁ → Fr h₀ env.locals h (fun y => if y = x then some (.int (a + (i : Int)) ti) else if stored.contains y then m₁ y else m₀ y) → News h₀ env.locals h ((I, it) :: news₁) → (∀ p ∈ news₁, p.1 ≠ I) →
      wpAny (model prog w) A (execs body env) (TurnPost h₀ env.locals I it stored m₀ (J (i + 1)) { s with heap := h, toks := tk }) E { s with heap := h, toks := tk })
    (done : ∀ m' news' h' tk, J n m' news' → Same stored m₀ m' → Fr h₀ env.locals h' (fun y => if stored.contains y then m' y else m₀ y) → News h₀ env.locals h' news' → Q .next { s with heap := h', toks := tk }) :
    AtFor1 prog w A h₀ env x body Q E (.ref r) s := by
  refine wpAny_pyIter_range hr hsm ?_
  refine loop1_walks stored J (range_walks hh a n) (fun i h st => ⟨_, st⟩) (List.mem_cons_self ..) (fun hm => absurd F.ns.lt ((List.mem_singleton.mp hm) ▸ Nat.lt_irrefl _)) (next_is_new F) (fun p hp => Nat.ne_of_lt (Heap.lt_size (N p hp).1))
    (by show IsRangeIter _ _ _ _ _; rw [hn]; simpa using Heap.get?_push_size _ rfl) (F.push _) (N.grown fun _ _ e => Heap.get?_push_of_some _ e) hJ (fun b hb => .inl (List.mem_singleton.mp hb)) (fun i v m₁ news₁ h tk it hi ⟨ti, hv⟩ hJ₁ hS F₁ => turn i ti m₁ news₁ h tk _ it hi hJ₁ hS (hv ▸ F₁)) done
end
end Mine
end
section
open PyProof.Rows.LCg
namespace Mine
theorem reset_Y2 : True := by
  w_top off
  exact trivial
section
variable {prog : Program} {w : World} {A A₀ : Around} {E : Value → Shared → Prop} {s : Shared} {base h₀ : Heap} {L : Addr} {m : Str → Option Value} {env : Env} {outer : List Env}
/-- a loop over a list of the ledger's pairs -/
theorem loop2 {x x₂ : Str} {px px₂ tp : Pos} {kk : Nat} {body : List Stmt} {R : Result → Shared → Prop} {I l : Addr} {vs : Array Value} {k : Nat} {m₀ : Str → Option Value} {news : List (Addr × Obj)} (stored : List Str) (J : Nat → (Str → Option Value) → List (Addr × Obj) → Prop) (hh : A.handled = none)
    (F : Fr h₀ env.locals s.heap m₀) (N : News h₀ env.locals s.heap news) (hx : env.kindOf x = some .local) (hx₂ : env.kindOf x₂ = some .local)
    (hp : (env.scope.kind == .class || (env.scope.kind == .module && env.locals != env.globals)) = false)
    (hLI : env.locals ≠ I) (hI₀ : h₀.get? I = none) (hoff : ∀ p ∈ news, p.1 ≠ I) (hst : s.heap.IsListIter I l 0)
    (hJl : ∀ i m₁ news₁, J i m₁ news₁ → (l, ({ cls := .type "list", data := .seq vs k } : Obj)) ∈ news₁) (hJ : J 0 m₀ news)
    (hpair : ∀ i v m₁ news₁, vs[i]? = some v → J i m₁ news₁ → ∃ (t : Addr) (ot : Obj) (v₁ v₂ : Value) (nt : Nat), v = .ref t ∧ (t, ot) ∈ news₁ ∧ ot.cls = .type "tuple" ∧ ot.data = .seq #[v₁, v₂] nt)
    (turn : ∀ i v m₁ news₁ h tk I it, vs[i]? = some v → J i m₁ news₁ → ∀ (t : Addr) (ot : Obj) (v₁ v₂ : Value) (nt : Nat), v = .ref t → (t, ot) ∈ news₁ → ot.cls = .type "tuple" → ot.data = .seq #[v₁, v₂] nt → Same stored m₀ m₁ →
      Fr h₀ env.locals h (fun y => if y = x₂ then some v₂ else if y = x then some v₁ else if stored.contains y then m₁ y else m₀ y) → News h₀ env.locals h ((I, it) :: news₁) → (∀ p ∈ news₁, p.1 ≠ I) →
      wpAny (model prog w) A (execs body env) (TurnPost h₀ env.locals I it stored m₀ (J (i + 1)) { s with heap := h, toks := tk }) (notedBy (model prog w) A env fun e s' => R (.error e) s') { s with heap := h, toks := tk })
    (done : ∀ m' news' h' tk, J vs.size m' news' → Same stored m₀ m' → Fr h₀ env.locals h' (fun y => if stored.contains y then m' y else m₀ y) → News h₀ env.locals h' news' → R (.ok .next) { s with heap := h', toks := tk }) :
    codeAny (model prog w) A (.forLoop (.Tuple [.Name x px, .Name x₂ px₂] kk tp) (.ref I) body [] env) R s := by
  have hne : l ≠ I := hoff _ (hJl _ _ _ hJ)
  have W := Walks.list (prog := prog) (w := w) (A := A) hh I l hne vs
  have hl : s.heap.IsList l vs := ⟨_, (N _ (hJl _ _ _ hJ)).1, rfl, k, rfl⟩
  refine codeAny_forLoop_any
    (fun kx s' => ∃ h' tk m' news' i, s' = { s with heap := h', toks := tk } ∧ h'.IsListIter I l i ∧ Fr h₀ env.locals h' m' ∧ News h₀ env.locals h' news' ∧ (∀ p ∈ news', p.1 ≠ I) ∧ J i m' news' ∧ Same stored m₀ m' ∧ i ≤ vs.size ∧ kx = vs.size + 1 - i) ?_ (vs.size + 1)
    (xi5 s.heap s.toks m₀ news 0 ⟨rfl, hst, F, N, hoff, hJ, fun _ _ => rfl, Nat.zero_le _, rfl⟩)
  intro kx s' hJz1
  refine (let Gz : Prop := _; (?_ : Gz))
  (refine ex5 (hJz1) fun h' tk m' news' i hAz30 => ?_; clear hJz1; refine and9 (hAz30) fun hEz30_5 hst' F' N' hoff' hJ' hS hi hEz30_13 => ?_; clear hAz30; subst hEz30_5; subst hEz30_13)
  k_unfold; clear Gz
  have hl' : h'.IsList l vs := ⟨_, (N' _ (hJl _ _ _ hJ')).1, rfl, k, rfl⟩
  by_cases hlt : i < vs.size
  · refine W.item i _ _ _ hlt ⟨hst', hl'⟩ fun v h₁ tk₁ hPv hst₁ hk₁ => ?_
    have F₁ : Fr h₀ env.locals h₁ m' := fr_but F' hk₁ hLI hI₀
    have N₁ : News h₀ env.locals h₁ news' := news_but N' hk₁ hoff'
    refine (let Gz : Prop := _; (?_ : Gz))
    (refine ex5 (hpair i _ m' news' hPv hJ') fun t ot v₁ v₂ nt hAz32 => ?_; refine and4 (hAz32) fun hEz32_5 hmt hct hdt => ?_; clear hAz32; subst hEz32_5)
    k_unfold; clear Gz
    have ht : IsTup h₁ t #[v₁, v₂] := ⟨ot, (N₁ _ hmt).1, hct, nt, hdt⟩
    refine wpAny_letOwnedTupleGo_listiter hst₁.1 ?_
    refine assign_Tuple_tuple hh ht rfl rfl fun h₅ he => ?_
    have he' : ∀ b o, h₁.get? b = some o → h₅.get? b = some o := fun b o e => he b o (Nat.ne_of_lt (Heap.lt_size e)) e
    have F₅ := F₁.keeps he'
    refine assignInOrder_cons (wpAny_assign_Name (wpAny_storeName_local hx F₅.ns (fun h₆ hn₆ hs₆ => ?_) hp))
    have F₆ := F₅.set hn₆ hs₆
    refine assignInOrder_cons (wpAny_assign_Name (wpAny_storeName_local hx₂ F₆.ns (fun h₇ hn₇ hs₇ => ?_) hp))
    have F₇ := F₆.set hn₇ hs₇
    refine assignInOrder_nil ?_
    have N₇ : News h₀ env.locals h₇ news' := fun p hp => ⟨hs₇.extBut _ _ (N₁ p hp).2.1 (hs₆.extBut _ _ (N₁ p hp).2.1 (he' _ _ (N₁ p hp).1)), (N₁ p hp).2⟩
    refine (let Gz : Prop := _; (?_ : Gz))
    (refine ex1 (hst₁.1) fun oI hAz33 => ?_; refine and2 (hAz33) fun hoI rI => ?_; clear hAz33)
    k_unfold; clear Gz
    have hI₇ : h₇.get? I = some oI := hs₇.extBut _ _ (Ne.symm hLI) (hs₆.extBut _ _ (Ne.symm hLI) (he' _ _ hoI))
    have hmap := hS.map
    have e : (fun y => if y = x₂ then some v₂ else if y = x then some v₁ else if stored.contains y then m' y else m₀ y) = fun y => if y = x₂ then some v₂ else (fun y => if y = x then some v₁ else m' y) y := by
      funext y
      dsimp only
      rw [← congrFun hmap y]
    refine wpAny_mono (turn i _ m' news' h₇ _ I oI hPv hJ' t ot v₁ v₂ nt rfl hmt hct hdt hS (e ▸ F₇) (fun p hp => ?_) hoff') (fun f s₂ hp => ?_) fun _ _ e => e
    · rcases List.mem_cons.mp hp with rfl | hp
      · exact ⟨hI₇, Ne.symm hLI, hI₀⟩
      · exact N₇ p hp
    · refine (let Gz : Prop := _; (?_ : Gz))
      obtain ⟨rfl, h'', tk', m'', news'', rfl, F'', N'', off'', hS'', hJ''⟩ := hp
      k_unfold; clear Gz
      exact ⟨vs.size + 1 - (i + 1), by omega, xi5 h'' tk' m'' news'' (i + 1) ⟨rfl, ⟨oI, (N'' _ (.head _)).1, rI⟩, F'', fun p hp => N'' p (.tail _ hp), off'', hJ'', hS'', hlt, rfl⟩⟩
  · obtain rfl : i = vs.size := Nat.le_antisymm hi (Nat.not_lt.mp hlt)
    refine W.done _ _ _ ⟨hst', hl'⟩ fun h₁ tk₁ hk₁ => wpAny_execs_nil ?_
    have hmap := hS.map
    exact done m' news' h₁ _ hJ' hS (hmap ▸ (fr_but F' hk₁ hLI hI₀)) (news_but N' hk₁ hoff')

noncomputable def AtFor2 (prog : Program) (w : World) (A : Around) (env : Env) (target : PySem.Expr) (body : List Stmt) (Q : Flow → Shared → Prop) (E : Value → Shared → Prop) (xv : Value) (s₁ : Shared) : Prop :=
  wpAny (model prog w) A (pyIter xv) (fun it s₂ => codeAny (model prog w) A (.forLoop target it body [] env) (fun r s' => match r with | .ok f => Q f s' | .error e => cameBackBy (model prog w) A env E e s') s₂) E s₁
theorem for2 {Q : Flow → Shared → Prop} {target iter : PySem.Expr} {pos : Pos} {body : List Stmt}
    (hs : ∀ x, foldedSetIterable iter env x = pure x)
    (h : wpAny (model prog w) A (eval iter env) (AtFor2 prog w A env target body Q E) E s) : wpAny (model prog w) A (exec (.For target iter body [] pos) env) Q E s :=
  wpAny_For (wpAny_mono h (fun xv s₁ h₁ => wpAny_mono h₁ (fun it s₂ h₂ => h₂) fun _ _ e => e) fun _ _ e => e) hs

theorem for2_list {x x₂ : Str} {px px₂ tp : Pos} {kk : Nat} {body : List Stmt} {Q : Flow → Shared → Prop} {l : Addr} {vs : Array Value} {k : Nat} {m₀ : Str → Option Value} {news : List (Addr × Obj)} (stored : List Str) (J : Nat → (Str → Option Value) → List (Addr × Obj) → Prop) (hh : A.handled = none)
    (F : Fr h₀ env.locals s.heap m₀) (N : News h₀ env.locals s.heap news) (hx : env.kindOf x = some .local) (hx₂ : env.kindOf x₂ = some .local)
    (hp : (env.scope.kind == .class || (env.scope.kind == .module && env.locals != env.globals)) = false) (hE : PassesOwn (model prog w) A env E)
    (hJl : ∀ i m₁ news₁, J i m₁ news₁ → (l, ({ cls := .type "list", data := .seq vs k } : Obj)) ∈ news₁) (hJ : J 0 m₀ news)
    (hpair : ∀ i v m₁ news₁, vs[i]? = some v → J i m₁ news₁ → ∃ (t : Addr) (ot : Obj) (v₁ v₂ : Value) (nt : Nat), v = .ref t ∧ (t, ot) ∈ news₁ ∧ ot.cls = .type "tuple" ∧ ot.data = .seq #[v₁, v₂] nt)
    (turn : ∀ i v m₁ news₁ h tk I it, vs[i]? = some v → J i m₁ news₁ → ∀ (t : Addr) (ot : Obj) (v₁ v₂ : Value) (nt : Nat), v = .ref t → (t, ot) ∈ news₁ → ot.cls = .type "tuple" → ot.data = .seq #[v₁, v₂] nt → Same stored m₀ m₁ →
      Fr h₀ env.locals h (fun y => if y = x₂ then some v₂ else if y = x then some v₁ else if stored.contains y then m₁ y else m₀ y) → News h₀ env.locals h ((I, it) :: news₁) → (∀ p ∈ news₁, p.1 ≠ I) →
      wpAny (model prog w) A (execs body env) (TurnPost h₀ env.locals I it stored m₀ (J (i + 1)) { s with heap := h, toks := tk }) E { s with heap := h, toks := tk })
    (done : ∀ m' news' h' tk, J vs.size m' news' → Same stored m₀ m' → Fr h₀ env.locals h' (fun y => if stored.contains y then m' y else m₀ y) → News h₀ env.locals h' news' → Q .next { s with heap := h', toks := tk }) :
    AtFor2 prog w A env (.Tuple [.Name x px, .Name x₂ px₂] kk tp) body Q E (.ref l) s := by
  have hl : s.heap.IsList l vs := ⟨_, (N _ (hJl _ _ _ hJ)).1, rfl, k, rfl⟩
  refine wpAny_pyIter_list hl ?_
  exact loop2 (s := { s with heap := _ }) stored J hh (F.push _) (N.grown fun _ _ e => Heap.get?_push_of_some _ e) hx hx₂ hp (Nat.ne_of_lt F.ns.lt) (next_is_new F) (fun p hp => Nat.ne_of_lt (Heap.lt_size (N p hp).1))
    ⟨_, Heap.get?_push_size _ rfl, rfl, rfl⟩ hJl hJ hpair (fun i v m₁ news₁ h tk I it hv hJ₁ t ot v₁ v₂ nt e1 e2 e3 e4 hS F₁ N₁ o₁ => wpAny_passesOwn hE (turn i v m₁ news₁ h tk I it hv hJ₁ t ot v₁ v₂ nt e1 e2 e3 e4 hS F₁ N₁ o₁)) done
end
end Mine
end
section
namespace Mine
theorem reset_B1 : True := by
  w_top off
  exact trivial
theorem or_small {x y : Int} (hx : 0 ≤ x) (hy : 0 ≤ y) (hy' : y < 256) : Builtin.bitOr (x * 2 ^ (8 : Int).toNat) y = 256 * x + y := by
  obtain ⟨a, rfl⟩ := Int.eq_ofNat_of_zero_le hx
  obtain ⟨b, rfl⟩ := Int.eq_ofNat_of_zero_le hy
  have hb : b < 2 ^ 8 := by (first | lia | omega)
  have e := Nat.two_pow_add_eq_or_of_lt hb a
  have e8 : (2 : Int) ^ (8 : Int).toNat = 256 := by decide
  rw [e8]
  have n1 : ∀ z : Nat, Builtin.bitNot (z : Int) = -(z : Int) - 1 := fun _ => rfl
  have n2 : ¬ (0 ≤ -(((a * 256 : Nat)) : Int) - 1) := by (first | lia | omega)
  have n3 : ¬ (0 ≤ -((b : Nat) : Int) - 1) := by (first | lia | omega)
  have e1 : ((a : Int) * 256) = ((a * 256 : Nat) : Int) := by (first | lia | omega)
  rw [e1]
  unfold Builtin.bitOr Builtin.bitAnd
  rw [n1, n1]
  have m1 : decide (0 ≤ -(((a * 256 : Nat)) : Int) - 1) = false := decide_eq_false n2
  have m2 : decide (0 ≤ -((b : Nat) : Int) - 1) = false := decide_eq_false n3
  simp only [m1, m2]
  have k : ∀ z : Int, Builtin.bitNot z = -z - 1 := fun _ => rfl
  simp only [k]
  have t1 : (-(-(((a * 256 : Nat)) : Int) - 1) - 1).toNat = 2 ^ 8 * a := by (first | lia | omega)
  have t2 : (-(-((b : Nat) : Int) - 1) - 1).toNat = b := by (first | lia | omega)
  rw [t1, t2, ← e]
  (first | lia | omega)
end Mine
end
section
namespace Mine
theorem reset_M0 : True := by
  w_top off
  exact trivial
theorem KeptIn.mono {kp news news' : List (Addr × Obj)} (h : KeptIn kp news) (hs : ∀ p ∈ news, p ∈ news') : KeptIn kp news' := ⟨fun p hp => hs p (h.1 p hp), h.2⟩
theorem allNe_of {d : Addr} {l : List (Addr × Obj)} (h : AllLt d l) : ∀ p ∈ l, p.1 ≠ d := fun p hp => Nat.ne_of_lt (ktn_ltOf h p hp)
theorem allLt_app {d : Addr} : ∀ {l l' : List (Addr × Obj)}, AllLt d (l ++ l') → AllLt d l ∧ AllLt d l'
  | [], _, h => ⟨trivial, h⟩
  | _ :: _, _, h => ⟨⟨h.1, (allLt_app h.2).1⟩, (allLt_app h.2).2⟩
theorem News.sub {h₀ h : Heap} {L : Addr} {news news' : List (Addr × Obj)} (N : News h₀ L h news) (hs : ∀ p ∈ news', p ∈ news) : News h₀ L h news' := fun p hp => N p (hs p hp)
/-- what a call makes lies above what stood -/
noncomputable def Ord (tl news : List (Addr × Obj)) : Prop := ∀ q ∈ tl, ∀ p ∈ news, p.1 < q.1
/-! the plain readers, over the octets as ints -/
noncomputable def u16At (D : List Int) (i : Int) : Int := 256 * D.getD i.toNat 0 + D.getD (i.toNat + 1) 0
noncomputable def Out (D : List Int) (i c : Int) : Prop := i < 0 ∨ i + c > (D.length : Int)
noncomputable def outD (D : List Int) (i c : Int) : Decidable (Out D i c) := by unfold Out; infer_instance
noncomputable def rdU16 (D : List Int) (i : Int) : Except Int Int := @ite _ (Out D i 2) (outD _ _ _) (.error i) (.ok (u16At D i))
noncomputable abbrev Cl (w : World) (dp un : Nat) (gd : Option (List Code)) (cn : Str) (cs : Scope) (L a : Addr) (ccd : Value) (cl : List (Str × Addr)) (outer : List Env) (f : Addr) (vs : List Value) (Q E : Value → Shared → Prop) (s : Shared) : Prop :=
  wpAny (model PySem.Challenge.rw_nu0165_01.row.prog w) (ktrTop dp un gd cn cs L a ccd cl outer) (call (.ref f) vs) Q E s
end Mine
end
section
namespace Mine
theorem reset_M1 : True := by
  w_top off
  exact trivial
theorem room_n {a c k K R : Nat} (h : a + K < R) (hk : c + k ≤ K) : a + c + k < R := by (first | lia | omega)
theorem KeptIn.re {kp news news' : List (Addr × Obj)} (h : KeptIn kp news) (hs : ∀ p ∈ kp, p ∈ news') : KeptIn kp news' := ⟨hs, h.2⟩
theorem KeptIn.in_of {kp news news' : List (Addr × Obj)} (h : KeptIn kp news) (hs : ∀ p ∈ news, p ∈ news') : ∀ p ∈ kp, p ∈ news' := fun p hp => hs p (h.1 p hp)
theorem news_swap {h₀ h : Heap} {L : Addr} {p q : Addr × Obj} {r : List (Addr × Obj)} (N : News h₀ L h (p :: q :: r)) : News h₀ L h (q :: p :: r) :=
  fun x hx => N x (by rcases List.mem_cons.mp hx with rfl | hx; exact .tail _ (.head _); rcases List.mem_cons.mp hx with rfl | hx; exact .head _; exact .tail _ (.tail _ hx))
theorem news_front {h₀ h : Heap} {L : Addr} {l : List (Addr × Obj)} (N : News h₀ L h l) (k : Nat) {l' : List (Addr × Obj)} (hl : l' = (l.drop k).take 1 ++ (l.take k ++ l.drop (k + 1)) := by rfl) : News h₀ L h l' := by
  subst hl
  intro x hx
  rcases List.mem_append.mp hx with hx | hx
  · exact N x (List.mem_of_mem_drop (List.mem_of_mem_take hx))
  · rcases List.mem_append.mp hx with hx | hx
    · exact N x (List.mem_of_mem_take hx)
    · exact N x (List.mem_of_mem_drop hx)
theorem news_pick2 {h₀ h : Heap} {L : Addr} {q p0 p1 : Addr × Obj} {r : List (Addr × Obj)} (N : News h₀ L h (p0 :: p1 :: q :: r)) : News h₀ L h (q :: p0 :: p1 :: r) :=
  news_front N 2
theorem news_pick3 {h₀ h : Heap} {L : Addr} {q p0 p1 p2 : Addr × Obj} {r : List (Addr × Obj)} (N : News h₀ L h (p0 :: p1 :: p2 :: q :: r)) : News h₀ L h (q :: p0 :: p1 :: p2 :: r) :=
  news_front N 3
theorem news_pick4 {h₀ h : Heap} {L : Addr} {q p0 p1 p2 p3 : Addr × Obj} {r : List (Addr × Obj)} (N : News h₀ L h (p0 :: p1 :: p2 :: p3 :: q :: r)) : News h₀ L h (q :: p0 :: p1 :: p2 :: p3 :: r) :=
  news_front N 4
theorem news_pick5 {h₀ h : Heap} {L : Addr} {q p0 p1 p2 p3 p4 : Addr × Obj} {r : List (Addr × Obj)} (N : News h₀ L h (p0 :: p1 :: p2 :: p3 :: p4 :: q :: r)) : News h₀ L h (q :: p0 :: p1 :: p2 :: p3 :: p4 :: r) :=
  news_front N 5
theorem news_pick6 {h₀ h : Heap} {L : Addr} {q p0 p1 p2 p3 p4 p5 : Addr × Obj} {r : List (Addr × Obj)} (N : News h₀ L h (p0 :: p1 :: p2 :: p3 :: p4 :: p5 :: q :: r)) : News h₀ L h (q :: p0 :: p1 :: p2 :: p3 :: p4 :: p5 :: r) :=
  news_front N 6
theorem news_pick7 {h₀ h : Heap} {L : Addr} {q p0 p1 p2 p3 p4 p5 p6 : Addr × Obj} {r : List (Addr × Obj)} (N : News h₀ L h (p0 :: p1 :: p2 :: p3 :: p4 :: p5 :: p6 :: q :: r)) : News h₀ L h (q :: p0 :: p1 :: p2 :: p3 :: p4 :: p5 :: p6 :: r) :=
  news_front N 7
/-- what a call makes lies apart from what stood -/
noncomputable def Apart (tl news : List (Addr × Obj)) : Prop := ∀ q ∈ tl, ∀ p ∈ news, p.1 ≠ q.1
/-- the walk halts here -/
noncomputable def Stop (P : Prop) : Prop := P
theorem of_stop {P : Prop} (h : Stop P) : P := h
section
variable {prog : Program} {w : World} {A : Around} {E : Value → Shared → Prop} {s : Shared} {h₀ : Heap} {L l l2 : Addr} {m : Str → Option Value} {news news' n₁ : List (Addr × Obj)} {vs : List Value} {ds : List Dat} {Q : Value → Shared → Prop}
open Classical in
theorem ne_nil_K (N : News h₀ L s.heap news) (ma : (l, LCg.lst vs) ∈ news) (mb : (l2, PySem.W.listOf #[] 0) ∈ news) (Da : DatAll n₁ vs ds) (sa : ∀ p ∈ n₁, p ∈ news) (ha : ∀ d ∈ ds, kqdOk 8 d = true) (hu : A.units + 64 < cLine) (h : Q (.bool (!decide (ds = []))) s) :
    wpAny (model prog w) A (compareOp .NotEq (.ref l) (.ref l2)) Q E s :=
  kqd_ne (ys := []) (es := []) (n₂ := []) N ma rfl rfl Da sa mb rfl rfl .nil (fun _ h => nomatch h) ha (fun _ h => nomatch h) hu h
theorem ne_nil_K0 (N : News h₀ L s.heap news) (ma : (l, LCg.lst []) ∈ news) (mb : (l2, LCg.lst []) ∈ news) (hu : A.units + 64 < cLine) (h : Q (.bool false) s) : wpAny (model prog w) A (compareOp .NotEq (.ref l) (.ref l2)) Q E s :=
  ne_nil_K N ma mb (n₁ := []) .nil (fun _ h => nomatch h) (fun _ h => nomatch h) hu (by rw [decide_eq_true rfl]; exact h)
theorem ne_nil_K1 (N : News h₀ L s.heap news) (ma : (l, LCg.lst vs) ∈ news) (mb : (l2, LCg.lst []) ∈ news) (Da : DatAll n₁ vs ds) (sa : ∀ p ∈ n₁, p ∈ news) (ha : ∀ d ∈ ds, kqdOk 8 d = true) (hds : ds ≠ []) (hu : A.units + 64 < cLine) (h : Q (.bool true) s) :
    wpAny (model prog w) A (compareOp .NotEq (.ref l) (.ref l2)) Q E s := ne_nil_K N ma mb Da sa ha hu (by rw [decide_eq_false hds]; exact h)
theorem append_V {x : Value} (F : Fr h₀ L s.heap m) (N : News h₀ L s.heap news) (U : Upd l (LCg.lst vs) (LCg.lst (vs ++ [x])) news news') (hz : vs.length ≤ 1000000)
    (h : ∀ h', Fr h₀ L h' m → News h₀ L h' news' → Q .none { s with heap := h' }) : wpAny (model prog w) A (call (.builtin "list.append") [.ref l, x]) Q E s :=
  append_K (its := vs.toArray) (n := vs.length) F N (by rw [show PySem.W.listOf (vs.toArray.push x) (vs.length + 1) = LCg.lst (vs ++ [x]) from LCg.lst_snoc vs x]; exact U) h (by show vs.toArray.size ≤ sizeLine; rw [List.size_toArray, sizeLine_eq]; (first | lia | omega))
theorem newList_nil (F : Fr h₀ L s.heap m) (N : News h₀ L s.heap news) (h : ∀ l h', Fr h₀ L h' m → News h₀ L h' ((l, LCg.lst []) :: news) → (∀ p ∈ news, p.1 < l) → Q (.ref l) { s with heap := h' }) : wpAny (model prog w) A (newList []) Q E s :=
  newList_K F N h
noncomputable abbrev lsO (vs : List Value) (n : Nat) : Obj := { cls := .type "list", data := .seq vs.toArray n }
theorem list_copyV {n : Nat} (F : Fr h₀ L s.heap m) (N : News h₀ L s.heap news) (hm : (l, lsO vs n) ∈ news) (hz : vs.length ≤ 1000000) (h : ∀ D c h', Fr h₀ L h' m → News h₀ L h' ((D, lsO vs c) :: news) → (∀ q ∈ news, q.1 < D) → Q (.ref D) { s with heap := h' }) :
    wpAny (model prog w) A (call (.type "list") [.ref l]) Q E s :=
  list_copyK F N ⟨_, (N _ hm).1, rfl, _, rfl⟩ h (by rw [List.size_toArray, sizeLine_eq]; (first | lia | omega))
noncomputable abbrev tupO (vs : List Value) : Obj := { cls := .type "tuple", data := .seq vs.toArray }
theorem newTuple_V (F : Fr h₀ L s.heap m) (N : News h₀ L s.heap news) (hz : vs.length ≤ 1000) (h : ∀ l h', Fr h₀ L h' m → News h₀ L h' ((l, tupO vs) :: news) → (∀ p ∈ news, p.1 < l) → Q (.ref l) { s with heap := h' }) : wpAny (model prog w) A (newTuple vs) Q E s :=
  newTuple_N F N (fun h' F' N' => h _ h' F' N' fun p hp => Heap.lt_size (N p hp).1) (by rw [sizeLine_eq]; (first | lia | omega))
theorem Same.of {stored : List Str} {m₀ m' : Str → Option Value} (h : ∀ z, (∀ n ∈ stored, z ≠ n) → stored.contains z = false → m' z = m₀ z) : Same stored m₀ m' := fun z hz =>
  h z (fun n hn e => by subst e; rw [List.contains_iff_mem.mpr hn] at hz; cases hz) hz
theorem last_K {vs' : List Value} {v : Value} {value slice : PySem.Expr} {u : Tok} (N : News h₀ L s.heap news) (ma : (l, LCg.lst (vs' ++ [v])) ∈ news) (h : Q v s)
    (hs : subscripted slice false (.ref l) (.int (-1) u) = operate [.ref l, .int (-1) u] (getItem (.ref l) (.int (-1) u)) := by with_unfolding_all rfl) :
    wpAny (model prog w) A (subscriptTail value slice (.ref l) (.int (-1) u)) Q E s := by
  have hl : s.heap.IsList l (vs' ++ [v]).toArray := ⟨_, (N _ ma).1, rfl, _, rfl⟩
  refine kde_neg hl (by decide) (by decide) (j := vs'.length) ?_ ?_ h hs
  · unfold seqIndex?
    rw [List.length_append, List.length_singleton]
    simp
    (first | lia | omega)
  · rw [List.getElem?_append_right (Nat.le_refl _), Nat.sub_self]; rfl
end
theorem range_small {c : Int} (h0 : 0 ≤ c) (h1 : c < 100000000) : Builtin.Range.small 0 c 1 = true := small_one (by decide) (by decide) (by (first | lia | omega)) (by (first | lia | omega))
theorem range_size {c : Int} (h0 : 0 ≤ c) : Builtin.Range.rangeSize 0 c 1 = ((c.toNat : Nat) : Int) := by
  unfold Builtin.Range.rangeSize
  rw [if_pos (by decide)]
  split <;> (first | lia | omega)
section
variable {w : World} {dp un : Nat} {gd : Option (List Code)} {cn : Str} {cs : Scope} {a : Addr} {ccd : Value} {cl : List (Str × Addr)} {outer : List Env} {A₀ : Around} {base h₀ : Heap} {L : Addr} {m : Str → Option Value} {s : Shared} {Q E : Value → Shared → Prop} {p : Program} {loose : List Str} {mean : ExcName → Option Value} {mg mb : Str → Option Value} {news : List (Addr × Obj)}
noncomputable abbrev cellsOf (L' : Addr) (scope : Scope) : List (Str × Addr) := cellsFrom (L' + 1) scope.names []
/-- a def some of whose names are cells is entered -/
theorem enterC {name qual : Str} {params : Arguments} {body : List Stmt} {scope : Scope} {dV kV doc pm cdv ct oc : Value} {an od : Option Addr} {osl : Array (Option Value)} {f : Addr} {vs : List Value} (binds : List (Str × Value))
    (B : Below A₀ base outer h₀) (F : Fr h₀ L s.heap m) (X : (hd.heap_39 w.params).In h₀) (N : News h₀ L s.heap news) (T : Top p loose mean mg mb h₀) (hk : cs.kind = .function)
    (ho : (hd.heap_39 w.params).lookup f = some ⟨oc, od, .func (fnOf name qual params body scope dV kV doc pm an cdv ct), osl⟩) (hcd : codeIn (hd.heap_39 w.params) cdv qual = true) (hroom : dp < recursionLimit)
    (hbind : BindsTo s (fnOf name qual params body scope dV kV doc pm an cdv ct) ⟨vs, []⟩ binds) (hkind : (binds.all fun y => scope.names.lookup y.1 == some .local || scope.names.lookup y.1 == some .cell) = true)
    (hnd : ((cellsFrom 0 scope.names []).map (·.1)).Nodup) (hco : scope.isCoroutine = false) (hgen : scope.isGenerator = false) (hks : scope.kind = .function)
    (h : ∀ g L' h₁ tk cells E', Fr h₀ L g m → Fr g L' h₁ (bindL (envOfC qual scope L' f cdv).kindOf binds fun _ => none) → News g L' h₁ (cells ++ news) →
      CellsAre (bindC (envOfC qual scope L' f cdv).kindOf binds fun _ => none) (cellsOf L' scope) cells →
      Below (ktrTop dp un gd cn cs L a ccd cl outer) base (envX cn cs L a ccd cl :: outer) g → (hd.heap_39 w.params).In g → Top p loose mean mg mb g → (∀ p ∈ news, p.1 < L') →
      PassesOwn (model PySem.Challenge.rw_nu0165_01.row.prog w) (ktrTop (dp + 1) (un + 3) gd qual scope L' f cdv (cellsOf L' scope) (envX cn cs L a ccd cl :: outer)) (envX qual scope L' f cdv (cellsOf L' scope)) E' →
      (∀ kp z h1 t1 m', Errs base h₀ kp (envX cn cs L a ccd cl) outer L m E s z → Errs base g kp (envX qual scope L' f cdv (cellsOf L' scope)) (envX cn cs L a ccd cl :: outer) L' m' E' { s with heap := h1, toks := t1 } z) →
      wpAny (model PySem.Challenge.rw_nu0165_01.row.prog w) (ktrTop (dp + 1) (un + 3) gd qual scope L' f cdv (cellsOf L' scope) (envX cn cs L a ccd cl :: outer)) (execs body (envX qual scope L' f cdv (cellsOf L' scope)))
        (fun fl s' => LeaveK h₀ L m g (backR Q E) (match fl with | .ret v => v | _ => .none) s') E' { s with heap := h₁, toks := tk }) :
    wpAny (model PySem.Challenge.rw_nu0165_01.row.prog w) (ktrTop dp un gd cn cs L a ccd cl outer) (call (.ref f) vs) Q E s := by
  refine wpAny_call (code_defC (A := ktrTop dp un gd cn cs L a ccd cl outer) (env := envX cn cs L a ccd cl) (outer := outer) (binds := binds) B F X N T rfl rfl hk ho hcd hroom hbind hkind hnd (fun g L' h₁ tk cells FG F' N' Y' B' X' T' l' => ?_) hco hgen hks)
  exact h g L' h₁ tk cells _ FG F' N' Y' B' X' T' l' PassesOwn.leaving fun kp z h1 t1 m' H => errs_in FG rfl rfl H
end
end Mine
end
section
namespace Mine
theorem reset_EVP : True := by
  w_top off
  exact trivial
section
variable {M : Model} {A : Around} {env : Env} {st : Stmt} {rest : List Stmt} {Q : Flow → Shared → Prop} {E : Value → Shared → Prop} {s : Shared}
/-- what stands behind a statement: the rest of the block -/
noncomputable def seqQ (M : Model) (A : Around) (env : Env) (E : Value → Shared → Prop) (Q : Flow → Shared → Prop) (rest : List Stmt) (f : Flow) (s' : Shared) : Prop := match f with | .next => wpAny M A (execs rest env) Q E s' | f => Q f s'
theorem seqQ_next (h : wpAny M A (execs rest env) Q E s) : seqQ M A env E Q rest .next s := h
theorem seqQ_ret {v : Value} (h : Q (.ret v) s) : seqQ M A env E Q rest (.ret v) s := h
theorem seqQ_brk (h : Q .brk s) : seqQ M A env E Q rest .brk s := h
theorem seqQ_cont (h : Q .cont s) : seqQ M A env E Q rest .cont s := h
theorem seq_fold {hp : Heap} {gn : Array GenState} {dr : Drawn} {tk₀ : Nat} {os : OsState} (h : ∀ tk : Nat, let q : Flow → Shared → Prop := seqQ M A env E Q rest; wpAny M A (exec st env) q E ⟨hp, gn, dr, tk, os⟩) :
    wpAny M A (execs (st :: rest) env) Q E ⟨hp, gn, dr, tk₀, os⟩ := wpAny_execs_cons (wpAny_mono (h tk₀) (fun f s' h' => by cases f <;> exact h') fun _ _ x => x)
theorem foldAV {ss : List Stmt} {hp : Heap} {gn : Array GenState} {dr : Drawn} {tk : Nat} {os : OsState} (h : let M' := M; let A' := A; let v' := env; let g' := gn; let d' := dr; let o' := os; wpAny M' A' (execs ss v') Q E ⟨hp, g', d', tk, o'⟩) : wpAny M A (execs ss env) Q E ⟨hp, gn, dr, tk, os⟩ := h
end
section
variable {p a0 a1 a2 a3 a4 a5 a6 a7 a8 a9 a10 a11 : Addr × Obj} {l l1 l2 l' : List (Addr × Obj)} {d : Addr}
theorem mem0 : p ∈ p :: l := .head _
theorem mem1 : p ∈ a0 :: p :: l := .tail _ (.head _)
theorem mem2 : p ∈ a0 :: a1 :: p :: l := .tail _ (.tail _ (.head _))
theorem mem3 : p ∈ a0 :: a1 :: a2 :: p :: l := .tail _ (.tail _ (.tail _ (.head _)))
theorem mem4 : p ∈ a0 :: a1 :: a2 :: a3 :: p :: l := .tail _ (.tail _ (.tail _ (.tail _ (.head _))))
theorem mem5 : p ∈ a0 :: a1 :: a2 :: a3 :: a4 :: p :: l := .tail _ (.tail _ (.tail _ (.tail _ (.tail _ (.head _)))))
theorem mem6 : p ∈ a0 :: a1 :: a2 :: a3 :: a4 :: a5 :: p :: l := .tail _ (.tail _ (.tail _ (.tail _ (.tail _ (.tail _ (.head _))))))
theorem mem7 : p ∈ a0 :: a1 :: a2 :: a3 :: a4 :: a5 :: a6 :: p :: l := .tail _ (.tail _ (.tail _ (.tail _ (.tail _ (.tail _ (.tail _ (.head _)))))))
theorem mem8 : p ∈ a0 :: a1 :: a2 :: a3 :: a4 :: a5 :: a6 :: a7 :: p :: l := .tail _ (.tail _ (.tail _ (.tail _ (.tail _ (.tail _ (.tail _ (.tail _ (.head _))))))))
theorem mem9 : p ∈ a0 :: a1 :: a2 :: a3 :: a4 :: a5 :: a6 :: a7 :: a8 :: p :: l := .tail _ (.tail _ (.tail _ (.tail _ (.tail _ (.tail _ (.tail _ (.tail _ (.tail _ (.head _)))))))))
theorem mem10 : p ∈ a0 :: a1 :: a2 :: a3 :: a4 :: a5 :: a6 :: a7 :: a8 :: a9 :: p :: l := .tail _ (.tail _ (.tail _ (.tail _ (.tail _ (.tail _ (.tail _ (.tail _ (.tail _ (.tail _ (.head _))))))))))
theorem mem11 : p ∈ a0 :: a1 :: a2 :: a3 :: a4 :: a5 :: a6 :: a7 :: a8 :: a9 :: a10 :: p :: l := .tail _ (.tail _ (.tail _ (.tail _ (.tail _ (.tail _ (.tail _ (.tail _ (.tail _ (.tail _ (.tail _ (.head _)))))))))))
theorem suf1 : ∀ q ∈ l, q ∈ a0 :: l := fun _ hq => .tail _ (hq)
theorem suf2 : ∀ q ∈ l, q ∈ a0 :: a1 :: l := fun _ hq => .tail _ (.tail _ (hq))
theorem suf3 : ∀ q ∈ l, q ∈ a0 :: a1 :: a2 :: l := fun _ hq => .tail _ (.tail _ (.tail _ (hq)))
theorem suf4 : ∀ q ∈ l, q ∈ a0 :: a1 :: a2 :: a3 :: l := fun _ hq => .tail _ (.tail _ (.tail _ (.tail _ (hq))))
theorem suf5 : ∀ q ∈ l, q ∈ a0 :: a1 :: a2 :: a3 :: a4 :: l := fun _ hq => .tail _ (.tail _ (.tail _ (.tail _ (.tail _ (hq)))))
theorem suf6 : ∀ q ∈ l, q ∈ a0 :: a1 :: a2 :: a3 :: a4 :: a5 :: l := fun _ hq => .tail _ (.tail _ (.tail _ (.tail _ (.tail _ (.tail _ (hq))))))
theorem suf7 : ∀ q ∈ l, q ∈ a0 :: a1 :: a2 :: a3 :: a4 :: a5 :: a6 :: l := fun _ hq => .tail _ (.tail _ (.tail _ (.tail _ (.tail _ (.tail _ (.tail _ (hq)))))))
theorem suf8 : ∀ q ∈ l, q ∈ a0 :: a1 :: a2 :: a3 :: a4 :: a5 :: a6 :: a7 :: l := fun _ hq => .tail _ (.tail _ (.tail _ (.tail _ (.tail _ (.tail _ (.tail _ (.tail _ (hq))))))))
theorem suf9 : ∀ q ∈ l, q ∈ a0 :: a1 :: a2 :: a3 :: a4 :: a5 :: a6 :: a7 :: a8 :: l := fun _ hq => .tail _ (.tail _ (.tail _ (.tail _ (.tail _ (.tail _ (.tail _ (.tail _ (.tail _ (hq)))))))))
theorem suf10 : ∀ q ∈ l, q ∈ a0 :: a1 :: a2 :: a3 :: a4 :: a5 :: a6 :: a7 :: a8 :: a9 :: l := fun _ hq => .tail _ (.tail _ (.tail _ (.tail _ (.tail _ (.tail _ (.tail _ (.tail _ (.tail _ (.tail _ (hq))))))))))
theorem sub_nil : ∀ q ∈ ([] : List (Addr × Obj)), q ∈ l' := fun _ h => nomatch h
theorem sub_cons (h : p ∈ l') (t : ∀ q ∈ l, q ∈ l') : ∀ q ∈ p :: l, q ∈ l' := List.forall_mem_cons.mpr ⟨h, t⟩
theorem sub_app (h : ∀ q ∈ l1, q ∈ l') (t : ∀ q ∈ l2, q ∈ l') : ∀ q ∈ l1 ++ l2, q ∈ l' := List.forall_mem_append.mpr ⟨h, t⟩
theorem off_nil : ∀ q ∈ ([] : List (Addr × Obj)), q.1 ≠ d := fun _ h => nomatch h
theorem off_cons (h : @Ne Nat p.1 d) (t : ∀ q ∈ l, q.1 ≠ d) : ∀ q ∈ p :: l, q.1 ≠ d := List.forall_mem_cons.mpr ⟨h, t⟩
theorem off_app (h : ∀ q ∈ l1, q.1 ≠ d) (t : ∀ q ∈ l2, q.1 ≠ d) : ∀ q ∈ l1 ++ l2, q.1 ≠ d := List.forall_mem_append.mpr ⟨h, t⟩
end
theorem fmc {α : Type} {P : α → Prop} {a : α} {l : List α} (h : P a) (t : ∀ x ∈ l, P x) : ∀ x ∈ a :: l, P x := List.forall_mem_cons.mpr ⟨h, t⟩
theorem sub_step {n j : Nat} (h : j < n) : n - j = (n - (j + 1)) + 1 := (Nat.succ_pred_eq_of_pos (Nat.sub_pos_of_lt h)).symm
theorem room_k {a k K R : Nat} (h : a + K < R) (hk : k ≤ K) : a + k < R := Nat.lt_of_le_of_lt (Nat.add_le_add_left hk a) h
theorem room_z {a K R : Nat} (h : a + K < R) : a < R := Nat.lt_of_le_of_lt (Nat.le_add_right a K) h
theorem natAbs_small {x : Int} {c : Nat} (h0 : 0 ≤ x) (h1 : x < (c : Int)) : x.natAbs < c := by omega
/-- the value of an expression that reads local names and constants only, and the count of tokens behind it -/
noncomputable def snd2 (i : Int) : Option (Value × Nat) → Option (Int × Int × Nat)
  | some (.int j _, t2) => some (i, j, t2)
  | _ => none
noncomputable def bin2 (x : Option (Value × Nat)) (k : Nat → Option (Value × Nat)) : Option (Int × Int × Nat) := match x with
  | some (.int i _, t1) => snd2 i (k t1)
  | _ => none
noncomputable def arith (op : Operator) (i j : Int) (tk : Nat) : Option (Value × Nat) := match op with
  | .Add => some (.int (i + j) tk, tk + 1)
  | .Sub => some (.int (i - j) tk, tk + 1)
  | _ => none
noncomputable def conV (tk : Nat) : Const → Option (Value × Nat)
  | .int i => some (.int i tk, tk + 1)
  | .str x => some (.str x tk, tk + 1)
  | .bytes x => some (.bytes x.toArray tk, tk + 1)
  | .none => some (.none, tk)
  | .bool b => some (.bool b, tk)
  | _ => none
noncomputable def namV (tk : Nat) (v : Option Value) (d : Bool) : Option NameKind → Option (Value × Nat)
  | some .local => match d with
    | true => none
    | false => match v with
      | some v => some (v, tk)
      | none => none
  | _ => none
noncomputable def evP (env : Env) (m : Str → Option Value) : Nat → PySem.Expr → Nat → Option (Value × Nat)
  | 0, _, _ => none
  | n + 1, e, tk => match e with
    | .Name x _ => namV tk (m x) (x == ("__debug__" : Str)) (env.kindOf x)
    | .Constant c _ _ => conV tk c
    | .BinOp l op r _ => match bin2 (evP env m n l tk) (fun t => evP env m n r t) with
      | some (i, j, t) => arith op i j t
      | none => none
    | _ => none
noncomputable def evL (env : Env) (m : Str → Option Value) (n : Nat) : List PySem.Expr → Nat → Option (List Value × Nat)
  | [], tk => some ([], tk)
  | e :: es, tk => match evP env m n e tk with
    | some (v, t1) => match evL env m n es t1 with
      | some (vs, t2) => some (v :: vs, t2)
      | none => none
    | none => none
theorem bin2_ok {x : Option (Value × Nat)} {k : Nat → Option (Value × Nat)} {i j : Int} {t2 : Nat} (h : bin2 x k = some (i, j, t2)) : ∃ t u t1, x = some (.int i t, t1) ∧ k t1 = some (.int j u, t2) := by
  cases x with
  | none => cases (show none = some (i, j, t2) from h)
  | some x =>
    obtain ⟨a, t1⟩ := x
    cases a <;> first | (cases (show none = some (i, j, t2) from h); done) | skip
    rename_i i' t
    have h' : snd2 i' (k t1) = some (i, j, t2) := h
    cases hk : k t1 with
    | none => rw [hk] at h'; cases h'
    | some y =>
      obtain ⟨b, u1⟩ := y
      rw [hk] at h'
      cases b <;> first | (cases (show none = some (i, j, t2) from h'); done) | skip
      cases h'
      exact ⟨_, _, _, rfl, hk⟩
section
variable {prog : Program} {w : World} {A : Around} {env : Env} {h₀ : Heap} {L : Addr} {m : Str → Option Value} {hp : Heap} {gn : Array GenState} {dr : Drawn} {os : OsState} {E : Value → Shared → Prop}
theorem op_ok {op : Operator} {i j : Int} {t u : Tok} {v : Value} {tk tk' : Nat} (h : arith op i j tk = some (v, tk')) {Q : Value → Shared → Prop} (hq : Q v ⟨hp, gn, dr, tk', os⟩) :
    wpAny (model prog w) A (binaryOp op (.int i t) (.int j u)) Q E ⟨hp, gn, dr, tk, os⟩ := by
  cases op <;> first | (cases (show none = some (v, tk') from h); done) | skip
  · cases (show some (Value.int (i + j) tk, tk + 1) = some (v, tk') from h); exact add_int hq
  · cases (show some (Value.int (i - j) tk, tk + 1) = some (v, tk') from h); exact sub_int hq
theorem con_ok {c : Const} {v : Value} {k : Nat} {pos : Pos} {tk tk' : Nat} (h : conV tk c = some (v, tk')) {Q : Value → Shared → Prop} (hq : Q v ⟨hp, gn, dr, tk', os⟩) :
    wpAny (model prog w) A (eval (.Constant c k pos) env) Q E ⟨hp, gn, dr, tk, os⟩ := by
  cases c <;> first | (cases (show none = some (v, tk') from h); done) | skip
  · cases (show some (Value.none, tk) = some (v, tk') from h); exact wpAny_Constant_none hq
  · rename_i b; cases (show some (Value.bool b, tk) = some (v, tk') from h); exact wpAny_Constant_bool hq
  · rename_i i; cases (show some (Value.int i tk, tk + 1) = some (v, tk') from h); exact wpAny_Constant_int hq
  · rename_i x; cases (show some (Value.str x tk, tk + 1) = some (v, tk') from h); exact Constant_str hq
  · rename_i x; cases (show some (Value.bytes x.toArray tk, tk + 1) = some (v, tk') from h); exact Constant_bytes hq
theorem nam_ok (hn : hp.Ns env.locals m) (hk : env.scope.kind = .function) {x : Str} {v : Value} {pos : Pos} {tk tk' : Nat} (h : namV tk (m x) (x == ("__debug__" : Str)) (env.kindOf x) = some (v, tk')) {Q : Value → Shared → Prop} (hq : Q v ⟨hp, gn, dr, tk', os⟩) :
    wpAny (model prog w) A (eval (.Name x pos) env) Q E ⟨hp, gn, dr, tk, os⟩ := by
  cases hkd : env.kindOf x with
  | none => rw [hkd] at h; cases (show none = some (v, tk') from h)
  | some kd =>
    rw [hkd] at h
    cases kd <;> first | (cases (show none = some (v, tk') from h); done) | skip
    cases hd : (x == ("__debug__" : Str)) with
    | true => rw [hd] at h; cases (show none = some (v, tk') from h)
    | false =>
      rw [hd] at h
      cases hv : m x with
      | none => rw [hv] at h; cases (show none = some (v, tk') from h)
      | some v' =>
        rw [hv] at h
        cases (show some (v', tk) = some (v, tk') from h)
        exact wpAny_Name (wpAny_loadName_local hk hkd hn hv hq) hd
theorem evP_ok (hn : hp.Ns env.locals m) (hk : env.scope.kind = .function) (n : Nat) : ∀ (e : PySem.Expr) (tk : Nat) (v : Value) (tk' : Nat), evP env m n e tk = some (v, tk') →
    ∀ (Q : Value → Shared → Prop), Q v ⟨hp, gn, dr, tk', os⟩ → wpAny (model prog w) A (eval e env) Q E ⟨hp, gn, dr, tk, os⟩ := by
  induction n with
  | zero => intro e tk v tk' h; cases (show none = some (v, tk') from h)
  | succ n ih =>
    intro e tk v tk' h Q hq
    cases e <;> first | (cases (show none = some (v, tk') from h); done) | exact nam_ok hn hk h hq | exact con_ok h hq | skip
    rename_i l op r pos
    cases hb : bin2 (evP env m n l tk) (fun t => evP env m n r t) with
    | none => 
      have h' : evP env m (n + 1) (.BinOp l op r pos) tk = none := by show (match bin2 (evP env m n l tk) (fun t => evP env m n r t) with | some (i, j, t) => arith op i j t | none => none) = none; rw [hb]
      rw [h'] at h; cases h
    | some y =>
      obtain ⟨i, j, t2⟩ := y
      have h' : evP env m (n + 1) (.BinOp l op r pos) tk = arith op i j t2 := by show (match bin2 (evP env m n l tk) (fun t => evP env m n r t) with | some (i, j, t) => arith op i j t | none => none) = _; rw [hb]
      rw [h'] at h
      obtain ⟨t, u, t1, h1, h2⟩ := bin2_ok hb
      exact wpAny_BinOp (ih _ _ _ _ h1 _ (ih _ _ _ _ h2 _ (op_ok h hq)))
theorem evP_star {n : Nat} {e : PySem.Expr} {tk : Nat} {r : Value × Nat} (h : evP env m n e tk = some r) (es : List PySem.Expr) : starEach (e :: es) env = (false, eval e env) :: starEach es env := by
  cases n with
  | zero => cases (show none = some r from h)
  | succ n => cases e <;> first | rfl | (cases (show none = some r from h); done)
theorem evL_cons {n : Nat} {e : PySem.Expr} {es : List PySem.Expr} {tk : Nat} {vs : List Value} {tk' : Nat} (h : evL env m n (e :: es) tk = some (vs, tk')) : ∃ v t1 ws, evP env m n e tk = some (v, t1) ∧ evL env m n es t1 = some (ws, tk') ∧ vs = v :: ws := by
  cases h1 : evP env m n e tk with
  | none =>
    have h' : evL env m n (e :: es) tk = none := by show (match evP env m n e tk with | some (v, t1) => (match evL env m n es t1 with | some (vs, t2) => some (v :: vs, t2) | none => none) | none => none) = none; rw [h1]
    rw [h'] at h; cases h
  | some y =>
    obtain ⟨v, t1⟩ := y
    cases h2 : evL env m n es t1 with
    | none =>
      have h' : evL env m n (e :: es) tk = none := by show (match evP env m n e tk with | some (v, t1) => (match evL env m n es t1 with | some (vs, t2) => some (v :: vs, t2) | none => none) | none => none) = none; rw [h1]; show (match evL env m n es t1 with | some (vs, t2) => some (v :: vs, t2) | none => none) = none; rw [h2]
      rw [h'] at h; cases h
    | some z =>
      obtain ⟨ws, t2⟩ := z
      have h' : evL env m n (e :: es) tk = some (v :: ws, t2) := by show (match evP env m n e tk with | some (v, t1) => (match evL env m n es t1 with | some (vs, t2) => some (v :: vs, t2) | none => none) | none => none) = _; rw [h1]; show (match evL env m n es t1 with | some (vs, t2) => some (v :: vs, t2) | none => none) = _; rw [h2]
      rw [h'] at h; cases h
      exact ⟨_, _, _, rfl, h2, rfl⟩
theorem evL_ok (hn : hp.Ns env.locals m) (hk : env.scope.kind = .function) (n : Nat) (es : List PySem.Expr) : ∀ (tk : Nat) (vs : List Value) (tk' : Nat), evL env m n es tk = some (vs, tk') →
    ∀ (pos : Pos) (Q : List Value → Shared → Prop), Q vs ⟨hp, gn, dr, tk', os⟩ → wpAny (model prog w) A (spliced (backTo pos (starEach es env))) Q E ⟨hp, gn, dr, tk, os⟩ := by
  induction es with
  | nil => intro tk vs tk' h pos Q hq; cases (show some ([], tk) = some (vs, tk') from h); exact args_nil hq
  | cons e es ih =>
    intro tk vs tk' h pos Q hq
    obtain ⟨v, t1, ws, h1, h2, rfl⟩ := evL_cons h
    exact args_cons (evP_ok hn hk n _ _ _ _ h1 _ (ih _ _ _ h2 pos _ hq)) (evP_star h1 es)
end
section
variable {prog : Program} {w : World} {A : Around} {env : Env} {E : Value → Shared → Prop} {gn : Array GenState} {dr : Drawn} {os : OsState} {h₀ : Heap} {L : Nat} {m : Str → Option Value} {hp : Heap} {tk tk' : Nat} {v : Value} {vs : List Value} {e : PySem.Expr} {es : List PySem.Expr} {pos : Pos}
variable (hl : env.locals = L) (hk : env.scope.kind = .function) (F : Fr h₀ L hp m)
include hl hk F
theorem ev_eval {Q : Value → Shared → Prop} (he : evP env m 9 e tk = some (v, tk')) (h : Q v ⟨hp, gn, dr, tk', os⟩) : wpAny (model prog w) A (eval e env) Q E ⟨hp, gn, dr, tk, os⟩ := by
  subst hl; exact evP_ok F.ns hk 9 e tk v tk' he _ h
theorem ev_args {Q : List Value → Shared → Prop} (he : evL env m 9 es tk = some (vs, tk')) (h : Q vs ⟨hp, gn, dr, tk', os⟩) : wpAny (model prog w) A (spliced (backTo pos (starEach es env))) Q E ⟨hp, gn, dr, tk, os⟩ := by
  subst hl; exact evL_ok F.ns hk 9 es tk vs tk' he pos _ h
theorem ev_sub {Q : Value → Shared → Prop} {e' : PySem.Expr} {v' : Value} {tk2 : Nat} (he : evP env m 9 e tk = some (v, tk2)) (he' : evP env m 9 e' tk2 = some (v', tk')) (h : wpAny (model prog w) A (subscriptTail e e' v v') Q E ⟨hp, gn, dr, tk', os⟩) :
    wpAny (model prog w) A (eval (.Subscript e e' pos) env) Q E ⟨hp, gn, dr, tk, os⟩ :=
  Subscript_ (ev_eval hl hk F he (ev_eval hl hk F he' h))
theorem ev_ret {Q : Flow → Shared → Prop} (he : evP env m 9 e tk = some (v, tk')) (h : Q (.ret v) ⟨hp, gn, dr, tk', os⟩) : wpAny (model prog w) A (exec (.Return (some e) pos) env) Q E ⟨hp, gn, dr, tk, os⟩ :=
  wpAny_Return_some (ev_eval hl hk F he h)
theorem ev_list {Q : Value → Shared → Prop} (he : evL env m 9 es tk = some (vs, tk')) (h : wpAny (model prog w) A (newList vs) Q E ⟨hp, gn, dr, tk', os⟩) : wpAny (model prog w) A (eval (.List es pos) env) Q E ⟨hp, gn, dr, tk, os⟩ :=
  List_ (ev_args hl hk F he h)
theorem ev_tuple {k : Nat} {Q : Value → Shared → Prop} (he : evL env m 9 es tk = some (vs, tk')) (h : wpAny (model prog w) A (newTuple vs) Q E ⟨hp, gn, dr, tk', os⟩) : wpAny (model prog w) A (eval (.Tuple es k pos) env) Q E ⟨hp, gn, dr, tk, os⟩ :=
  Tuple_ (ev_args hl hk F he h)
theorem ev_attr {x attr : Str} {xp : Pos} {Q : Value → Shared → Prop} (he : evP env m 9 (.Name x xp) tk = some (v, tk')) (h : wpAny (model prog w) A (getAttr v attr true) Q E ⟨hp, gn, dr, tk', os⟩) : wpAny (model prog w) A (eval (.Attribute (.Name x xp) attr pos) env) Q E ⟨hp, gn, dr, tk, os⟩ :=
  Attribute_Name_ (ev_eval hl hk F he h)
theorem ev_cmp {op : CmpOp} {r : PySem.Expr} {whole : Sem Value} {b : Value} {tk2 : Nat} {Q : Bool → Shared → Prop} (he : evP env m 9 e tk = some (v, tk2)) (hr : evP env m 9 r tk2 = some (b, tk'))
    (h : wpAny (model prog w) A (compareOp op v b) (fun c s₃ => wpAny (model prog w) A (truthy c) Q E s₃) E ⟨hp, gn, dr, tk', os⟩)
    (hm : behindInMarks op r = false := by with_unfolding_all rfl) : wpAny (model prog w) A (PySem.isTrue (.Compare e [op] [r] pos) env whole) Q E ⟨hp, gn, dr, tk, os⟩ :=
  wpAny_isTrue_Compare1 (ev_eval hl hk F he (ev_eval hl hk F hr h)) hm
theorem ev_setsub {o i : PySem.Expr} {pos' : Pos} {ov iv : Value} {t1 t2 : Nat} {Q : Flow → Shared → Prop} (he : evP env m 9 e tk = some (v, t1)) (ho : evP env m 9 o t1 = some (ov, t2)) (hi : evP env m 9 i t2 = some (iv, tk'))
    (h : wpAny (model prog w) A (setItem ov iv v) (fun _ => Q .next) E ⟨hp, gn, dr, tk', os⟩)
    (hs : swapsWith e (some (.Subscript o i pos')) pos.line env = pure false := by rfl) : wpAny (model prog w) A (exec (.Assign [.Subscript o i pos'] e pos) env) Q E ⟨hp, gn, dr, tk, os⟩ :=
  wpAny_Assign_Subscript (ev_eval hl hk F he (ev_eval hl hk F ho (ev_eval hl hk F hi h))) hs
end
section
variable {prog : Program} {w : World} {A : Around} {K : Frag} {cn : Str} {cs : Scope} {L a : Nat} {ccd : Value} {cl : List (Str × Addr)} {p : Program} {loose : List Str} {E : Value → Shared → Prop} {gn : Array GenState} {dr : Drawn} {os : OsState} {mg mb : Str → Option Value} {h₀ : Heap} {m : Str → Option Value} {hp : Heap} {tk tk' : Nat} {v : Value} {vs : List Value} {e : PySem.Expr} {es : List PySem.Expr} {pos pos' : Pos} {x : Str}
theorem ev_call {f : Addr} {Q : Value → Shared → Prop} (hk : cs.kind = .function) (F : Fr h₀ L hp m) (X : K.In h₀) (T : TopRead p loose mg mb h₀)
    (hf : nsIn K mainGlobals x = some (some (.ref f))) (hkp : keepIn K (.ref f) = true) (ha : evL (envX cn cs L a ccd cl) m 9 (e :: es) tk = some (vs, tk'))
    (h : wpAny (model prog w) A (call (.ref f) vs) Q E ⟨hp, gn, dr, tk', os⟩)
    (hx : (envX cn cs L a ccd cl).kindOf x = some .globalImplicit := by exact rfl) (hd : (x == ("__debug__" : Str)) = false := by decide)
    (hplain : ∀ env, (backTo pos (starEach es env)).any (·.1) = false := by exact fun _ => rfl)
    (hc : ∀ env, eval (.Call (.Name x pos') (e :: es) [] pos) env = (do callWith pos (← eval (.Name x pos') env) [] (backTo pos (starEach (e :: es) env)) (backToKw pos (keywordEach [] env))) := by exact fun _ => rfl) :
    wpAny (model prog w) A (eval (.Call (.Name x pos') (e :: es) [] pos) (envX cn cs L a ccd cl)) Q E ⟨hp, gn, dr, tk, os⟩ := by
  have he : starEach (e :: es) (envX cn cs L a ccd cl) = (false, eval e (envX cn cs L a ccd cl)) :: starEach es (envX cn cs L a ccd cl) := by
    obtain ⟨_, _, _, h1, _⟩ := evL_cons ha
    exact evP_star h1 es
  exact Call_ (nameX_K F X T hf (callWith_K (first := []) X hkp (ev_args rfl hk F ha ⟨X.keeps F.keep, h⟩) he (hplain _)) hk hx hd) (hc _)
theorem store_ev {Q : Unit → Shared → Prop} {news : List (Addr × Obj)} (hk : cs.kind = .function) (F : Fr h₀ L hp m) (N : News h₀ L hp news)
    (h : ∀ h', let m' : Str → Option Value := fun y => if y = x then some v else m y; Fr h₀ L h' m' → News h₀ L h' news → Q () ⟨h', gn, dr, tk + 1, os⟩)
    (hx : (envX cn cs L a ccd cl).kindOf x = some .local := by exact rfl) : wpAny (model prog w) A (storeName (envX cn cs L a ccd cl) x v) Q E ⟨hp, gn, dr, tk, os⟩ :=
  storeX_L F N (fun h' F' N' => h h' F' N') hk hx
theorem ev_assign {Q : Flow → Shared → Prop} {news : List (Addr × Obj)} (hk : cs.kind = .function) (F : Fr h₀ L hp m) (N : News h₀ L hp news)
    (he : evP (envX cn cs L a ccd cl) m 9 e tk = some (v, tk'))
    (h : ∀ h', let m' : Str → Option Value := fun y => if y = x then some v else m y; Fr h₀ L h' m' → News h₀ L h' news → Q .next ⟨h', gn, dr, tk' + 1, os⟩)
    (hx : (envX cn cs L a ccd cl).kindOf x = some .local := by exact rfl)
    (hs : ∀ env, swapsWith e (some (.Name x pos')) pos.line env = pure false := by exact fun _ => rfl) :
    wpAny (model prog w) A (exec (.Assign [.Name x pos'] e pos) (envX cn cs L a ccd cl)) Q E ⟨hp, gn, dr, tk, os⟩ :=
  wpAny_Assign_Name (ev_eval rfl hk F he (storeX_L F N (fun h' F' N' => h h' F' N') hk hx)) (hs _)
end
section
variable {M : Model} {A : Around} {env : Env} {E : Value → Shared → Prop} {s : Shared} {pos : Pos}
theorem binop_fold {l r : PySem.Expr} {op : Operator} {Q : Value → Shared → Prop} (h : let q : Value → Shared → Prop := fun a s₁ => wpAny M A (eval r env) (fun b s₂ => wpAny M A (binaryOp op a b) Q E s₂) E s₁; wpAny M A (eval l env) q E s) :
    wpAny M A (eval (.BinOp l op r pos) env) Q E s := wpAny_BinOp h
theorem args_fold {e : PySem.Expr} {rest : List PySem.Expr} {Q : List Value → Shared → Prop}
    (h : let q : Value → Shared → Prop := fun v s₁ => wpAny M A (spliced (backTo pos (starEach rest env))) (fun vs s₂ => Q (v :: vs) s₂) E s₁; wpAny M A (eval e env) q E s)
    (he : ∀ env, starEach (e :: rest) env = (false, eval e env) :: starEach rest env) : wpAny M A (spliced (backTo pos (starEach (e :: rest) env))) Q E s := args_cons h (he env)
theorem list_fold {es : List PySem.Expr} {Q : Value → Shared → Prop} (h : let q : List Value → Shared → Prop := fun vs s₁ => wpAny M A (newList vs) Q E s₁; wpAny M A (spliced (backTo pos (starEach es env))) q E s) : wpAny M A (eval (.List es pos) env) Q E s := List_ h
theorem tuple_fold {es : List PySem.Expr} {k : Nat} {Q : Value → Shared → Prop} (h : let q : List Value → Shared → Prop := fun vs s₁ => wpAny M A (newTuple vs) Q E s₁; wpAny M A (spliced (backTo pos (starEach es env))) q E s) : wpAny M A (eval (.Tuple es k pos) env) Q E s := Tuple_ h
theorem assign_fold {x : Str} {pos' : Pos} {value : PySem.Expr} {Q : Flow → Shared → Prop} (h : let q : Value → Shared → Prop := fun v s₁ => wpAny M A (storeName env x v) (fun _ => Q .next) E s₁; wpAny M A (eval value env) q E s)
    (hs : ∀ env, swapsWith value (some (.Name x pos')) pos.line env = pure false) : wpAny M A (exec (.Assign [.Name x pos'] value pos) env) Q E s := wpAny_Assign_Name h (hs env)
theorem sub_fold {value slice : PySem.Expr} {Q : Value → Shared → Prop}
    (h : let q : Value → Shared → Prop := fun o s₁ => wpAny M A (eval slice env) (fun i s₂ => wpAny M A (subscriptTail value slice o i) Q E s₂) E s₁; wpAny M A (eval value env) q E s) : wpAny M A (eval (.Subscript value slice pos) env) Q E s := Subscript_ h
end
section
variable {M : Model} {A : Around} {K : Frag} {h₀ : Heap} {L a : Addr} {m mg mb : Str → Option Value} {cn : Str} {cs : Scope} {ccd : Value} {cl : List (Str × Addr)} {p : Program} {loose : List Str} {s : Shared} {E : Value → Shared → Prop} {e : PySem.Expr} {es : List PySem.Expr} {pos pos' : Pos} {x : Str}
variable {prog : Program} {w : World}
theorem call_fold {f : Addr} {Q : Value → Shared → Prop} (F : Fr h₀ L s.heap m) (X : K.In h₀) (T : TopRead p loose mg mb h₀)
    (hf : nsIn K mainGlobals x = some (some (.ref f))) (hkp : keepIn K (.ref f) = true)
    (h : let q : List Value → Shared → Prop := fun vs s₁ => K.In s₁.heap ∧ wpAny (model prog w) A (call (.ref f) vs) Q E s₁; wpAny (model prog w) A (spliced (backTo pos (starEach (e :: es) (envX cn cs L a ccd cl)))) q E s)
    (hk : cs.kind = .function := by exact rfl) (hx : (envX cn cs L a ccd cl).kindOf x = some .globalImplicit := by exact rfl) (hd : (x == ("__debug__" : Str)) = false := by decide)
    (he : ∀ env, starEach (e :: es) env = (false, eval e env) :: starEach es env := by exact fun _ => rfl)
    (hplain : ∀ env, (backTo pos (starEach es env)).any (·.1) = false := by exact fun _ => rfl)
    (hc : ∀ env, eval (.Call (.Name x pos') (e :: es) [] pos) env = (do callWith pos (← eval (.Name x pos') env) [] (backTo pos (starEach (e :: es) env)) (backToKw pos (keywordEach [] env))) := by exact fun _ => rfl) :
    wpAny (model prog w) A (eval (.Call (.Name x pos') (e :: es) [] pos) (envX cn cs L a ccd cl)) Q E s :=
  Call_ (nameX_K F X T hf (callWith_K (first := []) X hkp h (he _) (hplain _)) hk hx hd) (hc _)
end
/-- two ways that meet -/
noncomputable def Join (P : Value → Shared → Prop) : Value → Shared → Prop := P
noncomputable def IntP (g : Heap) (L : Addr) (m₁ : Str → Option Value) (R : List (Addr × Obj)) (s : Shared) (res : Except Int Int) (v : Value) (s' : Shared) : Prop :=
  ∃ h' tk' x t, v = .int x t ∧ s' = { s with heap := h', toks := tk' } ∧ Fr g L h' m₁ ∧ News g L h' R ∧ res = .ok x
theorem join_int {prog : Program} {w : World} {A : Around} {E : Value → Shared → Prop} {s : Shared} {g : Heap} {L : Addr} {m₁ : Str → Option Value} {R : List (Addr × Obj)} {Q : Value → Shared → Prop} {t : Sem Value} (res : Except Int Int) (F : Fr g L s.heap m₁) (N : News g L s.heap R) (h1 : wpAny (model prog w) A t (Join (IntP g L m₁ R s res)) E s) (h2 : ∀ h' tk' x t, Fr g L h' m₁ → News g L h' R → res = .ok x → Q (.int x t) { s with heap := h', toks := tk' }) : wpAny (model prog w) A t Q E s :=
  wpAny_mono h1 (fun v s' h => by obtain ⟨h', tk', x, t, rfl, rfl, F', N', e⟩ := h; exact h2 h' tk' x t F' N' e) fun _ _ e => e
theorem IntP.mk {s : Shared} {g : Heap} {L : Addr} {m₁ : Str → Option Value} {R : List (Addr × Obj)} {res : Except Int Int} {h' : Heap} {tk' : Nat} {x : Int} {t : Tok} (F : Fr g L h' m₁) (N : News g L h' R) (e : res = .ok x) : IntP g L m₁ R s res (.int x t) { s with heap := h', toks := tk' } := xi4 h' tk' x t ⟨rfl, rfl, F, N, e⟩
noncomputable def JoinF (P : Flow → Shared → Prop) : Flow → Shared → Prop := P
noncomputable def JoinB (P : Bool → Shared → Prop) : Bool → Shared → Prop := P
noncomputable def TruP (g : Heap) (L : Addr) (m₁ : Str → Option Value) (R : List (Addr × Obj)) (s : Shared) (c : Bool) (v : Bool) (s' : Shared) : Prop :=
  c = v ∧ ∃ h' tk', s' = { s with heap := h', toks := tk' } ∧ Fr g L h' m₁ ∧ News g L h' R
theorem join_bool {prog : Program} {w : World} {A : Around} {E : Value → Shared → Prop} {s : Shared} {g : Heap} {L : Addr} {m₁ : Str → Option Value} {R : List (Addr × Obj)} {Q : Bool → Shared → Prop} {t : Sem Bool} (c : Bool) (F : Fr g L s.heap m₁) (N : News g L s.heap R)
    (h1 : wpAny (model prog w) A t (JoinB (TruP g L m₁ R s c)) E s) (h2 : ∀ h' tk', Fr g L h' m₁ → News g L h' R → Q c { s with heap := h', toks := tk' }) : wpAny (model prog w) A t Q E s :=
  wpAny_mono h1 (fun v s' h => by obtain ⟨rfl, h', tk', rfl, F', N'⟩ := h; exact h2 h' tk' F' N') fun _ _ e => e
end Mine
end
section
namespace Mine
local macro_rules | `(tactic| walk_at $s:str) => `(tactic| k_extra $s)
local macro_rules | `(tactic| k_room) => `(tactic| ktr_room)
theorem lines_HZ11 : True := by
  k_with "exec Raise some none" => (first | ((k_here; refine raise_own rfl ?_)) | fail)
  k_with "call ref" => (first | ((k_here; (with_reducible show wpAny _ _ (call (Value.ref 61) [Value.str _ _, Value.int _ _]) _ _ _); k_dflt (refine' fault_made ?zk1 ?zk2 ?zk3 ?zk4 ?zk5 ?zkK ?zkd ?zku _ _ _ _ ?_; (case zk1 => k_asm); (case zk2 => k_asm); (case zk3 => k_asm); (case zk4 => k_asm); (case zk5 => k_asm); (case zkK => exact rfl); (case zkd => first | exact room_n (by with_reducible assumption) (by decide) | exact room_k (by with_reducible assumption) (by decide) | exact room_z (by with_reducible assumption) | ktr_room); (case zku => first | exact room_n (by with_reducible assumption) (by decide) | exact room_k (by with_reducible assumption) (by decide) | exact room_z (by with_reducible assumption) | ktr_units); intro hzf tkzf ezf tzf dxzf czf dzf t1zf t2zf Fzf Nzf ndzf))) | fail)
  k_with "m_sides" => (first | (((case k6 => k_is); (case k7 => k_is); (case k8 => first | exact room_n (by with_reducible assumption) (by decide) | exact room_k (by with_reducible assumption) (by decide) | exact room_z (by with_reducible assumption) | ktr_room); (case k9 => exact BindsTo.of_eq rfl); (case kB => exact rfl); (case c2 => exact rfl); (case c3 => exact rfl); (case c4 => exact rfl); (case c5 => decide))) | fail)
  k_with "exec For Name Call cons nil" => (first | ((k_here; (rename Fr _ _ _ _ => lFz); (with_unfolding_all refine' for1 lFz ?zk1 ?zk2 ?zk3 ?zk4 ?_; (case zk1 => exact rfl); (case zk2 => exact rfl); (case zk3 => exact fun _ => rfl); (case zk4 => assumption)))) | fail)
  k_with "exec For Name Subscript cons nil" => (first | ((k_here; (rename Fr _ _ _ _ => lFz); (with_unfolding_all refine' for1 lFz ?zk1 ?zk2 ?zk3 ?zk4 ?_; (case zk1 => exact rfl); (case zk2 => exact rfl); (case zk3 => exact fun _ => rfl); (case zk4 => assumption)))) | fail)
  k_with "exec For Name Name cons nil" => (first | ((k_here; (rename Fr _ _ _ _ => lFz); (with_unfolding_all refine' for1 lFz ?zk1 ?zk2 ?zk3 ?zk4 ?_; (case zk1 => exact rfl); (case zk2 => exact rfl); (case zk3 => exact fun _ => rfl); (case zk4 => assumption)))) | fail)
  k_with "exec For Tuple Call cons nil" => (first | ((k_here; (with_unfolding_all refine' for2 ?zk3 ?_; (case zk3 => exact fun _ => rfl)))) | fail)
  k_with "exec For Tuple Name cons nil" => (first | ((k_here; (with_unfolding_all refine' for2 ?zk3 ?_; (case zk3 => exact fun _ => rfl)))) | fail)
  k_with "binaryOp LShift int int" => (first | ((k_here; (with_reducible refine lshift_int_small ?za ?zb ?zc ?_); (case za => first | decide | (k_extra "m_om")); (case zb => first | decide | (k_extra "m_om")); (case zc => first | decide | (k_extra "m_om")))) | fail)
  k_with "m_in" => (first | ((first | assumption | exact mem0 | exact mem1 | exact mem2 | exact mem3 | exact mem4 | exact mem5 | exact mem6 | exact mem7 | exact mem8 | exact mem9 | exact mem10 | exact mem11 | exact List.mem_cons_self .. | exact List.mem_append_left _ (by assumption) | exact List.mem_append_right _ (by assumption) | (refine List.mem_cons_of_mem _ ?_; k_extra "m_in") | (refine List.mem_append_right _ ?_; k_extra "m_in") | (refine List.mem_append_left _ ?_; k_extra "m_in"))) | fail)
  k_with "m_sub" => (first | ((first | with_reducible assumption | with_reducible exact fun _ h => h | exact sub_nil | ((with_reducible refine sub_cons ?_ ?_); (focus (k_mem; done)); k_extra "m_sub") | ((with_reducible refine sub_app ?_ ?_) <;> k_extra "m_sub") | with_reducible exact suf1 | with_reducible exact suf2 | with_reducible exact suf3 | with_reducible exact suf4 | with_reducible exact suf5 | with_reducible exact suf6 | with_reducible exact suf7 | with_reducible exact suf8 | with_reducible exact suf9 | with_reducible exact suf10 | (intro p hp; k_extra "m_in") | exact KeptIn.in_of (by assumption) (by k_extra "m_sub"))) | fail)
  k_with "m_kept" => (first | ((first | assumption | exact KeptIn.mono (by assumption) (by k_extra "m_sub") | exact KeptIn.re (by assumption) (by k_extra "m_sub"))) | fail)
  k_with "m_allLt" => (first | ((first | assumption | exact allLt_of (by assumption) | exact And.right (by assumption) | exact And.right (And.right (by assumption)) | exact And.right (And.right (And.right (by assumption))) | exact And.right (And.right (And.right (And.right (by assumption)))) | exact And.right (And.right (And.right (And.right (And.right (by assumption)))))| exact And.right (And.right (And.right (And.right (And.right (And.right (by assumption)))))))) | fail)
  exact trivial
local macro_rules | `(tactic| k_all) => `(tactic| k_extra "m_all")
theorem lines_HZ12 : True := by
  k_with "m_all" => (first | ((first | assumption | exact allNe_of (by k_extra "m_allLt") | exact neOf_lt (by assumption) (by k_extra "m_sub") | exact off_nil | (refine off_cons ?_ ?_; (focus (k_ne; done)); k_all))) | fail)
  k_with "eval ListComp" => (first | ((k_here; k_dflt (refine' comp_expr ?zc1 ?zc2 ?zc3 ?zc4 ?_; (case zc1 => with_unfolding_all rfl); (case zc2 => exact rfl); (case zc3 => decide); (case zc4 => exact fun _ => rfl)))) | fail)
  k_with "m_sidesC" => (first | (((case k6 => k_is); (case k7 => k_is); (case k8 => first | exact room_n (by with_reducible assumption) (by decide) | exact room_k (by with_reducible assumption) (by decide) | exact room_z (by with_reducible assumption) | ktr_room); (case k9 => exact BindsTo.of_eq rfl); (case kB => exact rfl); (case kD => decide +kernel); (case c2 => exact rfl); (case c3 => exact rfl); (case c4 => exact rfl))) | fail)
  exact trivial
local macro_rules | `(tactic| k_mem) => `(tactic| k_extra "m_in")
theorem lines_HZ13 : True := by
  k_with "m_news" => (first | ((first | k_asm | exact news_swap (by k_asm) | exact news_pick2 (by k_asm) | exact news_pick3 (by k_asm) | exact news_pick4 (by k_asm) | exact news_pick5 (by k_asm) | exact news_pick6 (by k_asm) | exact news_pick7 (by k_asm))) | fail)
  k_with "m_stop" => (first | ((k_here; (with_reducible show wpAny _ _ _ _ _ _); refine of_stop ?_)) | fail)
  k_with "m_steps" => (first | (repeat' ((fail_if_success (with_reducible show Stop _)); first | (k_unfold; (try dsimp only)) | walk1 | (dsimp only; walk1) | (leave1; try dsimp only))) | fail)
  k_with "getMethod ref" => (first | ((k_here; k_dflt (refine' method_inst ?zk1 ?zk2 ?zk3 ?zk4 ?zk5 ?zk6 ?zk7 ?_; (case zk1 => k_asm); (case zk2 => k_asm); (case zk3 => k_inst); (case zk4 => k_is); (case zk5 => k_is); (case zk6 => k_is); (case zk7 => k_get); k_whole))) | fail)
  k_with "getMethod ref" => (first | ((k_here; (with_reducible show wpAny _ _ (getMethod (Value.ref _) (PySem.Str.ofString "append") _) _ _ _); k_dflt (refine' listMethod_K ?zN ?zm PySem.F.slot_list_append PySem.F.type_list_append ?_; (case zN => k_asm); (case zm => k_mem)))) | fail)
  k_with "execs cons Assign cons" => (first | ((k_here; (with_reducible refine seq_fold ?_); intro tkz qz)) | fail)
  k_with "execs cons" => (first | ((k_here; (with_reducible refine seq_fold ?_); intro tkz qz)) | fail)
  k_with "newList" => (first | ((k_here; k_dflt (refine' newList_K (hsz := ?kz) ?k1 ?k2 ?_; (case kz => first | exact Nat.le_of_ble_eq_true rfl | size_fits); (case k1 => k_asm); (case k2 => k_asm); k_whole); intro lw h' F' N' llw; have llwx := llw; (try k_lt llw); (try k_sweep))) | fail)
  k_with "newList" => (first | ((k_here; (with_reducible show wpAny _ _ (newList []) _ _ _); k_dflt (refine' newList_nil ?k1 ?k2 ?_; (case k1 => k_asm); (case k2 => k_asm); k_whole); intro lw h' F' N' llw; have llwx := llw; (try k_lt llw); (try k_sweep))) | fail)
  k_with "call builtin:list.append" => (first | ((k_here; k_dflt (refine' append_V ?k1 ?k2 ?k3 ?kz ?_; (case k1 => k_asm); (case k2 => k_asm); (case k3 => k_upd); (case kz => first | assumption | (k_extra "m_om"))); intro h' F' N'; (try k_sweep))) | fail)
  k_with "newTuple" => (first | ((k_here; k_dflt (refine' newTuple_V ?k1 ?k2 ?kz ?_; (case k1 => k_asm); (case k2 => k_asm); (case kz => exact Nat.le_of_ble_eq_true rfl); k_whole); intro tw h' F' N' ltw; have ltwx := ltw; (try k_lt ltw); (try k_sweep))) | fail)
  k_with "m_same" => (first | ((refine Same.of fun z hz hc => ?_; (try dsimp +zetaDelta only); (repeat (rw [if_neg (hz _ (by k_extra "m_in"))])); (first | done | rfl | (rw [hc]; rfl) | simp only [hc, Bool.false_eq_true, if_false]))) | fail)
  k_with "subscriptTail Name UnaryOp ref int" => (first | ((k_here; k_dflt (refine' last_K ?zk1 ?zk2 ?_; (case zk1 => k_asm); (case zk2 => k_mem); k_whole))) | fail)
  k_with "m_tup" => (first | ((k_here; (with_reducible show wpAny _ _ (subscriptTail _ _ (Value.ref _) (Value.int _ _)) _ _ _); k_dflt (refine' item_tupleT ?zt ?za ?zb ?zc ?zd ?_; (case zt => exact News.isTup (by k_asm) (by k_mem)); (case za => decide); (case zb => decide); (case zc => rfl); (case zd => rfl); k_whole))) | fail)
  k_with "subscriptTail Subscript" => (first | (k_extra "m_tup") | fail)
  k_with "subscriptTail Call" => (first | (k_extra "m_tup") | fail)
  k_with "subscriptTail Attribute" => (first | ((k_here; kda_here; (with_reducible show wpAny _ _ (subscriptTail _ _ (Value.ref _) (Value.str _ _)) _ _ _); k_dflt (refine kdt_tail (knd := PySem.strKind _ _) (by k_asm) (by k_mem) (by k_asm) ?_))) | fail)
  k_with "eval Name" => (first | ((k_here; (fail_if_success (with_reducible show wpAny _ _ (eval (PySem.Expr.Name _ _) (compEnvC _ _ _ _)) _ _ _)); k_dflt (first | (refine' nameX_L ?zF ?zv ?_ ?za ?zb; (case zF => k_asm); (case za => exact rfl); (case zb => exact rfl); (case zv => exact rfl); k_whole) | (refine' nameX_C ?zN ?zc ?zm ?zd ?_ ?za ?zb; (case za => exact rfl); (case zb => exact rfl); (case zN => k_asm); (case zc => exact rfl); (case zm => k_mem); (case zd => k_asm); k_whole) | (refine' nameX_K ?zF ?zX ?zT ?ze ?_ ?za ?zb; (case zF => k_asm); (case zX => k_asm); (case zT => k_asm); (case za => exact rfl); (case zb => exact rfl); (case ze => k_is); k_whole) | (refine' nameX_B ?zF ?zX ?zT ?ze ?zv ?zn ?_ ?za ?zb; (case zF => k_asm); (case zX => k_asm); (case zT => k_asm); (case za => exact rfl); (case zb => exact rfl); (case ze => k_is); (case zv => boot_fast); (case zn => decide); k_whole)))) | fail)
  k_with "compareOp LtE str str" => (first | ((k_here; (with_reducible refine le_str ?_))) | fail)
  k_with "call type:list" => (first | ((k_here; (with_reducible show wpAny _ _ (call (Value.type _) [Value.ref _]) _ _ _); k_dflt (refine' list_copyV ?k1 ?k2 ?k3 ?kz ?_; (case k1 => k_asm); (case k2 => k_asm); (case k3 => k_mem); (case kz => first | assumption | (k_extra "m_om"))); intro lcp ccp h' F' N' llcp; have llcpx := llcp; (try k_lt llcp); (try k_sweep))) | fail)
  k_with "m_apart" => (first | ((first | assumption | exact Apart.nil | (refine Apart.cons ?_ ?_; (focus ((try dsimp only); k_all; done)); k_extra "m_apart") | ((refine Apart.app ?_ ?_) <;> k_extra "m_apart") | exact Apart.mono (by assumption) (by k_extra "m_sub"))) | fail)
  k_with "exec Assign cons ListComp" => (first | ((k_here; k_dflt (refine' comp_assign ?zc0 ?zc1 ?zc2 ?zc3 ?zc4 ?_; (case zc0 => with_unfolding_all rfl); (case zc1 => with_unfolding_all rfl); (case zc2 => exact rfl); (case zc3 => decide); (case zc4 => exact fun _ => rfl)))) | fail)
  k_with "eval Dict nil nil" => (first | ((k_here; k_dflt (refine' newDict_K ?k1 ?k2 (TopRead.nolimit (by k_asm)) ?_; (case k1 => k_asm); (case k2 => k_asm); k_whole); intro dl h' od F' N' ldl lod hsd _ _ _; have ldlx := ldl; (try k_lt ldl); (try k_sweep))) | fail)
  k_with "call type:tuple" => (first | ((k_here; (with_reducible show wpAny _ _ (call (Value.type _) [Value.ref _]) _ _ _); k_dflt (refine' tuple_V ?k1 ?k2 ?k3 ?kz ?_; (case k1 => k_asm); (case k2 => k_asm); (case k3 => k_mem); (case kz => first | assumption | (k_extra "m_om"))); intro tcp h' F' N' ltcp; have ltcpx := ltcp; (try k_lt ltcp); (try k_sweep))) | fail)
  k_with "m_off" => (first | ((first | assumption | exact off_nil | (refine off_cons ?_ ?_; (focus ((try dsimp only); (first | assumption | exact Ne.symm (by assumption) | k_ne); done)); k_extra "m_off") | ((refine off_app ?_ ?_) <;> k_extra "m_off") | k_all)) | fail)
  k_with "m_pen" => (first | ((first | k_asm | exact pen_pick1 (by k_asm) | exact pen_pick2 (by k_asm) | exact pen_pick3 (by k_asm) | exact pen_pick4 (by k_asm) | exact pen_pick5 (by k_asm) | exact pen_pick6 (by k_asm) | exact pen_pick7 (by k_asm) | exact pen_pick8 (by k_asm))) | fail)
  k_with "m_intsare" => (first | ((first | assumption | exact IntsAre.nil | exact IntsAre.cons _ _ (IntsAre.nil) | exact IntsAre.cons _ _ (IntsAre.cons _ _ (IntsAre.nil)) | exact IntsAre.cons _ _ (IntsAre.cons _ _ (IntsAre.cons _ _ (IntsAre.nil))) | exact IntsAre.cons _ _ (IntsAre.cons _ _ (IntsAre.cons _ _ (IntsAre.cons _ _ (IntsAre.nil)))) | exact IntsAre.cons _ _ (IntsAre.cons _ _ (IntsAre.cons _ _ (IntsAre.cons _ _ (IntsAre.cons _ _ (IntsAre.nil))))) | exact IntsAre.cons _ _ (IntsAre.cons _ _ (IntsAre.cons _ _ (IntsAre.cons _ _ (IntsAre.cons _ _ (IntsAre.cons _ _ (IntsAre.nil)))))))) | fail)
  k_with "m_byts" => (first | ((first | assumption | exact BytsAre.nil | exact BytsAre.cons _ _ (BytsAre.nil) | exact BytsAre.cons _ _ (BytsAre.cons _ _ (BytsAre.nil)) | exact BytsAre.cons _ _ (BytsAre.cons _ _ (BytsAre.cons _ _ (BytsAre.nil))) | exact BytsAre.cons _ _ (BytsAre.cons _ _ (BytsAre.cons _ _ (BytsAre.cons _ _ (BytsAre.nil)))) | exact BytsAre.cons _ _ (BytsAre.cons _ _ (BytsAre.cons _ _ (BytsAre.cons _ _ (BytsAre.cons _ _ (BytsAre.nil))))) | exact BytsAre.cons _ _ (BytsAre.cons _ _ (BytsAre.cons _ _ (BytsAre.cons _ _ (BytsAre.cons _ _ (BytsAre.cons _ _ (BytsAre.nil)))))))) | fail)
  k_with "m_ints" => (first | ((first | assumption | exact List.forall_mem_nil _ | ((refine List.forall_mem_append.mpr ⟨?_, ?_⟩) <;> k_extra "m_ints") | (refine List.forall_mem_cons.mpr ⟨?_, ?_⟩; (focus ((first | decide | (k_extra "m_om")); done)); k_extra "m_ints"))) | fail)
  k_with "callWith ref" => (first | ((k_here; k_dflt (first | (refine' callWith_K ?zk1 ?zk2 ?_; (case zk1 => k_asm); (case zk2 => k_is); k_whole) | (refine' callWith_K0 ?zk1 ?zk2 ?_; (case zk1 => k_in); (case zk2 => k_is); k_whole)))) | fail)
  exact trivial
local macro_rules | `(tactic| k_ne) => `(tactic| k_extra "m_ne")
theorem lines_HZ14 : True := by
  k_with "m_ne" => (first | ((refine neN ?_; (try dsimp only); first | with_reducible assumption | exact Ne.symm (by with_reducible assumption) | exact Nat.ne_of_lt (by with_reducible assumption) | exact Nat.ne_of_gt (by with_reducible assumption) | exact Nat.ne_of_lt (And.left (by with_reducible assumption)) | exact Nat.ne_of_gt (And.left (by with_reducible assumption)) | exact Nat.ne_of_lt (And.left (And.right (by with_reducible assumption))) | exact Nat.ne_of_gt (And.left (And.right (by with_reducible assumption))) | exact Nat.ne_of_lt (And.left (And.right (And.right (by with_reducible assumption)))) | exact Nat.ne_of_gt (And.left (And.right (And.right (by with_reducible assumption)))) | exact Nat.ne_of_lt (And.left (And.right (And.right (And.right (by with_reducible assumption))))) | exact Nat.ne_of_gt (And.left (And.right (And.right (And.right (by with_reducible assumption))))) | exact Nat.ne_of_gt (And.left (And.right (And.right (And.right (And.right (by with_reducible assumption)))))))) | fail)
  k_with "eval BinOp" => (first | ((k_here; (with_reducible refine binop_fold ?_); intro qz)) | fail)
  k_with "spliced" => (first | ((k_here; (with_reducible show wpAny _ _ (spliced (backTo _ (starEach (_ :: _) _))) _ _ _); k_dflt (refine' args_fold ?_ ?e; (case e => exact fun _ => rfl)); intro qz)) | fail)
  k_with "eval List" => (first | ((k_here; (with_reducible refine list_fold ?_); intro qz)) | fail)
  k_with "eval Tuple" => (first | ((k_here; (with_reducible refine tuple_fold ?_); intro qz)) | fail)
  k_with "exec Assign" => (first | ((k_here; (with_reducible show wpAny _ _ (exec (Stmt.Assign [PySem.Expr.Name _ _] _ _) _) _ _ _); k_dflt (refine' assign_fold ?_ ?e; (case e => exact fun _ => rfl)); intro qz)) | fail)
  k_with "eval Subscript" => (first | ((k_here; (with_reducible refine sub_fold ?_); intro qz)) | fail)
  k_with "eval Call" => (first | ((k_here; k_dflt (refine' call_fold ?F ?X ?T ?e ?kk ?_; (case F => k_asm); (case X => k_asm); (case T => k_asm); (case e => k_is); (case kk => k_is); k_whole); intro qz)) | fail)
  k_with "eval Name" => (first | ((k_here; k_dflt (refine' ev_eval ?zl ?zk ?zF ?ze ?_; (case zF => k_asm); (case zl => exact rfl); (case zk => exact rfl); (case ze => exact rfl); k_whole))) | fail)
  k_with "eval BinOp" => (first | ((k_here; k_dflt (refine' ev_eval ?zl ?zk ?zF ?ze ?_; (case zF => k_asm); (case zl => exact rfl); (case zk => exact rfl); (case ze => exact rfl); k_whole))) | fail)
  k_with "eval Constant" => (first | ((k_here; k_dflt (refine' ev_eval ?zl ?zk ?zF ?ze ?_; (case zF => k_asm); (case zl => exact rfl); (case zk => exact rfl); (case ze => exact rfl); k_whole))) | fail)
  k_with "eval Constant int" => (first | (walk_at "eval Constant") | fail)
  k_with "spliced" => (first | ((k_here; k_dflt (refine' ev_args ?zl ?zk ?zF ?ze ?_; (case zF => k_asm); (case zl => exact rfl); (case zk => exact rfl); (case ze => exact rfl); k_whole))) | fail)
  k_with "eval Subscript" => (first | ((k_here; k_dflt (refine' ev_sub ?zl ?zk ?zF ?ze ?ze2 ?_; (case zF => k_asm); (case zl => exact rfl); (case zk => exact rfl); (case ze => exact rfl); (case ze2 => exact rfl); k_whole))) | fail)
  k_with "exec Return some" => (first | ((k_here; k_dflt (refine' ev_ret ?zl ?zk ?zF ?ze ?_; (case zF => k_asm); (case zl => exact rfl); (case zk => exact rfl); (case ze => exact rfl); k_whole))) | fail)
  k_with "eval List" => (first | ((k_here; k_dflt (refine' ev_list ?zl ?zk ?zF ?ze ?_; (case zF => k_asm); (case zl => exact rfl); (case zk => exact rfl); (case ze => exact rfl); k_whole))) | fail)
  k_with "eval Tuple" => (first | ((k_here; k_dflt (refine' ev_tuple ?zl ?zk ?zF ?ze ?_; (case zF => k_asm); (case zl => exact rfl); (case zk => exact rfl); (case ze => exact rfl); k_whole))) | fail)
  k_with "eval Attribute" => (first | ((k_here; k_dflt (refine' ev_attr ?zl ?zk ?zF ?ze ?_; (case zF => k_asm); (case zl => exact rfl); (case zk => exact rfl); (case ze => exact rfl); k_whole))) | fail)
  k_with "eval Attribute Name" => (first | ((k_here; k_dflt (refine' ev_attr ?zl ?zk ?zF ?ze ?_; (case zF => k_asm); (case zl => exact rfl); (case zk => exact rfl); (case ze => exact rfl); k_whole))) | fail)
  k_with "isTrue Compare" => (first | ((k_here; k_dflt (refine' ev_cmp ?zl ?zk ?zF ?ze ?ze2 ?_; (case zF => k_asm); (case zl => exact rfl); (case zk => exact rfl); (case ze => exact rfl); (case ze2 => exact rfl); k_whole))) | fail)
  k_with "exec Assign" => (first | ((k_here; k_dflt (refine' ev_setsub ?zl ?zk ?zF ?ze ?ze2 ?ze3 ?_; (case zF => k_asm); (case zl => exact rfl); (case zk => exact rfl); (case ze => exact rfl); (case ze2 => exact rfl); (case ze3 => exact rfl); k_whole))) | fail)
  k_with "exec Assign" => (first | ((k_here; k_dflt (refine' ev_assign ?k ?F ?N ?e ?_; (case F => k_asm); (case N => k_asm); (case k => exact rfl); (case e => exact rfl); k_whole); intro h' mz F' N'; (try k_sweep))) | fail)
  k_with "eval Call" => (first | ((k_here; k_dflt (refine' ev_call ?zk ?zF ?zX ?zT ?ze ?zkk ?za ?_; (case zF => k_asm); (case zX => k_asm); (case zT => k_asm); (case zk => exact rfl); (case ze => k_is); (case za => exact rfl); (case zkk => k_is); k_whole))) | fail)
  k_with "seqQ" => (first | ((first | refine seqQ_next ?_ | refine seqQ_ret ?_ | refine seqQ_brk ?_ | refine seqQ_cont ?_)) | fail)
  k_with "m_clr" => (first | (((repeat ((with_reducible rename @Ne _ _ _ => hzz); clear hzz)); (repeat ((with_reducible rename @Ne _ _ _ ∧ _ => hzz); clear hzz)); (repeat ((with_reducible rename @LT.lt Nat _ _ _ ∧ _ => hzz); clear hzz)))) | fail)
  k_with "m_clr2" => (first | (((repeat ((with_reducible rename Array.size _ = _ => hzz); clear hzz)); (repeat ((with_reducible rename ((Array.size _ : Nat) : Int) = _ => hzz); clear hzz)); (repeat ((with_reducible rename List.length _ = _ => hzz); clear hzz)); (repeat ((with_reducible rename _ ∨ _ => hzz); clear hzz)))) | fail)
  k_with "m_clr3" => (first | ((repeat ((with_reducible rename _ ∨ _ => hzz); clear hzz))) | fail)
  k_with "m_om1" => (first | ((first | ((with_reducible refine And.intro ?_ ?_) <;> (focus (k_extra "m_om1"; done))) | ((with_reducible refine natAbs_small ?_ ?_) <;> (focus (k_extra "m_om1"; done))) | with_reducible assumption | exact room_n (by with_reducible assumption) (by decide) | exact room_k (by with_reducible assumption) (by decide) | exact Nat.le_trans (by with_reducible assumption) (by decide) | (k_extra "m_clr2"; lia) | (k_extra "m_clr3"; lia) | lia | omega)) | fail)
  k_with "m_om" => (first | ((first | ((try law_clear); (try k_extra "m_clr"); k_extra "m_om1") | omega)) | fail)
  k_with "storeName" => (first | ((k_here; k_dflt (refine' store_ev ?k ?F ?N ?_; (case F => k_asm); (case N => k_asm); (case k => exact rfl); k_whole); intro h' mz F' N'; (try k_sweep))) | fail)
  exact trivial
section
theorem reset_Z1 : True := by
  w_top off
  exact trivial
theorem clip_nn {n : Nat} {k : Int} (h0 : 0 ≤ k) (h1 : k ≤ n) : clipAt n k = k.toNat := by
  refine (let Gz : Prop := _; (?_ : Gz))
  obtain ⟨j, rfl⟩ := Int.eq_ofNat_of_zero_le h0
  k_unfold; clear Gz
  rw [clipAt_nat]
  have : j ≤ n := by (k_extra "m_om")
  simp [Nat.min_eq_left this]
theorem slice_two {D : List Int} {i : Int} (h : ¬ (i < 0 ∨ i + 2 > (D.length : Int))) :
    List.take (clipAt D.length (i + 2) - clipAt D.length i) (List.drop (clipAt D.length i) D) = [D.getD i.toNat 0, D.getD (i.toNat + 1) 0] := by
  rw [clip_nn (by (k_extra "m_om")) (by (k_extra "m_om")), clip_nn (by (k_extra "m_om")) (by (k_extra "m_om"))]
  have e : (i + 2).toNat - i.toNat = 2 := by (k_extra "m_om")
  have h1 : i.toNat < D.length := by (k_extra "m_om")
  have h2 : i.toNat + 1 < D.length := by (k_extra "m_om")
  have e2 : i.toNat + 1 = i.toNat + 1 := rfl
  rw [e]
  have e0 : List.drop i.toNat D = D[i.toNat] :: D[i.toNat + 1] :: List.drop (i.toNat + 1 + 1) D := by
    rw [List.drop_eq_getElem_cons h1, List.drop_eq_getElem_cons h2]
  rw [e0, List.take_succ_cons, List.take_succ_cons, List.take_zero]
  simp [List.getD_eq_getElem?_getD, List.getElem?_eq_getElem h1, List.getElem?_eq_getElem h2]
theorem byte_in {b : Array UInt8} {D : List Int} (h : KBw.bInts b = D) (j : Nat) : 0 ≤ D.getD j 0 ∧ D.getD j 0 < 256 := KBw.getD_in fun k hk => KBw.ints_in (b := b) (h ▸ hk)
section
variable {w : World} {dp un : Nat} {gd : Option (List Code)} {cn : Str} {cs : Scope} {a : Addr} {ccd : Value} {cl : List (Str × Addr)} {outer : List Env} {A₀ : Around} {base h₀ : Heap} {L : Addr} {m : Str → Option Value} {s : Shared} {Q E : Value → Shared → Prop} {p : Program} {loose : List Str} {mean : ExcName → Option Value} {mg mb : Str → Option Value} {news : List (Addr × Obj)}
variable (B : Below A₀ base outer h₀) (F : Fr h₀ L s.heap m) (X : (hd.heap_39 w.params).In h₀) (N : News h₀ L s.heap news) (T : Top p loose mean mg mb h₀) (hk : cs.kind = .function)
include B F X N T hk
theorem lines_Z11 : True := by
  k_with "call ref" => (first | ((fail_if_success (k_extra "off Z1")); (k_here; (with_reducible show wpAny _ _ (call (Value.ref 96) _) _ _ _); k_dflt (refine' check_room_spec ?k1 ?k2 ?k3 ?k4 ?k5 ?kK ?kd ?ku ?kp _ _ _ ?kD ?kb _ _ _ _ ?_ ?_; (case k1 => k_asm); (case k2 => k_asm); (case k3 => k_asm); (case k4 => k_extra "m_news"); (case k5 => k_asm); (case kK => first | exact rfl | assumption); (case kd => first | exact room_n (by with_reducible assumption) (by decide) | ktr_room); (case ku => first | exact room_n (by with_reducible assumption) (by decide) | ktr_units); (case kp => k_extra "m_kept"); (case kD => assumption); (case kb => assumption); (intro hc' h' tk' F' N'; (try k_sweep))))) | fail)
  exact trivial
set_option maxHeartbeats 4000000 in
theorem number_at_spec (hd : dp + 12 < recursionLimit) (hu : un + 110 < cLine) {kp : List (Addr × Obj)} (hkp : KeptIn kp news)
    (b : Array UInt8) (tb : Tok) (D : List Int) (hD : KBw.bInts b = D) (hsz : D.length ≤ 4000) (i : Int) (ti : Tok) (tc : Tok)
    (hok : ∀ x, rdU16 D i = .ok x → 0 ≤ x → x < 65536 → ∀ h' tk' t, Fr h₀ L h' m → News h₀ L h' news → Q (.int x t) { s with heap := h', toks := tk' })
    (herr : ∀ z, rdU16 D i = .error z → Errs base h₀ kp (envX cn cs L a ccd cl) outer L m E s z) :
    Cl w dp un gd cn cs L a ccd cl outer 103 [.bytes b tb, .int i ti, .int 2 tc] Q E s := by
  k_dflt (refine' enter [("data", .bytes b tb), ("at", .int i ti), ("count", .int 2 tc)] B F X N T hk ?k6 ?k7 ?k8 ?k9 ?kB ?c2 ?c3 ?c4 ?c5 ?_; k_extra "m_sides")
  intro g L' h₁ E' FG F' N' B' X' T' hP hE
  try dsimp only
  try k_fold
  refine foldAV ?_; intro Mz Az vz gz dz oz
  k_steps
  · rename KBw.bInts (KBy.picked _ _ _) = _ => hb2
    have hc : ¬ (i < 0 ∨ i + 2 > (D.length : Int)) := by assumption
    rw [slice_two hc] at hb2
    have h1 := byte_in hD i.toNat
    have h2 := byte_in hD (i.toNat + 1)
    unfold AtFor1
    (rename Fr _ _ _ _ => lF'); (rename News _ _ _ _ => lN')
    (with_unfolding_all (refine' iter_bytesUnr (l := [D.getD i.toNat 0, D.getD (i.toNat + 1) 0]) ?hh lF' lN' hb2 ?_; (case hh => exact rfl)))
    clear lF' lN'
    intro I l1
    refine BytesRest.succ (fun _ _ u' it' h' tk' F' N' => ?_)
    k_steps
    refine UnrEnd.intro (by assumption) (by assumption) news (fun p hp => hp) (fun p hp => Nat.ne_of_lt (l1 p hp)) ?_
    try dsimp only [mz]
    rw [or_small (by (k_extra "m_om")) (by (k_extra "m_om")) (by (k_extra "m_om"))]
    clear F' N'
    refine BytesRest.succ (fun _ _ u' it' h' tk' F' N' => ?_)
    k_steps
    refine UnrEnd.intro (by assumption) (by assumption) news (fun p hp => hp) (fun p hp => Nat.ne_of_lt (l1 p hp)) ?_
    try dsimp only [mz]
    rw [or_small (by (k_extra "m_om")) (by (k_extra "m_om")) (by (k_extra "m_om"))]
    clear F' N'
    refine BytesRest.zero (fun h' tk' F' N' => ?_)
    k_steps
    have e : 256 * (256 * 0 + D.getD i.toNat 0) + D.getD (i.toNat + 1) 0 = 256 * D.getD i.toNat 0 + D.getD (i.toNat + 1) 0 := by (k_extra "m_om")
    rw [e]
    exact hok _ (if_neg hc) (by unfold u16At; (k_extra "m_om")) (by unfold u16At; (k_extra "m_om")) _ _ _ (by assumption) (by assumption)
  · rename_i hbad
    exact hE _ _ _ _ _ (herr _ (if_pos hbad))
end
theorem off_Z1 : True := by
  k_with "off Z1" => (skip)
  exact trivial
end
section
theorem reset_Z2 : True := by
  w_top off
  exact trivial
noncomputable abbrev instO (C d : Addr) : Obj := ⟨.ref C, some d, .plain, #[]⟩
noncomputable abbrev octD (c1 c2 : Int) (k1 k2 : Tok) (b : Array UInt8) (tb : Tok) (i : Int) (ti : Tok) : Obj := dictOf [⟨c1, .str (Str.ofString "data") k1, .bytes b tb⟩, ⟨c2, .str (Str.ofString "at") k2, .int i ti⟩] 2
section
variable {w : World} {dp un : Nat} {gd : Option (List Code)} {cn : Str} {cs : Scope} {a : Addr} {ccd : Value} {cl : List (Str × Addr)} {outer : List Env} {A₀ : Around} {base h₀ : Heap} {L : Addr} {m : Str → Option Value} {s : Shared} {Q E : Value → Shared → Prop} {p : Program} {loose : List Str} {mean : ExcName → Option Value} {mg mb : Str → Option Value} {rest : List (Addr × Obj)} {sd so : Addr} {c1 c2 : Int} {k1 k2 tb ti : Tok} {b : Array UInt8} {i : Int}
variable (B : Below A₀ base outer h₀) (F : Fr h₀ L s.heap m) (X : (hd.heap_39 w.params).In h₀) (N : News h₀ L s.heap ((sd, octD c1 c2 k1 k2 b tb i ti) :: rest)) (T : Top p loose mean mg mb h₀) (hk : cs.kind = .function)
include B F X N T hk
theorem lines_Z21 : True := by
  k_with "call ref" => (first | ((fail_if_success (k_extra "off Z2")); (k_here; (with_reducible show wpAny _ _ (call (Value.ref 103) _) _ _ _); k_dflt (refine' number_at_spec ?k1 ?k2 ?k3 ?k4 ?k5 ?kK ?kd ?ku ?kp _ _ _ ?kD ?kb _ _ _ ?_ ?_; (case k1 => k_asm); (case k2 => k_asm); (case k3 => k_asm); (case k4 => k_extra "m_news"); (case k5 => k_asm); (case kK => first | exact rfl | assumption); (case kd => first | exact room_n (by with_reducible assumption) (by decide) | ktr_room); (case ku => first | exact room_n (by with_reducible assumption) (by decide) | ktr_units); (case kp => k_extra "m_kept"); (case kD => assumption); (case kb => assumption); (intro x hx h0x h1x h' tk' t' F' N'; (try k_sweep))))) | fail)
  exact trivial
set_option maxHeartbeats 4000000 in
theorem number_spec (hd : dp + 14 < recursionLimit) (hu : un + 120 < cLine) {kp : List (Addr × Obj)} (hkp : KeptIn kp rest)
    (D : List Int) (hD : KBw.bInts b = D) (hsz : D.length ≤ 4000) (hi : i.natAbs < 100000000) (tc : Tok) (hs : (so, instO 187 sd) ∈ rest) (ho : ∀ p ∈ rest, p.1 ≠ sd)
    (hok : ∀ x, rdU16 D i = .ok x → 0 ≤ x → x < 65536 → ∀ h' tk' t k, Fr h₀ L h' m → News h₀ L h' ((sd, octD c1 c2 k1 k2 b tb (i + 2) k) :: rest) → Q (.int x t) { s with heap := h', toks := tk' })
    (herr : ∀ z, rdU16 D i = .error z → Errs base h₀ kp (envX cn cs L a ccd cl) outer L m E s z) :
    Cl w dp un gd cn cs L a ccd cl outer 132 [.ref so, .int 2 tc] Q E s := by
  k_dflt (refine' enter [("self", .ref so), ("count", .int 2 tc)] B F X N T hk ?k6 ?k7 ?k8 ?k9 ?kB ?c2 ?c3 ?c4 ?c5 ?_; k_extra "m_sides")
  intro g L' h₁ E' FG F' N' B' X' T' hP hE
  have hs' : (so, instO 187 sd) ∈ (sd, octD c1 c2 k1 k2 b tb i ti) :: rest := .tail _ hs
  try dsimp only
  try k_fold
  refine foldAV ?_; intro Mz Az vz gz dz oz
  k_steps
  · exact hok _ (by assumption) (by assumption) (by assumption) _ _ _ _ (by assumption) (by assumption)
  · exact hE _ _ _ _ _ (herr _ (by assumption))
theorem lines_Z22 : True := by
  k_with "call ref" => (first | ((fail_if_success (k_extra "off Z2")); (k_here; (with_reducible show wpAny _ _ (call (Value.ref 132) _) _ _ _); k_dflt (refine' number_spec ?k1 ?k2 ?k3 ?k4 ?k5 ?kK ?kd ?ku ?kp _ ?kD ?kb ?ki _ ?ks ?ko ?_ ?_; (case k1 => k_asm); (case k2 => k_asm); (case k3 => k_asm); (case k4 => k_extra "m_news"); (case k5 => k_asm); (case kK => first | exact rfl | assumption); (case kd => first | exact room_n (by with_reducible assumption) (by decide) | ktr_room); (case ku => first | exact room_n (by with_reducible assumption) (by decide) | ktr_units); (case kp => k_extra "m_kept"); (case kD => assumption); (case kb => assumption); (case ki => (k_extra "m_om")); (case ks => k_extra "m_in"); (case ko => k_all); (intro x hx h0x h1x h' tk' t' k' F' N'; (try k_sweep))))) | fail)
  exact trivial
set_option maxHeartbeats 4000000 in
theorem u16_spec (hd : dp + 16 < recursionLimit) (hu : un + 130 < cLine) {kp : List (Addr × Obj)} (hkp : KeptIn kp rest)
    (D : List Int) (hD : KBw.bInts b = D) (hsz : D.length ≤ 4000) (hi : i.natAbs < 100000000) (hs : (so, instO 187 sd) ∈ rest) (ho : ∀ p ∈ rest, p.1 ≠ sd)
    (hok : ∀ x, rdU16 D i = .ok x → 0 ≤ x → x < 65536 → ∀ h' tk' t k, Fr h₀ L h' m → News h₀ L h' ((sd, octD c1 c2 k1 k2 b tb (i + 2) k) :: rest) → Q (.int x t) { s with heap := h', toks := tk' })
    (herr : ∀ z, rdU16 D i = .error z → Errs base h₀ kp (envX cn cs L a ccd cl) outer L m E s z) :
    Cl w dp un gd cn cs L a ccd cl outer 146 [.ref so] Q E s := by
  k_dflt (refine' enter [("self", .ref so)] B F X N T hk ?k6 ?k7 ?k8 ?k9 ?kB ?c2 ?c3 ?c4 ?c5 ?_; k_extra "m_sides")
  intro g L' h₁ E' FG F' N' B' X' T' hP hE
  have hs' : (so, instO 187 sd) ∈ (sd, octD c1 c2 k1 k2 b tb i ti) :: rest := .tail _ hs
  try dsimp only
  try k_fold
  refine foldAV ?_; intro Mz Az vz gz dz oz
  k_steps
  · exact hok _ (by assumption) (by assumption) (by assumption) _ _ _ _ (by assumption) (by assumption)
  · exact hE _ _ _ _ _ (herr _ (by assumption))
end
theorem off_Z2 : True := by
  k_with "off Z2" => (skip)
  exact trivial
end
section
theorem reset_Z0 : True := by
  w_top off
  exact trivial
section
variable {w : World} {dp un : Nat} {gd : Option (List Code)} {cn : Str} {cs : Scope} {a : Addr} {ccd : Value} {cl : List (Str × Addr)} {outer : List Env} {A₀ : Around} {base h₀ : Heap} {L : Addr} {m : Str → Option Value} {s : Shared} {Q E : Value → Shared → Prop} {p : Program} {loose : List Str} {mean : ExcName → Option Value} {mg mb : Str → Option Value} {news : List (Addr × Obj)}
variable (B : Below A₀ base outer h₀) (F : Fr h₀ L s.heap m) (X : (hd.heap_39 w.params).In h₀) (N : News h₀ L s.heap news) (T : Top p loose mean mg mb h₀) (hk : cs.kind = .function)
include B F X N T hk
set_option maxHeartbeats 1000000 in
theorem oct_new (hd : dp + 5 < recursionLimit) (hu : un + 100 < cLine) (b : Array UInt8) (tb : Tok) (i : Int) (ti : Tok)
    (hret : ∀ h' tk' so sd c1 c2 k1 k2, Fr h₀ L h' m → News h₀ L h' ((sd, octD c1 c2 k1 k2 b tb i ti) :: (so, instO 187 sd) :: news) → (∀ p ∈ news, p.1 < sd) → @LT.lt Nat _ sd so → Q (.ref so) { s with heap := h', toks := tk' }) :
    Cl w dp un gd cn cs L a ccd cl outer 187 [.bytes b tb, .int i ti] Q E s := by
  k_dflt (refine' call_cls F X N ?k4 ?k5 ?k6 ?_; (case k4 => k_is); (case k5 => k_is); (case k6 => k_is))
  intro so sd h' F1 N1 l1 l2
  (try k_lt2 l2)
  k_dflt (refine' code_def (env := envX cn cs L a ccd cl) (outer := outer) B F1 X N1 T ?kA ?kF hk ?k6 ?k7 ?k8 ?k9 ?kB ?_ ?c2 ?c3 ?c4 ?c5; (case kA => exact rfl); (case kF => exact rfl); (case k6 => k_is); (case k7 => k_is); (case k8 => first | exact room_n (by with_reducible assumption) (by decide) | exact room_k (by with_reducible assumption) (by decide) | exact room_z (by with_reducible assumption) | ktr_room); (case k9 => exact binds_K (X.keeps F1.keep) rfl (by k_is) rfl rfl rfl); (case kB => exact locs rfl); (case c5 => decide); (case c2 => exact rfl); (case c3 => exact rfl); (case c4 => exact rfl); k_whole; intro g' L' h' FG' F' N' B' X' T'; (try dsimp only); (try k_fold))
  k_extra "m_steps"
  exact hret _ _ _ _ _ _ _ _ (by assumption) (news_swap (by assumption)) l1 l2
end
theorem off_Z0 : True := by
  k_with "off Z0" => (skip)
  exact trivial
end
section
theorem reset_Z3 : True := by
  w_top off
  exact trivial
noncomputable def rdTag (D : List Int) (i : Int) : Except Int (List Int) := @ite _ (Out D i 4) (outD _ _ _) (.error i) (.ok ((D.drop i.toNat).take 4))
noncomputable def tagStr (ks : List Int) : Str := ⟨(ks.map Int.toNat).toArray⟩
theorem tag_cut {D : List Int} {i : Int} (h : ¬ Out D i 4) : List.take (clipAt D.length (i + 4) - clipAt D.length i) (List.drop (clipAt D.length i) D) = (D.drop i.toNat).take 4 := by
  unfold Out at h
  rw [clip_nn (by (k_extra "m_om")) (by (k_extra "m_om")), clip_nn (by (k_extra "m_om")) (by (k_extra "m_om"))]
  have e : (i + 4).toNat - i.toNat = 4 := by (k_extra "m_om")
  rw [e]
theorem tag_len : ∀ ks : List Int, ((ks.map fun k => (⟨#[k.toNat]⟩ : Str)).map (·.length)).sum = ks.length
  | [] => rfl
  | k :: ks => by
    rw [List.map_cons, List.map_cons, List.sum_cons, tag_len ks, List.length_cons]
    show 1 + _ = _
    (k_extra "m_om")
theorem tag_join (ks : List Int) : Txt.join (Str.ofString "") (ks.map fun k => (⟨#[k.toNat]⟩ : Str)) = tagStr ks := by
  have e : (ks.map fun k => (⟨#[k.toNat]⟩ : Str)) = signs (tagStr ks) := by
    unfold signs tagStr
    simp
  have e2 : Str.ofString "" = ⟨#[]⟩ := by decide
  rw [e, e2]
  show Builtin.Str.glued _ _ = _
  rw [StrLaws.glued_eq_join]
  exact join_nil_signs _
section
variable {w : World} {dp un : Nat} {gd : Option (List Code)} {cn : Str} {cs : Scope} {a : Addr} {ccd : Value} {cl : List (Str × Addr)} {outer : List Env} {A₀ : Around} {base h₀ : Heap} {L : Addr} {m : Str → Option Value} {s : Shared} {Q E : Value → Shared → Prop} {p : Program} {loose : List Str} {mean : ExcName → Option Value} {mg mb : Str → Option Value} {rest : List (Addr × Obj)} {sd so : Addr} {c1 c2 : Int} {k1 k2 tb ti : Tok} {b : Array UInt8} {i : Int}
variable (B : Below A₀ base outer h₀) (F : Fr h₀ L s.heap m) (X : (hd.heap_39 w.params).In h₀) (N : News h₀ L s.heap ((sd, octD c1 c2 k1 k2 b tb i ti) :: rest)) (T : Top p loose mean mg mb h₀) (hk : cs.kind = .function)
include B F X N T hk
theorem lines_Z31 : True := by
  k_with "call ref" => (first | ((fail_if_success (k_extra "off Z3")); (k_here; (with_reducible show wpAny _ _ (call (Value.ref 96) _) _ _ _); k_dflt (refine' check_room_spec ?k1 ?k2 ?k3 ?k4 ?k5 ?kK ?kd ?ku ?kp _ _ _ ?kD ?kb _ _ _ _ ?_ ?_; (case k1 => k_asm); (case k2 => k_asm); (case k3 => k_asm); (case k4 => k_extra "m_news"); (case k5 => k_asm); (case kK => first | exact rfl | assumption); (case kd => first | exact room_n (by with_reducible assumption) (by decide) | ktr_room); (case ku => first | exact room_n (by with_reducible assumption) (by decide) | ktr_units); (case kp => k_extra "m_kept"); (case kD => assumption); (case kb => assumption); (intro hc' h' tk' F' N'; (try k_sweep))))) | fail)
  exact trivial
set_option maxHeartbeats 4000000 in
theorem need_spec (hd : dp + 14 < recursionLimit) (hu : un + 120 < cLine) {kp : List (Addr × Obj)} (hkp : KeptIn kp rest)
    (D : List Int) (hD : KBw.bInts b = D) (hsz : D.length ≤ 4000) (c : Int) (tc : Tok) (hs : (so, instO 187 sd) ∈ rest)
    (hok : ¬ Out D i c → ∀ h' tk', Fr h₀ L h' m → News h₀ L h' ((sd, octD c1 c2 k1 k2 b tb i ti) :: rest) → Q .none { s with heap := h', toks := tk' })
    (herr : Out D i c → Errs base h₀ kp (envX cn cs L a ccd cl) outer L m E s i) :
    Cl w dp un gd cn cs L a ccd cl outer 125 [.ref so, .int c tc] Q E s := by
  k_dflt (refine' enter [("self", .ref so), ("count", .int c tc)] B F X N T hk ?k6 ?k7 ?k8 ?k9 ?kB ?c2 ?c3 ?c4 ?c5 ?_; k_extra "m_sides")
  intro g L' h₁ E' FG F' N' B' X' T' hP hE
  have hs' : (so, instO 187 sd) ∈ (sd, octD c1 c2 k1 k2 b tb i ti) :: rest := .tail _ hs
  try dsimp only
  try k_fold
  refine foldAV ?_; intro Mz Az vz gz dz oz
  k_steps
  · exact hok (by assumption) _ _ (by assumption) (by assumption)
  · exact hE _ _ _ _ _ (herr (by assumption))
theorem lines_Z32 : True := by
  k_with "call ref" => (first | ((fail_if_success (k_extra "off Z3")); (k_here; (with_reducible show wpAny _ _ (call (Value.ref 125) _) _ _ _); k_dflt (refine' need_spec ?k1 ?k2 ?k3 ?k4 ?k5 ?kK ?kd ?ku ?kp _ ?kD ?kb _ _ ?ks ?_ ?_; (case k1 => k_asm); (case k2 => k_asm); (case k3 => k_asm); (case k4 => k_extra "m_news"); (case k5 => k_asm); (case kK => first | exact rfl | assumption); (case kd => first | exact room_n (by with_reducible assumption) (by decide) | ktr_room); (case ku => first | exact room_n (by with_reducible assumption) (by decide) | ktr_units); (case kp => k_extra "m_kept"); (case kD => assumption); (case kb => assumption); (case ks => k_extra "m_in"); (intro hc' h' tk' F' N'; (try k_sweep))))) | fail)
  exact trivial
set_option maxHeartbeats 4000000 in
theorem tag_spec (hd : dp + 16 < recursionLimit) (hu : un + 130 < cLine) {kp : List (Addr × Obj)} (hkp : KeptIn kp rest)
    (D : List Int) (hD : KBw.bInts b = D) (hsz : D.length ≤ 4000) (hi : i.natAbs < 100000000) (hs : (so, instO 187 sd) ∈ rest) (ho : ∀ p ∈ rest, p.1 ≠ sd)
    (hok : ∀ x, rdTag D i = .ok x → ∀ h' tk' t k, Fr h₀ L h' m → News h₀ L h' ((sd, octD c1 c2 k1 k2 b tb (i + 4) k) :: rest) → Q (.str (tagStr x) t) { s with heap := h', toks := tk' })
    (herr : ∀ z, rdTag D i = .error z → Errs base h₀ kp (envX cn cs L a ccd cl) outer L m E s z) :
    Cl w dp un gd cn cs L a ccd cl outer 172 [.ref so] Q E s := by
  k_dflt (refine' enter [("self", .ref so)] B F X N T hk ?k6 ?k7 ?k8 ?k9 ?kB ?c2 ?c3 ?c4 ?c5 ?_; k_extra "m_sides")
  intro g L' h₁ E' FG F' N' B' X' T' hP hE
  have hs' : (so, instO 187 sd) ∈ (sd, octD c1 c2 k1 k2 b tb i ti) :: rest := .tail _ hs
  try dsimp only
  try k_fold
  refine foldAV ?_; intro Mz Az vz gz dz oz
  k_steps
  · have hO : ¬ Out D i 4 := by assumption
    rename KBw.bInts (KBy.picked _ _ _) = _ => hb2
    generalize KBy.picked b (some i) (some (i + 4)) = b2 at *
    rename Fr _ _ _ _ => F9
    rename News _ _ _ _ => N9
    have hOz1 : ∃ k, News g L' _ ((sd, octD c1 c2 k1 k2 b tb (i + 4) k) :: rest) := ⟨_, N9⟩
    refine (let Gz : Prop := _; (?_ : Gz))
    obtain ⟨k9, N9⟩ := hOz1
    k_unfold; clear Gz
    rw [tag_cut hO] at hb2
    refine at_bytes1 (kp := []) (fun _ => False) (fun j ys nw => nw = (sd, octD c1 c2 k1 k2 b tb (i + 4) k9) :: rest ∧ StrsAre ys ((((D.drop i.toNat).take 4).take j).map fun k => ⟨#[k.toNat]⟩))
      B' F9 N9 rfl rfl rfl ?_ (by decide) rfl rfl ?_ ?_ ⟨rfl, ?_⟩ ?_ ?_ ?_
    · rw [← KBw.ints_length, hb2]; exact Nat.le_trans (List.length_take_le ..) (by decide)
    · intro _ _ _ _ _ hp; cases hp
    · intro _ hp; cases hp
    · exact .nil
    · intro _ hz; exact hz.elim
    · intro j c ti' ys nw I oI C oC D' m₂ h tk hc hJz2
      refine (let Gz : Prop := _; (?_ : Gz))
      obtain ⟨rfl, hys⟩ := hJz2
      k_unfold; clear Gz
      intro hoC hm₂ F1 N1 O3 hne hkk
      have hin := KBw.ints_in (List.mem_of_getElem? hc)
      k_steps
      refine LCg.CompEnd.intro F1 N1 _ (fun p hp => hp) O3 trivial ⟨rfl, ?_⟩
      rw [hb2] at hc
      rw [List.take_add_one, hc, List.map_append]
      exact StrsAre.append' hys (.cons _ _ .nil)
    · refine fin_none ?_
      intro D' h tk ys nw F1 N1 hno hJz3
      refine (let Gz : Prop := _; (?_ : Gz))
      obtain ⟨rfl, hys⟩ := hJz3
      k_unfold; clear Gz
      have hl4 : ((D.drop i.toNat).take 4).length = b2.size := by rw [← hb2, KBw.ints_length]
      rw [← hl4, List.take_length] at hys
      have hl5 : ((D.drop i.toNat).take 4).length ≤ 4 := List.length_take_le ..
      k_steps
      refine join_listW ⟨_, (N1 _ (.head _)).1, rfl, _, rfl⟩ hys (by decide) ?_ fun t' k => ?_
      · rw [tag_len, List.length_map]; (k_extra "m_om")
      · rw [tag_join]
        k_steps
        exact hok _ (if_neg hO) _ _ _ _ (by assumption) (News.sub (by assumption) (by k_extra "m_sub"))
  · exact hE _ _ _ _ _ (herr _ (if_pos (by assumption)))
end
theorem off_Z3 : True := by
  k_with "off Z3" => (skip)
  exact trivial
end
section
theorem reset_Z4 : True := by
  w_top off
  exact trivial
noncomputable def rdRows (D : List Int) (i c : Int) : Except Int (List Int) := @ite _ (Out D i (2 * c)) (outD _ _ _) (.error i) (.ok ((List.range c.toNat).map fun (j : Nat) => u16At D (i + 2 * (j : Int))))
section
variable {w : World} {dp un : Nat} {gd : Option (List Code)} {cn : Str} {cs : Scope} {a : Addr} {ccd : Value} {cl : List (Str × Addr)} {outer : List Env} {A₀ : Around} {base h₀ : Heap} {L : Addr} {m : Str → Option Value} {s : Shared} {Q E : Value → Shared → Prop} {p : Program} {loose : List Str} {mean : ExcName → Option Value} {mg mb : Str → Option Value} {rest : List (Addr × Obj)} {sd so : Addr} {c1 c2 : Int} {k1 k2 tb ti : Tok} {b : Array UInt8} {i : Int}
variable (B : Below A₀ base outer h₀) (F : Fr h₀ L s.heap m) (X : (hd.heap_39 w.params).In h₀) (N : News h₀ L s.heap ((sd, octD c1 c2 k1 k2 b tb i ti) :: rest)) (T : Top p loose mean mg mb h₀) (hk : cs.kind = .function)
include B F X N T hk
theorem lines_Z41 : True := by
  k_with "call ref" => (first | ((fail_if_success (k_extra "off Z4")); (k_here; (with_reducible show wpAny _ _ (call (Value.ref 125) _) _ _ _); k_dflt (refine' need_spec ?k1 ?k2 ?k3 ?k4 ?k5 ?kK ?kd ?ku ?kp _ ?kD ?kb _ _ ?ks ?_ ?_; (case k1 => k_asm); (case k2 => k_asm); (case k3 => k_asm); (case k4 => k_extra "m_news"); (case k5 => k_asm); (case kK => first | exact rfl | assumption); (case kd => first | exact room_n (by with_reducible assumption) (by decide) | ktr_room); (case ku => first | exact room_n (by with_reducible assumption) (by decide) | ktr_units); (case kp => k_extra "m_kept"); (case kD => assumption); (case kb => assumption); (case ks => k_extra "m_in"); (intro hc' h' tk' F' N'; (try k_sweep))))) | fail)
  k_with "call ref" => (first | ((fail_if_success (k_extra "off Z4")); (k_here; (with_reducible show wpAny _ _ (call (Value.ref 146) _) _ _ _); k_dflt (refine' u16_spec ?k1 ?k2 ?k3 ?k4 ?k5 ?kK ?kd ?ku ?kp _ ?kD ?kb ?ki ?ks ?ko ?_ ?_; (case k1 => k_asm); (case k2 => k_asm); (case k3 => k_asm); (case k4 => k_extra "m_news"); (case k5 => k_asm); (case kK => first | exact rfl | assumption); (case kd => first | exact room_n (by with_reducible assumption) (by decide) | ktr_room); (case ku => first | exact room_n (by with_reducible assumption) (by decide) | ktr_units); (case kp => k_extra "m_kept"); (case kD => assumption); (case kb => assumption); (case ki => (k_extra "m_om")); (case ks => k_extra "m_in"); (case ko => k_all); (intro x hx h0x h1x h' tk' t' k' F' N'; (try k_sweep))))) | fail)
  exact trivial
set_option maxHeartbeats 1000000 in
theorem rows_spec (hd : dp + 20 < recursionLimit) (hu : un + 150 < cLine) {kp : List (Addr × Obj)} (hkp : KeptIn kp rest)
    (D : List Int) (hD : KBw.bInts b = D) (hsz : D.length ≤ 4000) (hi : 0 ≤ i ∧ i < 90000000) (c : Int) (tc : Tok) (hc0 : 0 ≤ c) (hc1 : c < 65536) (hs : (so, instO 187 sd) ∈ rest) (ho : ∀ p ∈ rest, p.1 ≠ sd)
    (hok : ∀ x, rdRows D i c = .ok x → ∀ h' tk' k r ys, Fr h₀ L h' m → News h₀ L h' ((sd, octD c1 c2 k1 k2 b tb (i + 2 * c) k) :: (r, LCg.lst ys) :: rest) → IntsAre ys x → ys.length ≤ 65536 → r ≠ sd → (∀ p ∈ rest, p.1 ≠ r) → Q (.ref r) { s with heap := h', toks := tk' })
    (herr : ∀ z, rdRows D i c = .error z → Errs base h₀ kp (envX cn cs L a ccd cl) outer L m E s z) :
    Cl w dp un gd cn cs L a ccd cl outer 177 [.ref so, .int c tc] Q E s := by
  k_dflt (refine' enterC [("self", .ref so), ("count", .int c tc)] B F X N T hk ?k6 ?k7 ?k8 ?k9 ?kB ?kD ?c2 ?c3 ?c4 ?_; k_extra "m_sidesC")
  intro g L' h₁ tk cells E' FG F' N' Y' B' X' T' l' hP hE
  refine (let Gz : Prop := _; (?_ : Gz))
  (refine ex1 (CellsAre.one Y') fun o1 hAz35 => ?_; refine and2 (hAz35) fun hE1 d1 => ?_; clear hAz35)
  k_unfold; clear Gz
  subst hE1
  try simp only [List.cons_append, List.nil_append] at N'
  k_lt l'
  replace N' := News.sub (news' := (sd, octD c1 c2 k1 k2 b tb i ti) :: (L' + 1, o1) :: rest) N' (by k_extra "m_sub")
  have hs' : (so, instO 187 sd) ∈ (sd, octD c1 c2 k1 k2 b tb i ti) :: (L' + 1, o1) :: rest := .tail _ (.tail _ hs)
  have ho' : ∀ p ∈ (L' + 1, o1) :: rest, p.1 ≠ sd := (fmc (Nat.ne_of_gt (Nat.lt_succ_of_lt l'.1)) (ho))
  try dsimp only
  try k_fold
  refine foldAV ?_; intro Mz Az vz gz dz oz
  k_steps
  · have hO : ¬ Out D i (2 * c) := by assumption
    rename IsRange _ _ _ _ _ _ _ _ => hR
    rename Fr _ _ _ _ => F9
    rename News _ _ _ _ => N9
    refine at_range1 (kp := []) (n := c.toNat) (fun _ => False) (fun j ys nw => ∃ k, nw = (sd, octD c1 c2 k1 k2 b tb (i + 2 * (j : Int)) k) :: (L' + 1, o1) :: rest ∧ IntsAre ys ((List.range j).map fun (j : Nat) => u16At D (i + 2 * (j : Int))))
      B' F9 N9 rfl rfl rfl hR (range_small hc0 (by (k_extra "m_om"))) (range_size hc0) (by rw [sizeLine_eq]; (k_extra "m_om")) (by decide) rfl rfl ?_ ?_ ⟨ti, ?_, .nil⟩ ?_ ?_ ?_
    · intro _ _ _ _ _ hp; cases hp
    · intro _ hp; cases hp
    · rw [Int.natCast_zero, Int.mul_zero, Int.add_zero]
    · intro _ hz; exact hz.elim
    · intro j tj ys nw I oI C oC D' m₂ h tk hj hJz2
      refine (let Gz : Prop := _; (?_ : Gz))
      (refine ex1 (hJz2) fun k hAz36 => ?_; clear hJz2; refine and2 (hAz36) fun hEz36_1 hys => ?_; clear hAz36; subst hEz36_1)
      k_unfold; clear Gz
      intro hoC hm₂ F1 N1 O3 hne hkk
      have hO3 := O3.mem
      replace N1 := News.sub (news' := (sd, octD c1 c2 k1 k2 b tb (i + 2 * (j : Int)) k) :: (I, oI) :: (C, oC) :: (D', LCg.lst ys) :: (L' + 1, o1) :: rest) N1 (by k_extra "m_sub")
      have hoX : ∀ p ∈ (I, oI) :: (C, oC) :: (D', LCg.lst ys) :: (L' + 1, o1) :: rest, p.1 ≠ sd := by
        have h0 := hO3 _ (.head _)
        exact (fmc (Ne.symm h0.1) ((fmc (Ne.symm h0.2.1) ((fmc (Ne.symm h0.2.2) (ho'))))))
      have hin : rdU16 D (i + 2 * (j : Int)) = .ok (u16At D (i + 2 * (j : Int))) := if_neg (by unfold Out at hO ⊢; (k_extra "m_om"))
      k_steps
      · rename rdU16 D _ = .ok _ => hx
        rw [hin] at hx
        cases hx
        rename News g L' _ _ => N5
        have hOz3 : ∃ k, News g L' _ ((sd, octD c1 c2 k1 k2 b tb (i + 2 * ((j + 1 : Nat) : Int)) k) :: (I, oI) :: (C, oC) :: (D', LCg.lst ys) :: (L' + 1, o1) :: rest) :=
          ⟨_, by rw [show i + 2 * ((j + 1 : Nat) : Int) = i + 2 * (j : Int) + 2 from by (k_extra "m_om")]; exact N5⟩
        refine (let Gz : Prop := _; (?_ : Gz))
        obtain ⟨k5, N5⟩ := hOz3
        k_unfold; clear Gz
        refine LCg.CompEnd.intro (by assumption) N5 ((sd, octD c1 c2 k1 k2 b tb (i + 2 * ((j + 1 : Nat) : Int)) k5) :: (L' + 1, o1) :: rest) ?_ (LCg.Off3.of ((fmc (hO3 (sd, octD c1 c2 k1 k2 b tb (i + 2 * (j : Int)) k) (.head _)) (fun p hp => hO3 p (.tail _ hp))))) trivial ⟨k5, rfl, ?_⟩
        · k_extra "m_sub"
        · rw [List.range_succ, List.map_append]
          exact IntsAre.append hys (.cons _ _ .nil)
      · rename rdU16 D _ = .error _ => hx
        rw [hin] at hx
        cases hx
    · refine fin_none ?_
      intro D' h tk ys nw F1 N1 hno hJz4
      refine (let Gz : Prop := _; (?_ : Gz))
      (refine ex1 (hJz4) fun k hAz37 => ?_; clear hJz4; refine and2 (hAz37) fun hEz37_1 hys => ?_; clear hAz37; subst hEz37_1)
      k_unfold; clear Gz
      k_steps
      have hcc : ((c.toNat : Nat) : Int) = c := by (k_extra "m_om")
      rw [hcc] at hno
      rename News h₀ L _ _ => N2
      rw [hcc] at N2
      exact hok _ (if_neg hO) _ _ k D' ys (by assumption) (News.sub N2 (by k_extra "m_sub")) hys (by rw [IntsAre.length hys, List.length_map, List.length_range]; (k_extra "m_om")) (Ne.symm (hno _ (.head _))) fun p hp => hno p (.tail _ (.tail _ hp))
  · exact hE _ _ _ _ _ (herr _ (if_pos (by assumption)))
end
theorem off_Z4 : True := by
  k_with "off Z4" => (skip)
  exact trivial
end
section
theorem reset_Z5 : True := by
  w_top off
  exact trivial
noncomputable def rdOff (D : List Int) (i g : Int) : Except Int Int := match rdU16 D i with
  | .error z => .error z
  | .ok x => if x = 0 then .error i else .ok (g + x)
section
variable {w : World} {dp un : Nat} {gd : Option (List Code)} {cn : Str} {cs : Scope} {a : Addr} {ccd : Value} {cl : List (Str × Addr)} {outer : List Env} {A₀ : Around} {base h₀ : Heap} {L : Addr} {m : Str → Option Value} {s : Shared} {Q E : Value → Shared → Prop} {p : Program} {loose : List Str} {mean : ExcName → Option Value} {mg mb : Str → Option Value} {rest : List (Addr × Obj)} {sd so : Addr} {c1 c2 : Int} {k1 k2 tb ti : Tok} {b : Array UInt8} {i : Int}
variable (B : Below A₀ base outer h₀) (F : Fr h₀ L s.heap m) (X : (hd.heap_39 w.params).In h₀) (N : News h₀ L s.heap ((sd, octD c1 c2 k1 k2 b tb i ti) :: rest)) (T : Top p loose mean mg mb h₀) (hk : cs.kind = .function)
include B F X N T hk
theorem lines_Z51 : True := by
  k_with "call ref" => (first | ((fail_if_success (k_extra "off Z5")); (k_here; (with_reducible show wpAny _ _ (call (Value.ref 146) _) _ _ _); k_dflt (refine' u16_spec ?k1 ?k2 ?k3 ?k4 ?k5 ?kK ?kd ?ku ?kp _ ?kD ?kb ?ki ?ks ?ko ?_ ?_; (case k1 => k_asm); (case k2 => k_asm); (case k3 => k_asm); (case k4 => k_extra "m_news"); (case k5 => k_asm); (case kK => first | exact rfl | assumption); (case kd => first | exact room_n (by with_reducible assumption) (by decide) | ktr_room); (case ku => first | exact room_n (by with_reducible assumption) (by decide) | ktr_units); (case kp => k_extra "m_kept"); (case kD => assumption); (case kb => assumption); (case ki => (k_extra "m_om")); (case ks => k_extra "m_in"); (case ko => k_all); (intro x hx h0x h1x h' tk' t' k' F' N'; (try k_sweep))))) | fail)
  exact trivial
set_option maxHeartbeats 1000000 in
theorem offset_spec (hd : dp + 20 < recursionLimit) (hu : un + 150 < cLine) {kp : List (Addr × Obj)} (hkp : KeptIn kp rest)
    (D : List Int) (hD : KBw.bInts b = D) (hsz : D.length ≤ 4000) (hi : i.natAbs < 100000000) (g : Int) (tg : Tok) (hs : (so, instO 187 sd) ∈ rest) (ho : ∀ p ∈ rest, p.1 ≠ sd)
    (hok : ∀ x, rdOff D i g = .ok x → ∀ h' tk' t k, Fr h₀ L h' m → News h₀ L h' ((sd, octD c1 c2 k1 k2 b tb (i + 2) k) :: rest) → Q (.int x t) { s with heap := h', toks := tk' })
    (herr : ∀ z, rdOff D i g = .error z → Errs base h₀ kp (envX cn cs L a ccd cl) outer L m E s z) :
    Cl w dp un gd cn cs L a ccd cl outer 306 [.ref so, .int g tg] Q E s := by
  k_dflt (refine' enter [("source", .ref so), ("begin", .int g tg)] B F X N T hk ?k6 ?k7 ?k8 ?k9 ?kB ?c2 ?c3 ?c4 ?c5 ?_; k_extra "m_sides")
  intro g' L' h₁ E' FG F' N' B' X' T' hP hE
  try dsimp only
  try k_fold
  refine foldAV ?_; intro Mz Az vz gz dz oz
  k_steps
  · rename rdU16 D i = .ok _ => hx
    refine raised B' (by assumption) X' (by assumption) (by k_extra "m_kept") (by assumption) rfl rfl (hE _ _ h₁ 0 _ (herr _ ?_)) _
    unfold rdOff; rw [hx]; exact if_pos (by assumption)
  · rename rdU16 D i = .ok _ => hx
    refine hok _ ?_ _ _ _ _ (by assumption) (by assumption)
    unfold rdOff; rw [hx]; exact if_neg (by assumption)
  · rename rdU16 D i = .error _ => hx
    refine hE _ _ _ _ _ (herr _ ?_)
    unfold rdOff; rw [hx]
end
theorem off_Z5 : True := by
  k_with "off Z5" => (skip)
  exact trivial
end
section
theorem reset_Z6 : True := by
  w_top off
  exact trivial
noncomputable def recD (p : List Int × Int) : Dat := .tuple [.str (tagStr p.1), .int p.2]
noncomputable def tagLe (x y : List Int) : Bool := !decide (y.map Int.toNat < x.map Int.toNat)
noncomputable def stops (asc : Bool) (acc : List (List Int × Int)) (tag : List Int) : Bool := match asc, acc.getLast? with
  | true, some p => tagLe tag p.1
  | _, _ => false
noncomputable def recsGo (D : List Int) (g : Int) (asc : Bool) : Nat → Int → List (List Int × Int) → Except Int (List (List Int × Int))
  | 0, _, acc => .ok acc
  | n + 1, i, acc => match rdTag D i with
    | .error z => .error z
    | .ok tag => if stops asc acc tag then .error i else match rdOff D (i + 4) g with
      | .error z => .error z
      | .ok x => recsGo D g asc n (i + 6) (acc ++ [(tag, x)])
noncomputable def rdRecs (D : List Int) (g lead : Int) (asc : Bool) : Except Int (List (List Int × Int)) := match rdU16 D (g + lead) with
  | .error z => .error z
  | .ok n => recsGo D g asc n.toNat (g + lead + 2) []
noncomputable def TagOk (ks : List Int) : Prop := ks.length = 4 ∧ ∀ k ∈ ks, 0 ≤ k ∧ k < 256
theorem rdTag_ok {b : Array UInt8} {D : List Int} (hD : KBw.bInts b = D) {i : Int} {ks : List Int} (h : rdTag D i = .ok ks) : TagOk ks := by
  unfold rdTag at h
  split at h
  · cases h
  · rename_i ho
    unfold Out at ho
    cases h
    refine ⟨by rw [List.length_take, List.length_drop]; (k_extra "m_om"), fun k hk => KBw.ints_in (b := b) (hD ▸ List.mem_of_mem_drop (List.mem_of_mem_take hk))⟩
theorem tag_strOk {ks : List Int} (h : TagOk ks) : PyData.strOk (tagStr ks) = true := by
  unfold PyData.strOk tagStr
  rw [List.all_toArray, List.all_eq_true]
  intro n hn
  refine (let Gz : Prop := _; (?_ : Gz))
  (refine ex1 (List.mem_map.mp hn) fun k hAz38 => ?_; refine and2 (hAz38) fun hk hEz38_2 => ?_; clear hAz38; subst hEz38_2)
  k_unfold; clear Gz
  have := h.2 k hk
  exact decide_eq_true (by (k_extra "m_om"))
theorem recD_ok {p : List Int × Int} (h : TagOk p.1) (n : Nat) : kqdOk (n + 2) (recD p) = true := by
  unfold recD kqdOk
  simp only [List.all_cons, List.all_nil, Bool.and_true]
  show kqdOk (n + 1) (.str (tagStr p.1)) && kqdOk (n + 1) (.int p.2) = true
  unfold kqdOk
  rw [tag_strOk h]; rfl
theorem recD_in {tl : List (Addr × Obj)} {v : Value} {p : List Int × Int} (h : DatIn tl v (recD p)) : ∃ t n t1 t2, v = .ref t ∧ (t, ({ cls := .type "tuple", data := .seq #[.str (tagStr p.1) t1, .int p.2 t2] n } : Obj)) ∈ tl := by
  unfold recD at h
  cases h with
  | tuple hm hr =>
    cases hr with
    | cons h1 h2 =>
      cases h1
      cases h2 with
      | cons h3 h4 => cases h3; cases h4; exact (xi4 _ _ _ _ ⟨rfl, hm⟩)
theorem datAll_snoc {tl : List (Addr × Obj)} {vs : List Value} {ds : List Dat} {d : Dat} (h : DatAll tl vs (ds ++ [d])) : ∃ vs' v, vs = vs' ++ [v] ∧ DatAll tl vs' ds ∧ DatIn tl v d := by
  induction ds generalizing vs with
  | nil =>
    cases h with
    | cons h r => cases r; exact ⟨[], _, rfl, .nil, h⟩
  | cons e ds ih =>
    cases h with
    | cons h r =>
      refine (let Gz : Prop := _; (?_ : Gz))
      (refine ex2 (ih r) fun vs' v hAz39 => ?_; refine and3 (hAz39) fun hEz39_2 a b => ?_; clear hAz39; subst hEz39_2)
      k_unfold; clear Gz
      exact ⟨_ :: vs', v, rfl, .cons h a, b⟩
theorem recs_ok {D : List Int} {g i x : Int} {asc : Bool} {acc : List (List Int × Int)} {tag : List Int} (n : Nat) (h1 : rdTag D i = .ok tag) (h2 : stops asc acc tag = false) (h3 : rdOff D (i + 4) g = .ok x) : recsGo D g asc (n + 1) i acc = recsGo D g asc n (i + 6) (acc ++ [(tag, x)]) := by
  rw [recsGo, h1]
  simp only [h2, h3, Bool.false_eq_true, if_false]
theorem recs_e1 {D : List Int} {g i z : Int} {asc : Bool} {acc : List (List Int × Int)} (n : Nat) (h1 : rdTag D i = .error z) : recsGo D g asc (n + 1) i acc = .error z := by
  rw [recsGo, h1]
theorem recs_e2 {D : List Int} {g i : Int} {asc : Bool} {acc : List (List Int × Int)} {tag : List Int} (n : Nat) (h1 : rdTag D i = .ok tag) (h2 : stops asc acc tag = true) : recsGo D g asc (n + 1) i acc = .error i := by
  rw [recsGo, h1]
  simp only [h2, if_true]
theorem recs_e3 {D : List Int} {g i z : Int} {asc : Bool} {acc : List (List Int × Int)} {tag : List Int} (n : Nat) (h1 : rdTag D i = .ok tag) (h2 : stops asc acc tag = false) (h3 : rdOff D (i + 4) g = .error z) : recsGo D g asc (n + 1) i acc = .error z := by
  rw [recsGo, h1]
  simp only [h2, h3, Bool.false_eq_true, if_false]
theorem stops_last (acc : List (List Int × Int)) (pr : List Int × Int) (tag : List Int) : stops true (acc ++ [pr]) tag = tagLe tag pr.1 := by
  unfold stops
  rw [List.getLast?_append]
  rfl
/-- between the turns of read_records -/
noncomputable def RecJ (news : List (Addr × Obj)) (sd l so : Addr) (c1 c2 : Int) (k1 k2 : Tok) (b : Array UInt8) (tb : Tok) (D : List Int) (g : Int) (asc : Bool) (n : Nat) (pos : Int) (R : Except Int (List (List Int × Int))) (j : Nat) (nw : List (Addr × Obj)) : Prop :=
  ∃ acc vs tl k, nw = (sd, octD c1 c2 k1 k2 b tb (pos + 6 * (j : Int)) k) :: (l, LCg.lst vs) :: (so, instO 187 sd) :: (tl ++ news) ∧ DatAll tl vs (acc.map recD) ∧ (∀ p ∈ acc, TagOk p.1) ∧ (∀ q ∈ tl, @LT.lt Nat _ l q.1) ∧ acc.length = j ∧ R = recsGo D g asc (n - j) (pos + 6 * (j : Int)) acc
section
variable {w : World} {dp un : Nat} {gd : Option (List Code)} {cn : Str} {cs : Scope} {a : Addr} {ccd : Value} {cl : List (Str × Addr)} {outer : List Env} {A₀ : Around} {base h₀ : Heap} {L : Addr} {m : Str → Option Value} {s : Shared} {Q E : Value → Shared → Prop} {p : Program} {loose : List Str} {mean : ExcName → Option Value} {mg mb : Str → Option Value} {news : List (Addr × Obj)} {tb : Tok} {b : Array UInt8}
variable (B : Below A₀ base outer h₀) (F : Fr h₀ L s.heap m) (X : (hd.heap_39 w.params).In h₀) (N : News h₀ L s.heap news) (T : Top p loose mean mg mb h₀) (hk : cs.kind = .function)
include B F X N T hk
theorem lines_Z61 : True := by
  k_with "call ref" => (first | ((fail_if_success (k_extra "off Z6")); (k_here; (with_reducible show wpAny _ _ (call (Value.ref 187) _) _ _ _); k_dflt (refine' oct_new ?k1 ?k2 ?k3 ?k4 ?k5 ?kK ?kd ?ku _ _ _ _ ?_; (case k1 => k_asm); (case k2 => k_asm); (case k3 => k_asm); (case k4 => k_extra "m_news"); (case k5 => k_asm); (case kK => first | exact rfl | assumption); (case kd => first | exact room_n (by with_reducible assumption) (by decide) | ktr_room); (case ku => first | exact room_n (by with_reducible assumption) (by decide) | ktr_units);  (intro h' tk' so sd c1 c2 k1 k2 F' N' lsd lso; have lsdx := lsd; (try k_lt lsd); (try k_sweep))))) | fail)
  k_with "call ref" => (first | ((fail_if_success (k_extra "off Z6")); (k_here; (with_reducible show wpAny _ _ (call (Value.ref 146) _) _ _ _); k_dflt (refine' u16_spec ?k1 ?k2 ?k3 ?k4 ?k5 ?kK ?kd ?ku ?kp _ ?kD ?kb ?ki ?ks ?ko ?_ ?_; (case k1 => k_asm); (case k2 => k_asm); (case k3 => k_asm); (case k4 => k_extra "m_news"); (case k5 => k_asm); (case kK => first | exact rfl | assumption); (case kd => first | exact room_n (by with_reducible assumption) (by decide) | ktr_room); (case ku => first | exact room_n (by with_reducible assumption) (by decide) | ktr_units); (case kp => k_extra "m_kept"); (case kD => assumption); (case kb => assumption); (case ki => (k_extra "m_om")); (case ks => k_extra "m_in"); (case ko => k_all); (intro x hx h0x h1x h' tk' t' k' F' N'; (try k_sweep))))) | fail)
  k_with "call ref" => (first | ((fail_if_success (k_extra "off Z6")); (k_here; (with_reducible show wpAny _ _ (call (Value.ref 306) _) _ _ _); k_dflt (refine' offset_spec ?k1 ?k2 ?k3 ?k4 ?k5 ?kK ?kd ?ku ?kp _ ?kD ?kb ?ki _ _ ?ks ?ko ?_ ?_; (case k1 => k_asm); (case k2 => k_asm); (case k3 => k_asm); (case k4 => k_extra "m_news"); (case k5 => k_asm); (case kK => first | exact rfl | assumption); (case kd => first | exact room_n (by with_reducible assumption) (by decide) | ktr_room); (case ku => first | exact room_n (by with_reducible assumption) (by decide) | ktr_units); (case kp => k_extra "m_kept"); (case kD => assumption); (case kb => assumption); (case ki => (k_extra "m_om")); (case ks => k_extra "m_in"); (case ko => k_all); (intro gx hgx h' tk' tgo kgo F' N'; (try k_sweep))))) | fail)
  k_with "call ref" => (first | ((fail_if_success (k_extra "off Z6")); (k_here; (with_reducible show wpAny _ _ (call (Value.ref 172) _) _ _ _); k_dflt (refine' tag_spec ?k1 ?k2 ?k3 ?k4 ?k5 ?kK ?kd ?ku ?kp _ ?kD ?kb ?ki ?ks ?ko ?_ ?_; (case k1 => k_asm); (case k2 => k_asm); (case k3 => k_asm); (case k4 => k_extra "m_news"); (case k5 => k_asm); (case kK => first | exact rfl | assumption); (case kd => first | exact room_n (by with_reducible assumption) (by decide) | ktr_room); (case ku => first | exact room_n (by with_reducible assumption) (by decide) | ktr_units); (case kp => k_extra "m_kept"); (case kD => assumption); (case kb => assumption); (case ki => (k_extra "m_om")); (case ks => k_extra "m_in"); (case ko => k_all); (intro tgx htg h' tk' tt kt F' N'; (try k_sweep))))) | fail)
  k_with "compareOp NotEq ref ref" => (first | ((fail_if_success (k_extra "off Z6")); k_extra "m_stop") | fail)
  k_with "isTrue BoolOp" => (first | ((fail_if_success (k_extra "off Z6")); (k_here; (with_reducible show wpAny _ _ (PySem.isTrue (PySem.Expr.BoolOp _ (_ :: _ :: _ :: []) _) _ _) _ _ _); (fail_if_success (with_reducible show wpAny _ _ _ (JoinB _) _ _)); refine of_stop ?_)) | fail)
  exact trivial
set_option maxHeartbeats 1000000 in
theorem records_spec (hd : dp + 30 < recursionLimit) (hu : un + 200 < cLine) {kp : List (Addr × Obj)} (hkp : KeptIn kp news)
    (D : List Int) (hD : KBw.bInts b = D) (hsz : D.length ≤ 4000) (g : Int) (tg : Tok) (hg : 0 ≤ g ∧ g < 80000000) (lead : Int) (tl : Tok) (hl : 0 ≤ lead ∧ lead < 10) (asc : Bool)
    (hok : ∀ x, rdRecs D g lead asc = .ok x → ∀ h' tk' r vs nw, Fr h₀ L h' m → News h₀ L h' (((r, LCg.lst vs) :: nw) ++ news) → DatAll nw vs (x.map recD) → Apart ((r, LCg.lst vs) :: nw) news → Q (.ref r) { s with heap := h', toks := tk' })
    (herr : ∀ z, rdRecs D g lead asc = .error z → Errs base h₀ kp (envX cn cs L a ccd cl) outer L m E s z) :
    Cl w dp un gd cn cs L a ccd cl outer 313 [.bytes b tb, .int g tg, .int lead tl, .bool asc] Q E s := by
  k_dflt (refine' enter [("data", .bytes b tb), ("at", .int g tg), ("lead", .int lead tl), ("is_ascending", .bool asc)] B F X N T hk ?k6 ?k7 ?k8 ?k9 ?kB ?c2 ?c3 ?c4 ?c5 ?_; k_extra "m_sides")
  intro g' L' h₁ E' FG F' N' B' X' T' hP hE
  try dsimp only
  try k_fold
  refine foldAV ?_; intro Mz Az vz gz dz oz
  k_extra "m_steps"
  · rename IsRange _ _ _ _ _ _ _ _ => hR
    rename Fr g' L' _ _ => F9
    rename News g' L' _ _ => N9
    replace N9 := (N9 : News g' L' _ ((sd, octD c1 c2 k1 k2 b tb (g + lead + 2) k') :: (lw, LCg.lst []) :: (so, instO 187 sd) :: news))
    have hsn : ∀ p ∈ news, p.1 ≠ sd := fun p hp => Nat.ne_of_lt (lsd p hp)
    have hln : ∀ p ∈ news, p.1 ≠ lw := fun p hp => Nat.ne_of_lt (Nat.lt_trans (lsd p hp) llw.1)
    refine for1_range (n := x.toNat) [Str.ofString "each", Str.ofString "begun", Str.ofString "tag"] (fun j _ nw => RecJ news sd lw so c1 c2 k1 k2 b tb D g asc x.toNat (g + lead + 2) (rdRecs D g lead asc) j nw)
      rfl F9 N9 hR (range_small h0x (by (k_extra "m_om"))) (range_size h0x) (xi4 [] [] [] k' ⟨?_, .nil, (fun _ hp => nomatch hp), ?_, rfl, ?_⟩) ?_ ?_
    · rw [Int.natCast_zero, Int.mul_zero, Int.add_zero]; rfl
    · intro q hq; cases hq
    · unfold rdRecs; rw [hx, Int.natCast_zero, Int.mul_zero, Int.add_zero, Nat.sub_zero]
    · intro j tj m₁ nw h tk I it hj hJz3
      refine (let Gz : Prop := _; (?_ : Gz))
      (refine ex4 (hJz3) fun acc vs tl k hAz40 => ?_; clear hJz3; refine and6 (hAz40) fun hEz40_4 hda hto hlt hlen hgo => ?_; clear hAz40; subst hEz40_4)
      k_unfold; clear Gz
      intro hS F1 N1 hI
      have hvz : vs.length ≤ 1000000 := by rw [hda.length, List.length_map]; (k_extra "m_om")
      have hI1 : @Ne Nat sd I := hI _ (.head _)
      have hI2 : @Ne Nat lw I := hI _ (.tail _ (.head _))
      have hI3 : @Ne Nat so I := hI _ (.tail _ (.tail _ (.head _)))
      have htI : ∀ p ∈ tl ++ news, p.1 ≠ I := fun p hp => hI p (.tail _ (.tail _ (.tail _ hp)))
      have hts : ∀ p ∈ tl ++ news, p.1 ≠ sd := fun p hp => (List.mem_append.mp hp).elim (fun hp => Nat.ne_of_gt (Nat.lt_trans llw.1 (hlt p hp))) (hsn p)
      have htl : ∀ p ∈ tl ++ news, p.1 ≠ lw := fun p hp => (List.mem_append.mp hp).elim (fun hp => Nat.ne_of_gt (hlt p hp)) (hln p)
      have hX : ∀ p ∈ (I, it) :: (lw, LCg.lst vs) :: (so, instO 187 sd) :: (tl ++ news), p.1 ≠ sd := (fmc (Ne.symm hI1) ((fmc (Nat.ne_of_gt llw.1) ((fmc (Nat.ne_of_gt lso) (hts))))))
      replace N1 := News.sub (news' := (sd, octD c1 c2 k1 k2 b tb (g + lead + 2 + 6 * (j : Int)) k) :: (I, it) :: (lw, LCg.lst vs) :: (so, instO 187 sd) :: (tl ++ news)) N1 (by k_extra "m_sub")
      have e6 : g + lead + 2 + 6 * (j : Int) + 4 + 2 = g + lead + 2 + 6 * ((j + 1 : Nat) : Int) := by (k_extra "m_om")
      have e6' : g + lead + 2 + 6 * (j : Int) + 6 = g + lead + 2 + 6 * ((j + 1 : Nat) : Int) := by (k_extra "m_om")
      have en : x.toNat - j = (x.toNat - (j + 1)) + 1 := sub_step hj
      k_extra "m_steps"
      · rename Fr g' L' _ _ => F5
        rename News g' L' _ _ => N5
        refine join_bool (stops asc acc tgx) F5 N5 ?_ ?_
        · k_extra "m_steps"
          · rename asc = true => hasc
            subst hasc
            rcases List.eq_nil_or_concat acc with rfl | ⟨acc', pr, rfl⟩
            · have hvs : vs = [] := by cases hda; rfl
              subst hvs
              refine ne_nil_K0 (by assumption) (by k_mem) (by k_mem) (by exact room_n (by with_reducible assumption) (by decide)) ?_
              k_extra "m_steps"
              rename News g' L' _ _ => N6
              exact ⟨rfl, _, _, rfl, by assumption, News.sub N6 (by k_extra "m_sub")⟩
            · rw [List.concat_eq_append] at hda hto hgo hlen ⊢
              have hda0 := hda
              rw [List.map_append] at hda0
              refine (let Gz : Prop := _; (?_ : Gz))
              (refine ex2 (datAll_snoc hda0) fun vs' v hAz41 => ?_; refine and3 (hAz41) fun hEz41_2 hdv hdl => ?_; clear hAz41; subst hEz41_2)
              k_unfold; clear Gz
              refine (let Gz : Prop := _; (?_ : Gz))
              (refine ex4 (recD_in hdl) fun t9 n9 u9 w9 hAz42 => ?_; refine and2 (hAz42) fun hEz42_4 hm9 => ?_; clear hAz42; subst hEz42_4)
              k_unfold; clear Gz
              refine ne_nil_K1 (by assumption) (by k_mem) (by k_mem) hda (by k_extra "m_sub") ?_ (by simp) (by exact room_n (by with_reducible assumption) (by decide)) ?_
              · intro d hd
                refine (let Gz : Prop := _; (?_ : Gz))
                (refine ex1 (List.mem_map.mp hd) fun q hAz43 => ?_; refine and2 (hAz43) fun hq hEz43_2 => ?_; clear hAz43; subst hEz43_2)
                k_unfold; clear Gz
                exact recD_ok (hto q hq) 6
              k_extra "m_steps"
              · rename (tagStr pr.1).cps.toList < _ => hcmp
                replace hcmp : pr.1.map Int.toNat < tgx.map Int.toNat := hcmp
                rename News g' L' _ _ => N6
                exact ⟨by rw [stops_last]; unfold tagLe; rw [decide_eq_true hcmp]; rfl, _, _, rfl, by assumption, News.sub N6 (by k_extra "m_sub")⟩
              · rename ¬ (tagStr pr.1).cps.toList < _ => hcmp
                replace hcmp : ¬ pr.1.map Int.toNat < tgx.map Int.toNat := hcmp
                rename News g' L' _ _ => N6
                exact ⟨by rw [stops_last]; unfold tagLe; rw [decide_eq_false hcmp]; rfl, _, _, rfl, by assumption, News.sub N6 (by k_extra "m_sub")⟩
          · rename asc = false => hasc
            subst hasc
            exact ⟨rfl, _, _, rfl, by assumption, by assumption⟩
        intro h6 tk6 F6 N6
        clear F5 N5
        generalize hst : stops asc acc tgx = cst
        cases cst with
        | true =>
          k_extra "m_steps"
          refine raised B' (by assumption) X' (by assumption) (by k_extra "m_kept") (by assumption) rfl rfl (hE _ _ h₁ 0 _ (herr _ ?_)) _
          rw [hgo, en]
          exact recs_e2 _ htg hst
        | false =>
          k_extra "m_steps"
          · rename News g' L' _ _ => N5
            rw [e6] at N5
            refine TurnPost.intro (by assumption) N5 _ ?_ ?_ (by k_extra "m_same") (xi4 (acc ++ [(tgx, gx)]) (vs ++ [.ref tw]) ((tw, tupO [.str (tagStr tgx) tt, .int gx tgo]) :: tl) kgo ⟨rfl, ?_, ?_, ?_, ?_, ?_⟩)
            · k_extra "m_sub"
            · exact (fmc (hI1) ((fmc (hI2) ((fmc (hI3) ((fmc (by k_ne) (htI))))))))
            · rw [List.map_append]
              exact DatAll.append (hda.mono fun p hp => .tail _ hp) (.one (.tuple (.head _) (.cons (.str _ _) (.cons (.int _ _) .nil))))
            · exact fun p hp => (List.mem_append.mp hp).elim (hto p) fun hp => by rw [List.mem_singleton.mp hp]; exact rdTag_ok hD htg
            · exact (fmc (by dsimp only; (k_extra "m_om")) (hlt))
            · rw [List.length_append, hlen]; rfl
            · rw [hgo, en, recs_ok _ htg hst hgx, e6']
          · refine hE _ _ _ _ _ (herr _ ?_)
            rw [hgo, en]
            exact recs_e3 _ htg hst (by assumption)
      · refine hE _ _ _ _ _ (herr _ ?_)
        rw [hgo, en]
        exact recs_e1 _ (by assumption)
    · intro m' nw h tk hJz7
      refine (let Gz : Prop := _; (?_ : Gz))
      (refine ex4 (hJz7) fun acc vs tl k hAz44 => ?_; clear hJz7; refine and6 (hAz44) fun hEz44_4 hda hto hlt hlen hgo => ?_; clear hAz44; subst hEz44_4)
      k_unfold; clear Gz
      intro hS F1 N1
      k_extra "m_steps"
      refine hok acc (by rw [hgo, Nat.sub_self]; rfl) _ _ _ vs tl (by assumption) (News.sub (by assumption) (by k_extra "m_sub")) hda ?_
      intro q hq p hp
      rcases List.mem_cons.mp hq with rfl | hq
      · exact hln p hp
      · exact Nat.ne_of_lt (Nat.lt_trans (lsd p hp) (Nat.lt_trans llw.1 (hlt q hq)))
  · rename rdU16 D _ = .error _ => hx
    refine hE _ _ _ _ _ (herr _ ?_)
    unfold rdRecs; rw [hx]
end
theorem off_Z6 : True := by
  k_with "off Z6" => (skip)
  exact trivial
end
section
theorem Apart.nil {news : List (Addr × Obj)} : Apart [] news := fun _ h => nomatch h
theorem Apart.cons {q : Addr × Obj} {tl news : List (Addr × Obj)} (h : ∀ p ∈ news, p.1 ≠ q.1) (t : Apart tl news) : Apart (q :: tl) news := fun x hx => by
  rcases List.mem_cons.mp hx with rfl | hx
  · exact h
  · exact t x hx
theorem Apart.app {tl tl' news : List (Addr × Obj)} (h : Apart tl news) (t : Apart tl' news) : Apart (tl ++ tl') news := fun x hx => (List.mem_append.mp hx).elim (h x) (t x)
theorem Apart.mono {tl news news' : List (Addr × Obj)} (h : Apart tl news) (hs : ∀ p ∈ news', p ∈ news) : Apart tl news' := fun x hx p hp => h x hx p (hs p hp)
theorem Apart.ne {tl news : List (Addr × Obj)} {q : Addr} {o : Obj} (h : Apart tl news) (hq : (q, o) ∈ news) : ∀ p ∈ tl, p.1 ≠ q := fun p hp => Ne.symm (h p hp _ hq)
theorem ebo {α β : Type} (a : α) (f : α → Except Int β) : (Except.ok a >>= f) = f a := rfl
theorem ebe {α β : Type} (z : Int) (f : α → Except Int β) : ((Except.error z : Except Int α) >>= f) = .error z := rfl
theorem bo {α β : Type} {r : Except Int α} {a : α} {f : α → Except Int β} {z : Except Int β} (h : r = .ok a) (k : f a = z) : (r >>= f) = z := by subst h; exact k
theorem be {α β : Type} {r : Except Int α} {f : α → Except Int β} {z : Int} (h : r = .error z) : (r >>= f) = .error z := by subst h; rfl
theorem neOf_lt {d : Addr} {l l' : List (Addr × Obj)} (h : ∀ p ∈ l, p.1 < d) (hs : ∀ p ∈ l', p ∈ l) : ∀ p ∈ l', p.1 ≠ d := fun p hp => Nat.ne_of_lt (h p (hs p hp))
theorem neOf_ap {d : Addr} {o : Obj} {tl l l' : List (Addr × Obj)} (h : Apart tl l) (hd : (d, o) ∈ l) (hs : ∀ p ∈ l', p ∈ tl) : ∀ p ∈ l', p.1 ≠ d := fun p hp => Ne.symm (h p (hs p hp) _ hd)
end
section
theorem reset_Z7 : True := by
  w_top off
  exact trivial
noncomputable def rdLang (D : List Int) (g : Int) : Except Int (Int × List Int) := do
  let _ ← rdU16 D g
  let q ← rdU16 D (g + 2)
  let c ← rdU16 D (g + 4)
  let fs ← rdRows D (g + 6) c
  pure (if q = 65535 then -1 else q, fs)
noncomputable def LangAt (tl : List (Addr × Obj)) (v : Value) (p : Int × List Int) : Prop :=
  ∃ x dx f c1 c2 k1 k2 tq vs n, v = .ref x ∧ (x, instO 215 dx) ∈ tl ∧ (dx, dictOf [⟨c1, .str (Str.ofString "required") k1, .int p.1 tq⟩, ⟨c2, .str (Str.ofString "features") k2, .ref f⟩] 2) ∈ tl ∧ (f, lsO vs n) ∈ tl ∧ IntsAre vs p.2
theorem LangAt.mono {tl tl' : List (Addr × Obj)} {v : Value} {p : Int × List Int} (h : LangAt tl v p) (hs : ∀ p ∈ tl, p ∈ tl') : LangAt tl' v p := by
  refine (let Gz : Prop := _; (?_ : Gz))
  (refine ex9 (h) fun x dx f c1 c2 k1 k2 tq vs hAz45 => ?_; clear h; ((refine ex1 (hAz45) fun n hAz46 => ?_; clear hAz45; refine and5 (hAz46) fun a b c d e => ?_; clear hAz46)))
  k_unfold; clear Gz
  exact (xi10 x dx f c1 c2 k1 k2 tq vs n ⟨a, hs _ b, hs _ c, hs _ d, e⟩)
section
variable {w : World} {dp un : Nat} {gd : Option (List Code)} {cn : Str} {cs : Scope} {a : Addr} {ccd : Value} {cl : List (Str × Addr)} {outer : List Env} {A₀ : Around} {base h₀ : Heap} {L : Addr} {m : Str → Option Value} {s : Shared} {Q E : Value → Shared → Prop} {p : Program} {loose : List Str} {mean : ExcName → Option Value} {mg mb : Str → Option Value} {news : List (Addr × Obj)} {tb : Tok} {b : Array UInt8}
variable (B : Below A₀ base outer h₀) (F : Fr h₀ L s.heap m) (X : (hd.heap_39 w.params).In h₀) (N : News h₀ L s.heap news) (T : Top p loose mean mg mb h₀) (hk : cs.kind = .function)
include B F X N T hk
set_option maxHeartbeats 1000000 in
theorem langsys_new (hd : dp + 5 < recursionLimit) (hu : un + 100 < cLine) (q : Int) (tq : Tok) (f : Addr) (vs : List Value) (n : Nat) (fs : List Int) (hf : (f, lsO vs n) ∈ news) (hi : IntsAre vs fs) (hz : vs.length ≤ 100000)
    (hret : ∀ h' tk' x nw, Fr h₀ L h' m → News h₀ L h' (nw ++ news) → LangAt nw x (q, fs) → Apart nw news → Q x { s with heap := h', toks := tk' }) :
    Cl w dp un gd cn cs L a ccd cl outer 215 [.int q tq, .ref f] Q E s := by
  k_dflt (refine' call_cls F X N ?k4 ?k5 ?k6 ?_; (case k4 => k_is); (case k5 => k_is); (case k6 => k_is))
  intro so sd h' F1 N1 l1 l2
  (try k_lt2 l2)
  k_dflt (refine' code_def (env := envX cn cs L a ccd cl) (outer := outer) B F1 X N1 T ?kA ?kF hk ?k6 ?k7 ?k8 ?k9 ?kB ?_ ?c2 ?c3 ?c4 ?c5; (case kA => exact rfl); (case kF => exact rfl); (case k6 => k_is); (case k7 => k_is); (case k8 => first | exact room_n (by with_reducible assumption) (by decide) | exact room_k (by with_reducible assumption) (by decide) | exact room_z (by with_reducible assumption) | ktr_room); (case k9 => exact BindsTo.of_eq rfl); (case kB => exact locs rfl); (case c5 => decide); (case c2 => exact rfl); (case c3 => exact rfl); (case c4 => exact rfl); k_whole; intro g' L' h' FG' F' N' B' X' T'; (try dsimp only); (try k_fold))
  k_extra "m_steps"
  have l3 : ∀ p ∈ news, p.1 < so := fun p hp => Nat.lt_trans (l1 p hp) l2
  refine hret _ _ _ [(lcp, lsO vs ccp), (so, instO 215 sd), (sd, _)] (by assumption) (News.sub (by assumption) (by k_extra "m_sub")) (xi10 so sd lcp _ _ _ _ tq vs ccp ⟨rfl, .tail _ (.head _), .tail _ (.tail _ (.head _)), .head _, hi⟩) ?_
  k_extra "m_apart"
theorem lines_Z71 : True := by
  k_with "call ref" => (first | ((fail_if_success (k_extra "off Z7")); (k_here; (with_reducible show wpAny _ _ (call (Value.ref 187) _) _ _ _); k_dflt (refine' oct_new ?k1 ?k2 ?k3 ?k4 ?k5 ?kK ?kd ?ku _ _ _ _ ?_; (case k1 => k_asm); (case k2 => k_asm); (case k3 => k_asm); (case k4 => k_extra "m_news"); (case k5 => k_asm); (case kK => first | exact rfl | assumption); (case kd => first | exact room_n (by with_reducible assumption) (by decide) | ktr_room); (case ku => first | exact room_n (by with_reducible assumption) (by decide) | ktr_units);  (intro h' tk' so sd c1 c2 k1 k2 F' N' lsd lso; have lsdx := lsd; (try k_lt lsd); (try k_sweep))))) | fail)
  k_with "call ref" => (first | ((fail_if_success (k_extra "off Z7")); (k_here; (with_reducible show wpAny _ _ (call (Value.ref 146) _) _ _ _); k_dflt (refine' u16_spec ?k1 ?k2 ?k3 ?k4 ?k5 ?kK ?kd ?ku ?kp _ ?kD ?kb ?ki ?ks ?ko ?_ ?_; (case k1 => k_asm); (case k2 => k_asm); (case k3 => k_asm); (case k4 => k_extra "m_news"); (case k5 => k_asm); (case kK => first | exact rfl | assumption); (case kd => first | exact room_n (by with_reducible assumption) (by decide) | ktr_room); (case ku => first | exact room_n (by with_reducible assumption) (by decide) | ktr_units); (case kp => k_extra "m_kept"); (case kD => assumption); (case kb => assumption); (case ki => (k_extra "m_om")); (case ks => k_extra "m_in"); (case ko => k_all); (intro x hx h0x h1x h' tk' t' k' F' N'; (try k_sweep))))) | fail)
  k_with "call ref" => (first | ((fail_if_success (k_extra "off Z7")); (k_here; (with_reducible show wpAny _ _ (call (Value.ref 177) _) _ _ _); k_dflt (refine' rows_spec ?k1 ?k2 ?k3 ?k4 ?k5 ?kK ?kd ?ku ?kp _ ?kD ?kb ?ki _ _ ?kc0 ?kc1 ?ks ?ko ?_ ?_; (case k1 => k_asm); (case k2 => k_asm); (case k3 => k_asm); (case k4 => k_extra "m_news"); (case k5 => k_asm); (case kK => first | exact rfl | assumption); (case kd => first | exact room_n (by with_reducible assumption) (by decide) | ktr_room); (case ku => first | exact room_n (by with_reducible assumption) (by decide) | ktr_units); (case kp => k_extra "m_kept"); (case kD => assumption); (case kb => assumption); (case ki => (k_extra "m_om")); (case kc0 => (k_extra "m_om")); (case kc1 => (k_extra "m_om")); (case ks => k_extra "m_in"); (case ko => k_all); (intro rx hrx h' tk' kr rr yr F' N' hyr hyz hrs har; (try k_sweep))))) | fail)
  k_with "call ref" => (first | ((fail_if_success (k_extra "off Z7")); (k_here; (with_reducible show wpAny _ _ (call (Value.ref 215) _) _ _ _); k_dflt (refine' langsys_new ?k1 ?k2 ?k3 ?k4 ?k5 ?kK ?kd ?ku _ _ _ _ _ _ ?kf ?ki ?kz ?_; (case k1 => k_asm); (case k2 => k_asm); (case k3 => k_asm); (case k4 => k_extra "m_news"); (case k5 => k_asm); (case kK => first | exact rfl | assumption); (case kd => first | exact room_n (by with_reducible assumption) (by decide) | ktr_room); (case ku => first | exact room_n (by with_reducible assumption) (by decide) | ktr_units); (case kf => k_mem); (case ki => first | assumption | exact .cons _ _ .nil); (case kz => first | (k_extra "m_om") | (show 1 ≤ 100000; decide)); (intro h' tk' lx ln F' N' hlx hla; (try k_sweep))))) | fail)
  exact trivial
set_option maxHeartbeats 1000000 in
theorem langsys_spec (hd : dp + 30 < recursionLimit) (hu : un + 200 < cLine) {kp : List (Addr × Obj)} (hkp : KeptIn kp news)
    (D : List Int) (hD : KBw.bInts b = D) (hsz : D.length ≤ 4000) (g : Int) (tg : Tok) (hg : 0 ≤ g ∧ g < 80000000)
    (hok : ∀ x, rdLang D g = .ok x → ∀ h' tk' r nw, Fr h₀ L h' m → News h₀ L h' (nw ++ news) → LangAt nw r x → Apart nw news → Q r { s with heap := h', toks := tk' })
    (herr : ∀ z, rdLang D g = .error z → Errs base h₀ kp (envX cn cs L a ccd cl) outer L m E s z) :
    Cl w dp un gd cn cs L a ccd cl outer 320 [.bytes b tb, .int g tg] Q E s := by
  k_dflt (refine' enter [("data", .bytes b tb), ("at", .int g tg)] B F X N T hk ?k6 ?k7 ?k8 ?k9 ?kB ?c2 ?c3 ?c4 ?c5 ?_; k_extra "m_sides")
  intro g' L' h₁ E' FG F' N' B' X' T' hP hE
  try dsimp only
  try k_fold
  refine foldAV ?_; intro Mz Az vz gz dz oz
  have f4 : g + 2 + 2 = g + 4 := by (k_extra "m_om")
  have f6 : g + 2 + 2 + 2 = g + 6 := by (k_extra "m_om")
  k_extra "m_steps"
  · rename rdU16 D g = .ok _ => e1
    rename rdU16 D (g + 2) = .ok _ => e2
    rename rdU16 D (g + 2 + 2) = .ok _ => e3
    rename rdRows D _ _ = .ok _ => e4
    rw [f4] at e3; rw [f6] at e4
    refine hok _ ?_ _ _ _ ln (by assumption) (News.sub (by assumption) (by k_extra "m_sub")) hlx (Apart.mono hla (by k_extra "m_sub"))
    exact bo e1 (bo e2 (bo e3 (bo e4 (congrArg (fun v => Except.ok (v, _)) (if_pos (by assumption))))))
  · rename rdU16 D g = .ok _ => e1
    rename rdU16 D (g + 2) = .ok _ => e2
    rename rdU16 D (g + 2 + 2) = .ok _ => e3
    rename rdRows D _ _ = .ok _ => e4
    rw [f4] at e3; rw [f6] at e4
    refine hok _ ?_ _ _ _ ln (by assumption) (News.sub (by assumption) (by k_extra "m_sub")) hlx (Apart.mono hla (by k_extra "m_sub"))
    exact bo e1 (bo e2 (bo e3 (bo e4 (congrArg (fun v => Except.ok (v, _)) (if_neg (by assumption))))))
  · rename rdU16 D g = .ok _ => e1
    rename rdU16 D (g + 2) = .ok _ => e2
    rename rdU16 D (g + 2 + 2) = .ok _ => e3
    rename rdRows D _ _ = .error _ => e4
    rw [f4] at e3; rw [f6] at e4
    refine hE _ _ _ _ _ (herr _ ?_)
    exact bo e1 (bo e2 (bo e3 (be e4)))
  · rename rdU16 D g = .ok _ => e1
    rename rdU16 D (g + 2) = .ok _ => e2
    rename rdU16 D (g + 2 + 2) = .error _ => e3
    rw [f4] at e3
    refine hE _ _ _ _ _ (herr _ ?_)
    exact bo e1 (bo e2 (be e3))
  · rename rdU16 D g = .ok _ => e1
    rename rdU16 D (g + 2) = .error _ => e2
    refine hE _ _ _ _ _ (herr _ ?_)
    exact bo e1 (be e2)
  · rename rdU16 D g = .error _ => e1
    refine hE _ _ _ _ _ (herr _ ?_)
    exact be e1
end
theorem off_Z7 : True := by
  k_with "off Z7" => (skip)
  exact trivial
end
section
/-! a reader over a list -/
noncomputable def mapE {α β : Type} (f : α → Except Int β) : List α → Except Int (List β)
  | [] => .ok []
  | a :: l => do
    let b ← f a
    let bs ← mapE f l
    pure (b :: bs)
section
variable {α β : Type} {f : α → Except Int β}
theorem mapE_snoc {l : List α} {a : α} {bs : List β} {b : β} (h : mapE f l = .ok bs) (h1 : f a = .ok b) : mapE f (l ++ [a]) = .ok (bs ++ [b]) := by
  induction l generalizing bs with
  | nil => cases h; rw [List.nil_append, mapE, h1, ebo]; rfl
  | cons c l ih =>
    rw [mapE] at h
    cases hc : f c with
    | error z => rw [hc, ebe] at h; cases h
    | ok d =>
      rw [hc, ebo] at h
      cases hl : mapE f l with
      | error z => rw [hl, ebe] at h; cases h
      | ok ds =>
        rw [hl, ebo] at h
        cases h
        rw [List.cons_append, mapE, hc, ebo, ih hl, ebo]; rfl
theorem mapE_err {l r : List α} {a : α} {bs : List β} {z : Int} (h : mapE f l = .ok bs) (h1 : f a = .error z) : mapE f (l ++ a :: r) = .error z := by
  induction l generalizing bs with
  | nil => rw [List.nil_append, mapE, h1, ebe]
  | cons c l ih =>
    rw [mapE] at h
    cases hc : f c with
    | error z => rw [hc, ebe] at h; cases h
    | ok d =>
      rw [hc, ebo] at h
      cases hl : mapE f l with
      | error z => rw [hl, ebe] at h; cases h
      | ok ds => rw [List.cons_append, mapE, hc, ebo, ih hl, ebe]
theorem take_snoc {l : List α} {j : Nat} {a : α} (h : l[j]? = some a) : l.take (j + 1) = l.take j ++ [a] := by rw [List.take_add_one, h]; rfl
theorem take_split {l : List α} {j : Nat} {a : α} (h : l[j]? = some a) : l = l.take j ++ a :: l.drop (j + 1) := by
  have := List.take_append_drop (j + 1) l
  rw [take_snoc h, List.append_assoc] at this
  exact this.symm
theorem mapE_next {l : List α} {j : Nat} {a : α} {bs : List β} {b : β} (ha : l[j]? = some a) (h : mapE f (l.take j) = .ok bs) (h1 : f a = .ok b) : mapE f (l.take (j + 1)) = .ok (bs ++ [b]) := by rw [take_snoc ha]; exact mapE_snoc h h1
theorem mapE_stop {l : List α} {j : Nat} {a : α} {bs : List β} {z : Int} (ha : l[j]? = some a) (h : mapE f (l.take j) = .ok bs) (h1 : f a = .error z) : mapE f l = .error z := by rw [take_split ha]; exact mapE_err h h1
end
inductive AllR {α β : Type} (R : α → β → Prop) : List α → List β → Prop
  | nil : AllR R [] []
  | cons {a : α} {b : β} {as : List α} {bs : List β} : R a b → AllR R as bs → AllR R (a :: as) (b :: bs)
section
variable {α β : Type} {R S : α → β → Prop} {as as' : List α} {bs bs' : List β}
theorem AllR.append (h : AllR R as bs) (k : AllR R as' bs') : AllR R (as ++ as') (bs ++ bs') := by
  induction h with
  | nil => exact k
  | cons h _ ih => exact .cons h ih
theorem AllR.one {a : α} {b : β} (h : R a b) : AllR R [a] [b] := .cons h .nil
theorem AllR.mono (h : AllR R as bs) (hs : ∀ a b, R a b → S a b) : AllR S as bs := by
  induction h with
  | nil => exact .nil
  | cons h _ ih => exact .cons (hs _ _ h) ih
theorem AllR.length (h : AllR R as bs) : as.length = bs.length := by
  induction h with
  | nil => rfl
  | cons _ _ ih => rw [List.length_cons, List.length_cons, ih]
theorem AllR.get (h : AllR R as bs) {j : Nat} {a : α} (ha : as[j]? = some a) : ∃ b, bs[j]? = some b ∧ R a b := by
  induction h generalizing j with
  | nil => simp at ha
  | cons h _ ih =>
    cases j with
    | zero => simp at ha; subst ha; exact ⟨_, rfl, h⟩
    | succ j => exact ih (by simpa using ha)
end
theorem datAll_at {tl : List (Addr × Obj)} {vs : List Value} {ds : List Dat} (h : DatAll tl vs ds) {j : Nat} {v : Value} (hv : vs[j]? = some v) : ∃ d, ds[j]? = some d ∧ DatIn tl v d := by
  induction vs generalizing ds j with
  | nil => simp at hv
  | cons u vs ih =>
    cases h with
    | cons h r =>
      cases j with
      | zero => simp at hv; subst hv; exact ⟨_, rfl, h⟩
      | succ j => exact ih r (by simpa using hv)
theorem recs_at {tl : List (Addr × Obj)} {vs : List Value} {rs : List (List Int × Int)} (h : DatAll tl vs (rs.map recD)) {j : Nat} {v : Value} (hv : vs[j]? = some v) :
    ∃ p t n t1 t2, rs[j]? = some p ∧ v = .ref t ∧ (t, ({ cls := .type "tuple", data := .seq #[.str (tagStr p.1) t1, .int p.2 t2] n } : Obj)) ∈ tl := by
  refine (let Gz : Prop := _; (?_ : Gz))
  (refine ex1 (datAll_at h hv) fun d hAz47 => ?_; refine and2 (hAz47) fun hd hi => ?_; clear hAz47)
  k_unfold; clear Gz
  rw [List.getElem?_map] at hd
  cases hr : rs[j]? with
  | none => rw [hr] at hd; cases hd
  | some p =>
    rw [hr] at hd
    cases hd
    refine (let Gz : Prop := _; (?_ : Gz))
    (refine ex4 (recD_in hi) fun t n t1 t2 hAz48 => ?_; refine and2 (hAz48) fun e hm => ?_; clear hAz48)
    k_unfold; clear Gz
    exact ⟨p, t, n, t1, t2, rfl, e, hm⟩
theorem news_same {h₀ h : Heap} {L t : Addr} {o1 o2 : Obj} {news : List (Addr × Obj)} (N : News h₀ L h news) (m1 : (t, o1) ∈ news) (m2 : (t, o2) ∈ news) : o1 = o2 := by
  have a := (N _ m1).1
  have b := (N _ m2).1
  dsimp only at a b
  rw [a] at b
  exact Option.some.inj b
theorem rec_item {h₀ h : Heap} {L t t' : Addr} {ot : Obj} {a b v₁ v₂ : Value} {n nt : Nat} {news : List (Addr × Obj)} (N : News h₀ L h news) (m1 : (t, ot) ∈ news) (m2 : (t', ({ cls := .type "tuple", data := .seq #[a, b] n } : Obj)) ∈ news) (e : Value.ref t = .ref t') (hdt : ot.data = .seq #[v₁, v₂] nt) : v₁ = a ∧ v₂ = b := by
  cases e
  have hso := news_same N m1 m2
  subst hso
  cases hdt
  exact ⟨rfl, rfl⟩
theorem off3_app {I C D : Addr} {tl news : List (Addr × Obj)} (h : LCg.Off3 I C D news) (t : ∀ p ∈ tl, p.1 ≠ I ∧ p.1 ≠ C ∧ p.1 ≠ D) : LCg.Off3 I C D (tl ++ news) :=
  LCg.Off3.of fun p hp => (List.mem_append.mp hp).elim (t p) (h.mem p)
theorem off3_of_apart {I C D : Addr} {oI oC oD : Obj} {tl news : List (Addr × Obj)} (h : Apart tl ((I, oI) :: (C, oC) :: (D, oD) :: news)) : ∀ p ∈ tl, p.1 ≠ I ∧ p.1 ≠ C ∧ p.1 ≠ D := fun p hp =>
  ⟨Ne.symm (h p hp _ (.head _)), Ne.symm (h p hp _ (.tail _ (.head _))), Ne.symm (h p hp _ (.tail _ (.tail _ (.head _))))⟩
theorem rdU16_bd {b : Array UInt8} {D : List Int} (hD : KBw.bInts b = D) {i x : Int} (h : rdU16 D i = .ok x) : 0 ≤ x ∧ x < 65536 := by
  unfold rdU16 at h
  split at h
  · cases h
  · cases h
    have h1 := byte_in hD i.toNat
    have h2 := byte_in hD (i.toNat + 1)
    unfold u16At
    (first | lia | omega)
theorem rdOff_bd {b : Array UInt8} {D : List Int} (hD : KBw.bInts b = D) {i g x : Int} (h : rdOff D i g = .ok x) : g ≤ x ∧ x < g + 65536 := by
  unfold rdOff at h
  cases hx : rdU16 D i with
  | error z => rw [hx] at h; cases h
  | ok y =>
    rw [hx] at h
    dsimp only at h
    split at h
    · cases h
    · cases h
      have := rdU16_bd hD hx
      (first | lia | omega)
theorem recsGo_bd {b : Array UInt8} {D : List Int} (hD : KBw.bInts b = D) {g : Int} {asc : Bool} : ∀ {n : Nat} {i : Int} {acc rs : List (List Int × Int)}, recsGo D g asc n i acc = .ok rs → (∀ p ∈ acc, TagOk p.1 ∧ g ≤ p.2 ∧ p.2 < g + 65536) → ∀ p ∈ rs, TagOk p.1 ∧ g ≤ p.2 ∧ p.2 < g + 65536
  | 0, _, _, _, h, ha => by cases h; exact ha
  | n + 1, i, acc, rs, h, ha => by
    rw [recsGo] at h
    cases ht : rdTag D i with
    | error z => rw [ht] at h; cases h
    | ok tag =>
      rw [ht] at h
      dsimp only at h
      split at h
      · cases h
      · cases ho : rdOff D (i + 4) g with
        | error z => rw [ho] at h; cases h
        | ok x =>
          rw [ho] at h
          refine recsGo_bd hD h fun p hp => ?_
          rcases List.mem_append.mp hp with hp | hp
          · exact ha p hp
          · rw [List.mem_singleton.mp hp]
            exact ⟨rdTag_ok hD ht, rdOff_bd hD ho⟩
theorem recs_bd {b : Array UInt8} {D : List Int} (hD : KBw.bInts b = D) {g lead : Int} {asc : Bool} {rs : List (List Int × Int)} (h : rdRecs D g lead asc = .ok rs) : ∀ p ∈ rs, TagOk p.1 ∧ g ≤ p.2 ∧ p.2 < g + 65536 := by
  unfold rdRecs at h
  cases hx : rdU16 D (g + lead) with
  | error z => rw [hx] at h; cases h
  | ok n => rw [hx] at h; exact recsGo_bd hD h fun _ hp => nomatch hp
theorem recsGo_len {D : List Int} {g : Int} {asc : Bool} : ∀ {n : Nat} {i : Int} {acc rs : List (List Int × Int)}, recsGo D g asc n i acc = .ok rs → rs.length = acc.length + n
  | 0, _, _, _, h => by cases h; rfl
  | n + 1, i, acc, rs, h => by
    rw [recsGo] at h
    cases ht : rdTag D i with
    | error z => rw [ht] at h; cases h
    | ok tag =>
      rw [ht] at h
      dsimp only at h
      split at h
      · cases h
      · cases ho : rdOff D (i + 4) g with
        | error z => rw [ho] at h; cases h
        | ok x =>
          rw [ho] at h
          have := recsGo_len h
          rw [this, List.length_append, List.length_singleton]
          (first | lia | omega)
theorem recs_len {b : Array UInt8} {D : List Int} (hD : KBw.bInts b = D) {g lead : Int} {asc : Bool} {rs : List (List Int × Int)} (h : rdRecs D g lead asc = .ok rs) : rs.length ≤ 65536 := by
  unfold rdRecs at h
  cases hx : rdU16 D (g + lead) with
  | error z => rw [hx] at h; cases h
  | ok n =>
    rw [hx] at h
    have := recsGo_len h
    have := rdU16_bd hD hx
    rw [List.length_nil] at *
    (first | lia | omega)
theorem range_at {c j : Nat} (h : j < c) : (List.range c)[j]? = some j := by rw [List.getElem?_range h]
theorem neOf_lt2 {d x y : Addr} {o1 o2 o1' o2' : Obj} {l : List (Addr × Obj)} (h : ∀ p ∈ (x, o1) :: (y, o2) :: l, p.1 < d) : ∀ p ∈ (y, o2') :: (x, o1') :: l, p.1 ≠ d :=
  List.forall_mem_cons.mpr ⟨Nat.ne_of_lt (h (y, o2) (.tail _ (.head _))), List.forall_mem_cons.mpr ⟨Nat.ne_of_lt (h (x, o1) (.head _)), fun p hp => Nat.ne_of_lt (h p (.tail _ (.tail _ hp)))⟩⟩
theorem neOf_lt2' {d x y : Addr} {o1 o2 o1' o2' : Obj} {l : List (Addr × Obj)} (h : ∀ p ∈ (x, o1) :: (y, o2) :: l, p.1 < d) : ∀ p ∈ (x, o1') :: (y, o2') :: l, p.1 ≠ d :=
  List.forall_mem_cons.mpr ⟨Nat.ne_of_lt (h (x, o1) (.head _)), List.forall_mem_cons.mpr ⟨Nat.ne_of_lt (h (y, o2) (.tail _ (.head _))), fun p hp => Nat.ne_of_lt (h p (.tail _ (.tail _ hp)))⟩⟩
theorem fin_someU {prog : Program} {w : World} {A : Around} {E : Value → Shared → Prop} {h₀ : Heap} {L : Addr} {m : Str → Option Value} {env : Env} {y : Str} {py : Pos} {Q' : Shared → Prop} {s₂ : Shared} {J : List Value → List (Addr × Obj) → Prop} (hLe : env.locals = L)
    (hy : env.kindOf y = some .local) (hp : (env.scope.kind == .class || (env.scope.kind == .module && env.locals != env.globals)) = false)
    (h : ∀ D h tk ys news', Fr h₀ L h (fun z => if z = y then some (.ref D) else m z) → News h₀ L h ((D, LCg.lst ys) :: news') → (∀ p ∈ news', p.1 ≠ D) → J ys news' → Q' { s₂ with heap := h, toks := tk }) :
    FinT prog w A E h₀ L m (some (assign (.Name y py) env)) (fun _ s' => Q' s') s₂ J := fin_some (Q := fun _ s' => Q' s') hLe hy hp h
theorem mapE_all {α β : Type} {f : α → Except Int β} : ∀ {l : List α} {bs : List β}, mapE f l = .ok bs → ∀ b ∈ bs, ∃ a ∈ l, f a = .ok b
  | [], _, h, b, hb => by cases h; cases hb
  | a :: l, bs, h, b, hb => by
    rw [mapE] at h
    cases ha : f a with
    | error z => rw [ha, ebe] at h; cases h
    | ok d =>
      rw [ha, ebo] at h
      cases hl : mapE f l with
      | error z => rw [hl, ebe] at h; cases h
      | ok ds =>
        rw [hl, ebo] at h
        cases h
        rcases List.mem_cons.mp hb with rfl | hb
        · exact ⟨a, .head _, ha⟩
        · refine (let Gz : Prop := _; (?_ : Gz))
          (refine ex1 (mapE_all hl b hb) fun x hAz49 => ?_; refine and2 (hAz49) fun hx e => ?_; clear hAz49)
          k_unfold; clear Gz
          exact ⟨x, .tail _ hx, e⟩
theorem mapE_len {α β : Type} {f : α → Except Int β} : ∀ {l : List α} {bs : List β}, mapE f l = .ok bs → bs.length = l.length
  | [], _, h => by cases h; rfl
  | a :: l, bs, h => by
    rw [mapE] at h
    cases ha : f a with
    | error z => rw [ha, ebe] at h; cases h
    | ok d =>
      rw [ha, ebo] at h
      cases hl : mapE f l with
      | error z => rw [hl, ebe] at h; cases h
      | ok ds =>
        rw [hl, ebo] at h
        cases h
        rw [List.length_cons, List.length_cons, mapE_len hl]
theorem ints_at {vs : List Value} {ns : List Int} (h : IntsAre vs ns) {j : Nat} {v : Value} (hv : vs[j]? = some v) : ∃ n t, ns[j]? = some n ∧ v = .int n t := by
  induction h generalizing j with
  | nil => simp at hv
  | cons n t _ ih =>
    cases j with
    | zero => simp at hv; subst hv; exact ⟨n, t, rfl, rfl⟩
    | succ j => exact ih (by simpa using hv)
theorem strOk_of (s : String) : PyData.strOk (Str.ofString s) = true := by
  unfold PyData.strOk
  rw [Str.ofString_eq_toList, List.all_toArray, List.all_eq_true]
  intro n hn
  refine (let Gz : Prop := _; (?_ : Gz))
  (refine ex1 (List.mem_map.mp hn) fun c hAz50 => ?_; refine and2 (hAz50) fun _ hEz50_2 => ?_; clear hAz50; subst hEz50_2)
  k_unfold; clear Gz
  have := c.valid
  refine decide_eq_true ?_
  unfold UInt32.isValidChar Nat.isValidChar at this
  show c.val.toNat < _
  (first | lia | omega)
theorem strOk_app {x y : Str} (hx : PyData.strOk x = true) (hy : PyData.strOk y = true) : PyData.strOk (x ++ y) = true := by
  unfold PyData.strOk at *
  show (x.cps ++ y.cps).all _ = true
  rw [Array.all_append, hx, hy]; rfl
end
section
theorem reset_Z8 : True := by
  w_top off
  exact trivial
noncomputable def rdFeat (D : List Int) (g : Int) : Except Int (List Int) := do
  let _ ← rdU16 D g
  let c ← rdU16 D (g + 2)
  rdRows D (g + 4) c
noncomputable def FeatAt (tl : List (Addr × Obj)) (v : Value) (p : List Int × List Int) : Prop :=
  ∃ x dx f c1 c2 k1 k2 tq vs n, v = .ref x ∧ (x, instO 269 dx) ∈ tl ∧ (dx, dictOf [⟨c1, .str (Str.ofString "tag") k1, .str (tagStr p.1) tq⟩, ⟨c2, .str (Str.ofString "lookups") k2, .ref f⟩] 2) ∈ tl ∧ (f, lsO vs n) ∈ tl ∧ IntsAre vs p.2
theorem FeatAt.mono {tl tl' : List (Addr × Obj)} {v : Value} {p : List Int × List Int} (h : FeatAt tl v p) (hs : ∀ p ∈ tl, p ∈ tl') : FeatAt tl' v p := by
  refine (let Gz : Prop := _; (?_ : Gz))
  (refine ex9 (h) fun x dx f c1 c2 k1 k2 tq vs hAz51 => ?_; clear h; ((refine ex1 (hAz51) fun n hAz52 => ?_; clear hAz51; refine and5 (hAz52) fun a b c d e => ?_; clear hAz52)))
  k_unfold; clear Gz
  exact (xi10 x dx f c1 c2 k1 k2 tq vs n ⟨a, hs _ b, hs _ c, hs _ d, e⟩)
section
variable {w : World} {dp un : Nat} {gd : Option (List Code)} {cn : Str} {cs : Scope} {a : Addr} {ccd : Value} {cl : List (Str × Addr)} {outer : List Env} {A₀ : Around} {base h₀ : Heap} {L : Addr} {m : Str → Option Value} {s : Shared} {Q E : Value → Shared → Prop} {p : Program} {loose : List Str} {mean : ExcName → Option Value} {mg mb : Str → Option Value} {news : List (Addr × Obj)} {tb : Tok} {b : Array UInt8}
variable (B : Below A₀ base outer h₀) (F : Fr h₀ L s.heap m) (X : (hd.heap_39 w.params).In h₀) (N : News h₀ L s.heap news) (T : Top p loose mean mg mb h₀) (hk : cs.kind = .function)
include B F X N T hk
set_option maxHeartbeats 1000000 in
theorem feature_new (hd : dp + 5 < recursionLimit) (hu : un + 100 < cLine) (q : List Int) (tq : Tok) (f : Addr) (vs : List Value) (n : Nat) (fs : List Int) (hf : (f, lsO vs n) ∈ news) (hi : IntsAre vs fs) (hz : vs.length ≤ 100000)
    (hret : ∀ h' tk' x nw, Fr h₀ L h' m → News h₀ L h' (nw ++ news) → FeatAt nw x (q, fs) → Apart nw news → Q x { s with heap := h', toks := tk' }) :
    Cl w dp un gd cn cs L a ccd cl outer 269 [.str (tagStr q) tq, .ref f] Q E s := by
  k_dflt (refine' call_cls F X N ?k4 ?k5 ?k6 ?_; (case k4 => k_is); (case k5 => k_is); (case k6 => k_is))
  intro so sd h' F1 N1 l1 l2
  (try k_lt2 l2)
  k_dflt (refine' code_def (env := envX cn cs L a ccd cl) (outer := outer) B F1 X N1 T ?kA ?kF hk ?k6 ?k7 ?k8 ?k9 ?kB ?_ ?c2 ?c3 ?c4 ?c5; (case kA => exact rfl); (case kF => exact rfl); (case k6 => k_is); (case k7 => k_is); (case k8 => first | exact room_n (by with_reducible assumption) (by decide) | exact room_k (by with_reducible assumption) (by decide) | exact room_z (by with_reducible assumption) | ktr_room); (case k9 => exact BindsTo.of_eq rfl); (case kB => exact locs rfl); (case c5 => decide); (case c2 => exact rfl); (case c3 => exact rfl); (case c4 => exact rfl); k_whole; intro g' L' h' FG' F' N' B' X' T'; (try dsimp only); (try k_fold))
  k_extra "m_steps"
  have l3 : ∀ p ∈ news, p.1 < so := fun p hp => Nat.lt_trans (l1 p hp) l2
  refine hret _ _ _ [(lcp, lsO vs ccp), (so, instO 269 sd), (sd, _)] (by assumption) (News.sub (by assumption) (by k_extra "m_sub")) (xi10 so sd lcp _ _ _ _ tq vs ccp ⟨rfl, .tail _ (.head _), .tail _ (.tail _ (.head _)), .head _, hi⟩) ?_
  k_extra "m_apart"
theorem lines_Z81 : True := by
  k_with "call ref" => (first | ((fail_if_success (k_extra "off Z8")); (k_here; (with_reducible show wpAny _ _ (call (Value.ref 187) _) _ _ _); k_dflt (refine' oct_new ?k1 ?k2 ?k3 ?k4 ?k5 ?kK ?kd ?ku _ _ _ _ ?_; (case k1 => k_asm); (case k2 => k_asm); (case k3 => k_asm); (case k4 => k_extra "m_news"); (case k5 => k_asm); (case kK => first | exact rfl | assumption); (case kd => first | exact room_n (by with_reducible assumption) (by decide) | ktr_room); (case ku => first | exact room_n (by with_reducible assumption) (by decide) | ktr_units);  (intro h' tk' so sd c1 c2 k1 k2 F' N' lsd lso; have lsdx := lsd; (try k_lt lsd); (try k_sweep))))) | fail)
  k_with "call ref" => (first | ((fail_if_success (k_extra "off Z8")); (k_here; (with_reducible show wpAny _ _ (call (Value.ref 146) _) _ _ _); k_dflt (refine' u16_spec ?k1 ?k2 ?k3 ?k4 ?k5 ?kK ?kd ?ku ?kp _ ?kD ?kb ?ki ?ks ?ko ?_ ?_; (case k1 => k_asm); (case k2 => k_asm); (case k3 => k_asm); (case k4 => k_extra "m_news"); (case k5 => k_asm); (case kK => first | exact rfl | assumption); (case kd => first | exact room_n (by with_reducible assumption) (by decide) | ktr_room); (case ku => first | exact room_n (by with_reducible assumption) (by decide) | ktr_units); (case kp => k_extra "m_kept"); (case kD => assumption); (case kb => assumption); (case ki => (k_extra "m_om")); (case ks => k_extra "m_in"); (case ko => k_all); (intro x hx h0x h1x h' tk' t' k' F' N'; (try k_sweep))))) | fail)
  k_with "call ref" => (first | ((fail_if_success (k_extra "off Z8")); (k_here; (with_reducible show wpAny _ _ (call (Value.ref 177) _) _ _ _); k_dflt (refine' rows_spec ?k1 ?k2 ?k3 ?k4 ?k5 ?kK ?kd ?ku ?kp _ ?kD ?kb ?ki _ _ ?kc0 ?kc1 ?ks ?ko ?_ ?_; (case k1 => k_asm); (case k2 => k_asm); (case k3 => k_asm); (case k4 => k_extra "m_news"); (case k5 => k_asm); (case kK => first | exact rfl | assumption); (case kd => first | exact room_n (by with_reducible assumption) (by decide) | ktr_room); (case ku => first | exact room_n (by with_reducible assumption) (by decide) | ktr_units); (case kp => k_extra "m_kept"); (case kD => assumption); (case kb => assumption); (case ki => (k_extra "m_om")); (case kc0 => (k_extra "m_om")); (case kc1 => (k_extra "m_om")); (case ks => k_extra "m_in"); (case ko => k_all); (intro rx hrx h' tk' kr rr yr F' N' hyr hyz hrs har; (try k_sweep))))) | fail)
  k_with "call ref" => (first | ((fail_if_success (k_extra "off Z8")); (k_here; (with_reducible show wpAny _ _ (call (Value.ref 269) _) _ _ _); k_dflt (refine' feature_new ?k1 ?k2 ?k3 ?k4 ?k5 ?kK ?kd ?ku _ _ _ _ _ _ ?kf ?ki ?kz ?_; (case k1 => k_asm); (case k2 => k_asm); (case k3 => k_asm); (case k4 => k_extra "m_news"); (case k5 => k_asm); (case kK => first | exact rfl | assumption); (case kd => first | exact room_n (by with_reducible assumption) (by decide) | ktr_room); (case ku => first | exact room_n (by with_reducible assumption) (by decide) | ktr_units); (case kf => k_mem); (case ki => assumption); (case kz => (k_extra "m_om")); (intro h' tk' fx fn F' N' hfx hfa; (try k_sweep))))) | fail)
  exact trivial
set_option maxHeartbeats 1000000 in
theorem feature_spec (hd : dp + 30 < recursionLimit) (hu : un + 200 < cLine) {kp : List (Addr × Obj)} (hkp : KeptIn kp news)
    (D : List Int) (hD : KBw.bInts b = D) (hsz : D.length ≤ 4000) (g : Int) (tg : Tok) (hg : 0 ≤ g ∧ g < 80000000) (q : List Int) (tq : Tok)
    (hok : ∀ x, rdFeat D g = .ok x → ∀ h' tk' r nw, Fr h₀ L h' m → News h₀ L h' (nw ++ news) → FeatAt nw r (q, x) → Apart nw news → Q r { s with heap := h', toks := tk' })
    (herr : ∀ z, rdFeat D g = .error z → Errs base h₀ kp (envX cn cs L a ccd cl) outer L m E s z) :
    Cl w dp un gd cn cs L a ccd cl outer 341 [.bytes b tb, .int g tg, .str (tagStr q) tq] Q E s := by
  k_dflt (refine' enter [("data", .bytes b tb), ("at", .int g tg), ("tag", .str (tagStr q) tq)] B F X N T hk ?k6 ?k7 ?k8 ?k9 ?kB ?c2 ?c3 ?c4 ?c5 ?_; k_extra "m_sides")
  intro g' L' h₁ E' FG F' N' B' X' T' hP hE
  try dsimp only
  try k_fold
  refine foldAV ?_; intro Mz Az vz gz dz oz
  have f4 : g + 2 + 2 = g + 4 := by (k_extra "m_om")
  k_extra "m_steps"
  · rename rdU16 D g = .ok _ => e1
    rename rdU16 D (g + 2) = .ok _ => e2
    rename rdRows D _ _ = .ok _ => e4
    rw [f4] at e4
    refine hok _ ?_ _ _ _ fn (by assumption) (News.sub (by assumption) (by k_extra "m_sub")) hfx (Apart.mono hfa (by k_extra "m_sub"))
    exact bo e1 (bo e2 (e4))
  · rename rdU16 D g = .ok _ => e1
    rename rdU16 D (g + 2) = .ok _ => e2
    rename rdRows D _ _ = .error _ => e4
    rw [f4] at e4
    refine hE _ _ _ _ _ (herr _ ?_)
    exact bo e1 (bo e2 (e4))
  · rename rdU16 D g = .ok _ => e1
    rename rdU16 D (g + 2) = .error _ => e2
    refine hE _ _ _ _ _ (herr _ ?_)
    exact bo e1 (be e2)
  · rename rdU16 D g = .error _ => e1
    refine hE _ _ _ _ _ (herr _ ?_)
    exact be e1
end
theorem off_Z8 : True := by
  k_with "off Z8" => (skip)
  exact trivial
end
section
theorem reset_Z9 : True := by
  w_top off
  exact trivial
noncomputable def rdFeats (D : List Int) (g : Int) : Except Int (List (List Int × List Int)) := do
  let rs ← rdRecs D g 0 false
  mapE (fun p => do let fs ← rdFeat D p.2; pure (p.1, fs)) rs
section
variable {w : World} {dp un : Nat} {gd : Option (List Code)} {cn : Str} {cs : Scope} {a : Addr} {ccd : Value} {cl : List (Str × Addr)} {outer : List Env} {A₀ : Around} {base h₀ : Heap} {L : Addr} {m : Str → Option Value} {s : Shared} {Q E : Value → Shared → Prop} {p : Program} {loose : List Str} {mean : ExcName → Option Value} {mg mb : Str → Option Value} {news : List (Addr × Obj)} {tb : Tok} {b : Array UInt8}
variable (B : Below A₀ base outer h₀) (F : Fr h₀ L s.heap m) (X : (hd.heap_39 w.params).In h₀) (N : News h₀ L s.heap news) (T : Top p loose mean mg mb h₀) (hk : cs.kind = .function)
include B F X N T hk
theorem lines_Z91 : True := by
  k_with "call ref" => (first | ((fail_if_success (k_extra "off Z9")); (k_here; (with_reducible show wpAny _ _ (call (Value.ref 313) _) _ _ _); k_dflt (refine' records_spec ?k1 ?k2 ?k3 ?k4 ?k5 ?kK ?kd ?ku ?kp _ ?kD ?kb _ _ ?kg _ _ ?kl _ ?_ ?_; (case k1 => k_asm); (case k2 => k_asm); (case k3 => k_asm); (case k4 => k_extra "m_news"); (case k5 => k_asm); (case kK => first | exact rfl | assumption); (case kd => first | exact room_n (by with_reducible assumption) (by decide) | ktr_room); (case ku => first | exact room_n (by with_reducible assumption) (by decide) | ktr_units); (case kp => k_extra "m_kept"); (case kD => assumption); (case kb => assumption); (case kg => (k_extra "m_om")); (case kl => decide); (intro rc hrc h' tk' rl rv rn F' N' hrd hra; (try k_sweep))))) | fail)
  k_with "call ref" => (first | ((fail_if_success (k_extra "off Z9")); (k_here; (with_reducible show wpAny _ _ (call (Value.ref 341) _) _ _ _); k_dflt (refine' feature_spec ?k1 ?k2 ?k3 ?k4 ?k5 ?kK ?kd ?ku ?kp _ ?kD ?kb _ _ ?kg _ _ ?_ ?_; (case k1 => k_asm); (case k2 => k_asm); (case k3 => k_asm); (case k4 => k_extra "m_news"); (case k5 => k_asm); (case kK => first | exact rfl | assumption); (case kd => first | exact room_n (by with_reducible assumption) (by decide) | ktr_room); (case ku => first | exact room_n (by with_reducible assumption) (by decide) | ktr_units); (case kp => k_extra "m_kept"); (case kD => assumption); (case kb => assumption); (case kg => (k_extra "m_om")); (intro fr hfr h' tk' fx fn F' N' hfx hfa; (try k_sweep))))) | fail)
  exact trivial
set_option maxHeartbeats 1000000 in
theorem features_spec (hd : dp + 40 < recursionLimit) (hu : un + 250 < cLine) {kp : List (Addr × Obj)} (hkp : KeptIn kp news)
    (D : List Int) (hD : KBw.bInts b = D) (hsz : D.length ≤ 4000) (g : Int) (tg : Tok) (hg : 0 ≤ g ∧ g < 70000000)
    (hok : ∀ x, rdFeats D g = .ok x → ∀ h' tk' r vs nw, Fr h₀ L h' m → News h₀ L h' ((r, LCg.lst vs) :: nw ++ news) → AllR (FeatAt nw) vs x → Apart ((r, LCg.lst vs) :: nw) news → Q (.ref r) { s with heap := h', toks := tk' })
    (herr : ∀ z, rdFeats D g = .error z → Errs base h₀ kp (envX cn cs L a ccd cl) outer L m E s z) :
    Cl w dp un gd cn cs L a ccd cl outer 346 [.bytes b tb, .int g tg] Q E s := by
  k_dflt (refine' enterC [("data", .bytes b tb), ("at", .int g tg)] B F X N T hk ?k6 ?k7 ?k8 ?k9 ?kB ?kD ?c2 ?c3 ?c4 ?_; k_extra "m_sidesC")
  intro g' L' h₁ tk cells E' FG F' N' Y' B' X' T' l' hP hE
  refine (let Gz : Prop := _; (?_ : Gz))
  (refine ex1 (CellsAre.one Y') fun o1 hAz53 => ?_; refine and2 (hAz53) fun hE1 d1 => ?_; clear hAz53)
  k_unfold; clear Gz
  subst hE1
  try simp only [List.cons_append, List.nil_append] at N'
  try dsimp only
  try k_fold
  refine foldAV ?_; intro Mz Az vz gz dz oz
  k_extra "m_steps"
  · rename Fr g' L' _ _ => F9
    rename News g' L' _ _ => N9
    have hbd := recs_bd hD hrc
    have hrl : rv.length = rc.length := by rw [hrd.length, List.length_map]
    refine at_list2 (kp := kp) (its := rv.toArray) (fun z => rdFeats D g = .error z) (fun j ys nw => ∃ tl out, nw = tl ++ ((rl, LCg.lst rv) :: (rn ++ ((L' + 1, o1) :: news))) ∧ AllR (FeatAt tl) ys out ∧ mapE (fun p => do let fs ← rdFeat D p.2; pure (p.1, fs)) (rc.take j) = .ok out ∧ Apart tl ((rl, LCg.lst rv) :: (rn ++ ((L' + 1, o1) :: news))))
      B' F9 N9 rfl rfl rfl ?_ ?_ ?_ (by decide) rfl rfl rfl (by decide) ?_ hkp.2 ⟨[], [], rfl, .nil, rfl, Apart.nil⟩ (fun z hz h => hE _ _ _ _ _ (herr z hz)) ?_ ?_
    · rw [List.size_toArray, hrl, sizeLine_eq]; exact Nat.le_trans (recs_len hD hrc) (by decide)
    · intro j ys nw hJz2
      refine (let Gz : Prop := _; (?_ : Gz))
      (refine ex2 (hJz2) fun tl out hAz54 => ?_; clear hJz2; refine and2 (hAz54) fun hEz54_2 _ => ?_; clear hAz54; subst hEz54_2)
      k_unfold; clear Gz
      exact .inr ⟨_, List.mem_append_right _ (.head _), rfl, _, rfl⟩
    · intro j v ys nw hv hJz3
      refine (let Gz : Prop := _; (?_ : Gz))
      (refine ex2 (hJz3) fun tl out hAz55 => ?_; clear hJz3; refine and2 (hAz55) fun hEz55_2 _ => ?_; clear hAz55; subst hEz55_2)
      k_unfold; clear Gz
      refine (let Gz : Prop := _; (?_ : Gz))
      (refine ex5 (recs_at hrd (by simpa using hv)) fun q t n t1 t2 hAz56 => ?_; refine and3 (hAz56) fun _ hEz56_6 hm => ?_; clear hAz56; subst hEz56_6)
      k_unfold; clear Gz
      exact ⟨t, _, _, _, n, rfl, List.mem_append_right _ (.tail _ (List.mem_append_left _ hm)), rfl, rfl⟩
    · intro j ys nw hJz5
      refine (let Gz : Prop := _; (?_ : Gz))
      (refine ex2 (hJz5) fun tl out hAz57 => ?_; clear hJz5; refine and2 (hAz57) fun hEz57_2 _ => ?_; clear hAz57; subst hEz57_2)
      k_unfold; clear Gz
      intro q hq
      exact List.mem_append_right _ (.tail _ (List.mem_append_right _ (.tail _ (hkp.1 q hq))))
    · intro j v ys nw I oI C oC D' m₂ h tk hv hJz6
      refine (let Gz : Prop := _; (?_ : Gz))
      (refine ex2 (hJz6) fun tl out hAz58 => ?_; clear hJz6; refine and4 (hAz58) fun hEz58_2 hft hmp hap => ?_; clear hAz58; subst hEz58_2)
      k_unfold; clear Gz
      intro t ot v₁ v₂ nt
      rintro rfl
      intro hmt hct hdt hoC hx1 hx2 F1 N1 O3 hne hkk
      refine (let Gz : Prop := _; (?_ : Gz))
      (refine ex5 (recs_at hrd (by simpa using hv)) fun q t' n t1 t2 hAz59 => ?_; refine and3 (hAz59) fun hq e hm => ?_; clear hAz59)
      k_unfold; clear Gz
      refine (let Gz : Prop := _; (?_ : Gz))
      obtain ⟨rfl, rfl⟩ := rec_item N1 (.tail _ (.tail _ (.tail _ hmt))) (.tail _ (.tail _ (.tail _ (List.mem_append_right _ (.tail _ (List.mem_append_left _ hm)))))) e hdt
      k_unfold; clear Gz
      have hqb := hbd q (List.mem_of_getElem? hq)
      k_extra "m_steps"
      · refine LCg.CompEnd.intro (by assumption) (by assumption) ((fn ++ tl) ++ ((rl, LCg.lst rv) :: (rn ++ ((L' + 1, o1) :: news)))) (by k_extra "m_sub") (by rw [List.append_assoc]; exact off3_app O3 (off3_of_apart hfa)) trivial
          ⟨fn ++ tl, out ++ [(q.1, fr)], rfl, (hft.mono fun _ _ x => x.mono (by k_extra "m_sub")).append (.one (hfx.mono (by k_extra "m_sub"))), mapE_next hq hmp (by rw [hfr, ebo]; rfl), Apart.app (hfa.mono (by k_extra "m_sub")) hap⟩
      · rename rdFeat D _ = .error _ => hx
        refine errs_fly (show rdFeats D g = .error _ from ?_)
        unfold rdFeats
        rw [hrc, ebo]
        exact mapE_stop hq hmp (by rw [hx, ebe])
    · refine fin_none ?_
      intro D' h tk ys nw F1 N1 hno hJz9
      refine (let Gz : Prop := _; (?_ : Gz))
      (refine ex2 (hJz9) fun tl out hAz60 => ?_; clear hJz9; refine and4 (hAz60) fun hEz60_2 hft hmp hap => ?_; clear hAz60; subst hEz60_2)
      k_unfold; clear Gz
      k_extra "m_steps"
      rw [List.size_toArray, hrl, List.take_length] at hmp
      refine hok out (by exact bo hrc hmp) _ _ _ ys tl (by assumption) (News.sub (by assumption) (by k_extra "m_sub")) hft ?_
      refine Apart.cons (fun p hp => ?_) (hap.mono (by k_extra "m_sub"))
      exact hno p (List.mem_append_right _ (.tail _ (List.mem_append_right _ (.tail _ hp))))
  · refine hE _ _ _ _ _ (herr _ ?_)
    rename rdRecs D _ _ _ = .error _ => hx
    exact be hx
end
theorem off_Z9 : True := by
  k_with "off Z9" => (skip)
  exact trivial
end
section
theorem reset_ZA : True := by
  w_top off
  exact trivial
/-- the number of a table's kind, as _law_table tells it -/
noncomputable def kindB (b : Array UInt8) (n g : Int) : Str := if ((KBy.picked b (some g) (some (g + 1))).toList == #[9].toList) = true then Str.ofString "odd" else Str.ofString "k" ++ Str.ofString (toString n)
section
variable {w : World} {dp un : Nat} {gd : Option (List Code)} {cn : Str} {cs : Scope} {a : Addr} {ccd : Value} {cl : List (Str × Addr)} {outer : List Env} {A₀ : Around} {base h₀ : Heap} {L : Addr} {m : Str → Option Value} {s : Shared} {Q E : Value → Shared → Prop} {p : Program} {loose : List Str} {mean : ExcName → Option Value} {mg mb : Str → Option Value} {news : List (Addr × Obj)} {tb : Tok} {b : Array UInt8}
variable (B : Below A₀ base outer h₀) (F : Fr h₀ L s.heap m) (X : (hd.heap_39 w.params).In h₀) (N : News h₀ L s.heap news) (T : Top p loose mean mg mb h₀) (hk : cs.kind = .function)
include B F X N T hk
theorem lines_ZA1 : True := by
  k_with "call ref" => (first | ((fail_if_success (k_extra "off ZA")); (k_here; (with_reducible show wpAny _ _ (call (Value.ref 215) _) _ _ _); k_dflt (refine' langsys_new ?k1 ?k2 ?k3 ?k4 ?k5 ?kK ?kd ?ku _ _ _ _ _ _ ?kf ?ki ?kz ?_; (case k1 => k_asm); (case k2 => k_asm); (case k3 => k_asm); (case k4 => k_extra "m_news"); (case k5 => k_asm); (case kK => first | exact rfl | assumption); (case kd => first | exact room_n (by with_reducible assumption) (by decide) | ktr_room); (case ku => first | exact room_n (by with_reducible assumption) (by decide) | ktr_units); (case kf => k_mem); (case ki => first | assumption | exact .cons _ _ .nil); (case kz => first | (k_extra "m_om") | (show 1 ≤ 100000; decide)); (intro h' tk' lx ln F' N' hlx hla; (try k_sweep))))) | fail)
  exact trivial
set_option maxHeartbeats 1000000 in
theorem table_spec (hd : dp + 10 < recursionLimit) (hu : un + 150 < cLine)
    (D : List Int) (hD : KBw.bInts b = D) (hsz : D.length ≤ 4000) (n : Int) (tn : Tok) (hn : 0 ≤ n ∧ n < 65536) (g : Int) (tg : Tok) (hg : 0 ≤ g ∧ g < 80000000)
    (hok : ∀ h' tk' t tk x nw, Fr h₀ L h' m → News h₀ L h' ((t, tupO [.str (kindB b n g) tk, x]) :: nw ++ news) → LangAt nw x (g, [n]) → Apart ((t, tupO [.str (kindB b n g) tk, x]) :: nw) news → Q (.ref t) { s with heap := h', toks := tk' }) :
    Cl w dp un gd cn cs L a ccd cl outer 471 [.int n tn, .bytes b tb, .int g tg] Q E s := by
  k_dflt (refine' enter [("number", .int n tn), ("data", .bytes b tb), ("at", .int g tg)] B F X N T hk ?k6 ?k7 ?k8 ?k9 ?kB ?c2 ?c3 ?c4 ?c5 ?_; k_extra "m_sides")
  intro g' L' h₁ E' FG F' N' B' X' T' hP hE
  try dsimp only
  try k_fold
  refine foldAV ?_; intro Mz Az vz gz dz oz
  k_extra "m_steps"
  · rename (_ == _) = true => hc
    have e : kindB b n g = Str.ofString "odd" := if_pos hc
    refine hok _ _ tw _ lx ln (by assumption) (News.sub (by assumption) (by rw [e]; k_extra "m_sub")) hlx (Apart.cons (by k_all) (hla.mono (by k_extra "m_sub")))
  · rename (_ == _) = false => hc
    have e : kindB b n g = Str.ofString "k" ++ Str.ofString (toString n) := if_neg (by rw [hc]; decide)
    refine hok _ _ tw _ lx ln (by assumption) (News.sub (by assumption) (by rw [e]; k_extra "m_sub")) hlx (Apart.cons (by k_all) (hla.mono (by k_extra "m_sub")))
end
theorem off_ZA : True := by
  k_with "off ZA" => (skip)
  exact trivial
end
section
theorem reset_ZB0 : True := by
  w_top off
  exact trivial
noncomputable def LookAt (tl : List (Addr × Obj)) (v : Value) (p : Str × Int × Int × List (Int × List Int)) : Prop :=
  ∃ x dx f c1 c2 c3 c4 k1 k2 k3 k4 t1 t2 t3 vs, v = .ref x ∧ (x, instO 85 dx) ∈ tl ∧ (dx, dictOf [⟨c1, .str (Str.ofString "kind") k1, .str p.1 t1⟩, ⟨c2, .str (Str.ofString "flag") k2, .int p.2.1 t2⟩, ⟨c3, .str (Str.ofString "mark_set") k3, .int p.2.2.1 t3⟩, ⟨c4, .str (Str.ofString "tables") k4, .ref f⟩] 4) ∈ tl ∧ (f, LCg.lst vs) ∈ tl ∧ AllR (LangAt tl) vs p.2.2.2
theorem LookAt.mono {tl tl' : List (Addr × Obj)} {v : Value} {p : Str × Int × Int × List (Int × List Int)} (h : LookAt tl v p) (hs : ∀ p ∈ tl, p ∈ tl') : LookAt tl' v p := by
  refine (let Gz : Prop := _; (?_ : Gz))
  (refine ex9 (h) fun x dx f c1 c2 c3 c4 k1 k2 hAz61 => ?_; clear h; ((refine ex6 (hAz61) fun k3 k4 t1 t2 t3 vs hAz62 => ?_; clear hAz61; refine and5 (hAz62) fun a b c d e => ?_; clear hAz62)))
  k_unfold; clear Gz
  exact (xi15 x dx f c1 c2 c3 c4 k1 k2 k3 k4 t1 t2 t3 vs ⟨a, hs _ b, hs _ c, hs _ d, e.mono fun _ _ x => x.mono hs⟩)
theorem item0_K {prog : Program} {w : World} {A : Around} {E : Value → Shared → Prop} {s : Shared} {h₀ : Heap} {L l : Addr} {news : List (Addr × Obj)} {Q : Value → Shared → Prop} {vs : List Value} {v : Value} {value slice : PySem.Expr} {u : Tok} (N : News h₀ L s.heap news) (ma : (l, LCg.lst (v :: vs)) ∈ news) (h : Q v s)
    (hs : subscripted slice false (.ref l) (.int 0 u) = operate [.ref l, .int 0 u] (getItem (.ref l) (.int 0 u)) := by with_unfolding_all rfl) :
    wpAny (model prog w) A (subscriptTail value slice (.ref l) (.int 0 u)) Q E s :=
  have hl : s.heap.IsList l (v :: vs).toArray := ⟨_, (N _ ma).1, rfl, _, rfl⟩
  tail_any hl.typeIs slot_list_getitem.lookup (wpAny_getItem_list hl (by decide) (by decide) rfl h) hs
section
variable {w : World} {dp un : Nat} {gd : Option (List Code)} {cn : Str} {cs : Scope} {a : Addr} {ccd : Value} {cl : List (Str × Addr)} {outer : List Env} {A₀ : Around} {base h₀ : Heap} {L : Addr} {m : Str → Option Value} {s : Shared} {Q E : Value → Shared → Prop} {p : Program} {loose : List Str} {mean : ExcName → Option Value} {mg mb : Str → Option Value} {news : List (Addr × Obj)} {tb : Tok} {b : Array UInt8}
variable (B : Below A₀ base outer h₀) (F : Fr h₀ L s.heap m) (X : (hd.heap_39 w.params).In h₀) (N : News h₀ L s.heap news) (T : Top p loose mean mg mb h₀) (hk : cs.kind = .function)
include B F X N T hk
set_option maxHeartbeats 1000000 in
theorem lookup_new (hd : dp + 5 < recursionLimit) (hu : un + 100 < cLine) (k : Str) (t1 : Tok) (fl : Int) (t2 : Tok) (mk : Int) (t3 : Tok) (f : Addr)
    (hret : ∀ h' tk' x dx c1 c2 c3 c4 k1 k2 k3 k4, Fr h₀ L h' m → News h₀ L h' ((x, instO 85 dx) :: (dx, dictOf [⟨c1, .str (Str.ofString "kind") k1, .str k t1⟩, ⟨c2, .str (Str.ofString "flag") k2, .int fl t2⟩, ⟨c3, .str (Str.ofString "mark_set") k3, .int mk t3⟩, ⟨c4, .str (Str.ofString "tables") k4, .ref f⟩] 4) :: news) →
       (∀ p ∈ news, p.1 < x) → (∀ p ∈ news, p.1 < dx) → Q (.ref x) { s with heap := h', toks := tk' }) :
    Cl w dp un gd cn cs L a ccd cl outer 85 [.str k t1, .int fl t2, .int mk t3, .ref f] Q E s := by
  k_dflt (refine' call_cls F X N ?k4 ?k5 ?k6 ?_; (case k4 => k_is); (case k5 => k_is); (case k6 => k_is))
  intro so sd h' F1 N1 l1 l2
  (try k_lt2 l2)
  k_dflt (refine' code_def (env := envX cn cs L a ccd cl) (outer := outer) B F1 X N1 T ?kA ?kF hk ?k6 ?k7 ?k8 ?k9 ?kB ?_ ?c2 ?c3 ?c4 ?c5; (case kA => exact rfl); (case kF => exact rfl); (case k6 => k_is); (case k7 => k_is); (case k8 => first | exact room_n (by with_reducible assumption) (by decide) | exact room_k (by with_reducible assumption) (by decide) | exact room_z (by with_reducible assumption) | ktr_room); (case k9 => exact BindsTo.of_eq rfl); (case kB => exact locs rfl); (case c5 => decide); (case c2 => exact rfl); (case c3 => exact rfl); (case c4 => exact rfl); k_whole; intro g' L' h' FG' F' N' B' X' T'; (try dsimp only); (try k_fold))
  k_extra "m_steps"
  have l3 : ∀ p ∈ news, p.1 < so := fun p hp => Nat.lt_trans (l1 p hp) l2
  exact hret _ _ so sd _ _ _ _ _ _ _ _ (by assumption) (News.sub (by assumption) (by k_extra "m_sub")) l3 l1
end
theorem off_ZB0 : True := by
  k_with "off ZB0" => (skip)
  exact trivial
end
section
theorem reset_ZB : True := by
  w_top off
  exact trivial

noncomputable def rdOffs (D : List Int) (i g : Int) (c : Nat) : Except Int (List Int) := mapE (fun (j : Nat) => rdOff D (i + 2 * (j : Int)) g) (List.range c)
noncomputable def chkGo (b : Array UInt8) (n : Int) (k0 : Str) : List Int → Except Int Unit
  | [] => .ok ()
  | g :: r => if kindB b n g = k0 then chkGo b n k0 r else .error g
noncomputable def rdMark (D : List Int) (fl i : Int) : Except Int Int := if Builtin.bitAnd fl 16 = 0 then .ok (-1) else rdU16 D i
noncomputable def rdLook (b : Array UInt8) (D : List Int) (g : Int) : Except Int (Str × Int × Int × List (Int × List Int)) := do
  let n ← rdU16 D g
  let fl ← rdU16 D (g + 2)
  let c ← rdU16 D (g + 4)
  let _ ← if c = 0 then Except.error (g + 4) else Except.ok ()
  let gs ← rdOffs D (g + 6) g c.toNat
  let mk ← rdMark D fl (g + 6 + 2 * c)
  let _ ← chkGo b n (kindB b n (gs.headD 0)) gs
  pure (kindB b n (gs.headD 0), fl, mk, gs.map fun x => (x, [n]))
theorem mark_no {D : List Int} {fl i : Int} {z : Except Int Int} (h : ¬ Builtin.bitAnd fl 16 = 0) (k : rdU16 D i = z) : rdMark D fl i = z := (if_neg h).trans k
theorem mark_yes {D : List Int} {fl i : Int} (h : Builtin.bitAnd fl 16 = 0) : rdMark D fl i = .ok (-1) := if_pos h
theorem chkGo_app {b : Array UInt8} {n : Int} {k0 : Str} : ∀ {l r : List Int}, chkGo b n k0 l = .ok () → chkGo b n k0 (l ++ r) = chkGo b n k0 r
  | [], _, _ => rfl
  | g :: l, r, h => by
    rw [chkGo] at h
    split at h
    · rename_i hk
      rw [List.cons_append, chkGo, if_pos hk]
      exact chkGo_app h
    · cases h
theorem chkGo_next {b : Array UInt8} {n : Int} {k0 : Str} {l : List Int} {j : Nat} {g : Int} (hg : l[j]? = some g) (h : chkGo b n k0 (l.take j) = .ok ()) (h1 : kindB b n g = k0) : chkGo b n k0 (l.take (j + 1)) = .ok () := by
  rw [take_snoc hg, chkGo_app h, chkGo, if_pos h1]; rfl
theorem chkGo_stop {b : Array UInt8} {n : Int} {k0 : Str} {l : List Int} {j : Nat} {g : Int} (hg : l[j]? = some g) (h : chkGo b n k0 (l.take j) = .ok ()) (h1 : kindB b n g ≠ k0) : chkGo b n k0 l = .error g := by
  rw [take_split hg, chkGo_app h, chkGo, if_neg h1]
theorem kindB_ok (b : Array UInt8) (n g : Int) : PyData.strOk (kindB b n g) = true := by
  unfold kindB
  split
  · exact strOk_of _
  · exact strOk_app (strOk_of _) (strOk_of _)
theorem kinds_ok (b : Array UInt8) (n : Int) (l : List Int) : ∀ d ∈ l.map fun g => Dat.str (kindB b n g), kqdOk 8 d = true := by
  intro d hd
  refine (let Gz : Prop := _; (?_ : Gz))
  (refine ex1 (List.mem_map.mp hd) fun g hAz63 => ?_; refine and2 (hAz63) fun _ hEz63_2 => ?_; clear hAz63; subst hEz63_2)
  k_unfold; clear Gz
  unfold kqdOk
  exact kindB_ok b n g
theorem kinds_cons {kv : List Value} {k : Str} {ds : List Dat} (h : DatAll [] kv (Dat.str k :: ds)) : ∃ t kv', kv = .str k t :: kv' ∧ DatAll [] kv' ds := by
  cases h with
  | cons h1 h2 => cases h1; exact ⟨_, _, rfl, h2⟩
section
variable {w : World} {dp un : Nat} {gd : Option (List Code)} {cn : Str} {cs : Scope} {a : Addr} {ccd : Value} {cl : List (Str × Addr)} {outer : List Env} {A₀ : Around} {base h₀ : Heap} {L : Addr} {m : Str → Option Value} {s : Shared} {Q E : Value → Shared → Prop} {p : Program} {loose : List Str} {mean : ExcName → Option Value} {mg mb : Str → Option Value} {news : List (Addr × Obj)} {tb : Tok} {b : Array UInt8}
variable (B : Below A₀ base outer h₀) (F : Fr h₀ L s.heap m) (X : (hd.heap_39 w.params).In h₀) (N : News h₀ L s.heap news) (T : Top p loose mean mg mb h₀) (hk : cs.kind = .function)
include B F X N T hk
theorem lines_ZB1 : True := by
  k_with "call ref" => (first | ((fail_if_success (k_extra "off ZB")); (k_here; (with_reducible show wpAny _ _ (call (Value.ref 187) _) _ _ _); k_dflt (refine' oct_new ?k1 ?k2 ?k3 ?k4 ?k5 ?kK ?kd ?ku _ _ _ _ ?_; (case k1 => k_asm); (case k2 => k_asm); (case k3 => k_asm); (case k4 => k_extra "m_news"); (case k5 => k_asm); (case kK => first | exact rfl | assumption); (case kd => first | exact room_n (by with_reducible assumption) (by decide) | ktr_room); (case ku => first | exact room_n (by with_reducible assumption) (by decide) | ktr_units);  (intro h' tk' so sd c1 c2 k1 k2 F' N' lsd lso; have lsdx := lsd; (try k_lt lsd); (try k_sweep))))) | fail)
  k_with "call ref" => (first | ((fail_if_success (k_extra "off ZB")); (k_here; (with_reducible show wpAny _ _ (call (Value.ref 146) _) _ _ _); k_dflt (refine' u16_spec ?k1 ?k2 ?k3 ?k4 ?k5 ?kK ?kd ?ku ?kp _ ?kD ?kb ?ki ?ks ?ko ?_ ?_; (case k1 => k_asm); (case k2 => k_asm); (case k3 => k_asm); (case k4 => k_extra "m_news"); (case k5 => k_asm); (case kK => first | exact rfl | assumption); (case kd => first | exact room_n (by with_reducible assumption) (by decide) | ktr_room); (case ku => first | exact room_n (by with_reducible assumption) (by decide) | ktr_units); (case kp => k_extra "m_kept"); (case kD => assumption); (case kb => assumption); (case ki => (k_extra "m_om")); (case ks => k_extra "m_in"); (case ko => k_all); (intro x hx h0x h1x h' tk' t' k' F' N'; (try k_sweep))))) | fail)
  k_with "call ref" => (first | ((fail_if_success (k_extra "off ZB")); (k_here; (with_reducible show wpAny _ _ (call (Value.ref 306) _) _ _ _); k_dflt (refine' offset_spec ?k1 ?k2 ?k3 ?k4 ?k5 ?kK ?kd ?ku ?kp _ ?kD ?kb ?ki _ _ ?ks ?ko ?_ ?_; (case k1 => k_asm); (case k2 => k_asm); (case k3 => k_asm); (case k4 => k_extra "m_news"); (case k5 => k_asm); (case kK => first | exact rfl | assumption); (case kd => first | exact room_n (by with_reducible assumption) (by decide) | ktr_room); (case ku => first | exact room_n (by with_reducible assumption) (by decide) | ktr_units); (case kp => k_extra "m_kept"); (case kD => assumption); (case kb => assumption); (case ki => (k_extra "m_om")); (case ks => k_extra "m_in"); (case ko => k_all); (intro gx hgx h' tk' tgo kgo F' N'; (try k_sweep))))) | fail)
  k_with "call ref" => (first | ((fail_if_success (k_extra "off ZB")); (k_here; (with_reducible show wpAny _ _ (call (Value.ref 471) _) _ _ _); k_dflt (refine' table_spec ?k1 ?k2 ?k3 ?k4 ?k5 ?kK ?kd ?ku _ ?kD ?kb _ _ ?kn _ _ ?kg ?_; (case k1 => k_asm); (case k2 => k_asm); (case k3 => k_asm); (case k4 => k_extra "m_news"); (case k5 => k_asm); (case kK => first | exact rfl | assumption); (case kd => first | exact room_n (by with_reducible assumption) (by decide) | ktr_room); (case ku => first | exact room_n (by with_reducible assumption) (by decide) | ktr_units); (case kD => assumption); (case kb => assumption); (case kn => (k_extra "m_om")); (case kg => (k_extra "m_om")); (intro h' tk' tt tkk tx tn F' N' htx hta; (try k_sweep))))) | fail)
  k_with "call ref" => (first | ((fail_if_success (k_extra "off ZB")); (k_here; (with_reducible show wpAny _ _ (call (Value.ref 85) _) _ _ _); k_dflt (refine' lookup_new ?k1 ?k2 ?k3 ?k4 ?k5 ?kK ?kd ?ku _ _ _ _ _ _ _ ?_; (case k1 => k_asm); (case k2 => k_asm); (case k3 => k_asm); (case k4 => k_extra "m_news"); (case k5 => k_asm); (case kK => first | exact rfl | assumption); (case kd => first | exact room_n (by with_reducible assumption) (by decide) | ktr_room); (case ku => first | exact room_n (by with_reducible assumption) (by decide) | ktr_units);  (intro h' tk' lkx lkd kc1 kc2 kc3 kc4 kt1 kt2 kt3 kt4 F' N' hlk1 hlk2; have hlk3 := hlk1; have hlk4 := hlk2; (try k_lt hlk3); (try k_lt hlk4); (try k_sweep))))) | fail)
  k_with "compareOp NotEq ref ref" => (first | ((fail_if_success (k_extra "off ZB")); k_extra "m_stop") | fail)
  k_with "newList" => (first | ((fail_if_success (k_extra "off ZB")); k_extra "m_stop") | fail)
  k_with "subscriptTail Name Constant ref int" => (first | ((fail_if_success (k_extra "off ZB")); (k_here; k_dflt (refine' item0_K ?zk1 ?zk2 ?_; (case zk1 => k_asm); (case zk2 => k_mem); k_whole))) | fail)
  k_with "eval IfExp" => (first | ((fail_if_success (k_extra "off ZB")); (k_here; (fail_if_success (with_reducible show wpAny _ _ _ (Join _) _ _)); refine of_stop ?_)) | fail)
  exact trivial
set_option maxHeartbeats 1000000 in
theorem lookup_spec (hd : dp + 40 < recursionLimit) (hu : un + 250 < cLine) {kp : List (Addr × Obj)} (hkp : KeptIn kp news)
    (D : List Int) (hD : KBw.bInts b = D) (hsz : D.length ≤ 4000) (g : Int) (tg : Tok) (hg : 0 ≤ g ∧ g < 70000000)
    (hok : ∀ x, rdLook b D g = .ok x → ∀ h' tk' r nw, Fr h₀ L h' m → News h₀ L h' (nw ++ news) → LookAt nw r x → Apart nw news → Q r { s with heap := h', toks := tk' })
    (herr : ∀ z, rdLook b D g = .error z → Errs base h₀ kp (envX cn cs L a ccd cl) outer L m E s z) :
    Cl w dp un gd cn cs L a ccd cl outer 351 [.bytes b tb, .int g tg, .ref 471] Q E s := by
  k_dflt (refine' enterC [("data", .bytes b tb), ("at", .int g tg), ("read_table", .ref 471)] B F X N T hk ?k6 ?k7 ?k8 ?k9 ?kB ?kD ?c2 ?c3 ?c4 ?_; k_extra "m_sidesC")
  intro g' L' h₁ tk cells E' FG F' N' Y' B' X' T' l' hP hE
  refine (let Gz : Prop := _; (?_ : Gz))
  (refine ex2 (CellsAre.two Y') fun o1 o2 hAz64 => ?_; refine and3 (hAz64) fun hE1 d1 d2 => ?_; clear hAz64)
  k_unfold; clear Gz
  subst hE1
  try simp only [List.cons_append, List.nil_append] at N'
  have hnL1 : ∀ p ∈ news, p.1 ≠ L' + 1 := fun p hp => Nat.ne_of_lt (Nat.lt_succ_of_lt (l' p hp))
  have hnL2 : ∀ p ∈ news, p.1 ≠ L' + 2 := fun p hp => Nat.ne_of_lt (Nat.lt_succ_of_lt (Nat.lt_succ_of_lt (l' p hp)))
  have f4 : g + 2 + 2 = g + 4 := by (k_extra "m_om")
  have f6 : g + 2 + 2 + 2 = g + 6 := by (k_extra "m_om")
  try dsimp only
  try k_fold
  refine foldAV ?_; intro Mz Az vz gz dz oz
  k_extra "m_steps"
  · rename rdU16 D g = .ok _ => e1
    rename rdU16 D (g + 2) = .ok _ => e2
    rename rdU16 D (g + 2 + 2) = .ok _ => e3
    rw [f4] at e3
    refine raised B' (by assumption) X' (by assumption) (by k_extra "m_kept") (by assumption) rfl rfl (hE _ _ h₁ 0 _ (herr _ ?_)) _
    exact bo e1 (bo e2 (bo e3 (if_pos (by assumption))))
  · rename rdU16 D g = .ok _ => e1
    rename rdU16 D (g + 2) = .ok _ => e2
    rename rdU16 D (g + 2 + 2) = .ok _ => e3
    rw [f4] at e3
    rename_i oc dq _ _ _ n n0 n1 _ _ tn _ _ _ _ _ _ fl fl0 fl1 _ _ tfl _ _ _ _ _ _ _ _ _ _ _ hx0 _ _ _ _ _ hR F9 N9 hup
    have hOz3 : ∃ c, c = x := ⟨_, rfl⟩
    refine (let Gz : Prop := _; (?_ : Gz))
    obtain ⟨cx, hcx⟩ := hOz3
    k_unfold; clear Gz
    subst hcx
    have h0c := h0x
    have h1c := h1x
    clear h0x h1x
    rw [f6] at N9
    have hso1 : ∀ p ∈ (so, instO 187 sd) :: (L' + 1 + 1, oc) :: (L' + 1, o2) :: news, p.1 ≠ sd :=
      (fmc (Nat.ne_of_gt lso) (by first | exact neOf_lt2 lsdx | exact neOf_lt2' lsdx))
    refine at_range1 (kp := kp) (n := cx.toNat) (fun z => rdOffs D (g + 6) g cx.toNat = .error z)
      (fun j ys nw => ∃ k out, nw = (sd, octD c1 c2 k1 k2 b tb (g + 6 + 2 * (j : Int)) k) :: (so, instO 187 sd) :: (L' + 1 + 1, oc) :: (L' + 1, o2) :: news ∧ IntsAre ys out ∧ mapE (fun (j : Nat) => rdOff D (g + 6 + 2 * (j : Int)) g) ((List.range cx.toNat).take j) = .ok out)
      B' F9 N9 rfl rfl rfl hR (range_small h0c (by (k_extra "m_om"))) (range_size h0c) (by rw [sizeLine_eq]; (k_extra "m_om")) (by decide) rfl rfl ?_ hkp.2 ⟨k', [], ?_, .nil, rfl⟩ (fun z hz h => hE _ _ _ _ _ (herr z ?_)) ?_ ?_
    · intro j ys nw hJz4
      refine (let Gz : Prop := _; (?_ : Gz))
      (refine ex2 (hJz4) fun k out hAz65 => ?_; clear hJz4; refine and2 (hAz65) fun hEz65_2 _ => ?_; clear hAz65; subst hEz65_2)
      k_unfold; clear Gz
      intro q hq
      exact .tail _ (.tail _ (.tail _ (.tail _ (hkp.1 q hq))))
    · rw [Int.natCast_zero, Int.mul_zero, Int.add_zero]
    · exact bo e1 (bo e2 (bo e3 ((if_neg hx0).trans (bo rfl (be hz)))))
    · intro j tj ys nw I oI C oC D' m₂ h tk hj hJz5
      refine (let Gz : Prop := _; (?_ : Gz))
      (refine ex2 (hJz5) fun k out hAz66 => ?_; clear hJz5; refine and3 (hAz66) fun hEz66_2 hys hmp => ?_; clear hAz66; subst hEz66_2)
      k_unfold; clear Gz
      intro hoC hm₂ F1 N1 O3 hne hkk
      have hO3 := O3.mem
      replace N1 := News.sub (news' := (sd, octD c1 c2 k1 k2 b tb (g + 6 + 2 * (j : Int)) k) :: (I, oI) :: (C, oC) :: (D', LCg.lst ys) :: (so, instO 187 sd) :: (L' + 1 + 1, oc) :: (L' + 1, o2) :: news) N1 (by k_extra "m_sub")
      have hoX : ∀ p ∈ (I, oI) :: (C, oC) :: (D', LCg.lst ys) :: (so, instO 187 sd) :: (L' + 1 + 1, oc) :: (L' + 1, o2) :: news, p.1 ≠ sd := by
        have h0 := hO3 _ (.head _)
        exact (fmc (Ne.symm h0.1) ((fmc (Ne.symm h0.2.1) ((fmc (Ne.symm h0.2.2) (hso1))))))
      k_extra "m_steps"
      · rename rdOff D _ _ = .ok _ => hgx
        rename News g' L' _ _ => N5
        have hOz6 : ∃ k, News g' L' _ ((sd, octD c1 c2 k1 k2 b tb (g + 6 + 2 * ((j + 1 : Nat) : Int)) k) :: (I, oI) :: (C, oC) :: (D', LCg.lst ys) :: (so, instO 187 sd) :: (L' + 1 + 1, oc) :: (L' + 1, o2) :: news) :=
          ⟨_, by rw [show g + 6 + 2 * ((j + 1 : Nat) : Int) = g + 6 + 2 * (j : Int) + 2 from by (k_extra "m_om")]; exact N5⟩
        refine (let Gz : Prop := _; (?_ : Gz))
        obtain ⟨k5, N5⟩ := hOz6
        k_unfold; clear Gz
        refine LCg.CompEnd.intro (by assumption) N5 ((sd, octD c1 c2 k1 k2 b tb (g + 6 + 2 * ((j + 1 : Nat) : Int)) k5) :: (so, instO 187 sd) :: (L' + 1 + 1, oc) :: (L' + 1, o2) :: news) (by k_extra "m_sub") (LCg.Off3.of ((fmc (hO3 (sd, octD c1 c2 k1 k2 b tb (g + 6 + 2 * (j : Int)) k) (.head _)) (fun p hp => hO3 p (.tail _ hp))))) trivial
          ⟨k5, out ++ [gx], rfl, IntsAre.append hys (.cons _ _ .nil), mapE_next (range_at hj) hmp hgx⟩
      · rename rdOff D _ _ = .error _ => hz
        exact errs_fly (show rdOffs D (g + 6) g cx.toNat = .error _ from mapE_stop (range_at hj) hmp hz)
    · refine fin_someU ?e1 ?e2 ?e3 ?_
      case e1 => exact rfl
      case e2 => exact rfl
      case e3 => exact rfl
      intro pl h tk ys nw F1 N1 hno hJz7
      refine (let Gz : Prop := _; (?_ : Gz))
      (refine ex2 (hJz7) fun k out hAz67 => ?_; clear hJz7; refine and3 (hAz67) fun hEz67_2 hys hmp => ?_; clear hAz67; subst hEz67_2)
      k_unfold; clear Gz
      have e4 : rdOffs D (g + 6) g cx.toNat = .ok out := by
        unfold rdOffs
        rw [← hmp, List.take_of_length_le (by rw [List.length_range]; exact Nat.le_refl _)]
      have exx : ((cx.toNat : Nat) : Int) = cx := by (k_extra "m_om")
      rw [exx] at hno N1
      have hoN : out.length = cx.toNat := by rw [mapE_len hmp, List.length_take, List.length_range]; exact Nat.min_self _
      have hog : ∀ q ∈ out, 0 ≤ q ∧ q < 80000000 := fun q hq => by
        refine (let Gz : Prop := _; (?_ : Gz))
        (refine ex1 (mapE_all e4 q hq) fun j hAz68 => ?_; refine and2 (hAz68) fun _ e => ?_; clear hAz68)
        k_unfold; clear Gz
        have := rdOff_bd hD e
        (k_extra "m_om")
      have hoz : out.length ≤ 65536 := by (k_extra "m_om")
      have ho0 : out ≠ [] := fun e => by rw [e] at hoN; simp at hoN; (k_extra "m_om")
      have hpsd : ∀ p ∈ (pl, LCg.lst ys) :: (so, instO 187 sd) :: (L' + 1 + 1, oc) :: (L' + 1, o2) :: news, p.1 ≠ sd := (fmc (Ne.symm (hno (sd, _) (.head _))) (hso1))
      k_extra "m_steps"
      rename Fr g' L' _ _ => F5
      rename News g' L' _ _ => N5
      refine join_int (rdMark D fl (g + 6 + 2 * cx)) F5 (News.sub (news' := (pl, LCg.lst ys) :: (so, instO 187 sd) :: (L' + 1 + 1, oc) :: (L' + 1, o2) :: news) N5 (by k_extra "m_sub")) ?_ ?_
      · k_extra "m_steps"
        · rename News g' L' _ _ => N6
          exact IntP.mk (by assumption) (News.sub N6 (by k_extra "m_sub")) (mark_no (by assumption) (by assumption))
        · refine hE _ _ _ _ _ (herr _ ?_)
          exact bo e1 (bo e2 (bo e3 ((if_neg hx0).trans (bo rfl (bo e4 (be (mark_no (by assumption) (by assumption))))))))
        · rename News g' L' _ _ => N6
          exact IntP.mk (by assumption) (News.sub N6 (by k_extra "m_sub")) (mark_yes (by assumption))
      intro h' tk' mk tmk F6 N6 e5
      clear F5 N5
      k_extra "m_steps"
      rename Fr g' L' _ _ => F5
      rename News g' L' _ _ => N5
      refine newList_nil F5 N5 ?_
      intro kl h' F5 N5 lkl
      k_extra "m_steps"
      rename Fr g' L' _ _ => F6
      rename News g' L' _ _ => N6
      refine newList_nil F6 N6 ?_
      intro tbl h' F6 N6 ltb
      k_extra "m_steps"
      rename Fr g' L' _ _ => F7
      rename News g' L' _ _ => N7
      have hOz9 : ∃ rest, News g' L' _ ((tbl, LCg.lst []) :: (kl, LCg.lst []) :: rest) ∧ (pl, LCg.lst ys) ∈ rest ∧ (∀ p ∈ kp, p ∈ rest) ∧ (∀ p ∈ news, p ∈ rest) ∧ (∀ p ∈ rest, @LT.lt Nat _ p.1 kl) ∧ (∀ p ∈ (kl, LCg.lst []) :: rest, @LT.lt Nat _ p.1 tbl) :=
        ⟨_, N7, by k_extra "m_in", by k_extra "m_sub", by k_extra "m_sub", lkl, ltb⟩
      refine (let Gz : Prop := _; (?_ : Gz))
      (refine ex1 (hOz9) fun rest hAz69 => ?_; clear hOz9; refine and6 (hAz69) fun hN hpl hkr hnr hlk hlt => ?_; clear hAz69)
      k_unfold; clear Gz
      refine for1_list (l := pl) (vs := ys.toArray) (k := ys.length) [Str.ofString "begun", Str.ofString "kind", Str.ofString "table"] (fun j _ nw => ∃ kv tv tl, nw = (tbl, LCg.lst tv) :: (kl, LCg.lst kv) :: (tl ++ rest) ∧ DatAll [] kv ((out.take j).map fun q => Dat.str (kindB b n q)) ∧ AllR (LangAt tl) tv ((out.take j).map fun q => (q, [n])) ∧ chkGo b n (kindB b n (out.headD 0)) (out.take j) = .ok () ∧ Apart tl ((tbl, LCg.lst []) :: (kl, LCg.lst []) :: rest))
        rfl F7 hN ?_ (xi3 [] [] [] ⟨rfl, .nil, .nil, rfl, Apart.nil⟩) ?_ ?_
      · intro j _ nw hJz10
        refine (let Gz : Prop := _; (?_ : Gz))
        (refine ex3 (hJz10) fun kv tv tl hAz70 => ?_; clear hJz10; refine and2 (hAz70) fun hEz70_3 _ => ?_; clear hAz70; subst hEz70_3)
        k_unfold; clear Gz
        exact .tail _ (.tail _ (List.mem_append_right _ hpl))
      · intro j v m₁ nw h tk I it hv hJz11
        refine (let Gz : Prop := _; (?_ : Gz))
        (refine ex3 (hJz11) fun kv tv tl hAz71 => ?_; clear hJz11; refine and5 (hAz71) fun hEz71_3 hkv htv hck hap => ?_; clear hAz71; subst hEz71_3)
        k_unfold; clear Gz
        intro hS F1 N1 hI
        refine (let Gz : Prop := _; (?_ : Gz))
        (refine ex2 (ints_at hys (by simpa using hv)) fun gj tj hAz72 => ?_; refine and2 (hAz72) fun hgj hEz72_3 => ?_; clear hAz72; subst hEz72_3)
        k_unfold; clear Gz
        have hgb := hog gj (List.mem_of_getElem? hgj)
        have hI1 : @Ne Nat tbl I := hI _ (.head _)
        have hI2 : @Ne Nat kl I := hI _ (.tail _ (.head _))
        have hI3 : ∀ p ∈ tl ++ rest, p.1 ≠ I := fun p hp => hI p (.tail _ (.tail _ hp))
        have hkt : ∀ p ∈ tl ++ rest, p.1 ≠ kl := fun p hp => (List.mem_append.mp hp).elim (fun hp => Ne.symm (hap p hp _ (.tail _ (.head _)))) fun hp => Nat.ne_of_lt (hlk p hp)
        have htt : ∀ p ∈ tl ++ rest, p.1 ≠ tbl := fun p hp => (List.mem_append.mp hp).elim (fun hp => Ne.symm (hap p hp _ (.head _))) fun hp => Nat.ne_of_lt (hlt p (.tail _ hp))
        have hlkt := hlt _ (.head _)
        have hkz : kv.length ≤ 1000000 := by rw [hkv.length, List.length_map, List.length_take]; (k_extra "m_om")
        have htz : tv.length ≤ 1000000 := by rw [htv.length, List.length_map, List.length_take]; (k_extra "m_om")
        k_extra "m_steps"
        rename Fr g' L' _ _ => F2
        rename News g' L' _ _ => N2
        replace N2 := News.sub (news' := (tt, tupO [.str (kindB b n gj) tkk, tx]) :: (I, it) :: (tbl, LCg.lst tv) :: (kl, LCg.lst kv) :: (tn ++ (tl ++ rest))) N2 (by k_extra "m_sub")
        have a1 : ∀ p ∈ tn ++ (tl ++ rest), p.1 ≠ kl := fun p hp => (List.mem_append.mp hp).elim (fun hp => Ne.symm (hta p (.tail _ hp) _ (.tail _ (.tail _ (.head _))))) (hkt p)
        have a2 : ∀ p ∈ tn ++ (tl ++ rest), p.1 ≠ tbl := fun p hp => (List.mem_append.mp hp).elim (fun hp => Ne.symm (hta p (.tail _ hp) _ (.tail _ (.head _)))) (htt p)
        have a3 : ∀ p ∈ tn ++ (tl ++ rest), p.1 ≠ I := fun p hp => (List.mem_append.mp hp).elim (fun hp => Ne.symm (hta p (.tail _ hp) _ (.head _))) (hI3 p)
        have a4 : @Ne Nat tt kl := Ne.symm (hta _ (.head _) _ (.tail _ (.tail _ (.head _))))
        have a5 : @Ne Nat tt tbl := Ne.symm (hta _ (.head _) _ (.tail _ (.head _)))
        have a6 : @Ne Nat tt I := Ne.symm (hta _ (.head _) _ (.head _))
        have a7 : Apart tn ((tbl, LCg.lst []) :: (kl, LCg.lst []) :: rest) := fun q hq p hp => by
          rcases List.mem_cons.mp hp with rfl | hp
          · exact hta q (.tail _ hq) (tbl, LCg.lst tv) (.tail _ (.head _))
          · rcases List.mem_cons.mp hp with rfl | hp
            · exact hta q (.tail _ hq) (kl, LCg.lst kv) (.tail _ (.tail _ (.head _)))
            · exact hta q (.tail _ hq) p (.tail _ (.tail _ (.tail _ (List.mem_append_right _ hp))))
        have hkr' : KeptIn kp rest := ⟨hkr, hkp.2⟩
        refine newList_nil F2 N2 ?_
        intro nl h' F2 N2 lnl
        have lnlx := lnl
        k_lt lnl
        k_extra "m_steps"
        cases j with
        | zero =>
          have hk0 : kv = [] := by cases hkv; rfl
          subst hk0
          refine ne_nil_K0 (by assumption) (by k_mem) (by k_mem) (by exact room_n (by with_reducible assumption) (by decide)) ?_
          k_extra "m_steps"
          rename News g' L' _ _ => N5
          refine TurnPost.intro (by assumption) N5 ((tbl, LCg.lst (tv ++ [tx])) :: (kl, LCg.lst ([] ++ [.str (kindB b n gj) tkk])) :: ((tn ++ tl) ++ rest)) ?_ ?_ (by k_extra "m_same") (xi3 _ _ (tn ++ tl) ⟨rfl, ?_, ?_, ?_, ?_⟩)
          · rw [List.append_assoc]; k_extra "m_sub"
          · rw [List.append_assoc]; exact (fmc (hI1) ((fmc (hI2) (a3))))
          · rw [take_snoc hgj, List.map_append]
            exact DatAll.append .nil (.one (.str _ _))
          · rw [take_snoc hgj, List.map_append]
            exact AllR.append (htv.mono fun _ _ x => x.mono (by k_extra "m_sub")) (.one (htx.mono (by k_extra "m_sub")))
          · exact chkGo_next hgj hck (by rw [List.headD_eq_head?_getD, List.head?_eq_getElem?, hgj]; rfl)
          · exact Apart.app a7 hap
        | succ j => 
          have hOz13 : ∃ g0 o', out = g0 :: o' := List.exists_cons_of_ne_nil ho0
          refine (let Gz : Prop := _; (?_ : Gz))
          (refine ex2 (hOz13) fun g0 out' hEz73_2 => ?_; clear hOz13; subst hEz73_2)
          k_unfold; clear Gz
          have hkv' : DatAll [] kv (Dat.str (kindB b n g0) :: (out'.take j).map fun q => Dat.str (kindB b n q)) := hkv
          refine (let Gz : Prop := _; (?_ : Gz))
          (refine ex2 (kinds_cons hkv') fun tk0 kv' hAz74 => ?_; refine and2 (hAz74) fun hEz74_2 h2 => ?_; clear hAz74; subst hEz74_2)
          k_unfold; clear Gz
          · refine ne_nil_K1 (by assumption) (by k_mem) (by k_mem) hkv (fun _ h => nomatch h) (kinds_ok b n _) (fun e => nomatch e) (by exact room_n (by with_reducible assumption) (by decide)) ?_
            k_extra "m_steps"
            · rename (_ != _) = true => hkk
              refine raised B' (by assumption) X' (by assumption) (by k_extra "m_kept") (by assumption) rfl rfl (hE _ _ h₁ 0 _ (herr _ ?_)) _
              exact bo e1 (bo e2 (bo e3 ((if_neg hx0).trans (bo rfl (bo e4 (bo e5 (be (chkGo_stop hgj hck (bne_iff_ne.mp hkk)))))))))
            · rename (_ != _) = false => hkk
              rename News g' L' _ _ => N5
              refine TurnPost.intro (by assumption) N5 ((tbl, LCg.lst (tv ++ [tx])) :: (kl, LCg.lst ((.str (kindB b n g0) tk0 :: kv') ++ [.str (kindB b n gj) tkk])) :: ((tn ++ tl) ++ rest)) ?_ ?_ (by k_extra "m_same") (xi3 _ _ (tn ++ tl) ⟨rfl, ?_, ?_, ?_, ?_⟩)
              · rw [List.append_assoc]; k_extra "m_sub"
              · rw [List.append_assoc]; exact (fmc (hI1) ((fmc (hI2) (a3))))
              · rw [take_snoc hgj, List.map_append]
                exact DatAll.append hkv (.one (.str _ _))
              · rw [take_snoc hgj, List.map_append]
                exact AllR.append (htv.mono fun _ _ x => x.mono (by k_extra "m_sub")) (.one (htx.mono (by k_extra "m_sub")))
              · exact chkGo_next hgj hck (by simpa using hkk)
              · exact Apart.app a7 hap
      · intro m' nw h tk hJz15
        refine (let Gz : Prop := _; (?_ : Gz))
        (refine ex3 (hJz15) fun kv tv tl hAz75 => ?_; clear hJz15; refine and5 (hAz75) fun hEz75_3 hkv htv hck hap => ?_; clear hAz75; subst hEz75_3)
        k_unfold; clear Gz
        intro hS F1 N1
        have hOz16 : ∃ g0 o', out = g0 :: o' := List.exists_cons_of_ne_nil ho0
        refine (let Gz : Prop := _; (?_ : Gz))
        (refine ex2 (hOz16) fun g0 out' hEz76_2 => ?_; clear hOz16; subst hEz76_2)
        k_unfold; clear Gz
        rw [List.size_toArray, IntsAre.length hys, List.take_length] at hkv htv hck
        refine (let Gz : Prop := _; (?_ : Gz))
        (refine ex2 (kinds_cons hkv) fun tk0 kv' hAz77 => ?_; refine and2 (hAz77) fun hEz77_2 h2 => ?_; clear hAz77; subst hEz77_2)
        k_unfold; clear Gz
        k_extra "m_steps"
        rename News h₀ L _ _ => NZ
        refine hok (kindB b n g0, fl, mk, (g0 :: out').map fun q => (q, [n])) ?_ _ _ _ ([(lkx, instO 85 lkd), (lkd, dictOf [⟨kc1, .str (Str.ofString "kind") kt1, .str (kindB b n g0) tk0⟩, ⟨kc2, .str (Str.ofString "flag") kt2, .int fl tfl⟩, ⟨kc3, .str (Str.ofString "mark_set") kt3, .int mk _⟩, ⟨kc4, .str (Str.ofString "tables") kt4, .ref tbl⟩] 4), (tbl, LCg.lst tv)] ++ tl) (by assumption)
          (News.sub NZ (List.forall_mem_append.mpr ⟨List.forall_mem_append.mpr ⟨by k_extra "m_sub", by k_extra "m_sub"⟩, fun p hp => .tail _ (.tail _ (.tail _ (.tail _ (List.mem_append_right _ (hnr p hp)))))⟩))
          (xi15 lkx lkd tbl kc1 kc2 kc3 kc4 kt1 kt2 kt3 kt4 tk0 tfl _ tv ⟨rfl, .head _, .tail _ (.head _), .tail _ (.tail _ (.head _)), htv.mono fun _ _ x => x.mono fun p hp => List.mem_append_right _ hp⟩) ?_
        · exact bo e1 (bo e2 (bo e3 ((if_neg hx0).trans (bo rfl (bo e4 (bo e5 (bo hck rfl)))))))
        · refine Apart.app (Apart.cons (fun p hp => ?_) (Apart.cons (fun p hp => ?_) (Apart.cons (fun p hp => ?_) Apart.nil))) (hap.mono ?_)
          · exact Nat.ne_of_lt (hlk1 p (.tail _ (.tail _ (List.mem_append_right _ (hnr p hp)))))
          · exact Nat.ne_of_lt (hlk2 p (.tail _ (.tail _ (List.mem_append_right _ (hnr p hp)))))
          · exact Nat.ne_of_lt (hlt p (.tail _ (hnr p hp)))
          · exact fun p hp => .tail _ (.tail _ (hnr p hp))
  · rename rdU16 D g = .ok _ => e1
    rename rdU16 D (g + 2) = .ok _ => e2
    rename rdU16 D (g + 2 + 2) = .error _ => e3
    rw [f4] at e3
    refine hE _ _ _ _ _ (herr _ ?_)
    exact bo e1 (bo e2 (be e3))
  · rename rdU16 D g = .ok _ => e1
    rename rdU16 D (g + 2) = .error _ => e2
    refine hE _ _ _ _ _ (herr _ ?_)
    exact bo e1 (be e2)
  · rename rdU16 D g = .error _ => e1
    refine hE _ _ _ _ _ (herr _ ?_)
    exact be e1
end
theorem off_ZB : True := by
  k_with "off ZB" => (skip)
  exact trivial
end
section
theorem reset_ZC : True := by
  w_top off
  exact trivial

noncomputable def rdLooks (b : Array UInt8) (D : List Int) (g : Int) : Except Int (List (Str × Int × Int × List (Int × List Int))) := do
  let c ← rdU16 D g
  let gs ← rdOffs D (g + 2) g c.toNat
  mapE (rdLook b D) gs
section
variable {w : World} {dp un : Nat} {gd : Option (List Code)} {cn : Str} {cs : Scope} {a : Addr} {ccd : Value} {cl : List (Str × Addr)} {outer : List Env} {A₀ : Around} {base h₀ : Heap} {L : Addr} {m : Str → Option Value} {s : Shared} {Q E : Value → Shared → Prop} {p : Program} {loose : List Str} {mean : ExcName → Option Value} {mg mb : Str → Option Value} {news : List (Addr × Obj)} {tb : Tok} {b : Array UInt8}
variable (B : Below A₀ base outer h₀) (F : Fr h₀ L s.heap m) (X : (hd.heap_39 w.params).In h₀) (N : News h₀ L s.heap news) (T : Top p loose mean mg mb h₀) (hk : cs.kind = .function)
include B F X N T hk
theorem lines_ZC1 : True := by
  k_with "call ref" => (first | ((fail_if_success (k_extra "off ZC")); (k_here; (with_reducible show wpAny _ _ (call (Value.ref 187) _) _ _ _); k_dflt (refine' oct_new ?k1 ?k2 ?k3 ?k4 ?k5 ?kK ?kd ?ku _ _ _ _ ?_; (case k1 => k_asm); (case k2 => k_asm); (case k3 => k_asm); (case k4 => k_extra "m_news"); (case k5 => k_asm); (case kK => first | exact rfl | assumption); (case kd => first | exact room_n (by with_reducible assumption) (by decide) | ktr_room); (case ku => first | exact room_n (by with_reducible assumption) (by decide) | ktr_units);  (intro h' tk' so sd c1 c2 k1 k2 F' N' lsd lso; have lsdx := lsd; (try k_lt lsd); (try k_sweep))))) | fail)
  k_with "call ref" => (first | ((fail_if_success (k_extra "off ZC")); (k_here; (with_reducible show wpAny _ _ (call (Value.ref 146) _) _ _ _); k_dflt (refine' u16_spec ?k1 ?k2 ?k3 ?k4 ?k5 ?kK ?kd ?ku ?kp _ ?kD ?kb ?ki ?ks ?ko ?_ ?_; (case k1 => k_asm); (case k2 => k_asm); (case k3 => k_asm); (case k4 => k_extra "m_news"); (case k5 => k_asm); (case kK => first | exact rfl | assumption); (case kd => first | exact room_n (by with_reducible assumption) (by decide) | ktr_room); (case ku => first | exact room_n (by with_reducible assumption) (by decide) | ktr_units); (case kp => k_extra "m_kept"); (case kD => assumption); (case kb => assumption); (case ki => (k_extra "m_om")); (case ks => k_extra "m_in"); (case ko => k_all); (intro x hx h0x h1x h' tk' t' k' F' N'; (try k_sweep))))) | fail)
  k_with "call ref" => (first | ((fail_if_success (k_extra "off ZC")); (k_here; (with_reducible show wpAny _ _ (call (Value.ref 306) _) _ _ _); k_dflt (refine' offset_spec ?k1 ?k2 ?k3 ?k4 ?k5 ?kK ?kd ?ku ?kp _ ?kD ?kb ?ki _ _ ?ks ?ko ?_ ?_; (case k1 => k_asm); (case k2 => k_asm); (case k3 => k_asm); (case k4 => k_extra "m_news"); (case k5 => k_asm); (case kK => first | exact rfl | assumption); (case kd => first | exact room_n (by with_reducible assumption) (by decide) | ktr_room); (case ku => first | exact room_n (by with_reducible assumption) (by decide) | ktr_units); (case kp => k_extra "m_kept"); (case kD => assumption); (case kb => assumption); (case ki => (k_extra "m_om")); (case ks => k_extra "m_in"); (case ko => k_all); (intro gx hgx h' tk' tgo kgo F' N'; (try k_sweep))))) | fail)
  k_with "call ref" => (first | ((fail_if_success (k_extra "off ZC")); (k_here; (with_reducible show wpAny _ _ (call (Value.ref 351) _) _ _ _); k_dflt (refine' lookup_spec ?k1 ?k2 ?k3 ?k4 ?k5 ?kK ?kd ?ku ?kp _ ?kD ?kb _ _ ?kg ?_ ?_; (case k1 => k_asm); (case k2 => k_asm); (case k3 => k_asm); (case k4 => k_extra "m_news"); (case k5 => k_asm); (case kK => first | exact rfl | assumption); (case kd => first | exact room_n (by with_reducible assumption) (by decide) | ktr_room); (case ku => first | exact room_n (by with_reducible assumption) (by decide) | ktr_units); (case kp => k_extra "m_kept"); (case kD => assumption); (case kb => assumption); (case kg => (k_extra "m_om")); (intro lkr hlkr h' tk' lko lkn F' N' hlkx hlka; (try k_sweep))))) | fail)
  exact trivial
set_option maxHeartbeats 1000000 in
theorem lookups_spec (hd : dp + 50 < recursionLimit) (hu : un + 300 < cLine) {kp : List (Addr × Obj)} (hkp : KeptIn kp news)
    (D : List Int) (hD : KBw.bInts b = D) (hsz : D.length ≤ 4000) (g : Int) (tg : Tok) (hg : 0 ≤ g ∧ g < 60000000)
    (hok : ∀ x, rdLooks b D g = .ok x → ∀ h' tk' r vs nw, Fr h₀ L h' m → News h₀ L h' ((r, LCg.lst vs) :: nw ++ news) → AllR (LookAt nw) vs x → Apart ((r, LCg.lst vs) :: nw) news → Q (.ref r) { s with heap := h', toks := tk' })
    (herr : ∀ z, rdLooks b D g = .error z → Errs base h₀ kp (envX cn cs L a ccd cl) outer L m E s z) :
    Cl w dp un gd cn cs L a ccd cl outer 356 [.bytes b tb, .int g tg, .ref 471] Q E s := by
  k_dflt (refine' enterC [("data", .bytes b tb), ("at", .int g tg), ("read_table", .ref 471)] B F X N T hk ?k6 ?k7 ?k8 ?k9 ?kB ?kD ?c2 ?c3 ?c4 ?_; k_extra "m_sidesC")
  intro g' L' h₁ tk cells E' FG F' N' Y' B' X' T' l' hP hE
  refine (let Gz : Prop := _; (?_ : Gz))
  (refine ex4 (CellsAre.four Y') fun o1 o2 o3 o4 hAz78 => ?_; refine and5 (hAz78) fun hE1 d1 d2 d3 d4 => ?_; clear hAz78)
  k_unfold; clear Gz
  subst hE1
  try simp only [List.cons_append, List.nil_append] at N'
  have hnL1 : ∀ p ∈ news, p.1 ≠ L' + 1 := fun p hp => Nat.ne_of_lt (Nat.lt_succ_of_lt (l' p hp))
  have hnL2 : ∀ p ∈ news, p.1 ≠ L' + 2 := fun p hp => Nat.ne_of_lt (Nat.lt_succ_of_lt (Nat.lt_succ_of_lt (l' p hp)))
  have hnL3 : ∀ p ∈ news, p.1 ≠ L' + 3 := fun p hp => Nat.ne_of_lt (Nat.lt_succ_of_lt (Nat.lt_succ_of_lt (Nat.lt_succ_of_lt (l' p hp))))
  have hnL4 : ∀ p ∈ news, p.1 ≠ L' + 4 := fun p hp => Nat.ne_of_lt (Nat.lt_succ_of_lt (Nat.lt_succ_of_lt (Nat.lt_succ_of_lt (Nat.lt_succ_of_lt (l' p hp)))))
  try dsimp only
  try k_fold
  refine foldAV ?_; intro Mz Az vz gz dz oz
  k_extra "m_steps"
  · rename rdU16 D g = .ok _ => e1
    rename_i oc dq _ _ _ _ _ _ _ _ hR F9 N9 hup
    have hOz2 : ∃ c, c = x := ⟨_, rfl⟩
    refine (let Gz : Prop := _; (?_ : Gz))
    obtain ⟨cx, hcx⟩ := hOz2
    k_unfold; clear Gz
    subst hcx
    have h0c := h0x
    have h1c := h1x
    clear h0x h1x
    have hso1 : ∀ p ∈ (so, instO 187 sd) :: (L' + 1 + 1 + 1 + 1, oc) :: (L' + 1 + 1 + 1, o2) :: (L' + 1 + 1, o3) :: (L' + 1, o4) :: news, p.1 ≠ sd :=
      (fmc (by k_ne) ((fmc (by k_ne) ((fmc (by k_ne) ((fmc (by k_ne) ((fmc (by k_ne) (by k_all))))))))))
    refine at_range1 (kp := kp) (n := cx.toNat) (fun z => rdOffs D (g + 2) g cx.toNat = .error z)
      (fun j ys nw => ∃ k out, nw = (sd, octD c1 c2 k1 k2 b tb (g + 2 + 2 * (j : Int)) k) :: (so, instO 187 sd) :: (L' + 1 + 1 + 1 + 1, oc) :: (L' + 1 + 1 + 1, o2) :: (L' + 1 + 1, o3) :: (L' + 1, o4) :: news ∧ IntsAre ys out ∧ mapE (fun (j : Nat) => rdOff D (g + 2 + 2 * (j : Int)) g) ((List.range cx.toNat).take j) = .ok out)
      B' F9 N9 rfl rfl rfl hR (range_small h0c (by (k_extra "m_om"))) (range_size h0c) (by rw [sizeLine_eq]; (k_extra "m_om")) (by decide) rfl rfl ?_ hkp.2 ⟨k', [], ?_, .nil, rfl⟩ (fun z hz h => hE _ _ _ _ _ (herr z ?_)) ?_ ?_
    · intro j ys nw hJz3
      refine (let Gz : Prop := _; (?_ : Gz))
      (refine ex2 (hJz3) fun k out hAz79 => ?_; clear hJz3; refine and2 (hAz79) fun hEz79_2 _ => ?_; clear hAz79; subst hEz79_2)
      k_unfold; clear Gz
      intro q hq
      exact .tail _ (.tail _ (.tail _ (.tail _ (.tail _ (.tail _ (hkp.1 q hq))))))
    · rw [Int.natCast_zero, Int.mul_zero, Int.add_zero]
    · exact bo e1 (be hz)
    · intro j tj ys nw I oI C oC D' m₂ h tk hj hJz4
      refine (let Gz : Prop := _; (?_ : Gz))
      (refine ex2 (hJz4) fun k out hAz80 => ?_; clear hJz4; refine and3 (hAz80) fun hEz80_2 hys hmp => ?_; clear hAz80; subst hEz80_2)
      k_unfold; clear Gz
      intro hoC hm₂ F1 N1 O3 hne hkk
      have hO3 := O3.mem
      replace N1 := News.sub (news' := (sd, octD c1 c2 k1 k2 b tb (g + 2 + 2 * (j : Int)) k) :: (I, oI) :: (C, oC) :: (D', LCg.lst ys) :: (so, instO 187 sd) :: (L' + 1 + 1 + 1 + 1, oc) :: (L' + 1 + 1 + 1, o2) :: (L' + 1 + 1, o3) :: (L' + 1, o4) :: news) N1 (by k_extra "m_sub")
      have hoX : ∀ p ∈ (I, oI) :: (C, oC) :: (D', LCg.lst ys) :: (so, instO 187 sd) :: (L' + 1 + 1 + 1 + 1, oc) :: (L' + 1 + 1 + 1, o2) :: (L' + 1 + 1, o3) :: (L' + 1, o4) :: news, p.1 ≠ sd := by
        have h0 := hO3 _ (.head _)
        exact (fmc (Ne.symm h0.1) ((fmc (Ne.symm h0.2.1) ((fmc (Ne.symm h0.2.2) (hso1))))))
      k_extra "m_steps"
      · rename rdOff D _ _ = .ok _ => hgx
        rename News g' L' _ _ => N5
        have hOz5 : ∃ k, News g' L' _ ((sd, octD c1 c2 k1 k2 b tb (g + 2 + 2 * ((j + 1 : Nat) : Int)) k) :: (I, oI) :: (C, oC) :: (D', LCg.lst ys) :: (so, instO 187 sd) :: (L' + 1 + 1 + 1 + 1, oc) :: (L' + 1 + 1 + 1, o2) :: (L' + 1 + 1, o3) :: (L' + 1, o4) :: news) :=
          ⟨_, by rw [show g + 2 + 2 * ((j + 1 : Nat) : Int) = g + 2 + 2 * (j : Int) + 2 from by (k_extra "m_om")]; exact N5⟩
        refine (let Gz : Prop := _; (?_ : Gz))
        obtain ⟨k5, N5⟩ := hOz5
        k_unfold; clear Gz
        refine LCg.CompEnd.intro (by assumption) N5 ((sd, octD c1 c2 k1 k2 b tb (g + 2 + 2 * ((j + 1 : Nat) : Int)) k5) :: (so, instO 187 sd) :: (L' + 1 + 1 + 1 + 1, oc) :: (L' + 1 + 1 + 1, o2) :: (L' + 1 + 1, o3) :: (L' + 1, o4) :: news) (by k_extra "m_sub") (LCg.Off3.of ((fmc (hO3 (sd, octD c1 c2 k1 k2 b tb (g + 2 + 2 * (j : Int)) k) (.head _)) (fun p hp => hO3 p (.tail _ hp))))) trivial
          ⟨k5, out ++ [gx], rfl, IntsAre.append hys (.cons _ _ .nil), mapE_next (range_at hj) hmp hgx⟩
      · rename rdOff D _ _ = .error _ => hz
        exact errs_fly (show rdOffs D (g + 2) g cx.toNat = .error _ from mapE_stop (range_at hj) hmp hz)
    · refine fin_someU ?e1 ?e2 ?e3 ?_
      case e1 => exact rfl
      case e2 => exact rfl
      case e3 => exact rfl
      intro pl h tk ys nw F1 N1 hno hJz6
      refine (let Gz : Prop := _; (?_ : Gz))
      (refine ex2 (hJz6) fun k out hAz81 => ?_; clear hJz6; refine and3 (hAz81) fun hEz81_2 hys hmp => ?_; clear hAz81; subst hEz81_2)
      k_unfold; clear Gz
      have e4 : rdOffs D (g + 2) g cx.toNat = .ok out := by
        unfold rdOffs
        rw [← hmp, List.take_of_length_le (by rw [List.length_range]; exact Nat.le_refl _)]
      have exx : ((cx.toNat : Nat) : Int) = cx := by (k_extra "m_om")
      rw [exx] at hno N1
      have hoN : out.length = cx.toNat := by rw [mapE_len hmp, List.length_take, List.length_range]; exact Nat.min_self _
      have hog : ∀ q ∈ out, 0 ≤ q ∧ q < 70000000 := fun q hq => by
        refine (let Gz : Prop := _; (?_ : Gz))
        (refine ex1 (mapE_all e4 q hq) fun j hAz82 => ?_; refine and2 (hAz82) fun _ e => ?_; clear hAz82)
        k_unfold; clear Gz
        have := rdOff_bd hD e
        (k_extra "m_om")
      k_extra "m_steps"
      refine at_list1 (kp := kp) (its := ys.toArray) (fun z => mapE (rdLook b D) out = .error z) (fun j zs nw => ∃ tl o, nw = tl ++ ((pl, LCg.lst ys) :: (sd, octD c1 c2 k1 k2 b tb (g + 2 + 2 * cx) k) :: (so, instO 187 sd) :: (L' + 1 + 1 + 1 + 1, oc) :: (L' + 1 + 1 + 1, o2) :: (L' + 1 + 1, o3) :: (L' + 1, o4) :: news) ∧ AllR (LookAt tl) zs o ∧ mapE (rdLook b D) (out.take j) = .ok o ∧ Apart tl ((pl, LCg.lst ys) :: (sd, octD c1 c2 k1 k2 b tb (g + 2 + 2 * cx) k) :: (so, instO 187 sd) :: (L' + 1 + 1 + 1 + 1, oc) :: (L' + 1 + 1 + 1, o2) :: (L' + 1 + 1, o3) :: (L' + 1, o4) :: news))
        B' F1 N1 rfl rfl rfl ?_ ?_ (by decide) rfl rfl ?_ hkp.2 ⟨[], [], rfl, .nil, rfl, Apart.nil⟩ (fun z hz h => hE _ _ _ _ _ (herr z ?_)) ?_ ?_
      · rw [List.size_toArray, IntsAre.length hys, hoN, sizeLine_eq]; (k_extra "m_om")
      · intro j ys nw hJz8
        refine (let Gz : Prop := _; (?_ : Gz))
        (refine ex2 (hJz8) fun tl out hAz83 => ?_; clear hJz8; refine and2 (hAz83) fun hEz83_2 _ => ?_; clear hAz83; subst hEz83_2)
        k_unfold; clear Gz
        exact .inr ⟨_, List.mem_append_right _ (.head _), rfl, _, rfl⟩
      · intro j ys nw hJz9
        refine (let Gz : Prop := _; (?_ : Gz))
        (refine ex2 (hJz9) fun tl out hAz84 => ?_; clear hJz9; refine and2 (hAz84) fun hEz84_2 _ => ?_; clear hAz84; subst hEz84_2)
        k_unfold; clear Gz
        intro q hq
        exact List.mem_append_right _ (.tail _ (.tail _ (.tail _ (.tail _ (.tail _ (.tail _ (.tail _ (hkp.1 q hq))))))))
      · exact bo e1 (bo e4 (hz))
      · intro j v zs nw I oI C oC D' m₂ h tk hv hJz10
        refine (let Gz : Prop := _; (?_ : Gz))
        (refine ex2 (hJz10) fun tl o hAz85 => ?_; clear hJz10; refine and4 (hAz85) fun hEz85_2 hft hmp' hap => ?_; clear hAz85; subst hEz85_2)
        k_unfold; clear Gz
        intro hoC hx1 F2 N2 O3 hne hkk
        refine (let Gz : Prop := _; (?_ : Gz))
        (refine ex2 (ints_at hys (by simpa using hv)) fun gj tj hAz86 => ?_; refine and2 (hAz86) fun hgj hEz86_3 => ?_; clear hAz86; subst hEz86_3)
        k_unfold; clear Gz
        have hgb := hog gj (List.mem_of_getElem? hgj)
        k_extra "m_steps"
        · refine LCg.CompEnd.intro (by assumption) (by assumption) ((lkn ++ tl) ++ ((pl, LCg.lst ys) :: (sd, octD c1 c2 k1 k2 b tb (g + 2 + 2 * cx) k) :: (so, instO 187 sd) :: (L' + 1 + 1 + 1 + 1, oc) :: (L' + 1 + 1 + 1, o2) :: (L' + 1 + 1, o3) :: (L' + 1, o4) :: news)) (by k_extra "m_sub") (by rw [List.append_assoc]; exact off3_app O3 (off3_of_apart hlka)) trivial
            ⟨lkn ++ tl, o ++ [lkr], rfl, (hft.mono fun _ _ x => x.mono (by k_extra "m_sub")).append (.one (hlkx.mono (by k_extra "m_sub"))), mapE_next hgj hmp' hlkr, Apart.app (hlka.mono (by k_extra "m_sub")) hap⟩
        · rename rdLook b D _ = .error _ => hx
          exact errs_fly (show mapE (rdLook b D) out = .error _ from mapE_stop hgj hmp' hx)
      · refine fin_none ?_
        intro D' h tk zs nw F2 N2 hno' hJz12
        refine (let Gz : Prop := _; (?_ : Gz))
        (refine ex2 (hJz12) fun tl o hAz87 => ?_; clear hJz12; refine and4 (hAz87) fun hEz87_2 hft hmp' hap => ?_; clear hAz87; subst hEz87_2)
        k_unfold; clear Gz
        k_extra "m_steps"
        rw [List.size_toArray, IntsAre.length hys, List.take_length] at hmp'
        refine hok o (by exact bo e1 (bo e4 (hmp'))) _ _ _ zs tl (by assumption) (News.sub (by assumption) (by k_extra "m_sub")) hft ?_
        refine Apart.cons (fun p hp => ?_) (hap.mono (by k_extra "m_sub"))
        exact hno' p (List.mem_append_right _ (.tail _ (.tail _ (.tail _ (.tail _ (.tail _ (.tail _ (.tail _ hp))))))))
  · rename rdU16 D g = .error _ => e1
    refine hE _ _ _ _ _ (herr _ ?_)
    exact be e1
end
theorem off_ZC : True := by
  k_with "off ZC" => (skip)
  exact trivial
end
section
/-! tags that ascend -/
noncomputable def tagLt (x y : List Int) : Prop := x.map Int.toNat < y.map Int.toNat
theorem tagLt_trans {x y z : List Int} (h : tagLt x y) (k : tagLt y z) : tagLt x z := List.lt_trans h k
theorem tagLt_irrefl {x : List Int} (h : tagLt x x) : False := List.lt_irrefl _ h
noncomputable def Asc {α : Type} (rs : List (List Int × α)) : Prop := rs.Pairwise fun p q => tagLt p.1 q.1
theorem asc_snoc {acc : List (List Int × Int)} {tag : List Int} {x : Int} (h : Asc acc) (hs : stops true acc tag = false) : Asc (acc ++ [(tag, x)]) := by
  refine List.pairwise_append.mpr ⟨h, List.pairwise_singleton _ _, fun p hp q hq => ?_⟩
  rw [List.mem_singleton.mp hq]
  rcases List.eq_nil_or_concat acc with rfl | ⟨acc', pr, rfl⟩
  · cases hp
  · rw [List.concat_eq_append] at hp hs h
    rw [stops_last] at hs
    have hl : tagLt pr.1 tag := by
      unfold tagLe at hs
      by_cases hc : pr.1.map Int.toNat < tag.map Int.toNat
      · exact hc
      · rw [decide_eq_false hc] at hs; cases hs
    rcases List.mem_append.mp hp with hp | hp
    · exact tagLt_trans ((List.pairwise_append.mp h).2.2 p hp pr (.head _)) hl
    · rw [List.mem_singleton.mp hp]; exact hl
theorem recsGo_asc {D : List Int} {g : Int} : ∀ {n : Nat} {i : Int} {acc rs : List (List Int × Int)}, recsGo D g true n i acc = .ok rs → Asc acc → Asc rs
  | 0, _, _, _, h, ha => by cases h; exact ha
  | n + 1, i, acc, rs, h, ha => by
    rw [recsGo] at h
    cases ht : rdTag D i with
    | error z => rw [ht] at h; cases h
    | ok tag =>
      rw [ht] at h
      dsimp only at h
      split at h
      · cases h
      · rename_i hs
        cases ho : rdOff D (i + 4) g with
        | error z => rw [ho] at h; cases h
        | ok x =>
          rw [ho] at h
          exact recsGo_asc h (asc_snoc ha (by simpa using hs))
theorem recs_asc {D : List Int} {g lead : Int} {rs : List (List Int × Int)} (h : rdRecs D g lead true = .ok rs) : Asc rs := by
  unfold rdRecs at h
  cases hx : rdU16 D (g + lead) with
  | error z => rw [hx] at h; cases h
  | ok n => rw [hx] at h; exact recsGo_asc h List.Pairwise.nil
theorem tagStr_inj {x y : List Int} (h : tagStr x = tagStr y) : x.map Int.toNat = y.map Int.toNat := by
  unfold tagStr at h
  injection h with h
  have := congrArg Array.toList h
  simpa using this
theorem tagLt_ne {x y : List Int} (h : tagLt x y) : tagStr x ≠ tagStr y := fun e => by
  unfold tagLt at h
  rw [tagStr_inj e] at h
  exact List.lt_irrefl _ h
theorem asc_fresh {α : Type} {rs : List (List Int × α)} (h : Asc rs) {j : Nat} {q : List Int × α} (hq : rs[j]? = some q) : tagStr q.1 ∉ (rs.take j).map fun p => tagStr p.1 := by
  intro hm
  refine (let Gz : Prop := _; (?_ : Gz))
  (refine ex1 (List.mem_map.mp hm) fun p hAz88 => ?_; refine and2 (hAz88) fun hp e => ?_; clear hAz88)
  k_unfold; clear Gz
  have hsplit := take_split hq
  unfold Asc at h
  rw [hsplit] at h
  exact tagLt_ne ((List.pairwise_append.mp h).2.2 p hp q (.head _)) e
/-! a dict of tags -/
noncomputable def KvsAt {α : Type} (R : Value → List Int × α → Prop) (kvs : List (Str × Value)) (ls : List (List Int × α)) : Prop := kvs.map (·.1) = ls.map (fun p => tagStr p.1) ∧ AllR R (kvs.map (·.2)) ls
theorem KvsAt.nil {α : Type} {R : Value → List Int × α → Prop} : KvsAt R [] [] := ⟨rfl, .nil⟩
theorem KvsAt.mono {α : Type} {R S : Value → List Int × α → Prop} {kvs : List (Str × Value)} {ls : List (List Int × α)} (h : KvsAt R kvs ls) (hs : ∀ a b, R a b → S a b) : KvsAt S kvs ls := ⟨h.1, h.2.mono hs⟩
theorem KvsAt.snoc {α : Type} {R : Value → List Int × α → Prop} {kvs : List (Str × Value)} {ls : List (List Int × α)} {v : Value} {p : List Int × α} (h : KvsAt R kvs ls) (hv : R v p) (hf : tagStr p.1 ∉ ls.map fun p => tagStr p.1) : KvsAt R (stored kvs (tagStr p.1) v) (ls ++ [p]) := by
  rw [stored_absent (valueAt_none_of_not_mem (by rw [h.1]; exact hf))]
  exact ⟨by rw [List.map_append, List.map_append, h.1]; rfl, by rw [List.map_append]; exact h.2.append (.one hv)⟩
theorem KvsAt.length {α : Type} {R : Value → List Int × α → Prop} {kvs : List (Str × Value)} {ls : List (List Int × α)} (h : KvsAt R kvs ls) : kvs.length = ls.length := by
  have := congrArg List.length h.1
  simpa using this
noncomputable def keyed {α : Type} (f : Int → Except Int α) (p : List Int × Int) : Except Int (List Int × α) := do let x ← f p.2; pure (p.1, x)
theorem keyed_ok {α : Type} {f : Int → Except Int α} {p : List Int × Int} {x : α} (h : f p.2 = .ok x) : keyed f p = .ok (p.1, x) := by unfold keyed; rw [h]; rfl
theorem keyed_err {α : Type} {f : Int → Except Int α} {p : List Int × Int} {z : Int} (h : f p.2 = .error z) : keyed f p = .error z := by unfold keyed; rw [h]; rfl
theorem keyed_inv {α : Type} {f : Int → Except Int α} {p : List Int × Int} {y : List Int × α} (h : keyed f p = .ok y) : y.1 = p.1 ∧ f p.2 = .ok y.2 := by
  unfold keyed at h
  cases hx : f p.2 with
  | error z => rw [hx] at h; cases h
  | ok x => rw [hx] at h; cases h; exact ⟨rfl, rfl⟩
theorem mapE_keys {α : Type} {f : Int → Except Int α} : ∀ {l : List (List Int × Int)} {out : List (List Int × α)}, mapE (keyed f) l = .ok out → out.map (·.1) = l.map (·.1)
  | [], _, h => by cases h; rfl
  | a :: l, out, h => by
    rw [mapE] at h
    cases ha : keyed f a with
    | error z => rw [ha, ebe] at h; cases h
    | ok d =>
      rw [ha, ebo] at h
      cases hl : mapE (keyed f) l with
      | error z => rw [hl, ebe] at h; cases h
      | ok ds =>
        rw [hl, ebo] at h
        cases h
        rw [List.map_cons, List.map_cons, mapE_keys hl, (keyed_inv ha).1]
theorem keys_fresh {α : Type} {f : Int → Except Int α} {rs : List (List Int × Int)} {out : List (List Int × α)} {j : Nat} {q : List Int × Int} (ha : Asc rs) (hq : rs[j]? = some q) (hm : mapE (keyed f) (rs.take j) = .ok out) : tagStr q.1 ∉ out.map fun p => tagStr p.1 := by
  have := asc_fresh ha hq
  rw [show (out.map fun p => tagStr p.1) = (out.map (·.1)).map tagStr by rw [List.map_map]; rfl, mapE_keys hm, List.map_map]
  exact this
theorem asc_keyed {α : Type} {f : Int → Except Int α} {rs : List (List Int × Int)} {out : List (List Int × α)} (ha : Asc rs) (hm : mapE (keyed f) rs = .ok out) : Asc out := by
  have h1 : (rs.map (·.1)).Pairwise tagLt := List.pairwise_map.mpr ha
  rw [← mapE_keys hm] at h1
  exact List.pairwise_map.mp h1
end
section
theorem reset_ZD : True := by
  w_top off
  exact trivial

noncomputable def rdDef (D : List Int) (g off : Int) : Except Int (Option (Int × List Int)) := if off = 0 then .ok none else match rdLang D (g + off) with
  | .ok x => .ok (some x)
  | .error z => .error z
noncomputable abbrev ScrV : Type := Option (Int × List Int) × List (List Int × (Int × List Int))
noncomputable def rdScript (D : List Int) (g : Int) : Except Int ScrV := do
  let off ← rdU16 D g
  let df ← rdDef D g off
  let rs ← rdRecs D g 2 true
  let ls ← mapE (keyed (rdLang D)) rs
  pure (df, ls)
noncomputable def DefAt (tl : List (Addr × Obj)) (v : Value) : Option (Int × List Int) → Prop
  | none => v = .none
  | some x => LangAt tl v x
theorem DefAt.mono {tl tl' : List (Addr × Obj)} {v : Value} {x : Option (Int × List Int)} (h : DefAt tl v x) (hs : ∀ p ∈ tl, p ∈ tl') : DefAt tl' v x := by
  cases x with
  | none => exact h
  | some x => exact LangAt.mono h hs
noncomputable def ScrAt (w : World) (tl : List (Addr × Obj)) (v : Value) (p : List Int × ScrV) : Prop :=
  ∃ x dx d o kvs c1 c2 c3 k1 k2 k3 t1 vd, v = .ref x ∧ (x, instO 241 dx) ∈ tl ∧ (dx, dictOf [⟨c1, .str (Str.ofString "tag") k1, .str (tagStr p.1) t1⟩, ⟨c2, .str (Str.ofString "default") k2, vd⟩, ⟨c3, .str (Str.ofString "languages") k3, .ref d⟩] 3) ∈ tl ∧
    (d, o) ∈ tl ∧ (d == sysModules) = false ∧ o.IsDictOf (strKind PySem.Challenge.rw_nu0165_01.row.prog w) kvs ∧ DefAt tl vd p.2.1 ∧ KvsAt (fun v q => LangAt tl v q.2) kvs p.2.2
theorem ScrAt.mono {w : World} {tl tl' : List (Addr × Obj)} {v : Value} {p : List Int × ScrV} (h : ScrAt w tl v p) (hs : ∀ p ∈ tl, p ∈ tl') : ScrAt w tl' v p := by
  refine (let Gz : Prop := _; (?_ : Gz))
  (refine ex9 (h) fun x dx d o kvs c1 c2 c3 k1 hAz89 => ?_; clear h; ((refine ex4 (hAz89) fun k2 k3 t1 vd hAz90 => ?_; clear hAz89; refine and8 (hAz90) fun h1 h2 h3 h4 h5 h6 h7 h8 => ?_; clear hAz90)))
  k_unfold; clear Gz
  exact (xi13 x dx d o kvs c1 c2 c3 k1 k2 k3 t1 vd ⟨h1, hs _ h2, hs _ h3, hs _ h4, h5, h6, h7.mono hs, h8.mono fun _ _ x => LangAt.mono x hs⟩)
noncomputable def DefP (g : Heap) (L : Addr) (m₁ : Str → Option Value) (news : List (Addr × Obj)) (D : List Int) (z x : Int) (s : Shared) (v : Value) (s' : Shared) : Prop :=
  ∃ h' tk' pre df, s' = { s with heap := h', toks := tk' } ∧ Fr g L h' m₁ ∧ News g L h' (pre ++ news) ∧ DefAt pre v df ∧ Apart pre news ∧ rdDef D z x = .ok df
theorem join_def {prog : Program} {w : World} {A : Around} {E : Value → Shared → Prop} {s : Shared} {g : Heap} {L : Addr} {m₁ : Str → Option Value} {news : List (Addr × Obj)} {Q : Value → Shared → Prop} {t : Sem Value} {D : List Int} {z x : Int} (F : Fr g L s.heap m₁) (h1 : wpAny (model prog w) A t (Join (DefP g L m₁ news D z x s)) E s) (h2 : ∀ v h' tk' pre df, Fr g L h' m₁ → News g L h' (pre ++ news) → DefAt pre v df → Apart pre news → rdDef D z x = .ok df → Q v { s with heap := h', toks := tk' }) : wpAny (model prog w) A t Q E s :=
  wpAny_mono h1 (fun v s' h => by
    refine (let Gz : Prop := _; (?_ : Gz))
    first | (refine ex9 (h) fun h' tk' pre df hEz92_4 F' N' hd ha e => ?_; clear h; subst hEz92_4) | (refine ex8 (h) fun h' tk' pre df hEz92_4 F' N' hd hAz92 => ?_; clear h; refine and2 (hAz92) fun ha e => ?_; clear hAz92; subst hEz92_4) | (refine ex7 (h) fun h' tk' pre df hEz92_4 F' N' hAz92 => ?_; clear h; refine and3 (hAz92) fun hd ha e => ?_; clear hAz92; subst hEz92_4) | (refine ex6 (h) fun h' tk' pre df hEz92_4 F' hAz92 => ?_; clear h; refine and4 (hAz92) fun N' hd ha e => ?_; clear hAz92; subst hEz92_4) | (refine ex5 (h) fun h' tk' pre df hEz92_4 hAz92 => ?_; clear h; refine and5 (hAz92) fun F' N' hd ha e => ?_; clear hAz92; subst hEz92_4) | (refine ex4 (h) fun h' tk' pre df hAz92 => ?_; clear h; refine and6 (hAz92) fun hEz92_4 F' N' hd ha e => ?_; clear hAz92; subst hEz92_4) | (refine ex3 (h) fun h' tk' pre hAz92 => ?_; clear h; refine and7 (hAz92) fun df hEz92_4 F' N' hd ha e => ?_; clear hAz92; subst hEz92_4) | (refine ex2 (h) fun h' tk' hAz92 => ?_; clear h; refine and8 (hAz92) fun pre df hEz92_4 F' N' hd ha e => ?_; clear hAz92; subst hEz92_4) | (refine ex1 (h) fun h' hAz92 => ?_; clear h; refine and9 (hAz92) fun tk' pre df hEz92_4 F' N' hd ha e => ?_; clear hAz92; subst hEz92_4) | (refine and10 (h) fun h' tk' pre df hEz92_4 F' N' hd ha e => ?_; clear h; subst hEz92_4) | obtain ⟨h', tk', pre, df, rfl, F', N', hd, ha, e⟩ := h
    k_unfold; clear Gz
    exact h2 v h' tk' pre df F' N' hd ha e) fun _ _ e => e
theorem DefP.mk {s : Shared} {g : Heap} {L : Addr} {m₁ : Str → Option Value} {news : List (Addr × Obj)} {v : Value} {D : List Int} {z x : Int} {h' : Heap} {tk' : Nat} (pre : List (Addr × Obj)) {df : Option (Int × List Int)} (F : Fr g L h' m₁) (N : News g L h' (pre ++ news)) (hd : DefAt pre v df) (ha : Apart pre news) (e : rdDef D z x = .ok df) : DefP g L m₁ news D z x s v { s with heap := h', toks := tk' } := xi4 h' tk' pre df ⟨rfl, F, N, hd, ha, e⟩
theorem def_no {D : List Int} {g x : Int} {y : Int × List Int} (h : x ≠ 0) (k : rdLang D (g + x) = .ok y) : rdDef D g x = .ok (some y) := by unfold rdDef; rw [if_neg h, k]
theorem def_err {D : List Int} {g x z : Int} (h : x ≠ 0) (k : rdLang D (g + x) = .error z) : rdDef D g x = .error z := by unfold rdDef; rw [if_neg h, k]
theorem def_yes {D : List Int} {g x : Int} (h : x = 0) : rdDef D g x = .ok none := if_pos h
section
variable {w : World} {dp un : Nat} {gd : Option (List Code)} {cn : Str} {cs : Scope} {a : Addr} {ccd : Value} {cl : List (Str × Addr)} {outer : List Env} {A₀ : Around} {base h₀ : Heap} {L : Addr} {m : Str → Option Value} {s : Shared} {Q E : Value → Shared → Prop} {p : Program} {loose : List Str} {mean : ExcName → Option Value} {mg mb : Str → Option Value} {news : List (Addr × Obj)} {tb : Tok} {b : Array UInt8}
variable (B : Below A₀ base outer h₀) (F : Fr h₀ L s.heap m) (X : (hd.heap_39 w.params).In h₀) (N : News h₀ L s.heap news) (T : Top p loose mean mg mb h₀) (hk : cs.kind = .function)
include B F X N T hk
set_option maxHeartbeats 1000000 in
theorem script_new (hd : dp + 5 < recursionLimit) (hu : un + 100 < cLine) (k : Str) (t1 : Tok) (vd : Value) (d : Addr)
    (hret : ∀ h' tk' x dx c1 c2 c3 k1 k2 k3, Fr h₀ L h' m → News h₀ L h' ((x, instO 241 dx) :: (dx, dictOf [⟨c1, .str (Str.ofString "tag") k1, .str k t1⟩, ⟨c2, .str (Str.ofString "default") k2, vd⟩, ⟨c3, .str (Str.ofString "languages") k3, .ref d⟩] 3) :: news) →
       (∀ p ∈ news, p.1 < x) → (∀ p ∈ news, p.1 < dx) → Q (.ref x) { s with heap := h', toks := tk' }) :
    Cl w dp un gd cn cs L a ccd cl outer 241 [.str k t1, vd, .ref d] Q E s := by
  k_dflt (refine' call_cls F X N ?k4 ?k5 ?k6 ?_; (case k4 => k_is); (case k5 => k_is); (case k6 => k_is))
  intro so sd h' F1 N1 l1 l2
  (try k_lt2 l2)
  k_dflt (refine' code_def (env := envX cn cs L a ccd cl) (outer := outer) B F1 X N1 T ?kA ?kF hk ?k6 ?k7 ?k8 ?k9 ?kB ?_ ?c2 ?c3 ?c4 ?c5; (case kA => exact rfl); (case kF => exact rfl); (case k6 => k_is); (case k7 => k_is); (case k8 => first | exact room_n (by with_reducible assumption) (by decide) | exact room_k (by with_reducible assumption) (by decide) | exact room_z (by with_reducible assumption) | ktr_room); (case k9 => exact BindsTo.of_eq rfl); (case kB => exact locs rfl); (case c5 => decide); (case c2 => exact rfl); (case c3 => exact rfl); (case c4 => exact rfl); k_whole; intro g' L' h' FG' F' N' B' X' T'; (try dsimp only); (try k_fold))
  k_extra "m_steps"
  have l3 : ∀ p ∈ news, p.1 < so := fun p hp => Nat.lt_trans (l1 p hp) l2
  exact hret _ _ so sd _ _ _ _ _ _ (by assumption) (News.sub (by assumption) (by k_extra "m_sub")) l3 l1
theorem lines_ZD1 : True := by
  k_with "call ref" => (first | ((fail_if_success (k_extra "off ZD")); (k_here; (with_reducible show wpAny _ _ (call (Value.ref 187) _) _ _ _); k_dflt (refine' oct_new ?k1 ?k2 ?k3 ?k4 ?k5 ?kK ?kd ?ku _ _ _ _ ?_; (case k1 => k_asm); (case k2 => k_asm); (case k3 => k_asm); (case k4 => k_extra "m_news"); (case k5 => k_asm); (case kK => first | exact rfl | assumption); (case kd => first | exact room_n (by with_reducible assumption) (by decide) | ktr_room); (case ku => first | exact room_n (by with_reducible assumption) (by decide) | ktr_units);  (intro h' tk' so sd c1 c2 k1 k2 F' N' lsd lso; have lsdx := lsd; (try k_lt lsd); (try k_sweep))))) | fail)
  k_with "call ref" => (first | ((fail_if_success (k_extra "off ZD")); (k_here; (with_reducible show wpAny _ _ (call (Value.ref 146) _) _ _ _); k_dflt (refine' u16_spec ?k1 ?k2 ?k3 ?k4 ?k5 ?kK ?kd ?ku ?kp _ ?kD ?kb ?ki ?ks ?ko ?_ ?_; (case k1 => k_asm); (case k2 => k_asm); (case k3 => k_asm); (case k4 => k_extra "m_news"); (case k5 => k_asm); (case kK => first | exact rfl | assumption); (case kd => first | exact room_n (by with_reducible assumption) (by decide) | ktr_room); (case ku => first | exact room_n (by with_reducible assumption) (by decide) | ktr_units); (case kp => k_extra "m_kept"); (case kD => assumption); (case kb => assumption); (case ki => (k_extra "m_om")); (case ks => k_extra "m_in"); (case ko => k_all); (intro x hx h0x h1x h' tk' t' k' F' N'; (try k_sweep))))) | fail)
  k_with "call ref" => (first | ((fail_if_success (k_extra "off ZD")); (k_here; (with_reducible show wpAny _ _ (call (Value.ref 313) _) _ _ _); k_dflt (refine' records_spec ?k1 ?k2 ?k3 ?k4 ?k5 ?kK ?kd ?ku ?kp _ ?kD ?kb _ _ ?kg _ _ ?kl _ ?_ ?_; (case k1 => k_asm); (case k2 => k_asm); (case k3 => k_asm); (case k4 => k_extra "m_news"); (case k5 => k_asm); (case kK => first | exact rfl | assumption); (case kd => first | exact room_n (by with_reducible assumption) (by decide) | ktr_room); (case ku => first | exact room_n (by with_reducible assumption) (by decide) | ktr_units); (case kp => k_extra "m_kept"); (case kD => assumption); (case kb => assumption); (case kg => (k_extra "m_om")); (case kl => decide); (intro rc hrc h' tk' rl rv rn F' N' hrd hra; (try k_sweep))))) | fail)
  k_with "call ref" => (first | ((fail_if_success (k_extra "off ZD")); (k_here; (with_reducible show wpAny _ _ (call (Value.ref 320) _) _ _ _); k_dflt (refine' langsys_spec ?k1 ?k2 ?k3 ?k4 ?k5 ?kK ?kd ?ku ?kp _ ?kD ?kb _ _ ?kg ?_ ?_; (case k1 => k_asm); (case k2 => k_asm); (case k3 => k_asm); (case k4 => k_extra "m_news"); (case k5 => k_asm); (case kK => first | exact rfl | assumption); (case kd => first | exact room_n (by with_reducible assumption) (by decide) | ktr_room); (case ku => first | exact room_n (by with_reducible assumption) (by decide) | ktr_units); (case kp => k_extra "m_kept"); (case kD => assumption); (case kb => assumption); (case kg => (k_extra "m_om")); (intro lr hlr h' tk' lx ln F' N' hlx hla; (try k_sweep))))) | fail)
  k_with "call ref" => (first | ((fail_if_success (k_extra "off ZD")); (k_here; (with_reducible show wpAny _ _ (call (Value.ref 241) _) _ _ _); k_dflt (refine' script_new ?k1 ?k2 ?k3 ?k4 ?k5 ?kK ?kd ?ku _ _ _ _ ?_; (case k1 => k_asm); (case k2 => k_asm); (case k3 => k_asm); (case k4 => k_extra "m_news"); (case k5 => k_asm); (case kK => first | exact rfl | assumption); (case kd => first | exact room_n (by with_reducible assumption) (by decide) | ktr_room); (case ku => first | exact room_n (by with_reducible assumption) (by decide) | ktr_units);  (intro h' tk' scx scd sc1 sc2 sc3 su1 su2 su3 F' N' hsc1 hsc2; have hsc3 := hsc1; have hsc4 := hsc2; (try k_lt hsc3); (try k_lt hsc4); (try k_sweep))))) | fail)
  k_with "eval Dict nil nil" => (first | ((fail_if_success (k_extra "off ZD")); k_extra "m_stop") | fail)
  k_with "setItem ref str" => (first | ((fail_if_success (k_extra "off ZD")); k_extra "m_stop") | fail)
  k_with "eval IfExp" => (first | ((fail_if_success (k_extra "off ZD")); (k_here; (fail_if_success (with_reducible show wpAny _ _ _ (Join _) _ _)); refine of_stop ?_)) | fail)
  exact trivial
set_option maxHeartbeats 1000000 in
theorem script_spec (hd : dp + 40 < recursionLimit) (hu : un + 250 < cLine) {kp : List (Addr × Obj)} (hkp : KeptIn kp news)
    (D : List Int) (hD : KBw.bInts b = D) (hsz : D.length ≤ 4000) (g : Int) (tg : Tok) (hg : 0 ≤ g ∧ g < 70000000) (q : List Int) (tq : Tok)
    (hok : ∀ x, rdScript D g = .ok x → ∀ h' tk' r nw, Fr h₀ L h' m → News h₀ L h' (nw ++ news) → ScrAt w nw r (q, x) → Apart nw news → Q r { s with heap := h', toks := tk' })
    (herr : ∀ z, rdScript D g = .error z → Errs base h₀ kp (envX cn cs L a ccd cl) outer L m E s z) :
    Cl w dp un gd cn cs L a ccd cl outer 327 [.bytes b tb, .int g tg, .str (tagStr q) tq] Q E s := by
  k_dflt (refine' enter [("data", .bytes b tb), ("at", .int g tg), ("tag", .str (tagStr q) tq)] B F X N T hk ?k6 ?k7 ?k8 ?k9 ?kB ?c2 ?c3 ?c4 ?c5 ?_; k_extra "m_sides")
  intro g' L' h₁ E' FG F' N' B' X' T' hP hE
  try dsimp only
  try k_fold
  refine foldAV ?_; intro Mz Az vz gz dz oz
  k_extra "m_steps"
  · rename rdU16 D g = .ok _ => e1
    rename Fr g' L' _ _ => F5
    refine join_def (D := D) (z := g) (x := x) (news := news) F5 ?_ ?_
    · k_extra "m_steps"
      · rename rdLang D _ = .ok _ => e2'
        rename News g' L' _ _ => N6
        refine DefP.mk (ln ++ [(sd, octD c1 c2 k1 k2 b tb (g + 2) k'), (so, instO 187 sd)]) (df := some lr) (by assumption) (News.sub N6 (by k_extra "m_sub")) (LangAt.mono hlx (by k_extra "m_sub")) ?_ (def_no (by (k_extra "m_om")) e2')
        exact Apart.app (hla.mono (by k_extra "m_sub")) (Apart.cons (fun p hp => Nat.ne_of_lt (lsdx p hp)) (Apart.cons (fun p hp => Nat.ne_of_lt (Nat.lt_trans (lsdx p hp) lso)) Apart.nil))
      · rename rdLang D _ = .error _ => e2
        refine hE _ _ _ _ _ (herr _ ?_)
        exact bo e1 (be (def_err (by (k_extra "m_om")) e2))
      · rename News g' L' _ _ => N6
        have hx0 : x = 0 := by (k_extra "m_om")
        refine DefP.mk [(sd, octD c1 c2 k1 k2 b tb (g + 2) k'), (so, instO 187 sd)] (df := none) (by assumption) (News.sub N6 (by k_extra "m_sub")) rfl ?_ (def_yes hx0)
        exact Apart.cons (fun p hp => Nat.ne_of_lt (lsdx p hp)) (Apart.cons (fun p hp => Nat.ne_of_lt (Nat.lt_trans (lsdx p hp) lso)) Apart.nil)
    intro vd h' tk' pre df F6 N6 hdf hpa e2
    clear F5
    k_extra "m_steps"
    rename Fr g' L' _ _ => F5
    rename News g' L' _ _ => N5
    refine newDict_K F5 N5 (TopRead.nolimit (by k_asm)) ?_
    intro dl h' od F5 N5 ldl lod hsd _ _ _
    k_extra "m_steps"
    · rename Fr g' L' _ _ => F9
      rename News g' L' _ _ => N9
      have hra0 : ∀ p ∈ (rl, LCg.lst rv) :: rn, p.1 ≠ dl := fun p hp => Ne.symm (hra p hp (dl, od) (.head _))
      have hrd0 : ∀ p ∈ (rl, LCg.lst rv) :: (rn ++ (pre ++ news)), p.1 ≠ dl := (fmc (hra0 _ (.head _)) (List.forall_mem_append.mpr ⟨fun p hp => hra0 p (.tail _ hp), fun p hp => Nat.ne_of_lt (ldl p hp)⟩))
      have hrcl := recs_len hD hrc
      have hasc := recs_asc hrc
      have hbd := recs_bd hD hrc
      replace N9 := News.sub (news' := (dl, od) :: ([] ++ ((rl, LCg.lst rv) :: (rn ++ (pre ++ news))))) N9 (by k_extra "m_sub")
      refine for2_list (l := rl) (vs := rv.toArray) (k := rv.length) [Str.ofString "language", Str.ofString "begun"] (fun j _ nw => ∃ o kvs tl out, nw = (dl, o) :: (tl ++ ((rl, LCg.lst rv) :: (rn ++ (pre ++ news)))) ∧ o.IsDictOf (strKind PySem.Challenge.rw_nu0165_01.row.prog w) kvs ∧ KvsAt (fun v q => LangAt tl v q.2) kvs out ∧ mapE (keyed (rdLang D)) (rc.take j) = .ok out ∧ Apart tl ((dl, od) :: ((rl, LCg.lst rv) :: (rn ++ (pre ++ news)))))
        rfl F9 N9 rfl rfl rfl hP ?_ (xi4 od [] [] [] ⟨rfl, hsd, KvsAt.nil, rfl, Apart.nil⟩) ?_ ?_ ?_
      · intro j _ nw hJz3
        refine (let Gz : Prop := _; (?_ : Gz))
        (refine ex4 (hJz3) fun o kvs tl out hAz93 => ?_; clear hJz3; refine and2 (hAz93) fun hEz93_4 _ => ?_; clear hAz93; subst hEz93_4)
        k_unfold; clear Gz
        exact .tail _ (List.mem_append_right _ (.head _))
      · intro j v _ nw hv hJz4
        refine (let Gz : Prop := _; (?_ : Gz))
        (refine ex4 (hJz4) fun o kvs tl out hAz94 => ?_; clear hJz4; refine and2 (hAz94) fun hEz94_4 _ => ?_; clear hAz94; subst hEz94_4)
        k_unfold; clear Gz
        refine (let Gz : Prop := _; (?_ : Gz))
        (refine ex5 (recs_at hrd (by simpa using hv)) fun q t n t1 t2 hAz95 => ?_; refine and3 (hAz95) fun _ hEz95_6 hm => ?_; clear hAz95; subst hEz95_6)
        k_unfold; clear Gz
        exact (xi5 t _ _ _ n ⟨rfl, .tail _ (List.mem_append_right _ (.tail _ (List.mem_append_left _ hm))), rfl, rfl⟩)
      · intro j v m₁ nw h tk I it hv hJz6
        refine (let Gz : Prop := _; (?_ : Gz))
        (refine ex4 (hJz6) fun o kvs tl out hAz96 => ?_; clear hJz6; refine and5 (hAz96) fun hEz96_4 hod hkv hmp hap => ?_; clear hAz96; subst hEz96_4)
        k_unfold; clear Gz
        intro t ot v₁ v₂ nt
        rintro rfl
        intro hmt hct hdt hS F1 N1 hI
        refine (let Gz : Prop := _; (?_ : Gz))
        (refine ex5 (recs_at hrd (by simpa using hv)) fun q' t' n t1 t2 hAz97 => ?_; refine and3 (hAz97) fun hq e hm => ?_; clear hAz97)
        k_unfold; clear Gz
        refine (let Gz : Prop := _; (?_ : Gz))
        obtain ⟨rfl, rfl⟩ := rec_item N1 (.tail _ hmt) (.tail _ (.tail _ (List.mem_append_right _ (.tail _ (List.mem_append_left _ hm))))) e hdt
        k_unfold; clear Gz
        have hqb := hbd q' (List.mem_of_getElem? hq)
        k_extra "m_steps"
        · rename rdLang D _ = .ok _ => hlr
          rename Fr g' L' _ _ => F2
          rename News g' L' _ _ => N2
          replace N2 := News.sub (news' := (dl, o) :: (I, it) :: (ln ++ (tl ++ ((rl, LCg.lst rv) :: (rn ++ (pre ++ news)))))) N2 (by k_extra "m_sub")
          have hX : ∀ p ∈ (I, it) :: (ln ++ (tl ++ ((rl, LCg.lst rv) :: (rn ++ (pre ++ news))))), p.1 ≠ dl :=
            (fmc (Ne.symm (hI _ (.head _))) (List.forall_mem_append.mpr ⟨fun p hp => Ne.symm (hla p hp (dl, o) (.tail _ (.head _))), List.forall_mem_append.mpr ⟨fun p hp => Ne.symm (hap p hp (dl, od) (.head _)), hrd0⟩⟩))
          refine kda_set F2 N2 (UpdF.head hX) hod (strKind_is _ _ _ _) (by rw [hkv.length, mapE_len hmp, List.length_take, sizeLine_eq]; (k_extra "m_om")) ?_
          intro h' o' F2 N2 hod'
          have hfr := keys_fresh hasc hq hmp
          k_extra "m_steps"
          have ha2 : Apart ln ((dl, od) :: ((rl, LCg.lst rv) :: (rn ++ (pre ++ news)))) := fun x hx p hp => by
            rcases List.mem_cons.mp hp with rfl | hp
            · exact hla x hx (dl, o) (.tail _ (.head _))
            · exact hla x hx p (.tail _ (.tail _ (List.mem_append_right _ hp)))
          refine TurnPost.intro (by assumption) N2 ((dl, o') :: ((ln ++ tl) ++ ((rl, LCg.lst rv) :: (rn ++ (pre ++ news))))) (by rw [List.append_assoc]; k_extra "m_sub") ?_ (by k_extra "m_same")
            (xi4 o' _ (ln ++ tl) (out ++ [(q'.1, lr)]) ⟨rfl, hod', KvsAt.snoc (R := fun v q => LangAt (ln ++ tl) v q.2) (p := (q'.1, lr)) (hkv.mono fun _ _ x => LangAt.mono x fun p hp => List.mem_append_right _ hp) (LangAt.mono hlx fun p hp => List.mem_append_left _ hp) hfr, mapE_next hq hmp (keyed_ok hlr), Apart.app ha2 hap⟩)
          rw [List.append_assoc]
          exact (fmc (hI (dl, o) (.head _)) (List.forall_mem_append.mpr ⟨fun p hp => Ne.symm (hla p hp (I, it) (.head _)), fun p hp => hI p (.tail _ hp)⟩))
        · refine hE _ _ _ _ _ (herr _ ?_)
          exact bo e1 (bo e2 (bo hrc (be (mapE_stop hq hmp (keyed_err (by assumption))))))
      · intro m' nw h tk hJz9
        refine (let Gz : Prop := _; (?_ : Gz))
        (refine ex4 (hJz9) fun o kvs tl out hAz98 => ?_; clear hJz9; refine and5 (hAz98) fun hEz98_4 hod hkv hmp hap => ?_; clear hAz98; subst hEz98_4)
        k_unfold; clear Gz
        intro hS F1 N1
        rw [List.size_toArray, show rv.length = rc.length by rw [hrd.length, List.length_map], List.take_length] at hmp
        k_extra "m_steps"
        rename News h₀ L _ _ => NZ
        refine hok (df, out) ?_ _ _ _ ([(scx, instO 241 scd), (scd, dictOf [⟨sc1, .str (Str.ofString "tag") su1, .str (tagStr q) tq⟩, ⟨sc2, .str (Str.ofString "default") su2, vd⟩, ⟨sc3, .str (Str.ofString "languages") su3, .ref dl⟩] 3), (dl, o)] ++ (tl ++ pre)) (by assumption)
          (News.sub NZ (List.forall_mem_append.mpr ⟨List.forall_mem_append.mpr ⟨by k_extra "m_sub", List.forall_mem_append.mpr ⟨fun p hp => .tail _ (.tail _ (.tail _ (List.mem_append_left _ hp))), fun p hp => .tail _ (.tail _ (.tail _ (List.mem_append_right _ (.tail _ (List.mem_append_right _ (List.mem_append_left _ hp))))))⟩⟩, fun p hp => .tail _ (.tail _ (.tail _ (List.mem_append_right _ (.tail _ (List.mem_append_right _ (List.mem_append_right _ hp))))))⟩))
          (xi13 scx scd dl o kvs sc1 sc2 sc3 su1 su2 su3 tq vd ⟨rfl, .head _, .tail _ (.head _), .tail _ (.tail _ (.head _)), lod, hod, hdf.mono fun p hp => List.mem_append_right _ (List.mem_append_right _ hp), hkv.mono fun _ _ x => LangAt.mono x fun p hp => List.mem_append_right _ (List.mem_append_left _ hp)⟩) ?_
        · exact bo e1 (bo e2 (bo hrc (bo hmp rfl)))
        · have hnw : ∀ p ∈ news, p ∈ (dl, o) :: (tl ++ ((rl, LCg.lst rv) :: (rn ++ (pre ++ news)))) := fun p hp => .tail _ (List.mem_append_right _ (.tail _ (List.mem_append_right _ (List.mem_append_right _ hp))))
          refine Apart.app (Apart.cons (fun p hp => Nat.ne_of_lt (hsc1 p (hnw p hp))) (Apart.cons (fun p hp => Nat.ne_of_lt (hsc2 p (hnw p hp))) (Apart.cons (fun p hp => Nat.ne_of_lt (ldl p (List.mem_append_right _ hp))) Apart.nil))) (Apart.app (hap.mono fun p hp => .tail _ (.tail _ (List.mem_append_right _ (List.mem_append_right _ hp)))) hpa)
    · refine hE _ _ _ _ _ (herr _ ?_)
      exact bo e1 (bo e2 (be (show rdRecs D g 2 true = .error _ by assumption)))
  · rename rdU16 D g = .error _ => e1
    refine hE _ _ _ _ _ (herr _ ?_)
    exact be e1
end
theorem off_ZD : True := by
  k_with "off ZD" => (skip)
  exact trivial
end
section
theorem reset_ZE : True := by
  w_top off
  exact trivial

noncomputable def rdScripts (D : List Int) (g : Int) : Except Int (List (List Int × ScrV)) := do
  let rs ← rdRecs D g 0 true
  mapE (keyed (rdScript D)) rs
section
variable {w : World} {dp un : Nat} {gd : Option (List Code)} {cn : Str} {cs : Scope} {a : Addr} {ccd : Value} {cl : List (Str × Addr)} {outer : List Env} {A₀ : Around} {base h₀ : Heap} {L : Addr} {m : Str → Option Value} {s : Shared} {Q E : Value → Shared → Prop} {p : Program} {loose : List Str} {mean : ExcName → Option Value} {mg mb : Str → Option Value} {news : List (Addr × Obj)} {tb : Tok} {b : Array UInt8}
variable (B : Below A₀ base outer h₀) (F : Fr h₀ L s.heap m) (X : (hd.heap_39 w.params).In h₀) (N : News h₀ L s.heap news) (T : Top p loose mean mg mb h₀) (hk : cs.kind = .function)
include B F X N T hk
theorem lines_ZE1 : True := by
  k_with "call ref" => (first | ((fail_if_success (k_extra "off ZE")); (k_here; (with_reducible show wpAny _ _ (call (Value.ref 313) _) _ _ _); k_dflt (refine' records_spec ?k1 ?k2 ?k3 ?k4 ?k5 ?kK ?kd ?ku ?kp _ ?kD ?kb _ _ ?kg _ _ ?kl _ ?_ ?_; (case k1 => k_asm); (case k2 => k_asm); (case k3 => k_asm); (case k4 => k_extra "m_news"); (case k5 => k_asm); (case kK => first | exact rfl | assumption); (case kd => first | exact room_n (by with_reducible assumption) (by decide) | ktr_room); (case ku => first | exact room_n (by with_reducible assumption) (by decide) | ktr_units); (case kp => k_extra "m_kept"); (case kD => assumption); (case kb => assumption); (case kg => (k_extra "m_om")); (case kl => decide); (intro rc hrc h' tk' rl rv rn F' N' hrd hra; (try k_sweep))))) | fail)
  k_with "call ref" => (first | ((fail_if_success (k_extra "off ZE")); (k_here; (with_reducible show wpAny _ _ (call (Value.ref 327) _) _ _ _); k_dflt (refine' script_spec ?k1 ?k2 ?k3 ?k4 ?k5 ?kK ?kd ?ku ?kp _ ?kD ?kb _ _ ?kg _ _ ?_ ?_; (case k1 => k_asm); (case k2 => k_asm); (case k3 => k_asm); (case k4 => k_extra "m_news"); (case k5 => k_asm); (case kK => first | exact rfl | assumption); (case kd => first | exact room_n (by with_reducible assumption) (by decide) | ktr_room); (case ku => first | exact room_n (by with_reducible assumption) (by decide) | ktr_units); (case kp => k_extra "m_kept"); (case kD => assumption); (case kb => assumption); (case kg => (k_extra "m_om")); (intro sr hsr h' tk' sx sn F' N' hsx hsa; (try k_sweep))))) | fail)
  k_with "setItem ref str" => (first | ((fail_if_success (k_extra "off ZE")); k_extra "m_stop") | fail)
  exact trivial
set_option maxHeartbeats 1000000 in
theorem scripts_spec (hd : dp + 50 < recursionLimit) (hu : un + 300 < cLine) {kp : List (Addr × Obj)} (hkp : KeptIn kp news)
    (D : List Int) (hD : KBw.bInts b = D) (hsz : D.length ≤ 4000) (g : Int) (tg : Tok) (hg : 0 ≤ g ∧ g < 60000000)
    (hok : ∀ x, rdScripts D g = .ok x → ∀ h' tk' r o kvs nw, Fr h₀ L h' m → News h₀ L h' ((r, o) :: nw ++ news) → (r == sysModules) = false → o.IsDictOf (strKind PySem.Challenge.rw_nu0165_01.row.prog w) kvs → KvsAt (ScrAt w nw) kvs x → Apart ((r, o) :: nw) news → Q (.ref r) { s with heap := h', toks := tk' })
    (herr : ∀ z, rdScripts D g = .error z → Errs base h₀ kp (envX cn cs L a ccd cl) outer L m E s z) :
    Cl w dp un gd cn cs L a ccd cl outer 334 [.bytes b tb, .int g tg] Q E s := by
  k_dflt (refine' enter [("data", .bytes b tb), ("at", .int g tg)] B F X N T hk ?k6 ?k7 ?k8 ?k9 ?kB ?c2 ?c3 ?c4 ?c5 ?_; k_extra "m_sides")
  intro g' L' h₁ E' FG F' N' B' X' T' hP hE
  try dsimp only
  try k_fold
  refine foldAV ?_; intro Mz Az vz gz dz oz
  k_extra "m_steps"
  · rename Fr g' L' _ _ => F9
    rename News g' L' _ _ => N9
    have hra0 : ∀ p ∈ (rl, LCg.lst rv) :: rn, p.1 ≠ dl := fun p hp => Ne.symm (hra p hp (dl, od) (.head _))
    have hrd0 : ∀ p ∈ (rl, LCg.lst rv) :: (rn ++ news), p.1 ≠ dl := (fmc (hra0 _ (.head _)) (List.forall_mem_append.mpr ⟨fun p hp => hra0 p (.tail _ hp), fun p hp => Nat.ne_of_lt (ldlx p hp)⟩))
    have hrcl := recs_len hD hrc
    have hasc := recs_asc hrc
    have hbd := recs_bd hD hrc
    replace N9 := News.sub (news' := (dl, od) :: ([] ++ ((rl, LCg.lst rv) :: (rn ++ news)))) N9 (by k_extra "m_sub")
    refine for2_list (l := rl) (vs := rv.toArray) (k := rv.length) [Str.ofString "tag", Str.ofString "begun"] (fun j _ nw => ∃ o kvs tl out, nw = (dl, o) :: (tl ++ ((rl, LCg.lst rv) :: (rn ++ news))) ∧ o.IsDictOf (strKind PySem.Challenge.rw_nu0165_01.row.prog w) kvs ∧ KvsAt (ScrAt w tl) kvs out ∧ mapE (keyed (rdScript D)) (rc.take j) = .ok out ∧ Apart tl ((dl, od) :: ((rl, LCg.lst rv) :: (rn ++ news))))
      rfl F9 N9 rfl rfl rfl hP ?_ (xi4 od [] [] [] ⟨rfl, hsd, KvsAt.nil, rfl, Apart.nil⟩) ?_ ?_ ?_
    · intro j _ nw hJz1
      refine (let Gz : Prop := _; (?_ : Gz))
      (refine ex4 (hJz1) fun o kvs tl out hAz99 => ?_; clear hJz1; refine and2 (hAz99) fun hEz99_4 _ => ?_; clear hAz99; subst hEz99_4)
      k_unfold; clear Gz
      exact .tail _ (List.mem_append_right _ (.head _))
    · intro j v _ nw hv hJz2
      refine (let Gz : Prop := _; (?_ : Gz))
      (refine ex4 (hJz2) fun o kvs tl out hAz100 => ?_; clear hJz2; refine and2 (hAz100) fun hEz100_4 _ => ?_; clear hAz100; subst hEz100_4)
      k_unfold; clear Gz
      refine (let Gz : Prop := _; (?_ : Gz))
      (refine ex5 (recs_at hrd (by simpa using hv)) fun q t n t1 t2 hAz101 => ?_; refine and3 (hAz101) fun _ hEz101_6 hm => ?_; clear hAz101; subst hEz101_6)
      k_unfold; clear Gz
      exact (xi5 t _ _ _ n ⟨rfl, .tail _ (List.mem_append_right _ (.tail _ (List.mem_append_left _ hm))), rfl, rfl⟩)
    · intro j v m₁ nw h tk I it hv hJz4
      refine (let Gz : Prop := _; (?_ : Gz))
      (refine ex4 (hJz4) fun o kvs tl out hAz102 => ?_; clear hJz4; refine and5 (hAz102) fun hEz102_4 hod hkv hmp hap => ?_; clear hAz102; subst hEz102_4)
      k_unfold; clear Gz
      intro t ot v₁ v₂ nt
      rintro rfl
      intro hmt hct hdt hS F1 N1 hI
      refine (let Gz : Prop := _; (?_ : Gz))
      (refine ex5 (recs_at hrd (by simpa using hv)) fun q' t' n t1 t2 hAz103 => ?_; refine and3 (hAz103) fun hq e hm => ?_; clear hAz103)
      k_unfold; clear Gz
      refine (let Gz : Prop := _; (?_ : Gz))
      obtain ⟨rfl, rfl⟩ := rec_item N1 (.tail _ hmt) (.tail _ (.tail _ (List.mem_append_right _ (.tail _ (List.mem_append_left _ hm))))) e hdt
      k_unfold; clear Gz
      have hqb := hbd q' (List.mem_of_getElem? hq)
      k_extra "m_steps"
      · rename rdScript D _ = .ok _ => hlr
        rename Fr g' L' _ _ => F2
        rename News g' L' _ _ => N2
        replace N2 := News.sub (news' := (dl, o) :: (I, it) :: (sn ++ (tl ++ ((rl, LCg.lst rv) :: (rn ++ news))))) N2 (by k_extra "m_sub")
        have hX : ∀ p ∈ (I, it) :: (sn ++ (tl ++ ((rl, LCg.lst rv) :: (rn ++ news)))), p.1 ≠ dl :=
          (fmc (Ne.symm (hI _ (.head _))) (List.forall_mem_append.mpr ⟨fun p hp => Ne.symm (hsa p hp (dl, o) (.tail _ (.head _))), List.forall_mem_append.mpr ⟨fun p hp => Ne.symm (hap p hp (dl, od) (.head _)), hrd0⟩⟩))
        refine kda_set F2 N2 (UpdF.head hX) hod (strKind_is _ _ _ _) (by rw [hkv.length, mapE_len hmp, List.length_take, sizeLine_eq]; (k_extra "m_om")) ?_
        intro h' o' F2 N2 hod'
        have hfr := keys_fresh hasc hq hmp
        k_extra "m_steps"
        have ha2 : Apart sn ((dl, od) :: ((rl, LCg.lst rv) :: (rn ++ news))) := fun x hx p hp => by
          rcases List.mem_cons.mp hp with rfl | hp
          · exact hsa x hx (dl, o) (.tail _ (.head _))
          · exact hsa x hx p (.tail _ (.tail _ (List.mem_append_right _ hp)))
        refine TurnPost.intro (by assumption) N2 ((dl, o') :: ((sn ++ tl) ++ ((rl, LCg.lst rv) :: (rn ++ news)))) (by rw [List.append_assoc]; k_extra "m_sub") ?_ (by k_extra "m_same")
          (xi4 o' _ (sn ++ tl) (out ++ [(q'.1, sr)]) ⟨rfl, hod', KvsAt.snoc (R := ScrAt w (sn ++ tl)) (p := (q'.1, sr)) (hkv.mono fun _ _ x => ScrAt.mono x fun p hp => List.mem_append_right _ hp) (ScrAt.mono hsx fun p hp => List.mem_append_left _ hp) hfr, mapE_next hq hmp (keyed_ok hlr), Apart.app ha2 hap⟩)
        rw [List.append_assoc]
        exact (fmc (hI (dl, o) (.head _)) (List.forall_mem_append.mpr ⟨fun p hp => Ne.symm (hsa p hp (I, it) (.head _)), fun p hp => hI p (.tail _ hp)⟩))
      · refine hE _ _ _ _ _ (herr _ ?_)
        exact bo hrc (mapE_stop hq hmp (keyed_err (by assumption)))
    · intro m' nw h tk hJz7
      refine (let Gz : Prop := _; (?_ : Gz))
      (refine ex4 (hJz7) fun o kvs tl out hAz104 => ?_; clear hJz7; refine and5 (hAz104) fun hEz104_4 hod hkv hmp hap => ?_; clear hAz104; subst hEz104_4)
      k_unfold; clear Gz
      intro hS F1 N1
      rw [List.size_toArray, show rv.length = rc.length by rw [hrd.length, List.length_map], List.take_length] at hmp
      k_extra "m_steps"
      refine hok out (by exact bo hrc (hmp)) _ _ dl o kvs tl (by assumption)
        (News.sub (by assumption) (List.forall_mem_append.mpr ⟨by k_extra "m_sub", fun p hp => .tail _ (List.mem_append_right _ (.tail _ (List.mem_append_right _ hp)))⟩)) lod hod hkv ?_
      exact Apart.cons (fun p hp => Nat.ne_of_lt (ldlx p hp)) (hap.mono fun p hp => .tail _ (.tail _ (List.mem_append_right _ hp)))
  · refine hE _ _ _ _ _ (herr _ ?_)
    exact be (show rdRecs D g 0 true = .error _ by assumption)
end
theorem off_ZE : True := by
  k_with "off ZE" => (skip)
  exact trivial
end
section
theorem reset_ZF : True := by
  w_top off
  exact trivial

noncomputable def rdIf {α : Type} (x : Int) (f : Int → Except Int α) (d : α) : Except Int α := if x = 0 then .ok d else f x
noncomputable def rdVer (D : List Int) (v : Int) : Except Int Unit := if v = 1 then (match rdU16 D 2 with
  | .ok u => if 1 < u then .error 0 else .ok ()
  | .error z => .error z) else .error 0
noncomputable def rdThree (D : List Int) : Except Int (Int × Int × Int) := @ite _ (Out D 4 6) (outD _ _ _) (.error 4) (.ok (u16At D 4, u16At D 6, u16At D 8))
noncomputable abbrev LayV : Type := List (List Int × ScrV) × List (List Int × List Int) × List (Str × Int × Int × List (Int × List Int))
noncomputable def rdLay (b : Array UInt8) (D : List Int) : Except Int LayV := do
  let v ← rdU16 D 0
  let _ ← rdVer D v
  let h ← rdThree D
  let ss ← rdIf h.1 (rdScripts D) []
  let fs ← rdIf h.2.1 (rdFeats D) []
  let ls ← rdIf h.2.2 (rdLooks b D) []
  pure (ss, fs, ls)
theorem rows3 {D : List Int} {i : Int} {rx : List Int} {yr : List Value} (h : rdRows D i 3 = .ok rx) (hy : IntsAre yr rx) : ∃ t0 t1 t2, yr = [.int (u16At D i) t0, .int (u16At D (i + 2)) t1, .int (u16At D (i + 4)) t2] ∧ ¬ Out D i 6 := by
  unfold rdRows at h
  split at h
  · cases h
  · rename_i ho
    cases h
    have e : (List.range (3 : Int).toNat).map (fun (j : Nat) => u16At D (i + 2 * (j : Int))) = [u16At D i, u16At D (i + 2), u16At D (i + 4)] := by
      show [u16At D (i + 2 * ((0 : Nat) : Int)), u16At D (i + 2 * ((1 : Nat) : Int)), u16At D (i + 2 * ((2 : Nat) : Int))] = _
      simp
    rw [e] at hy
    cases hy with
    | cons _ t0 h1 =>
      cases h1 with
      | cons _ t1 h2 =>
        cases h2 with
        | cons _ t2 h3 =>
          cases h3
          exact (xi3 t0 t1 t2 ⟨rfl, ho⟩)
theorem rows3_err {D : List Int} {z : Int} (h : rdRows D 4 3 = .error z) : rdThree D = .error z := by
  unfold rdRows at h
  split at h
  · rename_i hO
    cases h
    exact if_pos hO
  · cases h
theorem u16At_bd {b : Array UInt8} {D : List Int} (hD : KBw.bInts b = D) (i : Int) : 0 ≤ u16At D i ∧ u16At D i < 65536 := by
  have h1 := byte_in hD i.toNat
  have h2 := byte_in hD (i.toNat + 1)
  unfold u16At
  (k_extra "m_om")
noncomputable def LayAt (w : World) (tl : List (Addr × Obj)) (v : Value) (p : LayV) : Prop :=
  ∃ x dx d o kvs fl fvs ll lvs c1 c2 c3 k1 k2 k3, v = .ref x ∧ (x, instO 295 dx) ∈ tl ∧ (dx, dictOf [⟨c1, .str (Str.ofString "scripts") k1, .ref d⟩, ⟨c2, .str (Str.ofString "features") k2, .ref fl⟩, ⟨c3, .str (Str.ofString "lookups") k3, .ref ll⟩] 3) ∈ tl ∧
    (d, o) ∈ tl ∧ (d == sysModules) = false ∧ o.IsDictOf (strKind PySem.Challenge.rw_nu0165_01.row.prog w) kvs ∧ KvsAt (ScrAt w tl) kvs p.1 ∧ (fl, LCg.lst fvs) ∈ tl ∧ AllR (FeatAt tl) fvs p.2.1 ∧ (ll, LCg.lst lvs) ∈ tl ∧ AllR (LookAt tl) lvs p.2.2
theorem of_join {P : Value → Shared → Prop} {v : Value} {s : Shared} (h : P v s) : Join P v s := h
noncomputable def ScrP (w : World) (g : Heap) (L : Addr) (m₁ : Str → Option Value) (R : List (Addr × Obj)) (s : Shared) (D : List Int) (a0 : Int) (v : Value) (s' : Shared) : Prop :=
  ∃ h' tk' r o kvs nw x, v = .ref r ∧ s' = { s with heap := h', toks := tk' } ∧ Fr g L h' m₁ ∧ News g L h' ((r, o) :: (nw ++ R)) ∧ (r == sysModules) = false ∧ o.IsDictOf (strKind PySem.Challenge.rw_nu0165_01.row.prog w) kvs ∧ KvsAt (ScrAt w nw) kvs x ∧ rdIf a0 (rdScripts D) [] = .ok x ∧ Apart ((r, o) :: nw) R
noncomputable def LstP {α : Type} (Rel : List (Addr × Obj) → Value → α → Prop) (res : Except Int (List α)) (g : Heap) (L : Addr) (m₁ : Str → Option Value) (R : List (Addr × Obj)) (s : Shared) (v : Value) (s' : Shared) : Prop :=
  ∃ h' tk' r vs nw x, v = .ref r ∧ s' = { s with heap := h', toks := tk' } ∧ Fr g L h' m₁ ∧ News g L h' ((r, LCg.lst vs) :: (nw ++ R)) ∧ AllR (Rel nw) vs x ∧ res = .ok x ∧ Apart ((r, LCg.lst vs) :: nw) R
section
variable {prog : Program} {w : World} {A : Around} {E : Value → Shared → Prop} {s : Shared} {g : Heap} {L : Addr} {m₁ : Str → Option Value} {R : List (Addr × Obj)} {Q : Value → Shared → Prop} {t : Sem Value}
theorem join_scr (D : List Int) (a0 : Int) (F : Fr g L s.heap m₁) (N : News g L s.heap R) (h1 : wpAny (model prog w) A t (Join (ScrP w g L m₁ R s D a0)) E s) (h2 : ∀ h' tk' r o kvs nw x, Fr g L h' m₁ → News g L h' ((r, o) :: (nw ++ R)) → (r == sysModules) = false → o.IsDictOf (strKind PySem.Challenge.rw_nu0165_01.row.prog w) kvs → KvsAt (ScrAt w nw) kvs x → rdIf a0 (rdScripts D) [] = .ok x → Apart ((r, o) :: nw) R → Q (.ref r) { s with heap := h', toks := tk' }) : wpAny (model prog w) A t Q E s :=
  wpAny_mono h1 (fun v s' h => by
    refine (let Gz : Prop := _; (?_ : Gz))
    first | (refine ex9 (h) fun h' tk' r o kvs nw x hEz105_7 hEz105_8 hAz105 => ?_; clear h; refine and7 (hAz105) fun F' N' a b c d e => ?_; clear hAz105; subst hEz105_7; subst hEz105_8) | (refine ex8 (h) fun h' tk' r o kvs nw x hEz105_7 hAz105 => ?_; clear h; refine and8 (hAz105) fun hEz105_8 F' N' a b c d e => ?_; clear hAz105; subst hEz105_7; subst hEz105_8) | (refine ex7 (h) fun h' tk' r o kvs nw x hAz105 => ?_; clear h; refine and9 (hAz105) fun hEz105_7 hEz105_8 F' N' a b c d e => ?_; clear hAz105; subst hEz105_7; subst hEz105_8) | (refine ex6 (h) fun h' tk' r o kvs nw hAz105 => ?_; clear h; refine and10 (hAz105) fun x hEz105_7 hEz105_8 F' N' a b c d e => ?_; clear hAz105; subst hEz105_7; subst hEz105_8) | (refine ex5 (h) fun h' tk' r o kvs hAz105 => ?_; clear h; refine and11 (hAz105) fun nw x hEz105_7 hEz105_8 F' N' a b c d e => ?_; clear hAz105; subst hEz105_7; subst hEz105_8) | (refine ex4 (h) fun h' tk' r o hAz105 => ?_; clear h; refine and12 (hAz105) fun kvs nw x hEz105_7 hEz105_8 F' N' a b c d e => ?_; clear hAz105; subst hEz105_7; subst hEz105_8) | (refine ex3 (h) fun h' tk' r hAz105 => ?_; clear h; refine and12 (hAz105) fun o kvs nw x hEz105_7 hEz105_8 F' N' a b c hAz105r => ?_; clear hAz105; refine and2 (hAz105r) fun d e => ?_; clear hAz105r; subst hEz105_7; subst hEz105_8) | (refine ex2 (h) fun h' tk' hAz105 => ?_; clear h; refine and12 (hAz105) fun r o kvs nw x hEz105_7 hEz105_8 F' N' a b hAz105r => ?_; clear hAz105; refine and3 (hAz105r) fun c d e => ?_; clear hAz105r; subst hEz105_7; subst hEz105_8) | (refine ex1 (h) fun h' hAz105 => ?_; clear h; refine and12 (hAz105) fun tk' r o kvs nw x hEz105_7 hEz105_8 F' N' a hAz105r => ?_; clear hAz105; refine and4 (hAz105r) fun b c d e => ?_; clear hAz105r; subst hEz105_7; subst hEz105_8) | (refine and12 (h) fun h' tk' r o kvs nw x hEz105_7 hEz105_8 F' N' hr => ?_; clear h; refine and5 (hr) fun a b c d e => ?_; clear hr; subst hEz105_7; subst hEz105_8) | obtain ⟨h', tk', r, o, kvs, nw, x, rfl, rfl, F', N', a, b, c, d, e⟩ := h
    k_unfold; clear Gz
    exact h2 h' tk' r o kvs nw x F' N' a b c d e) fun _ _ e => e
theorem ScrP.mk {D : List Int} {a0 : Int} {h' : Heap} {tk' : Nat} {r : Addr} {o : Obj} {kvs : List (Str × Value)} {nw : List (Addr × Obj)} {x : List (List Int × ScrV)} (F : Fr g L h' m₁) (N : News g L h' ((r, o) :: (nw ++ R))) (a : (r == sysModules) = false) (b : o.IsDictOf (strKind PySem.Challenge.rw_nu0165_01.row.prog w) kvs) (c : KvsAt (ScrAt w nw) kvs x) (d : rdIf a0 (rdScripts D) [] = .ok x) (e : Apart ((r, o) :: nw) R) : ScrP w g L m₁ R s D a0 (.ref r) { s with heap := h', toks := tk' } := xi7 h' tk' r o kvs nw x ⟨rfl, rfl, F, N, a, b, c, d, e⟩
theorem join_lst {α : Type} (Rel : List (Addr × Obj) → Value → α → Prop) (res : Except Int (List α)) (F : Fr g L s.heap m₁) (N : News g L s.heap R) (h1 : wpAny (model prog w) A t (Join (LstP Rel res g L m₁ R s)) E s) (h2 : ∀ h' tk' r vs nw x, Fr g L h' m₁ → News g L h' ((r, LCg.lst vs) :: (nw ++ R)) → AllR (Rel nw) vs x → res = .ok x → Apart ((r, LCg.lst vs) :: nw) R → Q (.ref r) { s with heap := h', toks := tk' }) : wpAny (model prog w) A t Q E s :=
  wpAny_mono h1 (fun v s' h => by
    refine (let Gz : Prop := _; (?_ : Gz))
    first | (refine ex9 (h) fun h' tk' r vs nw x hEz107_6 hEz107_7 F' hAz107 => ?_; clear h; refine and4 (hAz107) fun N' a b c => ?_; clear hAz107; subst hEz107_6; subst hEz107_7) | (refine ex8 (h) fun h' tk' r vs nw x hEz107_6 hEz107_7 hAz107 => ?_; clear h; refine and5 (hAz107) fun F' N' a b c => ?_; clear hAz107; subst hEz107_6; subst hEz107_7) | (refine ex7 (h) fun h' tk' r vs nw x hEz107_6 hAz107 => ?_; clear h; refine and6 (hAz107) fun hEz107_7 F' N' a b c => ?_; clear hAz107; subst hEz107_6; subst hEz107_7) | (refine ex6 (h) fun h' tk' r vs nw x hAz107 => ?_; clear h; refine and7 (hAz107) fun hEz107_6 hEz107_7 F' N' a b c => ?_; clear hAz107; subst hEz107_6; subst hEz107_7) | (refine ex5 (h) fun h' tk' r vs nw hAz107 => ?_; clear h; refine and8 (hAz107) fun x hEz107_6 hEz107_7 F' N' a b c => ?_; clear hAz107; subst hEz107_6; subst hEz107_7) | (refine ex4 (h) fun h' tk' r vs hAz107 => ?_; clear h; refine and9 (hAz107) fun nw x hEz107_6 hEz107_7 F' N' a b c => ?_; clear hAz107; subst hEz107_6; subst hEz107_7) | (refine ex3 (h) fun h' tk' r hAz107 => ?_; clear h; refine and10 (hAz107) fun vs nw x hEz107_6 hEz107_7 F' N' a b c => ?_; clear hAz107; subst hEz107_6; subst hEz107_7) | (refine ex2 (h) fun h' tk' hAz107 => ?_; clear h; refine and11 (hAz107) fun r vs nw x hEz107_6 hEz107_7 F' N' a b c => ?_; clear hAz107; subst hEz107_6; subst hEz107_7) | (refine ex1 (h) fun h' hAz107 => ?_; clear h; refine and12 (hAz107) fun tk' r vs nw x hEz107_6 hEz107_7 F' N' a b c => ?_; clear hAz107; subst hEz107_6; subst hEz107_7) | (refine and12 (h) fun h' tk' r vs nw x hEz107_6 hEz107_7 F' N' a hr => ?_; clear h; refine and2 (hr) fun b c => ?_; clear hr; subst hEz107_6; subst hEz107_7) | obtain ⟨h', tk', r, vs, nw, x, rfl, rfl, F', N', a, b, c⟩ := h
    k_unfold; clear Gz
    exact h2 h' tk' r vs nw x F' N' a b c) fun _ _ e => e
theorem LstP.mk {α : Type} {Rel : List (Addr × Obj) → Value → α → Prop} {res : Except Int (List α)} {h' : Heap} {tk' : Nat} {r : Addr} {vs : List Value} {nw : List (Addr × Obj)} {x : List α} (F : Fr g L h' m₁) (N : News g L h' ((r, LCg.lst vs) :: (nw ++ R))) (a : AllR (Rel nw) vs x) (b : res = .ok x) (c : Apart ((r, LCg.lst vs) :: nw) R) : LstP Rel res g L m₁ R s (.ref r) { s with heap := h', toks := tk' } := xi6 h' tk' r vs nw x ⟨rfl, rfl, F, N, a, b, c⟩
theorem if_no {α : Type} {x : Int} {f : Int → Except Int α} {d : α} {z : Except Int α} (h : x ≠ 0) (k : f x = z) : rdIf x f d = z := (if_neg h).trans k
theorem if_yes {α : Type} {x : Int} {f : Int → Except Int α} {d : α} (h : x = 0) : rdIf x f d = .ok d := if_pos h
end
section
variable {w : World} {dp un : Nat} {gd : Option (List Code)} {cn : Str} {cs : Scope} {a : Addr} {ccd : Value} {cl : List (Str × Addr)} {outer : List Env} {A₀ : Around} {base h₀ : Heap} {L : Addr} {m : Str → Option Value} {s : Shared} {Q E : Value → Shared → Prop} {p : Program} {loose : List Str} {mean : ExcName → Option Value} {mg mb : Str → Option Value} {news : List (Addr × Obj)} {tb : Tok} {b : Array UInt8}
variable (B : Below A₀ base outer h₀) (F : Fr h₀ L s.heap m) (X : (hd.heap_39 w.params).In h₀) (N : News h₀ L s.heap news) (T : Top p loose mean mg mb h₀) (hk : cs.kind = .function)
include B F X N T hk
set_option maxHeartbeats 1000000 in
theorem layout_new (hd : dp + 5 < recursionLimit) (hu : un + 100 < cLine) (d f l : Addr)
    (hret : ∀ h' tk' x dx c1 c2 c3 k1 k2 k3, Fr h₀ L h' m → News h₀ L h' ((x, instO 295 dx) :: (dx, dictOf [⟨c1, .str (Str.ofString "scripts") k1, .ref d⟩, ⟨c2, .str (Str.ofString "features") k2, .ref f⟩, ⟨c3, .str (Str.ofString "lookups") k3, .ref l⟩] 3) :: news) →
       (∀ p ∈ news, p.1 < x) → (∀ p ∈ news, p.1 < dx) → Q (.ref x) { s with heap := h', toks := tk' }) :
    Cl w dp un gd cn cs L a ccd cl outer 295 [.ref d, .ref f, .ref l] Q E s := by
  k_dflt (refine' call_cls F X N ?k4 ?k5 ?k6 ?_; (case k4 => k_is); (case k5 => k_is); (case k6 => k_is))
  intro so sd h' F1 N1 l1 l2
  (try k_lt2 l2)
  k_dflt (refine' code_def (env := envX cn cs L a ccd cl) (outer := outer) B F1 X N1 T ?kA ?kF hk ?k6 ?k7 ?k8 ?k9 ?kB ?_ ?c2 ?c3 ?c4 ?c5; (case kA => exact rfl); (case kF => exact rfl); (case k6 => k_is); (case k7 => k_is); (case k8 => first | exact room_n (by with_reducible assumption) (by decide) | exact room_k (by with_reducible assumption) (by decide) | exact room_z (by with_reducible assumption) | ktr_room); (case k9 => exact BindsTo.of_eq rfl); (case kB => exact locs rfl); (case c5 => decide); (case c2 => exact rfl); (case c3 => exact rfl); (case c4 => exact rfl); k_whole; intro g' L' h' FG' F' N' B' X' T'; (try dsimp only); (try k_fold))
  k_extra "m_steps"
  have l3 : ∀ p ∈ news, p.1 < so := fun p hp => Nat.lt_trans (l1 p hp) l2
  exact hret _ _ so sd _ _ _ _ _ _ (by assumption) (News.sub (by assumption) (by k_extra "m_sub")) l3 l1
theorem lines_ZF1 : True := by
  k_with "call ref" => (first | ((fail_if_success (k_extra "off ZF")); (k_here; (with_reducible show wpAny _ _ (call (Value.ref 187) _) _ _ _); k_dflt (refine' oct_new ?k1 ?k2 ?k3 ?k4 ?k5 ?kK ?kd ?ku _ _ _ _ ?_; (case k1 => k_asm); (case k2 => k_asm); (case k3 => k_asm); (case k4 => k_extra "m_news"); (case k5 => k_asm); (case kK => first | exact rfl | assumption); (case kd => first | exact room_n (by with_reducible assumption) (by decide) | ktr_room); (case ku => first | exact room_n (by with_reducible assumption) (by decide) | ktr_units);  (intro h' tk' so sd c1 c2 k1 k2 F' N' lsd lso; have lsdx := lsd; (try k_lt lsd); (try k_sweep))))) | fail)
  k_with "call ref" => (first | ((fail_if_success (k_extra "off ZF")); (k_here; (with_reducible show wpAny _ _ (call (Value.ref 146) _) _ _ _); k_dflt (refine' u16_spec ?k1 ?k2 ?k3 ?k4 ?k5 ?kK ?kd ?ku ?kp _ ?kD ?kb ?ki ?ks ?ko ?_ ?_; (case k1 => k_asm); (case k2 => k_asm); (case k3 => k_asm); (case k4 => k_extra "m_news"); (case k5 => k_asm); (case kK => first | exact rfl | assumption); (case kd => first | exact room_n (by with_reducible assumption) (by decide) | ktr_room); (case ku => first | exact room_n (by with_reducible assumption) (by decide) | ktr_units); (case kp => k_extra "m_kept"); (case kD => assumption); (case kb => assumption); (case ki => (k_extra "m_om")); (case ks => k_extra "m_in"); (case ko => k_all); (intro x hx h0x h1x h' tk' t' k' F' N'; (try k_sweep))))) | fail)
  k_with "call ref" => (first | ((fail_if_success (k_extra "off ZF")); (k_here; (with_reducible show wpAny _ _ (call (Value.ref 177) _) _ _ _); k_dflt (refine' rows_spec ?k1 ?k2 ?k3 ?k4 ?k5 ?kK ?kd ?ku ?kp _ ?kD ?kb ?ki _ _ ?kc0 ?kc1 ?ks ?ko ?_ ?_; (case k1 => k_asm); (case k2 => k_asm); (case k3 => k_asm); (case k4 => k_extra "m_news"); (case k5 => k_asm); (case kK => first | exact rfl | assumption); (case kd => first | exact room_n (by with_reducible assumption) (by decide) | ktr_room); (case ku => first | exact room_n (by with_reducible assumption) (by decide) | ktr_units); (case kp => k_extra "m_kept"); (case kD => assumption); (case kb => assumption); (case ki => (k_extra "m_om")); (case kc0 => (k_extra "m_om")); (case kc1 => (k_extra "m_om")); (case ks => k_extra "m_in"); (case ko => k_all); (intro rx hrx h' tk' kr rr yr F' N' hyr hyz hrs har; obtain ⟨ty0, ty1, ty2, hyy, hrO⟩ := rows3 hrx hyr; subst hyy; (try k_sweep))))) | fail)
  k_with "call ref" => (first | ((fail_if_success (k_extra "off ZF")); (k_here; (with_reducible show wpAny _ _ (call (Value.ref 334) _) _ _ _); k_dflt (refine' scripts_spec ?k1 ?k2 ?k3 ?k4 ?k5 ?kK ?kd ?ku ?kp _ ?kD ?kb _ _ ?kg ?_ ?_; (case k1 => k_asm); (case k2 => k_asm); (case k3 => k_asm); (case k4 => k_extra "m_news"); (case k5 => k_asm); (case kK => first | exact rfl | assumption); (case kd => first | exact room_n (by with_reducible assumption) (by decide) | ktr_room); (case ku => first | exact room_n (by with_reducible assumption) (by decide) | ktr_units); (case kp => k_extra "m_kept"); (case kD => assumption); (case kb => assumption); (case kg => (k_extra "m_om")); (intro ssr hssr h' tk' sdr sdo skv sn F' N' slo shd shk sha; (try k_sweep))))) | fail)
  k_with "call ref" => (first | ((fail_if_success (k_extra "off ZF")); (k_here; (with_reducible show wpAny _ _ (call (Value.ref 346) _) _ _ _); k_dflt (refine' features_spec ?k1 ?k2 ?k3 ?k4 ?k5 ?kK ?kd ?ku ?kp _ ?kD ?kb _ _ ?kg ?_ ?_; (case k1 => k_asm); (case k2 => k_asm); (case k3 => k_asm); (case k4 => k_extra "m_news"); (case k5 => k_asm); (case kK => first | exact rfl | assumption); (case kd => first | exact room_n (by with_reducible assumption) (by decide) | ktr_room); (case ku => first | exact room_n (by with_reducible assumption) (by decide) | ktr_units); (case kp => k_extra "m_kept"); (case kD => assumption); (case kb => assumption); (case kg => (k_extra "m_om")); (intro ffr hffr h' tk' fr fvs fn F' N' hfx hfa; (try k_sweep))))) | fail)
  k_with "call ref" => (first | ((fail_if_success (k_extra "off ZF")); (k_here; (with_reducible show wpAny _ _ (call (Value.ref 356) _) _ _ _); k_dflt (refine' lookups_spec ?k1 ?k2 ?k3 ?k4 ?k5 ?kK ?kd ?ku ?kp _ ?kD ?kb _ _ ?kg ?_ ?_; (case k1 => k_asm); (case k2 => k_asm); (case k3 => k_asm); (case k4 => k_extra "m_news"); (case k5 => k_asm); (case kK => first | exact rfl | assumption); (case kd => first | exact room_n (by with_reducible assumption) (by decide) | ktr_room); (case ku => first | exact room_n (by with_reducible assumption) (by decide) | ktr_units); (case kp => k_extra "m_kept"); (case kD => assumption); (case kb => assumption); (case kg => (k_extra "m_om")); (intro llr hllr h' tk' lr lvs ln F' N' hlx hla; (try k_sweep))))) | fail)
  k_with "call ref" => (first | ((fail_if_success (k_extra "off ZF")); (k_here; (with_reducible show wpAny _ _ (call (Value.ref 295) _) _ _ _); k_dflt (refine' layout_new ?k1 ?k2 ?k3 ?k4 ?k5 ?kK ?kd ?ku _ _ _ ?_; (case k1 => k_asm); (case k2 => k_asm); (case k3 => k_asm); (case k4 => k_extra "m_news"); (case k5 => k_asm); (case kK => first | exact rfl | assumption); (case kd => first | exact room_n (by with_reducible assumption) (by decide) | ktr_room); (case ku => first | exact room_n (by with_reducible assumption) (by decide) | ktr_units);  (intro h' tk' lax lad la1 la2 la3 lu1 lu2 lu3 F' N' hla1 hla2; have hla3 := hla1; have hla4 := hla2; (try k_lt hla3); (try k_lt hla4); (try k_sweep))))) | fail)
  k_with "eval IfExp" => (first | ((fail_if_success (k_extra "off ZF")); (k_here; (fail_if_success (with_reducible show wpAny _ _ _ (Join _) _ _)); refine of_stop ?_)) | fail)
  exact trivial
set_option maxHeartbeats 1000000 in
theorem layout_spec (hd : dp + 60 < recursionLimit) (hu : un + 350 < cLine) {kp : List (Addr × Obj)} (hkp : KeptIn kp news)
    (D : List Int) (hD : KBw.bInts b = D) (hsz : D.length ≤ 4000)
    (hok : ∀ x, rdLay b D = .ok x → ∀ h' tk' r nw, Fr h₀ L h' m → News h₀ L h' (nw ++ news) → LayAt w nw r x → Apart nw news → Q r { s with heap := h', toks := tk' })
    (herr : ∀ z, rdLay b D = .error z → Errs base h₀ kp (envX cn cs L a ccd cl) outer L m E s z) :
    Cl w dp un gd cn cs L a ccd cl outer 363 [.bytes b tb, .ref 471] Q E s := by
  k_dflt (refine' enter [("data", .bytes b tb), ("read_table", .ref 471)] B F X N T hk ?k6 ?k7 ?k8 ?k9 ?kB ?c2 ?c3 ?c4 ?c5 ?_; k_extra "m_sides")
  intro g' L' h₁ E' FG F' N' B' X' T' hP hE
  try dsimp only
  try k_fold
  refine foldAV ?_; intro Mz Az vz gz dz oz
  have f2 : (0 : Int) + 2 = 2 := by decide
  have f4 : (2 : Int) + 2 = 4 := by decide
  have f6 : (4 : Int) + 2 = 6 := by decide
  have f8 : (4 : Int) + 4 = 8 := by decide
  k_extra "m_steps"
  · rename rdU16 D 0 = .ok _ => e1
    refine raised B' (by assumption) X' (by assumption) (by k_extra "m_kept") (by assumption) rfl rfl (hE _ _ h₁ 0 _ (herr _ ?_)) _
    exact bo e1 (be (show rdVer D x = .error 0 by unfold rdVer; rw [if_neg (by assumption)]))
  · rename rdU16 D 0 = .ok _ => e1
    rename rdU16 D (0 + 2) = .ok _ => e2
    rename _ = (1 : Int) => hv1
    rw [hv1] at e1
    rw [f2] at e2
    refine raised B' (by assumption) X' (by assumption) (by k_extra "m_kept") (by assumption) rfl rfl (hE _ _ h₁ 0 _ (herr _ ?_)) _
    exact bo e1 (be (show rdVer D 1 = .error 0 by unfold rdVer; rw [if_pos rfl, e2]; exact if_pos (by assumption)))
  · rename rdU16 D 0 = .ok _ => e1
    rename rdU16 D (0 + 2) = .ok _ => e2
    rename _ = (1 : Int) => hv1
    rw [hv1] at e1
    rw [f2] at e2
    rw [f2, f4] at hrO
    have ev : rdVer D 1 = .ok () := by unfold rdVer; rw [if_pos rfl, e2]; exact if_neg (by assumption)
    have e3 : rdThree D = .ok (u16At D 4, u16At D 6, u16At D 8) := if_neg hrO
    have b4 := u16At_bd hD 4
    have b6 := u16At_bd hD 6
    have b8 := u16At_bd hD 8
    rename Fr g' L' _ _ => F5
    rename News g' L' _ _ => N5
    dsimp +zetaDelta only at F5
    rw [f2, f4, f6, f8] at F5
    refine join_scr D (u16At D 4) F5 N5 ?_ ?_
    · k_extra "m_steps"
      · exact ScrP.mk (by assumption) (by assumption) slo shd shk (if_no (by (k_extra "m_om")) hssr) sha
      · refine hE _ _ _ _ _ (herr _ ?_)
        exact bo e1 (bo ev (bo e3 (be (if_no (by (k_extra "m_om")) (by assumption)))))
      · exact ScrP.mk (nw := []) (by assumption) (by assumption) lod hsd KvsAt.nil (if_yes (by (k_extra "m_om"))) (Apart.cons (fun p hp => Nat.ne_of_lt (ldlx p hp)) Apart.nil)
    · intro h' tk' dr dob dkv dn dx F6 N6 dlo dhd dhk dhx dha
      k_extra "m_steps"
      refine join_lst FeatAt (rdIf (u16At D 6) (rdFeats D) []) F6 N6 ?_ ?_
      · k_extra "m_steps"
        · exact LstP.mk (by assumption) (by assumption) hfx (if_no (by (k_extra "m_om")) hffr) hfa
        · refine hE _ _ _ _ _ (herr _ ?_)
          exact bo e1 (bo ev (bo e3 (bo dhx (be (if_no (by (k_extra "m_om")) (by assumption))))))
        · exact LstP.mk (vs := []) (nw := []) (by assumption) (by assumption) .nil (if_yes (by (k_extra "m_om"))) (Apart.cons (fun p hp => Nat.ne_of_lt (llwx p hp)) Apart.nil)
      · intro h' tk' fr fvs fn fx F7 N7 hfx hfr hfa
        k_extra "m_steps"
        refine join_lst LookAt (rdIf (u16At D 8) (rdLooks b D) []) F7 N7 ?_ ?_
        · k_extra "m_steps"
          · exact LstP.mk (by assumption) (by assumption) hlx (if_no (by (k_extra "m_om")) hllr) hla
          · refine hE _ _ _ _ _ (herr _ ?_)
            exact bo e1 (bo ev (bo e3 (bo dhx (bo hfr (be (if_no (by (k_extra "m_om")) (by assumption)))))))
          · exact LstP.mk (vs := []) (nw := []) (by assumption) (by assumption) .nil (if_yes (by (k_extra "m_om"))) (Apart.cons (fun p hp => Nat.ne_of_lt (llwx p hp)) Apart.nil)
        · intro h' tk' lr lvs ln xl F8 N8 hlx hlr hla
          k_extra "m_steps"
          rename News h₀ L _ _ => NZ
          refine hok (dx, fx, xl) ?_ _ _ _ ([(lax, instO 295 lad), (lad, dictOf [⟨la1, .str (Str.ofString "scripts") lu1, .ref dr⟩, ⟨la2, .str (Str.ofString "features") lu2, .ref fr⟩, ⟨la3, .str (Str.ofString "lookups") lu3, .ref lr⟩] 3)] ++ (((lr, LCg.lst lvs) :: ln) ++ (((fr, LCg.lst fvs) :: fn) ++ ((dr, dob) :: dn)))) (by assumption) (News.sub NZ (by k_extra "m_sub"))
            (xi15 lax lad dr dob dkv fr fvs lr lvs la1 la2 la3 lu1 lu2 lu3 ⟨rfl, .head _, .tail _ (.head _), by k_extra "m_in", dlo, dhd, dhk.mono fun _ _ x => ScrAt.mono x (by k_extra "m_sub"), by k_extra "m_in", hfx.mono fun _ _ x => FeatAt.mono x (by k_extra "m_sub"), by k_extra "m_in", hlx.mono fun _ _ x => LookAt.mono x (by k_extra "m_sub")⟩) ?_
          · exact bo e1 (bo ev (bo e3 (bo dhx (bo hfr (bo hlr rfl)))))
          · exact Apart.app (Apart.cons (fun p hp => Nat.ne_of_lt (hla1 p (by k_extra "m_in"))) (Apart.cons (fun p hp => Nat.ne_of_lt (hla2 p (by k_extra "m_in"))) Apart.nil)) (Apart.app (hla.mono (by k_extra "m_sub")) (Apart.app (hfa.mono (by k_extra "m_sub")) (dha.mono (by k_extra "m_sub"))))
  · rename rdU16 D 0 = .ok _ => e1
    rename rdU16 D (0 + 2) = .ok _ => e2
    rename _ = (1 : Int) => hv1
    rw [hv1] at e1
    rename rdRows D _ _ = .error _ => e3
    rw [f2] at e2
    rw [f2, f4] at e3
    refine hE _ _ _ _ _ (herr _ ?_)
    exact bo e1 (bo (show rdVer D 1 = .ok () by unfold rdVer; rw [if_pos rfl, e2]; exact if_neg (by assumption)) (be (rows3_err e3)))
  · rename rdU16 D 0 = .ok _ => e1
    rename rdU16 D (0 + 2) = .error _ => e2
    rename _ = (1 : Int) => hv1
    rw [hv1] at e1
    rw [f2] at e2
    refine hE _ _ _ _ _ (herr _ ?_)
    exact bo e1 (be (show rdVer D 1 = .error _ by unfold rdVer; rw [if_pos rfl, e2]))
  · rename rdU16 D 0 = .error _ => e1
    refine hE _ _ _ _ _ (herr _ ?_)
    exact be e1
end
theorem off_ZF : True := by
  k_with "off ZF" => (skip)
  exact trivial
end
section
/-! a dict's keys, sorted -/
noncomputable def strLe (x y : Str) : Prop := ¬ y.cps.toList < x.cps.toList
theorem strLe_trans {x y z : Str} (h : strLe x y) (k : strLe y z) : strLe x z := by
  unfold strLe at *
  rw [List.not_lt] at *
  exact List.le_trans h k
theorem strLe_anti {x y : Str} (h : strLe x y) (k : strLe y x) : x = y := by
  unfold strLe at *
  rw [List.not_lt] at *
  have e := List.le_antisymm h k
  cases x; cases y
  simp only [Str.mk.injEq]
  exact Array.toList_inj.mp e
theorem risingS_spec : ∀ (l : List Str) (p : Str), risingS p l = true → (p :: l).Pairwise strLe
  | [], p, _ => List.pairwise_singleton _ _
  | x :: r, p, h => by
    have h' : (!ltCps x.cps.toList p.cps.toList && risingS x r) = true := h
    rw [Bool.and_eq_true] at h'
    have ih := risingS_spec r x h'.2
    have hpx : strLe p x := by
      have := h'.1
      rw [ltCps_eq] at this
      simpa [strLe] using this
    refine List.pairwise_cons.mpr ⟨fun y hy => ?_, ih⟩
    rcases List.mem_cons.mp hy with rfl | hy
    · exact hpx
    · exact strLe_trans hpx ((List.pairwise_cons.mp ih).1 y hy)
theorem sortedS_spec : ∀ (l : List Str), sortedS l = true → l.Pairwise strLe
  | [], _ => .nil
  | x :: r, h => risingS_spec r x h
theorem str_uniq : ∀ {a b : List Str}, a.Perm b → a.Pairwise strLe → b.Pairwise strLe → a = b
  | [], _, p, _, _ => p.nil_eq
  | x :: r, b, p, ha, hb => by
    cases b with
    | nil => exact absurd p.length_eq (by simp)
    | cons y t =>
      have hx : x ∈ y :: t := p.mem_iff.mp (.head _)
      have hy : y ∈ x :: r := p.mem_iff.mpr (.head _)
      have e : x = y := by
        rcases List.mem_cons.mp hx with h | h
        · exact h
        · rcases List.mem_cons.mp hy with h' | h'
          · exact h'.symm
          · exact strLe_anti ((List.pairwise_cons.mp ha).1 y h') ((List.pairwise_cons.mp hb).1 x h)
      subst e
      rw [str_uniq (List.Perm.cons_inv p) (List.pairwise_cons.mp ha).2 (List.pairwise_cons.mp hb).2]
theorem tags_le {α : Type} {rs : List (List Int × α)} (h : Asc rs) : (rs.map fun p => tagStr p.1).Pairwise strLe := by
  refine List.pairwise_map.mpr (h.imp fun {p q} hpq => ?_)
  unfold strLe tagStr
  exact fun hc => List.lt_irrefl _ (List.lt_trans hpq hc)
section
variable {prog : Program} {w : World} {A : Around} {E : Value → Shared → Prop} {s : Shared} {h₀ : Heap} {L D : Addr} {m : Str → Option Value} {news : List (Addr × Obj)} {Q : Value → Shared → Prop} {vs : List Value} {ss : List Str}
theorem sort_strs (F : Fr h₀ L s.heap m) (N : News h₀ L s.heap ((D, listOf vs.toArray 0) :: news)) (hD : ∀ q ∈ news, q.1 < D) (hS : StrsAre vs ss) (h64 : vs.length < 64) (hle : ss.Pairwise strLe)
    (h : ∀ h' out e, Fr h₀ L h' m → News h₀ L h' ((D, lsO out e) :: news) → StrsAre out ss → Q .none { s with heap := h' }) : wpAny (model prog w) A (call (.builtin "list.sort") [.ref D]) Q E s := by
  have z := N _ (.head _)
  dsimp only at z
  refine wpAny_call_entry slot_list_sort ⟨_, z.1, rfl⟩ entry_list_sort (list_sort_treeK strKind_oneLt z.1 hS.keysOf (fun v₁ v₂ rest e => keyKind_strs (by rw [← e]; exact hS)) h64 fun st' hp hs => ⟨.none, rfl, ?_⟩) (args_list_sort _)
  refine (let Gz : Prop := _; (?_ : Gz))
  (refine ex1 (sorted_out_str hS hp hs) fun ss' hAz109 => ?_; refine and3 (hAz109) fun h1 h2 h3 => ?_; clear hAz109)
  k_unfold; clear Gz
  have e1 := str_uniq h2 (sortedS_spec _ h3) hle
  subst e1
  refine (let Gz : Prop := _; (?_ : Gz))
  obtain ⟨e, he⟩ := sortedHeap_at (out := (arrOf st').map (·.2)) z.1
  k_unfold; clear Gz
  have old : ∀ b o, b ≠ D → s.heap.get? b = some o → (sortedHeap s.heap D vs ((arrOf st').map (·.2))).get? b = some o := fun b o hb e => by
    rw [sortedHeap_old hb (Heap.lt_size e)]; exact e
  refine h _ ((arrOf st').map (·.2)).toList e ?_ ?_ h1
  · exact PyProof.Rows.LCg.fr_but F (fun b o hb e => old b o (by simpa using hb) e) (Ne.symm z.2.1) z.2.2
  · intro p hp
    rcases List.mem_cons.mp hp with rfl | hp
    · exact ⟨he, z.2⟩
    · exact ⟨old _ _ (Nat.ne_of_lt (hD p hp)) (N p (.tail _ hp)).1, (N p (.tail _ hp)).2⟩
theorem strs_of_keys {kvs : List (Str × Value)} : ∀ (ks : List (Str × Value)) (vs : List Value), vs.length = ks.length → (∀ (j : Nat) (v : Value), vs[j]? = some v → ∃ k x, ks[j]? = some (k, x) ∧ (PySem.strKind prog w).is k v = true) → StrsAre vs (ks.map (·.1))
  | [], [], _, _ => .nil
  | [], _ :: _, h, _ => by cases h
  | _ :: _, [], h, _ => by cases h
  | k :: ks, v :: vs, h, hv => by
    refine (let Gz : Prop := _; (?_ : Gz))
    (refine ex2 (hv 0 v rfl) fun k' x hAz110 => ?_; refine and2 (hAz110) fun e hk => ?_; clear hAz110)
    k_unfold; clear Gz
    cases e
    refine (let Gz : Prop := _; (?_ : Gz))
    obtain ⟨t, rfl⟩ := Value.isStrOf_shape hk
    k_unfold; clear Gz
    exact .cons _ t (strs_of_keys (kvs := kvs) ks vs (by simpa using h) fun j u hu => hv (j + 1) u hu)
theorem sorted_keys {d : Addr} {o : Obj} {kvs : List (Str × Value)} (hh : A.handled = none) (F : Fr h₀ L s.heap m) (N : News h₀ L s.heap news) (hp : (d, o) ∈ news) (hd : o.IsDictOf (PySem.strKind prog w) kvs) (lo : (d == sysModules) = false) (hn : kvs.length < 64) (hle : (kvs.map (·.1)).Pairwise strLe)
    (h : ∀ D h' tk out e, Fr h₀ L h' m → News h₀ L h' ((D, lsO out e) :: news) → (∀ q ∈ news, q.1 < D) → StrsAre out (kvs.map (·.1)) → Q (.ref D) { s with heap := h', toks := tk }) : wpAny (model prog w) A (call (.builtin "sorted") [.ref d]) Q E s := by
  refine (let Gz : Prop := _; (?_ : Gz))
  obtain ⟨ep, hat⟩ := (kda_dict N hp hd).dictAt
  k_unfold; clear Gz
  refine kdu_sorted (kdl_dict (knd := PySem.strKind prog w) (kvs := kvs) (ep := ep) lo) hh F N hat (by rw [sizeLine_eq]; (first | lia | omega)) fun D h' tk vs F' N' l1 hl hv => ?_
  have hS := strs_of_keys (prog := prog) (w := w) (kvs := kvs) kvs vs hl hv
  exact sort_strs F' N' l1 hS (by (first | lia | omega)) hle fun h'' out e F'' N'' hO => h D h'' tk out e F'' N'' l1 hO
theorem tuple_V {l : Addr} {n : Nat} (F : Fr h₀ L s.heap m) (N : News h₀ L s.heap news) (hm : (l, lsO vs n) ∈ news) (hz : vs.length ≤ 16000)
    (h : ∀ D h', Fr h₀ L h' m → News h₀ L h' ((D, tupO vs) :: news) → (∀ p ∈ news, p.1 < D) → Q (.ref D) { s with heap := h' }) : wpAny (model prog w) A (call (.type "tuple") [.ref l]) Q E s :=
  kde_tupleOf (items := vs.toArray) F N ⟨_, (N _ hm).1, rfl, _, rfl⟩ (by rw [List.size_toArray]; (first | lia | omega)) (zs := vs) rfl h
end
end
section
theorem reset_ZG : True := by
  w_top off
  exact trivial

noncomputable def intsD (l : List Int) : Dat := .tuple (l.map Dat.int)
noncomputable def langD (p : Int × List Int) : Dat := .tuple [.int p.1, intsD p.2]
theorem dat_ints {tl : List (Addr × Obj)} {vs : List Value} {ns : List Int} (h : IntsAre vs ns) : DatAll tl vs (ns.map Dat.int) := by
  induction h with
  | nil => exact .nil
  | cons n t _ ih => exact .cons (.int _ _) ih
section
variable {w : World} {dp un : Nat} {gd : Option (List Code)} {cn : Str} {cs : Scope} {a : Addr} {ccd : Value} {cl : List (Str × Addr)} {outer : List Env} {A₀ : Around} {base h₀ : Heap} {L : Addr} {m : Str → Option Value} {s : Shared} {Q E : Value → Shared → Prop} {p : Program} {loose : List Str} {mean : ExcName → Option Value} {mg mb : Str → Option Value} {news : List (Addr × Obj)} {tb : Tok} {b : Array UInt8}
variable (B : Below A₀ base outer h₀) (F : Fr h₀ L s.heap m) (X : (hd.heap_39 w.params).In h₀) (N : News h₀ L s.heap news) (T : Top p loose mean mg mb h₀) (hk : cs.kind = .function)
include B F X N T hk
set_option maxHeartbeats 1000000 in
theorem lang_told (hd : dp + 10 < recursionLimit) (hu : un + 100 < cLine) {tl : List (Addr × Obj)} {x : Addr} {pv : Int × List Int} (hx : LangAt tl (.ref x) pv) (hs : ∀ q ∈ tl, q ∈ news) (hz : pv.2.length ≤ 16000)
    (hret : ∀ h' tk' t nw, Fr h₀ L h' m → News h₀ L h' (nw ++ news) → DatIn nw (.ref t) (langD pv) → Apart nw news → Q (.ref t) { s with heap := h', toks := tk' }) :
    Cl w dp un gd cn cs L a ccd cl outer 212 [.ref x] Q E s := by
  refine (let Gz : Prop := _; (?_ : Gz))
  (refine ex9 (hx) fun x' dx f c1 c2 k1 k2 tq vs hAz111 => ?_; clear hx; ((refine ex1 (hAz111) fun n hAz112 => ?_; clear hAz111; refine and5 (hAz112) fun e m1 m2 m3 hi => ?_; clear hAz112)))
  k_unfold; clear Gz
  cases e
  have N0 : News h₀ L s.heap ((x, instO 215 dx) :: (dx, dictOf [⟨c1, .str (Str.ofString "required") k1, .int pv.1 tq⟩, ⟨c2, .str (Str.ofString "features") k2, .ref f⟩] 2) :: (f, lsO vs n) :: news) :=
    News.sub N ((fmc (hs _ m1) ((fmc (hs _ m2) ((fmc (hs _ m3) (fun _ h => h)))))))
  clear N
  have hvz : vs.length ≤ 16000 := by rw [hi.length]; exact hz
  k_dflt (refine' enter [("self", .ref x)] B F X N0 T hk ?k6 ?k7 ?k8 ?k9 ?kB ?c2 ?c3 ?c4 ?c5 ?_; k_extra "m_sides")
  intro g' L' h₁ E' FG F' N' B' X' T' hP hE
  try dsimp only
  try k_fold
  refine foldAV ?_; intro Mz Az vz gz dz oz
  k_extra "m_steps"
  rename News h₀ L _ _ => NZ
  refine hret _ _ tw [(tw, tupO [.int pv.1 tq, .ref tcp]), (tcp, tupO vs)] (by assumption) (News.sub NZ (by k_extra "m_sub")) (.tuple (.head _) (.cons (.int _ _) (.cons (.tuple (.tail _ (.head _)) (dat_ints hi)) .nil))) ?_
  exact Apart.cons (fun p hp => Nat.ne_of_lt (ltwx p (by k_extra "m_in"))) (Apart.cons (fun p hp => Nat.ne_of_lt (ltcpx p (by k_extra "m_in"))) Apart.nil)
end
theorem off_ZG : True := by
  k_with "off ZG" => (skip)
  exact trivial
end
section
theorem reset_ZH : True := by
  w_top off
  exact trivial

noncomputable def featD (p : List Int × List Int) : Dat := .tuple [.str (tagStr p.1), intsD p.2]
noncomputable abbrev LookV : Type := Str × Int × Int × List (Int × List Int)
noncomputable def heldOf (fl mk : Int) : Int := if Builtin.bitAnd fl 16 = 0 then -1 else mk
noncomputable def lookD (p : LookV) : Dat := .tuple [.str p.1, .int p.2.1, .int (heldOf p.2.1 p.2.2.1), .tuple (p.2.2.2.map langD)]
theorem LangAt.ref {tl : List (Addr × Obj)} {v : Value} {p : Int × List Int} (h : LangAt tl v p) : ∃ x dx f c1 c2 k1 k2 tq, v = .ref x ∧ (x, instO 215 dx) ∈ tl ∧ (dx, dictOf [⟨c1, .str (Str.ofString "required") k1, .int p.1 tq⟩, ⟨c2, .str (Str.ofString "features") k2, .ref f⟩] 2) ∈ tl := by
  refine (let Gz : Prop := _; (?_ : Gz))
  (refine ex9 (h) fun x dx f c1 c2 k1 k2 tq vs hAz113 => ?_; clear h; ((refine ex1 (hAz113) fun n hAz114 => ?_; clear hAz113; refine and5 (hAz114) fun e m1 m2 m3 hi => ?_; clear hAz114)))
  k_unfold; clear Gz
  exact (xi8 x dx f c1 c2 k1 k2 tq ⟨e, m1, m2⟩)
section
variable {w : World} {dp un : Nat} {gd : Option (List Code)} {cn : Str} {cs : Scope} {a : Addr} {ccd : Value} {cl : List (Str × Addr)} {outer : List Env} {A₀ : Around} {base h₀ : Heap} {L : Addr} {m : Str → Option Value} {s : Shared} {Q E : Value → Shared → Prop} {p : Program} {loose : List Str} {mean : ExcName → Option Value} {mg mb : Str → Option Value} {news : List (Addr × Obj)} {tb : Tok} {b : Array UInt8}
variable (B : Below A₀ base outer h₀) (F : Fr h₀ L s.heap m) (X : (hd.heap_39 w.params).In h₀) (N : News h₀ L s.heap news) (T : Top p loose mean mg mb h₀) (hk : cs.kind = .function)
include B F X N T hk
set_option maxHeartbeats 1000000 in
theorem feat_told (hd : dp + 10 < recursionLimit) (hu : un + 100 < cLine) {tl : List (Addr × Obj)} {x : Addr} {pv : List Int × List Int} (hx : FeatAt tl (.ref x) pv) (hs : ∀ q ∈ tl, q ∈ news) (hz : pv.2.length ≤ 16000)
    (hret : ∀ h' tk' t nw, Fr h₀ L h' m → News h₀ L h' (nw ++ news) → DatIn nw (.ref t) (featD pv) → Apart nw news → Q (.ref t) { s with heap := h', toks := tk' }) :
    Cl w dp un gd cn cs L a ccd cl outer 266 [.ref x] Q E s := by
  refine (let Gz : Prop := _; (?_ : Gz))
  (refine ex9 (hx) fun x' dx f c1 c2 k1 k2 tq vs hAz115 => ?_; clear hx; ((refine ex1 (hAz115) fun n hAz116 => ?_; clear hAz115; refine and5 (hAz116) fun e m1 m2 m3 hi => ?_; clear hAz116)))
  k_unfold; clear Gz
  cases e
  have N0 : News h₀ L s.heap ((x, instO 269 dx) :: (dx, dictOf [⟨c1, .str (Str.ofString "tag") k1, .str (tagStr pv.1) tq⟩, ⟨c2, .str (Str.ofString "lookups") k2, .ref f⟩] 2) :: (f, lsO vs n) :: news) :=
    News.sub N ((fmc (hs _ m1) ((fmc (hs _ m2) ((fmc (hs _ m3) (fun _ h => h)))))))
  clear N
  have hvz : vs.length ≤ 16000 := by rw [hi.length]; exact hz
  k_dflt (refine' enter [("self", .ref x)] B F X N0 T hk ?k6 ?k7 ?k8 ?k9 ?kB ?c2 ?c3 ?c4 ?c5 ?_; k_extra "m_sides")
  intro g' L' h₁ E' FG F' N' B' X' T' hP hE
  try dsimp only
  try k_fold
  refine foldAV ?_; intro Mz Az vz gz dz oz
  k_extra "m_steps"
  rename News h₀ L _ _ => NZ
  refine hret _ _ tw [(tw, tupO [.str (tagStr pv.1) tq, .ref tcp]), (tcp, tupO vs)] (by assumption) (News.sub NZ (by k_extra "m_sub")) (.tuple (.head _) (.cons (.str _ _) (.cons (.tuple (.tail _ (.head _)) (dat_ints hi)) .nil))) ?_
  exact Apart.cons (fun p hp => Nat.ne_of_lt (ltwx p (by k_extra "m_in"))) (Apart.cons (fun p hp => Nat.ne_of_lt (ltcpx p (by k_extra "m_in"))) Apart.nil)
theorem lines_ZH1 : True := by
  k_with "call ref" => (first | ((fail_if_success (k_extra "off ZH")); (k_here; (with_reducible show wpAny _ _ (call (Value.ref 212) _) _ _ _); k_dflt (refine' lang_told ?k1 ?k2 ?k3 ?k4 ?k5 ?kK ?kd ?ku ?hx ?hs ?hz ?_; (case k1 => k_asm); (case k2 => k_asm); (case k3 => k_asm); (case k4 => k_extra "m_news"); (case k5 => k_asm); (case kK => first | exact rfl | assumption); (case kd => first | exact room_n (by with_reducible assumption) (by decide) | ktr_room); (case ku => first | exact room_n (by with_reducible assumption) (by decide) | ktr_units); (case hx => assumption); (case hs => first | k_extra "m_sub" | exact hsx _); (case hz => first | assumption | (k_extra "m_om")); (intro h' tk' tgt tgn F' N' htgd htga; (try k_sweep))))) | fail)
  k_with "eval IfExp" => (first | ((fail_if_success (k_extra "off ZH")); (k_here; (fail_if_success (with_reducible show wpAny _ _ _ (Join _) _ _)); refine of_stop ?_)) | fail)
  exact trivial
set_option maxHeartbeats 1000000 in
theorem look_told (hd : dp + 20 < recursionLimit) (hu : un + 150 < cLine) {tl : List (Addr × Obj)} {x : Addr} {pv : LookV} (hx : LookAt tl (.ref x) pv) (hs : ∀ q ∈ tl, q ∈ news) (hz : pv.2.2.2.length ≤ 16000) (hy : ∀ q ∈ pv.2.2.2, q.2.length ≤ 16000)
    (hret : ∀ h' tk' t nw, Fr h₀ L h' m → News h₀ L h' (nw ++ news) → DatIn nw (.ref t) (lookD pv) → Apart nw news → Q (.ref t) { s with heap := h', toks := tk' }) :
    Cl w dp un gd cn cs L a ccd cl outer 82 [.ref x] Q E s := by
  refine (let Gz : Prop := _; (?_ : Gz))
  (refine ex9 (hx) fun x' dx f c1 c2 c3 c4 k1 k2 hAz117 => ?_; clear hx; ((refine ex6 (hAz117) fun k3 k4 t1 t2 t3 vs hAz118 => ?_; clear hAz117; refine and5 (hAz118) fun e m1 m2 m3 hi => ?_; clear hAz118)))
  k_unfold; clear Gz
  cases e
  have hOz4 : ∃ r, r = (x, instO 85 dx) :: (dx, dictOf [⟨c1, .str (Str.ofString "kind") k1, .str pv.1 t1⟩, ⟨c2, .str (Str.ofString "flag") k2, .int pv.2.1 t2⟩, ⟨c3, .str (Str.ofString "mark_set") k3, .int pv.2.2.1 t3⟩, ⟨c4, .str (Str.ofString "tables") k4, .ref f⟩] 4) :: (f, LCg.lst vs) :: news := ⟨_, rfl⟩
  refine (let Gz : Prop := _; (?_ : Gz))
  obtain ⟨rest, hrest⟩ := hOz4
  k_unfold; clear Gz
  have N0 : News h₀ L s.heap ((x, instO 85 dx) :: (dx, dictOf [⟨c1, .str (Str.ofString "kind") k1, .str pv.1 t1⟩, ⟨c2, .str (Str.ofString "flag") k2, .int pv.2.1 t2⟩, ⟨c3, .str (Str.ofString "mark_set") k3, .int pv.2.2.1 t3⟩, ⟨c4, .str (Str.ofString "tables") k4, .ref f⟩] 4) :: (f, LCg.lst vs) :: news) :=
    News.sub N ((fmc (hs _ m1) ((fmc (hs _ m2) ((fmc (hs _ m3) (fun _ h => h)))))))
  clear N
  have hvz : vs.length ≤ 16000 := by rw [hi.length]; exact hz
  k_dflt (refine' enter [("self", .ref x)] B F X N0 T hk ?k6 ?k7 ?k8 ?k9 ?kB ?c2 ?c3 ?c4 ?c5 ?_; k_extra "m_sides")
  intro g' L' h₁ E' FG F' N' B' X' T' hP hE
  try dsimp only
  try k_fold
  refine foldAV ?_; intro Mz Az vz gz dz oz
  k_extra "m_steps"
  rename Fr g' L' _ _ => F5
  rename News g' L' _ _ => N5
  refine join_int (.ok (heldOf pv.2.1 pv.2.2.1)) F5 N5 ?_ ?_
  · k_extra "m_steps"
    · exact IntP.mk (by assumption) (by assumption) (congrArg Except.ok (if_neg (by assumption)))
    · exact IntP.mk (by assumption) (by assumption) (congrArg Except.ok (if_pos (by assumption)))
  intro h' tk' hx thx F6 N6 e'
  have e : heldOf pv.2.1 pv.2.2.1 = hx := Except.ok.inj e'
  clear F5 N5 e'
  k_extra "m_steps"
  rename Fr g' L' _ _ => F5
  rename News g' L' _ _ => N5
  replace N5 := News.sub (news' := rest) N5 (by rw [hrest]; exact fun _ h => h)
  have hf : (f, LCg.lst vs) ∈ rest := by rw [hrest]; k_extra "m_in"
  have hnr : ∀ q ∈ news, q ∈ rest := by rw [hrest]; k_extra "m_sub"
  refine at_list1 (kp := []) (its := vs.toArray) (fun _ => False) (fun j ys nw => ∃ t2, nw = t2 ++ rest ∧ DatAll t2 ys ((pv.2.2.2.take j).map langD) ∧ Apart t2 rest) B' F5 N5 rfl rfl rfl ?_ ?_ (by decide) rfl rfl ?_ ?_ ⟨[], rfl, .nil, Apart.nil⟩ ?_ ?_ ?_
  · rw [List.size_toArray, sizeLine_eq]; (k_extra "m_om")
  · intro j ys nw hJz5
    refine (let Gz : Prop := _; (?_ : Gz))
    (refine ex1 (hJz5) fun t2 hAz119 => ?_; clear hJz5; refine and2 (hAz119) fun hEz119_1 _ => ?_; clear hAz119; subst hEz119_1)
    k_unfold; clear Gz
    exact .inr ⟨_, List.mem_append_right _ hf, rfl, _, rfl⟩
  · intro _ _ _ _ _ hp; cases hp
  · intro _ hp; cases hp
  · intro _ hz; exact hz.elim
  · intro j v ys nw I oI C oC D' m₂ h tk hv hJz6
    refine (let Gz : Prop := _; (?_ : Gz))
    (refine ex1 (hJz6) fun t2 hAz120 => ?_; clear hJz6; refine and3 (hAz120) fun hEz120_1 hd2 hap => ?_; clear hAz120; subst hEz120_1)
    k_unfold; clear Gz
    intro hoC hx1 F1 N1 O3 hne hkk
    refine (let Gz : Prop := _; (?_ : Gz))
    (refine ex1 (hi.get (by simpa using hv)) fun q hAz121 => ?_; refine and2 (hAz121) fun hq hl => ?_; clear hAz121)
    k_unfold; clear Gz
    refine (let Gz : Prop := _; (?_ : Gz))
    (refine ex8 (hl.ref) fun xv dxv fv y1 y2 y3 y4 y5 hAz122 => ?_; refine and3 (hAz122) fun hEz122_8 mx md => ?_; clear hAz122; subst hEz122_8)
    k_unfold; clear Gz
    have hbz := hy q (List.mem_of_getElem? hq)
    have hs1 : ∀ z ∈ tl, z ∈ (xv, instO 215 dxv) :: (dxv, dictOf [⟨y1, .str (Str.ofString "required") y3, .int q.1 y5⟩, ⟨y2, .str (Str.ofString "features") y4, .ref fv⟩] 2) :: (I, oI) :: (C, oC) :: (D', LCg.lst ys) :: (t2 ++ rest) := fun q hq => .tail _ (.tail _ (.tail _ (.tail _ (.tail _ (List.mem_append_right _ (hnr _ (hs _ hq)))))))
    replace N1 := News.sub (news' := (xv, instO 215 dxv) :: (dxv, dictOf [⟨y1, .str (Str.ofString "required") y3, .int q.1 y5⟩, ⟨y2, .str (Str.ofString "features") y4, .ref fv⟩] 2) :: (I, oI) :: (C, oC) :: (D', LCg.lst ys) :: (t2 ++ rest)) N1 ((fmc (.tail _ (.tail _ (.tail _ (List.mem_append_right _ (hnr _ (hs _ mx)))))) ((fmc (.tail _ (.tail _ (.tail _ (List.mem_append_right _ (hnr _ (hs _ md)))))) (fun _ h => h)))))
    k_extra "m_steps"
    refine LCg.CompEnd.intro (by assumption) (by assumption) ((tgn ++ t2) ++ rest) (by k_extra "m_sub") (by rw [List.append_assoc]; exact off3_app O3 (off3_of_apart (htga.mono fun p hp => .tail _ (.tail _ hp)))) trivial
      ⟨tgn ++ t2, rfl, ?_, Apart.app (htga.mono (by k_extra "m_sub")) hap⟩
    rw [take_snoc hq, List.map_append]
    exact DatAll.append (hd2.mono fun p hp => List.mem_append_right _ hp) (.one (htgd.mono fun p hp => List.mem_append_left _ hp))
  · refine fin_none ?_
    intro D' h tk ys nw F2 N2 hno hJz9
    refine (let Gz : Prop := _; (?_ : Gz))
    (refine ex1 (hJz9) fun t2 hAz123 => ?_; clear hJz9; refine and3 (hAz123) fun hEz123_1 hd2 hap => ?_; clear hAz123; subst hEz123_1)
    k_unfold; clear Gz
    rw [List.size_toArray, hi.length, List.take_length] at hd2
    have hyz : ys.length ≤ 16000 := by rw [hd2.length, List.length_map]; exact hz
    k_extra "m_steps"
    rename News h₀ L _ _ => NZ
    refine hret _ _ tw ([(tw, ?_), (tcp, tupO ys)] ++ t2) (by assumption) (News.sub NZ ?_) ?_ ?_
    rotate_left
    · refine List.forall_mem_append.mpr ⟨List.forall_mem_append.mpr ⟨by k_extra "m_sub", by k_extra "m_sub"⟩, fun p hp => ?_⟩
      exact .tail _ (.tail _ (.tail _ (List.mem_append_right _ (hnr p hp))))
    · unfold lookD
      rw [e]
      exact .tuple (.head _) (.cons (.str _ _) (.cons (.int _ _) (.cons (.int _ _) (.cons (.tuple (.tail _ (.head _)) (hd2.mono fun p hp => .tail _ (.tail _ hp))) .nil))))
    · exact Apart.app (Apart.cons (fun p hp => Nat.ne_of_lt (ltwx p (.tail _ (.tail _ (List.mem_append_right _ (hnr p hp)))))) (Apart.cons (fun p hp => Nat.ne_of_lt (ltcpx p (.tail _ (List.mem_append_right _ (hnr p hp))))) Apart.nil)) (hap.mono hnr)
end
theorem off_ZH : True := by
  k_with "off ZH" => (skip)
  exact trivial
end
section
theorem reset_ZI : True := by
  w_top off
  exact trivial

noncomputable def defD : Option (Int × List Int) → Dat
  | none => .none
  | some x => langD x
noncomputable def pairD (q : List Int × (Int × List Int)) : Dat := .tuple [.str (tagStr q.1), langD q.2]
noncomputable def scrD (p : List Int × ScrV) : Dat := .tuple [.str (tagStr p.1), defD p.2.1, .tuple (p.2.2.map pairD)]
noncomputable def LangOk (x : Int × List Int) : Prop := x.2.length ≤ 16000
noncomputable def ScrOk (p : ScrV) : Prop := p.2.length < 64 ∧ Asc p.2 ∧ (∀ q ∈ p.2, q.2.2.length ≤ 16000) ∧ (∀ x, p.1 = some x → x.2.length ≤ 16000)
theorem asc_nodup {α : Type} {ls : List (List Int × α)} (h : Asc ls) : (ls.map fun p => tagStr p.1).Nodup :=
  List.pairwise_map.mpr (h.imp fun {p q} hpq => tagLt_ne hpq)
theorem KvsAt.get {α : Type} {R : Value → List Int × α → Prop} {kvs : List (Str × Value)} {ls : List (List Int × α)} (h : KvsAt R kvs ls) (ha : Asc ls) {j : Nat} {k : Str} (hk : (kvs.map (·.1))[j]? = some k) : ∃ q v, ls[j]? = some q ∧ k = tagStr q.1 ∧ valueAt kvs k = some v ∧ R v q := by
  refine (let Gz : Prop := _; (?_ : Gz))
  obtain ⟨hm, hr⟩ := h
  k_unfold; clear Gz
  rw [List.getElem?_map] at hk
  cases hp : kvs[j]? with
  | none => rw [hp] at hk; cases hk
  | some p =>
    rw [hp] at hk
    cases hk
    have h2 : (kvs.map (·.2))[j]? = some p.2 := by rw [List.getElem?_map, hp]; rfl
    refine (let Gz : Prop := _; (?_ : Gz))
    (refine ex1 (hr.get h2) fun q hAz124 => ?_; refine and2 (hAz124) fun hq hR => ?_; clear hAz124)
    k_unfold; clear Gz
    have h1 : (kvs.map (·.1))[j]? = some p.1 := by rw [List.getElem?_map, hp]; rfl
    rw [hm, List.getElem?_map, hq] at h1
    exact ⟨q, p.2, hq, (Option.some.inj h1).symm, valueAt_of_get (i := j) (by rw [hm]; exact asc_nodup ha) (by rw [hp]), hR⟩
theorem strs_at {vs : List Value} {ss : List Str} (h : StrsAre vs ss) {j : Nat} {v : Value} (hv : vs[j]? = some v) : ∃ x t, ss[j]? = some x ∧ v = .str x t := by
  induction h generalizing j with
  | nil => simp at hv
  | cons x t _ ih =>
    cases j with
    | zero => simp at hv; subst hv; exact ⟨x, t, rfl, rfl⟩
    | succ j => exact ih (by simpa using hv)
theorem getItem_K {prog : Program} {w : World} {A : Around} {E : Value → Shared → Prop} {s : Shared} {h₀ : Heap} {L d : Addr} {news : List (Addr × Obj)} {o : Obj} {kvs : List (Str × Value)} {k : Str} {key v : Value} {Q : Value → Shared → Prop} (N : News h₀ L s.heap news) (hp : (d, o) ∈ news) (hd : o.IsDictOf (PySem.strKind prog w) kvs) (hkey : (PySem.strKind prog w).is k key = true) (hl : valueAt kvs k = some v) (h : Q v { s with toks := s.toks + 1 }) :
    wpAny (model prog w) A (getItem (.ref d) key) Q E s := wpAny_getItem_of hkey (kda_dict N hp hd).mapOf hl h
section
variable {w : World} {dp un : Nat} {gd : Option (List Code)} {cn : Str} {cs : Scope} {a : Addr} {ccd : Value} {cl : List (Str × Addr)} {outer : List Env} {A₀ : Around} {base h₀ : Heap} {L : Addr} {m : Str → Option Value} {s : Shared} {Q E : Value → Shared → Prop} {p : Program} {loose : List Str} {mean : ExcName → Option Value} {mg mb : Str → Option Value} {news : List (Addr × Obj)} {tb : Tok} {b : Array UInt8}
variable (B : Below A₀ base outer h₀) (F : Fr h₀ L s.heap m) (X : (hd.heap_39 w.params).In h₀) (N : News h₀ L s.heap news) (T : Top p loose mean mg mb h₀) (hk : cs.kind = .function)
include B F X N T hk
theorem lines_ZI1 : True := by
  k_with "call ref" => (first | ((fail_if_success (k_extra "off ZI")); (k_here; (with_reducible show wpAny _ _ (call (Value.ref 212) _) _ _ _); k_dflt (refine' lang_told ?k1 ?k2 ?k3 ?k4 ?k5 ?kK ?kd ?ku ?hx ?hs ?hz ?_; (case k1 => k_asm); (case k2 => k_asm); (case k3 => k_asm); (case k4 => k_extra "m_news"); (case k5 => k_asm); (case kK => first | exact rfl | assumption); (case kd => first | exact room_n (by with_reducible assumption) (by decide) | ktr_room); (case ku => first | exact room_n (by with_reducible assumption) (by decide) | ktr_units); (case hx => assumption); (case hs => first | k_extra "m_sub" | exact hsx _); (case hz => first | assumption | (k_extra "m_om")); (intro h' tk' tgt tgn F' N' htgd htga; (try k_sweep))))) | fail)
  k_with "call builtin:sorted" => (first | ((fail_if_success (k_extra "off ZI")); (k_here; k_dflt (refine' sorted_keys rfl ?k1 ?k2 ?k3 ?k4 ?k5 ?k6 ?k7 ?_; (case k1 => k_asm); (case k2 => k_asm); (case k3 => k_mem); (case k4 => assumption); (case k5 => assumption); (case k6 => assumption); (case k7 => assumption)); intro sk h' tk' sv se F' N' lsk hsv; have lskx := lsk; (try k_lt lsk); (try k_sweep))) | fail)
  k_with "getItem ref str" => (first | ((fail_if_success (k_extra "off ZI")); (k_here; k_dflt (refine' getItem_K ?zk1 ?zk2 ?zk3 (strKind_is _ _ _ _) ?zk4 ?_; (case zk1 => k_asm); (case zk2 => k_mem); (case zk3 => assumption); (case zk4 => assumption)))) | fail)
  exact trivial
set_option maxHeartbeats 1000000 in
theorem scr_told (hd : dp + 20 < recursionLimit) (hu : un + 150 < cLine) {tl : List (Addr × Obj)} {x : Addr} {pv : List Int × ScrV} (hx : ScrAt w tl (.ref x) pv) (hs : ∀ q ∈ tl, q ∈ news) (hz : ScrOk pv.2)
    (hret : ∀ h' tk' t nw, Fr h₀ L h' m → News h₀ L h' (nw ++ news) → DatIn nw (.ref t) (scrD pv) → Apart nw news → Q (.ref t) { s with heap := h', toks := tk' }) :
    Cl w dp un gd cn cs L a ccd cl outer 238 [.ref x] Q E s := by
  refine (let Gz : Prop := _; (?_ : Gz))
  (refine ex9 (hx) fun x' dx d o kvs c1 c2 c3 k1 hAz125 => ?_; clear hx; ((refine ex4 (hAz125) fun k2 k3 t1 vd hAz126 => ?_; clear hAz125; refine and8 (hAz126) fun e m1 m2 m3 hlo hdo hdf hkv => ?_; clear hAz126)))
  k_unfold; clear Gz
  cases e
  refine (let Gz : Prop := _; (?_ : Gz))
  (refine and4 (hz) fun hz1 hz2 hz3 hz4 => ?_; clear hz)
  k_unfold; clear Gz
  have N0 : News h₀ L s.heap ((x, instO 241 dx) :: (dx, dictOf [⟨c1, .str (Str.ofString "tag") k1, .str (tagStr pv.1) t1⟩, ⟨c2, .str (Str.ofString "default") k2, vd⟩, ⟨c3, .str (Str.ofString "languages") k3, .ref d⟩] 3) :: (d, o) :: news) :=
    News.sub N ((fmc (hs _ m1) ((fmc (hs _ m2) ((fmc (hs _ m3) (fun _ h => h)))))))
  clear N
  have hkn : kvs.length < 64 := by rw [hkv.length]; exact hz1
  have hle : (kvs.map (·.1)).Pairwise strLe := by rw [hkv.1]; exact tags_le hz2
  k_dflt (refine' enterC [("self", .ref x)] B F X N0 T hk ?k6 ?k7 ?k8 ?k9 ?kB ?kD ?c2 ?c3 ?c4 ?_; k_extra "m_sidesC")
  intro g' L' h₁ tk cells E' FG F' N' Y' B' X' T' l' hP hE
  refine (let Gz : Prop := _; (?_ : Gz))
  (refine ex1 (CellsAre.one Y') fun o1 hAz129 => ?_; refine and2 (hAz129) fun hE1 d1 => ?_; clear hAz129)
  k_unfold; clear Gz
  subst hE1
  try simp only [List.cons_append, List.nil_append] at N'
  try dsimp only
  try k_fold
  refine foldAV ?_; intro Mz Az vz gz dz oz
  k_extra "m_steps"
  rename Fr g' L' _ _ => F5
  rename News g' L' _ _ => N5
  have hOz6 : ∃ r, r = (sk, lsO sv se) :: (L' + 1, o1) :: (x, instO 241 dx) :: (dx, dictOf [⟨c1, .str (Str.ofString "tag") k1, .str (tagStr pv.1) t1⟩, ⟨c2, .str (Str.ofString "default") k2, vd⟩, ⟨c3, .str (Str.ofString "languages") k3, .ref d⟩] 3) :: (d, o) :: news := ⟨_, rfl⟩
  refine (let Gz : Prop := _; (?_ : Gz))
  obtain ⟨rest, hrest⟩ := hOz6
  k_unfold; clear Gz
  replace N5 := News.sub (news' := rest) N5 (by rw [hrest]; k_extra "m_sub")
  have hf : (sk, lsO sv se) ∈ rest := by rw [hrest]; k_extra "m_in"
  have hf1 : (L' + 1, o1) ∈ rest := by rw [hrest]; k_extra "m_in"
  have hf2 : (x, instO 241 dx) ∈ rest := by rw [hrest]; k_extra "m_in"
  have hf3 : (dx, dictOf [⟨c1, .str (Str.ofString "tag") k1, .str (tagStr pv.1) t1⟩, ⟨c2, .str (Str.ofString "default") k2, vd⟩, ⟨c3, .str (Str.ofString "languages") k3, .ref d⟩] 3) ∈ rest := by rw [hrest]; k_extra "m_in"
  have hf4 : (d, o) ∈ rest := by rw [hrest]; k_extra "m_in"
  have hnr : ∀ q ∈ news, q ∈ rest := by rw [hrest]; k_extra "m_sub"
  have hsl : sv.length = pv.2.2.length := by rw [hsv.length, List.length_map, hkv.length]
  refine at_list1 (kp := []) (its := sv.toArray) (fun _ => False) (fun j ys nw => ∃ t2, nw = t2 ++ rest ∧ DatAll t2 ys ((pv.2.2.take j).map pairD) ∧ Apart t2 rest) B' F5 N5 rfl rfl rfl ?_ ?_ (by decide) rfl rfl ?_ ?_ ⟨[], rfl, .nil, Apart.nil⟩ ?_ ?_ ?_
  · rw [List.size_toArray, sizeLine_eq]; (k_extra "m_om")
  · intro j ys nw hJz7
    refine (let Gz : Prop := _; (?_ : Gz))
    (refine ex1 (hJz7) fun t2 hAz130 => ?_; clear hJz7; refine and2 (hAz130) fun hEz130_1 _ => ?_; clear hAz130; subst hEz130_1)
    k_unfold; clear Gz
    exact .inr ⟨_, List.mem_append_right _ hf, rfl, _, rfl⟩
  · intro _ _ _ _ _ hp; cases hp
  · intro _ hp; cases hp
  · intro _ hz; exact hz.elim
  · intro j v ys nw I oI C oC D' m₂ h tk hv hJz8
    refine (let Gz : Prop := _; (?_ : Gz))
    (refine ex1 (hJz8) fun t2 hAz131 => ?_; clear hJz8; refine and3 (hAz131) fun hEz131_1 hd2 hap => ?_; clear hAz131; subst hEz131_1)
    k_unfold; clear Gz
    intro hoC hx1 F1 N1 O3 hne hkk
    refine (let Gz : Prop := _; (?_ : Gz))
    (refine ex2 (strs_at hsv (by simpa using hv)) fun ky tky hAz132 => ?_; refine and2 (hAz132) fun hky hEz132_3 => ?_; clear hAz132; subst hEz132_3)
    k_unfold; clear Gz
    refine (let Gz : Prop := _; (?_ : Gz))
    (refine ex2 (hkv.get hz2 hky) fun q lv hAz133 => ?_; refine and4 (hAz133) fun hq hEz133_3 hva hl => ?_; clear hAz133; subst hEz133_3)
    k_unfold; clear Gz
    refine (let Gz : Prop := _; (?_ : Gz))
    (refine ex8 (hl.ref) fun xv dxv fv y1 y2 y3 y4 y5 hAz134 => ?_; refine and3 (hAz134) fun hEz134_8 mx md => ?_; clear hAz134; subst hEz134_8)
    k_unfold; clear Gz
    have hbz := hz3 q (List.mem_of_getElem? hq)
    replace N1 := News.sub (news' := (xv, instO 215 dxv) :: (dxv, dictOf [⟨y1, .str (Str.ofString "required") y3, .int q.2.1 y5⟩, ⟨y2, .str (Str.ofString "features") y4, .ref fv⟩] 2) :: (L' + 1, o1) :: (x, instO 241 dx) :: (dx, dictOf [⟨c1, .str (Str.ofString "tag") k1, .str (tagStr pv.1) t1⟩, ⟨c2, .str (Str.ofString "default") k2, vd⟩, ⟨c3, .str (Str.ofString "languages") k3, .ref d⟩] 3) :: (d, o) :: (I, oI) :: (C, oC) :: (D', LCg.lst ys) :: (t2 ++ rest)) N1
      ((fmc (.tail _ (.tail _ (.tail _ (List.mem_append_right _ (hnr _ (hs _ mx)))))) ((fmc (.tail _ (.tail _ (.tail _ (List.mem_append_right _ (hnr _ (hs _ md)))))) ((fmc (.tail _ (.tail _ (.tail _ (List.mem_append_right _ hf1)))) ((fmc (.tail _ (.tail _ (.tail _ (List.mem_append_right _ hf2)))) ((fmc (.tail _ (.tail _ (.tail _ (List.mem_append_right _ hf3)))) ((fmc (.tail _ (.tail _ (.tail _ (List.mem_append_right _ hf4)))) (fun _ h => h)))))))))))))
    have hs1 : ∀ z ∈ tl, z ∈ (xv, instO 215 dxv) :: (dxv, dictOf [⟨y1, .str (Str.ofString "required") y3, .int q.2.1 y5⟩, ⟨y2, .str (Str.ofString "features") y4, .ref fv⟩] 2) :: (L' + 1, o1) :: (x, instO 241 dx) :: (dx, dictOf [⟨c1, .str (Str.ofString "tag") k1, .str (tagStr pv.1) t1⟩, ⟨c2, .str (Str.ofString "default") k2, vd⟩, ⟨c3, .str (Str.ofString "languages") k3, .ref d⟩] 3) :: (d, o) :: (I, oI) :: (C, oC) :: (D', LCg.lst ys) :: (t2 ++ rest) :=
      fun z hz => .tail _ (.tail _ (.tail _ (.tail _ (.tail _ (.tail _ (.tail _ (.tail _ (.tail _ (List.mem_append_right _ (hnr _ (hs _ hz)))))))))))
    k_extra "m_steps"
    have htg2 : Apart tgn ((I, oI) :: (C, oC) :: (D', LCg.lst ys) :: (t2 ++ rest)) := htga.mono fun p hp => .tail _ (.tail _ (.tail _ (.tail _ (.tail _ (.tail _ hp)))))
    have htw : ∀ p ∈ (I, oI) :: (C, oC) :: (D', LCg.lst ys) :: (t2 ++ rest), @Ne Nat tw p.1 := fun p hp => Nat.ne_of_gt (ltwx p (List.mem_append_right _ (.tail _ (.tail _ (.tail _ (.tail _ (.tail _ (.tail _ hp))))))))
    refine LCg.CompEnd.intro (by assumption) (by assumption) (((tw, tupO [.str (tagStr q.1) tky, .ref tgt]) :: (tgn ++ t2)) ++ rest) (by k_extra "m_sub") ?_ trivial ⟨(tw, tupO [.str (tagStr q.1) tky, .ref tgt]) :: (tgn ++ t2), rfl, ?_, ?_⟩
    · rw [List.cons_append, List.append_assoc]
      exact LCg.Off3.of ((fmc (⟨htw _ (.head _), htw _ (.tail _ (.head _)), htw _ (.tail _ (.tail _ (.head _)))⟩) ((off3_app O3 (off3_of_apart htg2)).mem)))
    · rw [take_snoc hq, List.map_append]
      exact DatAll.append (hd2.mono fun p hp => .tail _ (List.mem_append_right _ hp)) (.one (.tuple (.head _) (.cons (.str _ _) (.cons (htgd.mono fun p hp => .tail _ (List.mem_append_left _ hp)) .nil))))
    · exact Apart.cons (fun p hp => Ne.symm (htw p (.tail _ (.tail _ (.tail _ (List.mem_append_right _ hp)))))) (Apart.app (htg2.mono fun p hp => .tail _ (.tail _ (.tail _ (List.mem_append_right _ hp)))) hap)
  · refine fin_none ?_
    intro D' h tk ys nw F2 N2 hno hJz12
    refine (let Gz : Prop := _; (?_ : Gz))
    (refine ex1 (hJz12) fun t2 hAz135 => ?_; clear hJz12; refine and3 (hAz135) fun hEz135_1 hd2 hap => ?_; clear hAz135; subst hEz135_1)
    k_unfold; clear Gz
    rw [List.size_toArray, hsl, List.take_length] at hd2
    have hyz : ys.length ≤ 16000 := by rw [hd2.length, List.length_map]; (k_extra "m_om")
    rcases hpd : pv.2.1 with _ | xd
    · rw [hpd] at hdf
      have hvd : vd = .none := hdf
      subst hvd
      replace N2 := News.sub (news' := (L' + 1, o1) :: (x, instO 241 dx) :: (dx, dictOf [⟨c1, .str (Str.ofString "tag") k1, .str (tagStr pv.1) t1⟩, ⟨c2, .str (Str.ofString "default") k2, .none⟩, ⟨c3, .str (Str.ofString "languages") k3, .ref d⟩] 3) :: (D', LCg.lst ys) :: (t2 ++ rest)) N2
        ((fmc (.tail _ (List.mem_append_right _ hf1)) ((fmc (.tail _ (List.mem_append_right _ hf2)) ((fmc (.tail _ (List.mem_append_right _ hf3)) (fun _ h => h)))))))
      k_extra "m_steps"
      rename News h₀ L _ _ => NZ
      refine hret _ _ tw ([(tw, tupO [.str (tagStr pv.1) t1, .none, .ref tcp]), (tcp, tupO ys)] ++ t2) (by assumption) (News.sub NZ ?_) ?_ ?_
      · exact List.forall_mem_append.mpr ⟨List.forall_mem_append.mpr ⟨by k_extra "m_sub", fun p hp => .tail _ (.tail _ (.tail _ (.tail _ (.tail _ (.tail _ (List.mem_append_left _ hp))))))⟩, fun p hp => .tail _ (.tail _ (.tail _ (.tail _ (.tail _ (.tail _ (List.mem_append_right _ (hnr p hp)))))))⟩
      · unfold scrD
        rw [hpd]
        exact .tuple (.head _) (.cons (.str _ _) (.cons .none (.cons (.tuple (.tail _ (.head _)) (hd2.mono fun p hp => .tail _ (.tail _ hp))) .nil)))
      · exact Apart.app (Apart.cons (fun p hp => Nat.ne_of_lt (ltwx p (.tail _ (.tail _ (.tail _ (.tail _ (.tail _ (List.mem_append_right _ (hnr p hp)))))))))
          (Apart.cons (fun p hp => Nat.ne_of_lt (ltcpx p (.tail _ (.tail _ (.tail _ (.tail _ (List.mem_append_right _ (hnr p hp)))))))) Apart.nil)) (hap.mono hnr)
    · rw [hpd] at hdf
      have hdl : LangAt tl vd xd := hdf
      refine (let Gz : Prop := _; (?_ : Gz))
      (refine ex8 (LangAt.ref hdl) fun xv dxv fv y1 y2 y3 y4 y5 hAz136 => ?_; refine and3 (hAz136) fun hEz136_8 mx md => ?_; clear hAz136; subst hEz136_8)
      k_unfold; clear Gz
      have hbz := hz4 xd hpd
      replace N2 := News.sub (news' := (xv, instO 215 dxv) :: (dxv, dictOf [⟨y1, .str (Str.ofString "required") y3, .int xd.1 y5⟩, ⟨y2, .str (Str.ofString "features") y4, .ref fv⟩] 2) :: (L' + 1, o1) :: (x, instO 241 dx) :: (dx, dictOf [⟨c1, .str (Str.ofString "tag") k1, .str (tagStr pv.1) t1⟩, ⟨c2, .str (Str.ofString "default") k2, .ref xv⟩, ⟨c3, .str (Str.ofString "languages") k3, .ref d⟩] 3) :: (D', LCg.lst ys) :: (t2 ++ rest)) N2
        ((fmc (.tail _ (List.mem_append_right _ (hnr _ (hs _ mx)))) ((fmc (.tail _ (List.mem_append_right _ (hnr _ (hs _ md)))) ((fmc (.tail _ (List.mem_append_right _ hf1)) ((fmc (.tail _ (List.mem_append_right _ hf2)) ((fmc (.tail _ (List.mem_append_right _ hf3)) (fun _ h => h)))))))))))
      have hsx : ∀ (e : Addr × Obj), ∀ z ∈ tl, z ∈ e :: (xv, instO 215 dxv) :: (dxv, dictOf [⟨y1, .str (Str.ofString "required") y3, .int xd.1 y5⟩, ⟨y2, .str (Str.ofString "features") y4, .ref fv⟩] 2) :: (L' + 1, o1) :: (x, instO 241 dx) :: (dx, dictOf [⟨c1, .str (Str.ofString "tag") k1, .str (tagStr pv.1) t1⟩, ⟨c2, .str (Str.ofString "default") k2, .ref xv⟩, ⟨c3, .str (Str.ofString "languages") k3, .ref d⟩] 3) :: (D', LCg.lst ys) :: (t2 ++ rest) :=
        fun e z hz => .tail _ (.tail _ (.tail _ (.tail _ (.tail _ (.tail _ (.tail _ (List.mem_append_right _ (hnr _ (hs _ hz)))))))))
      k_extra "m_steps"
      rename News h₀ L _ _ => NZ
      refine hret _ _ tw ([(tw, tupO [.str (tagStr pv.1) t1, .ref tgt, .ref tcp]), (tcp, tupO ys)] ++ (tgn ++ t2)) (by assumption) (News.sub NZ ?_) ?_ ?_
      · refine List.forall_mem_append.mpr ⟨List.forall_mem_append.mpr ⟨by k_extra "m_sub", List.forall_mem_append.mpr ⟨by k_extra "m_sub", by k_extra "m_sub"⟩⟩, fun p hp => ?_⟩
        have hp2 := hnr p hp
        k_extra "m_in"
      · unfold scrD
        rw [hpd]
        exact .tuple (.head _) (.cons (.str _ _) (.cons (htgd.mono fun p hp => .tail _ (.tail _ (List.mem_append_left _ hp))) (.cons (.tuple (.tail _ (.head _)) (hd2.mono fun p hp => .tail _ (.tail _ (List.mem_append_right _ hp)))) .nil)))
      · refine Apart.app (Apart.cons (fun p hp => Nat.ne_of_lt (ltwx p ?_)) (Apart.cons (fun p hp => Nat.ne_of_lt (ltcpx p ?_)) Apart.nil)) (Apart.app (htga.mono fun p hp => ?_) (hap.mono hnr))
        all_goals (have hp2 := hnr p hp; k_extra "m_in")
end
theorem off_ZI : True := by
  k_with "off ZI" => (skip)
  exact trivial
end
section
theorem reset_ZJ : True := by
  w_top off
  exact trivial

noncomputable def layD (x : LayV) : Dat := .tuple [.tuple (x.1.map scrD), .tuple (x.2.1.map featD), .tuple (x.2.2.map lookD)]
noncomputable def LayOk (x : LayV) : Prop := x.1.length < 64 ∧ Asc x.1 ∧ (∀ q ∈ x.1, ScrOk q.2) ∧ x.2.1.length ≤ 16000 ∧ (∀ q ∈ x.2.1, q.2.length ≤ 16000) ∧ x.2.2.length ≤ 16000 ∧ (∀ q ∈ x.2.2, q.2.2.2.length ≤ 16000) ∧ ∀ q ∈ x.2.2, ∀ r ∈ q.2.2.2, r.2.length ≤ 16000
theorem ScrAt.ref {w : World} {tl : List (Addr × Obj)} {v : Value} {p : List Int × ScrV} (h : ScrAt w tl v p) : ∃ x dx d c1 c2 c3 k1 k2 k3 t1 vd, v = .ref x ∧ (x, instO 241 dx) ∈ tl ∧ (dx, dictOf [⟨c1, .str (Str.ofString "tag") k1, .str (tagStr p.1) t1⟩, ⟨c2, .str (Str.ofString "default") k2, vd⟩, ⟨c3, .str (Str.ofString "languages") k3, .ref d⟩] 3) ∈ tl := by
  refine (let Gz : Prop := _; (?_ : Gz))
  (refine ex9 (h) fun x dx d o kvs c1 c2 c3 k1 hAz137 => ?_; clear h; ((refine ex4 (hAz137) fun k2 k3 t1 vd hAz138 => ?_; clear hAz137; refine and4 (hAz138) fun h1 h2 h3 _ => ?_; clear hAz138)))
  k_unfold; clear Gz
  exact (xi11 x dx d c1 c2 c3 k1 k2 k3 t1 vd ⟨h1, h2, h3⟩)
theorem FeatAt.ref {tl : List (Addr × Obj)} {v : Value} {p : List Int × List Int} (h : FeatAt tl v p) : ∃ x dx f c1 c2 k1 k2 tq, v = .ref x ∧ (x, instO 269 dx) ∈ tl ∧ (dx, dictOf [⟨c1, .str (Str.ofString "tag") k1, .str (tagStr p.1) tq⟩, ⟨c2, .str (Str.ofString "lookups") k2, .ref f⟩] 2) ∈ tl := by
  refine (let Gz : Prop := _; (?_ : Gz))
  (refine ex9 (h) fun x dx f c1 c2 k1 k2 tq vs hAz139 => ?_; clear h; ((refine ex1 (hAz139) fun n hAz140 => ?_; clear hAz139; refine and5 (hAz140) fun e m1 m2 m3 hi => ?_; clear hAz140)))
  k_unfold; clear Gz
  exact (xi8 x dx f c1 c2 k1 k2 tq ⟨e, m1, m2⟩)
theorem LookAt.ref {tl : List (Addr × Obj)} {v : Value} {p : LookV} (h : LookAt tl v p) : ∃ x dx f c1 c2 c3 c4 k1 k2 k3 k4 t1 t2 t3, v = .ref x ∧ (x, instO 85 dx) ∈ tl ∧ (dx, dictOf [⟨c1, .str (Str.ofString "kind") k1, .str p.1 t1⟩, ⟨c2, .str (Str.ofString "flag") k2, .int p.2.1 t2⟩, ⟨c3, .str (Str.ofString "mark_set") k3, .int p.2.2.1 t3⟩, ⟨c4, .str (Str.ofString "tables") k4, .ref f⟩] 4) ∈ tl := by
  refine (let Gz : Prop := _; (?_ : Gz))
  (refine ex9 (h) fun x dx f c1 c2 c3 c4 k1 k2 hAz141 => ?_; clear h; ((refine ex6 (hAz141) fun k3 k4 t1 t2 t3 vs hAz142 => ?_; clear hAz141; refine and5 (hAz142) fun e m1 m2 m3 hi => ?_; clear hAz142)))
  k_unfold; clear Gz
  exact (xi14 x dx f c1 c2 c3 c4 k1 k2 k3 k4 t1 t2 t3 ⟨e, m1, m2⟩)
section
variable {w : World} {dp un : Nat} {gd : Option (List Code)} {cn : Str} {cs : Scope} {a : Addr} {ccd : Value} {cl : List (Str × Addr)} {outer : List Env} {A₀ : Around} {base h₀ : Heap} {L : Addr} {m : Str → Option Value} {s : Shared} {Q E : Value → Shared → Prop} {p : Program} {loose : List Str} {mean : ExcName → Option Value} {mg mb : Str → Option Value} {news : List (Addr × Obj)} {tb : Tok} {b : Array UInt8}
variable (B : Below A₀ base outer h₀) (F : Fr h₀ L s.heap m) (X : (hd.heap_39 w.params).In h₀) (N : News h₀ L s.heap news) (T : Top p loose mean mg mb h₀) (hk : cs.kind = .function)
include B F X N T hk
theorem lines_ZJ1 : True := by
  k_with "call ref" => (first | ((fail_if_success (k_extra "off ZJ")); (k_here; (with_reducible show wpAny _ _ (call (Value.ref 238) _) _ _ _); k_dflt (refine' scr_told ?k1 ?k2 ?k3 ?k4 ?k5 ?kK ?kd ?ku ?hx ?hs ?hz ?_; (case k1 => k_asm); (case k2 => k_asm); (case k3 => k_asm); (case k4 => k_extra "m_news"); (case k5 => k_asm); (case kK => first | exact rfl | assumption); (case kd => first | exact room_n (by with_reducible assumption) (by decide) | ktr_room); (case ku => first | exact room_n (by with_reducible assumption) (by decide) | ktr_units); (case hx => assumption); (case hs => k_extra "m_sub"); (case hz => assumption); (intro h' tk' tst tsn F' N' htsd htsa; (try k_sweep))))) | fail)
  k_with "call ref" => (first | ((fail_if_success (k_extra "off ZJ")); (k_here; (with_reducible show wpAny _ _ (call (Value.ref 266) _) _ _ _); k_dflt (refine' feat_told ?k1 ?k2 ?k3 ?k4 ?k5 ?kK ?kd ?ku ?hx ?hs ?hz ?_; (case k1 => k_asm); (case k2 => k_asm); (case k3 => k_asm); (case k4 => k_extra "m_news"); (case k5 => k_asm); (case kK => first | exact rfl | assumption); (case kd => first | exact room_n (by with_reducible assumption) (by decide) | ktr_room); (case ku => first | exact room_n (by with_reducible assumption) (by decide) | ktr_units); (case hx => assumption); (case hs => k_extra "m_sub"); (case hz => first | assumption | (k_extra "m_om")); (intro h' tk' tft tfn F' N' htfd htfa; (try k_sweep))))) | fail)
  k_with "call ref" => (first | ((fail_if_success (k_extra "off ZJ")); (k_here; (with_reducible show wpAny _ _ (call (Value.ref 82) _) _ _ _); k_dflt (refine' look_told ?k1 ?k2 ?k3 ?k4 ?k5 ?kK ?kd ?ku ?hx ?hs ?hz ?hy ?_; (case k1 => k_asm); (case k2 => k_asm); (case k3 => k_asm); (case k4 => k_extra "m_news"); (case k5 => k_asm); (case kK => first | exact rfl | assumption); (case kd => first | exact room_n (by with_reducible assumption) (by decide) | ktr_room); (case ku => first | exact room_n (by with_reducible assumption) (by decide) | ktr_units); (case hx => assumption); (case hs => k_extra "m_sub"); (case hz => first | assumption | (k_extra "m_om")); (case hy => first | assumption | (k_extra "m_om")); (intro h' tk' tlt tln F' N' htld htla; (try k_sweep))))) | fail)
  k_with "call builtin:sorted" => (first | ((fail_if_success (k_extra "off ZJ")); (k_here; k_dflt (refine' sorted_keys rfl ?k1 ?k2 ?k3 ?k4 ?k5 ?k6 ?k7 ?_; (case k1 => k_asm); (case k2 => k_asm); (case k3 => k_mem); (case k4 => assumption); (case k5 => assumption); (case k6 => assumption); (case k7 => assumption)); intro sk h' tk' sv se F' N' lsk hsv; have lskx := lsk; (try k_lt lsk); (try k_sweep))) | fail)
  k_with "getItem ref str" => (first | ((fail_if_success (k_extra "off ZJ")); (k_here; k_dflt (refine' getItem_K ?zk1 ?zk2 ?zk3 (strKind_is _ _ _ _) ?zk4 ?_; (case zk1 => k_asm); (case zk2 => k_mem); (case zk3 => assumption); (case zk4 => assumption)))) | fail)
  exact trivial
set_option maxHeartbeats 1000000 in
theorem lay_told (hd : dp + 30 < recursionLimit) (hu : un + 200 < cLine) {tl : List (Addr × Obj)} {x : Addr} {pv : LayV} (hx : LayAt w tl (.ref x) pv) (hs : ∀ q ∈ tl, q ∈ news) (hz : LayOk pv)
    (hret : ∀ h' tk' t nw, Fr h₀ L h' m → News h₀ L h' (nw ++ news) → DatIn nw (.ref t) (layD pv) → Apart nw news → Q (.ref t) { s with heap := h', toks := tk' }) :
    Cl w dp un gd cn cs L a ccd cl outer 292 [.ref x] Q E s := by
  refine (let Gz : Prop := _; (?_ : Gz))
  (refine ex9 (hx) fun x' dx d o kvs fl fvs ll lvs hAz143 => ?_; clear hx; ((refine ex6 (hAz143) fun c1 c2 c3 k1 k2 k3 hAz144 => ?_; clear hAz143; refine and11 (hAz144) fun e m1 m2 m3 hlo hdo hkv m4 hfv m5 hlv => ?_; clear hAz144)))
  k_unfold; clear Gz
  cases e
  refine (let Gz : Prop := _; (?_ : Gz))
  (refine and8 (hz) fun hz1 hz2 hz3 hz4 hz5 hz6 hz7 hz8 => ?_; clear hz)
  k_unfold; clear Gz
  have N0 : News h₀ L s.heap ((x, instO 295 dx) :: (dx, dictOf [⟨c1, .str (Str.ofString "scripts") k1, .ref d⟩, ⟨c2, .str (Str.ofString "features") k2, .ref fl⟩, ⟨c3, .str (Str.ofString "lookups") k3, .ref ll⟩] 3) :: (d, o) :: news) :=
    News.sub N ((fmc (hs _ m1) ((fmc (hs _ m2) ((fmc (hs _ m3) (fun _ h => h)))))))
  clear N
  have hkn : kvs.length < 64 := by rw [hkv.length]; exact hz1
  have hle : (kvs.map (·.1)).Pairwise strLe := by rw [hkv.1]; exact tags_le hz2
  k_dflt (refine' enterC [("self", .ref x)] B F X N0 T hk ?k6 ?k7 ?k8 ?k9 ?kB ?kD ?c2 ?c3 ?c4 ?_; k_extra "m_sidesC")
  intro g' L' h₁ tk cells E' FG F' N' Y' B' X' T' l' hP hE
  refine (let Gz : Prop := _; (?_ : Gz))
  (refine ex1 (CellsAre.one Y') fun o1 hAz147 => ?_; refine and2 (hAz147) fun hE1 d1 => ?_; clear hAz147)
  k_unfold; clear Gz
  subst hE1
  try simp only [List.cons_append, List.nil_append] at N'
  try dsimp only
  try k_fold
  refine foldAV ?_; intro Mz Az vz gz dz oz
  k_extra "m_steps"
  rename Fr g' L' _ _ => F5
  rename News g' L' _ _ => N5
  have hOz7 : ∃ r, r = (sk, lsO sv se) :: (L' + 1, o1) :: (x, instO 295 dx) :: (dx, dictOf [⟨c1, .str (Str.ofString "scripts") k1, .ref d⟩, ⟨c2, .str (Str.ofString "features") k2, .ref fl⟩, ⟨c3, .str (Str.ofString "lookups") k3, .ref ll⟩] 3) :: (d, o) :: news := ⟨_, rfl⟩
  refine (let Gz : Prop := _; (?_ : Gz))
  obtain ⟨rest, hrest⟩ := hOz7
  k_unfold; clear Gz
  replace N5 := News.sub (news' := rest) N5 (by rw [hrest]; k_extra "m_sub")
  have hf : (sk, lsO sv se) ∈ rest := by rw [hrest]; k_extra "m_in"
  have hf1 : (L' + 1, o1) ∈ rest := by rw [hrest]; k_extra "m_in"
  have hf2 : (x, instO 295 dx) ∈ rest := by rw [hrest]; k_extra "m_in"
  have hf3 : (dx, dictOf [⟨c1, .str (Str.ofString "scripts") k1, .ref d⟩, ⟨c2, .str (Str.ofString "features") k2, .ref fl⟩, ⟨c3, .str (Str.ofString "lookups") k3, .ref ll⟩] 3) ∈ rest := by rw [hrest]; k_extra "m_in"
  have hf4 : (d, o) ∈ rest := by rw [hrest]; k_extra "m_in"
  have hnr : ∀ q ∈ news, q ∈ rest := by rw [hrest]; k_extra "m_sub"
  have hsl : sv.length = pv.1.length := by rw [hsv.length, List.length_map, hkv.length]
  refine at_list1 (kp := []) (its := sv.toArray) (fun _ => False) (fun j ys nw => ∃ t2, nw = t2 ++ rest ∧ DatAll t2 ys ((pv.1.take j).map scrD) ∧ Apart t2 rest) B' F5 N5 rfl rfl rfl ?_ ?_ (by decide) rfl rfl ?_ ?_ ⟨[], rfl, .nil, Apart.nil⟩ ?_ ?_ ?_
  · rw [List.size_toArray, sizeLine_eq]; (k_extra "m_om")
  · intro j ys nw hJz8
    refine (let Gz : Prop := _; (?_ : Gz))
    (refine ex1 (hJz8) fun t2 hAz148 => ?_; clear hJz8; refine and2 (hAz148) fun hEz148_1 _ => ?_; clear hAz148; subst hEz148_1)
    k_unfold; clear Gz
    exact .inr ⟨_, List.mem_append_right _ hf, rfl, _, rfl⟩
  · intro _ _ _ _ _ hp; cases hp
  · intro _ hp; cases hp
  · intro _ hz; exact hz.elim
  · intro j v ys nw I oI C oC D' m₂ h tk hv hJz9
    refine (let Gz : Prop := _; (?_ : Gz))
    (refine ex1 (hJz9) fun t2 hAz149 => ?_; clear hJz9; refine and3 (hAz149) fun hEz149_1 hd2 hap => ?_; clear hAz149; subst hEz149_1)
    k_unfold; clear Gz
    intro hoC hx1 F1 N1 O3 hne hkk
    refine (let Gz : Prop := _; (?_ : Gz))
    (refine ex2 (strs_at hsv (by simpa using hv)) fun ky tky hAz150 => ?_; refine and2 (hAz150) fun hky hEz150_3 => ?_; clear hAz150; subst hEz150_3)
    k_unfold; clear Gz
    refine (let Gz : Prop := _; (?_ : Gz))
    (refine ex2 (hkv.get hz2 hky) fun q lv hAz151 => ?_; refine and4 (hAz151) fun hq hEz151_3 hva hl => ?_; clear hAz151; subst hEz151_3)
    k_unfold; clear Gz
    refine (let Gz : Prop := _; (?_ : Gz))
    (refine ex9 (hl.ref) fun xv dxv dv y1 y2 y3 z1 z2 z3 hAz152 => ?_; ((refine ex2 (hAz152) fun y4 y5 hAz153 => ?_; clear hAz152; refine and3 (hAz153) fun hEz153_2 mx md => ?_; clear hAz153; subst hEz153_2)))
    k_unfold; clear Gz
    have hbz := hz3 q (List.mem_of_getElem? hq)
    replace N1 := News.sub (news' := (xv, instO 241 dxv) :: (dxv, dictOf [⟨y1, .str (Str.ofString "tag") z1, .str (tagStr q.1) y4⟩, ⟨y2, .str (Str.ofString "default") z2, y5⟩, ⟨y3, .str (Str.ofString "languages") z3, .ref dv⟩] 3) :: (L' + 1, o1) :: (x, instO 295 dx) :: (dx, dictOf [⟨c1, .str (Str.ofString "scripts") k1, .ref d⟩, ⟨c2, .str (Str.ofString "features") k2, .ref fl⟩, ⟨c3, .str (Str.ofString "lookups") k3, .ref ll⟩] 3) :: (d, o) :: (I, oI) :: (C, oC) :: (D', LCg.lst ys) :: (t2 ++ rest)) N1
      ((fmc (.tail _ (.tail _ (.tail _ (List.mem_append_right _ (hnr _ (hs _ mx)))))) ((fmc (.tail _ (.tail _ (.tail _ (List.mem_append_right _ (hnr _ (hs _ md)))))) ((fmc (.tail _ (.tail _ (.tail _ (List.mem_append_right _ hf1)))) ((fmc (.tail _ (.tail _ (.tail _ (List.mem_append_right _ hf2)))) ((fmc (.tail _ (.tail _ (.tail _ (List.mem_append_right _ hf3)))) ((fmc (.tail _ (.tail _ (.tail _ (List.mem_append_right _ hf4)))) (fun _ h => h)))))))))))))
    have hs1 : ∀ z ∈ tl, z ∈ (xv, instO 241 dxv) :: (dxv, dictOf [⟨y1, .str (Str.ofString "tag") z1, .str (tagStr q.1) y4⟩, ⟨y2, .str (Str.ofString "default") z2, y5⟩, ⟨y3, .str (Str.ofString "languages") z3, .ref dv⟩] 3) :: (L' + 1, o1) :: (x, instO 295 dx) :: (dx, dictOf [⟨c1, .str (Str.ofString "scripts") k1, .ref d⟩, ⟨c2, .str (Str.ofString "features") k2, .ref fl⟩, ⟨c3, .str (Str.ofString "lookups") k3, .ref ll⟩] 3) :: (d, o) :: (I, oI) :: (C, oC) :: (D', LCg.lst ys) :: (t2 ++ rest) :=
      fun z hz => .tail _ (.tail _ (.tail _ (.tail _ (.tail _ (.tail _ (.tail _ (.tail _ (.tail _ (List.mem_append_right _ (hnr _ (hs _ hz)))))))))))
    k_extra "m_steps"
    have htg2 : Apart tsn ((I, oI) :: (C, oC) :: (D', LCg.lst ys) :: (t2 ++ rest)) := htsa.mono fun p hp => .tail _ (.tail _ (.tail _ (.tail _ (.tail _ (.tail _ hp)))))
    refine LCg.CompEnd.intro (by assumption) (by assumption) ((tsn ++ t2) ++ rest) (by k_extra "m_sub") (by rw [List.append_assoc]; exact off3_app O3 (off3_of_apart htg2)) trivial ⟨tsn ++ t2, rfl, ?_, ?_⟩
    · rw [take_snoc hq, List.map_append]
      exact DatAll.append (hd2.mono fun p hp => List.mem_append_right _ hp) (.one (htsd.mono fun p hp => List.mem_append_left _ hp))
    · exact Apart.app (htg2.mono fun p hp => .tail _ (.tail _ (.tail _ (List.mem_append_right _ hp)))) hap
  · refine fin_none ?_
    intro D1 h tk ys nw F2 N2 hno hJz13
    refine (let Gz : Prop := _; (?_ : Gz))
    (refine ex1 (hJz13) fun t2 hAz154 => ?_; clear hJz13; refine and3 (hAz154) fun hEz154_1 hd2 hap => ?_; clear hAz154; subst hEz154_1)
    k_unfold; clear Gz
    rw [List.size_toArray, hsl, List.take_length] at hd2
    have hyz : ys.length ≤ 16000 := by rw [hd2.length, List.length_map]; (k_extra "m_om")
    replace N2 := News.sub (news' := (L' + 1, o1) :: (x, instO 295 dx) :: (dx, dictOf [⟨c1, .str (Str.ofString "scripts") k1, .ref d⟩, ⟨c2, .str (Str.ofString "features") k2, .ref fl⟩, ⟨c3, .str (Str.ofString "lookups") k3, .ref ll⟩] 3) :: (D1, LCg.lst ys) :: (t2 ++ rest)) N2
      ((fmc (.tail _ (List.mem_append_right _ hf1)) ((fmc (.tail _ (List.mem_append_right _ hf2)) ((fmc (.tail _ (List.mem_append_right _ hf3)) (fun _ h => h)))))))
    k_extra "m_steps"
    rename Fr g' L' _ _ => F5
    rename News g' L' _ _ => N5
    have hOz14 : ∃ r, r = (tcp, tupO ys) :: (L' + 1, o1) :: (x, instO 295 dx) :: (dx, dictOf [⟨c1, .str (Str.ofString "scripts") k1, .ref d⟩, ⟨c2, .str (Str.ofString "features") k2, .ref fl⟩, ⟨c3, .str (Str.ofString "lookups") k3, .ref ll⟩] 3) :: (D1, LCg.lst ys) :: (t2 ++ rest) := ⟨_, rfl⟩
    refine (let Gz : Prop := _; (?_ : Gz))
    obtain ⟨rest2, hrest2⟩ := hOz14
    k_unfold; clear Gz
    replace N5 := News.sub (news' := rest2) N5 (by rw [hrest2]; k_extra "m_sub")
    have hlrest2 : (fl, LCg.lst fvs) ∈ rest2 := by
      have q1 := hnr _ (hs _ m4)
      rw [hrest2]
      k_extra "m_in"
    have hsrest2 : ∀ z ∈ tl, z ∈ rest2 := by
      intro z hz
      have q1 := hnr _ (hs _ hz)
      rw [hrest2]
      k_extra "m_in"
    have hnrest2 : ∀ z ∈ news, z ∈ rest2 := by
      intro z hz
      have q1 := hnr _ hz
      rw [hrest2]
      k_extra "m_in"
    refine at_list1 (kp := []) (its := fvs.toArray) (fun _ => False) (fun j ys nw => ∃ t2, nw = t2 ++ rest2 ∧ DatAll t2 ys ((pv.2.1.take j).map featD) ∧ Apart t2 rest2) B' F5 N5 rfl rfl rfl ?_ ?_ (by decide) rfl rfl ?_ ?_ ⟨[], rfl, .nil, Apart.nil⟩ ?_ ?_ ?_
    · rw [List.size_toArray, hfv.length, sizeLine_eq]; (k_extra "m_om")
    · intro j ys nw hJz15
      refine (let Gz : Prop := _; (?_ : Gz))
      (refine ex1 (hJz15) fun t2 hAz155 => ?_; clear hJz15; refine and2 (hAz155) fun hEz155_1 _ => ?_; clear hAz155; subst hEz155_1)
      k_unfold; clear Gz
      exact .inr ⟨_, List.mem_append_right _ hlrest2, rfl, _, rfl⟩
    · intro _ _ _ _ _ hp; cases hp
    · intro _ hp; cases hp
    · intro _ hz; exact hz.elim
    · intro j v ys' nw I oI C oC D' m₂ h tk hv hJz16
      refine (let Gz : Prop := _; (?_ : Gz))
      (refine ex1 (hJz16) fun t2' hAz156 => ?_; clear hJz16; refine and3 (hAz156) fun hEz156_1 hd2' hap' => ?_; clear hAz156; subst hEz156_1)
      k_unfold; clear Gz
      intro hoC hx1 F1 N1 O3 hne hkk
      refine (let Gz : Prop := _; (?_ : Gz))
      (refine ex1 (hfv.get (by simpa using hv)) fun q hAz157 => ?_; refine and2 (hAz157) fun hq hl => ?_; clear hAz157)
      k_unfold; clear Gz
      refine (let Gz : Prop := _; (?_ : Gz))
      (refine ex8 (hl.ref) fun xv dxv fv y1 y2 y3 y4 y5 hAz158 => ?_; refine and3 (hAz158) fun hEz158_8 mx md => ?_; clear hAz158; subst hEz158_8)
      k_unfold; clear Gz
      have hbz := hz5 q (List.mem_of_getElem? hq)
      replace N1 := News.sub (news' := (xv, instO 269 dxv) :: (dxv, dictOf [⟨y1, .str (Str.ofString "tag") y3, .str (tagStr q.1) y5⟩, ⟨y2, .str (Str.ofString "lookups") y4, .ref fv⟩] 2) :: (I, oI) :: (C, oC) :: (D', LCg.lst ys') :: (t2' ++ rest2)) N1
        ((fmc (.tail _ (.tail _ (.tail _ (List.mem_append_right _ (hsrest2 _ mx))))) ((fmc (.tail _ (.tail _ (.tail _ (List.mem_append_right _ (hsrest2 _ md))))) (fun _ h => h)))))
      have hs1 : ∀ z ∈ tl, z ∈ (xv, instO 269 dxv) :: (dxv, dictOf [⟨y1, .str (Str.ofString "tag") y3, .str (tagStr q.1) y5⟩, ⟨y2, .str (Str.ofString "lookups") y4, .ref fv⟩] 2) :: (I, oI) :: (C, oC) :: (D', LCg.lst ys') :: (t2' ++ rest2) :=
        fun z hz => .tail _ (.tail _ (.tail _ (.tail _ (.tail _ (List.mem_append_right _ (hsrest2 _ hz))))))
      k_extra "m_steps"
      have htg2 : Apart tfn ((I, oI) :: (C, oC) :: (D', LCg.lst ys') :: (t2' ++ rest2)) := htfa.mono fun p hp => .tail _ (.tail _ hp)
      refine LCg.CompEnd.intro (by assumption) (by assumption) ((tfn ++ t2') ++ rest2) (by k_extra "m_sub") (by rw [List.append_assoc]; exact off3_app O3 (off3_of_apart htg2)) trivial ⟨tfn ++ t2', rfl, ?_, ?_⟩
      · rw [take_snoc hq, List.map_append]
        exact DatAll.append (hd2'.mono fun p hp => List.mem_append_right _ hp) (.one (htfd.mono fun p hp => List.mem_append_left _ hp))
      · exact Apart.app (htg2.mono fun p hp => .tail _ (.tail _ (.tail _ (List.mem_append_right _ hp)))) hap'
    · refine fin_none ?_
      intro D2 h tk ys2 nw F2 N2 hno2 hJz19
      refine (let Gz : Prop := _; (?_ : Gz))
      (refine ex1 (hJz19) fun t3 hAz159 => ?_; clear hJz19; refine and3 (hAz159) fun hEz159_1 hd3 hap2 => ?_; clear hAz159; subst hEz159_1)
      k_unfold; clear Gz
      rw [List.size_toArray, hfv.length, List.take_length] at hd3
      have hyz2 : ys2.length ≤ 16000 := by rw [hd3.length, List.length_map]; (k_extra "m_om")
      have hg1 : (L' + 1, o1) ∈ rest2 := by rw [hrest2]; k_extra "m_in"
      have hg2 : (x, instO 295 dx) ∈ rest2 := by rw [hrest2]; k_extra "m_in"
      have hg3 : (dx, dictOf [⟨c1, .str (Str.ofString "scripts") k1, .ref d⟩, ⟨c2, .str (Str.ofString "features") k2, .ref fl⟩, ⟨c3, .str (Str.ofString "lookups") k3, .ref ll⟩] 3) ∈ rest2 := by rw [hrest2]; k_extra "m_in"
      have hOz20 : ∃ c, c = tcp := ⟨_, rfl⟩
      refine (let Gz : Prop := _; (?_ : Gz))
      obtain ⟨tc1, htc1⟩ := hOz20
      k_unfold; clear Gz
      subst htc1
      replace N2 := News.sub (news' := (L' + 1, o1) :: (x, instO 295 dx) :: (dx, dictOf [⟨c1, .str (Str.ofString "scripts") k1, .ref d⟩, ⟨c2, .str (Str.ofString "features") k2, .ref fl⟩, ⟨c3, .str (Str.ofString "lookups") k3, .ref ll⟩] 3) :: (D2, LCg.lst ys2) :: (t3 ++ rest2)) N2
        ((fmc (.tail _ (List.mem_append_right _ hg1)) ((fmc (.tail _ (List.mem_append_right _ hg2)) ((fmc (.tail _ (List.mem_append_right _ hg3)) (fun _ h => h)))))))
      have ltc1 := ltcpx
      k_extra "m_steps"
      have hOz21 : ∃ c, c = tcp := ⟨_, rfl⟩
      refine (let Gz : Prop := _; (?_ : Gz))
      obtain ⟨tc2, htc2⟩ := hOz21
      k_unfold; clear Gz
      subst htc2
      have ltc2 := ltcpx
      rename Fr g' L' _ _ => F5
      rename News g' L' _ _ => N5
      have hOz22 : ∃ r, r = (tc2, tupO ys2) :: (L' + 1, o1) :: (x, instO 295 dx) :: (dx, dictOf [⟨c1, .str (Str.ofString "scripts") k1, .ref d⟩, ⟨c2, .str (Str.ofString "features") k2, .ref fl⟩, ⟨c3, .str (Str.ofString "lookups") k3, .ref ll⟩] 3) :: (D2, LCg.lst ys2) :: (t3 ++ rest2) := ⟨_, rfl⟩
      refine (let Gz : Prop := _; (?_ : Gz))
      obtain ⟨rest3, hrest3⟩ := hOz22
      k_unfold; clear Gz
      replace N5 := News.sub (news' := rest3) N5 (by rw [hrest3]; k_extra "m_sub")
      have hlrest3 : (ll, LCg.lst lvs) ∈ rest3 := by
        have q1 := hsrest2 _ m5
        rw [hrest3]
        k_extra "m_in"
      have hsrest3 : ∀ z ∈ tl, z ∈ rest3 := by
        intro z hz
        have q1 := hsrest2 _ hz
        rw [hrest3]
        k_extra "m_in"
      have hnrest3 : ∀ z ∈ news, z ∈ rest3 := by
        intro z hz
        have q1 := hnrest2 _ hz
        rw [hrest3]
        k_extra "m_in"
      refine at_list1 (kp := []) (its := lvs.toArray) (fun _ => False) (fun j ys nw => ∃ t2, nw = t2 ++ rest3 ∧ DatAll t2 ys ((pv.2.2.take j).map lookD) ∧ Apart t2 rest3) B' F5 N5 rfl rfl rfl ?_ ?_ (by decide) rfl rfl ?_ ?_ ⟨[], rfl, .nil, Apart.nil⟩ ?_ ?_ ?_
      · rw [List.size_toArray, hlv.length, sizeLine_eq]; (k_extra "m_om")
      · intro j ys nw hJz23
        refine (let Gz : Prop := _; (?_ : Gz))
        (refine ex1 (hJz23) fun t2 hAz160 => ?_; clear hJz23; refine and2 (hAz160) fun hEz160_1 _ => ?_; clear hAz160; subst hEz160_1)
        k_unfold; clear Gz
        exact .inr ⟨_, List.mem_append_right _ hlrest3, rfl, _, rfl⟩
      · intro _ _ _ _ _ hp; cases hp
      · intro _ hp; cases hp
      · intro _ hz; exact hz.elim
      · intro j v ys' nw I oI C oC D' m₂ h tk hv hJz24
        refine (let Gz : Prop := _; (?_ : Gz))
        (refine ex1 (hJz24) fun t2' hAz161 => ?_; clear hJz24; refine and3 (hAz161) fun hEz161_1 hd2' hap' => ?_; clear hAz161; subst hEz161_1)
        k_unfold; clear Gz
        intro hoC hx1 F1 N1 O3 hne hkk
        refine (let Gz : Prop := _; (?_ : Gz))
        (refine ex1 (hlv.get (by simpa using hv)) fun q hAz162 => ?_; refine and2 (hAz162) fun hq hl => ?_; clear hAz162)
        k_unfold; clear Gz
        refine (let Gz : Prop := _; (?_ : Gz))
        (refine ex9 (hl.ref) fun xv dxv fv y1 y2 y3 y4 z1 z2 hAz163 => ?_; ((refine ex5 (hAz163) fun z3 z4 y5 y6 y7 hAz164 => ?_; clear hAz163; refine and3 (hAz164) fun hEz164_5 mx md => ?_; clear hAz164; subst hEz164_5)))
        k_unfold; clear Gz
        have hbz := hz7 q (List.mem_of_getElem? hq)
        have hbz2 := hz8 q (List.mem_of_getElem? hq)
        replace N1 := News.sub (news' := (xv, instO 85 dxv) :: (dxv, dictOf [⟨y1, .str (Str.ofString "kind") z1, .str q.1 y5⟩, ⟨y2, .str (Str.ofString "flag") z2, .int q.2.1 y6⟩, ⟨y3, .str (Str.ofString "mark_set") z3, .int q.2.2.1 y7⟩, ⟨y4, .str (Str.ofString "tables") z4, .ref fv⟩] 4) :: (I, oI) :: (C, oC) :: (D', LCg.lst ys') :: (t2' ++ rest3)) N1
          ((fmc (.tail _ (.tail _ (.tail _ (List.mem_append_right _ (hsrest3 _ mx))))) ((fmc (.tail _ (.tail _ (.tail _ (List.mem_append_right _ (hsrest3 _ md))))) (fun _ h => h)))))
        have hs1 : ∀ z ∈ tl, z ∈ (xv, instO 85 dxv) :: (dxv, dictOf [⟨y1, .str (Str.ofString "kind") z1, .str q.1 y5⟩, ⟨y2, .str (Str.ofString "flag") z2, .int q.2.1 y6⟩, ⟨y3, .str (Str.ofString "mark_set") z3, .int q.2.2.1 y7⟩, ⟨y4, .str (Str.ofString "tables") z4, .ref fv⟩] 4) :: (I, oI) :: (C, oC) :: (D', LCg.lst ys') :: (t2' ++ rest3) :=
          fun z hz => .tail _ (.tail _ (.tail _ (.tail _ (.tail _ (List.mem_append_right _ (hsrest3 _ hz))))))
        k_extra "m_steps"
        have htg2 : Apart tln ((I, oI) :: (C, oC) :: (D', LCg.lst ys') :: (t2' ++ rest3)) := htla.mono fun p hp => .tail _ (.tail _ hp)
        refine LCg.CompEnd.intro (by assumption) (by assumption) ((tln ++ t2') ++ rest3) (by k_extra "m_sub") (by rw [List.append_assoc]; exact off3_app O3 (off3_of_apart htg2)) trivial ⟨tln ++ t2', rfl, ?_, ?_⟩
        · rw [take_snoc hq, List.map_append]
          exact DatAll.append (hd2'.mono fun p hp => List.mem_append_right _ hp) (.one (htld.mono fun p hp => List.mem_append_left _ hp))
        · exact Apart.app (htg2.mono fun p hp => .tail _ (.tail _ (.tail _ (List.mem_append_right _ hp)))) hap'
      · refine fin_none ?_
        intro D3 h tk ys3 nw F2 N2 hno3 hJz27
        refine (let Gz : Prop := _; (?_ : Gz))
        (refine ex1 (hJz27) fun t4 hAz165 => ?_; clear hJz27; refine and3 (hAz165) fun hEz165_1 hd4 hap3 => ?_; clear hAz165; subst hEz165_1)
        k_unfold; clear Gz
        rw [List.size_toArray, hlv.length, List.take_length] at hd4
        have hyz3 : ys3.length ≤ 16000 := by rw [hd4.length, List.length_map]; (k_extra "m_om")
        k_extra "m_steps"
        have r23 : ∀ p ∈ rest2, p ∈ rest3 := by intro p hp; rw [hrest3]; k_extra "m_in"
        have q2 : (tc2, tupO ys2) ∈ rest3 := by rw [hrest3]; k_extra "m_in"
        have q3 : ∀ p ∈ t3, p ∈ rest3 := by intro p hp; rw [hrest3]; k_extra "m_in"
        have q4 : (tc1, tupO ys) ∈ rest3 := r23 _ (by rw [hrest2]; k_extra "m_in")
        have q5 : ∀ p ∈ t2, p ∈ rest3 := fun p hp => r23 _ (by rw [hrest2]; k_extra "m_in")
        have hn1 : ∀ p ∈ news, p ∈ (L' + 1, o1) :: (x, instO 295 dx) :: (dx, dictOf [⟨c1, .str (Str.ofString "scripts") k1, .ref d⟩, ⟨c2, .str (Str.ofString "features") k2, .ref fl⟩, ⟨c3, .str (Str.ofString "lookups") k3, .ref ll⟩] 3) :: (D1, LCg.lst ys) :: (t2 ++ rest) := fun p hp => by
          have q1 := hnr p hp
          k_extra "m_in"
        have hn2 : ∀ p ∈ news, p ∈ (L' + 1, o1) :: (x, instO 295 dx) :: (dx, dictOf [⟨c1, .str (Str.ofString "scripts") k1, .ref d⟩, ⟨c2, .str (Str.ofString "features") k2, .ref fl⟩, ⟨c3, .str (Str.ofString "lookups") k3, .ref ll⟩] 3) :: (D2, LCg.lst ys2) :: (t3 ++ rest2) := fun p hp => by
          have q1 := hnrest2 p hp
          k_extra "m_in"
        rename News h₀ L _ _ => NZ
        refine hret _ _ tw ([(tw, tupO [.ref tc1, .ref tc2, .ref tcp]), (tcp, tupO ys3)] ++ (t4 ++ ((tc2, tupO ys2) :: (t3 ++ ((tc1, tupO ys) :: t2))))) (by assumption) (News.sub NZ ?_) ?_ ?_
        · have up : ∀ p ∈ rest3, p ∈ (tw, tupO [.ref tc1, .ref tc2, .ref tcp]) :: (tcp, tupO ys3) :: (D3, LCg.lst ys3) :: (t4 ++ rest3) := fun p hp => .tail _ (.tail _ (.tail _ (List.mem_append_right _ hp)))
          refine List.forall_mem_append.mpr ⟨List.forall_mem_append.mpr ⟨by k_extra "m_sub", List.forall_mem_append.mpr ⟨by k_extra "m_sub", (fmc (up _ q2) (List.forall_mem_append.mpr ⟨fun p hp => up p (q3 p hp), (fmc (up _ q4) (fun p hp => up p (q5 p hp)))⟩))⟩⟩, fun p hp => up p (hnrest3 p hp)⟩
        · unfold layD
          refine .tuple (.head _) (.cons (.tuple (vs := ys) (n := 0) ?_ (hd2.mono ?_)) (.cons (.tuple (vs := ys2) (n := 0) ?_ (hd3.mono ?_)) (.cons (.tuple (.tail _ (.head _)) (hd4.mono ?_)) .nil)))
          · show (tc1, tupO ys) ∈ _
            k_extra "m_in"
          · k_extra "m_sub"
          · show (tc2, tupO ys2) ∈ _
            k_extra "m_in"
          · k_extra "m_sub"
          · k_extra "m_sub"
        · refine Apart.app (Apart.cons (fun p hp => Nat.ne_of_lt (ltwx p (.tail _ (.tail _ (List.mem_append_right _ (hnrest3 p hp)))))) (Apart.cons (fun p hp => Nat.ne_of_lt (ltcpx p (.tail _ (List.mem_append_right _ (hnrest3 p hp))))) Apart.nil)) ?_
          exact Apart.app (hap3.mono hnrest3) (Apart.cons (fun p hp => Nat.ne_of_lt (ltc2 p (hn2 p hp))) (Apart.app (hap2.mono hnrest2) (Apart.cons (fun p hp => Nat.ne_of_lt (ltc1 p (hn1 p hp))) (hap.mono hnr))))
end
theorem off_ZJ : True := by
  k_with "off ZJ" => (skip)
  exact trivial
end
section
theorem ne_nil_len {prog : Program} {w : World} {A : Around} {E : Value → Shared → Prop} {s : Shared} {h₀ : Heap} {L l l2 : Addr} {news : List (Addr × Obj)} {vs : List Value} {Q : Value → Shared → Prop} (N : News h₀ L s.heap news) (ma : (l, LCg.lst vs) ∈ news) (mb : (l2, LCg.lst []) ∈ news) (hne : vs ≠ []) (hu : A.units < cLine) (h : Q (.bool true) s) :
    wpAny (model prog w) A (compareOp .NotEq (.ref l) (.ref l2)) Q E s := by
  have h1 : s.heap.IsList l vs.toArray := ⟨_, (N _ ma).1, rfl, _, rfl⟩
  have h2 : s.heap.IsList l2 #[] := ⟨_, (N _ mb).1, rfl, _, rfl⟩
  exact PySem.SeqAt.RcNeAt.lists_lengths h1 h2 (by cases vs; exact absurd rfl hne; rfl) hu prog w E Q h
section
open PyProof.Rows.LCg
variable {prog : Program} {w : World} {A : Around} {E : Value → Shared → Prop} {s : Shared} {h₀ : Heap} {L : Addr} {m : Str → Option Value} {env : Env}
/-- a block that cannot raise, over bytes: it may stand within another block -/
theorem rest_of_J {elt : PySem.Expr} {x : Str} {scope : Scope} {cl : List (Str × Addr)} {P : Nat → Value → Prop} {n : Nat} (J : Nat → List Value → List (Addr × Obj) → Prop)
    (turn : ∀ i v ys news I oI C oC D m₂ h tk (E' : Value → Shared → Prop), P i v → J i ys news → NsObj oC m₂ → m₂ x = some v → Fr h₀ L h m → News h₀ L h ((I, oI) :: (C, oC) :: (D, lst ys) :: news) → Off3 I C D news → ((@Ne Nat I C) ∧ (@Ne Nat I D) ∧ (@Ne Nat C D)) →
      wpAny (model prog w) A (eval elt (compEnvC scope cl C env)) (CompEnd h₀ L m { s with heap := h, toks := tk } I oI C oC D (lst ys) (fun _ => True) (fun y news' => J (i + 1) (ys ++ [y]) news')) E' { s with heap := h, toks := tk }) :
    ∀ (k i : Nat) (ys : List Value) (news : List (Addr × Obj)), i + k = n → J i ys news → CompRest prog w A h₀ L m env elt x scope cl s (fun _ => True) P (J n) k i ys news
  | 0, i, ys, news, e, hJ => by
    have : i = n := by (first | lia | omega)
    subst this
    exact CompRest.zero hJ
  | k + 1, i, ys, news, e, hJ => CompRest.succ fun v I oI C oC D m₂ h tk E' hP hoC hx F N O3 hne => by
    refine wpAny_mono (turn i v ys news I oI C oC D m₂ h tk E' hP hJ hoC hx F N O3 hne) (fun y s' hc => ?_) fun _ _ e => e
    refine (let Gz : Prop := _; (?_ : Gz))
    (refine ex3 (hc) fun h' tk' news' hAz166 => ?_; clear hc; refine and6 (hAz166) fun hEz166_3 F' N' O' _ hJ' => ?_; clear hAz166; subst hEz166_3)
    k_unfold; clear Gz
    exact ⟨h', tk', news', rfl, F', N', O', trivial, rest_of_J J turn k (i + 1) _ _ (by (first | lia | omega)) hJ'⟩
theorem at_bytes1N {elt iter : PySem.Expr} {x : Str} {px : Pos} {scope : Scope} {cl : List (Str × Addr)} {pos : Pos} {news : List (Addr × Obj)}
    {use : Option (Value → Sem Unit)} {Q : Value → Shared → Prop} {b : Array UInt8} {tb : Tok} (J : Nat → List Value → List (Addr × Obj) → Prop)
    (F : Fr h₀ L s.heap m) (N : News h₀ L s.heap news) (hh : A.handled = none) (hsz : b.size ≤ sizeLine)
    (hcell : ∀ y ∈ scope.names, y.2 ≠ .cell) (hkind : scope.kind = .function) (hx : scope.names.lookup x = some .local) (hJ0 : J 0 [] news)
    (turn : ∀ i (c : Int) ti ys news I oI C oC D m₂ h tk (E' : Value → Shared → Prop), (KBw.bInts b)[i]? = some c → J i ys news → NsObj oC m₂ → m₂ x = some (.int c ti) → Fr h₀ L h m → News h₀ L h ((I, oI) :: (C, oC) :: (D, lst ys) :: news) → Off3 I C D news → ((@Ne Nat I C) ∧ (@Ne Nat I D) ∧ (@Ne Nat C D)) →
      wpAny (model prog w) A (eval elt (compEnvC scope cl C env)) (CompEnd h₀ L m { s with heap := h, toks := tk } I oI C oC D (lst ys) (fun _ => True) (fun y news' => J (i + 1) (ys ++ [y]) news')) E' { s with heap := h, toks := tk })
    (fin : FinT prog w A E h₀ L m use Q s (J b.size)) :
    AtBlk prog w A E env (.ListComp elt [⟨.Name x px, iter, [], 0⟩] scope pos) scope cl use Q (.bytes b tb) s := by
  refine KBw.pyIter_bytes ?_
  refine block_U (S := fun _ => True) (Fin := J b.size) (RR := fun D C r s' => compPost (model prog w) A E use Q D C r s') (KBw.walks hh s.heap.objs.size b tb) hsz (fun i h st => by obtain ⟨o, e, _⟩ := st; exact ⟨o, e⟩) (fun i h h' o nw st e e' _ _ _ => by obtain ⟨o', q, r⟩ := st; rw [e] at q; cases q; exact ⟨o, e', r⟩) hcell hkind hx ⟨_, Heap.get?_push_size _ rfl, rfl, rfl⟩ (fun b hb => ?_)
    (F.keeps fun _ _ e => Heap.get?_push_of_some _ e) (N.grown fun _ _ e => Heap.get?_push_of_some _ e) (Nat.ne_of_lt F.ns.lt) (next_is_new F) (fun p hp => Nat.ne_of_lt (Heap.lt_size (N p hp).1)) trivial
    (rest_of_J (n := b.size) J (fun i v ys nw I oI C oC D m₂ h tk E' ⟨c, u, hc, hv⟩ hJ hC hx' => turn i _ u ys nw I oI C oC D m₂ h tk E' (KBw.ints_get hc) hJ hC (hv ▸ hx')) _ 0 [] news (by (first | lia | omega)) hJ0) fin
  rw [List.mem_singleton.mp hb]
  show s.heap.objs.size < (s.heap.push _).objs.size
  rw [Heap.size_push]; exact Nat.lt_succ_self _
end
end
section
/-! octets compared -/
theorem slot_bytes_le : Slot "bytes" (cmpInfo .LtE).2.1 "bytes.__le__" :=
  .of (owner := "bytes") (n := "__le__") (by rw [typeLookup_type, builtinLookup_eq_fast]; kernel_rfl) (by decide +kernel) (by decide +kernel) (by decide +kernel)
    (by first | exact .inl (by decide +kernel) | exact .inr (by decide +kernel)) (by rw [isSubtype_type]; kernel_rfl)
theorem entry_bytes_le : entryFor table "bytes.__le__" = some Builtin.«bytes.__le__» := entryFor_of_tree (by kernel_rfl)
theorem args_bytes_le_2 (a b : Value) : argsOk "bytes.__le__" ⟨[a, b], []⟩ := by
  unfold argsOk; rw [signature?_of (id := "bytes.__le__") (n := ['_', '_', 'e', 'l', '_', '_']) (o := ['s', 'e', 't', 'y', 'b']) (by kernel_rfl) PySem.W.FB.owner_bytes]; kernel_rfl
theorem order_gt : ∀ a b : List UInt8, (Builtin.Bytes.order a b == .gt) = decide (b.map UInt8.toNat < a.map UInt8.toNat)
  | [], [] => by decide
  | [], _ :: _ => by simp [Builtin.Bytes.order]
  | _ :: _, [] => by simp [Builtin.Bytes.order]
  | x :: a, y :: b => by
    simp only [Builtin.Bytes.order, List.map_cons]
    by_cases h1 : x < y
    · have h2 : x.toNat < y.toNat := h1
      rw [if_pos h1]
      have : ¬ (y.toNat :: b.map UInt8.toNat < x.toNat :: a.map UInt8.toNat) := by
        rw [List.cons_lt_cons_iff]
        rintro (h | ⟨h, _⟩) <;> (first | lia | omega)
      rw [decide_eq_false this]; rfl
    · by_cases h2 : x > y
      · have h3 : y.toNat < x.toNat := h2
        rw [if_neg h1, if_pos h2, decide_eq_true (List.cons_lt_cons_iff.mpr (Or.inl h3))]; rfl
      · have e : x = y := UInt8.le_antisymm (UInt8.not_lt.mp h2) (UInt8.not_lt.mp h1)
        subst e
        rw [if_neg h1, if_neg h2, order_gt a b]
        refine decide_eq_decide.mpr ?_
        rw [List.cons_lt_cons_iff]
        simp
theorem gives_bytes_le (b c : Array UInt8) (t u : Tok) : Gives (Builtin.«bytes.__le__» ⟨[.bytes b t, .bytes c u], []⟩) (.val (.bool (!(c.toList.map UInt8.toNat < b.toList.map UInt8.toNat)))) := by
  refine .of_wp fun M A E s Q hq => ?_
  show wpAny M A (isInstance (.bytes c u) (.type "bytes") >>= fun r => _) _ E s
  refine wpAny_bind (wpAny_isInstance (typeIs_bytes s c u) F.sub_bytes_bytes ?_)
  refine wpAny_pure ⟨_, rfl, ?_⟩
  have e : Builtin.Bytes.holds "__le__" (Builtin.Bytes.order b.toList c.toList) = !decide (c.toList.map UInt8.toNat < b.toList.map UInt8.toNat) := by
    rw [← order_gt]; rfl
  rw [← e] at hq
  exact hq
theorem le_bytes {prog : Program} {w : World} {A : Around} {E : Value → Shared → Prop} {s : Shared} {b c : Array UInt8} {t u : Tok} {Q : Value → Shared → Prop} (h : Q (.bool (!(c.toList.map UInt8.toNat < b.toList.map UInt8.toNat))) s) : wpAny (model prog w) A (compareOp .LtE (.bytes b t) (.bytes c u)) Q E s :=
  compareOp_gives (op := .LtE) (typeIs_bytes s b t) (typeIs_bytes s c u) slot_bytes_le entry_bytes_le (args_bytes_le_2 _ _) (gives_bytes_le b c t u) (fun e => nomatch e) h
theorem bInts_nat {b : Array UInt8} {ks : List Int} (h : KBw.bInts b = ks) : b.toList.map UInt8.toNat = ks.map Int.toNat := by
  subst h
  unfold KBw.bInts
  simp
end
section
theorem reset_ZK : True := by
  w_top off
  exact trivial

section
variable {w : World} {dp un : Nat} {gd : Option (List Code)} {cn : Str} {cs : Scope} {a : Addr} {ccd : Value} {cl : List (Str × Addr)} {outer : List Env} {A₀ : Around} {base h₀ : Heap} {L : Addr} {m : Str → Option Value} {s : Shared} {Q E : Value → Shared → Prop} {p : Program} {loose : List Str} {mean : ExcName → Option Value} {mg mb : Str → Option Value} {news : List (Addr × Obj)} {tb : Tok} {b : Array UInt8}
variable (B : Below A₀ base outer h₀) (F : Fr h₀ L s.heap m) (X : (hd.heap_39 w.params).In h₀) (N : News h₀ L s.heap news) (T : Top p loose mean mg mb h₀) (hk : cs.kind = .function)
include B F X N T hk
set_option maxHeartbeats 1000000 in
theorem law_u16 (hd : dp + 10 < recursionLimit) (hu : un + 100 < cLine) {kp : List (Addr × Obj)} (hkp : KeptIn kp news)
    (D : List Int) (hD : KBw.bInts b = D) (hsz : D.length ≤ 4000) (i : Int) (ti : Tok) (hi : 0 ≤ i ∧ i < 90000000)
    (hok : ∀ x, rdU16 D i = .ok x → 0 ≤ x → x < 65536 → ∀ h' tk' t, Fr h₀ L h' m → News h₀ L h' news → Q (.int x t) { s with heap := h', toks := tk' })
    (herr : ∀ z, rdU16 D i = .error z → Errs base h₀ kp (envX cn cs L a ccd cl) outer L m E s z) :
    Cl w dp un gd cn cs L a ccd cl outer 430 [.bytes b tb, .int i ti] Q E s := by
  k_dflt (refine' enter [("data", .bytes b tb), ("at", .int i ti)] B F X N T hk ?k6 ?k7 ?k8 ?k9 ?kB ?c2 ?c3 ?c4 ?c5 ?_; k_extra "m_sides")
  intro g' L' h₁ E' FG F' N' B' X' T' hP hE
  try dsimp only
  try k_fold
  refine foldAV ?_; intro Mz Az vz gz dz oz
  k_extra "m_steps"
  · refine raised B' (by assumption) X' (by assumption) (by k_extra "m_kept") (by assumption) rfl rfl (hE _ _ h₁ 0 _ (herr _ ?_)) _
    exact if_pos (.inr (by (k_extra "m_om")))
  · have e1 : (i + 1).toNat = i.toNat + 1 := by (k_extra "m_om")
    have h1 := byte_in hD i.toNat
    have h2 := byte_in hD (i.toNat + 1)
    refine hok _ (by unfold rdU16; rw [if_neg (by unfold Out; (k_extra "m_om"))]; unfold u16At; rw [← e1]) ?_ ?_ _ _ _ (by assumption) (by assumption)
    · rw [e1]; (k_extra "m_om")
    · rw [e1]; (k_extra "m_om")
theorem lines_ZK1 : True := by
  k_with "call ref" => (first | ((fail_if_success (k_extra "off ZK")); (k_here; (with_reducible show wpAny _ _ (call (Value.ref 430) _) _ _ _); k_dflt (refine' law_u16 ?k1 ?k2 ?k3 ?k4 ?k5 ?kK ?kd ?ku ?kp _ ?kD ?kb _ _ ?ki ?_ ?_; (case k1 => k_asm); (case k2 => k_asm); (case k3 => k_asm); (case k4 => k_extra "m_news"); (case k5 => k_asm); (case kK => first | exact rfl | assumption); (case kd => first | exact room_n (by with_reducible assumption) (by decide) | ktr_room); (case ku => first | exact room_n (by with_reducible assumption) (by decide) | ktr_units); (case kp => k_extra "m_kept"); (case kD => assumption); (case kb => assumption); (case ki => (k_extra "m_om")); (intro x hx h0x h1x h' tk' t' F' N'; (try k_sweep))))) | fail)
  exact trivial
set_option maxHeartbeats 1000000 in
theorem law_offset (hd : dp + 15 < recursionLimit) (hu : un + 120 < cLine) {kp : List (Addr × Obj)} (hkp : KeptIn kp news)
    (D : List Int) (hD : KBw.bInts b = D) (hsz : D.length ≤ 4000) (i : Int) (ti : Tok) (hi : 0 ≤ i ∧ i < 90000000) (g : Int) (tg : Tok)
    (hok : ∀ x, rdOff D i g = .ok x → ∀ h' tk' t, Fr h₀ L h' m → News h₀ L h' news → Q (.int x t) { s with heap := h', toks := tk' })
    (herr : ∀ z, rdOff D i g = .error z → Errs base h₀ kp (envX cn cs L a ccd cl) outer L m E s z) :
    Cl w dp un gd cn cs L a ccd cl outer 442 [.bytes b tb, .int i ti, .int g tg] Q E s := by
  k_dflt (refine' enter [("data", .bytes b tb), ("at", .int i ti), ("begin", .int g tg)] B F X N T hk ?k6 ?k7 ?k8 ?k9 ?kB ?c2 ?c3 ?c4 ?c5 ?_; k_extra "m_sides")
  intro g' L' h₁ E' FG F' N' B' X' T' hP hE
  try dsimp only
  try k_fold
  refine foldAV ?_; intro Mz Az vz gz dz oz
  k_extra "m_steps"
  · rename rdU16 D i = .ok _ => e1
    refine raised B' (by assumption) X' (by assumption) (by k_extra "m_kept") (by assumption) rfl rfl (hE _ _ h₁ 0 _ (herr _ ?_)) _
    unfold rdOff; rw [e1]; exact if_pos (by assumption)
  · rename_i x2 hx2 _ _ _ _ _ hx0 _ _ _ _ _
    rw [hx] at hx2
    cases hx2
    refine hok _ ?_ _ _ _ (by assumption) (by assumption)
    unfold rdOff; rw [hx]; exact if_neg hx0
  · rename rdU16 D i = .ok x => e1
    rename rdU16 D i = .error _ => e2
    rw [e1] at e2; cases e2
  · rename rdU16 D i = .error _ => e1
    refine hE _ _ _ _ _ (herr _ ?_)
    unfold rdOff; rw [e1]
theorem lines_ZK2 : True := by
  k_with "call ref" => (first | ((fail_if_success (k_extra "off ZK")); (k_here; (with_reducible show wpAny _ _ (call (Value.ref 430) _) _ _ _); k_dflt (refine' law_u16 ?k1 ?k2 ?k3 ?k4 ?k5 ?kK ?kd ?ku ?kp _ ?kD ?kb _ _ ?ki ?_ ?_; (case k1 => k_asm); (case k2 => k_asm); (case k3 => k_asm); (case k4 => k_extra "m_news"); (case k5 => k_asm); (case kK => first | exact rfl | assumption); (case kd => first | exact room_n (by with_reducible assumption) (by decide) | ktr_room); (case ku => first | exact room_n (by with_reducible assumption) (by decide) | ktr_units); (case kp => k_extra "m_kept"); (case kD => assumption); (case kb => assumption); (case ki => (k_extra "m_om")); (intro x hx h0x h1x h' tk' t' F' N'; (try k_sweep))))) | fail)
  exact trivial
set_option maxHeartbeats 1000000 in
theorem law_u16s (hd : dp + 15 < recursionLimit) (hu : un + 120 < cLine) {kp : List (Addr × Obj)} (hkp : KeptIn kp news)
    (D : List Int) (hD : KBw.bInts b = D) (hsz : D.length ≤ 4000) (i : Int) (ti : Tok) (hi : 0 ≤ i ∧ i < 90000000) (c : Int) (tc : Tok) (hc0 : 0 ≤ c) (hc1 : c < 65536)
    (hok : ∀ x, rdRows D i c = .ok x → ∀ h' tk' r ys, Fr h₀ L h' m → News h₀ L h' ((r, LCg.lst ys) :: news) → IntsAre ys x → ys.length ≤ 65536 → (∀ p ∈ news, p.1 ≠ r) → Q (.ref r) { s with heap := h', toks := tk' })
    (herr : ∀ z, rdRows D i c = .error z → Errs base h₀ kp (envX cn cs L a ccd cl) outer L m E s z) :
    Cl w dp un gd cn cs L a ccd cl outer 435 [.bytes b tb, .int i ti, .int c tc] Q E s := by
  k_dflt (refine' enterC [("data", .bytes b tb), ("at", .int i ti), ("count", .int c tc)] B F X N T hk ?k6 ?k7 ?k8 ?k9 ?kB ?kD ?c2 ?c3 ?c4 ?_; k_extra "m_sidesC")
  intro g' L' h₁ tk cells E' FG F' N' Y' B' X' T' l' hP hE
  refine (let Gz : Prop := _; (?_ : Gz))
  (refine ex2 (CellsAre.two Y') fun o1 o2 hAz167 => ?_; refine and3 (hAz167) fun hE1 d1 d2 => ?_; clear hAz167)
  k_unfold; clear Gz
  subst hE1
  try simp only [List.cons_append, List.nil_append] at N'
  try dsimp only
  try k_fold
  refine foldAV ?_; intro Mz Az vz gz dz oz
  k_extra "m_steps"
  · refine raised B' (by assumption) X' (by assumption) (by k_extra "m_kept") (by assumption) rfl rfl (hE _ _ h₁ 0 _ (herr _ ?_)) _
    exact if_pos (.inr (by (k_extra "m_om")))
  · have hO : ¬ Out D i (2 * c) := by unfold Out; (k_extra "m_om")
    rename IsRange _ _ _ _ _ _ _ _ => hR
    rename Fr _ _ _ _ => F9
    rename News _ _ _ _ => N9
    refine at_range1 (kp := []) (n := c.toNat) (fun _ => False) (fun j ys nw => nw = (L' + 1 + 1, o1) :: (L' + 1, o2) :: news ∧ IntsAre ys ((List.range j).map fun (j : Nat) => u16At D (i + 2 * (j : Int))))
      B' F9 N9 rfl rfl rfl hR (range_small hc0 (by (k_extra "m_om"))) (range_size hc0) (by rw [sizeLine_eq]; (k_extra "m_om")) (by decide) rfl rfl ?_ ?_ ⟨rfl, .nil⟩ ?_ ?_ ?_
    · intro _ _ _ _ _ hp; cases hp
    · intro _ hp; cases hp
    · intro _ hz; exact hz.elim
    · intro j tj ys nw I oI C oC D' m₂ h tk hj hJz2
      refine (let Gz : Prop := _; (?_ : Gz))
      obtain ⟨rfl, hys⟩ := hJz2
      k_unfold; clear Gz
      intro hoC hm₂ F1 N1 O3 hne hkk
      k_extra "m_steps"
      have e : u16At D (i + 2 * (j : Int)) = 256 * D.getD (i + 2 * (0 + (j : Int))).toNat 0 + D.getD (i + 2 * (0 + (j : Int)) + 1).toNat 0 := by
        unfold u16At
        rw [show i + 2 * (0 + (j : Int)) = i + 2 * (j : Int) by (k_extra "m_om"), show (i + 2 * (j : Int) + 1).toNat = (i + 2 * (j : Int)).toNat + 1 by (k_extra "m_om")]
      dsimp only
      refine LCg.CompEnd.intro F1 N1 ((L' + 1 + 1, o1) :: (L' + 1, o2) :: news) (fun _ h => h) O3 trivial ⟨rfl, ?_⟩
      rw [List.range_succ, List.map_append]
      show IntsAre _ (_ ++ [u16At D (i + 2 * (j : Int))])
      rw [e]
      exact IntsAre.append hys (.cons _ _ .nil)
    · refine fin_none ?_
      intro D' h tk ys nw F1 N1 hno hJz3
      refine (let Gz : Prop := _; (?_ : Gz))
      obtain ⟨rfl, hys⟩ := hJz3
      k_unfold; clear Gz
      k_extra "m_steps"
      refine hok _ (if_neg hO) _ _ D' ys (by assumption) (News.sub (by assumption) (by k_extra "m_sub")) hys (by rw [IntsAre.length hys, List.length_map, List.length_range]; (k_extra "m_om")) fun p hp => hno p (.tail _ (.tail _ hp))
end
theorem off_ZK : True := by
  k_with "off ZK" => (skip)
  exact trivial
end
section
theorem reset_ZL : True := by
  w_top off
  exact trivial

noncomputable def BRec (tl : List (Addr × Obj)) (v : Value) (p : List Int × Int) : Prop := ∃ t bt k1 k2, v = .ref t ∧ (t, tupO [.bytes bt k1, .int p.2 k2]) ∈ tl ∧ KBw.bInts bt = p.1
theorem BRec.mono {tl tl' : List (Addr × Obj)} {v : Value} {p : List Int × Int} (h : BRec tl v p) (hs : ∀ p ∈ tl, p ∈ tl') : BRec tl' v p := by
  refine (let Gz : Prop := _; (?_ : Gz))
  (refine ex4 (h) fun t bt k1 k2 hAz168 => ?_; clear h; refine and3 (hAz168) fun e m hb => ?_; clear hAz168)
  k_unfold; clear Gz
  exact ⟨t, bt, k1, k2, e, hs _ m, hb⟩
theorem where_top {m₀ m₁ : Str → Option Value} {v w : Value} (h : m₁ (Str.ofString "where") = some w) :
    (fun y => if y = Str.ofString "spot" then some v else if [Str.ofString "spot", Str.ofString "tag", Str.ofString "where"].contains y then m₁ y else m₀ y) =
    fun y => if y = Str.ofString "where" then some w else if y = Str.ofString "spot" then some v else if [Str.ofString "spot", Str.ofString "tag", Str.ofString "where"].contains y then m₁ y else m₀ y := by
  funext y
  by_cases hy : y = Str.ofString "where"
  · rw [if_pos hy, if_neg (by rw [hy]; decide +kernel), if_pos (by rw [hy]; decide +kernel), hy, h]
  · rw [if_neg hy]
theorem cut4 {D : List Int} {i : Int} (h : 0 ≤ i) : List.take (clipAt D.length (i + 4) - clipAt D.length i) (List.drop (clipAt D.length i) D) = (D.drop i.toNat).take 4 := by
  refine (let Gz : Prop := _; (?_ : Gz))
  obtain ⟨j, rfl⟩ := Int.eq_ofNat_of_zero_le h
  k_unfold; clear Gz
  have e1 : clipAt D.length ((j : Int) + 4) = min (j + 4) D.length := by
    have : ((j : Int) + 4) = ((j + 4 : Nat) : Int) := by (k_extra "m_om")
    rw [this, clipAt_nat]
  rw [e1, clipAt_nat, Int.toNat_natCast]
  by_cases hj : j ≤ D.length
  · rw [Nat.min_eq_left hj]
    by_cases h4 : j + 4 ≤ D.length
    · rw [Nat.min_eq_left h4]; congr 1; (k_extra "m_om")
    · rw [Nat.min_eq_right (by (k_extra "m_om"))]
      rw [List.take_of_length_le (by rw [List.length_drop]; (k_extra "m_om")), List.take_of_length_le (by rw [List.length_drop]; (k_extra "m_om"))]
  · rw [Nat.min_eq_right (by (k_extra "m_om")), Nat.min_eq_right (by (k_extra "m_om")), List.drop_eq_nil_of_le (Nat.le_refl _), List.drop_eq_nil_of_le (by (k_extra "m_om"))]
    simp
theorem cut_lt {D : List Int} {i : Int} (h : 0 ≤ i) : ((min (clipAt D.length (i + 4) - clipAt D.length i) (D.length - clipAt D.length i) : Nat) : Int) < 4 ↔ Out D i 4 := by
  have e : min (clipAt D.length (i + 4) - clipAt D.length i) (D.length - clipAt D.length i) = ((D.drop i.toNat).take 4).length := by
    rw [← cut4 h, List.length_take, List.length_drop]
  rw [e, List.length_take, List.length_drop]
  unfold Out
  (k_extra "m_om")
theorem allR_snoc {α β : Type} {R : α → β → Prop} {vs : List α} {ds : List β} {d : β} (h : AllR R vs (ds ++ [d])) : ∃ vs' v, vs = vs' ++ [v] ∧ AllR R vs' ds ∧ R v d := by
  induction ds generalizing vs with
  | nil =>
    cases h with
    | cons h r => cases r; exact ⟨[], _, rfl, .nil, h⟩
  | cons e ds ih =>
    cases h with
    | cons h r =>
      refine (let Gz : Prop := _; (?_ : Gz))
      (refine ex2 (ih r) fun vs' v hAz169 => ?_; refine and3 (hAz169) fun hEz169_2 a b => ?_; clear hAz169; subst hEz169_2)
      k_unfold; clear Gz
      exact ⟨_ :: vs', v, rfl, .cons h a, b⟩
section
variable {w : World} {dp un : Nat} {gd : Option (List Code)} {cn : Str} {cs : Scope} {a : Addr} {ccd : Value} {cl : List (Str × Addr)} {outer : List Env} {A₀ : Around} {base h₀ : Heap} {L : Addr} {m : Str → Option Value} {s : Shared} {Q E : Value → Shared → Prop} {p : Program} {loose : List Str} {mean : ExcName → Option Value} {mg mb : Str → Option Value} {news : List (Addr × Obj)} {tb : Tok} {b : Array UInt8}
variable (B : Below A₀ base outer h₀) (F : Fr h₀ L s.heap m) (X : (hd.heap_39 w.params).In h₀) (N : News h₀ L s.heap news) (T : Top p loose mean mg mb h₀) (hk : cs.kind = .function)
include B F X N T hk
theorem lines_ZL1 : True := by
  k_with "call ref" => (first | ((fail_if_success (k_extra "off ZL")); (k_here; (with_reducible show wpAny _ _ (call (Value.ref 430) _) _ _ _); k_dflt (refine' law_u16 ?k1 ?k2 ?k3 ?k4 ?k5 ?kK ?kd ?ku ?kp _ ?kD ?kb _ _ ?ki ?_ ?_; (case k1 => k_asm); (case k2 => k_asm); (case k3 => k_asm); (case k4 => k_extra "m_news"); (case k5 => k_asm); (case kK => first | exact rfl | assumption); (case kd => first | exact room_n (by with_reducible assumption) (by decide) | ktr_room); (case ku => first | exact room_n (by with_reducible assumption) (by decide) | ktr_units); (case kp => k_extra "m_kept"); (case kD => assumption); (case kb => assumption); (case ki => (k_extra "m_om")); (intro x hx h0x h1x h' tk' t' F' N'; (try k_sweep))))) | fail)
  k_with "call ref" => (first | ((fail_if_success (k_extra "off ZL")); (k_here; (with_reducible show wpAny _ _ (call (Value.ref 442) _) _ _ _); k_dflt (refine' law_offset ?k1 ?k2 ?k3 ?k4 ?k5 ?kK ?kd ?ku ?kp _ ?kD ?kb _ _ ?ki _ _ ?_ ?_; (case k1 => k_asm); (case k2 => k_asm); (case k3 => k_asm); (case k4 => k_extra "m_news"); (case k5 => k_asm); (case kK => first | exact rfl | assumption); (case kd => first | exact room_n (by with_reducible assumption) (by decide) | ktr_room); (case ku => first | exact room_n (by with_reducible assumption) (by decide) | ktr_units); (case kp => k_extra "m_kept"); (case kD => assumption); (case kb => assumption); (case ki => (k_extra "m_om")); (intro gx hgx h' tk' tgo F' N'; (try k_sweep))))) | fail)
  k_with "compareOp NotEq ref ref" => (first | ((fail_if_success (k_extra "off ZL")); k_extra "m_stop") | fail)
  k_with "compareOp LtE bytes bytes" => (first | ((fail_if_success (k_extra "off ZL")); (k_here; (with_reducible refine le_bytes ?_))) | fail)
  k_with "isTrue BoolOp" => (first | ((fail_if_success (k_extra "off ZL")); (k_here; (with_reducible show wpAny _ _ (PySem.isTrue (PySem.Expr.BoolOp _ (_ :: _ :: _ :: []) _) _ _) _ _ _); (fail_if_success (with_reducible show wpAny _ _ _ (JoinB _) _ _)); refine of_stop ?_)) | fail)
  exact trivial
set_option maxHeartbeats 1000000 in
theorem law_records (hd : dp + 30 < recursionLimit) (hu : un + 200 < cLine) {kp : List (Addr × Obj)} (hkp : KeptIn kp news)
    (D : List Int) (hD : KBw.bInts b = D) (hsz : D.length ≤ 4000) (g : Int) (tg : Tok) (hg : 0 ≤ g ∧ g < 80000000) (lead : Int) (tl : Tok) (hl : 0 ≤ lead ∧ lead < 10) (asc : Bool)
    (hok : ∀ x, rdRecs D g lead asc = .ok x → ∀ h' tk' r vs nw, Fr h₀ L h' m → News h₀ L h' (((r, LCg.lst vs) :: nw) ++ news) → DatAll nw vs (x.map recD) → Apart ((r, LCg.lst vs) :: nw) news → Q (.ref r) { s with heap := h', toks := tk' })
    (herr : ∀ z, rdRecs D g lead asc = .error z → Errs base h₀ kp (envX cn cs L a ccd cl) outer L m E s z) :
    Cl w dp un gd cn cs L a ccd cl outer 447 [.bytes b tb, .int g tg, .int lead tl, .bool asc] Q E s := by
  k_dflt (refine' enter [("data", .bytes b tb), ("at", .int g tg), ("lead", .int lead tl), ("is_ascending", .bool asc)] B F X N T hk ?k6 ?k7 ?k8 ?k9 ?kB ?c2 ?c3 ?c4 ?c5 ?_; k_extra "m_sides")
  intro g' L' h₁ E' FG F' N' B' X' T' hP hE
  try dsimp only
  try k_fold
  refine foldAV ?_; intro Mz Az vz gz dz oz
  k_extra "m_steps"
  · rename IsRange _ _ _ _ _ _ _ _ => hR
    rename Fr g' L' _ _ => F9
    rename News g' L' _ _ => N9
    have hOz4 : ∃ c, c = lw := ⟨_, rfl⟩
    refine (let Gz : Prop := _; (?_ : Gz))
    obtain ⟨fnd, hfnd⟩ := hOz4
    k_unfold; clear Gz
    subst hfnd
    have hOz5 : ∃ r, News g' L' _ ((fnd, LCg.lst []) :: r) ∧ (∀ p ∈ news, p ∈ r) ∧ ∀ p ∈ r, p.1 ≠ fnd :=
      ⟨(tw, _) :: news, News.sub N9 (by k_extra "m_sub"), by k_extra "m_sub", (fmc (Nat.ne_of_gt ltw.1) (fun p hp => Nat.ne_of_lt (llwx p hp)))⟩
    refine (let Gz : Prop := _; (?_ : Gz))
    obtain ⟨rest, hrest⟩ := hOz5
    k_unfold; clear Gz
    refine (let Gz : Prop := _; (?_ : Gz))
    (refine and3 (hrest) fun hN hnr hrl => ?_; clear hrest)
    k_unfold; clear Gz
    have hkr : KeptIn kp rest := ⟨fun p hp => hnr p (hkp.1 p hp), hkp.2⟩
    refine for1_range (n := x.toNat) [Str.ofString "spot", Str.ofString "tag", Str.ofString "where"] (fun j m₁ nw => ∃ acc vs tl, (∃ t, m₁ (Str.ofString "where") = some (.int (g + lead + 2 + 6 * (j : Int)) t)) ∧ nw = (fnd, LCg.lst vs) :: (tl ++ rest) ∧ AllR (BRec tl) vs acc ∧ (∀ p ∈ acc, TagOk p.1) ∧ Apart tl ((fnd, LCg.lst []) :: rest) ∧ acc.length = j ∧ rdRecs D g lead asc = recsGo D g asc (x.toNat - j) (g + lead + 2 + 6 * (j : Int)) acc)
      rfl F9 hN hR (range_small h0x (by (k_extra "m_om"))) (range_size h0x) ?_ ?_ ?_
    · refine (xi3 [] [] [] ⟨?_, rfl, .nil, (fun _ hp => nomatch hp), Apart.nil, rfl, ?_⟩)
      · rw [Int.natCast_zero, Int.mul_zero, Int.add_zero]; exact ⟨_, rfl⟩
      · unfold rdRecs; rw [hx, Int.natCast_zero, Int.mul_zero, Int.add_zero, Nat.sub_zero]
    · intro j tj m₁ nw h tk I it hj hJz7
      refine (let Gz : Prop := _; (?_ : Gz))
      (refine ex3 (hJz7) fun acc vs tl hAz171 => ?_; clear hJz7; refine and7 (hAz171) fun hNz171_3 hEz171_4 hda hto hap hlen hgo => ?_; clear hAz171; obtain ⟨tq, hwh⟩ := hNz171_3; subst hEz171_4)
      k_unfold; clear Gz
      intro hS F1 N1 hI
      have hvz : vs.length ≤ 1000000 := by rw [hda.length]; (k_extra "m_om")
      have hI2 : @Ne Nat fnd I := hI _ (.head _)
      have htI : ∀ p ∈ tl ++ rest, p.1 ≠ I := fun p hp => hI p (.tail _ hp)
      have htl : ∀ p ∈ tl ++ rest, p.1 ≠ fnd := fun p hp => (List.mem_append.mp hp).elim (fun hp => Ne.symm (hap p hp _ (.head _))) (hrl p)
      have e6 : g + lead + 2 + 6 * (j : Int) + 6 = g + lead + 2 + 6 * ((j + 1 : Nat) : Int) := by (k_extra "m_om")
      have en : x.toNat - j = (x.toNat - (j + 1)) + 1 := sub_step hj
      have hpos : 0 ≤ g + lead + 2 + 6 * (j : Int) := by (k_extra "m_om")
      have hposz : g + lead + 2 + 6 * (j : Int) < 80500000 := by (k_extra "m_om")
      rw [show (fun y => if y = Str.ofString "spot" then some (Value.int (0 + (j : Int)) tj) else if [Str.ofString "spot", Str.ofString "tag", Str.ofString "where"].contains y then m₁ y else _) = _ from where_top hwh] at F1
      k_extra "m_steps"
      · have hO : Out D (g + lead + 2 + 6 * (j : Int)) 4 := (cut_lt hpos).mp (by assumption)
        refine raised B' (by assumption) X' (by assumption) (by k_extra "m_kept") (by assumption) rfl rfl (hE _ _ h₁ 0 _ (herr _ ?_)) _
        rw [hgo, en]
        exact recs_e1 _ (if_pos hO)
      · have hO : ¬ Out D (g + lead + 2 + 6 * (j : Int)) 4 := fun h => absurd ((cut_lt hpos).mpr h) (by assumption)
        have htg : rdTag D (g + lead + 2 + 6 * (j : Int)) = .ok ((D.drop (g + lead + 2 + 6 * (j : Int)).toNat).take 4) := if_neg hO
        rename KBw.bInts (KBy.picked _ _ _) = _ => hb2
        rw [cut4 hpos] at hb2
        have hOz8 : ∃ t, t = (D.drop (g + lead + 2 + 6 * (j : Int)).toNat).take 4 := ⟨_, rfl⟩
        refine (let Gz : Prop := _; (?_ : Gz))
        obtain ⟨tgx, htx⟩ := hOz8
        k_unfold; clear Gz
        rw [← htx] at htg hb2
        rename Fr g' L' _ _ => F5
        rename News g' L' _ _ => N5
        refine join_bool (stops asc acc tgx) F5 N5 ?_ ?_
        · k_extra "m_steps"
          · rename asc = true => hasc
            subst hasc
            rcases List.eq_nil_or_concat acc with rfl | ⟨acc', pr, rfl⟩
            · have hvs : vs = [] := by cases hda; rfl
              subst hvs
              refine ne_nil_K0 (by assumption) (by k_mem) (by k_mem) (by exact room_n (by with_reducible assumption) (by decide)) ?_
              k_extra "m_steps"
              rename News g' L' _ _ => N6
              exact ⟨rfl, _, _, rfl, by assumption, News.sub N6 (by k_extra "m_sub")⟩
            · rw [List.concat_eq_append] at hda hto hgo hlen ⊢
              refine (let Gz : Prop := _; (?_ : Gz))
              (refine ex2 (allR_snoc hda) fun vs' v hAz172 => ?_; refine and3 (hAz172) fun hEz172_2 hdv hdl => ?_; clear hAz172; subst hEz172_2)
              k_unfold; clear Gz
              refine (let Gz : Prop := _; (?_ : Gz))
              (refine ex4 (hdl) fun t9 bt9 u9 w9 hAz173 => ?_; clear hdl; refine and3 (hAz173) fun hEz173_4 hm9 hb9 => ?_; clear hAz173; subst hEz173_4)
              k_unfold; clear Gz
              refine ne_nil_len (by assumption) (by k_mem) (by k_mem) (by simp) (Nat.lt_of_le_of_lt (Nat.le_add_right _ 64) (room_n (a := un) (c := 3) (k := 64) hu (by decide))) ?_
              k_extra "m_steps"
              · rename bt9.toList.map UInt8.toNat < _ => hcmp
                rw [bInts_nat hb9, bInts_nat hb2] at hcmp
                rename News g' L' _ _ => N6
                exact ⟨by rw [stops_last]; unfold tagLe; rw [decide_eq_true hcmp]; rfl, _, _, rfl, by assumption, News.sub N6 (by k_extra "m_sub")⟩
              · rename ¬ bt9.toList.map UInt8.toNat < _ => hcmp
                rw [bInts_nat hb9, bInts_nat hb2] at hcmp
                rename News g' L' _ _ => N6
                exact ⟨by rw [stops_last]; unfold tagLe; rw [decide_eq_false hcmp]; rfl, _, _, rfl, by assumption, News.sub N6 (by k_extra "m_sub")⟩
          · rename asc = false => hasc
            subst hasc
            exact ⟨rfl, _, _, rfl, by assumption, by assumption⟩
        intro h6 tk6 F6 N6
        clear F5 N5
        generalize hst : stops asc acc tgx = cst
        cases cst with
        | true =>
          k_extra "m_steps"
          refine raised B' (by assumption) X' (by assumption) (by k_extra "m_kept") (by assumption) rfl rfl (hE _ _ h₁ 0 _ (herr _ ?_)) _
          rw [hgo, en]
          exact recs_e2 _ htg hst
        | false =>
          k_extra "m_steps"
          · rename News g' L' _ _ => N5
            have hOz11 : ∃ ob kk, ob = tupO [.bytes (KBy.picked b (some (g + lead + 2 + 6 * (j : Int))) (some ((g + lead + 2 + 6 * (j : Int)) + 4))) kk, .int gx tgo] ∧ News g' L' _ ((tw, ob) :: (I, it) :: (fnd, LCg.lst (vs ++ [.ref tw])) :: (tl ++ rest)) := ⟨_, _, rfl, News.sub N5 (by k_extra "m_sub")⟩
            refine (let Gz : Prop := _; (?_ : Gz))
            (refine ex2 (hOz11) fun ob kk hAz174 => ?_; clear hOz11; refine and2 (hAz174) fun hob N5 => ?_; clear hAz174)
            k_unfold; clear Gz
            have htw : ∀ p ∈ (I, it) :: (fnd, LCg.lst vs) :: (tl ++ rest), p.1 ≠ tw := fun p hp => Nat.ne_of_lt (ltwx p (by k_extra "m_in"))
            refine TurnPost.intro (by assumption) N5 ((fnd, LCg.lst (vs ++ [.ref tw])) :: (((tw, ob) :: tl) ++ rest)) (by k_extra "m_sub") ?_ (by k_extra "m_same") (xi3 (acc ++ [(tgx, gx)]) (vs ++ [.ref tw]) ((tw, ob) :: tl) ⟨?_, rfl, ?_, ?_, ?_, ?_, ?_⟩)
            · exact (fmc (hI2) ((fmc (Ne.symm (htw _ (.head _))) (htI))))
            · rw [← e6]; exact ⟨_, rfl⟩
            · exact (hda.mono fun _ _ x => x.mono fun p hp => .tail _ hp).append (.one ⟨tw, _, kk, tgo, rfl, by rw [hob]; exact .head _, hb2⟩)
            · exact fun p hp => (List.mem_append.mp hp).elim (hto p) fun hp => by rw [List.mem_singleton.mp hp]; exact rdTag_ok hD htg
            · exact Apart.cons (fun p hp => by rcases List.mem_cons.mp hp with rfl | hp; exact htw (fnd, LCg.lst vs) (.tail _ (.head _)); exact htw p (.tail _ (.tail _ (List.mem_append_right _ hp)))) hap
            · rw [List.length_append, hlen]; rfl
            · rw [hgo, en, recs_ok _ htg hst hgx, e6]
          · rename rdOff D _ _ = .error _ => hz
            refine hE _ _ _ _ _ (herr _ ?_)
            rw [hgo, en]
            exact recs_e3 _ htg hst hz
    · intro m' nw h tk hJz12
      refine (let Gz : Prop := _; (?_ : Gz))
      (refine ex3 (hJz12) fun acc vs tl hAz175 => ?_; clear hJz12; refine and7 (hAz175) fun hNz175_3 hEz175_4 hda hto hap hlen hgo => ?_; clear hAz175; obtain ⟨tq, hwh⟩ := hNz175_3; subst hEz175_4)
      k_unfold; clear Gz
      intro hS F1 N1
      k_extra "m_steps"
      rename Fr g' L' _ _ => F5
      rename News g' L' _ _ => N5
      have hOz13 : ∃ r, r = (fnd, LCg.lst vs) :: (tl ++ rest) := ⟨_, rfl⟩
      refine (let Gz : Prop := _; (?_ : Gz))
      obtain ⟨r2, hr2⟩ := hOz13
      k_unfold; clear Gz
      have hfr : (fnd, LCg.lst vs) ∈ r2 := by rw [hr2]; exact .head _
      have htr : ∀ p ∈ tl, p ∈ r2 := by rw [hr2]; exact fun p hp => .tail _ (List.mem_append_left _ hp)
      have hnr2 : ∀ p ∈ news, p ∈ r2 := by rw [hr2]; exact fun p hp => .tail _ (List.mem_append_right _ (hnr p hp))
      have hNr : News g' L' h r2 := by rw [hr2]; exact N5
      have hacc : rdRecs D g lead asc = .ok acc := by rw [hgo, Nat.sub_self]; rfl
      have hrcl := recs_len hD hacc
      refine at_list2 (kp := []) (its := vs.toArray) (fun _ => False) (fun j ys nw => ∃ t2, nw = t2 ++ r2 ∧ DatAll t2 ys ((acc.take j).map recD) ∧ Apart t2 r2)
        B' F5 hNr rfl rfl rfl ?_ ?_ ?_ (by decide) rfl rfl rfl (by decide) ?_ ?_ ⟨[], rfl, .nil, Apart.nil⟩ ?_ ?_ ?_
      · rw [List.size_toArray, hda.length, sizeLine_eq]; exact Nat.le_trans hrcl (by decide)
      · intro j ys nw hJz14
        refine (let Gz : Prop := _; (?_ : Gz))
        (refine ex1 (hJz14) fun t2 hAz176 => ?_; clear hJz14; refine and2 (hAz176) fun hEz176_1 _ => ?_; clear hAz176; subst hEz176_1)
        k_unfold; clear Gz
        exact .inr ⟨_, List.mem_append_right _ hfr, rfl, _, rfl⟩
      · intro j v ys nw hv hJz15
        refine (let Gz : Prop := _; (?_ : Gz))
        (refine ex1 (hJz15) fun t2 hAz177 => ?_; clear hJz15; refine and2 (hAz177) fun hEz177_1 _ => ?_; clear hAz177; subst hEz177_1)
        k_unfold; clear Gz
        refine (let Gz : Prop := _; (?_ : Gz))
        obtain ⟨q, hq, t, bt, k1, k2, rfl, hm, hb⟩ := hda.get (by simpa using hv)
        k_unfold; clear Gz
        exact (xi5 t _ _ _ _ ⟨rfl, List.mem_append_right _ (htr _ hm), rfl, rfl⟩)
      · intro _ _ _ _ _ hp; cases hp
      · intro _ hp; cases hp
      · intro _ hz; exact hz.elim
      · intro j v ys nw I oI C oC D' m₂ h tk hv hJz17
        refine (let Gz : Prop := _; (?_ : Gz))
        (refine ex1 (hJz17) fun t2 hAz179 => ?_; clear hJz17; refine and3 (hAz179) fun hEz179_1 hd2 hap2 => ?_; clear hAz179; subst hEz179_1)
        k_unfold; clear Gz
        intro t ot v₁ v₂ nt
        rintro rfl
        intro hmt hct hdt hoC hx1 hx2 F3 N3 O3 hne hkk
        refine (let Gz : Prop := _; (?_ : Gz))
        obtain ⟨q, hq, t', bt, k1, k2, e, hm, hb⟩ := hda.get (by simpa using hv)
        k_unfold; clear Gz
        refine (let Gz : Prop := _; (?_ : Gz))
        obtain ⟨rfl, rfl⟩ := rec_item N3 (.tail _ (.tail _ (.tail _ hmt))) (.tail _ (.tail _ (.tail _ (List.mem_append_right _ (htr _ hm))))) e hdt
        k_unfold; clear Gz
        have htk := hto q (List.mem_of_getElem? hq)
        have hbs : q.1.length = bt.size := by rw [← hb, KBw.ints_length]
        k_extra "m_steps"
        refine at_bytes1N (fun i zs nw => nw = (I, oI) :: (C, oC) :: (D', LCg.lst ys) :: (t2 ++ r2) ∧ StrsAre zs ((q.1.take i).map fun k => (⟨#[k.toNat]⟩ : Str))) F3 N3 rfl ?_ (by decide) rfl rfl ⟨rfl, .nil⟩ ?_ ?_
        · rw [← hbs, htk.1]; decide
        · intro i c ti zs nw I' oI' C' oC' D'' m₃ h tk E2 hc hJz20
          refine (let Gz : Prop := _; (?_ : Gz))
          obtain ⟨rfl, hzs⟩ := hJz20
          k_unfold; clear Gz
          intro hoC' hm₃ F4 N4 O4 hne'
          have hin := KBw.ints_in (List.mem_of_getElem? hc)
          k_extra "m_steps"
          refine LCg.CompEnd.intro F4 N4 _ (fun p hp => hp) O4 trivial ⟨rfl, ?_⟩
          rw [hb] at hc
          rw [List.take_add_one, hc, List.map_append]
          exact StrsAre.append' hzs (.cons _ _ .nil)
        · refine fin_none ?_
          intro D'' h tk zs nw F4 N4 hno' hJz21
          refine (let Gz : Prop := _; (?_ : Gz))
          obtain ⟨rfl, hzs⟩ := hJz21
          k_unfold; clear Gz
          rw [← hbs, List.take_length] at hzs
          k_extra "m_steps"
          refine join_listW ⟨_, (N4 _ (.head _)).1, rfl, _, rfl⟩ hzs (by decide) ?_ fun t' k => ?_
          · rw [tag_len, List.length_map, htk.1]; decide
          · rw [tag_join]
            k_extra "m_steps"
            have htw : ∀ p ∈ (I, oI) :: (C, oC) :: (D', LCg.lst ys) :: (t2 ++ r2), @Ne Nat tw p.1 := fun p hp => Nat.ne_of_gt (ltwx p (.tail _ hp))
            refine LCg.CompEnd.intro (by assumption) (by assumption) (((tw, tupO [.str (tagStr q.1) t', .int q.2 k2]) :: t2) ++ r2) (by k_extra "m_sub") (LCg.Off3.of ((fmc (⟨htw _ (.head _), htw _ (.tail _ (.head _)), htw _ (.tail _ (.tail _ (.head _)))⟩) (O3.mem)))) trivial
              ⟨(tw, tupO [.str (tagStr q.1) t', .int q.2 k2]) :: t2, rfl, ?_, ?_⟩
            · rw [take_snoc hq, List.map_append]
              exact DatAll.append (hd2.mono fun p hp => .tail _ hp) (.one (.tuple (.head _) (.cons (.str _ _) (.cons (.int _ _) .nil))))
            · exact Apart.cons (fun p hp => Ne.symm (htw p (.tail _ (.tail _ (.tail _ (List.mem_append_right _ hp)))))) hap2
      · refine fin_none ?_
        intro D' h tk ys nw F3 N3 hno hJz22
        refine (let Gz : Prop := _; (?_ : Gz))
        (refine ex1 (hJz22) fun t2 hAz181 => ?_; clear hJz22; refine and3 (hAz181) fun hEz181_1 hd2 hap2 => ?_; clear hAz181; subst hEz181_1)
        k_unfold; clear Gz
        rw [List.size_toArray, hda.length, List.take_length] at hd2
        k_extra "m_steps"
        refine hok acc hacc _ _ D' ys t2 (by assumption) (News.sub (by assumption) ?_) hd2 ?_
        · exact List.forall_mem_append.mpr ⟨by k_extra "m_sub", fun p hp => .tail _ (List.mem_append_right _ (hnr2 p hp))⟩
        · exact Apart.cons (fun p hp => hno p (List.mem_append_right _ (hnr2 p hp))) (hap2.mono hnr2)
  · rename rdU16 D _ = .error _ => hx
    refine hE _ _ _ _ _ (herr _ ?_)
    unfold rdRecs; rw [hx]
end
theorem off_ZL : True := by
  k_with "off ZL" => (skip)
  exact trivial
end
section
theorem reset_ZM : True := by
  w_top off
  exact trivial

theorem rows_short {b : Array UInt8} {D : List Int} {i c : Int} {rx : List Int} {ys : List Value} (hD : KBw.bInts b = D) (h : rdRows D i c = .ok rx) (hy : IntsAre ys rx) (hsz : D.length ≤ 4000) : ys.length ≤ 4000 := by
  unfold rdRows at h
  split at h
  · cases h
  · rename_i ho
    cases h
    rw [hy.length, List.length_map, List.length_range]
    unfold Out at ho
    (k_extra "m_om")
section
variable {w : World} {dp un : Nat} {gd : Option (List Code)} {cn : Str} {cs : Scope} {a : Addr} {ccd : Value} {cl : List (Str × Addr)} {outer : List Env} {A₀ : Around} {base h₀ : Heap} {L : Addr} {m : Str → Option Value} {s : Shared} {Q E : Value → Shared → Prop} {p : Program} {loose : List Str} {mean : ExcName → Option Value} {mg mb : Str → Option Value} {news : List (Addr × Obj)} {tb : Tok} {b : Array UInt8}
variable (B : Below A₀ base outer h₀) (F : Fr h₀ L s.heap m) (X : (hd.heap_39 w.params).In h₀) (N : News h₀ L s.heap news) (T : Top p loose mean mg mb h₀) (hk : cs.kind = .function)
include B F X N T hk
theorem lines_ZM1 : True := by
  k_with "call ref" => (first | ((fail_if_success (k_extra "off ZM")); (k_here; (with_reducible show wpAny _ _ (call (Value.ref 430) _) _ _ _); k_dflt (refine' law_u16 ?k1 ?k2 ?k3 ?k4 ?k5 ?kK ?kd ?ku ?kp _ ?kD ?kb _ _ ?ki ?_ ?_; (case k1 => k_asm); (case k2 => k_asm); (case k3 => k_asm); (case k4 => k_extra "m_news"); (case k5 => k_asm); (case kK => first | exact rfl | assumption); (case kd => first | exact room_n (by with_reducible assumption) (by decide) | ktr_room); (case ku => first | exact room_n (by with_reducible assumption) (by decide) | ktr_units); (case kp => k_extra "m_kept"); (case kD => assumption); (case kb => assumption); (case ki => (k_extra "m_om")); (intro x hx h0x h1x h' tk' t' F' N'; (try k_sweep))))) | fail)
  k_with "call ref" => (first | ((fail_if_success (k_extra "off ZM")); (k_here; (with_reducible show wpAny _ _ (call (Value.ref 435) _) _ _ _); k_dflt (refine' law_u16s ?k1 ?k2 ?k3 ?k4 ?k5 ?kK ?kd ?ku ?kp _ ?kD ?kb _ _ ?ki _ _ ?kc0 ?kc1 ?_ ?_; (case k1 => k_asm); (case k2 => k_asm); (case k3 => k_asm); (case k4 => k_extra "m_news"); (case k5 => k_asm); (case kK => first | exact rfl | assumption); (case kd => first | exact room_n (by with_reducible assumption) (by decide) | ktr_room); (case ku => first | exact room_n (by with_reducible assumption) (by decide) | ktr_units); (case kp => k_extra "m_kept"); (case kD => assumption); (case kb => assumption); (case ki => (k_extra "m_om")); (case kc0 => (k_extra "m_om")); (case kc1 => (k_extra "m_om")); (intro rx hrx h' tk' rr yr F' N' hyr hyz har; have hyq := rows_short hD hrx hyr hsz; (try (have harA : @Ne Nat rr _ := Ne.symm (har _ (List.Mem.head _)))); (try (have harB : @Ne Nat rr _ := Ne.symm (har _ (List.Mem.tail _ (List.Mem.head _))))); (try (have harC : @Ne Nat rr _ := Ne.symm (har _ (List.Mem.tail _ (List.Mem.tail _ (List.Mem.head _)))))); (try dsimp only at harA harB harC); (try k_sweep))))) | fail)
  exact trivial
set_option maxHeartbeats 1000000 in
theorem langsys_due (hd : dp + 20 < recursionLimit) (hu : un + 150 < cLine) {kp : List (Addr × Obj)} (hkp : KeptIn kp news)
    (D : List Int) (hD : KBw.bInts b = D) (hsz : D.length ≤ 4000) (g : Int) (tg : Tok) (hg : 0 ≤ g ∧ g < 80000000)
    (hok : ∀ x, rdLang D g = .ok x → ∀ h' tk' t nw, Fr h₀ L h' m → News h₀ L h' (nw ++ news) → DatIn nw (.ref t) (langD x) → Apart nw news → Q (.ref t) { s with heap := h', toks := tk' })
    (herr : ∀ z, rdLang D g = .error z → Errs base h₀ kp (envX cn cs L a ccd cl) outer L m E s z) :
    Cl w dp un gd cn cs L a ccd cl outer 454 [.bytes b tb, .int g tg] Q E s := by
  k_dflt (refine' enter [("data", .bytes b tb), ("at", .int g tg)] B F X N T hk ?k6 ?k7 ?k8 ?k9 ?kB ?c2 ?c3 ?c4 ?c5 ?_; k_extra "m_sides")
  intro g' L' h₁ E' FG F' N' B' X' T' hP hE
  try dsimp only
  try k_fold
  refine foldAV ?_; intro Mz Az vz gz dz oz
  k_extra "m_steps"
  · rename_i x2 _ _ _ _ _ _ _ _ _ _ _ _ _ _ _ _ _ _ _ _ _ _ _ _
    rename rdU16 D g = .ok _ => e1
    rename rdU16 D (g + 2) = .ok _ => e2
    rename rdU16 D (g + 4) = .ok _ => e3
    rename rdRows D _ _ = .ok _ => e4
    rename News h₀ L _ _ => NZ
    refine hok (-1, rx) ?_ _ _ tw [(tw, ?_), (tcp, tupO yr)] (by assumption) (News.sub NZ ?_) ?_ ?_
    rotate_left 2
    · k_extra "m_sub"
    · exact .tuple (.head _) (.cons (.int _ _) (.cons (.tuple (.tail _ (.head _)) (dat_ints hyr)) .nil))
    · exact Apart.cons (fun p hp => Nat.ne_of_lt (ltwx p (by k_extra "m_in"))) (Apart.cons (fun p hp => Nat.ne_of_lt (ltcpx p (by k_extra "m_in"))) Apart.nil)
    · exact bo e1 (bo e2 (bo e3 (bo e4 (congrArg (fun v => Except.ok (v, _)) (if_pos (by assumption))))))
  · rename rdU16 D g = .ok _ => e1
    rename rdU16 D (g + 2) = .ok _ => e2
    rename rdU16 D (g + 4) = .ok _ => e3
    rename rdRows D _ _ = .error _ => e4
    refine hE _ _ _ _ _ (herr _ ?_)
    exact bo e1 (bo e2 (bo e3 (be e4)))
  · rename rdU16 D g = .ok _ => e1
    rename rdU16 D (g + 2) = .ok _ => e2
    rename rdU16 D (g + 4) = .error _ => e3
    refine hE _ _ _ _ _ (herr _ ?_)
    exact bo e1 (bo e2 (be e3))
  · rename_i x2 _ _ _ _ _ _ _ _ _ _ _ _ _ _ _ _ _ _ _ _ _ _ _ _
    rename rdU16 D g = .ok _ => e1
    rename rdU16 D (g + 2) = .ok _ => e2
    rename rdU16 D (g + 4) = .ok _ => e3
    rename rdRows D _ _ = .ok _ => e4
    rename News h₀ L _ _ => NZ
    refine hok (x2, rx) ?_ _ _ tw [(tw, ?_), (tcp, tupO yr)] (by assumption) (News.sub NZ ?_) ?_ ?_
    rotate_left 2
    · k_extra "m_sub"
    · exact .tuple (.head _) (.cons (.int _ _) (.cons (.tuple (.tail _ (.head _)) (dat_ints hyr)) .nil))
    · exact Apart.cons (fun p hp => Nat.ne_of_lt (ltwx p (by k_extra "m_in"))) (Apart.cons (fun p hp => Nat.ne_of_lt (ltcpx p (by k_extra "m_in"))) Apart.nil)
    · exact bo e1 (bo e2 (bo e3 (bo e4 (congrArg (fun v => Except.ok (v, _)) (if_neg (by assumption))))))
  · rename rdU16 D g = .ok _ => e1
    rename rdU16 D (g + 2) = .ok _ => e2
    rename rdU16 D (g + 4) = .ok _ => e3
    rename rdRows D _ _ = .error _ => e4
    refine hE _ _ _ _ _ (herr _ ?_)
    exact bo e1 (bo e2 (bo e3 (be e4)))
  · rename rdU16 D g = .ok _ => e1
    rename rdU16 D (g + 2) = .ok _ => e2
    rename rdU16 D (g + 4) = .error _ => e3
    refine hE _ _ _ _ _ (herr _ ?_)
    exact bo e1 (bo e2 (be e3))
  · rename rdU16 D g = .ok _ => e1
    rename rdU16 D (g + 2) = .error _ => e2
    refine hE _ _ _ _ _ (herr _ ?_)
    exact bo e1 (be e2)
  · rename rdU16 D g = .error _ => e1
    refine hE _ _ _ _ _ (herr _ ?_)
    exact be e1
end
theorem off_ZM : True := by
  k_with "off ZM" => (skip)
  exact trivial
end
section
theorem reset_ZN : True := by
  w_top off
  exact trivial

/-- no more records than the octets hold -/
theorem recsGo_room {b : Array UInt8} {D : List Int} (hD : KBw.bInts b = D) {g : Int} {asc : Bool} : ∀ {n : Nat} {i : Int} {acc rs : List (List Int × Int)}, 0 ≤ i → recsGo D g asc n i acc = .ok rs → 6 * (n : Int) ≤ 0 ∨ i + 6 * (n : Int) ≤ D.length
  | 0, i, _, _, _, _ => .inl (by (k_extra "m_om"))
  | n + 1, i, acc, rs, hi, h => by
    rw [recsGo] at h
    cases ht : rdTag D i with
    | error z => rw [ht] at h; cases h
    | ok tag =>
      rw [ht] at h
      dsimp only at h
      split at h
      · cases h
      · cases ho : rdOff D (i + 4) g with
        | error z => rw [ho] at h; cases h
        | ok x =>
          rw [ho] at h
          have ih := recsGo_room hD (by (k_extra "m_om")) h
          have h6 : i + 4 + 2 ≤ D.length := by
            unfold rdOff rdU16 at ho
            by_cases hO : Out D (i + 4) 2
            · rw [if_pos hO] at ho; cases ho
            · unfold Out at hO; (k_extra "m_om")
          (k_extra "m_om")
theorem recs_few {b : Array UInt8} {D : List Int} (hD : KBw.bInts b = D) {g lead : Int} {asc : Bool} {rs : List (List Int × Int)} (hg : 0 ≤ g + lead) (h : rdRecs D g lead asc = .ok rs) : 6 * rs.length ≤ D.length := by
  unfold rdRecs at h
  cases hx : rdU16 D (g + lead) with
  | error z => rw [hx] at h; cases h
  | ok n =>
    rw [hx] at h
    have h1 := recsGo_len h
    have h2 := recsGo_room hD (by (k_extra "m_om")) h
    rw [List.length_nil] at h1
    (k_extra "m_om")
noncomputable def DueP (g : Heap) (L : Addr) (m₁ : Str → Option Value) (news R : List (Addr × Obj)) (D : List Int) (z x : Int) (s : Shared) (v : Value) (s' : Shared) : Prop :=
  ∃ h' tk' pre df, s' = { s with heap := h', toks := tk' } ∧ Fr g L h' m₁ ∧ News g L h' (pre ++ R) ∧ DatIn pre v (defD df) ∧ Apart pre news ∧ rdDef D z x = .ok df
theorem join_due {prog : Program} {w : World} {A : Around} {E : Value → Shared → Prop} {s : Shared} {g : Heap} {L : Addr} {m₁ : Str → Option Value} {news R : List (Addr × Obj)} {Q : Value → Shared → Prop} {t : Sem Value} {D : List Int} {z x : Int} (F : Fr g L s.heap m₁) (h1 : wpAny (model prog w) A t (Join (DueP g L m₁ news R D z x s)) E s) (h2 : ∀ v h' tk' pre df, Fr g L h' m₁ → News g L h' (pre ++ R) → DatIn pre v (defD df) → Apart pre news → rdDef D z x = .ok df → Q v { s with heap := h', toks := tk' }) : wpAny (model prog w) A t Q E s :=
  wpAny_mono h1 (fun v s' h => by
    refine (let Gz : Prop := _; (?_ : Gz))
    first | (refine ex9 (h) fun h' tk' pre df hEz182_4 F' N' hd ha e => ?_; clear h; subst hEz182_4) | (refine ex8 (h) fun h' tk' pre df hEz182_4 F' N' hd hAz182 => ?_; clear h; refine and2 (hAz182) fun ha e => ?_; clear hAz182; subst hEz182_4) | (refine ex7 (h) fun h' tk' pre df hEz182_4 F' N' hAz182 => ?_; clear h; refine and3 (hAz182) fun hd ha e => ?_; clear hAz182; subst hEz182_4) | (refine ex6 (h) fun h' tk' pre df hEz182_4 F' hAz182 => ?_; clear h; refine and4 (hAz182) fun N' hd ha e => ?_; clear hAz182; subst hEz182_4) | (refine ex5 (h) fun h' tk' pre df hEz182_4 hAz182 => ?_; clear h; refine and5 (hAz182) fun F' N' hd ha e => ?_; clear hAz182; subst hEz182_4) | (refine ex4 (h) fun h' tk' pre df hAz182 => ?_; clear h; refine and6 (hAz182) fun hEz182_4 F' N' hd ha e => ?_; clear hAz182; subst hEz182_4) | (refine ex3 (h) fun h' tk' pre hAz182 => ?_; clear h; refine and7 (hAz182) fun df hEz182_4 F' N' hd ha e => ?_; clear hAz182; subst hEz182_4) | (refine ex2 (h) fun h' tk' hAz182 => ?_; clear h; refine and8 (hAz182) fun pre df hEz182_4 F' N' hd ha e => ?_; clear hAz182; subst hEz182_4) | (refine ex1 (h) fun h' hAz182 => ?_; clear h; refine and9 (hAz182) fun tk' pre df hEz182_4 F' N' hd ha e => ?_; clear hAz182; subst hEz182_4) | (refine and10 (h) fun h' tk' pre df hEz182_4 F' N' hd ha e => ?_; clear h; subst hEz182_4) | obtain ⟨h', tk', pre, df, rfl, F', N', hd, ha, e⟩ := h
    k_unfold; clear Gz
    exact h2 v h' tk' pre df F' N' hd ha e) fun _ _ e => e
theorem DueP.mk {s : Shared} {g : Heap} {L : Addr} {m₁ : Str → Option Value} {news R : List (Addr × Obj)} {v : Value} {D : List Int} {z x : Int} {h' : Heap} {tk' : Nat} (pre : List (Addr × Obj)) {df : Option (Int × List Int)} (F : Fr g L h' m₁) (N : News g L h' (pre ++ R)) (hd : DatIn pre v (defD df)) (ha : Apart pre news) (e : rdDef D z x = .ok df) : DueP g L m₁ news R D z x s v { s with heap := h', toks := tk' } := xi4 h' tk' pre df ⟨rfl, F, N, hd, ha, e⟩
section
variable {w : World} {dp un : Nat} {gd : Option (List Code)} {cn : Str} {cs : Scope} {a : Addr} {ccd : Value} {cl : List (Str × Addr)} {outer : List Env} {A₀ : Around} {base h₀ : Heap} {L : Addr} {m : Str → Option Value} {s : Shared} {Q E : Value → Shared → Prop} {p : Program} {loose : List Str} {mean : ExcName → Option Value} {mg mb : Str → Option Value} {news : List (Addr × Obj)} {tb : Tok} {b : Array UInt8}
variable (B : Below A₀ base outer h₀) (F : Fr h₀ L s.heap m) (X : (hd.heap_39 w.params).In h₀) (N : News h₀ L s.heap news) (T : Top p loose mean mg mb h₀) (hk : cs.kind = .function)
include B F X N T hk
theorem lines_ZN1 : True := by
  k_with "call ref" => (first | ((fail_if_success (k_extra "off ZN")); (k_here; (with_reducible show wpAny _ _ (call (Value.ref 430) _) _ _ _); k_dflt (refine' law_u16 ?k1 ?k2 ?k3 ?k4 ?k5 ?kK ?kd ?ku ?kp _ ?kD ?kb _ _ ?ki ?_ ?_; (case k1 => k_asm); (case k2 => k_asm); (case k3 => k_asm); (case k4 => k_extra "m_news"); (case k5 => k_asm); (case kK => first | exact rfl | assumption); (case kd => first | exact room_n (by with_reducible assumption) (by decide) | ktr_room); (case ku => first | exact room_n (by with_reducible assumption) (by decide) | ktr_units); (case kp => k_extra "m_kept"); (case kD => assumption); (case kb => assumption); (case ki => (k_extra "m_om")); (intro x hx h0x h1x h' tk' t' F' N'; (try k_sweep))))) | fail)
  k_with "call ref" => (first | ((fail_if_success (k_extra "off ZN")); (k_here; (with_reducible show wpAny _ _ (call (Value.ref 454) _) _ _ _); k_dflt (refine' langsys_due ?k1 ?k2 ?k3 ?k4 ?k5 ?kK ?kd ?ku ?kp _ ?kD ?kb _ _ ?kg ?_ ?_; (case k1 => k_asm); (case k2 => k_asm); (case k3 => k_asm); (case k4 => k_extra "m_news"); (case k5 => k_asm); (case kK => first | exact rfl | assumption); (case kd => first | exact room_n (by with_reducible assumption) (by decide) | ktr_room); (case ku => first | exact room_n (by with_reducible assumption) (by decide) | ktr_units); (case kp => k_extra "m_kept"); (case kD => assumption); (case kb => assumption); (case kg => (k_extra "m_om")); (intro lr hlr h' tk' lt ln F' N' hlx hla; (try k_sweep))))) | fail)
  k_with "call ref" => (first | ((fail_if_success (k_extra "off ZN")); (k_here; (with_reducible show wpAny _ _ (call (Value.ref 447) _) _ _ _); k_dflt (refine' law_records ?k1 ?k2 ?k3 ?k4 ?k5 ?kK ?kd ?ku ?kp _ ?kD ?kb _ _ ?kg _ _ ?kl _ ?_ ?_; (case k1 => k_asm); (case k2 => k_asm); (case k3 => k_asm); (case k4 => k_extra "m_news"); (case k5 => k_asm); (case kK => first | exact rfl | assumption); (case kd => first | exact room_n (by with_reducible assumption) (by decide) | ktr_room); (case ku => first | exact room_n (by with_reducible assumption) (by decide) | ktr_units); (case kp => k_extra "m_kept"); (case kD => assumption); (case kb => assumption); (case kg => (k_extra "m_om")); (case kl => decide); (intro rc hrc h' tk' rl rv rn F' N' hrd hra; (try k_sweep))))) | fail)
  k_with "eval IfExp" => (first | ((fail_if_success (k_extra "off ZN")); (k_here; (fail_if_success (with_reducible show wpAny _ _ _ (Join _) _ _)); refine of_stop ?_)) | fail)
  exact trivial
set_option maxHeartbeats 1000000 in
theorem script_due (hd : dp + 40 < recursionLimit) (hu : un + 250 < cLine) {kp : List (Addr × Obj)} (hkp : KeptIn kp news)
    (D : List Int) (hD : KBw.bInts b = D) (hsz : D.length ≤ 4000) (g : Int) (tg : Tok) (hg : 0 ≤ g ∧ g < 70000000) (q : List Int) (tq : Tok)
    (hok : ∀ x, rdScript D g = .ok x → ∀ h' tk' t nw, Fr h₀ L h' m → News h₀ L h' (nw ++ news) → DatIn nw (.ref t) (scrD (q, x)) → Apart nw news → Q (.ref t) { s with heap := h', toks := tk' })
    (herr : ∀ z, rdScript D g = .error z → Errs base h₀ kp (envX cn cs L a ccd cl) outer L m E s z) :
    Cl w dp un gd cn cs L a ccd cl outer 459 [.bytes b tb, .int g tg, .str (tagStr q) tq] Q E s := by
  k_dflt (refine' enterC [("data", .bytes b tb), ("at", .int g tg), ("tag", .str (tagStr q) tq)] B F X N T hk ?k6 ?k7 ?k8 ?k9 ?kB ?kD ?c2 ?c3 ?c4 ?_; k_extra "m_sidesC")
  intro g' L' h₁ tk cells E' FG F' N' Y' B' X' T' l' hP hE
  refine (let Gz : Prop := _; (?_ : Gz))
  (refine ex1 (CellsAre.one Y') fun o1 hAz183 => ?_; refine and2 (hAz183) fun hE1 d1 => ?_; clear hAz183)
  k_unfold; clear Gz
  subst hE1
  try simp only [List.cons_append, List.nil_append] at N'
  try dsimp only
  try k_fold
  refine foldAV ?_; intro Mz Az vz gz dz oz
  k_extra "m_steps"
  · rename rdU16 D g = .ok _ => e1
    rename Fr g' L' _ _ => F5
    refine join_due (D := D) (z := g) (x := x) (news := news) (R := (L' + 1, o1) :: news) F5 ?_ ?_
    · k_extra "m_steps"
      · rename rdLang D _ = .ok _ => e2'
        rename News g' L' _ _ => N6
        exact DueP.mk ln (df := some lr) (by assumption) (News.sub N6 (by k_extra "m_sub")) hlx (hla.mono (by k_extra "m_sub")) (def_no (by (k_extra "m_om")) e2')
      · rename rdLang D _ = .error _ => e2
        refine hE _ _ _ _ _ (herr _ ?_)
        exact bo e1 (be (def_err (by (k_extra "m_om")) e2))
      · exact DueP.mk [] (df := none) (by assumption) (by assumption) .none Apart.nil (def_yes (by (k_extra "m_om")))
    intro vd h' tk' pre df F6 N6 hdf hpa e2
    clear F5
    k_extra "m_steps"
    · rename Fr g' L' _ _ => F5
      rename News g' L' _ _ => N5
      have hrcl := recs_len hD hrc
      have hbd := recs_bd hD hrc
      have hOz3 : ∃ r, News g' L' _ r ∧ (rl, LCg.lst rv) ∈ r ∧ (∀ p ∈ rn, p ∈ r) ∧ (L' + 1, o1) ∈ r ∧ (∀ p ∈ pre, p ∈ r) ∧ (∀ p ∈ news, p ∈ r) := ⟨_, N5, by k_extra "m_in", by k_extra "m_sub", by k_extra "m_in", by k_extra "m_sub", by k_extra "m_sub"⟩
      refine (let Gz : Prop := _; (?_ : Gz))
      obtain ⟨r2, hr2⟩ := hOz3
      k_unfold; clear Gz
      refine (let Gz : Prop := _; (?_ : Gz))
      (refine and6 (hr2) fun hN q1 q2 q3 q4 q5 => ?_; clear hr2)
      k_unfold; clear Gz
      have hrl : rv.length = rc.length := by rw [hrd.length, List.length_map]
      refine at_list2 (kp := kp) (its := rv.toArray) (fun z => rdScript D g = .error z) (fun j ys nw => ∃ t2 out, nw = t2 ++ r2 ∧ mapE (keyed (rdLang D)) (rc.take j) = .ok out ∧ DatAll t2 ys (out.map pairD) ∧ Apart t2 r2)
        B' F5 hN rfl rfl rfl ?_ ?_ ?_ (by decide) rfl rfl rfl (by decide) ?_ hkp.2 ⟨[], [], rfl, rfl, .nil, Apart.nil⟩ (fun z hz h => hE _ _ _ _ _ (herr z hz)) ?_ ?_
      · rw [List.size_toArray, hrl, sizeLine_eq]; exact Nat.le_trans hrcl (by decide)
      · intro j ys nw hJz5
        refine (let Gz : Prop := _; (?_ : Gz))
        (refine ex2 (hJz5) fun t2 out hAz185 => ?_; clear hJz5; refine and2 (hAz185) fun hEz185_2 _ => ?_; clear hAz185; subst hEz185_2)
        k_unfold; clear Gz
        exact .inr ⟨_, List.mem_append_right _ q1, rfl, _, rfl⟩
      · intro j v ys nw hv hJz6
        refine (let Gz : Prop := _; (?_ : Gz))
        (refine ex2 (hJz6) fun t2 out hAz186 => ?_; clear hJz6; refine and2 (hAz186) fun hEz186_2 _ => ?_; clear hAz186; subst hEz186_2)
        k_unfold; clear Gz
        refine (let Gz : Prop := _; (?_ : Gz))
        (refine ex5 (recs_at hrd (by simpa using hv)) fun q t n t1 t2 hAz187 => ?_; refine and3 (hAz187) fun _ hEz187_6 hm => ?_; clear hAz187; subst hEz187_6)
        k_unfold; clear Gz
        exact (xi5 t _ _ _ n ⟨rfl, List.mem_append_right _ (q2 _ hm), rfl, rfl⟩)
      · intro j ys nw hJz8
        refine (let Gz : Prop := _; (?_ : Gz))
        (refine ex2 (hJz8) fun t2 out hAz188 => ?_; clear hJz8; refine and2 (hAz188) fun hEz188_2 _ => ?_; clear hAz188; subst hEz188_2)
        k_unfold; clear Gz
        intro q hq
        exact List.mem_append_right _ (q5 _ (hkp.1 q hq))
      · intro j v ys nw I oI C oC D' m₂ h tk hv hJz9
        refine (let Gz : Prop := _; (?_ : Gz))
        (refine ex2 (hJz9) fun t2 out hAz189 => ?_; clear hJz9; refine and4 (hAz189) fun hEz189_2 hmp hd2 hap => ?_; clear hAz189; subst hEz189_2)
        k_unfold; clear Gz
        intro t ot v₁ v₂ nt
        rintro rfl
        intro hmt hct hdt hoC hx1 hx2 F1 N1 O3 hne hkk
        refine (let Gz : Prop := _; (?_ : Gz))
        (refine ex5 (recs_at hrd (by simpa using hv)) fun q' t' n u1 u2 hAz190 => ?_; refine and3 (hAz190) fun hq e hm => ?_; clear hAz190)
        k_unfold; clear Gz
        refine (let Gz : Prop := _; (?_ : Gz))
        obtain ⟨rfl, rfl⟩ := rec_item N1 (.tail _ (.tail _ (.tail _ hmt))) (.tail _ (.tail _ (.tail _ (List.mem_append_right _ (q2 _ hm))))) e hdt
        k_unfold; clear Gz
        have hqb := hbd q' (List.mem_of_getElem? hq)
        replace N1 := News.sub (news' := (L' + 1, o1) :: (I, oI) :: (C, oC) :: (D', LCg.lst ys) :: (t2 ++ r2)) N1 ((fmc (.tail _ (.tail _ (.tail _ (List.mem_append_right _ q3)))) (fun _ h => h)))
        have hkk2 := KeptIn.mono hkk (news' := (L' + 1, o1) :: (I, oI) :: (C, oC) :: (D', LCg.lst ys) :: (t2 ++ r2)) (fun p hp => .tail _ hp)
        k_extra "m_steps"
        · have htg2 : Apart ln ((I, oI) :: (C, oC) :: (D', LCg.lst ys) :: (t2 ++ r2)) := hla.mono fun p hp => .tail _ hp
          have htw : ∀ p ∈ (I, oI) :: (C, oC) :: (D', LCg.lst ys) :: (t2 ++ r2), @Ne Nat tw p.1 := fun p hp => Nat.ne_of_gt (ltwx p (List.mem_append_right _ (.tail _ hp)))
          refine LCg.CompEnd.intro (by assumption) (by assumption) (((tw, tupO [.str (tagStr q'.1) u1, .ref lt]) :: (ln ++ t2)) ++ r2) (by k_extra "m_sub") ?_ trivial ⟨(tw, tupO [.str (tagStr q'.1) u1, .ref lt]) :: (ln ++ t2), out ++ [(q'.1, lr)], rfl, mapE_next hq hmp (keyed_ok hlr), ?_, ?_⟩
          · rw [List.cons_append, List.append_assoc]
            exact LCg.Off3.of ((fmc (⟨htw _ (.head _), htw _ (.tail _ (.head _)), htw _ (.tail _ (.tail _ (.head _)))⟩) ((off3_app O3 (off3_of_apart htg2)).mem)))
          · rw [List.map_append]
            exact DatAll.append (hd2.mono fun p hp => .tail _ (List.mem_append_right _ hp)) (.one (.tuple (.head _) (.cons (.str _ _) (.cons (hlx.mono fun p hp => .tail _ (List.mem_append_left _ hp)) .nil))))
          · exact Apart.cons (fun p hp => Ne.symm (htw p (.tail _ (.tail _ (.tail _ (List.mem_append_right _ hp)))))) (Apart.app (htg2.mono fun p hp => .tail _ (.tail _ (.tail _ (List.mem_append_right _ hp)))) hap)
        · rename rdLang D _ = .error _ => hx
          refine errs_fly (show rdScript D g = .error _ from ?_)
          exact bo e1 (bo e2 (bo hrc (be (mapE_stop hq hmp (keyed_err hx)))))
      · refine fin_someU ?_ ?_ ?_ ?_
        · exact rfl
        · exact rfl
        · exact rfl
        intro D' h tk ys nw F2 N2 hno hJz12
        refine (let Gz : Prop := _; (?_ : Gz))
        (refine ex2 (hJz12) fun t2 out hAz191 => ?_; clear hJz12; refine and4 (hAz191) fun hEz191_2 hmp hd2 hap => ?_; clear hAz191; subst hEz191_2)
        k_unfold; clear Gz
        rw [List.size_toArray, hrl, List.take_length] at hmp
        have hyz : ys.length ≤ 16000 := by
          rw [hd2.length, List.length_map, mapE_len hmp]
          have := recs_few hD (by (k_extra "m_om")) hrc
          (k_extra "m_om")
        k_extra "m_steps"
        rename News h₀ L _ _ => NZ
        refine hok (df, out) ?_ _ _ tw ([(tw, ?_), (tcp, tupO ys)] ++ (t2 ++ pre)) (by assumption) (News.sub NZ ?_) ?_ ?_
        rotate_left 2
        · exact List.forall_mem_append.mpr ⟨List.forall_mem_append.mpr ⟨by k_extra "m_sub", List.forall_mem_append.mpr ⟨by k_extra "m_sub", fun p hp => .tail _ (.tail _ (.tail _ (List.mem_append_right _ (q4 p hp))))⟩⟩, fun p hp => .tail _ (.tail _ (.tail _ (List.mem_append_right _ (q5 p hp))))⟩
        · exact .tuple (.head _) (.cons (.str _ _) (.cons (hdf.mono fun p hp => .tail _ (.tail _ (List.mem_append_right _ hp))) (.cons (.tuple (.tail _ (.head _)) (hd2.mono fun p hp => .tail _ (.tail _ (List.mem_append_left _ hp)))) .nil)))
        · exact Apart.app (Apart.cons (fun p hp => Nat.ne_of_lt (ltwx p (.tail _ (.tail _ (List.mem_append_right _ (q5 p hp)))))) (Apart.cons (fun p hp => Nat.ne_of_lt (ltcpx p (.tail _ (List.mem_append_right _ (q5 p hp))))) Apart.nil)) (Apart.app (hap.mono q5) hpa)
        · exact bo e1 (bo e2 (bo hrc (bo hmp rfl)))
    · refine hE _ _ _ _ _ (herr _ ?_)
      exact bo e1 (bo e2 (be (show rdRecs D g 2 true = .error _ by assumption)))
  · rename rdU16 D g = .error _ => e1
    refine hE _ _ _ _ _ (herr _ ?_)
    exact be e1
end
theorem off_ZN : True := by
  k_with "off ZN" => (skip)
  exact trivial
end
section
theorem reset_ZO : True := by
  w_top off
  exact trivial
noncomputable def RowAt (b : Array UInt8) (n : Int) (tl : List (Addr × Obj)) (v : Value) (g : Int) : Prop := ∃ t p k1 k3, v = .ref t ∧ (t, tupO [.str (kindB b n g) k1, .ref p, .int g k3]) ∈ tl ∧ DatIn tl (.ref p) (langD (g, [n]))
theorem RowAt.mono {b : Array UInt8} {n : Int} {tl tl' : List (Addr × Obj)} {v : Value} {g : Int} (h : RowAt b n tl v g) (hs : ∀ p ∈ tl, p ∈ tl') : RowAt b n tl' v g := by
  refine (let Gz : Prop := _; (?_ : Gz))
  (refine ex4 (h) fun t p k1 k3 hAz192 => ?_; clear h; refine and3 (hAz192) fun e m d => ?_; clear hAz192)
  k_unfold; clear Gz
  exact ⟨t, p, k1, k3, e, hs _ m, d.mono hs⟩
theorem mapE_each {α β : Type} {f : α → Except Int β} : ∀ {l : List α} {bs : List β}, mapE f l = .ok bs → ∀ a ∈ l, ∃ b, f a = .ok b
  | [], _, _, a, ha => nomatch ha
  | c :: l, bs, h, a, ha => by
    rw [mapE] at h
    cases hc : f c with
    | error z => rw [hc, ebe] at h; cases h
    | ok d =>
      rw [hc, ebo] at h
      cases hl : mapE f l with
      | error z => rw [hl, ebe] at h; cases h
      | ok ds =>
        rcases List.mem_cons.mp ha with rfl | ha
        · exact ⟨d, hc⟩
        · exact mapE_each hl a ha
theorem rdOff_in {D : List Int} {i g x : Int} (h : rdOff D i g = .ok x) : i + 2 ≤ D.length := by
  unfold rdOff rdU16 at h
  by_cases hO : Out D i 2
  · rw [if_pos hO] at h; cases h
  · unfold Out at hO; (k_extra "m_om")
theorem offs_few {D : List Int} {i g : Int} {c : Nat} {out : List Int} (hi : 0 ≤ i) (h : rdOffs D i g c = .ok out) : 2 * out.length ≤ D.length := by
  unfold rdOffs at h
  have hl := mapE_len h
  rw [List.length_range] at hl
  rw [hl]
  by_cases hc : c = 0
  · (k_extra "m_om")
  · refine (let Gz : Prop := _; (?_ : Gz))
    obtain ⟨x, hx⟩ := mapE_each h (c - 1) (List.mem_range.mpr (by (k_extra "m_om")))
    k_unfold; clear Gz
    have := rdOff_in hx
    (k_extra "m_om")
theorem held_mark {D : List Int} {fl i mk : Int} (h : rdMark D fl i = .ok mk) : heldOf fl mk = mk := by
  unfold heldOf
  unfold rdMark at h
  split
  · rename_i hb
    rw [if_pos hb] at h
    cases h; rfl
  · rfl
section
variable {w : World} {dp un : Nat} {gd : Option (List Code)} {cn : Str} {cs : Scope} {a : Addr} {ccd : Value} {cl : List (Str × Addr)} {outer : List Env} {A₀ : Around} {base h₀ : Heap} {L : Addr} {m : Str → Option Value} {s : Shared} {Q E : Value → Shared → Prop} {p : Program} {loose : List Str} {mean : ExcName → Option Value} {mg mb : Str → Option Value} {news : List (Addr × Obj)} {tb : Tok} {b : Array UInt8}
variable (B : Below A₀ base outer h₀) (F : Fr h₀ L s.heap m) (X : (hd.heap_39 w.params).In h₀) (N : News h₀ L s.heap news) (T : Top p loose mean mg mb h₀) (hk : cs.kind = .function)
include B F X N T hk
theorem lines_ZO1 : True := by
  k_with "call ref" => (first | ((fail_if_success (k_extra "off ZO")); (k_here; (with_reducible show wpAny _ _ (call (Value.ref 430) _) _ _ _); k_dflt (refine' law_u16 ?k1 ?k2 ?k3 ?k4 ?k5 ?kK ?kd ?ku ?kp _ ?kD ?kb _ _ ?ki ?_ ?_; (case k1 => k_asm); (case k2 => k_asm); (case k3 => k_asm); (case k4 => k_extra "m_news"); (case k5 => k_asm); (case kK => first | exact rfl | assumption); (case kd => first | exact room_n (by with_reducible assumption) (by decide) | ktr_room); (case ku => first | exact room_n (by with_reducible assumption) (by decide) | ktr_units); (case kp => k_extra "m_kept"); (case kD => assumption); (case kb => assumption); (case ki => (k_extra "m_om")); (intro x hx h0x h1x h' tk' t' F' N'; (try k_sweep))))) | fail)
  k_with "call ref" => (first | ((fail_if_success (k_extra "off ZO")); (k_here; (with_reducible show wpAny _ _ (call (Value.ref 442) _) _ _ _); k_dflt (refine' law_offset ?k1 ?k2 ?k3 ?k4 ?k5 ?kK ?kd ?ku ?kp _ ?kD ?kb _ _ ?ki _ _ ?_ ?_; (case k1 => k_asm); (case k2 => k_asm); (case k3 => k_asm); (case k4 => k_extra "m_news"); (case k5 => k_asm); (case kK => first | exact rfl | assumption); (case kd => first | exact room_n (by with_reducible assumption) (by decide) | ktr_room); (case ku => first | exact room_n (by with_reducible assumption) (by decide) | ktr_units); (case kp => k_extra "m_kept"); (case kD => assumption); (case kb => assumption); (case ki => (k_extra "m_om")); (intro gx hgx h' tk' tgo F' N'; (try k_sweep))))) | fail)
  k_with "call ref" => (first | ((fail_if_success (k_extra "off ZO")); (k_here; (with_reducible show wpAny _ _ (call (Value.ref 471) _) _ _ _); k_dflt (refine' table_spec ?k1 ?k2 ?k3 ?k4 ?k5 ?kK ?kd ?ku _ ?kD ?kb _ _ ?kn _ _ ?kg ?_; (case k1 => k_asm); (case k2 => k_asm); (case k3 => k_asm); (case k4 => k_extra "m_news"); (case k5 => k_asm); (case kK => first | exact rfl | assumption); (case kd => first | exact room_n (by with_reducible assumption) (by decide) | ktr_room); (case ku => first | exact room_n (by with_reducible assumption) (by decide) | ktr_units); (case kD => assumption); (case kb => assumption); (case kn => (k_extra "m_om")); (case kg => (k_extra "m_om")); (intro h' tk' tt tkk tx tn F' N' htx hta; (try k_sweep))))) | fail)
  k_with "eval IfExp" => (first | ((fail_if_success (k_extra "off ZO")); (k_here; (fail_if_success (with_reducible show wpAny _ _ _ (Join _) _ _)); refine of_stop ?_)) | fail)
  k_with "subscriptTail Name Constant ref int" => (first | ((fail_if_success (k_extra "off ZO")); k_extra "m_stop") | fail)
  k_with "subscriptTail Subscript Constant ref int" => (first | ((fail_if_success (k_extra "off ZO")); k_extra "m_stop") | fail)
  exact trivial
set_option maxHeartbeats 2000000 in
theorem lookup_due (hd : dp + 40 < recursionLimit) (hu : un + 250 < cLine) {kp : List (Addr × Obj)} (hkp : KeptIn kp news)
    (D : List Int) (hD : KBw.bInts b = D) (hsz : D.length ≤ 4000) (g : Int) (tg : Tok) (hg : 0 ≤ g ∧ g < 70000000)
    (hok : ∀ x, rdLook b D g = .ok x → ∀ h' tk' t nw, Fr h₀ L h' m → News h₀ L h' (nw ++ news) → DatIn nw (.ref t) (lookD x) → Apart nw news → Q (.ref t) { s with heap := h', toks := tk' })
    (herr : ∀ z, rdLook b D g = .error z → Errs base h₀ kp (envX cn cs L a ccd cl) outer L m E s z) :
    Cl w dp un gd cn cs L a ccd cl outer 464 [.bytes b tb, .int g tg] Q E s := by
  k_dflt (refine' enterC [("data", .bytes b tb), ("at", .int g tg)] B F X N T hk ?k6 ?k7 ?k8 ?k9 ?kB ?kD ?c2 ?c3 ?c4 ?_; k_extra "m_sidesC")
  intro g' L' h₁ tk cells E' FG F' N' Y' B' X' T' l' hP hE
  refine (let Gz : Prop := _; (?_ : Gz))
  (refine ex3 (CellsAre.three Y') fun o1 o2 o3 hAz193 => ?_; refine and4 (hAz193) fun hE1 d1 d2 d3 => ?_; clear hAz193)
  k_unfold; clear Gz
  subst hE1
  try simp only [List.cons_append, List.nil_append] at N'
  have hnL1 : ∀ p ∈ news, p.1 ≠ L' + 1 := fun p hp => Nat.ne_of_lt (Nat.lt_succ_of_lt (l' p hp))
  have hnL2 : ∀ p ∈ news, p.1 ≠ L' + 2 := fun p hp => Nat.ne_of_lt (Nat.lt_succ_of_lt (Nat.lt_succ_of_lt (l' p hp)))
  have hnL3 : ∀ p ∈ news, p.1 ≠ L' + 3 := fun p hp => Nat.ne_of_lt (Nat.lt_succ_of_lt (Nat.lt_succ_of_lt (Nat.lt_succ_of_lt (l' p hp))))
  try dsimp only
  try k_fold
  refine foldAV ?_; intro Mz Az vz gz dz oz
  k_extra "m_steps"
  · rename rdU16 D g = .ok _ => e1
    rename rdU16 D (g + 2) = .ok _ => e2
    rename rdU16 D (g + 4) = .ok _ => e3
    refine raised B' (by assumption) X' (by assumption) (by k_extra "m_kept") (by assumption) rfl rfl (hE _ _ h₁ 0 _ (herr _ ?_)) _
    exact bo e1 (bo e2 (bo e3 (if_pos (by assumption))))
  · rename rdU16 D g = .ok _ => e1
    rename rdU16 D (g + 2) = .ok _ => e2
    rename rdU16 D (g + 4) = .ok _ => e3
    rename_i n n2 n3 _ _ tkn _ _ _ _ _ fl f2 f3 _ _ tfl _ _ _ _ _ _ _ _ _ oc dq _ _ _ _ _ _ hx0 _ _ _ _ _ hR F9 N9 hup
    have hOz4 : ∃ c, c = x := ⟨_, rfl⟩
    refine (let Gz : Prop := _; (?_ : Gz))
    obtain ⟨cx, hcx⟩ := hOz4
    k_unfold; clear Gz
    subst hcx
    have h0c := h0x
    have h1c := h1x
    clear h0x h1x
    have hOz5 : ∃ o, News g' L' _ ((L' + 1 + 1 + 1, oc) :: (L' + 1 + 1, o2) :: (L' + 1, o3) :: news) ∧ o = tw := ⟨_, News.sub N9 (by k_extra "m_sub"), rfl⟩
    refine (let Gz : Prop := _; (?_ : Gz))
    obtain ⟨otw, hotw⟩ := hOz5
    k_unfold; clear Gz
    have NA := hotw.1
    refine at_range1 (kp := kp) (n := cx.toNat) (fun z => rdOffs D (g + 6) g cx.toNat = .error z)
      (fun j ys nw => ∃ out, nw = (L' + 1 + 1 + 1, oc) :: (L' + 1 + 1, o2) :: (L' + 1, o3) :: news ∧ IntsAre ys out ∧ mapE (fun (j : Nat) => rdOff D (g + 6 + 2 * (j : Int)) g) ((List.range cx.toNat).take j) = .ok out)
      B' F9 NA rfl rfl rfl hR (range_small h0c (by (k_extra "m_om"))) (range_size h0c) (by rw [sizeLine_eq]; (k_extra "m_om")) (by decide) rfl rfl ?_ hkp.2 ⟨[], rfl, .nil, rfl⟩ (fun z hz h => hE _ _ _ _ _ (herr z ?_)) ?_ ?_
    · intro j ys nw hJz6
      refine (let Gz : Prop := _; (?_ : Gz))
      (refine ex1 (hJz6) fun out hAz194 => ?_; clear hJz6; refine and2 (hAz194) fun hEz194_1 _ => ?_; clear hAz194; subst hEz194_1)
      k_unfold; clear Gz
      intro q hq
      exact .tail _ (.tail _ (.tail _ (hkp.1 q hq)))
    · exact bo e1 (bo e2 (bo e3 ((if_neg hx0).trans (bo rfl (be hz)))))
    · intro j tj ys nw I oI C oC D' m₂ h tk hj hJz7
      refine (let Gz : Prop := _; (?_ : Gz))
      (refine ex1 (hJz7) fun out hAz195 => ?_; clear hJz7; refine and3 (hAz195) fun hEz195_1 hys hmp => ?_; clear hAz195; subst hEz195_1)
      k_unfold; clear Gz
      intro hoC hm₂ F1 N1 O3 hne hkk
      have ez : g + 6 + 2 * (0 + (j : Int)) = g + 6 + 2 * (j : Int) := by (k_extra "m_om")
      k_extra "m_steps"
      · rename rdOff D _ _ = .ok _ => hgx
        rw [ez] at hgx
        exact LCg.CompEnd.intro (by assumption) (by assumption) ((L' + 1 + 1 + 1, oc) :: (L' + 1 + 1, o2) :: (L' + 1, o3) :: news) (by k_extra "m_sub") O3 trivial ⟨out ++ [gx], rfl, IntsAre.append hys (.cons _ _ .nil), mapE_next (range_at hj) hmp hgx⟩
      · rename rdOff D _ _ = .error _ => hz
        rw [ez] at hz
        exact errs_fly (show rdOffs D (g + 6) g cx.toNat = .error _ from mapE_stop (range_at hj) hmp hz)
    · refine fin_someU ?_ ?_ ?_ ?_
      · exact rfl
      · exact rfl
      · exact rfl
      intro pl h tk ys nw F1 N1 hno hJz8
      refine (let Gz : Prop := _; (?_ : Gz))
      (refine ex1 (hJz8) fun out hAz196 => ?_; clear hJz8; refine and3 (hAz196) fun hEz196_1 hys hmp => ?_; clear hAz196; subst hEz196_1)
      k_unfold; clear Gz
      have e4 : rdOffs D (g + 6) g cx.toNat = .ok out := by
        unfold rdOffs
        rw [← hmp, List.take_of_length_le (by rw [List.length_range]; exact Nat.le_refl _)]
      have hoN : out.length = cx.toNat := by rw [mapE_len hmp, List.length_take, List.length_range]; exact Nat.min_self _
      have hog : ∀ q ∈ out, 0 ≤ q ∧ q < 80000000 := fun q hq => by
        refine (let Gz : Prop := _; (?_ : Gz))
        (refine ex1 (mapE_all e4 q hq) fun j hAz197 => ?_; refine and2 (hAz197) fun _ e => ?_; clear hAz197)
        k_unfold; clear Gz
        have := rdOff_bd hD e
        (k_extra "m_om")
      have hoz : out.length ≤ 65536 := by (k_extra "m_om")
      have ho0 : out ≠ [] := fun e => by rw [e] at hoN; simp at hoN; (k_extra "m_om")
      k_extra "m_steps"
      rename Fr g' L' _ _ => F5
      rename News g' L' _ _ => N5
      refine join_int (rdMark D fl (g + 6 + 2 * cx)) F5 N5 ?_ ?_
      · k_extra "m_steps"
        · exact IntP.mk (by assumption) (by assumption) (mark_no (by assumption) (by assumption))
        · refine hE _ _ _ _ _ (herr _ ?_)
          exact bo e1 (bo e2 (bo e3 ((if_neg hx0).trans (bo rfl (bo e4 (be (mark_no (by assumption) (by assumption))))))))
        · exact IntP.mk (by assumption) (by assumption) (mark_yes (by assumption))
      · intro h' tk' mk tmk F6 N6 e5
        k_extra "m_steps"
        rename Fr g' L' _ _ => F7
        rename News g' L' _ _ => N7
        have hOz10 : ∃ r, News g' L' _ r ∧ (pl, LCg.lst ys) ∈ r ∧ (L' + 1 + 1 + 1, oc) ∈ r ∧ (L' + 1 + 1, o2) ∈ r ∧ (L' + 1, o3) ∈ r ∧ (∀ p ∈ news, p ∈ r) := ⟨_, N7, by k_extra "m_in", by k_extra "m_in", by k_extra "m_in", by k_extra "m_in", by k_extra "m_sub"⟩
        refine (let Gz : Prop := _; (?_ : Gz))
        (refine ex1 (hOz10) fun r1 hAz198 => ?_; clear hOz10; refine and6 (hAz198) fun N7 q1 q2 q3 q4 q5 => ?_; clear hAz198)
        k_unfold; clear Gz
        refine at_list1 (kp := []) (its := ys.toArray) (fun _ => False) (fun j zs nw => ∃ t2, nw = t2 ++ r1 ∧ AllR (RowAt b n t2) zs (out.take j) ∧ Apart t2 r1)
          B' F7 N7 rfl rfl rfl ?_ ?_ (by decide) rfl rfl ?_ ?_ ⟨[], rfl, .nil, Apart.nil⟩ ?_ ?_ ?_
        · rw [List.size_toArray, hys.length, sizeLine_eq]; (k_extra "m_om")
        · intro j zs nw hJz11
          refine (let Gz : Prop := _; (?_ : Gz))
          (refine ex1 (hJz11) fun t2 hAz199 => ?_; clear hJz11; refine and2 (hAz199) fun hEz199_1 _ => ?_; clear hAz199; subst hEz199_1)
          k_unfold; clear Gz
          exact .inr ⟨_, List.mem_append_right _ q1, rfl, _, rfl⟩
        · intro _ _ _ _ _ hp; cases hp
        · intro _ hp; cases hp
        · intro _ hz; exact hz.elim
        · intro j v zs nw I oI C oC D' m₂ h tk hv hJz12
          refine (let Gz : Prop := _; (?_ : Gz))
          (refine ex1 (hJz12) fun t2 hAz200 => ?_; clear hJz12; refine and3 (hAz200) fun hEz200_1 hrw hap => ?_; clear hAz200; subst hEz200_1)
          k_unfold; clear Gz
          intro hoC hx1 F2 N2 O3 hne hkk
          refine (let Gz : Prop := _; (?_ : Gz))
          (refine ex2 (ints_at hys (by simpa using hv)) fun gj tj hAz201 => ?_; refine and2 (hAz201) fun hgj hEz201_3 => ?_; clear hAz201; subst hEz201_3)
          k_unfold; clear Gz
          have hgb := hog gj (List.mem_of_getElem? hgj)
          replace N2 := News.sub (news' := (L' + 1 + 1 + 1, oc) :: (L' + 1 + 1, o2) :: (L' + 1, o3) :: (I, oI) :: (C, oC) :: (D', LCg.lst zs) :: (t2 ++ r1)) N2
            ((fmc (.tail _ (.tail _ (.tail _ (List.mem_append_right _ q2)))) ((fmc (.tail _ (.tail _ (.tail _ (List.mem_append_right _ q3)))) ((fmc (.tail _ (.tail _ (.tail _ (List.mem_append_right _ q4)))) (fun _ h => h)))))))
          k_extra "m_steps"
          rename_i twa _ _ ltwax twb _ ltwbx _
          have ha : ∀ p ∈ (I, oI) :: (C, oC) :: (D', LCg.lst zs) :: (t2 ++ r1), @Ne Nat twa p.1 := fun p hp => Nat.ne_of_gt (ltwax p (List.mem_append_right _ (.tail _ (.tail _ (.tail _ hp)))))
          have hb : ∀ p ∈ (I, oI) :: (C, oC) :: (D', LCg.lst zs) :: (t2 ++ r1), @Ne Nat twb p.1 := fun p hp => Nat.ne_of_gt (ltwbx p (.tail _ (List.mem_append_right _ (.tail _ (.tail _ (.tail _ hp))))))
          have hc : ∀ p ∈ (I, oI) :: (C, oC) :: (D', LCg.lst zs) :: (t2 ++ r1), @Ne Nat tw p.1 := fun p hp => Nat.ne_of_gt (ltwx p (.tail _ (.tail _ (List.mem_append_right _ (.tail _ (.tail _ (.tail _ hp)))))))
          refine LCg.CompEnd.intro (by assumption) (by assumption) (((tw, tupO [.str (kindB b n gj) tkk, .ref twb, .int gj tj]) :: (twb, tupO [.int gj tj, .ref twa]) :: (twa, tupO [.int n tkn]) :: t2) ++ r1) (by k_extra "m_sub")
            (LCg.Off3.of ((fmc (⟨hc _ (.head _), hc _ (.tail _ (.head _)), hc _ (.tail _ (.tail _ (.head _)))⟩) ((fmc (⟨hb _ (.head _), hb _ (.tail _ (.head _)), hb _ (.tail _ (.tail _ (.head _)))⟩) ((fmc (⟨ha _ (.head _), ha _ (.tail _ (.head _)), ha _ (.tail _ (.tail _ (.head _)))⟩) (O3.mem)))))))) trivial
            ⟨(tw, tupO [.str (kindB b n gj) tkk, .ref twb, .int gj tj]) :: (twb, tupO [.int gj tj, .ref twa]) :: (twa, tupO [.int n tkn]) :: t2, rfl, ?_, ?_⟩
          · rw [take_snoc hgj]
            exact (hrw.mono fun _ _ x => x.mono fun p hp => .tail _ (.tail _ (.tail _ hp))).append (.one ⟨tw, twb, tkk, tj, rfl, .head _, .tuple (.tail _ (.head _)) (.cons (.int _ _) (.cons (.tuple (.tail _ (.tail _ (.head _))) (.cons (.int _ _) .nil)) .nil))⟩)
          · exact Apart.cons (fun p hp => Ne.symm (hc p (.tail _ (.tail _ (.tail _ (List.mem_append_right _ hp)))))) (Apart.cons (fun p hp => Ne.symm (hb p (.tail _ (.tail _ (.tail _ (List.mem_append_right _ hp)))))) (Apart.cons (fun p hp => Ne.symm (ha p (.tail _ (.tail _ (.tail _ (List.mem_append_right _ hp)))))) hap))
        · refine fin_someU ?_ ?_ ?_ ?_
          · exact rfl
          · exact rfl
          · exact rfl
          intro rwl h tk zs nw F2 N2 hno2 hJz14
          refine (let Gz : Prop := _; (?_ : Gz))
          (refine ex1 (hJz14) fun t2 hAz202 => ?_; clear hJz14; refine and3 (hAz202) fun hEz202_1 hrw hap => ?_; clear hAz202; subst hEz202_1)
          k_unfold; clear Gz
          rw [List.size_toArray, hys.length, List.take_length] at hrw
          have hOz15 : ∃ g0 o', out = g0 :: o' := List.exists_cons_of_ne_nil ho0
          refine (let Gz : Prop := _; (?_ : Gz))
          (refine ex2 (hOz15) fun g0 out' hEz203_2 => ?_; clear hOz15; subst hEz203_2)
          k_unfold; clear Gz
          have hOz16 : ∃ v0 zs', zs = v0 :: zs' ∧ RowAt b n t2 v0 g0 := by
            cases hrw with
            | cons h1 h2 => exact ⟨_, _, rfl, h1⟩
          refine (let Gz : Prop := _; (?_ : Gz))
          obtain ⟨v0, zs', rfl, t0, p0, k01, k03, rfl, hm0, hp0⟩ := hOz16
          k_unfold; clear Gz
          k_extra "m_steps"
          rename Fr g' L' h _ => F8
          have h1k : ∀ p ∈ kp, p ∈ (rwl, LCg.lst (.ref t0 :: zs')) :: (t2 ++ r1) := fun p hp => .tail _ (List.mem_append_right _ (q5 _ (hkp.1 p hp)))
          have hkr : KeptIn kp ((rwl, LCg.lst (.ref t0 :: zs')) :: (t2 ++ r1)) := ⟨h1k, hkp.2⟩
          refine for1_list (l := rwl) (vs := (Value.ref t0 :: zs').toArray) (k := (Value.ref t0 :: zs').length) [Str.ofString "row"] (fun j _ nw => nw = (rwl, LCg.lst (.ref t0 :: zs')) :: (t2 ++ r1) ∧ chkGo b n (kindB b n g0) ((g0 :: out').take j) = .ok ())
            rfl F8 N2 ?_ ⟨rfl, rfl⟩ ?_ ?_
          · intro j _ nw hJz17
            refine (let Gz : Prop := _; (?_ : Gz))
            obtain ⟨rfl, _⟩ := hJz17
            k_unfold; clear Gz
            exact .head _
          · intro j v m₁ nw h tk I it hv hJz18
            refine (let Gz : Prop := _; (?_ : Gz))
            obtain ⟨rfl, hck⟩ := hJz18
            k_unfold; clear Gz
            intro hS F1 N1 hI
            refine (let Gz : Prop := _; (?_ : Gz))
            obtain ⟨gj, hgj, t, pp, kk1, kk3, rfl, hmt, hpt⟩ := hrw.get (by simpa using hv)
            k_unfold; clear Gz
            have mt : (t, tupO [.str (kindB b n gj) kk1, .ref pp, .int gj kk3]) ∈ (I, it) :: (rwl, LCg.lst (.ref t0 :: zs')) :: (t2 ++ r1) := .tail _ (.tail _ (List.mem_append_left _ hmt))
            have mt0 : (t0, tupO [.str (kindB b n g0) k01, .ref p0, .int g0 k03]) ∈ (I, it) :: (rwl, LCg.lst (.ref t0 :: zs')) :: (t2 ++ r1) := .tail _ (.tail _ (List.mem_append_left _ hm0))
            k_extra "m_steps"
            refine item_tupleT (News.isTup N1 mt) (by decide) (by decide) rfl rfl ?_
            k_extra "m_steps"
            refine item0_K N1 (.tail _ (.head _)) ?_
            k_extra "m_steps"
            · rename (_ != _) = true => hkk
              refine item_tupleT (News.isTup N1 mt) (by decide) (by decide) rfl rfl ?_
              k_extra "m_steps"
              refine raised B' (by assumption) X' (by assumption) (by k_extra "m_kept") (by assumption) rfl rfl (hE _ _ h₁ 0 _ (herr _ ?_)) _
              have hst : chkGo b n (kindB b n ((g0 :: out').headD 0)) (g0 :: out') = .error gj := chkGo_stop hgj hck (bne_iff_ne.mp hkk)
              exact bo e1 (bo e2 (bo e3 ((if_neg hx0).trans (bo rfl (bo e4 (bo e5 (be hst)))))))
            · rename (_ != _) = false => hkk
              refine TurnPost.intro (by assumption) N1 ((rwl, LCg.lst (.ref t0 :: zs')) :: (t2 ++ r1)) (fun _ h => h) hI (by k_extra "m_same") ⟨rfl, chkGo_next hgj hck (by simpa using hkk)⟩
          · intro m' nw h tk hJz20
            refine (let Gz : Prop := _; (?_ : Gz))
            obtain ⟨rfl, hck⟩ := hJz20
            k_unfold; clear Gz
            intro hS F1 N1
            have hck2 : chkGo b n (kindB b n ((g0 :: out').headD 0)) (g0 :: out') = .ok () := by
              have e : (Value.ref t0 :: zs').toArray.size = (g0 :: out').length := by rw [List.size_toArray, hrw.length]
              rw [e, List.take_length] at hck
              exact hck
            k_extra "m_steps"
            refine item0_K N1 (.head _) ?_
            k_extra "m_steps"
            rename Fr g' L' _ _ => F9
            refine at_list1 (kp := []) (its := (Value.ref t0 :: zs').toArray) (fun _ => False) (fun j ws nw => nw = (rwl, LCg.lst (.ref t0 :: zs')) :: (t2 ++ r1) ∧ DatAll t2 ws (((g0 :: out').take j).map fun q => langD (q, [n])))
              B' F9 N1 rfl rfl rfl ?_ ?_ (by decide) rfl rfl ?_ ?_ ⟨rfl, .nil⟩ ?_ ?_ ?_
            · rw [List.size_toArray, hrw.length, sizeLine_eq]; (k_extra "m_om")
            · intro j ws nw hJz21
              refine (let Gz : Prop := _; (?_ : Gz))
              obtain ⟨rfl, _⟩ := hJz21
              k_unfold; clear Gz
              exact .inr ⟨_, .head _, rfl, _, rfl⟩
            · intro _ _ _ _ _ hp; cases hp
            · intro _ hp; cases hp
            · intro _ hz; exact hz.elim
            · intro j v ws nw I oI C oC D' m₂ h tk hv hJz22
              refine (let Gz : Prop := _; (?_ : Gz))
              obtain ⟨rfl, hws⟩ := hJz22
              k_unfold; clear Gz
              intro hoC hx1 F2 N2 O3 hne hkk
              refine (let Gz : Prop := _; (?_ : Gz))
              obtain ⟨gj, hgj, t, pp, kk1, kk3, rfl, hmt, hpt⟩ := hrw.get (by simpa using hv)
              k_unfold; clear Gz
              have mt : (t, tupO [.str (kindB b n gj) kk1, .ref pp, .int gj kk3]) ∈ (I, oI) :: (C, oC) :: (D', LCg.lst ws) :: (rwl, LCg.lst (.ref t0 :: zs')) :: (t2 ++ r1) := .tail _ (.tail _ (.tail _ (.tail _ (List.mem_append_left _ hmt))))
              k_extra "m_steps"
              refine item_tupleT (News.isTup N2 mt) (by decide) (by decide) rfl rfl ?_
              k_extra "m_steps"
              refine LCg.CompEnd.intro F2 N2 ((rwl, LCg.lst (.ref t0 :: zs')) :: (t2 ++ r1)) (fun _ h => h) O3 trivial ⟨rfl, ?_⟩
              rw [take_snoc hgj, List.map_append]
              exact DatAll.append hws (.one hpt)
            · refine fin_none ?_
              intro D' h tk ws nw F2 N2 hno3 hJz24
              refine (let Gz : Prop := _; (?_ : Gz))
              obtain ⟨rfl, hws⟩ := hJz24
              k_unfold; clear Gz
              rw [List.size_toArray, hrw.length, List.take_length] at hws
              have hyz : ws.length ≤ 16000 := by
                rw [hws.length, List.length_map]
                have := offs_few (by (k_extra "m_om")) e4
                (k_extra "m_om")
              k_extra "m_steps"
              rename News h₀ L _ _ => NZ
              refine hok (kindB b n g0, fl, mk, (g0 :: out').map fun q => (q, [n])) ?_ _ _ tw ([(tw, ?_), (tcp, tupO ws)] ++ t2) (by assumption) (News.sub NZ ?_) ?_ ?_
              rotate_left 2
              · exact List.forall_mem_append.mpr ⟨List.forall_mem_append.mpr ⟨by k_extra "m_sub", by k_extra "m_sub"⟩, fun p hp => .tail _ (.tail _ (.tail _ (.tail _ (List.mem_append_right _ (q5 p hp)))))⟩
              · unfold lookD
                rw [held_mark e5, List.map_map]
                exact .tuple (.head _) (.cons (.str _ _) (.cons (.int _ _) (.cons (.int _ _) (.cons (.tuple (.tail _ (.head _)) (hws.mono fun p hp => .tail _ (.tail _ hp))) .nil))))
              · exact Apart.app (Apart.cons (fun p hp => Nat.ne_of_lt (ltwx p (.tail _ (.tail _ (.tail _ (List.mem_append_right _ (q5 p hp))))))) (Apart.cons (fun p hp => Nat.ne_of_lt (ltcpx p (.tail _ (.tail _ (List.mem_append_right _ (q5 p hp)))))) Apart.nil)) (hap.mono q5)
              · exact bo e1 (bo e2 (bo e3 ((if_neg hx0).trans (bo rfl (bo e4 (bo e5 (bo hck2 rfl)))))))
  · rename rdU16 D g = .ok _ => e1
    rename rdU16 D (g + 2) = .ok _ => e2
    rename rdU16 D (g + 4) = .error _ => e3
    refine hE _ _ _ _ _ (herr _ ?_)
    exact bo e1 (bo e2 (be e3))
  · rename rdU16 D g = .ok _ => e1
    rename rdU16 D (g + 2) = .error _ => e2
    refine hE _ _ _ _ _ (herr _ ?_)
    exact bo e1 (be e2)
  · rename rdU16 D g = .error _ => e1
    refine hE _ _ _ _ _ (herr _ ?_)
    exact be e1
end
theorem off_ZO : True := by
  k_with "off ZO" => (skip)
  exact trivial
end
section
/-! the pen's place in the ledger -/
theorem news_front2 {h₀ h : Heap} {L : Addr} {l : List (Addr × Obj)} (N : News h₀ L h l) (k : Nat) {l' : List (Addr × Obj)} (hl : l' = (l.drop k).take 2 ++ (l.take k ++ l.drop (k + 2)) := by rfl) : News h₀ L h l' := by
  subst hl
  intro x hx
  rcases List.mem_append.mp hx with hx | hx
  · exact N x (List.mem_of_mem_drop (List.mem_of_mem_take hx))
  · rcases List.mem_append.mp hx with hx | hx
    · exact N x (List.mem_of_mem_take hx)
    · exact N x (List.mem_of_mem_drop hx)
theorem pen_pick1 {h₀ h : Heap} {L : Addr} {q q2 p0 : Addr × Obj} {r : List (Addr × Obj)} (N : News h₀ L h (p0 :: q :: q2 :: r)) : News h₀ L h (q :: q2 :: p0 :: r) :=
  news_front2 N 1
theorem pen_pick2 {h₀ h : Heap} {L : Addr} {q q2 p0 p1 : Addr × Obj} {r : List (Addr × Obj)} (N : News h₀ L h (p0 :: p1 :: q :: q2 :: r)) : News h₀ L h (q :: q2 :: p0 :: p1 :: r) :=
  news_front2 N 2
theorem pen_pick3 {h₀ h : Heap} {L : Addr} {q q2 p0 p1 p2 : Addr × Obj} {r : List (Addr × Obj)} (N : News h₀ L h (p0 :: p1 :: p2 :: q :: q2 :: r)) : News h₀ L h (q :: q2 :: p0 :: p1 :: p2 :: r) :=
  news_front2 N 3
theorem pen_pick4 {h₀ h : Heap} {L : Addr} {q q2 p0 p1 p2 p3 : Addr × Obj} {r : List (Addr × Obj)} (N : News h₀ L h (p0 :: p1 :: p2 :: p3 :: q :: q2 :: r)) : News h₀ L h (q :: q2 :: p0 :: p1 :: p2 :: p3 :: r) :=
  news_front2 N 4
theorem pen_pick5 {h₀ h : Heap} {L : Addr} {q q2 p0 p1 p2 p3 p4 : Addr × Obj} {r : List (Addr × Obj)} (N : News h₀ L h (p0 :: p1 :: p2 :: p3 :: p4 :: q :: q2 :: r)) : News h₀ L h (q :: q2 :: p0 :: p1 :: p2 :: p3 :: p4 :: r) :=
  news_front2 N 5
theorem pen_pick6 {h₀ h : Heap} {L : Addr} {q q2 p0 p1 p2 p3 p4 p5 : Addr × Obj} {r : List (Addr × Obj)} (N : News h₀ L h (p0 :: p1 :: p2 :: p3 :: p4 :: p5 :: q :: q2 :: r)) : News h₀ L h (q :: q2 :: p0 :: p1 :: p2 :: p3 :: p4 :: p5 :: r) :=
  news_front2 N 6
theorem pen_pick7 {h₀ h : Heap} {L : Addr} {q q2 p0 p1 p2 p3 p4 p5 p6 : Addr × Obj} {r : List (Addr × Obj)} (N : News h₀ L h (p0 :: p1 :: p2 :: p3 :: p4 :: p5 :: p6 :: q :: q2 :: r)) : News h₀ L h (q :: q2 :: p0 :: p1 :: p2 :: p3 :: p4 :: p5 :: p6 :: r) :=
  news_front2 N 7
theorem pen_pick8 {h₀ h : Heap} {L : Addr} {q q2 p0 p1 p2 p3 p4 p5 p6 p7 : Addr × Obj} {r : List (Addr × Obj)} (N : News h₀ L h (p0 :: p1 :: p2 :: p3 :: p4 :: p5 :: p6 :: p7 :: q :: q2 :: r)) : News h₀ L h (q :: q2 :: p0 :: p1 :: p2 :: p3 :: p4 :: p5 :: p6 :: p7 :: r) :=
  news_front2 N 8
/-! octets joined -/
theorem slot_bytes_join : Slot "bytes" "join" "bytes.join" :=
  .of (owner := "bytes") (n := "join") (by rw [typeLookup_type, builtinLookup_eq_fast]; kernel_rfl) (by decide +kernel) (by decide +kernel) (by decide +kernel)
    (by first | exact .inl (by decide +kernel) | exact .inr (by decide +kernel)) (by rw [isSubtype_type]; kernel_rfl)
theorem type_bytes_join : typeOf (.builtin "bytes.join") = pure (.type "method_descriptor") := by show builtinType _ = _; rw [builtinType_eq_fast]; kernel_rfl
theorem entry_bytes_join : entryFor table "bytes.join" = some Builtin.«bytes.join» := entryFor_of_tree (by kernel_rfl)
theorem args_bytes_join_2 (a b : Value) : argsOk "bytes.join" ⟨[a, b], []⟩ := by
  unfold argsOk; rw [signature?_of (id := "bytes.join") (n := ['n', 'i', 'o', 'j']) (o := ['s', 'e', 't', 'y', 'b']) (by kernel_rfl) PySem.W.FB.owner_bytes]; kernel_rfl
inductive BytsAre : List Value → List (Array UInt8) → Prop
  | nil : BytsAre [] []
  | cons {vs : List Value} {bs : List (Array UInt8)} (b : Array UInt8) (t : Tok) : BytsAre vs bs → BytsAre (.bytes b t :: vs) (b :: bs)
theorem BytsAre.append {vs vs' : List Value} {bs bs' : List (Array UInt8)} (h : BytsAre vs bs) (k : BytsAre vs' bs') : BytsAre (vs ++ vs') (bs ++ bs') := by
  induction h with
  | nil => exact k
  | cons b t _ ih => exact .cons b t ih
theorem BytsAre.length {vs : List Value} {bs : List (Array UInt8)} (h : BytsAre vs bs) : vs.length = bs.length := by
  induction h with
  | nil => rfl
  | cons b t _ ih => rw [List.length_cons, List.length_cons, ih]
theorem BytsAre.get {vs : List Value} {bs : List (Array UInt8)} (h : BytsAre vs bs) {j : Nat} {v : Value} (hv : vs[j]? = some v) : ∃ b t, bs[j]? = some b ∧ v = .bytes b t := by
  induction h generalizing j with
  | nil => simp at hv
  | cons b t _ ih =>
    cases j with
    | zero => simp at hv; subst hv; exact ⟨b, t, rfl, rfl⟩
    | succ j => exact ih (by simpa using hv)
noncomputable def tot (bs : List (Array UInt8)) : Nat := (bs.map (·.size)).sum
section
variable {prog : Program} {w : World} {A : Around} {E : Value → Shared → Prop} {s : Shared} {t : Tok} {Q : Value → Shared → Prop} {b : Array UInt8} {u : Tok}
theorem take_eq {id : String} {fl : Int} : Builtin.Bytes.takeBuffer? id (.bytes b u) fl = pure (some (b, none)) := by
  unfold Builtin.Bytes.takeBuffer?
  rw [KBy.special_eq KBy.look_buffer, KBy.own_buffer]
  show (do return (← Builtin.Bytes.buffer? id (.bytes b u) (full := fl == Builtin.Bytes.fullReadOnly)).map (·, none) : Sem (Option (Array UInt8 × Option Value))) = _
  have e : Builtin.Bytes.buffer? id (.bytes b u) (full := fl == Builtin.Bytes.fullReadOnly) = pure (some b) := by
    unfold Builtin.Bytes.buffer?
    rw [KBy.special_eq KBy.look_buffer, KBy.own_buffer, KBy.own_release]
    rfl
  rw [e]
  rfl
theorem takeq_eq {id : String} {fl : Int} : Builtin.Bytes.takeBufferQuiet? id (.bytes b u) fl = pure (some (b, none)) := by
  unfold Builtin.Bytes.takeBufferQuiet?
  rw [take_eq]
  rfl
theorem seq_at {D : Addr} {vs : List Value} {k : Nat} {Q : Option (Array Value) → Shared → Prop} (hl : s.heap.get? D = some (lsO vs k)) (h : Q (some vs.toArray) s) : wpAny (model prog w) A (seqItems? (.ref D)) Q E s := by
  unfold seqItems?
  exact wpAny_bind (wpAny_load hl (wpAny_pure h))
theorem letgo_none : ∀ (l : List Value) (keep : List Value) {Q : Unit → Shared → Prop}, Q () s → wpAny (model prog w) A (Builtin.Bytes.joinLetGo (l.map fun v => (v, none)) keep) Q E s
  | [], _, _, h => wpAny_pure h
  | v :: l, keep, _, h => by
    rw [List.map_cons]
    unfold Builtin.Bytes.joinLetGo
    refine wpAny_bind ?_
    show wpAny _ _ (letGo [v] _) _ _ _
    unfold letGo
    refine wpAny_bind (wpAny_holding (wpAny_point ?_))
    exact wpAny_pure (letgo_none l keep h)
theorem joined_size : ∀ (bs : List (Array UInt8)) (k : Nat) (out : Array UInt8), ((bs.zipIdx k).foldl (fun out (p, i) => (if i > 0 then out ++ (#[] : Array UInt8) else out) ++ p) out).size = out.size + tot bs
  | [], _, out => by simp [tot]
  | x :: bs, k, out => by
    rw [List.zipIdx_cons, List.foldl_cons, joined_size bs (k + 1)]
    simp [tot]
    (first | lia | omega)
theorem fold_tot : ∀ (bs : List (Array UInt8)) (n : Nat), bs.foldl (· + ·.size) n = n + tot bs
  | [], n => by simp [tot]
  | x :: bs, n => by rw [List.foldl_cons, fold_tot bs]; simp [tot]; (first | lia | omega)
theorem join_small {bs : List (Array UInt8)} (hz : tot bs ≤ 100000) : ¬ Builtin.Bytes.tooLong (Array.foldl (fun x1 x2 => x1 + x2.size) ((#[] : Array UInt8).size * (bs.toArray.size - 1)) bs.toArray) = true := by
  have ht : Array.foldl (fun x1 x2 => x1 + x2.size) ((#[] : Array UInt8).size * (bs.toArray.size - 1)) bs.toArray = tot bs := by
    rw [List.foldl_toArray', fold_tot]; simp
    simp
  rw [ht, KBy.tooLong_not (by (first | lia | omega))]; decide
theorem join_all {bs : List (Array UInt8)} : (Builtin.Bytes.joined #[] bs.toArray.toList).size = tot bs := by
  unfold Builtin.Bytes.joined
  rw [joined_size bs 0]; simp
theorem any_off {ws : List Value} {bs : List (Array UInt8)} (hb : BytsAre ws bs) (i : Nat) : ((ws.take i).map fun v => (v, (none : Option Value))).any (fun x => x.fst.onHeap) = false := by
  rw [List.any_eq_false]
  intro p hp
  refine (let Gz : Prop := _; (?_ : Gz))
  (refine ex1 (List.mem_map.mp hp) fun v hAz207 => ?_; refine and2 (hAz207) fun hv' hEz207_2 => ?_; clear hAz207; subst hEz207_2)
  k_unfold; clear Gz
  refine (let Gz : Prop := _; (?_ : Gz))
  obtain ⟨j, hj⟩ := List.mem_iff_getElem?.mp (List.mem_of_mem_take hv')
  k_unfold; clear Gz
  refine (let Gz : Prop := _; (?_ : Gz))
  (refine ex2 (hb.get hj) fun b' t' hAz208 => ?_; refine and2 (hAz208) fun _ hEz208_3 => ?_; clear hAz208; subst hEz208_3)
  k_unfold; clear Gz
  simp [Value.onHeap]
theorem wp_if {α : Type} {c : Prop} [Decidable c] {x y : Sem α} {Q : α → Shared → Prop} (hc : c) (h : wpAny (model prog w) A x Q E s) : wpAny (model prog w) A (if c then x else y) Q E s := by rw [if_pos hc]; exact h
theorem wp_ifn {α : Type} {c : Prop} [Decidable c] {x y : Sem α} {Q : α → Shared → Prop} (hc : ¬ c) (h : wpAny (model prog w) A y Q E s) : wpAny (model prog w) A (if c then x else y) Q E s := by rw [if_neg hc]; exact h
theorem wp_one {α : Type} {items : Array Value} {X : Value → Sem α} {Y : Sem α} {Q : α → Shared → Prop} (h1 : ∀ x, items = #[x] → wpAny (model prog w) A (X x) Q E s) (h2 : wpAny (model prog w) A Y Q E s) :
    wpAny (model prog w) A (match items with | #[x] => X x | x => Y) Q E s := by
  obtain ⟨l⟩ := items
  match l with
  | [] => exact h2
  | [x] => exact h1 x rfl
  | x :: y :: r => exact h2
theorem one_byt {vs : List Value} {bs : List (Array UInt8)} (hb : BytsAre vs bs) {x : Value} (hx : vs.toArray = #[x]) : ∃ c u, x = .bytes c u ∧ c.size = tot bs := by
  cases hb with
  | nil => cases hx
  | cons b t hr =>
    cases hx
    cases hr
    exact ⟨_, _, rfl, by simp [tot]⟩
theorem takeq_of {id : String} {fl : Int} {x : Value} (h : x = .bytes b u) : Builtin.Bytes.takeBufferQuiet? id x fl = pure (some (b, none)) := by subst h; exact takeq_eq
theorem join_loop {ws : List Value} {bs : List (Array UInt8)} (hb : BytsAre ws bs) {f : Nat → (Array (Array UInt8) × List (Value × Option Value)) → Sem (ForInStep ((Array (Array UInt8) × List (Value × Option Value))))} {Q₁ : (Array (Array UInt8) × List (Value × Option Value)) → Shared → Prop}
    (hf : ∀ i c u Q', ws.toArray.getD i Value.none = .bytes c u → Q' (.yield ⟨(bs.take i).toArray.push c, (ws.take i).map (fun v => (v, none)) ++ [(ws.toArray.getD i Value.none, none)]⟩) s → wpAny (model prog w) A (f i ⟨(bs.take i).toArray, (ws.take i).map fun v => (v, none)⟩) Q' E s)
    (he : Q₁ ⟨bs.toArray, ws.map fun v => (v, none)⟩ s) : wpAny (model prog w) A (forIn [:ws.toArray.size] ⟨#[], []⟩ f) Q₁ E s := by
  rw [Std.Legacy.Range.forIn_eq_forIn_range']
  simp only [Std.Legacy.Range.size, Nat.sub_zero, Nat.add_sub_cancel, Nat.div_one]
  refine wpAny_forIn_list _
    (fun rest st s' => s' = s ∧ ∃ i, rest = List.range' i (ws.length - i) ∧ i ≤ ws.length ∧ st = ⟨(bs.take i).toArray, (ws.take i).map fun v => (v, none)⟩) _ ?_ ?_ _ _ ⟨rfl, 0, by simp, Nat.zero_le _, by simp⟩
  · intro x rest st s' hJz4
    refine (let Gz : Prop := _; (?_ : Gz))
    obtain ⟨rfl, i, hr, hi, rfl⟩ := hJz4
    k_unfold; clear Gz
    have hlt : i < ws.length := by
      rcases Nat.lt_or_ge i ws.length with h | h
      · exact h
      · rw [Nat.sub_eq_zero_of_le h] at hr; cases hr
    rw [show ws.length - i = (ws.length - (i + 1)) + 1 by (first | lia | omega), List.range'_succ] at hr
    injection hr with h1 hrest
    subst h1
    refine (let Gz : Prop := _; (?_ : Gz))
    (refine ex2 (hb.get (List.getElem?_eq_getElem hlt)) fun c u hAz210 => ?_; refine and2 (hAz210) fun hc hv => ?_; clear hAz210)
    k_unfold; clear Gz
    have e1 : ws.toArray.getD x Value.none = .bytes c u := by rw [← hv]; simp [hlt]
    refine hf x c u _ e1 ⟨rfl, x + 1, hrest, hlt, ?_⟩
    rw [List.take_add_one, List.take_add_one, hc, List.getElem?_eq_getElem hlt, List.map_append, e1, hv]
    simp
  · intro st s' hJz6
    refine (let Gz : Prop := _; (?_ : Gz))
    obtain ⟨rfl, i, hr, hi, rfl⟩ := hJz6
    k_unfold; clear Gz
    have e : i = ws.length := by
      rcases Nat.lt_or_ge i ws.length with h' | h'
      · rw [show ws.length - i = (ws.length - (i + 1)) + 1 by (first | lia | omega), List.range'_succ] at hr; cases hr
      · exact Nat.le_antisymm hi h'
    subst e
    rw [List.take_length, List.take_of_length_le (by rw [hb.length]; exact Nat.le_refl _)]
    exact he
set_option maxHeartbeats 2000000 in
theorem join_bytes {D : Addr} {vs : List Value} {bs : List (Array UInt8)} {k : Nat} (hl : s.heap.get? D = some (lsO vs k)) (hb : BytsAre vs bs) (hz : tot bs ≤ 100000) (h : ∀ r t k, r.size = tot bs → Q (.bytes r t) { s with toks := k }) :
    wpAny (model prog w) A (call (.builtin "bytes.join") [.bytes #[] t, .ref D]) Q E s := by
  refine wpAny_call (codeAny_call_builtin slot_bytes_join.plain entry_bytes_join (slot_bytes_join.check _ _ _ _ _ _ _ _ (typeIs_bytes _ _ _) (args_bytes_join_2 _ _) ?_))
  refine wpAny_bind (wpAny_of_eq (a := (Value.bytes #[] t, Value.ref D)) rfl ?_)
  refine wp_if rfl (wpAny_bind (wpAny_bind (wpAny_typeOf (show s.TypeIs (.ref D) "list" from ⟨_, hl, rfl⟩) (wp_if rfl (wpAny_pure ?_)))))
  refine wpAny_bind (seq_at hl (wp_if rfl (wp_one ?_ ?_)))
  · intro x hx
    refine (let Gz : Prop := _; (?_ : Gz))
    first | (refine ex3 (one_byt hb hx) fun c u hEz212_2 hc => ?_; subst hEz212_2) | (refine ex2 (one_byt hb hx) fun c u hAz212 => ?_; refine and2 (hAz212) fun hEz212_2 hc => ?_; clear hAz212; subst hEz212_2) | (refine ex1 (one_byt hb hx) fun c hAz212 => ?_; refine and3 (hAz212) fun u hEz212_2 hc => ?_; clear hAz212; subst hEz212_2) | (refine and4 (one_byt hb hx) fun c u hEz212_2 hc => ?_; subst hEz212_2) | obtain ⟨c, u, rfl, hc⟩ := one_byt hb hx
    k_unfold; clear Gz
    exact wpAny_bind (wpAny_typeOf (typeIs_bytes _ _ _) (wp_if rfl (wpAny_bind (wpAny_rule (wpAny_pure (h c u s.toks hc))))))
  · refine wpAny_bind (join_loop hb ?_ ?_)
    · intro i c u Q' e1 hq
      refine wpAny_bind (seq_at hl (wp_ifn (by rw [any_off hb]; decide) ?_))
      refine wpAny_bind (wpAny_holding (wpAny_of_eq (takeq_of e1) ?_))
      exact wpAny_bind (seq_at hl (wp_ifn (by simp) (wpAny_pure hq)))
    · refine wpAny_bind (wpAny_of_eq (a := (#[] : Array UInt8)) rfl (wp_ifn (join_small hz) ?_))
      refine wpAny_bind (wpAny_mkBytes ?_ (by rw [join_all, sizeLine_eq]; (first | lia | omega)))
      exact wpAny_bind (wpAny_holding (wpAny_point (wpAny_bind (letgo_none _ _ (wpAny_pure (h _ _ _ join_all))))))
end
end
section
open PyProof.Rows.LCg
/-! a list of octets cut -/
theorem BytsAre.drop {vs : List Value} {bs : List (Array UInt8)} (h : BytsAre vs bs) : ∀ n : Nat, BytsAre (vs.drop n) (bs.drop n) := by
  induction h with
  | nil => intro n; rw [List.drop_nil, List.drop_nil]; exact .nil
  | cons b t h ih =>
    intro n
    cases n with
    | zero => exact .cons b t h
    | succ n => exact ih n
theorem slice_byts {prog : Program} {w : World} {A : Around} {E : Value → Shared → Prop} {s : Shared} {h₀ : Heap} {L l : Addr} {m : Str → Option Value} {news : List (Addr × Obj)} {value slice : PySem.Expr} {vs : List Value} {bs : List (Array UInt8)} {x : Int} {vl vu : Value} {Q : Value → Shared → Prop} (F : Fr h₀ L s.heap m) (N : News h₀ L s.heap news) (hl : s.heap.IsList l vs.toArray) (hb : BytsAre vs bs) (h0 : 0 ≤ x) (pl : IsPart vl (some x)) (pu : IsPart vu none)
    (h : ∀ D ws h', Fr h₀ L h' m → News h₀ L h' ((D, lsO ws 0) :: news) → (∀ p ∈ news, p.1 < D) → BytsAre ws (bs.drop x.toNat) → Q (.ref D) { s with heap := h' })
    (hs : subscripted slice false (.ref l) (.ref s.heap.objs.size) = operate [.ref s.heap.objs.size, .ref l] (getItem (.ref l) (.ref s.heap.objs.size))) (ht : ∀ r, letTemporaryGo value (.ref l) r = pure ()) (hz : vs.toArray.size ≤ sizeLine) :
    wpAny (model prog w) A (subscriptTail value slice (.ref l) (.ref s.heap.objs.size)) Q E { s with heap := s.heap.push { cls := .type "slice", data := .fields #[vl, vu, .none] } } := by
  refine kmk_slice F N hl pl pu (fun D h' F' N' l1 => h D (vs.drop x.toNat) h' F' ?_ l1 (hb.drop _)) hs ht hz
  refine (let Gz : Prop := _; (?_ : Gz))
  obtain ⟨j, rfl⟩ := Int.eq_ofNat_of_zero_le h0
  k_unfold; clear Gz
  have e : slicePick vs.toArray (some (j : Int)) none none = (vs.drop j).toArray := by rw [slicePick_from']
  rw [e] at N'
  exact N'
theorem cut_B {prog : Program} {w : World} {A : Around} {E : Value → Shared → Prop} {s : Shared} {value slice : PySem.Expr} {b : Array UInt8} {t : Tok} {h₀ : Heap} {L : Addr} {m : PySem.Str → Option Value} {news : List (Addr × Obj)} {l u : Value} {lo hi : Option Int} {Q : Value → Shared → Prop} (hF : Fr h₀ L s.heap m) (hN : News h₀ L s.heap news) (hl : IsPart l lo) (hu : IsPart u hi) (hz : b.size ≤ 100000)
    (h : ∀ r h' t' k, r.size ≤ b.size → Fr h₀ L h' m → News h₀ L h' news → Q (.bytes r t') { s with heap := h', toks := k })
    (hs : subscripted slice false (.bytes b t) (.ref s.heap.objs.size) = operate [.ref s.heap.objs.size, .bytes b t] (getItem (.bytes b t) (.ref s.heap.objs.size)))
    (ht : ∀ r, letTemporaryGo value (.bytes b t) r = pure ()) :
    wpAny (model prog w) A (subscriptTail value slice (.bytes b t) (.ref s.heap.objs.size)) Q E { s with heap := s.heap.push { cls := .type "slice", data := .fields #[l, u, .none] } } :=
  KBc.slice_K hF hN (ks := KBw.bInts b) rfl hl hu (by rw [KBw.ints_length]; (first | lia | omega)) (fun h' t' k F' N' _ => h _ h' t' k (KBc.size_picked_le b lo hi) F' N') hs ht
/-! a loop over two lists at once -/
section
variable {prog : Program} {w : World} {A : Around} {E : Value → Shared → Prop} {s : Shared} {h₀ : Heap} {env : Env}
noncomputable def ZipPost (h₀ : Heap) (L : Addr) (stored : List Str) (m₀ : Str → Option Value) (J : (Str → Option Value) → Prop) (all : List (Addr × Obj)) (s₁ : Shared) (f : Flow) (s₂ : Shared) : Prop :=
  f = .next ∧ ∃ h' tk m', s₂ = { s₁ with heap := h', toks := tk } ∧ Fr h₀ L h' m' ∧ News h₀ L h' all ∧ Same stored m₀ m' ∧ J m'
theorem zip_for2 {x x₂ : Str} {px px₂ tp : Pos} {kk : Nat} {body : List Stmt} {Q : Flow → Shared → Prop} {l1 l2 : Addr} {xs ys : List Value} {k1 k2 : Nat} {m₀ : Str → Option Value} {news : List (Addr × Obj)} (stored : List Str) (J : Nat → (Str → Option Value) → Prop) (hh : A.handled = none)
    (F : Fr h₀ env.locals s.heap m₀) (N : News h₀ env.locals s.heap news) (hx : env.kindOf x = some .local) (hx₂ : env.kindOf x₂ = some .local)
    (hp : (env.scope.kind == .class || (env.scope.kind == .module && env.locals != env.globals)) = false) (hE : PassesOwn (model prog w) A env E)
    (m1 : (l1, lsO xs k1) ∈ news) (m2 : (l2, lsO ys k2) ∈ news) (hlen : xs.length = ys.length) (hJ : J 0 m₀)
    (turn : ∀ i v₁ v₂ m₁ h tk own, xs[i]? = some v₁ → ys[i]? = some v₂ → J i m₁ → Same stored m₀ m₁ →
      Fr h₀ env.locals h (fun y => if y = x₂ then some v₂ else if y = x then some v₁ else if stored.contains y then m₁ y else m₀ y) → News h₀ env.locals h (own ++ news) →
      wpAny (model prog w) A (execs body env) (ZipPost h₀ env.locals stored m₀ (J (i + 1)) (own ++ news) { s with heap := h, toks := tk }) E { s with heap := h, toks := tk })
    (done : ∀ m' h' tk, J xs.length m' → Same stored m₀ m' → Fr h₀ env.locals h' (fun y => if stored.contains y then m' y else m₀ y) → News h₀ env.locals h' news → Q .next { s with heap := h', toks := tk }) :
    wpAny (model prog w) A (call (.type "zip") [.ref l1, .ref l2]) (AtFor2 prog w A env (.Tuple [.Name x px, .Name x₂ px₂] kk tp) body Q E) E s := by
  have hl1 : s.heap.IsList l1 xs.toArray := ⟨_, (N _ m1).1, rfl, _, rfl⟩
  have hl2 : s.heap.IsList l2 ys.toArray := ⟨_, (N _ m2).1, rfl, _, rfl⟩
  have hlt1 : l1 < s.heap.objs.size := Heap.lt_size (N _ m1).1
  have hlt2 : l2 < s.heap.objs.size := Heap.lt_size (N _ m2).1
  have hL1 := (N _ m1).2.1
  have hL2 := (N _ m2).2.1
  dsimp only at hL1 hL2
  have hLs : env.locals < s.heap.objs.size := F.ns.lt
  have D : ZipApart (s.heap.objs.size + 4) (s.heap.objs.size + 2) (s.heap.objs.size + 3) s.heap.objs.size (s.heap.objs.size + 1) l1 l2 := ktu_apart _ _ _ hlt1 hlt2
  refine call_zip_2 hl1 hl2 fun h' hz hTI hTO hi1 hi2 hsz hk => ?_
  refine wpAny_pyIter_zip hz ?_
  have hnw : ∀ (b : Addr), b ∈ [s.heap.objs.size + 4, s.heap.objs.size + 3, s.heap.objs.size, s.heap.objs.size + 1] → s.heap.objs.size ≤ b := by
    intro b hb
    simp at hb
    rcases hb with rfl | rfl | rfl | rfl
    · exact Nat.le_add_right _ _
    · exact Nat.le_add_right _ _
    · exact Nat.le_refl _
    · exact Nat.le_add_right _ _
  refine ktu_loop (s := { s with heap := h' }) (R := fun r s' => match r with | .ok f => Q f s' | .error e => cameBackBy (model prog w) A env E e s') (m := m₀) (news := news) (KTurns.ofWalksU (WalksT.zip2 hh _ _ _ _ _ _ _ D xs.toArray ys.toArray).toU) ?_ ?_ ?_ ?_ (F.keeps hk) (N.grown hk)
    (fun i m₁ news₁ => news₁ = news ∧ J i m₁ ∧ Same stored m₀ m₁) ⟨rfl, hJ, fun _ _ => rfl⟩ ?_ ?_
  · intro hm
    simp at hm
    rcases hm with e | e | e | e | e | e | e
    · exact absurd hLs (by rw [e]; exact Nat.not_lt.mpr (Nat.le_add_right _ _))
    · exact absurd hLs (by rw [e]; exact Nat.not_lt.mpr (Nat.le_add_right _ _))
    · exact absurd hLs (by rw [e]; exact Nat.not_lt.mpr (Nat.le_add_right _ _))
    · exact absurd hLs (by rw [e]; exact Nat.lt_irrefl _)
    · exact absurd hLs (by rw [e]; exact Nat.not_lt.mpr (Nat.le_add_right _ _))
    · exact hL1 e.symm
    · exact hL2 e.symm
  · intro b hb
    exact Heap.get?_none_of_le (Nat.le_trans F.above (Nat.le_trans (Nat.le_of_lt hLs) (hnw b hb)))
  · intro p hp hb
    exact absurd (Heap.lt_size (N p hp).1) (Nat.not_lt.mpr (hnw _ hb))
  · exact ⟨hz, hTI, ⟨_, _, hTO⟩, hi1, hi2, hl1.at fun o e => hk _ o e, hl2.at fun o e => hk _ o e⟩
  · intro i v m₁ news₁ h₁ tk₁ own hi hJz2
    refine (let Gz : Prop := _; (?_ : Gz))
    (refine ex2 (hJz2) fun T vals hAz213 => ?_; clear hJz2; refine and3 (hAz213) fun hEz213_2 hNz213_3 hT => ?_; clear hAz213; subst hEz213_2; obtain ⟨v₁, v₂, hv1, hv2, rfl⟩ := hNz213_3)
    k_unfold; clear Gz
    intro hJz3
    refine (let Gz : Prop := _; (?_ : Gz))
    (refine and3 (hJz3) fun hEz214_0 hJ₁ hS => ?_; clear hJz3; subst hEz214_0)
    k_unfold; clear Gz
    intro hoff hsub hown hall hst₁ F₁ N₁
    have ht : IsTup h₁ T #[v₁, v₂] := hT
    refine assign_Tuple_tuple hh ht rfl rfl fun h₅ he => ?_
    have he' : ∀ b o, h₁.get? b = some o → h₅.get? b = some o := fun b o e => he b o (Nat.ne_of_lt (Heap.lt_size e)) e
    have F₅ := F₁.keeps he'
    refine assignInOrder_cons (wpAny_assign_Name (wpAny_storeName_local hx F₅.ns (fun h₆ hn₆ hs₆ => ?_) hp))
    have F₆ := F₅.set hn₆ hs₆
    refine assignInOrder_cons (wpAny_assign_Name (wpAny_storeName_local hx₂ F₆.ns (fun h₇ hn₇ hs₇ => ?_) hp))
    have F₇ := F₆.set hn₇ hs₇
    refine assignInOrder_nil ?_
    have N₇ : News h₀ env.locals h₇ (own ++ news₁) := fun p hp => ⟨hs₇.extBut _ _ (N₁ p hp).2.1 (hs₆.extBut _ _ (N₁ p hp).2.1 (he' _ _ (N₁ p hp).1)), (N₁ p hp).2⟩
    have hmap := hS.map
    have e : (fun y => if y = x₂ then some v₂ else if y = x then some v₁ else if stored.contains y then m₁ y else m₀ y) = fun y => if y = x₂ then some v₂ else (fun y => if y = x then some v₁ else m₁ y) y := by
      funext y
      dsimp only
      rw [← congrFun hmap y]
    refine wpAny_mono (wpAny_passesOwn hE (turn i v₁ v₂ m₁ h₇ _ own (by simpa using hv1) (by simpa using hv2) hJ₁ hS (e ▸ F₇) N₇)) (fun f s₂ hp => ?_) fun _ _ e => e
    refine (let Gz : Prop := _; (?_ : Gz))
    obtain ⟨rfl, h'', tk', m'', rfl, F'', N'', hS'', hJ''⟩ := hp
    k_unfold; clear Gz
    exact LoopStepV.next ⟨rfl, h'', tk', m'', news₁, rfl, F'', N'', hoff, rfl, hJ'', hS''⟩
  · intro h'' tk m' news' F' N' _ hJz5
    refine (let Gz : Prop := _; (?_ : Gz))
    (refine and3 (hJz5) fun hEz216_0 hJ' hS' => ?_; clear hJz5; subst hEz216_0)
    k_unfold; clear Gz
    have hmap := hS'.map
    have hn : min xs.toArray.size ys.toArray.size = xs.length := by rw [List.size_toArray, List.size_toArray, hlen, Nat.min_self]
    rw [hn] at hJ'
    exact done m' h'' tk hJ' hS' (hmap ▸ F') N'
end
end
section
theorem reset_P1 : True := by
  w_top off
  exact trivial
/-- the pen: a list of ints, a count of draws, a rest -/
noncomputable abbrev penO (pl : Addr) (n : Int) (tn : Tok) (q : Int) (tq : Tok) : Obj := lsO [.ref pl, .int n tn, .int q tq] 0
theorem fdiv_nn {q m : Int} (hq : 0 ≤ q) (hm : 0 < m) : 0 ≤ q.fdiv m := Int.fdiv_nonneg hq (Int.le_of_lt hm)
theorem ints_head {vs : List Value} {xs : List Int} (hi : IntsAre vs xs) (hne : xs ≠ []) : ∃ x t vs' xs', vs = .int x t :: vs' ∧ xs = x :: xs' ∧ IntsAre vs' xs' := by
  cases hi with
  | nil => exact absurd rfl hne
  | cons x t h => exact ⟨x, t, _, _, rfl, rfl, h⟩
noncomputable def DrawP (g : Heap) (L : Addr) (m₁ : Str → Option Value) (pn pl : Addr) (n : Int) (rest : List (Addr × Obj)) (s : Shared) (f : Flow) (s' : Shared) : Prop :=
  ∃ h' tk' vs xs k q tn tq, f = .next ∧ s' = { s with heap := h', toks := tk' } ∧ Fr g L h' m₁ ∧ News g L h' ((pn, penO pl n tn q tq) :: (pl, lsO vs k) :: rest) ∧ IntsAre vs xs ∧ (∀ x ∈ xs, 0 ≤ x) ∧ vs.length ≤ 63 ∧ 0 ≤ q
theorem join_draw {prog : Program} {w : World} {A : Around} {E : Value → Shared → Prop} {s : Shared} {g : Heap} {L pn pl : Addr} {m₁ : Str → Option Value} {rest : List (Addr × Obj)} {Q : Flow → Shared → Prop} {t : Sem Flow} {n q : Int} {tn tq : Tok} {vs : List Value} {k : Nat} (F : Fr g L s.heap m₁) (N : News g L s.heap ((pn, penO pl n tn q tq) :: (pl, lsO vs k) :: rest))
    (h1 : wpAny (model prog w) A t (JoinF (DrawP g L m₁ pn pl n rest s)) E s) (h2 : ∀ h' tk' vs xs k q tn tq, Fr g L h' m₁ → News g L h' ((pn, penO pl n tn q tq) :: (pl, lsO vs k) :: rest) → IntsAre vs xs → (∀ x ∈ xs, 0 ≤ x) → vs.length ≤ 63 → 0 ≤ q → Q .next { s with heap := h', toks := tk' }) : wpAny (model prog w) A t Q E s := wpAny_mono h1 (fun v s' h => by
    refine (let Gz : Prop := _; (?_ : Gz))
    first | (refine ex9 (h) fun h' tk' vs xs k q tn tq hEz217_8 hAz217 => ?_; clear h; refine and7 (hAz217) fun hEz217_9 F' N' hi hx hz hq => ?_; clear hAz217; subst hEz217_8; subst hEz217_9) | (refine ex8 (h) fun h' tk' vs xs k q tn tq hAz217 => ?_; clear h; refine and8 (hAz217) fun hEz217_8 hEz217_9 F' N' hi hx hz hq => ?_; clear hAz217; subst hEz217_8; subst hEz217_9) | (refine ex7 (h) fun h' tk' vs xs k q tn hAz217 => ?_; clear h; refine and9 (hAz217) fun tq hEz217_8 hEz217_9 F' N' hi hx hz hq => ?_; clear hAz217; subst hEz217_8; subst hEz217_9) | (refine ex6 (h) fun h' tk' vs xs k q hAz217 => ?_; clear h; refine and10 (hAz217) fun tn tq hEz217_8 hEz217_9 F' N' hi hx hz hq => ?_; clear hAz217; subst hEz217_8; subst hEz217_9) | (refine ex5 (h) fun h' tk' vs xs k hAz217 => ?_; clear h; refine and11 (hAz217) fun q tn tq hEz217_8 hEz217_9 F' N' hi hx hz hq => ?_; clear hAz217; subst hEz217_8; subst hEz217_9) | (refine ex4 (h) fun h' tk' vs xs hAz217 => ?_; clear h; refine and12 (hAz217) fun k q tn tq hEz217_8 hEz217_9 F' N' hi hx hz hq => ?_; clear hAz217; subst hEz217_8; subst hEz217_9) | (refine ex3 (h) fun h' tk' vs hAz217 => ?_; clear h; refine and12 (hAz217) fun xs k q tn tq hEz217_8 hEz217_9 F' N' hi hx hAz217r => ?_; clear hAz217; refine and2 (hAz217r) fun hz hq => ?_; clear hAz217r; subst hEz217_8; subst hEz217_9) | (refine ex2 (h) fun h' tk' hAz217 => ?_; clear h; refine and12 (hAz217) fun vs xs k q tn tq hEz217_8 hEz217_9 F' N' hi hAz217r => ?_; clear hAz217; refine and3 (hAz217r) fun hx hz hq => ?_; clear hAz217r; subst hEz217_8; subst hEz217_9) | (refine ex1 (h) fun h' hAz217 => ?_; clear h; refine and12 (hAz217) fun tk' vs xs k q tn tq hEz217_8 hEz217_9 F' N' hAz217r => ?_; clear hAz217; refine and4 (hAz217r) fun hi hx hz hq => ?_; clear hAz217r; subst hEz217_8; subst hEz217_9) | (refine and12 (h) fun h' tk' vs xs k q tn tq hEz217_8 hEz217_9 F' hr => ?_; clear h; refine and5 (hr) fun N' hi hx hz hq => ?_; clear hr; subst hEz217_8; subst hEz217_9) | obtain ⟨h', tk', vs, xs, k, q, tn, tq, rfl, rfl, F', N', hi, hx, hz, hq⟩ := h
    k_unfold; clear Gz
    exact h2 h' tk' vs xs k q tn tq F' N' hi hx hz hq) fun _ _ e => e
theorem DrawP.mk {s : Shared} {g : Heap} {L pn pl : Addr} {m₁ : Str → Option Value} {n q : Int} {rest : List (Addr × Obj)} {h' : Heap} {tk' k : Nat} {tn tq : Tok} {vs : List Value} {xs : List Int} (F : Fr g L h' m₁) (N : News g L h' ((pn, penO pl n tn q tq) :: (pl, lsO vs k) :: rest)) (hi : IntsAre vs xs) (hx : ∀ x ∈ xs, 0 ≤ x) (hz : vs.length ≤ 63) (hq : 0 ≤ q) : DrawP g L m₁ pn pl n rest s .next { s with heap := h', toks := tk' } := xi8 h' tk' vs xs k q tn tq ⟨rfl, rfl, F, N, hi, hx, hz, hq⟩
section
variable {w : World} {dp un : Nat} {gd : Option (List Code)} {cn : Str} {cs : Scope} {a : Addr} {ccd : Value} {cl : List (Str × Addr)} {outer : List Env} {A₀ : Around} {base h₀ : Heap} {L : Addr} {m : Str → Option Value} {s : Shared} {Q E : Value → Shared → Prop} {p : Program} {loose : List Str} {mean : ExcName → Option Value} {mg mb : Str → Option Value} {rest : List (Addr × Obj)} {pn pl : Addr} {vs : List Value} {xs : List Int} {k : Nat} {n q : Int} {tn tq : Tok}
variable (B : Below A₀ base outer h₀) (F : Fr h₀ L s.heap m) (X : (hd.heap_39 w.params).In h₀) (N : News h₀ L s.heap ((pn, penO pl n tn q tq) :: (pl, lsO vs k) :: rest)) (T : Top p loose mean mg mb h₀) (hk : cs.kind = .function)
include B F X N T hk
theorem lines_P11 : True := by
  k_with "compareOp NotEq ref ref" => (first | ((fail_if_success (k_extra "off P1")); (k_here; (with_unfolding_all refine' ne_intsK ?zk1 ?zk2 ?zk3 ?zk4 ?zk5 ?_; (case zk1 => is_list); (case zk2 => l_intsC); (case zk3 => is_list); (case zk4 => l_intsC); (case zk5 => exact room_n (by with_reducible assumption) (by decide)); k_whole))) | fail)
  k_with "call builtin:list.pop" => (first | ((fail_if_success (k_extra "off P1")); k_extra "m_stop") | fail)
  k_with "subscriptTail Name" => (first | ((fail_if_success (k_extra "off P1")); (k_here; (with_reducible show wpAny _ _ (subscriptTail _ _ (Value.ref _) (Value.int _ _)) _ _ _); (with_unfolding_all refine' item_litK ?zk1 ?zk2 ?zk3 ?zk4 ?_ ?zk6; (case zk1 => is_list); (case zk2 => decide); (case zk3 => decide); (case zk4 => rfl); (case zk6 => with_unfolding_all rfl); k_whole))) | fail)
  k_with "exec If" => (first | ((fail_if_success (k_extra "off P1")); (k_here; (fail_if_success (with_reducible show wpAny _ _ _ (JoinF _) _ _)); refine of_stop ?_)) | fail)
  exact trivial
set_option maxHeartbeats 1000000 in
theorem draw_spec (hd : dp + 10 < recursionLimit) (hu : un + 100 < cLine) (hi : IntsAre vs xs) (hx : ∀ x ∈ xs, 0 ≤ x) (hz : vs.length ≤ 63) (hn : 0 ≤ n ∧ n < 100000) (hq : 0 ≤ q) (hpp : @Ne Nat pn pl) (hr1 : ∀ p ∈ rest, p.1 ≠ pn) (hr2 : ∀ p ∈ rest, p.1 ≠ pl) (many : Int) (tm : Tok) (hm : 0 < many ∧ many < 10000)
    (hok : ∀ d, 0 ≤ d → d < many → ∀ h' tk' t vs' xs' k' q' tn' tq', Fr h₀ L h' m → News h₀ L h' ((pn, penO pl (n + 1) tn' q' tq') :: (pl, lsO vs' k') :: rest) → IntsAre vs' xs' → (∀ x ∈ xs', 0 ≤ x) → vs'.length ≤ 63 → 0 ≤ q' → Q (.int d t) { s with heap := h', toks := tk' }) :
    Cl w dp un gd cn cs L a ccd cl outer 375 [.ref pn, .int many tm] Q E s := by
  k_dflt (refine' enter [("pen", .ref pn), ("many", .int many tm)] B F X N T hk ?k6 ?k7 ?k8 ?k9 ?kB ?c2 ?c3 ?c4 ?c5 ?_; k_extra "m_sides")
  intro g L' h₁ E' FG F' N' B' X' T' hP hE
  try dsimp only
  try k_fold
  refine foldAV ?_; intro Mz Az vz gz dz oz
  k_extra "m_steps"
  rename Fr g L' _ _ => F4
  rename News g L' _ _ => N4
  refine join_draw F4 N4 ?_ ?_
  · k_extra "m_steps"
    · exact DrawP.mk (by assumption) (News.sub (by assumption) (by k_extra "m_sub")) hi hx hz hq
    · rename decide (xs = []) = false => hxs
      refine (let Gz : Prop := _; (?_ : Gz))
      (refine ex4 (ints_head hi (by simpa using hxs)) fun x0 t0 vs1 xs1 hAz219 => ?_; refine and3 (hAz219) fun hEz219_4 hEz219_5 hi1 => ?_; clear hAz219; subst hEz219_4; subst hEz219_5)
      k_unfold; clear Gz
      rename Fr g L' _ _ => F5
      rename News g L' _ _ => N5
      have hx0 := hx x0 (.head _)
      refine kl_popAt (its := (Value.int x0 t0 :: vs1).toArray) (k := 0) (p := []) (q := vs1) (y := .int x0 t0) F5 N5 rfl ?_ rfl (by k_upd) ?_ ?_
      · rw [List.size_toArray, List.length_cons]; unfold seqIndex?; simp
      · rw [sizeLine_eq]; show (Value.int x0 t0 :: vs1).length ≤ _; (k_extra "m_om")
      intro h' F6 N6
      try dsimp only [List.nil_append, List.cons_append] at N6
      k_extra "m_steps"
      exact DrawP.mk (by assumption) (News.sub (by assumption) (by k_extra "m_sub")) hi1 (fun x h => hx x (.tail _ h)) (Nat.le_of_succ_le hz) hx0
    · exact DrawP.mk (by assumption) (News.sub (by assumption) (by k_extra "m_sub")) hi hx hz hq
  intro h' tk' vs' xs' k' q' tn' tq' F5 N5 hi' hx' hz' hq'
  clear F4 N4
  k_extra "m_steps"
  rename Fr h₀ L _ _ => FZ
  rename News h₀ L _ _ => NZ
  exact hok _ (Int.fmod_nonneg_of_pos _ hm.1) (Int.fmod_lt_of_pos _ hm.1) _ _ _ vs' xs' k' (q'.fdiv many) _ _ FZ (News.sub NZ (by k_extra "m_sub")) hi' hx' hz' (fdiv_nn hq' hm.1)
end
theorem off_P1 : True := by
  k_with "off P1" => (skip)
  exact trivial
end
section
theorem reset_P2 : True := by
  w_top off
  exact trivial
theorem item_at_K {kk : Nat} {prog : Program} {w : World} {A : Around} {E : Value → Shared → Prop} {s : Shared} {h₀ : Heap} {L l : Addr} {news : List (Addr × Obj)} {Q : Value → Shared → Prop} {vs : List Value} {j : Int} {v : Value} {value slice : PySem.Expr} {u : Tok} (N : News h₀ L s.heap news) (ma : (l, lsO vs kk) ∈ news) (h0 : 0 ≤ j) (h1 : j < 1000000) (hv : vs[j.toNat]? = some v) (h : Q v s)
    (hs : subscripted slice false (.ref l) (.int j u) = operate [.ref l, .int j u] (getItem (.ref l) (.int j u)) := by with_unfolding_all rfl) :
    wpAny (model prog w) A (subscriptTail value slice (.ref l) (.int j u)) Q E s :=
  have hl : s.heap.IsList l vs.toArray := ⟨_, (N _ ma).1, rfl, _, rfl⟩
  tail_any hl.typeIs slot_list_getitem.lookup (wpAny_getItem_list hl h0 (by (k_extra "m_om")) (by simpa using hv) h) hs
theorem pick_int {us : List Value} {ns : List Int} {j : Nat} {v : Value} (h : us[j]? = some v) (hi : IntsAre us ns) : ∃ x t, v = .int x t ∧ x ∈ ns := by
  refine (let Gz : Prop := _; (?_ : Gz))
  (refine ex2 (ints_at hi h) fun x t hAz220 => ?_; refine and2 (hAz220) fun hx e => ?_; clear hAz220)
  k_unfold; clear Gz
  exact ⟨x, t, e, List.mem_of_getElem? hx⟩
theorem pick_byt {us : List Value} {bs : List (Array UInt8)} {j k : Nat} {v : Value} (h : us[j]? = some v) (hi : BytsAre us bs) (hs : (bs.all fun b => b.size == k) = true) : ∃ b t, v = .bytes b t ∧ b.size = k := by
  refine (let Gz : Prop := _; (?_ : Gz))
  (refine ex2 (hi.get h) fun b t hAz221 => ?_; refine and2 (hAz221) fun hb e => ?_; clear hAz221)
  k_unfold; clear Gz
  exact ⟨b, t, e, by simpa using List.all_eq_true.mp hs b (List.mem_of_getElem? hb)⟩
theorem News.ls {h₀ h : Heap} {L l : Addr} {news : List (Addr × Obj)} {vs : List Value} {k : Nat} (N : News h₀ L h news) (ma : (l, lsO vs k) ∈ news) : h.IsList l vs.toArray := ⟨_, (N _ ma).1, rfl, _, rfl⟩
theorem len_V {prog : Program} {w : World} {A : Around} {E : Value → Shared → Prop} {s : Shared} {l : Addr} {vs : List Value} {Q : Value → Shared → Prop} (hl : s.heap.IsList l vs.toArray) (hz : vs.length ≤ 1000000) (h : Q (.int vs.length (s.toks + 1)) { s with toks := s.toks + 1 + 1 }) : wpAny (model prog w) A (call (.builtin "len") [.ref l]) Q E s := by
  refine call_len_list hl (by rw [List.size_toArray]; (k_extra "m_om")) ?_
  rw [List.size_toArray]; exact h
section
variable {w : World} {dp un : Nat} {gd : Option (List Code)} {cn : Str} {cs : Scope} {a : Addr} {ccd : Value} {cl : List (Str × Addr)} {outer : List Env} {A₀ : Around} {base h₀ : Heap} {L : Addr} {m : Str → Option Value} {s : Shared} {Q E : Value → Shared → Prop} {p : Program} {loose : List Str} {mean : ExcName → Option Value} {mg mb : Str → Option Value} {rest : List (Addr × Obj)} {pn pl : Addr} {vs : List Value} {xs : List Int} {k : Nat} {n q : Int} {tn tq : Tok}
section
variable (B : Below A₀ base outer h₀) (F : Fr h₀ L s.heap m) (X : (hd.heap_39 w.params).In h₀) (N : News h₀ L s.heap ((pn, penO pl n tn q tq) :: (pl, lsO vs k) :: rest)) (T : Top p loose mean mg mb h₀) (hk : cs.kind = .function)
include B F X N T hk
theorem lines_P21 : True := by
  k_with "call ref" => (first | ((fail_if_success (k_extra "off P2")); (k_here; (with_reducible show wpAny _ _ (call (Value.ref 375) _) _ _ _); k_dflt (refine' draw_spec ?k1 ?k2 ?k3 ?k4 ?k5 ?kK ?kd ?ku ?kI ?kx ?kz ?kn ?kq ?kP ?kr1 ?kr2 _ _ ?km ?_; (case k1 => k_asm); (case k2 => k_asm); (case k3 => k_asm); (case k4 => k_extra "m_pen"); (case k5 => k_asm); (case kK => first | exact rfl | assumption); (case kd => first | exact room_n (by with_reducible assumption) (by decide) | ktr_room); (case ku => first | exact room_n (by with_reducible assumption) (by decide) | ktr_units); (case kI => assumption); (case kx => assumption); (case kz => assumption); (case kn => (k_extra "m_om")); (case kq => assumption); (case kP => assumption); (case kr1 => k_extra "m_off"); (case kr2 => k_extra "m_off"); (case km => first | decide | (k_extra "m_om")); (intro dw hd0 hd1 h' tk' tdw vs' xs' k' q' tn' tq' F' N' hi' hx' hz' hq'; (try k_sweep))))) | fail)
  k_with "subscriptTail" => (first | ((fail_if_success (k_extra "off P2")); (k_here; (with_reducible show wpAny _ _ (subscriptTail _ _ (Value.ref _) (Value.int _ _)) _ _ _); refine of_stop ?_)) | fail)
  k_with "call builtin:len" => (first | ((fail_if_success (k_extra "off P2")); (k_here; k_dflt (refine' len_V ?zma ?zmz ?_; (case zma => exact News.ls (by k_asm) (by k_mem)); (case zmz => (k_extra "m_om"))))) | fail)
  exact trivial
set_option maxHeartbeats 1000000 in
theorem pick_spec (hd : dp + 15 < recursionLimit) (hu : un + 110 < cLine) (hi : IntsAre vs xs) (hx : ∀ x ∈ xs, 0 ≤ x) (hz : vs.length ≤ 63) (hn : 0 ≤ n ∧ n < 90000) (hq : 0 ≤ q) (hpp : @Ne Nat pn pl) (hr1 : ∀ p ∈ rest, p.1 ≠ pn) (hr2 : ∀ p ∈ rest, p.1 ≠ pl)
    (sl : Addr) (us : List Value) (kk : Nat) (hs : (sl, lsO us kk) ∈ rest) (hu0 : 0 < us.length ∧ us.length < 1000)
    (hok : ∀ (j : Nat) (v : Value), us[j]? = some v → ∀ h' tk' vs' xs' k' q' tn' tq', Fr h₀ L h' m → News h₀ L h' ((pn, penO pl (n + 1) tn' q' tq') :: (pl, lsO vs' k') :: rest) → IntsAre vs' xs' → (∀ x ∈ xs', 0 ≤ x) → vs'.length ≤ 63 → 0 ≤ q' → Q v { s with heap := h', toks := tk' }) :
    Cl w dp un gd cn cs L a ccd cl outer 382 [.ref pn, .ref sl] Q E s := by
  k_dflt (refine' enter [("pen", .ref pn), ("some", .ref sl)] B F X N T hk ?k6 ?k7 ?k8 ?k9 ?kB ?c2 ?c3 ?c4 ?c5 ?_; k_extra "m_sides")
  intro g L' h₁ E' FG F' N' B' X' T' hP hE
  try dsimp only
  try k_fold
  refine foldAV ?_; intro Mz Az vz gz dz oz
  k_extra "m_steps"
  refine item_at_K (vs := us) (v := us[dw.toNat]'(by (k_extra "m_om"))) (by assumption) (by k_mem) (by assumption) (by (k_extra "m_om")) (by rw [List.getElem?_eq_getElem]) ?_
  k_extra "m_steps"
  rename Fr h₀ L _ _ => FZ
  rename News h₀ L _ _ => NZ
  exact hok dw.toNat _ (by rw [List.getElem?_eq_getElem]) _ _ vs' xs' k' q' _ _ FZ NZ (by assumption) (by assumption) (by assumption) (by assumption)
end
section
variable {news : List (Addr × Obj)}
variable (B : Below A₀ base outer h₀) (F : Fr h₀ L s.heap m) (X : (hd.heap_39 w.params).In h₀) (N : News h₀ L s.heap news) (T : Top p loose mean mg mb h₀) (hk : cs.kind = .function)
include B F X N T hk
theorem lines_P22 : True := by
  k_with "getMethod bytes" => (first | ((fail_if_success (k_extra "off P2")); (k_here; (with_reducible show wpAny _ _ (getMethod (Value.bytes _ _) (PySem.Str.ofString "join") _) _ _ _); (with_reducible refine KBd.method_of _ (typeIs_bytes _ _ _) slot_bytes_join type_bytes_join KBd.noRef ?_))) | fail)
  k_with "call type:bytes" => (first | ((fail_if_success (k_extra "off P2")); k_extra "m_stop") | fail)
  exact trivial
set_option maxHeartbeats 1000000 in
theorem row_spec (hd : dp + 10 < recursionLimit) (hu : un + 100 < cLine) (nl : Addr) (us : List Value) (kk : Nat) (ns : List Int) (hs : (nl, lsO us kk) ∈ news) (hi : IntsAre us ns) (hb : ∀ x ∈ ns, 0 ≤ x ∧ x < 65536) (hz : ns.length ≤ 1000)
    (hok : ∀ b t h' tk', b.size = 2 * ns.length → Fr h₀ L h' m → News h₀ L h' news → Q (.bytes b t) { s with heap := h', toks := tk' }) :
    Cl w dp un gd cn cs L a ccd cl outer 387 [.ref nl] Q E s := by
  k_dflt (refine' enter [("numbers", .ref nl)] B F X N T hk ?k6 ?k7 ?k8 ?k9 ?kB ?c2 ?c3 ?c4 ?c5 ?_; k_extra "m_sides")
  intro g L' h₁ E' FG F' N' B' X' T' hP hE
  try dsimp only
  try k_fold
  refine foldAV ?_; intro Mz Az vz gz dz oz
  k_extra "m_steps"
  rename Fr g L' _ _ => F9
  rename News g L' _ _ => N9
  refine at_list1 (kp := []) (its := us.toArray) (fun _ => False) (fun j ys nw => nw = news ∧ ∃ bs, BytsAre ys bs ∧ bs.length = j ∧ tot bs = 2 * j)
    B' F9 N9 rfl rfl rfl ?_ ?_ (by decide) rfl rfl ?_ ?_ ⟨rfl, [], .nil, rfl, rfl⟩ ?_ ?_ ?_
  · rw [List.size_toArray, hi.length, sizeLine_eq]; (k_extra "m_om")
  · intro j ys nw hJz3
    refine (let Gz : Prop := _; (?_ : Gz))
    obtain ⟨rfl, _⟩ := hJz3
    k_unfold; clear Gz
    exact .inr ⟨_, hs, rfl, _, rfl⟩
  · intro _ _ _ _ _ hp; cases hp
  · intro _ hp; cases hp
  · intro _ hz; exact hz.elim
  · intro j v ys nw I oI C oC D' m₂ h tk hv hJz4
    refine (let Gz : Prop := _; (?_ : Gz))
    obtain ⟨rfl, bs, hys, hbl, htt⟩ := hJz4
    k_unfold; clear Gz
    intro hoC hx1 F1 N1 O3 hne hkk
    refine (let Gz : Prop := _; (?_ : Gz))
    (refine ex2 (ints_at hi (by simpa using hv)) fun x tx hAz223 => ?_; refine and2 (hAz223) fun hx hEz223_3 => ?_; clear hAz223; subst hEz223_3)
    k_unfold; clear Gz
    have hxb := hb x (List.mem_of_getElem? hx)
    have e1 : x.fdiv 256 = x / 256 := Int.fdiv_eq_ediv_of_nonneg _ (by decide)
    have e2 : x.fmod 256 = x % 256 := Int.fmod_eq_emod_of_nonneg _ (by decide)
    k_extra "m_steps"
    refine bytes_K (vs := [_, _]) (ns := [x.fdiv 256, x.fmod 256]) (by assumption) (by assumption) (News.ls (vs := [_, _]) (by assumption) (.head _)) (.cons _ _ (.cons _ _ .nil)) ?_ (by rw [sizeLine_eq]; exact Nat.le_of_ble_eq_true rfl) rfl ?_
    · intro z hz
      rcases List.mem_cons.mp hz with rfl | hz
      · (k_extra "m_om")
      · rw [List.mem_singleton.mp hz]; (k_extra "m_om")
    intro h' t' k' F2 N2 _
    k_extra "m_steps"
    refine LCg.CompEnd.intro F2 N2 nw (by k_extra "m_sub") O3 trivial ⟨rfl, bs ++ [_], hys.append (.cons _ _ .nil), by rw [List.length_append, hbl]; rfl, ?_⟩
    unfold tot at htt ⊢
    rw [List.map_append, List.sum_append, htt]
    simp
    (k_extra "m_om")
  · refine fin_none ?_
    intro D' h tk ys nw F1 N1 hno hJz6
    refine (let Gz : Prop := _; (?_ : Gz))
    obtain ⟨rfl, bs, hys, hbl, htt⟩ := hJz6
    k_unfold; clear Gz
    k_extra "m_steps"
    have htt2 : tot bs = 2 * ns.length := by rw [htt, List.size_toArray, hi.length]
    refine join_bytes (vs := ys) (N1 _ (.head _)).1 hys (by (k_extra "m_om")) fun r t' k' hr => ?_
    k_extra "m_steps"
    exact hok r _ _ _ (by (k_extra "m_om")) (by assumption) (News.sub (by assumption) (by k_extra "m_sub"))
end
end
theorem off_P2 : True := by
  k_with "off P2" => (skip)
  exact trivial
end
section
theorem reset_P3 : True := by
  w_top off
  exact trivial
theorem add_size {prog : Program} {w : World} {A : Around} {E : Value → Shared → Prop} {s : Shared} {b c : Array UInt8} {t u : Tok} {Q : Value → Shared → Prop} (hz : b.size + c.size ≤ 100000) (h : ∀ r t' k, r.size = b.size + c.size → Q (.bytes r t') { s with toks := k }) : wpAny (model prog w) A (binaryOp .Add (.bytes b t) (.bytes c u)) Q E s :=
  KBy.add_bytes (by (k_extra "m_om")) fun t' k => h _ t' k Array.size_append
theorem len_B {prog : Program} {w : World} {A : Around} {E : Value → Shared → Prop} {s : Shared} {b : Array UInt8} {t : Tok} {Q : Value → Shared → Prop} (hz : b.size ≤ 100000) (h : ∀ t' k, Q (.int b.size t') { s with toks := k }) : wpAny (model prog w) A (call (.builtin "len") [.bytes b t]) Q E s := by
  refine KBw.len_K (ks := KBw.bInts b) rfl ?_ ?_
  · rw [KBw.ints_length]; (k_extra "m_om")
  · rw [KBw.ints_length]; exact h _ _
theorem map_top {f : Str → Option Value} {k : Str} {v : Value} (h : f k = some v) : f = fun y => if y = k then some v else f y := by
  funext y
  by_cases e : y = k
  · rw [if_pos e, e, h]
  · rw [if_neg e]
theorem Fr.top {h₀ h : Heap} {L : Addr} {f : Str → Option Value} (F : Fr h₀ L h f) {k : Str} {v : Value} (hk : f k = some v) : Fr h₀ L h (fun y => if y = k then some v else f y) := map_top hk ▸ F
theorem tot_take {bs : List (Array UInt8)} {i : Nat} {b : Array UInt8} (h : bs[i]? = some b) : tot (bs.take (i + 1)) = tot (bs.take i) + b.size := by
  unfold tot
  rw [take_snoc h, List.map_append, List.sum_append]
  simp
theorem tot_le (bs : List (Array UInt8)) (i : Nat) : tot (bs.take i) ≤ tot bs := by
  have := List.take_append_drop i bs
  unfold tot
  conv => rhs; rw [← this]
  rw [List.map_append, List.sum_append]
  (k_extra "m_om")
theorem lines_P31 : True := by
  k_with "binaryOp Add bytes bytes" => (first | ((fail_if_success (k_extra "off P3")); (k_here; (with_reducible refine add_size ?zz ?_); (case zz => (try simp only [List.size_toArray, List.length_cons, List.length_nil]); (k_extra "m_om")); intro brz btz bkz hbrz; (try simp only [List.size_toArray, List.length_cons, List.length_nil] at hbrz))) | fail)
  k_with "call builtin:len" => (first | ((fail_if_success (k_extra "off P3")); (k_here; (with_reducible show wpAny _ _ (call (Value.builtin _) [Value.bytes _ _]) _ _ _); (with_reducible refine len_B ?zz ?_); (case zz => (try simp only [List.size_toArray, List.length_cons, List.length_nil]); (k_extra "m_om")); intro btz bkz; (try simp only [List.size_toArray, List.length_cons, List.length_nil]))) | fail)
  k_with "call builtin:len" => (first | ((fail_if_success (k_extra "off P3")); (k_here; (with_reducible show wpAny _ _ (call (Value.builtin _) [Value.ref _]) _ _ _); k_dflt (refine' len_V ?zma ?zmz ?_; (case zma => exact News.ls (by k_asm) (by k_mem)); (case zmz => first | decide | (k_extra "m_om"))); (try simp only [List.length_cons, List.length_nil]))) | fail)
  k_with "call type:zip" => (first | ((fail_if_success (k_extra "off P3")); k_extra "m_stop") | fail)
  exact trivial
section
variable {w : World} {dp un : Nat} {gd : Option (List Code)} {cn : Str} {cs : Scope} {a : Addr} {ccd : Value} {cl : List (Str × Addr)} {outer : List Env} {A₀ : Around} {base h₀ : Heap} {L : Addr} {m : Str → Option Value} {s : Shared} {Q E : Value → Shared → Prop} {p : Program} {loose : List Str} {mean : ExcName → Option Value} {mg mb : Str → Option Value} {news : List (Addr × Obj)}
variable (B : Below A₀ base outer h₀) (F : Fr h₀ L s.heap m) (X : (hd.heap_39 w.params).In h₀) (N : News h₀ L s.heap news) (T : Top p loose mean mg mb h₀) (hk : cs.kind = .function)
include B F X N T hk
theorem lines_P32 : True := by
  k_with "call ref" => (first | ((fail_if_success (k_extra "off P3")); (k_here; (with_reducible show wpAny _ _ (call (Value.ref 387) _) _ _ _); k_dflt (refine' row_spec ?k1 ?k2 ?k3 ?k4 ?k5 ?kK ?kd ?ku _ _ _ _ ?ks ?kI ?kx ?kz ?_; (case k1 => k_asm); (case k2 => k_asm); (case k3 => k_asm); (case k4 => k_extra "m_news"); (case k5 => k_asm); (case kK => first | exact rfl | assumption); (case kd => first | exact room_n (by with_reducible assumption) (by decide) | ktr_room); (case ku => first | exact room_n (by with_reducible assumption) (by decide) | ktr_units); (case ks => k_extra "m_in"); (case kI => k_extra "m_intsare"); (case kx => k_extra "m_ints"); (case kz => first | assumption | decide | (k_extra "m_om") | (simp only [List.length_append, List.length_cons, List.length_nil]; (k_extra "m_om"))); (intro rb rt h' tk' hrb F' N'; (try simp only [List.length_append, List.length_cons, List.length_nil] at hrb); (try k_sweep))))) | fail)
  exact trivial
set_option maxHeartbeats 4000000 in
theorem listed_spec (hd : dp + 15 < recursionLimit) (hu : un + 110 < cLine) (lead : Array UInt8) (tl : Tok) (tg pt : Addr) (ts ps : List Value) (k1 k2 : Nat) (tb : List (Array UInt8)) (pb : List (Array UInt8)) (h1 : (tg, lsO ts k1) ∈ news) (h2 : (pt, lsO ps k2) ∈ news) (hb1 : BytsAre ts tb) (hb2 : BytsAre ps pb) (hl : tb.length = pb.length) (h3 : tb.length ≤ 3) (h4 : ∀ b ∈ tb, b.size = 4) (hz : tot pb ≤ 1000) (hlz : lead.size ≤ 10)
    (hok : ∀ b t h' tk', b.size = lead.size + 2 + 6 * tb.length + tot pb → Fr h₀ L h' m → News h₀ L h' news → Q (.bytes b t) { s with heap := h', toks := tk' }) :
    Cl w dp un gd cn cs L a ccd cl outer 394 [.bytes lead tl, .ref tg, .ref pt] Q E s := by
  have N0 := News.sub (news' := (tg, lsO ts k1) :: (pt, lsO ps k2) :: news) N ((fmc (h1) ((fmc (h2) (fun _ h => h)))))
  have htl := hb1.length
  have hpl := hb2.length
  k_dflt (refine' enter [("lead", .bytes lead tl), ("tags", .ref tg), ("parts", .ref pt)] B F X N0 T hk ?k6 ?k7 ?k8 ?k9 ?kB ?c2 ?c3 ?c4 ?c5 ?_; k_extra "m_sides")
  intro g L' h₁ E' FG F' N' B' X' T' hP hE
  try dsimp only
  try k_fold
  refine foldAV ?_; intro Mz Az vz gz dz oz
  k_extra "m_steps"
  rename Fr g L' _ _ => F5
  rename News g L' _ _ => N5
  refine zip_for2 [Str.ofString "tag", Str.ofString "part", Str.ofString "row", Str.ofString "behind"] (fun i m₁ => ∃ r t1 bh t2, m₁ (Str.ofString "row") = some (.bytes r t1) ∧ m₁ (Str.ofString "behind") = some (.bytes bh t2) ∧ r.size = lead.size + 2 + 6 * i ∧ bh.size = tot (pb.take i))
    rfl F5 N5 rfl rfl rfl hP (by k_extra "m_in") (by k_extra "m_in") (by (k_extra "m_om")) (xi4 _ _ _ _ ⟨rfl, rfl, by (k_extra "m_om"), rfl⟩) ?_ ?_
  · intro i v₁ v₂ m₁ h tk own hv1 hv2 hJz1
    refine (let Gz : Prop := _; (?_ : Gz))
    (refine ex4 (hJz1) fun r t1 bh t2 hAz225 => ?_; clear hJz1; refine and4 (hAz225) fun hr hbh hrz hbz => ?_; clear hAz225)
    k_unfold; clear Gz
    intro hS F1 N1
    refine (let Gz : Prop := _; (?_ : Gz))
    (refine ex2 (hb1.get hv1) fun c1 u1 hAz226 => ?_; refine and2 (hAz226) fun hc1 hEz226_3 => ?_; clear hAz226; subst hEz226_3)
    k_unfold; clear Gz
    refine (let Gz : Prop := _; (?_ : Gz))
    (refine ex2 (hb2.get hv2) fun c2 u2 hAz227 => ?_; refine and2 (hAz227) fun hc2 hEz227_3 => ?_; clear hAz227; subst hEz227_3)
    k_unfold; clear Gz
    have hcz := h4 c1 (List.mem_of_getElem? hc1)
    have hil : i < 3 := by
      have := (List.getElem?_eq_some_iff.mp hc1).1
      (k_extra "m_om")
    have ht1 := tot_take hc2
    have ht2 := tot_le pb (i + 1)
    have F2 := Fr.top (k := Str.ofString "behind") (v := .bytes bh t2) (Fr.top F1 (k := Str.ofString "row") (v := .bytes r t1) (by (try dsimp only); rw [if_neg (by decide +kernel), if_neg (by decide +kernel), if_pos (by decide +kernel)]; exact hr)) (by (try dsimp only); rw [if_neg (by decide +kernel), if_neg (by decide +kernel), if_neg (by decide +kernel), if_pos (by decide +kernel)]; exact hbh)
    clear F1 F5 N5
    k_extra "m_steps"
    refine ⟨rfl, _, _, _, rfl, by assumption, News.sub (by assumption) (by k_extra "m_sub"), by k_extra "m_same", (xi4 _ _ _ _ ⟨rfl, rfl, by (k_extra "m_om"), by (k_extra "m_om")⟩)⟩
  · intro m' h' tk hJz4
    refine (let Gz : Prop := _; (?_ : Gz))
    (refine ex4 (hJz4) fun r t1 bh t2 hAz228 => ?_; clear hJz4; refine and4 (hAz228) fun hr hbh hrz hbz => ?_; clear hAz228)
    k_unfold; clear Gz
    intro hS F1 N1
    have F2 := Fr.top (k := Str.ofString "behind") (v := .bytes bh t2) (Fr.top F1 (k := Str.ofString "row") (v := .bytes r t1) (by (try dsimp only); rw [if_pos (by decide +kernel)]; exact hr)) (by (try dsimp only); rw [if_neg (by decide +kernel), if_pos (by decide +kernel)]; exact hbh)
    clear F1 F5 N5
    have hbt : tot (pb.take ts.length) = tot pb := by rw [List.take_of_length_le (by (k_extra "m_om"))]
    k_extra "m_steps"
    rename News h₀ L _ _ => NZ
    exact hok _ _ _ _ (by (k_extra "m_om")) (by assumption) (News.sub NZ (by k_extra "m_sub"))
end
theorem off_P3 : True := by
  k_with "off P3" => (skip)
  exact trivial
end
section
theorem reset_P4 : True := by
  w_top off
  exact trivial
theorem lines_P41 : True := by
  k_with "binaryOp Add bytes bytes" => (first | ((fail_if_success (k_extra "off P4")); (k_here; (with_reducible refine add_size ?zz ?_); (case zz => (try simp only [List.size_toArray, List.length_cons, List.length_nil]); (k_extra "m_om")); intro brz btz bkz hbrz; (try simp only [List.size_toArray, List.length_cons, List.length_nil] at hbrz))) | fail)
  k_with "call builtin:len" => (first | ((fail_if_success (k_extra "off P4")); (k_here; (with_reducible show wpAny _ _ (call (Value.builtin _) [Value.bytes _ _]) _ _ _); (with_reducible refine len_B ?zz ?_); (case zz => (try simp only [List.size_toArray, List.length_cons, List.length_nil]); (k_extra "m_om")); intro btz bkz; (try simp only [List.size_toArray, List.length_cons, List.length_nil]))) | fail)
  k_with "call builtin:len" => (first | ((fail_if_success (k_extra "off P4")); (k_here; (with_reducible show wpAny _ _ (call (Value.builtin _) [Value.ref _]) _ _ _); k_dflt (refine' len_V ?zma ?zmz ?_; (case zma => exact News.ls (by k_asm) (by k_mem)); (case zmz => first | decide | (k_extra "m_om"))); (try simp only [List.length_cons, List.length_nil]))) | fail)
  k_with "subscriptTail Name Slice ref ref" => (first | ((fail_if_success (k_extra "off P4")); (k_here; (with_reducible show wpAny _ _ (subscriptTail _ (PySem.Expr.Slice _ _ none _) (Value.ref _) (Value.ref _)) _ _ _); k_dflt (refine' slice_byts ?sbF ?sbN ?sbl ?sbb ?sb0 ?sbp ?sbq ?_ ?sbs ?sbt ?sbz; (case sbF => k_asm); (case sbN => k_asm); (case sbl => exact News.ls (by k_asm) (by k_mem)); (case sbb => k_extra "m_byts"); (case sbp => exact IsPart.int _ _); (case sb0 => assumption); (case sbq => exact IsPart.none); (case sbs => with_unfolding_all rfl); (case sbt => kmk_pure); (case sbz => exact Nat.le_of_ble_eq_true rfl)); intro dl ws h' F' N' ldl hws; have ldlx := ldl; (try k_lt ldl); (try k_sweep))) | fail)
  k_with "subscriptTail Name Slice bytes ref" => (first | ((fail_if_success (k_extra "off P4")); (k_here; (with_reducible show wpAny _ _ (subscriptTail _ (PySem.Expr.Slice _ _ none _) (Value.bytes _ _) (Value.ref _)) _ _ _); k_dflt (refine' cut_B ?sbF ?sbN ?sbp ?sbq ?sbz ?_ ?sbs ?sbt; (case sbF => k_asm); (case sbN => k_asm); (case sbp => kmk_part); (case sbq => kmk_part); (case sbz => (k_extra "m_om")); (case sbs => with_unfolding_all rfl); (case sbt => kmk_pure)); intro cr h' ct ck hcr F' N'; (try k_sweep))) | fail)
  exact trivial
section
variable {w : World} {dp un : Nat} {gd : Option (List Code)} {cn : Str} {cs : Scope} {a : Addr} {ccd : Value} {cl : List (Str × Addr)} {outer : List Env} {A₀ : Around} {base h₀ : Heap} {L : Addr} {m : Str → Option Value} {s : Shared} {Q E : Value → Shared → Prop} {p : Program} {loose : List Str} {mean : ExcName → Option Value} {mg mb : Str → Option Value} {rest : List (Addr × Obj)} {pn pl : Addr} {vs : List Value} {xs : List Int} {k : Nat} {n q : Int} {tn tq : Tok}
variable (B : Below A₀ base outer h₀) (F : Fr h₀ L s.heap m) (X : (hd.heap_39 w.params).In h₀) (N : News h₀ L s.heap ((pn, penO pl n tn q tq) :: (pl, lsO vs k) :: rest)) (T : Top p loose mean mg mb h₀) (hk : cs.kind = .function)
include B F X N T hk
theorem lines_P42 : True := by
  k_with "call ref" => (first | ((fail_if_success (k_extra "off P4")); (k_here; (with_reducible show wpAny _ _ (call (Value.ref 375) _) _ _ _); k_dflt (refine' draw_spec ?k1 ?k2 ?k3 ?k4 ?k5 ?kK ?kd ?ku ?kI ?kx ?kz ?kn ?kq ?kP ?kr1 ?kr2 _ _ ?km ?_; (case k1 => k_asm); (case k2 => k_asm); (case k3 => k_asm); (case k4 => k_extra "m_pen"); (case k5 => k_asm); (case kK => first | exact rfl | assumption); (case kd => first | exact room_n (by with_reducible assumption) (by decide) | ktr_room); (case ku => first | exact room_n (by with_reducible assumption) (by decide) | ktr_units); (case kI => assumption); (case kx => assumption); (case kz => assumption); (case kn => (k_extra "m_om")); (case kq => assumption); (case kP => assumption); (case kr1 => k_extra "m_off"); (case kr2 => k_extra "m_off"); (case km => first | decide | (k_extra "m_om")); (intro dw hd0 hd1 h' tk' tdw vs' xs' k' q' tn' tq' F' N' hi' hx' hz' hq'; (try k_sweep))))) | fail)
  k_with "call ref" => (first | ((fail_if_success (k_extra "off P4")); (k_here; (with_reducible show wpAny _ _ (call (Value.ref 382) _) _ _ _); k_dflt (refine' pick_spec ?k1 ?k2 ?k3 ?k4 ?k5 ?kK ?kd ?ku ?kI ?kx ?kz ?kn ?kq ?kP ?kr1 ?kr2 _ _ _ ?km ?ku0 ?_; (case k1 => k_asm); (case k2 => k_asm); (case k3 => k_asm); (case k4 => k_extra "m_pen"); (case k5 => k_asm); (case kK => first | exact rfl | assumption); (case kd => first | exact room_n (by with_reducible assumption) (by decide) | ktr_room); (case ku => first | exact room_n (by with_reducible assumption) (by decide) | ktr_units); (case kI => assumption); (case kx => assumption); (case kz => assumption); (case kn => (k_extra "m_om")); (case kq => assumption); (case kP => assumption); (case kr1 => k_extra "m_off"); (case kr2 => k_extra "m_off"); (case km => k_extra "m_in"); (case ku0 => (simp only [List.length_cons, List.length_nil]; decide)); (intro pj pv hpj h' tk' vs' xs' k' q' tn' tq' F' N' hi' hx' hz' hq'; (first | (obtain ⟨px, ptx, epx, hpx⟩ := pick_int hpj (by k_extra "m_intsare"); subst epx; simp only [List.mem_cons, List.not_mem_nil, or_false] at hpx) | (obtain ⟨pbx, ptx, epx, hpx⟩ := pick_byt (k := 2) hpj (by k_extra "m_byts") (by decide); subst epx)); (try k_sweep))))) | fail)
  k_with "call ref" => (first | ((fail_if_success (k_extra "off P4")); (k_here; (with_reducible show wpAny _ _ (call (Value.ref 387) _) _ _ _); k_dflt (refine' row_spec ?k1 ?k2 ?k3 ?k4 ?k5 ?kK ?kd ?ku _ _ _ _ ?ks ?kI ?kx ?kz ?_; (case k1 => k_asm); (case k2 => k_asm); (case k3 => k_asm); (case k4 => k_extra "m_news"); (case k5 => k_asm); (case kK => first | exact rfl | assumption); (case kd => first | exact room_n (by with_reducible assumption) (by decide) | ktr_room); (case ku => first | exact room_n (by with_reducible assumption) (by decide) | ktr_units); (case ks => k_extra "m_in"); (case kI => k_extra "m_intsare"); (case kx => k_extra "m_ints"); (case kz => first | assumption | decide | (k_extra "m_om") | (simp only [List.length_append, List.length_cons, List.length_nil]; (k_extra "m_om"))); (intro rb rt h' tk' hrb F' N'; (try simp only [List.length_append, List.length_cons, List.length_nil] at hrb); (try k_sweep))))) | fail)
  exact trivial
set_option maxHeartbeats 2000000 in
theorem lsys_b (hd : dp + 25 < recursionLimit) (hu : un + 150 < cLine) (hi : IntsAre vs xs) (hx : ∀ x ∈ xs, 0 ≤ x) (hz : vs.length ≤ 63) (hn : 0 ≤ n ∧ n < 80000) (hq : 0 ≤ q) (hpp : @Ne Nat pn pl) (hr1 : ∀ p ∈ rest, p.1 ≠ pn) (hr2 : ∀ p ∈ rest, p.1 ≠ pl)
    (hok : ∀ b t h' tk' vs' xs' k' q' tn' tq', b.size = 10 → Fr h₀ L h' m → News h₀ L h' ((pn, penO pl (n + 2) tn' q' tq') :: (pl, lsO vs' k') :: rest) → IntsAre vs' xs' → (∀ x ∈ xs', 0 ≤ x) → vs'.length ≤ 63 → 0 ≤ q' → Q (.bytes b t) { s with heap := h', toks := tk' }) :
    Cl w dp un gd cn cs L a ccd cl outer 401 [.ref pn] Q E s := by
  k_dflt (refine' enter [("pen", .ref pn)] B F X N T hk ?k6 ?k7 ?k8 ?k9 ?kB ?c2 ?c3 ?c4 ?c5 ?_; k_extra "m_sides")
  intro g L' h₁ E' FG F' N' B' X' T' hP hE
  try dsimp only
  try k_fold
  refine foldAV ?_; intro Mz Az vz gz dz oz
  k_extra "m_steps"
  rename Fr h₀ L _ _ => FZ
  rename News h₀ L _ _ => NZ
  have e : n + 1 + 1 = n + 2 := by (k_extra "m_om")
  rw [e] at NZ
  exact hok _ _ _ _ vs' xs' k' q' _ _ (by (k_extra "m_om")) FZ (News.sub NZ (by k_extra "m_sub")) (by assumption) (by assumption) (by assumption) (by assumption)
end
theorem off_P4 : True := by
  k_with "off P4" => (skip)
  exact trivial
end
section
theorem reset_P5 : True := by
  w_top off
  exact trivial
theorem lines_P51 : True := by
  k_with "binaryOp Add bytes bytes" => (first | ((fail_if_success (k_extra "off P5")); (k_here; (with_reducible refine add_size ?zz ?_); (case zz => (try simp only [List.size_toArray, List.length_cons, List.length_nil]); (k_extra "m_om")); intro brz btz bkz hbrz; (try simp only [List.size_toArray, List.length_cons, List.length_nil] at hbrz))) | fail)
  k_with "call builtin:len" => (first | ((fail_if_success (k_extra "off P5")); (k_here; (with_reducible show wpAny _ _ (call (Value.builtin _) [Value.bytes _ _]) _ _ _); (with_reducible refine len_B ?zz ?_); (case zz => (try simp only [List.size_toArray, List.length_cons, List.length_nil]); (k_extra "m_om")); intro btz bkz; (try simp only [List.size_toArray, List.length_cons, List.length_nil]))) | fail)
  k_with "call builtin:len" => (first | ((fail_if_success (k_extra "off P5")); (k_here; (with_reducible show wpAny _ _ (call (Value.builtin _) [Value.ref _]) _ _ _); k_dflt (refine' len_V ?zma ?zmz ?_; (case zma => exact News.ls (by k_asm) (by k_mem)); (case zmz => first | decide | (k_extra "m_om"))); (try simp only [List.length_cons, List.length_nil]))) | fail)
  k_with "subscriptTail Name Slice ref ref" => (first | ((fail_if_success (k_extra "off P5")); (k_here; (with_reducible show wpAny _ _ (subscriptTail _ (PySem.Expr.Slice _ _ none _) (Value.ref _) (Value.ref _)) _ _ _); k_dflt (refine' slice_byts ?sbF ?sbN ?sbl ?sbb ?sb0 ?sbp ?sbq ?_ ?sbs ?sbt ?sbz; (case sbF => k_asm); (case sbN => k_asm); (case sbl => exact News.ls (by k_asm) (by k_mem)); (case sbb => k_extra "m_byts"); (case sbp => exact IsPart.int _ _); (case sb0 => assumption); (case sbq => exact IsPart.none); (case sbs => with_unfolding_all rfl); (case sbt => kmk_pure); (case sbz => exact Nat.le_of_ble_eq_true rfl)); intro dl ws h' F' N' ldl hws; have ldlx := ldl; (try k_lt ldl); (try k_sweep))) | fail)
  k_with "subscriptTail Name Slice bytes ref" => (first | ((fail_if_success (k_extra "off P5")); (k_here; (with_reducible show wpAny _ _ (subscriptTail _ (PySem.Expr.Slice _ _ none _) (Value.bytes _ _) (Value.ref _)) _ _ _); k_dflt (refine' cut_B ?sbF ?sbN ?sbp ?sbq ?sbz ?_ ?sbs ?sbt; (case sbF => k_asm); (case sbN => k_asm); (case sbp => kmk_part); (case sbq => kmk_part); (case sbz => (k_extra "m_om")); (case sbs => with_unfolding_all rfl); (case sbt => kmk_pure)); intro cr h' ct ck hcr F' N'; (try k_sweep))) | fail)
  exact trivial
section
variable {w : World} {dp un : Nat} {gd : Option (List Code)} {cn : Str} {cs : Scope} {a : Addr} {ccd : Value} {cl : List (Str × Addr)} {outer : List Env} {A₀ : Around} {base h₀ : Heap} {L : Addr} {m : Str → Option Value} {s : Shared} {Q E : Value → Shared → Prop} {p : Program} {loose : List Str} {mean : ExcName → Option Value} {mg mb : Str → Option Value} {rest : List (Addr × Obj)} {pn pl : Addr} {vs : List Value} {xs : List Int} {k : Nat} {n q : Int} {tn tq : Tok}
variable (B : Below A₀ base outer h₀) (F : Fr h₀ L s.heap m) (X : (hd.heap_39 w.params).In h₀) (N : News h₀ L s.heap ((pn, penO pl n tn q tq) :: (pl, lsO vs k) :: rest)) (T : Top p loose mean mg mb h₀) (hk : cs.kind = .function)
include B F X N T hk
theorem lines_P52 : True := by
  k_with "call ref" => (first | ((fail_if_success (k_extra "off P5")); (k_here; (with_reducible show wpAny _ _ (call (Value.ref 375) _) _ _ _); k_dflt (refine' draw_spec ?k1 ?k2 ?k3 ?k4 ?k5 ?kK ?kd ?ku ?kI ?kx ?kz ?kn ?kq ?kP ?kr1 ?kr2 _ _ ?km ?_; (case k1 => k_asm); (case k2 => k_asm); (case k3 => k_asm); (case k4 => k_extra "m_pen"); (case k5 => k_asm); (case kK => first | exact rfl | assumption); (case kd => first | exact room_n (by with_reducible assumption) (by decide) | ktr_room); (case ku => first | exact room_n (by with_reducible assumption) (by decide) | ktr_units); (case kI => assumption); (case kx => assumption); (case kz => assumption); (case kn => (k_extra "m_om")); (case kq => assumption); (case kP => assumption); (case kr1 => k_extra "m_off"); (case kr2 => k_extra "m_off"); (case km => first | decide | (k_extra "m_om")); (intro dw hd0 hd1 h' tk' tdw vs' xs' k' q' tn' tq' F' N' hi' hx' hz' hq'; (try k_sweep))))) | fail)
  k_with "call ref" => (first | ((fail_if_success (k_extra "off P5")); (k_here; (with_reducible show wpAny _ _ (call (Value.ref 382) _) _ _ _); k_dflt (refine' pick_spec ?k1 ?k2 ?k3 ?k4 ?k5 ?kK ?kd ?ku ?kI ?kx ?kz ?kn ?kq ?kP ?kr1 ?kr2 _ _ _ ?km ?ku0 ?_; (case k1 => k_asm); (case k2 => k_asm); (case k3 => k_asm); (case k4 => k_extra "m_pen"); (case k5 => k_asm); (case kK => first | exact rfl | assumption); (case kd => first | exact room_n (by with_reducible assumption) (by decide) | ktr_room); (case ku => first | exact room_n (by with_reducible assumption) (by decide) | ktr_units); (case kI => assumption); (case kx => assumption); (case kz => assumption); (case kn => (k_extra "m_om")); (case kq => assumption); (case kP => assumption); (case kr1 => k_extra "m_off"); (case kr2 => k_extra "m_off"); (case km => k_extra "m_in"); (case ku0 => (simp only [List.length_cons, List.length_nil]; decide)); (intro pj pv hpj h' tk' vs' xs' k' q' tn' tq' F' N' hi' hx' hz' hq'; (first | (obtain ⟨px, ptx, epx, hpx⟩ := pick_int hpj (by k_extra "m_intsare"); subst epx; simp only [List.mem_cons, List.not_mem_nil, or_false] at hpx) | (obtain ⟨pbx, ptx, epx, hpx⟩ := pick_byt (k := 2) hpj (by k_extra "m_byts") (by decide); subst epx)); (try k_sweep))))) | fail)
  k_with "call ref" => (first | ((fail_if_success (k_extra "off P5")); (k_here; (with_reducible show wpAny _ _ (call (Value.ref 387) _) _ _ _); k_dflt (refine' row_spec ?k1 ?k2 ?k3 ?k4 ?k5 ?kK ?kd ?ku _ _ _ _ ?ks ?kI ?kx ?kz ?_; (case k1 => k_asm); (case k2 => k_asm); (case k3 => k_asm); (case k4 => k_extra "m_news"); (case k5 => k_asm); (case kK => first | exact rfl | assumption); (case kd => first | exact room_n (by with_reducible assumption) (by decide) | ktr_room); (case ku => first | exact room_n (by with_reducible assumption) (by decide) | ktr_units); (case ks => k_extra "m_in"); (case kI => k_extra "m_intsare"); (case kx => k_extra "m_ints"); (case kz => first | assumption | decide | (k_extra "m_om") | (simp only [List.length_append, List.length_cons, List.length_nil]; (k_extra "m_om"))); (intro rb rt h' tk' hrb F' N'; (try simp only [List.length_append, List.length_cons, List.length_nil] at hrb); (try k_sweep))))) | fail)
  k_with "call ref" => (first | ((fail_if_success (k_extra "off P5")); (k_here; (with_reducible show wpAny _ _ (call (Value.ref 394) _) _ _ _); k_dflt (refine' listed_spec ?k1 ?k2 ?k3 ?k4 ?k5 ?kK ?kd ?ku _ _ _ _ _ _ _ _ _ _ ?ks1 ?ks2 ?kb1 ?kb2 ?kl ?kt3 ?kt4 ?kz ?kw ?_; (case k1 => k_asm); (case k2 => k_asm); (case k3 => k_asm); (case k4 => k_extra "m_news"); (case k5 => k_asm); (case kK => first | exact rfl | assumption); (case kd => first | exact room_n (by with_reducible assumption) (by decide) | ktr_room); (case ku => first | exact room_n (by with_reducible assumption) (by decide) | ktr_units); (case ks1 => k_extra "m_in"); (case ks2 => k_extra "m_in"); (case kb1 => first | assumption | k_extra "m_byts"); (case kb2 => first | assumption | k_extra "m_byts"); (case kl => first | assumption | (k_extra "m_om")); (case kt3 => first | assumption | (k_extra "m_om")); (case kt4 => assumption); (case kz => (k_extra "m_om")); (case kw => first | (k_extra "m_om") | (simp only [List.size_toArray, List.length_nil, List.length_cons]; (k_extra "m_om")) | simp); (intro lb lt h' tk' hlb F' N'; (try simp only [List.size_toArray, List.length_nil, List.length_cons] at hlb); (try k_sweep))))) | fail)
  k_with "call ref" => (first | ((fail_if_success (k_extra "off P5")); (k_here; (with_reducible show wpAny _ _ (call (Value.ref 401) _) _ _ _); k_dflt (refine' lsys_b ?k1 ?k2 ?k3 ?k4 ?k5 ?kK ?kd ?ku ?kI ?kx ?kz ?kn ?kq ?kP ?kr1 ?kr2 ?_; (case k1 => k_asm); (case k2 => k_asm); (case k3 => k_asm); (case k4 => k_extra "m_pen"); (case k5 => k_asm); (case kK => first | exact rfl | assumption); (case kd => first | exact room_n (by with_reducible assumption) (by decide) | ktr_room); (case ku => first | exact room_n (by with_reducible assumption) (by decide) | ktr_units); (case kI => assumption); (case kx => assumption); (case kz => assumption); (case kn => (k_extra "m_om")); (case kq => assumption); (case kP => assumption); (case kr1 => k_extra "m_off"); (case kr2 => k_extra "m_off"); (intro yb yt h' tk' vs' xs' k' q' tn' tq' hyb F' N' hi' hx' hz' hq'; (try k_sweep))))) | fail)
  exact trivial
set_option maxHeartbeats 2000000 in
theorem script_b (hd : dp + 35 < recursionLimit) (hu : un + 200 < cLine) (hi : IntsAre vs xs) (hx : ∀ x ∈ xs, 0 ≤ x) (hz : vs.length ≤ 63) (hn : 0 ≤ n ∧ n < 70000) (hq : 0 ≤ q) (hpp : @Ne Nat pn pl) (hr1 : ∀ p ∈ rest, p.1 ≠ pn) (hr2 : ∀ p ∈ rest, p.1 ≠ pl)
    (hok : ∀ b t h' tk' vs' xs' k' q' tn' tq' n', b.size ≤ 48 → n ≤ n' ∧ n' ≤ n + 20 → Fr h₀ L h' m → News h₀ L h' ((pn, penO pl n' tn' q' tq') :: (pl, lsO vs' k') :: rest) → IntsAre vs' xs' → (∀ x ∈ xs', 0 ≤ x) → vs'.length ≤ 63 → 0 ≤ q' → Q (.bytes b t) { s with heap := h', toks := tk' }) :
    Cl w dp un gd cn cs L a ccd cl outer 406 [.ref pn] Q E s := by
  k_dflt (refine' enterC [("pen", .ref pn)] B F X N T hk ?k6 ?k7 ?k8 ?k9 ?kB ?kD ?c2 ?c3 ?c4 ?_; k_extra "m_sidesC")
  intro g L' h₁ tk cells E' FG F' N' Y' B' X' T' l' hP hE
  refine (let Gz : Prop := _; (?_ : Gz))
  (refine ex1 (CellsAre.one Y') fun o1 hAz229 => ?_; refine and2 (hAz229) fun hE1 d1 => ?_; clear hAz229)
  k_unfold; clear Gz
  subst hE1
  try simp only [List.cons_append, List.nil_append] at N'
  have hcn : @Ne Nat (L' + 1) pn := Nat.ne_of_gt (Nat.lt_succ_of_lt (l' _ (.head _)))
  have hcl : @Ne Nat (L' + 1) pl := Nat.ne_of_gt (Nat.lt_succ_of_lt (l' _ (.tail _ (.head _))))
  try dsimp only
  try k_fold
  refine foldAV ?_; intro Mz Az vz gz dz oz
  k_extra "m_steps"
  have hOz2 : ∃ tb, BytsAre ws tb ∧ tb.length ≤ 2 ∧ ∀ b ∈ tb, b.size = 4 := ⟨_, hws, by rw [List.length_drop]; exact Nat.sub_le _ _, fun b hb => by
    have := List.mem_of_mem_drop hb
    simp only [List.mem_cons, List.not_mem_nil, or_false] at this
    rcases this with rfl | rfl <;> rfl⟩
  refine (let Gz : Prop := _; (?_ : Gz))
  (refine ex1 (hOz2) fun tb hAz230 => ?_; clear hOz2; refine and3 (hAz230) fun hws htl ht4 => ?_; clear hAz230)
  k_unfold; clear Gz
  rename Fr g L' _ _ => F5
  rename News g L' _ _ => N5
  have hOz3 : ∃ r, News g L' _ ((pn, penO pl (n + 1) tn' q' tq') :: (pl, lsO vs' k') :: r) ∧ (dl, lsO ws 0) ∈ r ∧ (L' + 1, o1) ∈ r ∧ (∀ p ∈ rest, p ∈ r) ∧ (∀ p ∈ r, p.1 ≠ pn) ∧ (∀ p ∈ r, p.1 ≠ pl) :=
    ⟨_, by k_extra "m_pen", by k_extra "m_in", by k_extra "m_in", by k_extra "m_sub", by k_extra "m_off", by k_extra "m_off"⟩
  refine (let Gz : Prop := _; (?_ : Gz))
  (refine ex1 (hOz3) fun r1 hAz231 => ?_; clear hOz3; refine and6 (hAz231) fun N5 q1 q2 q3 q4 q5 => ?_; clear hAz231)
  k_unfold; clear Gz
  refine at_list1 (kp := []) (its := ws.toArray) (fun _ => False) (fun j ys nw => ∃ n₂ vs₂ xs₂ k₂ q₂ tn₂ tq₂ bs, nw = (pn, penO pl n₂ tn₂ q₂ tq₂) :: (pl, lsO vs₂ k₂) :: r1 ∧ (n + 1 ≤ n₂ ∧ n₂ ≤ n + 1 + 2 * (j : Int)) ∧ IntsAre vs₂ xs₂ ∧ (∀ x ∈ xs₂, 0 ≤ x) ∧ vs₂.length ≤ 63 ∧ 0 ≤ q₂ ∧ BytsAre ys bs ∧ bs.length = j ∧ tot bs = 10 * j)
    B' F5 N5 rfl rfl rfl ?_ ?_ (by decide) rfl rfl ?_ ?_ (xi8 _ _ _ _ _ _ _ [] ⟨rfl, by (k_extra "m_om"), hi', hx', hz', hq', .nil, rfl, rfl⟩) ?_ ?_ ?_
  · rw [List.size_toArray, hws.length, sizeLine_eq]; (k_extra "m_om")
  · intro j ys nw hJz4
    refine (let Gz : Prop := _; (?_ : Gz))
    (refine ex8 (hJz4) fun n₂ vs₂ xs₂ k₂ q₂ tn₂ tq₂ bs hAz232 => ?_; clear hJz4; refine and2 (hAz232) fun hEz232_8 _ => ?_; clear hAz232; subst hEz232_8)
    k_unfold; clear Gz
    exact .inr ⟨_, .tail _ (.tail _ q1), rfl, _, rfl⟩
  · intro _ _ _ _ _ hp; cases hp
  · intro _ hp; cases hp
  · intro _ hz; exact hz.elim
  · intro j v ys nw I oI C oC D' m₂ h tk hv hJz5
    refine (let Gz : Prop := _; (?_ : Gz))
    (refine ex8 (hJz5) fun n₂ vs₂ xs₂ k₂ q₂ tn₂ tq₂ bs hAz233 => ?_; clear hJz5; refine and9 (hAz233) fun hEz233_8 hn₂ hi₂ hx₂ hz₂ hq₂ hys hbl hbt => ?_; clear hAz233; subst hEz233_8)
    k_unfold; clear Gz
    intro hoC hx1 F1 N1 O3 hne hkk
    have hjl : j < 2 := by
      have hv' : ws[j]? = some v := by simpa using hv
      have := (List.getElem?_eq_some_iff.mp hv').1
      rw [hws.length] at this
      (k_extra "m_om")
    have hO := O3.mem
    refine (let Gz : Prop := _; (?_ : Gz))
    (refine and3 (hO _ (.head _)) fun i1 i2 i3 => ?_)
    k_unfold; clear Gz
    refine (let Gz : Prop := _; (?_ : Gz))
    (refine and3 (hO _ (.tail _ (.head _))) fun i4 i5 i6 => ?_)
    k_unfold; clear Gz
    dsimp only at i1 i2 i3 i4 i5 i6
    k_extra "m_steps"
    have e2 : n₂ + 2 ≤ n + 1 + 2 * ((j + 1 : Nat) : Int) := by (k_extra "m_om")
    refine LCg.CompEnd.intro (by assumption) (by assumption) ((pn, penO pl (n₂ + 2) tn' q' tq') :: (pl, lsO vs' k') :: r1) (by k_extra "m_sub")
      (LCg.Off3.of ((fmc (⟨i1, i2, i3⟩) ((fmc (⟨i4, i5, i6⟩) (fun p hp => hO p (.tail _ (.tail _ hp)))))))) trivial
      (xi8 _ _ _ _ _ _ _ (bs ++ [yb]) ⟨rfl, by (k_extra "m_om"), by assumption, by assumption, by assumption, by assumption, hys.append (.cons _ _ .nil), by rw [List.length_append, hbl]; rfl, ?_⟩)
    unfold tot at hbt ⊢
    rw [List.map_append, List.sum_append, hbt]
    simp
    (k_extra "m_om")
  · refine fin_none ?_
    intro D' h tk ys nw F1 N1 hno hJz8
    refine (let Gz : Prop := _; (?_ : Gz))
    (refine ex8 (hJz8) fun n₂ vs₂ xs₂ k₂ q₂ tn₂ tq₂ bs hAz237 => ?_; clear hJz8; refine and9 (hAz237) fun hEz237_8 hn₂ hi₂ hx₂ hz₂ hq₂ hys hbl hbt => ?_; clear hAz237; subst hEz237_8)
    k_unfold; clear Gz
    rw [List.size_toArray, hws.length] at hbl hbt hn₂
    have dpn : @Ne Nat D' pn := Ne.symm (hno _ (.head _))
    have dpl : @Ne Nat D' pl := Ne.symm (hno _ (.tail _ (.head _)))
    k_extra "m_steps"
    · rename Fr h₀ L _ _ => FZ
      rename News h₀ L _ _ => NZ
      exact hok _ _ _ _ vs' xs' k' q' tn' tq' (n₂ + 1 + 2) (by (k_extra "m_om")) (by (k_extra "m_om")) FZ (News.sub NZ ((fmc (by k_extra "m_in") ((fmc (by k_extra "m_in") (fun p hp => by have := q3 p hp; k_extra "m_in")))))) (by assumption) (by assumption) (by assumption) (by assumption)
    · rename Fr h₀ L _ _ => FZ
      rename News h₀ L _ _ => NZ
      exact hok _ _ _ _ vs' xs' k' q' tn' tq' (n₂ + 1) (by (k_extra "m_om")) (by (k_extra "m_om")) FZ (News.sub NZ ((fmc (by k_extra "m_in") ((fmc (by k_extra "m_in") (fun p hp => by have := q3 p hp; k_extra "m_in")))))) (by assumption) (by assumption) (by assumption) (by assumption)
end
theorem off_P5 : True := by
  k_with "off P5" => (skip)
  exact trivial
end
section
theorem reset_P6 : True := by
  w_top off
  exact trivial
theorem lines_P61 : True := by
  k_with "binaryOp Add bytes bytes" => (first | ((fail_if_success (k_extra "off P6")); (k_here; (with_reducible refine add_size ?zz ?_); (case zz => (try simp only [List.size_toArray, List.length_cons, List.length_nil]); (k_extra "m_om")); intro brz btz bkz hbrz; (try simp only [List.size_toArray, List.length_cons, List.length_nil] at hbrz))) | fail)
  k_with "call builtin:len" => (first | ((fail_if_success (k_extra "off P6")); (k_here; (with_reducible show wpAny _ _ (call (Value.builtin _) [Value.bytes _ _]) _ _ _); (with_reducible refine len_B ?zz ?_); (case zz => (try simp only [List.size_toArray, List.length_cons, List.length_nil]); (k_extra "m_om")); intro btz bkz; (try simp only [List.size_toArray, List.length_cons, List.length_nil]))) | fail)
  k_with "call builtin:len" => (first | ((fail_if_success (k_extra "off P6")); (k_here; (with_reducible show wpAny _ _ (call (Value.builtin _) [Value.ref _]) _ _ _); k_dflt (refine' len_V ?zma ?zmz ?_; (case zma => exact News.ls (by k_asm) (by k_mem)); (case zmz => first | decide | (k_extra "m_om"))); (try simp only [List.length_cons, List.length_nil]))) | fail)
  k_with "subscriptTail Name Slice ref ref" => (first | ((fail_if_success (k_extra "off P6")); (k_here; (with_reducible show wpAny _ _ (subscriptTail _ (PySem.Expr.Slice _ _ none _) (Value.ref _) (Value.ref _)) _ _ _); k_dflt (refine' slice_byts ?sbF ?sbN ?sbl ?sbb ?sb0 ?sbp ?sbq ?_ ?sbs ?sbt ?sbz; (case sbF => k_asm); (case sbN => k_asm); (case sbl => exact News.ls (by k_asm) (by k_mem)); (case sbb => k_extra "m_byts"); (case sbp => exact IsPart.int _ _); (case sb0 => assumption); (case sbq => exact IsPart.none); (case sbs => with_unfolding_all rfl); (case sbt => kmk_pure); (case sbz => exact Nat.le_of_ble_eq_true rfl)); intro dl ws h' F' N' ldl hws; have ldlx := ldl; (try k_lt ldl); (try k_sweep))) | fail)
  k_with "subscriptTail Name Slice bytes ref" => (first | ((fail_if_success (k_extra "off P6")); (k_here; (with_reducible show wpAny _ _ (subscriptTail _ (PySem.Expr.Slice _ _ none _) (Value.bytes _ _) (Value.ref _)) _ _ _); k_dflt (refine' cut_B ?sbF ?sbN ?sbp ?sbq ?sbz ?_ ?sbs ?sbt; (case sbF => k_asm); (case sbN => k_asm); (case sbp => kmk_part); (case sbq => kmk_part); (case sbz => (k_extra "m_om")); (case sbs => with_unfolding_all rfl); (case sbt => kmk_pure)); intro cr h' ct ck hcr F' N'; (try k_sweep))) | fail)
  exact trivial
noncomputable def IntPP (c : Int) (s : Shared) (v : Value) (s' : Shared) : Prop := ∃ i t tk', v = .int i t ∧ s' = { s with toks := tk' } ∧ (0 ≤ i ∧ i ≤ c)
theorem join_intp {prog : Program} {w : World} {A : Around} {E : Value → Shared → Prop} {s : Shared} {Q : Value → Shared → Prop} {t : Sem Value} (c : Int) (h1 : wpAny (model prog w) A t (Join (IntPP c s)) E s) (h2 : ∀ i t tk', 0 ≤ i ∧ i ≤ c → Q (.int i t) { s with toks := tk' }) : wpAny (model prog w) A t Q E s :=
  wpAny_mono h1 (fun v s' h => by
    refine (let Gz : Prop := _; (?_ : Gz))
    (refine ex3 (h) fun i t tk' hAz239 => ?_; clear h; refine and3 (hAz239) fun hEz239_3 hEz239_4 hi => ?_; clear hAz239; subst hEz239_3; subst hEz239_4)
    k_unfold; clear Gz
    exact h2 i t tk' hi) fun _ _ e => e
noncomputable def IntsPP (g : Heap) (L : Addr) (m₁ : Str → Option Value) (news : List (Addr × Obj)) (s : Shared) (v : Value) (s' : Shared) : Prop :=
  ∃ l h' tk' us ns, v = .ref l ∧ s' = { s with heap := h', toks := tk' } ∧ Fr g L h' m₁ ∧ News g L h' ((l, lsO us 0) :: news) ∧ IntsAre us ns ∧ ns.length ≤ 1 ∧ ∀ x ∈ ns, 0 ≤ x ∧ x < 65536
theorem join_intsp {prog : Program} {w : World} {A : Around} {E : Value → Shared → Prop} {s : Shared} {g : Heap} {L : Addr} {m₁ : Str → Option Value} {news : List (Addr × Obj)} {Q : Value → Shared → Prop} {t : Sem Value} (F : Fr g L s.heap m₁) (N : News g L s.heap news) (h1 : wpAny (model prog w) A t (Join (IntsPP g L m₁ news s)) E s)
    (h2 : ∀ l h' tk' us ns, Fr g L h' m₁ → News g L h' ((l, lsO us 0) :: news) → IntsAre us ns → ns.length ≤ 1 → (∀ x ∈ ns, 0 ≤ x ∧ x < 65536) → Q (.ref l) { s with heap := h', toks := tk' }) : wpAny (model prog w) A t Q E s :=
  wpAny_mono h1 (fun v s' h => by
    refine (let Gz : Prop := _; (?_ : Gz))
    (refine ex5 (h) fun l h' tk' us ns hAz240 => ?_; clear h; refine and7 (hAz240) fun hEz240_5 hEz240_6 F' N' hi hz hb => ?_; clear hAz240; subst hEz240_5; subst hEz240_6)
    k_unfold; clear Gz
    exact h2 l h' tk' us ns F' N' hi hz hb) fun _ _ e => e
section
variable {w : World} {dp un : Nat} {gd : Option (List Code)} {cn : Str} {cs : Scope} {a : Addr} {ccd : Value} {cl : List (Str × Addr)} {outer : List Env} {A₀ : Around} {base h₀ : Heap} {L : Addr} {m : Str → Option Value} {s : Shared} {Q E : Value → Shared → Prop} {p : Program} {loose : List Str} {mean : ExcName → Option Value} {mg mb : Str → Option Value} {rest : List (Addr × Obj)} {pn pl : Addr} {vs : List Value} {xs : List Int} {k : Nat} {n q : Int} {tn tq : Tok}
variable (B : Below A₀ base outer h₀) (F : Fr h₀ L s.heap m) (X : (hd.heap_39 w.params).In h₀) (N : News h₀ L s.heap ((pn, penO pl n tn q tq) :: (pl, lsO vs k) :: rest)) (T : Top p loose mean mg mb h₀) (hk : cs.kind = .function)
include B F X N T hk
theorem lines_P62 : True := by
  k_with "call ref" => (first | ((fail_if_success (k_extra "off P6")); (k_here; (with_reducible show wpAny _ _ (call (Value.ref 375) _) _ _ _); k_dflt (refine' draw_spec ?k1 ?k2 ?k3 ?k4 ?k5 ?kK ?kd ?ku ?kI ?kx ?kz ?kn ?kq ?kP ?kr1 ?kr2 _ _ ?km ?_; (case k1 => k_asm); (case k2 => k_asm); (case k3 => k_asm); (case k4 => k_extra "m_pen"); (case k5 => k_asm); (case kK => first | exact rfl | assumption); (case kd => first | exact room_n (by with_reducible assumption) (by decide) | ktr_room); (case ku => first | exact room_n (by with_reducible assumption) (by decide) | ktr_units); (case kI => assumption); (case kx => assumption); (case kz => assumption); (case kn => (k_extra "m_om")); (case kq => assumption); (case kP => assumption); (case kr1 => k_extra "m_off"); (case kr2 => k_extra "m_off"); (case km => first | decide | (k_extra "m_om")); (intro dw hd0 hd1 h' tk' tdw vs' xs' k' q' tn' tq' F' N' hi' hx' hz' hq'; (try k_sweep))))) | fail)
  k_with "call ref" => (first | ((fail_if_success (k_extra "off P6")); (k_here; (with_reducible show wpAny _ _ (call (Value.ref 382) _) _ _ _); k_dflt (refine' pick_spec ?k1 ?k2 ?k3 ?k4 ?k5 ?kK ?kd ?ku ?kI ?kx ?kz ?kn ?kq ?kP ?kr1 ?kr2 _ _ _ ?km ?ku0 ?_; (case k1 => k_asm); (case k2 => k_asm); (case k3 => k_asm); (case k4 => k_extra "m_pen"); (case k5 => k_asm); (case kK => first | exact rfl | assumption); (case kd => first | exact room_n (by with_reducible assumption) (by decide) | ktr_room); (case ku => first | exact room_n (by with_reducible assumption) (by decide) | ktr_units); (case kI => assumption); (case kx => assumption); (case kz => assumption); (case kn => (k_extra "m_om")); (case kq => assumption); (case kP => assumption); (case kr1 => k_extra "m_off"); (case kr2 => k_extra "m_off"); (case km => k_extra "m_in"); (case ku0 => (simp only [List.length_cons, List.length_nil]; decide)); (intro pj pv hpj h' tk' vs' xs' k' q' tn' tq' F' N' hi' hx' hz' hq'; (first | (obtain ⟨px, ptx, epx, hpx⟩ := pick_int hpj (by k_extra "m_intsare"); subst epx; simp only [List.mem_cons, List.not_mem_nil, or_false] at hpx) | (obtain ⟨pbx, ptx, epx, hpx⟩ := pick_byt (k := 2) hpj (by k_extra "m_byts") (by decide); subst epx)); (try k_sweep))))) | fail)
  k_with "call ref" => (first | ((fail_if_success (k_extra "off P6")); (k_here; (with_reducible show wpAny _ _ (call (Value.ref 387) _) _ _ _); k_dflt (refine' row_spec ?k1 ?k2 ?k3 ?k4 ?k5 ?kK ?kd ?ku _ _ _ _ ?ks ?kI ?kx ?kz ?_; (case k1 => k_asm); (case k2 => k_asm); (case k3 => k_asm); (case k4 => k_extra "m_news"); (case k5 => k_asm); (case kK => first | exact rfl | assumption); (case kd => first | exact room_n (by with_reducible assumption) (by decide) | ktr_room); (case ku => first | exact room_n (by with_reducible assumption) (by decide) | ktr_units); (case ks => k_extra "m_in"); (case kI => k_extra "m_intsare"); (case kx => k_extra "m_ints"); (case kz => first | assumption | decide | (k_extra "m_om") | (simp only [List.length_append, List.length_cons, List.length_nil]; (k_extra "m_om"))); (intro rb rt h' tk' hrb F' N'; (try simp only [List.length_append, List.length_cons, List.length_nil] at hrb); (try k_sweep))))) | fail)
  k_with "getMethod bytes" => (first | ((fail_if_success (k_extra "off P6")); (k_here; (with_reducible show wpAny _ _ (getMethod (Value.bytes _ _) (PySem.Str.ofString "join") _) _ _ _); (with_reducible refine KBd.method_of _ (typeIs_bytes _ _ _) slot_bytes_join type_bytes_join KBd.noRef ?_))) | fail)
  k_with "call builtin:bytes.join" => (first | ((fail_if_success (k_extra "off P6")); k_extra "m_stop") | fail)
  k_with "eval IfExp" => (first | ((fail_if_success (k_extra "off P6")); (k_here; (fail_if_success (with_reducible show wpAny _ _ _ (Join _) _ _)); refine of_stop ?_)) | fail)
  exact trivial
set_option maxHeartbeats 2000000 in
theorem lookup_b (hd : dp + 35 < recursionLimit) (hu : un + 200 < cLine) (hi : IntsAre vs xs) (hx : ∀ x ∈ xs, 0 ≤ x) (hz : vs.length ≤ 63) (hn : 0 ≤ n ∧ n < 70000) (hq : 0 ≤ q) (hpp : @Ne Nat pn pl) (hr1 : ∀ p ∈ rest, p.1 ≠ pn) (hr2 : ∀ p ∈ rest, p.1 ≠ pl)
    (hok : ∀ b t h' tk' vs' xs' k' q' tn' tq' n', b.size ≤ 16 → n ≤ n' ∧ n' ≤ n + 20 → Fr h₀ L h' m → News h₀ L h' ((pn, penO pl n' tn' q' tq') :: (pl, lsO vs' k') :: rest) → IntsAre vs' xs' → (∀ x ∈ xs', 0 ≤ x) → vs'.length ≤ 63 → 0 ≤ q' → Q (.bytes b t) { s with heap := h', toks := tk' }) :
    Cl w dp un gd cn cs L a ccd cl outer 411 [.ref pn] Q E s := by
  k_dflt (refine' enterC [("pen", .ref pn)] B F X N T hk ?k6 ?k7 ?k8 ?k9 ?kB ?kD ?c2 ?c3 ?c4 ?_; k_extra "m_sidesC")
  intro g L' h₁ tk cells E' FG F' N' Y' B' X' T' l' hP hE
  refine (let Gz : Prop := _; (?_ : Gz))
  (refine ex2 (CellsAre.two Y') fun o1 o2 hAz242 => ?_; refine and3 (hAz242) fun hE1 d1 d2 => ?_; clear hAz242)
  k_unfold; clear Gz
  subst hE1
  try simp only [List.cons_append, List.nil_append] at N'
  have hcn : @Ne Nat (L' + 1) pn := Nat.ne_of_gt (Nat.lt_succ_of_lt (l' _ (.head _)))
  have hcl : @Ne Nat (L' + 1) pl := Nat.ne_of_gt (Nat.lt_succ_of_lt (l' _ (.tail _ (.head _))))
  have hcn2 : @Ne Nat (L' + 1 + 1) pn := Nat.ne_of_gt (Nat.lt_succ_of_lt (Nat.lt_succ_of_lt (l' _ (.head _))))
  have hcl2 : @Ne Nat (L' + 1 + 1) pl := Nat.ne_of_gt (Nat.lt_succ_of_lt (Nat.lt_succ_of_lt (l' _ (.tail _ (.head _)))))
  have hrL1 : ∀ p ∈ rest, p.1 ≠ L' + 1 := fun p hp => Nat.ne_of_lt (Nat.lt_succ_of_lt (l' p (.tail _ (.tail _ hp))))
  have hrL2 : ∀ p ∈ rest, p.1 ≠ L' + 1 + 1 := fun p hp => Nat.ne_of_lt (Nat.lt_succ_of_lt (Nat.lt_succ_of_lt (l' p (.tail _ (.tail _ hp)))))
  try dsimp only
  try k_fold
  refine foldAV ?_; intro Mz Az vz gz dz oz
  k_extra "m_steps"
  refine join_intp 2 ?_ ?_
  · k_extra "m_steps"
    · exact (xi3 _ _ _ ⟨rfl, rfl, by decide⟩)
    · exact (xi3 _ _ _ ⟨rfl, rfl, by decide⟩)
  intro hd0 thd tkh0 hhd
  k_extra "m_steps"
  rename IsRange _ _ _ _ _ _ _ _ => hR
  rename Fr g L' _ _ => F5
  rename News g L' _ _ => N5
  have hOz4 : ∃ oh hv tkh us ns, oh.data = Data.cell (some (Value.int hv tkh)) ∧ (0 ≤ hv ∧ hv < 100) ∧ News g L' _ ((pn, penO pl (n + 1 + 1 + 1) tn' q' tq') :: (pl, lsO vs' k') :: (L' + 1 + 1, oh) :: (L' + 1, o2) :: (lw, lsO us 0) :: rest) ∧ IntsAre us ns ∧ (∀ x ∈ ns, 0 ≤ x ∧ x < 65536) ∧ ns.length = 3 :=
    (xi5 _ _ _ _ _ ⟨by assumption, by (k_extra "m_om"), News.sub N5 (by k_extra "m_sub"), by k_extra "m_intsare", by k_extra "m_ints", rfl⟩)
  refine (let Gz : Prop := _; (?_ : Gz))
  (refine ex5 (hOz4) fun oh hv tkh us ns hAz243 => ?_; clear hOz4; refine and6 (hAz243) fun doh hvb N5 hui hub hul => ?_; clear hAz243)
  k_unfold; clear Gz
  refine at_range1 (kp := []) (n := px.toNat) (fun _ => False) (fun j ys nw => nw = (pn, penO pl (n + 1 + 1 + 1) tn' q' tq') :: (pl, lsO vs' k') :: (L' + 1 + 1, oh) :: (L' + 1, o2) :: (lw, lsO us 0) :: rest ∧ ∃ ms, IntsAre ys ms ∧ ms.length = j ∧ ∀ x ∈ ms, 0 ≤ x ∧ x < 65536)
    B' F5 N5 rfl rfl rfl hR (range_small (by (k_extra "m_om")) (by (k_extra "m_om"))) (range_size (by (k_extra "m_om"))) (by rw [sizeLine_eq]; (k_extra "m_om")) (by decide) rfl rfl ?_ ?_ ⟨rfl, [], .nil, rfl, List.forall_mem_nil _⟩ ?_ ?_ ?_
  · intro _ _ _ _ _ hp; cases hp
  · intro _ hp; cases hp
  · intro _ hz; exact hz.elim
  · intro j tj ys nw I oI C oC D' m₂ h tk hj hJz5
    refine (let Gz : Prop := _; (?_ : Gz))
    obtain ⟨rfl, ms, hys, hml, hmb⟩ := hJz5
    k_unfold; clear Gz
    intro hoC hm₂ F1 N1 O3 hne hkk
    replace N1 := News.sub (news' := (L' + 1 + 1, oh) :: (L' + 1, o2) :: (I, oI) :: (C, oC) :: (D', LCg.lst ys) :: (pn, penO pl (n + 1 + 1 + 1) tn' q' tq') :: (pl, lsO vs' k') :: (lw, lsO us 0) :: rest) N1 (by k_extra "m_sub")
    k_extra "m_steps"
    refine LCg.CompEnd.intro (by assumption) (by assumption) ((pn, penO pl (n + 1 + 1 + 1) tn' q' tq') :: (pl, lsO vs' k') :: (L' + 1 + 1, oh) :: (L' + 1, o2) :: (lw, lsO us 0) :: rest) (by k_extra "m_sub") O3 trivial
      ⟨rfl, ms ++ [_], hys.append (.cons _ _ .nil), by rw [List.length_append, hml]; rfl, List.forall_mem_append.mpr ⟨hmb, (fmc (by (k_extra "m_om")) (List.forall_mem_nil _))⟩⟩
  · refine fin_none ?_
    intro D' h tk ys nw F1 N1 hno hJz6
    refine (let Gz : Prop := _; (?_ : Gz))
    obtain ⟨rfl, ms, hys, hml, hmb⟩ := hJz6
    k_unfold; clear Gz
    have hml2 : ms.length ≤ 2 := by (k_extra "m_om")
    k_extra "m_steps"
    rename Fr g L' _ _ => F7
    rename News g L' _ _ => N7
    refine join_intsp F7 N7 ?_ ?_
    · k_extra "m_steps"
      · exact (xi5 _ _ _ _ _ ⟨rfl, rfl, by assumption, by assumption, .cons _ _ .nil, by decide, (fmc (by decide) (List.forall_mem_nil _))⟩)
      · exact (xi5 _ _ _ _ _ ⟨rfl, rfl, by assumption, by assumption, .nil, by decide, List.forall_mem_nil _⟩)
    intro l7 h7 tk7 us7 ns7 F8 N8 hi7 hz7 hb7
    clear F7 N7
    k_extra "m_steps"
    rename IsRange _ _ _ _ _ _ _ _ => hR
    rename Fr g L' _ _ => F5
    rename News g L' _ _ => N5
    replace N5 := News.sub (news' := (pn, penO pl (n + 1 + 1 + 1) tn' q' tq') :: (pl, lsO vs' k') :: (L' + 1, o2) :: rest) N5 (by k_extra "m_sub")
    refine at_range1 (kp := []) (n := px.toNat) (fun _ => False) (fun j ys nw => ∃ n₂ vs₂ xs₂ k₂ q₂ tn₂ tq₂ bs, nw = (pn, penO pl n₂ tn₂ q₂ tq₂) :: (pl, lsO vs₂ k₂) :: (L' + 1, o2) :: rest ∧ (n + 3 ≤ n₂ ∧ n₂ ≤ n + 3 + (j : Int)) ∧ IntsAre vs₂ xs₂ ∧ (∀ x ∈ xs₂, 0 ≤ x) ∧ vs₂.length ≤ 63 ∧ 0 ≤ q₂ ∧ BytsAre ys bs ∧ bs.length = j ∧ tot bs = 2 * j)
      B' F5 N5 rfl rfl rfl hR (range_small (by (k_extra "m_om")) (by (k_extra "m_om"))) (range_size (by (k_extra "m_om"))) (by rw [sizeLine_eq]; (k_extra "m_om")) (by decide) rfl rfl ?_ ?_ (xi8 _ _ _ _ _ _ _ [] ⟨rfl, by (k_extra "m_om"), (by assumption), (by assumption), (by assumption), (by assumption), .nil, rfl, rfl⟩) ?_ ?_ ?_
    · intro _ _ _ _ _ hp; cases hp
    · intro _ hp; cases hp
    · intro _ hz; exact hz.elim
    · intro j tj ys nw I oI C oC D' m₂ h tk hj hJz7
      refine (let Gz : Prop := _; (?_ : Gz))
      (refine ex8 (hJz7) fun n₂ vs₂ xs₂ k₂ q₂ tn₂ tq₂ bs hAz246 => ?_; clear hJz7; refine and9 (hAz246) fun hEz246_8 hn₂ hi₂ hx₂ hz₂ hq₂ hys hbl hbt => ?_; clear hAz246; subst hEz246_8)
      k_unfold; clear Gz
      intro hoC hm₂ F1 N1 O3 hne hkk
      replace N1 := News.sub (news' := (L' + 1, o2) :: (I, oI) :: (C, oC) :: (D', LCg.lst ys) :: (pn, penO pl n₂ tn₂ q₂ tq₂) :: (pl, lsO vs₂ k₂) :: rest) N1 (by k_extra "m_sub")
      have hO := O3.mem
      refine (let Gz : Prop := _; (?_ : Gz))
      (refine and3 (hO _ (.head _)) fun i1 i2 i3 => ?_)
      k_unfold; clear Gz
      refine (let Gz : Prop := _; (?_ : Gz))
      (refine and3 (hO _ (.tail _ (.head _))) fun i4 i5 i6 => ?_)
      k_unfold; clear Gz
      dsimp only at i1 i2 i3 i4 i5 i6
      have hjl : j < 2 := by (k_extra "m_om")
      k_extra "m_steps"
      refine LCg.CompEnd.intro (by assumption) (by assumption) ((pn, penO pl (n₂ + 1) tn' q' tq') :: (pl, lsO vs' k') :: (L' + 1, o2) :: rest) (by k_extra "m_sub")
        (LCg.Off3.of ((fmc (⟨i1, i2, i3⟩) ((fmc (⟨i4, i5, i6⟩) (fun p hp => hO p (.tail _ (.tail _ hp)))))))) trivial
        (xi8 _ _ _ _ _ _ _ (bs ++ [pbx]) ⟨rfl, by (k_extra "m_om"), by assumption, by assumption, by assumption, by assumption, hys.append (.cons _ _ .nil), by rw [List.length_append, hbl]; rfl, ?_⟩)
      unfold tot at hbt ⊢
      rw [List.map_append, List.sum_append, hbt]
      simp
      (k_extra "m_om")
    · refine fin_none ?_
      intro D' h tk ys nw F1 N1 hno hJz10
      refine (let Gz : Prop := _; (?_ : Gz))
      (refine ex8 (hJz10) fun n₂ vs₂ xs₂ k₂ q₂ tn₂ tq₂ bs hAz250 => ?_; clear hJz10; refine and9 (hAz250) fun hEz250_8 hn₂ hi₂ hx₂ hz₂ hq₂ hys hbl hbt => ?_; clear hAz250; subst hEz250_8)
      k_unfold; clear Gz
      k_extra "m_steps"
      refine join_bytes (vs := ys) (N1 _ (.head _)).1 hys (by (k_extra "m_om")) fun r t' k9 hr => ?_
      k_extra "m_steps"
      rename Fr h₀ L _ _ => FZ
      rename News h₀ L _ _ => NZ
      exact hok _ _ _ _ vs₂ xs₂ k₂ q₂ tn₂ tq₂ n₂ (by (k_extra "m_om")) (by (k_extra "m_om")) FZ (News.sub NZ (by k_extra "m_sub")) (by assumption) (by assumption) (by assumption) (by assumption)
end
theorem off_P6 : True := by
  k_with "off P6" => (skip)
  exact trivial
end
section
theorem reset_P7 : True := by
  w_top off
  exact trivial
theorem lines_P71 : True := by
  k_with "binaryOp Add bytes bytes" => (first | ((fail_if_success (k_extra "off P7")); (k_here; (with_reducible refine add_size ?zz ?_); (case zz => (try simp only [List.size_toArray, List.length_cons, List.length_nil]); (k_extra "m_om")); intro brz btz bkz hbrz; (try simp only [List.size_toArray, List.length_cons, List.length_nil] at hbrz))) | fail)
  k_with "call builtin:len" => (first | ((fail_if_success (k_extra "off P7")); (k_here; (with_reducible show wpAny _ _ (call (Value.builtin _) [Value.bytes _ _]) _ _ _); (with_reducible refine len_B ?zz ?_); (case zz => (try simp only [List.size_toArray, List.length_cons, List.length_nil]); (k_extra "m_om")); intro btz bkz; (try simp only [List.size_toArray, List.length_cons, List.length_nil]))) | fail)
  k_with "call builtin:len" => (first | ((fail_if_success (k_extra "off P7")); (k_here; (with_reducible show wpAny _ _ (call (Value.builtin _) [Value.ref _]) _ _ _); k_dflt (refine' len_V ?zma ?zmz ?_; (case zma => exact News.ls (by k_asm) (by k_mem)); (case zmz => first | decide | (k_extra "m_om"))); (try simp only [List.length_cons, List.length_nil]))) | fail)
  k_with "subscriptTail Name Slice ref ref" => (first | ((fail_if_success (k_extra "off P7")); (k_here; (with_reducible show wpAny _ _ (subscriptTail _ (PySem.Expr.Slice _ _ none _) (Value.ref _) (Value.ref _)) _ _ _); k_dflt (refine' slice_byts ?sbF ?sbN ?sbl ?sbb ?sb0 ?sbp ?sbq ?_ ?sbs ?sbt ?sbz; (case sbF => k_asm); (case sbN => k_asm); (case sbl => exact News.ls (by k_asm) (by k_mem)); (case sbb => k_extra "m_byts"); (case sbp => exact IsPart.int _ _); (case sb0 => assumption); (case sbq => exact IsPart.none); (case sbs => with_unfolding_all rfl); (case sbt => kmk_pure); (case sbz => exact Nat.le_of_ble_eq_true rfl)); intro dl ws h' F' N' ldl hws; have ldlx := ldl; (try k_lt ldl); (try k_sweep))) | fail)
  k_with "subscriptTail Name Slice bytes ref" => (first | ((fail_if_success (k_extra "off P7")); (k_here; (with_reducible show wpAny _ _ (subscriptTail _ (PySem.Expr.Slice _ _ none _) (Value.bytes _ _) (Value.ref _)) _ _ _); k_dflt (refine' cut_B ?sbF ?sbN ?sbp ?sbq ?sbz ?_ ?sbs ?sbt; (case sbF => k_asm); (case sbN => k_asm); (case sbp => kmk_part); (case sbq => kmk_part); (case sbz => (k_extra "m_om")); (case sbs => with_unfolding_all rfl); (case sbt => kmk_pure)); intro cr h' ct ck hcr F' N'; (try k_sweep))) | fail)
  exact trivial
theorem drop_sizes {bs : List (Array UInt8)} {k c d : Nat} (hl : bs.length ≤ c) (hs : (bs.all fun b => b.size == k) = true) : (bs.drop d).length ≤ c ∧ ∀ b ∈ bs.drop d, b.size = k :=
  ⟨by rw [List.length_drop]; (k_extra "m_om"), fun b hb => by simpa using List.all_eq_true.mp hs b (List.mem_of_mem_drop hb)⟩
theorem oct_s1 {t k : Nat} (h1 : t ≤ 3) (h2 : k ≤ 48 * t) : 0 + 2 + 6 * t + k ≤ 164 := by (k_extra "m_om")
theorem oct_s2 {t k : Nat} (h1 : t ≤ 2) (h2 : k ≤ 6 * t) : 0 + 2 + 6 * t + k ≤ 26 := by (k_extra "m_om")
theorem oct_n1 {n n₂ : Int} {t : Nat} (h : n + 1 ≤ n₂ ∧ n₂ ≤ n + 1 + 20 * (t : Int)) (h1 : t ≤ 3) : n ≤ n₂ ∧ n₂ ≤ n + 61 := by (k_extra "m_om")
theorem oct_n2 {n n₂ n₃ : Int} {t : Nat} (h : n₂ + 1 ≤ n₃ ∧ n₃ ≤ n₂ + 1 + (t : Int)) (h2 : n ≤ n₂ ∧ n₂ ≤ n + 61) (h1 : t ≤ 2) : n ≤ n₃ ∧ n₃ ≤ n + 64 := by (k_extra "m_om")
theorem oct_n3 {n n₃ n₄ d : Int} (h : n₃ + 1 ≤ n₄ ∧ n₄ ≤ n₃ + 1 + 20 * (d.toNat : Int)) (h2 : n ≤ n₃ ∧ n₃ ≤ n + 64) (h0 : 0 ≤ d) (h1 : d < 3) : n ≤ n₄ ∧ n₄ ≤ n + 110 := by (k_extra "m_om")
theorem oct_t {d : Int} (h0 : 0 ≤ d) (h1 : d < 3) : 16 * d.toNat ≤ 32 := by (k_extra "m_om")
theorem tot_snoc (bs : List (Array UInt8)) (b : Array UInt8) : tot (bs ++ [b]) = tot bs + b.size := by
  unfold tot
  rw [List.map_append, List.sum_append]
  simp
noncomputable def PenP (g : Heap) (L : Addr) (m₁ : Str → Option Value) (pn pl : Addr) (n' : Int) (r : List (Addr × Obj)) (s : Shared) (v : Value) (s' : Shared) : Prop :=
  ∃ h' tk' x t vs xs k q tn tq, v = .int x t ∧ s' = { s with heap := h', toks := tk' } ∧ Fr g L h' m₁ ∧ News g L h' ((pn, penO pl n' tn q tq) :: (pl, lsO vs k) :: r) ∧ (0 ≤ x ∧ x < 100) ∧ IntsAre vs xs ∧ (∀ x ∈ xs, 0 ≤ x) ∧ vs.length ≤ 63 ∧ 0 ≤ q
theorem join_pen {prog : Program} {w : World} {A : Around} {E : Value → Shared → Prop} {s : Shared} {g : Heap} {L pn pl : Addr} {m₁ : Str → Option Value} {r : List (Addr × Obj)} {Q : Value → Shared → Prop} {t : Sem Value} {n₀ tn q tq : _} {vs : List Value} {k : Nat} (n' : Int) (F : Fr g L s.heap m₁) (N : News g L s.heap ((pn, penO pl n₀ tn q tq) :: (pl, lsO vs k) :: r)) (h1 : wpAny (model prog w) A t (Join (PenP g L m₁ pn pl n' r s)) E s) (h2 : ∀ h' tk' x t vs xs k q tn tq, Fr g L h' m₁ → News g L h' ((pn, penO pl n' tn q tq) :: (pl, lsO vs k) :: r) → (0 ≤ x ∧ x < 100) → IntsAre vs xs → (∀ x ∈ xs, 0 ≤ x) → vs.length ≤ 63 → 0 ≤ q → Q (.int x t) { s with heap := h', toks := tk' }) : wpAny (model prog w) A t Q E s :=
  wpAny_mono h1 (fun v s' h => by
    refine (let Gz : Prop := _; (?_ : Gz))
    first | (refine ex9 (h) fun h' tk' x t vs xs k q tn hAz252 => ?_; clear h; (first | (refine ex9 (hAz252) fun tq hEz253_1 hEz253_2 F' N' hb hi hx hz hq => ?_; clear hAz252; subst hEz253_1; subst hEz253_2) | (refine ex8 (hAz252) fun tq hEz253_1 hEz253_2 F' N' hb hi hx hAz253 => ?_; clear hAz252; refine and2 (hAz253) fun hz hq => ?_; clear hAz253; subst hEz253_1; subst hEz253_2) | (refine ex7 (hAz252) fun tq hEz253_1 hEz253_2 F' N' hb hi hAz253 => ?_; clear hAz252; refine and3 (hAz253) fun hx hz hq => ?_; clear hAz253; subst hEz253_1; subst hEz253_2) | (refine ex6 (hAz252) fun tq hEz253_1 hEz253_2 F' N' hb hAz253 => ?_; clear hAz252; refine and4 (hAz253) fun hi hx hz hq => ?_; clear hAz253; subst hEz253_1; subst hEz253_2) | (refine ex5 (hAz252) fun tq hEz253_1 hEz253_2 F' N' hAz253 => ?_; clear hAz252; refine and5 (hAz253) fun hb hi hx hz hq => ?_; clear hAz253; subst hEz253_1; subst hEz253_2) | (refine ex4 (hAz252) fun tq hEz253_1 hEz253_2 F' hAz253 => ?_; clear hAz252; refine and6 (hAz253) fun N' hb hi hx hz hq => ?_; clear hAz253; subst hEz253_1; subst hEz253_2) | (refine ex3 (hAz252) fun tq hEz253_1 hEz253_2 hAz253 => ?_; clear hAz252; refine and7 (hAz253) fun F' N' hb hi hx hz hq => ?_; clear hAz253; subst hEz253_1; subst hEz253_2) | (refine ex2 (hAz252) fun tq hEz253_1 hAz253 => ?_; clear hAz252; refine and8 (hAz253) fun hEz253_2 F' N' hb hi hx hz hq => ?_; clear hAz253; subst hEz253_1; subst hEz253_2) | (refine ex1 (hAz252) fun tq hAz253 => ?_; clear hAz252; refine and9 (hAz253) fun hEz253_1 hEz253_2 F' N' hb hi hx hz hq => ?_; clear hAz253; subst hEz253_1; subst hEz253_2) | (refine and10 (hAz252) fun tq hEz253_1 hEz253_2 F' N' hb hi hx hz hq => ?_; clear hAz252; subst hEz253_1; subst hEz253_2) | obtain ⟨tq, rfl, rfl, F', N', hb, hi, hx, hz, hq⟩ := hAz252)) | (refine ex9 (h) fun h' tk' x t vs xs k q tn hAz252 => ?_; clear h; refine and10 (hAz252) fun tq hEz252_10 hEz252_11 F' N' hb hi hx hz hq => ?_; clear hAz252; subst hEz252_10; subst hEz252_11) | (refine ex8 (h) fun h' tk' x t vs xs k q hAz252 => ?_; clear h; refine and11 (hAz252) fun tn tq hEz252_10 hEz252_11 F' N' hb hi hx hz hq => ?_; clear hAz252; subst hEz252_10; subst hEz252_11) | (refine ex7 (h) fun h' tk' x t vs xs k hAz252 => ?_; clear h; refine and12 (hAz252) fun q tn tq hEz252_10 hEz252_11 F' N' hb hi hx hz hq => ?_; clear hAz252; subst hEz252_10; subst hEz252_11) | (refine ex6 (h) fun h' tk' x t vs xs hAz252 => ?_; clear h; refine and12 (hAz252) fun k q tn tq hEz252_10 hEz252_11 F' N' hb hi hx hAz252r => ?_; clear hAz252; refine and2 (hAz252r) fun hz hq => ?_; clear hAz252r; subst hEz252_10; subst hEz252_11) | (refine ex5 (h) fun h' tk' x t vs hAz252 => ?_; clear h; refine and12 (hAz252) fun xs k q tn tq hEz252_10 hEz252_11 F' N' hb hi hAz252r => ?_; clear hAz252; refine and3 (hAz252r) fun hx hz hq => ?_; clear hAz252r; subst hEz252_10; subst hEz252_11) | (refine ex4 (h) fun h' tk' x t hAz252 => ?_; clear h; refine and12 (hAz252) fun vs xs k q tn tq hEz252_10 hEz252_11 F' N' hb hAz252r => ?_; clear hAz252; refine and4 (hAz252r) fun hi hx hz hq => ?_; clear hAz252r; subst hEz252_10; subst hEz252_11) | (refine ex3 (h) fun h' tk' x hAz252 => ?_; clear h; refine and12 (hAz252) fun t vs xs k q tn tq hEz252_10 hEz252_11 F' N' hAz252r => ?_; clear hAz252; refine and5 (hAz252r) fun hb hi hx hz hq => ?_; clear hAz252r; subst hEz252_10; subst hEz252_11) | (refine ex2 (h) fun h' tk' hAz252 => ?_; clear h; refine and12 (hAz252) fun x t vs xs k q tn tq hEz252_10 hEz252_11 F' hAz252r => ?_; clear hAz252; refine and6 (hAz252r) fun N' hb hi hx hz hq => ?_; clear hAz252r; subst hEz252_10; subst hEz252_11) | (refine ex1 (h) fun h' hAz252 => ?_; clear h; refine and12 (hAz252) fun tk' x t vs xs k q tn tq hEz252_10 hEz252_11 hAz252r => ?_; clear hAz252; refine and7 (hAz252r) fun F' N' hb hi hx hz hq => ?_; clear hAz252r; subst hEz252_10; subst hEz252_11) | (refine and12 (h) fun h' tk' x t vs xs k q tn tq hEz252_10 hr => ?_; clear h; refine and8 (hr) fun hEz252_11 F' N' hb hi hx hz hq => ?_; clear hr; subst hEz252_10; subst hEz252_11) | obtain ⟨h', tk', x, t, vs, xs, k, q, tn, tq, rfl, rfl, F', N', hb, hi, hx, hz, hq⟩ := h
    k_unfold; clear Gz
    exact h2 h' tk' x t vs xs k q tn tq F' N' hb hi hx hz hq) fun _ _ e => e
theorem PenP.mk {s : Shared} {g : Heap} {L pn pl : Addr} {m₁ : Str → Option Value} {n' q x : Int} {r : List (Addr × Obj)} {h' : Heap} {tk' k : Nat} {t tn tq : Tok} {vs : List Value} {xs : List Int} (F : Fr g L h' m₁) (N : News g L h' ((pn, penO pl n' tn q tq) :: (pl, lsO vs k) :: r)) (hb : 0 ≤ x ∧ x < 100) (hi : IntsAre vs xs) (hx : ∀ x ∈ xs, 0 ≤ x) (hz : vs.length ≤ 63) (hq : 0 ≤ q) : PenP g L m₁ pn pl n' r s (.int x t) { s with heap := h', toks := tk' } := xi10 h' tk' x t vs xs k q tn tq ⟨rfl, rfl, F, N, hb, hi, hx, hz, hq⟩
section
variable {w : World} {dp un : Nat} {gd : Option (List Code)} {cn : Str} {cs : Scope} {a : Addr} {ccd : Value} {cl : List (Str × Addr)} {outer : List Env} {A₀ : Around} {base h₀ : Heap} {L : Addr} {m : Str → Option Value} {s : Shared} {Q E : Value → Shared → Prop} {p : Program} {loose : List Str} {mean : ExcName → Option Value} {mg mb : Str → Option Value} {rest : List (Addr × Obj)} {pn pl : Addr} {vs : List Value} {xs : List Int} {k : Nat} {n q : Int} {tn tq : Tok}
variable (B : Below A₀ base outer h₀) (F : Fr h₀ L s.heap m) (X : (hd.heap_39 w.params).In h₀) (N : News h₀ L s.heap ((pn, penO pl n tn q tq) :: (pl, lsO vs k) :: rest)) (T : Top p loose mean mg mb h₀) (hk : cs.kind = .function)
include B F X N T hk
theorem lines_P72 : True := by
  k_with "call ref" => (first | ((fail_if_success (k_extra "off P7")); (k_here; (with_reducible show wpAny _ _ (call (Value.ref 375) _) _ _ _); k_dflt (refine' draw_spec ?k1 ?k2 ?k3 ?k4 ?k5 ?kK ?kd ?ku ?kI ?kx ?kz ?kn ?kq ?kP ?kr1 ?kr2 _ _ ?km ?_; (case k1 => k_asm); (case k2 => k_asm); (case k3 => k_asm); (case k4 => k_extra "m_pen"); (case k5 => k_asm); (case kK => first | exact rfl | assumption); (case kd => first | exact room_n (by with_reducible assumption) (by decide) | ktr_room); (case ku => first | exact room_n (by with_reducible assumption) (by decide) | ktr_units); (case kI => assumption); (case kx => assumption); (case kz => assumption); (case kn => (k_extra "m_om")); (case kq => assumption); (case kP => assumption); (case kr1 => k_extra "m_off"); (case kr2 => k_extra "m_off"); (case km => first | decide | (k_extra "m_om")); (intro dw hd0 hd1 h' tk' tdw vs' xs' k' q' tn' tq' F' N' hi' hx' hz' hq'; (try k_sweep))))) | fail)
  k_with "call ref" => (first | ((fail_if_success (k_extra "off P7")); (k_here; (with_reducible show wpAny _ _ (call (Value.ref 382) _) _ _ _); k_dflt (refine' pick_spec ?k1 ?k2 ?k3 ?k4 ?k5 ?kK ?kd ?ku ?kI ?kx ?kz ?kn ?kq ?kP ?kr1 ?kr2 _ _ _ ?km ?ku0 ?_; (case k1 => k_asm); (case k2 => k_asm); (case k3 => k_asm); (case k4 => k_extra "m_pen"); (case k5 => k_asm); (case kK => first | exact rfl | assumption); (case kd => first | exact room_n (by with_reducible assumption) (by decide) | ktr_room); (case ku => first | exact room_n (by with_reducible assumption) (by decide) | ktr_units); (case kI => assumption); (case kx => assumption); (case kz => assumption); (case kn => (k_extra "m_om")); (case kq => assumption); (case kP => assumption); (case kr1 => k_extra "m_off"); (case kr2 => k_extra "m_off"); (case km => k_extra "m_in"); (case ku0 => (simp only [List.length_cons, List.length_nil]; decide)); (intro pj pv hpj h' tk' vs' xs' k' q' tn' tq' F' N' hi' hx' hz' hq'; (first | (obtain ⟨px, ptx, epx, hpx⟩ := pick_int hpj (by k_extra "m_intsare"); subst epx; simp only [List.mem_cons, List.not_mem_nil, or_false] at hpx) | (obtain ⟨pbx, ptx, epx, hpx⟩ := pick_byt (k := 2) hpj (by k_extra "m_byts") (by decide); subst epx)); (try k_sweep))))) | fail)
  k_with "call ref" => (first | ((fail_if_success (k_extra "off P7")); (k_here; (with_reducible show wpAny _ _ (call (Value.ref 387) _) _ _ _); k_dflt (refine' row_spec ?k1 ?k2 ?k3 ?k4 ?k5 ?kK ?kd ?ku _ _ _ _ ?ks ?kI ?kx ?kz ?_; (case k1 => k_asm); (case k2 => k_asm); (case k3 => k_asm); (case k4 => k_extra "m_news"); (case k5 => k_asm); (case kK => first | exact rfl | assumption); (case kd => first | exact room_n (by with_reducible assumption) (by decide) | ktr_room); (case ku => first | exact room_n (by with_reducible assumption) (by decide) | ktr_units); (case ks => k_extra "m_in"); (case kI => k_extra "m_intsare"); (case kx => k_extra "m_ints"); (case kz => first | assumption | decide | (k_extra "m_om") | (simp only [List.length_append, List.length_cons, List.length_nil]; (k_extra "m_om"))); (intro rb rt h' tk' hrb F' N'; (try simp only [List.length_append, List.length_cons, List.length_nil] at hrb); (try k_sweep))))) | fail)
  k_with "call ref" => (first | ((fail_if_success (k_extra "off P7")); (k_here; (with_reducible show wpAny _ _ (call (Value.ref 394) _) _ _ _); k_dflt (refine' listed_spec ?k1 ?k2 ?k3 ?k4 ?k5 ?kK ?kd ?ku _ _ _ _ _ _ _ _ _ _ ?ks1 ?ks2 ?kb1 ?kb2 ?kl ?kt3 ?kt4 ?kz ?kw ?_; (case k1 => k_asm); (case k2 => k_asm); (case k3 => k_asm); (case k4 => k_extra "m_news"); (case k5 => k_asm); (case kK => first | exact rfl | assumption); (case kd => first | exact room_n (by with_reducible assumption) (by decide) | ktr_room); (case ku => first | exact room_n (by with_reducible assumption) (by decide) | ktr_units); (case ks1 => k_extra "m_in"); (case ks2 => k_extra "m_in"); (case kb1 => first | assumption | k_extra "m_byts"); (case kb2 => first | assumption | k_extra "m_byts"); (case kl => first | assumption | (k_extra "m_om")); (case kt3 => first | assumption | (k_extra "m_om")); (case kt4 => assumption); (case kz => (k_extra "m_om")); (case kw => first | (k_extra "m_om") | (simp only [List.size_toArray, List.length_nil, List.length_cons]; (k_extra "m_om")) | simp); (intro lb lt h' tk' hlb F' N'; (try simp only [List.size_toArray, List.length_nil, List.length_cons] at hlb); (try k_sweep))))) | fail)
  k_with "call ref" => (first | ((fail_if_success (k_extra "off P7")); (k_here; (with_reducible show wpAny _ _ (call (Value.ref 406) _) _ _ _); k_dflt (refine' script_b ?k1 ?k2 ?k3 ?k4 ?k5 ?kK ?kd ?ku ?kI ?kx ?kz ?kn ?kq ?kP ?kr1 ?kr2 ?_; (case k1 => k_asm); (case k2 => k_asm); (case k3 => k_asm); (case k4 => k_extra "m_pen"); (case k5 => k_asm); (case kK => first | exact rfl | assumption); (case kd => first | exact room_n (by with_reducible assumption) (by decide) | ktr_room); (case ku => first | exact room_n (by with_reducible assumption) (by decide) | ktr_units); (case kI => assumption); (case kx => assumption); (case kz => assumption); (case kn => (k_extra "m_om")); (case kq => assumption); (case kP => assumption); (case kr1 => k_extra "m_off"); (case kr2 => k_extra "m_off"); (intro yb yt h' tk' vs' xs' k' q' tn' tq' nn' hyb hnn F' N' hi' hx' hz' hq'; (try k_sweep))))) | fail)
  k_with "call ref" => (first | ((fail_if_success (k_extra "off P7")); (k_here; (with_reducible show wpAny _ _ (call (Value.ref 411) _) _ _ _); k_dflt (refine' lookup_b ?k1 ?k2 ?k3 ?k4 ?k5 ?kK ?kd ?ku ?kI ?kx ?kz ?kn ?kq ?kP ?kr1 ?kr2 ?_; (case k1 => k_asm); (case k2 => k_asm); (case k3 => k_asm); (case k4 => k_extra "m_pen"); (case k5 => k_asm); (case kK => first | exact rfl | assumption); (case kd => first | exact room_n (by with_reducible assumption) (by decide) | ktr_room); (case ku => first | exact room_n (by with_reducible assumption) (by decide) | ktr_units); (case kI => assumption); (case kx => assumption); (case kz => assumption); (case kn => (k_extra "m_om")); (case kq => assumption); (case kP => assumption); (case kr1 => k_extra "m_off"); (case kr2 => k_extra "m_off"); (intro yb yt h' tk' vs' xs' k' q' tn' tq' nn' hyb hnn F' N' hi' hx' hz' hq'; (try k_sweep))))) | fail)
  k_with "getMethod bytes" => (first | ((fail_if_success (k_extra "off P7")); (k_here; (with_reducible show wpAny _ _ (getMethod (Value.bytes _ _) (PySem.Str.ofString "join") _) _ _ _); (with_reducible refine KBd.method_of _ (typeIs_bytes _ _ _) slot_bytes_join type_bytes_join KBd.noRef ?_))) | fail)
  k_with "call builtin:bytes.join" => (first | ((fail_if_success (k_extra "off P7")); k_extra "m_stop") | fail)
  k_with "eval IfExp" => (first | ((fail_if_success (k_extra "off P7")); (k_here; (fail_if_success (with_reducible show wpAny _ _ _ (Join _) _ _)); refine of_stop ?_)) | fail)
  exact trivial
set_option maxHeartbeats 4000000 in
theorem octets_b (hd : dp + 45 < recursionLimit) (hu : un + 250 < cLine) (hi : IntsAre vs xs) (hx : ∀ x ∈ xs, 0 ≤ x) (hz : vs.length ≤ 63) (hn : 0 ≤ n ∧ n < 60000) (hq : 0 ≤ q) (hpp : @Ne Nat pn pl) (hr1 : ∀ p ∈ rest, p.1 ≠ pn) (hr2 : ∀ p ∈ rest, p.1 ≠ pl)
    (hok : ∀ b t h' tk' vs' xs' k' q' tn' tq' n', (1 ≤ b.size ∧ b.size ≤ 300) → n ≤ n' ∧ n' ≤ n + 200 → Fr h₀ L h' m → News h₀ L h' ((pn, penO pl n' tn' q' tq') :: (pl, lsO vs' k') :: rest) → IntsAre vs' xs' → (∀ x ∈ xs', 0 ≤ x) → vs'.length ≤ 63 → 0 ≤ q' → Q (.bytes b t) { s with heap := h', toks := tk' }) :
    Cl w dp un gd cn cs L a ccd cl outer 416 [.ref pn] Q E s := by
  k_dflt (refine' enterC [("pen", .ref pn)] B F X N T hk ?k6 ?k7 ?k8 ?k9 ?kB ?kD ?c2 ?c3 ?c4 ?_; k_extra "m_sidesC")
  intro g L' h₁ tk cells E' FG F' N' Y' B' X' T' l' hP hE
  refine (let Gz : Prop := _; (?_ : Gz))
  (refine ex1 (CellsAre.one Y') fun o1 hAz254 => ?_; refine and2 (hAz254) fun hE1 d1 => ?_; clear hAz254)
  k_unfold; clear Gz
  subst hE1
  try simp only [List.cons_append, List.nil_append] at N'
  have hcn : @Ne Nat (L' + 1) pn := Nat.ne_of_gt (Nat.lt_succ_of_lt (l' _ (.head _)))
  have hcl : @Ne Nat (L' + 1) pl := Nat.ne_of_gt (Nat.lt_succ_of_lt (l' _ (.tail _ (.head _))))
  have hrL1 : ∀ p ∈ rest, p.1 ≠ L' + 1 := fun p hp => Nat.ne_of_lt (Nat.lt_succ_of_lt (l' p (.tail _ (.tail _ hp))))
  try dsimp only
  try k_fold
  refine foldAV ?_; intro Mz Az vz gz dz oz
  k_extra "m_steps"
  have hOz3 : ∃ tb, BytsAre ws tb ∧ (tb.length ≤ 3 ∧ ∀ b ∈ tb, b.size = 4) := ⟨_, hws, drop_sizes (by decide) (by decide)⟩
  refine (let Gz : Prop := _; (?_ : Gz))
  (refine ex1 (hOz3) fun tb1 hAz255 => ?_; clear hOz3; refine and2 (hAz255) fun hws1 hNz255_2 => ?_; clear hAz255; obtain ⟨htl1, ht41⟩ := hNz255_2)
  k_unfold; clear Gz
  rename Fr g L' _ _ => F5
  rename News g L' _ _ => N5
  have hOz4 : ∃ r, News g L' _ ((pn, penO pl (n + 1) tn' q' tq') :: (pl, lsO vs' k') :: r) ∧ (dl, lsO ws 0) ∈ r ∧ (L' + 1, o1) ∈ r ∧ (∀ p ∈ rest, p ∈ r) ∧ (∀ p ∈ r, p.1 ≠ pn) ∧ (∀ p ∈ r, p.1 ≠ pl) :=
    ⟨_, by k_extra "m_pen", by k_extra "m_in", by k_extra "m_in", by k_extra "m_sub", by k_extra "m_off", by k_extra "m_off"⟩
  refine (let Gz : Prop := _; (?_ : Gz))
  (refine ex1 (hOz4) fun r1 hAz256 => ?_; clear hOz4; refine and6 (hAz256) fun N5 q1 q2 q3 q4 q5 => ?_; clear hAz256)
  k_unfold; clear Gz
  refine at_list1 (kp := []) (its := ws.toArray) (fun _ => False) (fun j ys nw => ∃ n₂ vs₂ xs₂ k₂ q₂ tn₂ tq₂ bs, nw = (pn, penO pl n₂ tn₂ q₂ tq₂) :: (pl, lsO vs₂ k₂) :: r1 ∧ (n + 1 ≤ n₂ ∧ n₂ ≤ n + 1 + 20 * (j : Int)) ∧ IntsAre vs₂ xs₂ ∧ (∀ x ∈ xs₂, 0 ≤ x) ∧ vs₂.length ≤ 63 ∧ 0 ≤ q₂ ∧ BytsAre ys bs ∧ bs.length = j ∧ tot bs ≤ 48 * j)
    B' F5 N5 rfl rfl rfl ?_ ?_ (by decide) rfl rfl ?_ ?_ (xi8 _ _ _ _ _ _ _ [] ⟨rfl, by (k_extra "m_om"), (by assumption), (by assumption), (by assumption), (by assumption), .nil, rfl, Nat.le_refl _⟩) ?_ ?_ ?_
  · rw [List.size_toArray, hws1.length, sizeLine_eq]; (k_extra "m_om")
  · intro j ys nw hJz5
    refine (let Gz : Prop := _; (?_ : Gz))
    (refine ex8 (hJz5) fun n₂ vs₂ xs₂ k₂ q₂ tn₂ tq₂ bs hAz257 => ?_; clear hJz5; refine and2 (hAz257) fun hEz257_8 _ => ?_; clear hAz257; subst hEz257_8)
    k_unfold; clear Gz
    exact .inr ⟨_, .tail _ (.tail _ q1), rfl, _, rfl⟩
  · intro _ _ _ _ _ hp; cases hp
  · intro _ hp; cases hp
  · intro _ hz; exact hz.elim
  · intro j v ys nw I oI C oC D' m₂ h tk hv hJz6
    refine (let Gz : Prop := _; (?_ : Gz))
    (refine ex8 (hJz6) fun n₂ vs₂ xs₂ k₂ q₂ tn₂ tq₂ bs hAz258 => ?_; clear hJz6; refine and9 (hAz258) fun hEz258_8 hn₂ hi₂ hx₂ hz₂ hq₂ hys hbl hbt => ?_; clear hAz258; subst hEz258_8)
    k_unfold; clear Gz
    intro hoC hx1 F1 N1 O3 hne hkk
    have hjl : j < 3 := by
      have hv' : ws[j]? = some v := by simpa using hv
      have := (List.getElem?_eq_some_iff.mp hv').1
      rw [hws1.length] at this
      (k_extra "m_om")
    have hO := O3.mem
    refine (let Gz : Prop := _; (?_ : Gz))
    (refine and3 (hO _ (.head _)) fun i1 i2 i3 => ?_)
    k_unfold; clear Gz
    refine (let Gz : Prop := _; (?_ : Gz))
    (refine and3 (hO _ (.tail _ (.head _))) fun i4 i5 i6 => ?_)
    k_unfold; clear Gz
    dsimp only at i1 i2 i3 i4 i5 i6
    k_extra "m_steps"
    refine LCg.CompEnd.intro (by assumption) (by assumption) ((pn, penO pl nn' tn' q' tq') :: (pl, lsO vs' k') :: r1) (by k_extra "m_sub")
      (LCg.Off3.of ((fmc (⟨i1, i2, i3⟩) ((fmc (⟨i4, i5, i6⟩) (fun p hp => hO p (.tail _ (.tail _ hp)))))))) trivial
      (xi8 _ _ _ _ _ _ _ (bs ++ [yb]) ⟨rfl, by (k_extra "m_om"), by assumption, by assumption, by assumption, by assumption, hys.append (.cons _ _ .nil), by rw [List.length_append, hbl]; rfl, by rw [tot_snoc]; (k_extra "m_om")⟩)
  refine fin_none ?_
  intro D1 h tk ys1 nw F1 N1 hno hJz9
  refine (let Gz : Prop := _; (?_ : Gz))
  (refine ex8 (hJz9) fun n₂ vs₂ xs₂ k₂ q₂ tn₂ tq₂ bs1 hAz262 => ?_; clear hJz9; refine and9 (hAz262) fun hEz262_8 hn₂ hi₂ hx₂ hz₂ hq₂ hys1 hbl1 hbt1 => ?_; clear hAz262; subst hEz262_8)
  k_unfold; clear Gz
  rw [List.size_toArray, hws1.length] at hbl1 hbt1 hn₂
  have dpn : @Ne Nat D1 pn := Ne.symm (hno _ (.head _))
  have dpl : @Ne Nat D1 pl := Ne.symm (hno _ (.tail _ (.head _)))
  clear F5 N5
  k_extra "m_steps"
  replace hlb : lb.size ≤ 164 := by rw [hlb]; exact oct_s1 htl1 hbt1
  replace hn₂ : n ≤ n₂ ∧ n₂ ≤ n + 61 := oct_n1 hn₂ htl1
  clear hbt1 hbl1 hys1 hws1 htl1 ht41 hno hz hx hi
  have hOz10 : ∃ tb, BytsAre ws tb ∧ (tb.length ≤ 2 ∧ ∀ b ∈ tb, b.size = 4) := ⟨_, hws, drop_sizes (by decide) (by decide)⟩
  refine (let Gz : Prop := _; (?_ : Gz))
  (refine ex1 (hOz10) fun tb2 hAz264 => ?_; clear hOz10; refine and2 (hAz264) fun hws2 hNz264_2 => ?_; clear hAz264; obtain ⟨htl2, ht42⟩ := hNz264_2)
  k_unfold; clear Gz
  rename Fr g L' _ _ => F5
  rename News g L' _ _ => N5
  have hOz11 : ∃ r, News g L' _ ((pn, penO pl (n₂ + 1) tn' q' tq') :: (pl, lsO vs' k') :: r) ∧ (dl, lsO ws 0) ∈ r ∧ (L' + 1, o1) ∈ r ∧ (∀ p ∈ rest, p ∈ r) ∧ (∀ p ∈ r, p.1 ≠ pn) ∧ (∀ p ∈ r, p.1 ≠ pl) :=
    ⟨_, by k_extra "m_pen", by k_extra "m_in", by k_extra "m_in", fun p hp => by have := q3 p hp; k_extra "m_in", by k_extra "m_off", by k_extra "m_off"⟩
  refine (let Gz : Prop := _; (?_ : Gz))
  (refine ex1 (hOz11) fun r2 hAz265 => ?_; clear hOz11; refine and6 (hAz265) fun N5 q1 q2 q3 q4 q5 => ?_; clear hAz265)
  k_unfold; clear Gz
  refine at_list1 (kp := []) (its := ws.toArray) (fun _ => False) (fun j ys nw => ∃ n₃ vs₃ xs₃ k₃ q₃ tn₃ tq₃ bs, nw = (pn, penO pl n₃ tn₃ q₃ tq₃) :: (pl, lsO vs₃ k₃) :: r2 ∧ (n₂ + 1 ≤ n₃ ∧ n₃ ≤ n₂ + 1 + (j : Int)) ∧ IntsAre vs₃ xs₃ ∧ (∀ x ∈ xs₃, 0 ≤ x) ∧ vs₃.length ≤ 63 ∧ 0 ≤ q₃ ∧ BytsAre ys bs ∧ bs.length = j ∧ tot bs ≤ 6 * j)
    B' F5 N5 rfl rfl rfl ?_ ?_ (by decide) rfl rfl ?_ ?_ (xi8 _ _ _ _ _ _ _ [] ⟨rfl, by (k_extra "m_om"), (by assumption), (by assumption), (by assumption), (by assumption), .nil, rfl, Nat.le_refl _⟩) ?_ ?_ ?_
  · rw [List.size_toArray, hws2.length, sizeLine_eq]; (k_extra "m_om")
  · intro j ys nw hJz12
    refine (let Gz : Prop := _; (?_ : Gz))
    (refine ex8 (hJz12) fun n₃ vs₃ xs₃ k₃ q₃ tn₃ tq₃ bs hAz266 => ?_; clear hJz12; refine and2 (hAz266) fun hEz266_8 _ => ?_; clear hAz266; subst hEz266_8)
    k_unfold; clear Gz
    exact .inr ⟨_, .tail _ (.tail _ q1), rfl, _, rfl⟩
  · intro _ _ _ _ _ hp; cases hp
  · intro _ hp; cases hp
  · intro _ hz; exact hz.elim
  · intro j v ys nw I oI C oC D' m₂ h tk hv hJz13
    refine (let Gz : Prop := _; (?_ : Gz))
    (refine ex8 (hJz13) fun n₃ vs₃ xs₃ k₃ q₃ tn₃ tq₃ bs hAz267 => ?_; clear hJz13; refine and9 (hAz267) fun hEz267_8 hn₃ hi₃ hx₃ hz₃ hq₃ hys hbl hbt => ?_; clear hAz267; subst hEz267_8)
    k_unfold; clear Gz
    intro hoC hx1 F1 N1 O3 hne hkk
    have hjl : j < 2 := by
      have hv' : ws[j]? = some v := by simpa using hv
      have := (List.getElem?_eq_some_iff.mp hv').1
      rw [hws2.length] at this
      (k_extra "m_om")
    have hO := O3.mem
    refine (let Gz : Prop := _; (?_ : Gz))
    (refine and3 (hO _ (.head _)) fun i1 i2 i3 => ?_)
    k_unfold; clear Gz
    refine (let Gz : Prop := _; (?_ : Gz))
    (refine and3 (hO _ (.tail _ (.head _))) fun i4 i5 i6 => ?_)
    k_unfold; clear Gz
    dsimp only at i1 i2 i3 i4 i5 i6
    k_extra "m_steps"
    refine LCg.CompEnd.intro (by assumption) (by assumption) ((pn, penO pl (n₃ + 1) tn' q' tq') :: (pl, lsO vs' k') :: r2) (by k_extra "m_sub")
      (LCg.Off3.of ((fmc (⟨i1, i2, i3⟩) ((fmc (⟨i4, i5, i6⟩) (fun p hp => hO p (.tail _ (.tail _ hp)))))))) trivial
      (xi8 _ _ _ _ _ _ _ (bs ++ [rb]) ⟨rfl, by (k_extra "m_om"), by assumption, by assumption, by assumption, by assumption, hys.append (.cons _ _ .nil), by rw [List.length_append, hbl]; rfl, by rw [tot_snoc]; (k_extra "m_om")⟩)
  refine fin_none ?_
  intro D2 h tk ys2 nw F1 N1 hno2 hJz16
  refine (let Gz : Prop := _; (?_ : Gz))
  (refine ex8 (hJz16) fun n₃ vs₃ xs₃ k₃ q₃ tn₃ tq₃ bs2 hAz271 => ?_; clear hJz16; refine and9 (hAz271) fun hEz271_8 hn₃ hi₃ hx₃ hz₃ hq₃ hys2 hbl2 hbt2 => ?_; clear hAz271; subst hEz271_8)
  k_unfold; clear Gz
  rw [List.size_toArray, hws2.length] at hbl2 hbt2 hn₃
  have dpn2 : @Ne Nat D2 pn := Ne.symm (hno2 _ (.head _))
  have dpl2 : @Ne Nat D2 pl := Ne.symm (hno2 _ (.tail _ (.head _)))
  clear F5 N5
  k_extra "m_steps"
  replace hlb : lb.size ≤ 26 := by rw [hlb]; exact oct_s2 htl2 hbt2
  replace hn₃ : n ≤ n₃ ∧ n₃ ≤ n + 64 := oct_n2 hn₃ hn₂ htl2
  rename IsRange _ _ _ _ _ _ _ _ => hR
  rename Fr g L' _ _ => F5
  rename News g L' _ _ => N5
  have hOz17 : ∃ r, News g L' _ ((pn, penO pl (n₃ + 1) tn' q' tq') :: (pl, lsO vs' k') :: r) ∧ (L' + 1, o1) ∈ r ∧ (∀ p ∈ rest, p ∈ r) ∧ (∀ p ∈ r, p.1 ≠ pn) ∧ (∀ p ∈ r, p.1 ≠ pl) :=
    ⟨_, by k_extra "m_pen", by k_extra "m_in", fun p hp => by have := q3 p hp; k_extra "m_in", by k_extra "m_off", by k_extra "m_off"⟩
  refine (let Gz : Prop := _; (?_ : Gz))
  (refine ex1 (hOz17) fun r3 hAz273 => ?_; clear hOz17; refine and5 (hAz273) fun N5 q2 q3 q4 q5 => ?_; clear hAz273)
  k_unfold; clear Gz
  refine at_range1 (kp := []) (n := dw.toNat) (fun _ => False) (fun j ys nw => ∃ n₄ vs₄ xs₄ k₄ q₄ tn₄ tq₄ bs, nw = (pn, penO pl n₄ tn₄ q₄ tq₄) :: (pl, lsO vs₄ k₄) :: r3 ∧ (n₃ + 1 ≤ n₄ ∧ n₄ ≤ n₃ + 1 + 20 * (j : Int)) ∧ IntsAre vs₄ xs₄ ∧ (∀ x ∈ xs₄, 0 ≤ x) ∧ vs₄.length ≤ 63 ∧ 0 ≤ q₄ ∧ BytsAre ys bs ∧ bs.length = j ∧ tot bs ≤ 16 * j)
    B' F5 N5 rfl rfl rfl hR (range_small (by (k_extra "m_om")) (by (k_extra "m_om"))) (range_size (by (k_extra "m_om"))) (by rw [sizeLine_eq]; (k_extra "m_om")) (by decide) rfl rfl ?_ ?_ (xi8 _ _ _ _ _ _ _ [] ⟨rfl, by (k_extra "m_om"), (by assumption), (by assumption), (by assumption), (by assumption), .nil, rfl, Nat.le_refl _⟩) ?_ ?_ ?_
  · intro _ _ _ _ _ hp; cases hp
  · intro _ hp; cases hp
  · intro _ hz; exact hz.elim
  · intro j tj ys nw I oI C oC D' m₂ h tk hj hJz18
    refine (let Gz : Prop := _; (?_ : Gz))
    (refine ex8 (hJz18) fun n₄ vs₄ xs₄ k₄ q₄ tn₄ tq₄ bs hAz274 => ?_; clear hJz18; refine and9 (hAz274) fun hEz274_8 hn₄ hi₄ hx₄ hz₄ hq₄ hys hbl hbt => ?_; clear hAz274; subst hEz274_8)
    k_unfold; clear Gz
    intro hoC hm₂ F1 N1 O3 hne hkk
    have hO := O3.mem
    refine (let Gz : Prop := _; (?_ : Gz))
    (refine and3 (hO _ (.head _)) fun i1 i2 i3 => ?_)
    k_unfold; clear Gz
    refine (let Gz : Prop := _; (?_ : Gz))
    (refine and3 (hO _ (.tail _ (.head _))) fun i4 i5 i6 => ?_)
    k_unfold; clear Gz
    dsimp only at i1 i2 i3 i4 i5 i6
    have hjl : j < 3 := by (k_extra "m_om")
    k_extra "m_steps"
    refine LCg.CompEnd.intro (by assumption) (by assumption) ((pn, penO pl nn' tn' q' tq') :: (pl, lsO vs' k') :: r3) (by k_extra "m_sub")
      (LCg.Off3.of ((fmc (⟨i1, i2, i3⟩) ((fmc (⟨i4, i5, i6⟩) (fun p hp => hO p (.tail _ (.tail _ hp)))))))) trivial
      (xi8 _ _ _ _ _ _ _ (bs ++ [yb]) ⟨rfl, by (k_extra "m_om"), by assumption, by assumption, by assumption, by assumption, hys.append (.cons _ _ .nil), by rw [List.length_append, hbl]; rfl, by rw [tot_snoc]; (k_extra "m_om")⟩)
  refine fin_someU ?_ ?_ ?_ ?_
  · exact rfl
  · exact rfl
  · exact rfl
  intro D3 h tk ys3 nw F1 N1 hno3 hJz21
  refine (let Gz : Prop := _; (?_ : Gz))
  (refine ex8 (hJz21) fun n₄ vs₄ xs₄ k₄ q₄ tn₄ tq₄ bs3 hAz278 => ?_; clear hJz21; refine and9 (hAz278) fun hEz278_8 hn₄ hi₄ hx₄ hz₄ hq₄ hys3 hbl3 hbt3 => ?_; clear hAz278; subst hEz278_8)
  k_unfold; clear Gz
  have hbl4 : bs3.length ≤ 2 := by (k_extra "m_om")
  have hyl3 := hys3.length
  replace hn₄ : n ≤ n₄ ∧ n₄ ≤ n + 110 := oct_n3 hn₄ hn₃ hd0 hd1
  replace hbt3 : tot bs3 ≤ 32 := Nat.le_trans hbt3 (oct_t hd0 hd1)
  clear hbt2 hbl2 hys2 hws2 htl2 ht42 hno2 dpn2 dpl2 hn₂ hn₃ hd0 hd1 hbl3 hi₃ hx₃ hz₃ hq₃ hi₂ hx₂ hz₂ hq₂ hi' hx' hz' hq'
  have dpn3 : @Ne Nat D3 pn := Ne.symm (hno3 _ (.head _))
  have dpl3 : @Ne Nat D3 pl := Ne.symm (hno3 _ (.tail _ (.head _)))
  clear F5 N5
  k_extra "m_steps"
  rename Fr g L' _ _ => F5
  rename News g L' _ _ => N5
  replace N5 := News.sub (news' := (lw, LCg.lst []) :: (pn, penO pl n₄ tn₄ q₄ tq₄) :: (pl, lsO vs₄ k₄) :: (D3, LCg.lst ys3) :: r3) N5 (by k_extra "m_sub")
  have hrl : ∀ p ∈ (pn, penO pl n₄ tn₄ q₄ tq₄) :: (pl, lsO vs₄ k₄) :: (D3, LCg.lst ys3) :: r3, p.1 ≠ lw := by
    have hsub : ∀ p ∈ (pn, penO pl n₄ tn₄ q₄ tq₄) :: (pl, lsO vs₄ k₄) :: (D3, LCg.lst ys3) :: r3, p ∈ (D3, LCg.lst ys3) :: (pn, penO pl n₄ tn₄ q₄ tq₄) :: (pl, lsO vs₄ k₄) :: r3 := by k_extra "m_sub"
    exact fun p hp => Nat.ne_of_lt (llwx p (hsub p hp))
  refine for1_list (l := D3) (vs := ys3.toArray) (k := ys3.length) [Str.ofString "part", Str.ofString "begin"] (fun j m₁ nw => ∃ us ns t bg, m₁ (Str.ofString "begin") = some (.int bg t) ∧ nw = (lw, LCg.lst us) :: (pn, penO pl n₄ tn₄ q₄ tq₄) :: (pl, lsO vs₄ k₄) :: (D3, LCg.lst ys3) :: r3 ∧ IntsAre us ns ∧ ns.length = j ∧ (∀ x ∈ ns, 0 ≤ x ∧ x < 65536) ∧ 0 ≤ bg ∧ bg ≤ 6 + tot (bs3.take j))
    rfl F5 N5 ?_ ⟨[], [], _, _, rfl, rfl, .nil, rfl, List.forall_mem_nil _, by (k_extra "m_om"), by (k_extra "m_om")⟩ ?_ ?_
  · intro j m₁ nw hJz22
    refine (let Gz : Prop := _; (?_ : Gz))
    (refine ex4 (hJz22) fun us ns t bg hAz280 => ?_; clear hJz22; refine and3 (hAz280) fun _ hEz280_5 _ => ?_; clear hAz280; subst hEz280_5)
    k_unfold; clear Gz
    exact .tail _ (.tail _ (.tail _ (.head _)))
  · intro j v m₁ nw h tk I it hv hJz23
    refine (let Gz : Prop := _; (?_ : Gz))
    (refine ex4 (hJz23) fun us ns t bg hAz281 => ?_; clear hJz23; refine and7 (hAz281) fun hbg hEz281_5 hui hul hub hb0 hb1 => ?_; clear hAz281; subst hEz281_5)
    k_unfold; clear Gz
    intro hS F1 N1 hI
    refine (let Gz : Prop := _; (?_ : Gz))
    (refine ex2 (hys3.get (by simpa using hv)) fun c2 u2 hAz282 => ?_; refine and2 (hAz282) fun hc2 hEz282_3 => ?_; clear hAz282; subst hEz282_3)
    k_unfold; clear Gz
    have ht1 := tot_take hc2
    have ht2 := tot_le bs3 (j + 1)
    have hjl : j < 2 := by
      have := (List.getElem?_eq_some_iff.mp hc2).1
      (k_extra "m_om")
    have huz : us.length ≤ 1000000 := by rw [hui.length]; (k_extra "m_om")
    have hIl : @Ne Nat lw I := hI _ (.head _)
    have F2 := Fr.top F1 (k := Str.ofString "begin") (v := .int bg t) (by rw [if_neg (by decide +kernel), if_pos (by decide +kernel)]; exact hbg)
    clear F1 F5 N5
    k_extra "m_steps"
    refine TurnPost.intro (by assumption) (by assumption) ((lw, LCg.lst (us ++ [.int bg t])) :: (pn, penO pl n₄ tn₄ q₄ tq₄) :: (pl, lsO vs₄ k₄) :: (D3, LCg.lst ys3) :: r3) (by k_extra "m_sub") ?_ (by k_extra "m_same")
      ⟨us ++ [.int bg t], ns ++ [bg], _, _, rfl, rfl, IntsAre.append hui (.cons _ _ .nil), by rw [List.length_append, hul]; rfl, List.forall_mem_append.mpr ⟨hub, (fmc (by (k_extra "m_om")) (List.forall_mem_nil _))⟩, by (k_extra "m_om"), by (k_extra "m_om")⟩
    exact (fmc (hIl) (fun p hp => hI p (.tail _ hp)))
  · intro m' nw h tk hJz25
    refine (let Gz : Prop := _; (?_ : Gz))
    (refine ex4 (hJz25) fun us ns t bg hAz283 => ?_; clear hJz25; refine and7 (hAz283) fun hbg hEz283_5 hui hul hub hb0 hb1 => ?_; clear hAz283; subst hEz283_5)
    k_unfold; clear Gz
    intro hS F1 N1
    rw [List.size_toArray] at hul
    have F2 := Fr.top F1 (k := Str.ofString "begin") (v := .int bg t) (by rw [if_pos (by decide +kernel)]; exact hbg)
    clear F1 F5 N5
    k_extra "m_steps"
    rename News g L' _ _ => NJ
    refine join_bytes (vs := ys3) (NJ (D3, LCg.lst ys3) (by k_extra "m_in")).1 hys3 (by (k_extra "m_om")) fun jr jt jk hjr => ?_
    k_extra "m_steps"
    rename Fr g L' _ _ => F5
    rename News g L' _ _ => N5
    have hOz26 : ∃ r, News g L' _ ((pn, penO pl n₄ tn₄ q₄ tq₄) :: (pl, lsO vs₄ k₄) :: r) ∧ (L' + 1, o1) ∈ r ∧ (∀ p ∈ rest, p ∈ r) ∧ (∀ p ∈ r, p.1 ≠ pn) ∧ (∀ p ∈ r, p.1 ≠ pl) :=
      ⟨_, by k_extra "m_pen", by k_extra "m_in", fun p hp => by have := q3 p hp; k_extra "m_in", by k_extra "m_off", by k_extra "m_off"⟩
    refine (let Gz : Prop := _; (?_ : Gz))
    (refine ex1 (hOz26) fun r4 hAz284 => ?_; clear hOz26; refine and5 (hAz284) fun N5 q2 q3 q4 q5 => ?_; clear hAz284)
    k_unfold; clear Gz
    refine join_pen (n₄ + 1) F5 N5 ?_ ?_
    · k_extra "m_steps"
      all_goals exact PenP.mk (by assumption) (by assumption) (by (k_extra "m_om")) (by assumption) (by assumption) (by assumption) (by assumption)
    intro h' tk' x1 t1 vs₅ xs₅ k₅ q₅ tn₅ tq₅ F6 N6 hx1b hi₅ hx₅ hz₅ hq₅
    k_extra "m_steps"
    rename Fr g L' _ _ => F5
    rename News g L' _ _ => N5
    have hOz27 : ∃ r, News g L' _ ((pn, penO pl (n₄ + 1 + 1) tn' q' tq') :: (pl, lsO vs' k') :: r) ∧ (L' + 1, o1) ∈ r ∧ (∀ p ∈ rest, p ∈ r) ∧ (∀ p ∈ r, p.1 ≠ pn) ∧ (∀ p ∈ r, p.1 ≠ pl) :=
      ⟨_, by k_extra "m_pen", by k_extra "m_in", fun p hp => by have := q3 p hp; k_extra "m_in", by k_extra "m_off", by k_extra "m_off"⟩
    refine (let Gz : Prop := _; (?_ : Gz))
    (refine ex1 (hOz27) fun r5 hAz285 => ?_; clear hOz27; refine and5 (hAz285) fun N5 q2 q3 q4 q5 => ?_; clear hAz285)
    k_unfold; clear Gz
    refine join_pen (n₄ + 1 + 1 + 1) F5 N5 ?_ ?_
    · k_extra "m_steps"
      all_goals exact PenP.mk (by assumption) (by assumption) (by (k_extra "m_om")) (by assumption) (by assumption) (by assumption) (by assumption)
    intro h' tk' x2 t2 vs₆ xs₆ k₆ q₆ tn₆ tq₆ F6 N6 hx2b hi₆ hx₆ hz₆ hq₆
    k_extra "m_steps"
    rename Fr h₀ L _ _ => FZ
    rename News h₀ L _ _ => NZ
    exact hok _ _ _ _ vs₆ xs₆ k₆ q₆ tn₆ tq₆ (n₄ + 1 + 1 + 1) (by (k_extra "m_om")) (by (k_extra "m_om")) FZ (News.sub NZ ((fmc (by k_extra "m_in") ((fmc (by k_extra "m_in") (fun p hp => by have := q3 p hp; k_extra "m_in")))))) (by assumption) (by assumption) (by assumption) (by assumption)
end
theorem off_P7 : True := by
  k_with "off P7" => (skip)
  exact trivial
end
section
theorem reset_P8 : True := by
  w_top off
  exact trivial
theorem lines_P81 : True := by
  k_with "binaryOp Add bytes bytes" => (first | ((fail_if_success (k_extra "off P8")); (k_here; (with_reducible refine add_size ?zz ?_); (case zz => (try simp only [List.size_toArray, List.length_cons, List.length_nil]); (k_extra "m_om")); intro brz btz bkz hbrz; (try simp only [List.size_toArray, List.length_cons, List.length_nil] at hbrz))) | fail)
  k_with "call builtin:len" => (first | ((fail_if_success (k_extra "off P8")); (k_here; (with_reducible show wpAny _ _ (call (Value.builtin _) [Value.bytes _ _]) _ _ _); (with_reducible refine len_B ?zz ?_); (case zz => (try simp only [List.size_toArray, List.length_cons, List.length_nil]); (k_extra "m_om")); intro btz bkz; (try simp only [List.size_toArray, List.length_cons, List.length_nil]))) | fail)
  k_with "call builtin:len" => (first | ((fail_if_success (k_extra "off P8")); (k_here; (with_reducible show wpAny _ _ (call (Value.builtin _) [Value.ref _]) _ _ _); k_dflt (refine' len_V ?zma ?zmz ?_; (case zma => exact News.ls (by k_asm) (by k_mem)); (case zmz => first | decide | (k_extra "m_om"))); (try simp only [List.length_cons, List.length_nil]))) | fail)
  k_with "subscriptTail Name Slice ref ref" => (first | ((fail_if_success (k_extra "off P8")); (k_here; (with_reducible show wpAny _ _ (subscriptTail _ (PySem.Expr.Slice _ _ none _) (Value.ref _) (Value.ref _)) _ _ _); k_dflt (refine' slice_byts ?sbF ?sbN ?sbl ?sbb ?sb0 ?sbp ?sbq ?_ ?sbs ?sbt ?sbz; (case sbF => k_asm); (case sbN => k_asm); (case sbl => exact News.ls (by k_asm) (by k_mem)); (case sbb => k_extra "m_byts"); (case sbp => exact IsPart.int _ _); (case sb0 => assumption); (case sbq => exact IsPart.none); (case sbs => with_unfolding_all rfl); (case sbt => kmk_pure); (case sbz => exact Nat.le_of_ble_eq_true rfl)); intro dl ws h' F' N' ldl hws; have ldlx := ldl; (try k_lt ldl); (try k_sweep))) | fail)
  k_with "subscriptTail Name Slice bytes ref" => (first | ((fail_if_success (k_extra "off P8")); (k_here; (with_reducible show wpAny _ _ (subscriptTail _ (PySem.Expr.Slice _ _ none _) (Value.bytes _ _) (Value.ref _)) _ _ _); k_dflt (refine' cut_B ?sbF ?sbN ?sbp ?sbq ?sbz ?_ ?sbs ?sbt; (case sbF => k_asm); (case sbN => k_asm); (case sbp => kmk_part); (case sbq => kmk_part); (case sbz => (k_extra "m_om")); (case sbs => with_unfolding_all rfl); (case sbt => kmk_pure)); intro cr h' ct ck hcr F' N'; (try k_sweep))) | fail)
  exact trivial
theorem cut_to {prog : Program} {w : World} {A : Around} {E : Value → Shared → Prop} {s : Shared} {value slice : PySem.Expr} {b : Array UInt8} {t ui : Tok} {i : Int} {h₀ : Heap} {L : Addr} {m : PySem.Str → Option Value} {news : List (Addr × Obj)} {Q : Value → Shared → Prop} (hF : Fr h₀ L s.heap m) (hN : News h₀ L s.heap news) (h0 : 0 ≤ i) (h1 : i ≤ b.size) (hz : b.size ≤ 100000)
    (h : ∀ r h' t' k, (r.size : Int) = i → Fr h₀ L h' m → News h₀ L h' news → Q (.bytes r t') { s with heap := h', toks := k })
    (hs : subscripted slice false (.bytes b t) (.ref s.heap.objs.size) = operate [.ref s.heap.objs.size, .bytes b t] (getItem (.bytes b t) (.ref s.heap.objs.size)))
    (ht : ∀ r, letTemporaryGo value (.bytes b t) r = pure ()) :
    wpAny (model prog w) A (subscriptTail value slice (.bytes b t) (.ref s.heap.objs.size)) Q E { s with heap := s.heap.push { cls := .type "slice", data := .fields #[.none, .int i ui, .none] } } :=
  KBc.slice_K hF hN (ks := KBw.bInts b) rfl .none (.int i ui) (by rw [KBw.ints_length]; (k_extra "m_om")) (fun h' t' k F' N' e => h _ h' t' k (by
    have e2 := congrArg List.length e
    rw [KBw.ints_length, List.length_take, List.length_drop, KBw.ints_length] at e2
    simp only [Option.elim] at e2
    rw [clip_nn h0 h1] at e2
    (k_extra "m_om")) F' N') hs ht
theorem cut_from {prog : Program} {w : World} {A : Around} {E : Value → Shared → Prop} {s : Shared} {value slice : PySem.Expr} {b : Array UInt8} {t ui : Tok} {i : Int} {h₀ : Heap} {L : Addr} {m : PySem.Str → Option Value} {news : List (Addr × Obj)} {Q : Value → Shared → Prop} (hF : Fr h₀ L s.heap m) (hN : News h₀ L s.heap news) (h0 : 0 ≤ i) (h1 : i ≤ b.size) (hz : b.size ≤ 100000)
    (h : ∀ r h' t' k, (r.size : Int) = b.size - i → Fr h₀ L h' m → News h₀ L h' news → Q (.bytes r t') { s with heap := h', toks := k })
    (hs : subscripted slice false (.bytes b t) (.ref s.heap.objs.size) = operate [.ref s.heap.objs.size, .bytes b t] (getItem (.bytes b t) (.ref s.heap.objs.size)))
    (ht : ∀ r, letTemporaryGo value (.bytes b t) r = pure ()) :
    wpAny (model prog w) A (subscriptTail value slice (.bytes b t) (.ref s.heap.objs.size)) Q E { s with heap := s.heap.push { cls := .type "slice", data := .fields #[.int i ui, .none, .none] } } :=
  KBc.slice_K hF hN (ks := KBw.bInts b) rfl (.int i ui) .none (by rw [KBw.ints_length]; (k_extra "m_om")) (fun h' t' k F' N' e => h _ h' t' k (by
    have e2 := congrArg List.length e
    rw [KBw.ints_length, List.length_take, List.length_drop, KBw.ints_length] at e2
    simp only [Option.elim] at e2
    rw [clip_nn h0 h1] at e2
    (k_extra "m_om")) F' N') hs ht
theorem item_byts {kk c : Nat} {prog : Program} {w : World} {A : Around} {E : Value → Shared → Prop} {s : Shared} {h₀ : Heap} {L l : Addr} {news : List (Addr × Obj)} {Q : Value → Shared → Prop} {us : List Value} {bs : List (Array UInt8)} {j : Int} {value slice : PySem.Expr} {u : Tok} (N : News h₀ L s.heap news) (ma : (l, lsO us kk) ∈ news) (hb : BytsAre us bs) (hl : us.length < 1000) (h0 : 0 ≤ j) (h1 : j < us.length) (hc : ∀ b ∈ bs, b.size ≤ c) (h : ∀ b t, b.size ≤ c → Q (.bytes b t) s)
    (hs : subscripted slice false (.ref l) (.int j u) = operate [.ref l, .int j u] (getItem (.ref l) (.int j u)) := by with_unfolding_all rfl) :
    wpAny (model prog w) A (subscriptTail value slice (.ref l) (.int j u)) Q E s := by
  have hj : j.toNat < us.length := by (k_extra "m_om")
  refine (let Gz : Prop := _; (?_ : Gz))
  (refine ex2 (hb.get (List.getElem?_eq_getElem hj)) fun b t hAz286 => ?_; refine and2 (hAz286) fun hb' e => ?_; clear hAz286)
  k_unfold; clear Gz
  refine item_at_K (vs := us) (v := us[j.toNat]) N ma h0 (by (k_extra "m_om")) (List.getElem?_eq_getElem hj) ?_ hs
  rw [e]
  exact h b t (hc b (List.mem_of_getElem? hb'))
section
variable {w : World} {dp un : Nat} {gd : Option (List Code)} {cn : Str} {cs : Scope} {a : Addr} {ccd : Value} {cl : List (Str × Addr)} {outer : List Env} {A₀ : Around} {base h₀ : Heap} {L : Addr} {m : Str → Option Value} {s : Shared} {Q E : Value → Shared → Prop} {p : Program} {loose : List Str} {mean : ExcName → Option Value} {mg mb : Str → Option Value} {rest : List (Addr × Obj)} {pn pl : Addr} {vs : List Value} {xs : List Int} {k : Nat} {n q : Int} {tn tq : Tok}
variable (B : Below A₀ base outer h₀) (F : Fr h₀ L s.heap m) (X : (hd.heap_39 w.params).In h₀) (N : News h₀ L s.heap ((pn, penO pl n tn q tq) :: (pl, lsO vs k) :: rest)) (T : Top p loose mean mg mb h₀) (hk : cs.kind = .function)
include B F X N T hk
theorem lines_P82 : True := by
  k_with "call ref" => (first | ((fail_if_success (k_extra "off P8")); (k_here; (with_reducible show wpAny _ _ (call (Value.ref 375) _) _ _ _); k_dflt (refine' draw_spec ?k1 ?k2 ?k3 ?k4 ?k5 ?kK ?kd ?ku ?kI ?kx ?kz ?kn ?kq ?kP ?kr1 ?kr2 _ _ ?km ?_; (case k1 => k_asm); (case k2 => k_asm); (case k3 => k_asm); (case k4 => k_extra "m_pen"); (case k5 => k_asm); (case kK => first | exact rfl | assumption); (case kd => first | exact room_n (by with_reducible assumption) (by decide) | ktr_room); (case ku => first | exact room_n (by with_reducible assumption) (by decide) | ktr_units); (case kI => assumption); (case kx => assumption); (case kz => assumption); (case kn => (k_extra "m_om")); (case kq => assumption); (case kP => assumption); (case kr1 => k_extra "m_off"); (case kr2 => k_extra "m_off"); (case km => first | decide | (k_extra "m_om")); (intro dw hd0 hd1 h' tk' tdw vs' xs' k' q' tn' tq' F' N' hi' hx' hz' hq'; (try k_sweep))))) | fail)
  k_with "call ref" => (first | ((fail_if_success (k_extra "off P8")); (k_here; (with_reducible show wpAny _ _ (call (Value.ref 382) _) _ _ _); k_dflt (refine' pick_spec ?k1 ?k2 ?k3 ?k4 ?k5 ?kK ?kd ?ku ?kI ?kx ?kz ?kn ?kq ?kP ?kr1 ?kr2 _ _ _ ?km ?ku0 ?_; (case k1 => k_asm); (case k2 => k_asm); (case k3 => k_asm); (case k4 => k_extra "m_pen"); (case k5 => k_asm); (case kK => first | exact rfl | assumption); (case kd => first | exact room_n (by with_reducible assumption) (by decide) | ktr_room); (case ku => first | exact room_n (by with_reducible assumption) (by decide) | ktr_units); (case kI => assumption); (case kx => assumption); (case kz => assumption); (case kn => (k_extra "m_om")); (case kq => assumption); (case kP => assumption); (case kr1 => k_extra "m_off"); (case kr2 => k_extra "m_off"); (case km => k_extra "m_in"); (case ku0 => (simp only [List.length_cons, List.length_nil]; decide)); (intro pj pv hpj h' tk' vs' xs' k' q' tn' tq' F' N' hi' hx' hz' hq'; (first | (obtain ⟨px, ptx, epx, hpx⟩ := pick_int hpj (by k_extra "m_intsare"); subst epx; simp only [List.mem_cons, List.not_mem_nil, or_false] at hpx) | (obtain ⟨pbx, ptx, epx, hpx⟩ := pick_byt (k := 2) hpj (by k_extra "m_byts") (by decide); subst epx)); (try k_sweep))))) | fail)
  k_with "subscriptTail Name Slice bytes ref" => (first | ((fail_if_success (k_extra "off P8")); (k_here; (with_reducible show wpAny _ _ (subscriptTail _ (PySem.Expr.Slice none (some _) none _) (Value.bytes _ _) (Value.ref _)) _ _ _); k_dflt (refine' cut_to ?sbF ?sbN ?sb0 ?sb1 ?sbz ?_ ?sbs ?sbt; (case sbF => k_asm); (case sbN => k_asm); (case sb0 => (k_extra "m_om")); (case sb1 => (k_extra "m_om")); (case sbz => (k_extra "m_om")); (case sbs => with_unfolding_all rfl); (case sbt => kmk_pure)); intro cr h' ct ck hcr F' N'; (try k_sweep))) | fail)
  k_with "subscriptTail Name Slice bytes ref" => (first | ((fail_if_success (k_extra "off P8")); (k_here; (with_reducible show wpAny _ _ (subscriptTail _ (PySem.Expr.Slice (some _) none none _) (Value.bytes _ _) (Value.ref _)) _ _ _); k_dflt (refine' cut_from ?sbF ?sbN ?sb0 ?sb1 ?sbz ?_ ?sbs ?sbt; (case sbF => k_asm); (case sbN => k_asm); (case sb0 => (k_extra "m_om")); (case sb1 => (k_extra "m_om")); (case sbz => (k_extra "m_om")); (case sbs => with_unfolding_all rfl); (case sbt => kmk_pure)); intro cr h' ct ck hcr F' N'; (try k_sweep))) | fail)
  k_with "call type:bytes" => (first | ((fail_if_success (k_extra "off P8")); k_extra "m_stop") | fail)
  k_with "subscriptTail List" => (first | ((fail_if_success (k_extra "off P8")); k_extra "m_stop") | fail)
  exact trivial
set_option maxHeartbeats 2000000 in
theorem bent_b (hd : dp + 25 < recursionLimit) (hu : un + 150 < cLine) (hi : IntsAre vs xs) (hx : ∀ x ∈ xs, 0 ≤ x) (hz : vs.length ≤ 63) (hn : 0 ≤ n ∧ n < 80000) (hq : 0 ≤ q) (hpp : @Ne Nat pn pl) (hr1 : ∀ p ∈ rest, p.1 ≠ pn) (hr2 : ∀ p ∈ rest, p.1 ≠ pl) (b : Array UInt8) (tb : Tok) (hb : 1 ≤ b.size ∧ b.size ≤ 300)
    (hok : ∀ b t h' tk' vs' xs' k' q' tn' tq' n', b.size ≤ 301 → n ≤ n' ∧ n' ≤ n + 10 → Fr h₀ L h' m → News h₀ L h' ((pn, penO pl n' tn' q' tq') :: (pl, lsO vs' k') :: rest) → IntsAre vs' xs' → (∀ x ∈ xs', 0 ≤ x) → vs'.length ≤ 63 → 0 ≤ q' → Q (.bytes b t) { s with heap := h', toks := tk' }) :
    Cl w dp un gd cn cs L a ccd cl outer 423 [.ref pn, .bytes b tb] Q E s := by
  k_dflt (refine' enter [("pen", .ref pn), ("data", .bytes b tb)] B F X N T hk ?k6 ?k7 ?k8 ?k9 ?kB ?c2 ?c3 ?c4 ?c5 ?_; k_extra "m_sides")
  intro g L' h₁ E' FG F' N' B' X' T' hP hE
  try dsimp only
  try k_fold
  refine foldAV ?_; intro Mz Az vz gz dz oz
  k_extra "m_steps"
  refine bytes_K (vs := [_]) (ns := [px]) (by assumption) (by assumption) (News.ls (vs := [_]) (by assumption) (.head _)) (.cons _ _ .nil) ?_ (by rw [sizeLine_eq]; exact Nat.le_of_ble_eq_true rfl) rfl ?_
  · intro z hz
    rw [List.mem_singleton.mp hz]
    (k_extra "m_om")
  clear hpx hpj
  intro h' t' k9 F2 N2 _
  have hOz2 : ∃ c : Array UInt8, c = (List.map (fun n : Int => n.toNat.toUInt8) [px]).toArray ∧ c.size = 1 := ⟨_, rfl, rfl⟩
  refine (let Gz : Prop := _; (?_ : Gz))
  (refine ex1 (hOz2) fun cb hAz287 => ?_; clear hOz2; refine and2 (hAz287) fun hcb hcz => ?_; clear hAz287)
  k_unfold; clear Gz
  rw [← hcb]
  k_extra "m_steps"
  rename Fr g L' _ _ => F5
  rename News g L' _ _ => N5
  refine item_byts (c := 301) N5 (.head _) (.cons _ _ (.cons _ _ (.cons _ _ (.cons _ _ (.cons _ _ .nil))))) (by simp only [List.length_cons, List.length_nil]; decide) (by assumption) (by simp only [List.length_cons, List.length_nil]; (k_extra "m_om")) ?_ ?_
  · refine (fmc (by (k_extra "m_om")) ((fmc (by (k_extra "m_om")) ((fmc (by (k_extra "m_om")) ((fmc (by (k_extra "m_om")) ((fmc (by (k_extra "m_om")) (List.forall_mem_nil _))))))))))
  intro eb et heb
  k_extra "m_steps"
  rename Fr h₀ L _ _ => FZ
  rename News h₀ L _ _ => NZ
  exact hok _ _ _ _ vs' xs' k' q' tn' tq' (n + 1 + 1 + 1) heb (by (k_extra "m_om")) FZ (News.sub NZ (by k_extra "m_sub")) (by assumption) (by assumption) (by assumption) (by assumption)
end
theorem off_P8 : True := by
  k_with "off P8" => (skip)
  exact trivial
end
section
theorem reset_P9 : True := by
  w_top off
  exact trivial
theorem named_news {h₀ h : Heap} {L d : Addr} {o : Obj} {r : List (Addr × Obj)} (N : News h₀ L h ((d, o) :: r)) : ∃ x, x = d := ⟨d, rfl⟩
theorem named_ints {us : List Value} {ns : List Int} (h : IntsAre us ns) : ∃ w, w = us := ⟨us, rfl⟩
section
variable {w : World} {dp un : Nat} {gd : Option (List Code)} {cn : Str} {cs : Scope} {a : Addr} {ccd : Value} {cl : List (Str × Addr)} {outer : List Env} {A₀ : Around} {base h₀ : Heap} {L : Addr} {m : Str → Option Value} {s : Shared} {Q E : Value → Shared → Prop} {p : Program} {loose : List Str} {mean : ExcName → Option Value} {mg mb : Str → Option Value} {news : List (Addr × Obj)}
variable (B : Below A₀ base outer h₀) (F : Fr h₀ L s.heap m) (X : (hd.heap_39 w.params).In h₀) (N : News h₀ L s.heap news) (T : Top p loose mean mg mb h₀) (hk : cs.kind = .function)
include B F X N T hk
set_option maxHeartbeats 2000000 in
theorem pen_new (hd : dp + 10 < recursionLimit) (hu : un + 100 < cLine) (sl : Addr) (us : List Value) (zs : List Int) (hl : h₀.IsList sl us.toArray) (hi : IntsAre us zs) (hz : us.length ≤ 63)
    (hok : ∀ h' tk' pn pl vs' xs' k' t1 t2, Fr h₀ L h' m → News h₀ L h' ((pn, penO pl 0 t1 0 t2) :: (pl, lsO vs' k') :: news) → IntsAre vs' xs' → (∀ x ∈ xs', 0 ≤ x) → vs'.length ≤ 63 → @Ne Nat pn pl → (∀ p ∈ news, p.1 ≠ pn) → (∀ p ∈ news, p.1 ≠ pl) → Q (.ref pn) { s with heap := h', toks := tk' }) :
    Cl w dp un gd cn cs L a ccd cl outer 368 [.ref sl] Q E s := by
  k_dflt (refine' enter [("script", .ref sl)] B F X N T hk ?k6 ?k7 ?k8 ?k9 ?kB ?c2 ?c3 ?c4 ?c5 ?_; k_extra "m_sides")
  intro g L' h₁ E' FG F' N' B' X' T' hP hE
  have hlg : g.IsList sl us.toArray := hl.at fun o e => FG.keep _ o e
  try dsimp only
  try k_fold
  refine foldAV ?_; intro Mz Az vz gz dz oz
  k_extra "m_steps"
  rename Fr g L' _ _ => F5
  rename News g L' _ _ => N5
  rename IntsAre _ (List.take 40 zs) => hws
  refine (let Gz : Prop := _; (?_ : Gz))
  obtain ⟨dl, hdl⟩ := named_news N5
  k_unfold; clear Gz
  subst hdl
  refine (let Gz : Prop := _; (?_ : Gz))
  obtain ⟨ws, hwe⟩ := named_ints hws
  k_unfold; clear Gz
  subst hwe
  have hwl : ws.length ≤ 63 := by rw [hws.length, List.length_take, ← hi.length]; (k_extra "m_om")
  refine at_list1 (kp := []) (its := ws.toArray) (fun _ => False) (fun j ys nw => nw = (dl, lsO ws 0) :: news ∧ ∃ ms, IntsAre ys ms ∧ ms.length = j ∧ ∀ x ∈ ms, 0 ≤ x)
    B' F5 N5 rfl rfl rfl ?_ ?_ (by decide) rfl rfl ?_ ?_ ⟨rfl, [], .nil, rfl, List.forall_mem_nil _⟩ ?_ ?_ ?_
  · rw [List.size_toArray, sizeLine_eq]; (k_extra "m_om")
  · intro j ys nw hJz3
    refine (let Gz : Prop := _; (?_ : Gz))
    obtain ⟨rfl, _⟩ := hJz3
    k_unfold; clear Gz
    exact .inr ⟨lsO ws 0, .head _, rfl, 0, rfl⟩
  · intro _ _ _ _ _ hp; cases hp
  · intro _ hp; cases hp
  · intro _ hz; exact hz.elim
  · intro j v ys nw I oI C oC D' m₂ h tk hv hJz4
    refine (let Gz : Prop := _; (?_ : Gz))
    obtain ⟨rfl, ms, hys, hml, hmb⟩ := hJz4
    k_unfold; clear Gz
    intro hoC hx1 F1 N1 O3 hne hkk
    refine (let Gz : Prop := _; (?_ : Gz))
    (refine ex2 (ints_at hws (by simpa using hv)) fun x tx hAz289 => ?_; refine and2 (hAz289) fun hx hEz289_3 => ?_; clear hAz289; subst hEz289_3)
    k_unfold; clear Gz
    have hnn : 0 ≤ (2 * if x < 0 then -x else x) + if decide (x < 0) = true then 1 else 0 := by
      by_cases hx0 : x < 0
      · simp [hx0]; (k_extra "m_om")
      · simp [hx0]; (k_extra "m_om")
    k_extra "m_steps"
    exact LCg.CompEnd.intro F1 N1 ((dl, lsO ws 0) :: news) (fun _ h => h) O3 trivial ⟨rfl, ms ++ [_], hys.append (.cons _ _ .nil), by rw [List.length_append, hml]; rfl, List.forall_mem_append.mpr ⟨hmb, (fmc (hnn) (List.forall_mem_nil _))⟩⟩
  · refine fin_none ?_
    intro D' h tk ys nw F1 N1 hno hJz6
    refine (let Gz : Prop := _; (?_ : Gz))
    obtain ⟨rfl, ms, hys, hml, hmb⟩ := hJz6
    k_unfold; clear Gz
    have hyl : ys.length ≤ 63 := by rw [hys.length, hml, List.size_toArray]; exact hwl
    k_extra "m_steps"
    rename Fr h₀ L _ _ => FZ
    rename News h₀ L _ _ => NZ
    exact hok _ _ lw D' ys ms ys.length _ _ FZ (News.sub NZ (by k_extra "m_sub")) hys hmb hyl (Nat.ne_of_gt llw.1) (fun p hp => Nat.ne_of_lt (llwx p (.tail _ (.tail _ hp)))) (fun p hp => hno p (.tail _ hp))
end
theorem off_P9 : True := by
  k_with "off P9" => (skip)
  exact trivial
end
section
theorem reset_ZP : True := by
  w_top off
  exact trivial
noncomputable def DLst {α : Type} (f : α → Dat) (res : Except Int (List α)) (g : Heap) (L : Addr) (m₁ : Str → Option Value) (R : List (Addr × Obj)) (s : Shared) (v : Value) (s' : Shared) : Prop :=
  ∃ h' tk' r vs nw x, v = .ref r ∧ s' = { s with heap := h', toks := tk' } ∧ Fr g L h' m₁ ∧ News g L h' ((r, LCg.lst vs) :: (nw ++ R)) ∧ DatAll nw vs (x.map f) ∧ res = .ok x ∧ Apart ((r, LCg.lst vs) :: nw) R
theorem join_dl {prog : Program} {w : World} {A : Around} {E : Value → Shared → Prop} {s : Shared} {g : Heap} {L : Addr} {m₁ : Str → Option Value} {R : List (Addr × Obj)} {Q : Value → Shared → Prop} {t : Sem Value} {α : Type} (f : α → Dat) (res : Except Int (List α)) (F : Fr g L s.heap m₁) (N : News g L s.heap R) (h1 : wpAny (model prog w) A t (Join (DLst f res g L m₁ R s)) E s) (h2 : ∀ h' tk' r vs nw x, Fr g L h' m₁ → News g L h' ((r, LCg.lst vs) :: (nw ++ R)) → DatAll nw vs (x.map f) → res = .ok x → Apart ((r, LCg.lst vs) :: nw) R → Q (.ref r) { s with heap := h', toks := tk' }) : wpAny (model prog w) A t Q E s :=
  wpAny_mono h1 (fun v s' h => by
    refine (let Gz : Prop := _; (?_ : Gz))
    first | (refine ex9 (h) fun h' tk' r vs nw x hEz291_6 hEz291_7 F' hAz291 => ?_; clear h; refine and4 (hAz291) fun N' a b c => ?_; clear hAz291; subst hEz291_6; subst hEz291_7) | (refine ex8 (h) fun h' tk' r vs nw x hEz291_6 hEz291_7 hAz291 => ?_; clear h; refine and5 (hAz291) fun F' N' a b c => ?_; clear hAz291; subst hEz291_6; subst hEz291_7) | (refine ex7 (h) fun h' tk' r vs nw x hEz291_6 hAz291 => ?_; clear h; refine and6 (hAz291) fun hEz291_7 F' N' a b c => ?_; clear hAz291; subst hEz291_6; subst hEz291_7) | (refine ex6 (h) fun h' tk' r vs nw x hAz291 => ?_; clear h; refine and7 (hAz291) fun hEz291_6 hEz291_7 F' N' a b c => ?_; clear hAz291; subst hEz291_6; subst hEz291_7) | (refine ex5 (h) fun h' tk' r vs nw hAz291 => ?_; clear h; refine and8 (hAz291) fun x hEz291_6 hEz291_7 F' N' a b c => ?_; clear hAz291; subst hEz291_6; subst hEz291_7) | (refine ex4 (h) fun h' tk' r vs hAz291 => ?_; clear h; refine and9 (hAz291) fun nw x hEz291_6 hEz291_7 F' N' a b c => ?_; clear hAz291; subst hEz291_6; subst hEz291_7) | (refine ex3 (h) fun h' tk' r hAz291 => ?_; clear h; refine and10 (hAz291) fun vs nw x hEz291_6 hEz291_7 F' N' a b c => ?_; clear hAz291; subst hEz291_6; subst hEz291_7) | (refine ex2 (h) fun h' tk' hAz291 => ?_; clear h; refine and11 (hAz291) fun r vs nw x hEz291_6 hEz291_7 F' N' a b c => ?_; clear hAz291; subst hEz291_6; subst hEz291_7) | (refine ex1 (h) fun h' hAz291 => ?_; clear h; refine and12 (hAz291) fun tk' r vs nw x hEz291_6 hEz291_7 F' N' a b c => ?_; clear hAz291; subst hEz291_6; subst hEz291_7) | (refine and12 (h) fun h' tk' r vs nw x hEz291_6 hEz291_7 F' N' a hr => ?_; clear h; refine and2 (hr) fun b c => ?_; clear hr; subst hEz291_6; subst hEz291_7) | obtain ⟨h', tk', r, vs, nw, x, rfl, rfl, F', N', a, b, c⟩ := h
    k_unfold; clear Gz
    exact h2 h' tk' r vs nw x F' N' a b c) fun _ _ e => e
theorem DLst.mk {α : Type} {f : α → Dat} {res : Except Int (List α)} {s : Shared} {g : Heap} {L : Addr} {m₁ : Str → Option Value} {R : List (Addr × Obj)} {h' : Heap} {tk' : Nat} {r : Addr} {vs : List Value} {nw : List (Addr × Obj)} {x : List α} (F : Fr g L h' m₁) (N : News g L h' ((r, LCg.lst vs) :: (nw ++ R))) (a : DatAll nw vs (x.map f)) (b : res = .ok x) (c : Apart ((r, LCg.lst vs) :: nw) R) : DLst f res g L m₁ R s (.ref r) { s with heap := h', toks := tk' } := xi6 h' tk' r vs nw x ⟨rfl, rfl, F, N, a, b, c⟩
theorem map_top2 {f : Str → Option Value} {k : Str} {v : Value} (h : f k = some v) : f = fun y => if y = k then some v else f y := by
  funext y
  by_cases e : y = k
  · rw [if_pos e, e, h]
  · rw [if_neg e]
theorem Fr.top2 {h₀ h : Heap} {L : Addr} {f : Str → Option Value} (F : Fr h₀ L h f) {k : Str} {v : Value} (hk : f k = some v) : Fr h₀ L h (fun y => if y = k then some v else f y) := map_top2 hk ▸ F
noncomputable def SecP (D : List Int) (dr : Addr) (g : Heap) (L : Addr) (R : List (Addr × Obj)) (s : Shared) (f : Flow) (s' : Shared) : Prop :=
  f = .next ∧ ∃ h' tk' m' sl svs sn sx, s' = { s with heap := h', toks := tk' } ∧ Fr g L h' m' ∧ m' (Str.ofString "first") = some (.ref dr) ∧ m' (Str.ofString "second") = some (.ref sl) ∧ News g L h' ((sl, LCg.lst svs) :: (sn ++ R)) ∧ DatAll sn svs (sx.map featD) ∧ rdIf (u16At D 6) (rdFeats D) [] = .ok sx ∧ Apart ((sl, LCg.lst svs) :: sn) R
theorem join_if {prog : Program} {w : World} {A : Around} {E : Value → Shared → Prop} {s : Shared} {g : Heap} {L : Addr} {Q : Flow → Shared → Prop} {t : Sem Flow} (D : List Int) (dr : Addr) (R : List (Addr × Obj)) (h1 : wpAny (model prog w) A t (JoinF (SecP D dr g L R s)) E s) (h2 : ∀ h' tk' m' sl svs sn sx, Fr g L h' m' → m' (Str.ofString "first") = some (.ref dr) → m' (Str.ofString "second") = some (.ref sl) → News g L h' ((sl, LCg.lst svs) :: (sn ++ R)) → DatAll sn svs (sx.map featD) → rdIf (u16At D 6) (rdFeats D) [] = .ok sx → Apart ((sl, LCg.lst svs) :: sn) R → Q .next { s with heap := h', toks := tk' }) : wpAny (model prog w) A t Q E s :=
  wpAny_mono h1 (fun f s' h => by
    refine (let Gz : Prop := _; (?_ : Gz))
    first | (refine ex9 (h) fun hEz293_0 h' tk' m' sl svs sn sx hEz293_8 hAz293 => ?_; clear h; refine and7 (hAz293) fun F' a b N' c d e => ?_; clear hAz293; subst hEz293_0; subst hEz293_8) | (refine ex8 (h) fun hEz293_0 h' tk' m' sl svs sn sx hAz293 => ?_; clear h; refine and8 (hAz293) fun hEz293_8 F' a b N' c d e => ?_; clear hAz293; subst hEz293_0; subst hEz293_8) | (refine ex7 (h) fun hEz293_0 h' tk' m' sl svs sn hAz293 => ?_; clear h; refine and9 (hAz293) fun sx hEz293_8 F' a b N' c d e => ?_; clear hAz293; subst hEz293_0; subst hEz293_8) | (refine ex6 (h) fun hEz293_0 h' tk' m' sl svs hAz293 => ?_; clear h; refine and10 (hAz293) fun sn sx hEz293_8 F' a b N' c d e => ?_; clear hAz293; subst hEz293_0; subst hEz293_8) | (refine ex5 (h) fun hEz293_0 h' tk' m' sl hAz293 => ?_; clear h; refine and11 (hAz293) fun svs sn sx hEz293_8 F' a b N' c d e => ?_; clear hAz293; subst hEz293_0; subst hEz293_8) | (refine ex4 (h) fun hEz293_0 h' tk' m' hAz293 => ?_; clear h; refine and12 (hAz293) fun sl svs sn sx hEz293_8 F' a b N' c d e => ?_; clear hAz293; subst hEz293_0; subst hEz293_8) | (refine ex3 (h) fun hEz293_0 h' tk' hAz293 => ?_; clear h; refine and12 (hAz293) fun m' sl svs sn sx hEz293_8 F' a b N' c hAz293r => ?_; clear hAz293; refine and2 (hAz293r) fun d e => ?_; clear hAz293r; subst hEz293_0; subst hEz293_8) | (refine ex2 (h) fun hEz293_0 h' hAz293 => ?_; clear h; refine and12 (hAz293) fun tk' m' sl svs sn sx hEz293_8 F' a b N' hAz293r => ?_; clear hAz293; refine and3 (hAz293r) fun c d e => ?_; clear hAz293r; subst hEz293_0; subst hEz293_8) | (refine ex1 (h) fun hEz293_0 hAz293 => ?_; clear h; refine and12 (hAz293) fun h' tk' m' sl svs sn sx hEz293_8 F' a b hAz293r => ?_; clear hAz293; refine and4 (hAz293r) fun N' c d e => ?_; clear hAz293r; subst hEz293_0; subst hEz293_8) | (refine and12 (h) fun hEz293_0 h' tk' m' sl svs sn sx hEz293_8 F' a hr => ?_; clear h; refine and5 (hr) fun b N' c d e => ?_; clear hr; subst hEz293_0; subst hEz293_8) | obtain ⟨rfl, h', tk', m', sl, svs, sn, sx, rfl, F', a, b, N', c, d, e⟩ := h
    k_unfold; clear Gz
    exact h2 h' tk' m' sl svs sn sx F' a b N' c d e) fun _ _ e => e
theorem SecP.mk {D : List Int} {dr sl : Addr} {g h' : Heap} {L : Addr} {R sn : List (Addr × Obj)} {s : Shared} {tk' : Nat} {m' : Str → Option Value} {svs : List Value} {sx : List (List Int × List Int)} (F : Fr g L h' m') (a : m' (Str.ofString "first") = some (.ref dr)) (b : m' (Str.ofString "second") = some (.ref sl)) (N : News g L h' ((sl, LCg.lst svs) :: (sn ++ R))) (c : DatAll sn svs (sx.map featD)) (d : rdIf (u16At D 6) (rdFeats D) [] = .ok sx) (e : Apart ((sl, LCg.lst svs) :: sn) R) : SecP D dr g L R s .next { s with heap := h', toks := tk' } := ⟨rfl, xi7 h' tk' m' sl svs sn sx ⟨rfl, F, a, b, N, c, d, e⟩⟩
theorem few_scr {b : Array UInt8} {D : List Int} (hD : KBw.bInts b = D) {g : Int} (hg : 0 ≤ g) {x : List (List Int × ScrV)} (h : rdIf g (rdScripts D) [] = .ok x) : x.length ≤ D.length := by
  unfold rdIf at h
  by_cases e : g = 0
  · rw [if_pos e] at h; cases h; exact Nat.zero_le _
  · rw [if_neg e] at h; unfold rdScripts at h
    cases hr : rdRecs D g 0 true with
    | error z => rw [hr, ebe] at h; cases h
    | ok rs =>
      rw [hr, ebo] at h
      have h1 := mapE_len h
      have h2 := recs_few hD (by (k_extra "m_om")) hr
      (k_extra "m_om")
theorem few_feat {b : Array UInt8} {D : List Int} (hD : KBw.bInts b = D) {g : Int} (hg : 0 ≤ g) {x : List (List Int × List Int)} (h : rdIf g (rdFeats D) [] = .ok x) : x.length ≤ D.length := by
  unfold rdIf at h
  by_cases e : g = 0
  · rw [if_pos e] at h; cases h; exact Nat.zero_le _
  · rw [if_neg e] at h; unfold rdFeats at h
    cases hr : rdRecs D g 0 false with
    | error z => rw [hr, ebe] at h; cases h
    | ok rs =>
      rw [hr, ebo] at h
      have h1 := mapE_len h
      have h2 := recs_few hD (by (k_extra "m_om")) hr
      (k_extra "m_om")
theorem few_look {b : Array UInt8} {D : List Int} {g : Int} (hg : 0 ≤ g) {x : List LookV} (h : rdIf g (rdLooks b D) [] = .ok x) : x.length ≤ D.length := by
  unfold rdIf at h
  by_cases e : g = 0
  · rw [if_pos e] at h; cases h; exact Nat.zero_le _
  · rw [if_neg e] at h; unfold rdLooks at h
    cases hr : rdU16 D g with
    | error z => rw [hr, ebe] at h; cases h
    | ok c =>
      rw [hr, ebo] at h
      cases ho : rdOffs D (g + 2) g c.toNat with
      | error z => rw [ho, ebe] at h; cases h
      | ok os =>
        rw [ho, ebo] at h
        have h1 := mapE_len h
        have h2 := offs_few (by (k_extra "m_om")) ho
        (k_extra "m_om")
theorem fin_lay {h₀ h' : Heap} {L : Addr} {tw t1 t2 t3 tl : Addr} {dvs svs tvs : List Value} {dn sn tn R3 news : List (Addr × Obj)} {dx : List (List Int × ScrV)} {sx : List (List Int × List Int)} {tx : List LookV}
    (N : News h₀ L h' ((tw, tupO [.ref t1, .ref t2, .ref t3]) :: (t3, tupO tvs) :: (t2, tupO svs) :: (t1, tupO dvs) :: (tl, LCg.lst tvs) :: (tn ++ R3)))
    (l4 : ∀ p ∈ (t3, tupO tvs) :: (t2, tupO svs) :: (t1, tupO dvs) :: (tl, LCg.lst tvs) :: (tn ++ R3), p.1 < tw)
    (l3 : ∀ p ∈ (t2, tupO svs) :: (t1, tupO dvs) :: (tl, LCg.lst tvs) :: (tn ++ R3), p.1 < t3)
    (l2 : ∀ p ∈ (t1, tupO dvs) :: (tl, LCg.lst tvs) :: (tn ++ R3), p.1 < t2)
    (l1 : ∀ p ∈ (tl, LCg.lst tvs) :: (tn ++ R3), p.1 < t1)
    (hR : ∀ p ∈ sn ++ (dn ++ news), p ∈ R3) (th : DatAll tn tvs (tx.map lookD)) (sh : DatAll sn svs (sx.map featD)) (dh : DatAll dn dvs (dx.map scrD))
    (ta : Apart ((tl, LCg.lst tvs) :: tn) R3) (sa : Apart sn news) (da : Apart dn news) :
    ∃ nw, News h₀ L h' (nw ++ news) ∧ DatIn nw (.ref tw) (layD (dx, sx, tx)) ∧ Apart nw news := by
  have hn : ∀ p ∈ news, p ∈ R3 := fun p hp => hR p (List.mem_append_right _ (List.mem_append_right _ hp))
  refine ⟨(tw, tupO [.ref t1, .ref t2, .ref t3]) :: (t3, tupO tvs) :: (t2, tupO svs) :: (t1, tupO dvs) :: (tn ++ (sn ++ dn)), News.sub N ?_, ?_, ?_⟩
  · simp only [List.cons_append, List.append_assoc]
    refine (fmc (.head _) ((fmc (.tail _ (.head _)) ((fmc (.tail _ (.tail _ (.head _))) ((fmc (.tail _ (.tail _ (.tail _ (.head _)))) (List.forall_mem_append.mpr ⟨fun p hp => .tail _ (.tail _ (.tail _ (.tail _ (.tail _ (List.mem_append_left _ hp))))), fun p hp => .tail _ (.tail _ (.tail _ (.tail _ (.tail _ (List.mem_append_right _ (hR p hp))))))⟩))))))))
  · unfold layD
    exact .tuple (.head _) (.cons (.tuple (.tail _ (.tail _ (.tail _ (.head _)))) (dh.mono fun p hp => .tail _ (.tail _ (.tail _ (.tail _ (List.mem_append_right _ (List.mem_append_right _ hp))))))) (.cons (.tuple (.tail _ (.tail _ (.head _))) (sh.mono fun p hp => .tail _ (.tail _ (.tail _ (.tail _ (List.mem_append_right _ (List.mem_append_left _ hp))))))) (.cons (.tuple (.tail _ (.head _)) (th.mono fun p hp => .tail _ (.tail _ (.tail _ (.tail _ (List.mem_append_left _ hp)))))) .nil)))
  · exact Apart.cons (fun p hp => Nat.ne_of_lt (l4 p (.tail _ (.tail _ (.tail _ (.tail _ (List.mem_append_right _ (hn p hp)))))))) (Apart.cons (fun p hp => Nat.ne_of_lt (l3 p (.tail _ (.tail _ (.tail _ (List.mem_append_right _ (hn p hp))))))) (Apart.cons (fun p hp => Nat.ne_of_lt (l2 p (.tail _ (.tail _ (List.mem_append_right _ (hn p hp)))))) (Apart.cons (fun p hp => Nat.ne_of_lt (l1 p (.tail _ (List.mem_append_right _ (hn p hp))))) (Apart.app (fun p hp q hq => ta p (.tail _ hp) q (hn q hq)) (Apart.app sa da)))))
noncomputable def ThiP (b : Array UInt8) (D : List Int) (dr sl : Addr) (g : Heap) (L : Addr) (R : List (Addr × Obj)) (s : Shared) (f : Flow) (s' : Shared) : Prop :=
  f = .next ∧ ∃ h' tk' m' tl tvs tn tx, s' = { s with heap := h', toks := tk' } ∧ Fr g L h' m' ∧ m' (Str.ofString "first") = some (.ref dr) ∧ m' (Str.ofString "second") = some (.ref sl) ∧ m' (Str.ofString "third") = some (.ref tl) ∧ News g L h' ((tl, LCg.lst tvs) :: (tn ++ R)) ∧ DatAll tn tvs (tx.map lookD) ∧ rdIf (u16At D 8) (rdLooks b D) [] = .ok tx ∧ Apart ((tl, LCg.lst tvs) :: tn) R
theorem join_if3 {prog : Program} {w : World} {A : Around} {E : Value → Shared → Prop} {s : Shared} {g : Heap} {L : Addr} {Q : Flow → Shared → Prop} {t : Sem Flow} (b : Array UInt8) (D : List Int) (dr sl : Addr) (R : List (Addr × Obj)) (h1 : wpAny (model prog w) A t (JoinF (ThiP b D dr sl g L R s)) E s) (h2 : ∀ h' tk' m' tl tvs tn tx, Fr g L h' m' → m' (Str.ofString "first") = some (.ref dr) → m' (Str.ofString "second") = some (.ref sl) → m' (Str.ofString "third") = some (.ref tl) → News g L h' ((tl, LCg.lst tvs) :: (tn ++ R)) → DatAll tn tvs (tx.map lookD) → rdIf (u16At D 8) (rdLooks b D) [] = .ok tx → Apart ((tl, LCg.lst tvs) :: tn) R → Q .next { s with heap := h', toks := tk' }) : wpAny (model prog w) A t Q E s :=
  wpAny_mono h1 (fun f s' h => by
    refine (let Gz : Prop := _; (?_ : Gz))
    first | (refine ex9 (h) fun hEz295_0 h' tk' m' tl tvs tn tx hEz295_8 hAz295 => ?_; clear h; refine and8 (hAz295) fun F' a b c' N' c d e => ?_; clear hAz295; subst hEz295_0; subst hEz295_8) | (refine ex8 (h) fun hEz295_0 h' tk' m' tl tvs tn tx hAz295 => ?_; clear h; refine and9 (hAz295) fun hEz295_8 F' a b c' N' c d e => ?_; clear hAz295; subst hEz295_0; subst hEz295_8) | (refine ex7 (h) fun hEz295_0 h' tk' m' tl tvs tn hAz295 => ?_; clear h; refine and10 (hAz295) fun tx hEz295_8 F' a b c' N' c d e => ?_; clear hAz295; subst hEz295_0; subst hEz295_8) | (refine ex6 (h) fun hEz295_0 h' tk' m' tl tvs hAz295 => ?_; clear h; refine and11 (hAz295) fun tn tx hEz295_8 F' a b c' N' c d e => ?_; clear hAz295; subst hEz295_0; subst hEz295_8) | (refine ex5 (h) fun hEz295_0 h' tk' m' tl hAz295 => ?_; clear h; refine and12 (hAz295) fun tvs tn tx hEz295_8 F' a b c' N' c d e => ?_; clear hAz295; subst hEz295_0; subst hEz295_8) | (refine ex4 (h) fun hEz295_0 h' tk' m' hAz295 => ?_; clear h; refine and12 (hAz295) fun tl tvs tn tx hEz295_8 F' a b c' N' c hAz295r => ?_; clear hAz295; refine and2 (hAz295r) fun d e => ?_; clear hAz295r; subst hEz295_0; subst hEz295_8) | (refine ex3 (h) fun hEz295_0 h' tk' hAz295 => ?_; clear h; refine and12 (hAz295) fun m' tl tvs tn tx hEz295_8 F' a b c' N' hAz295r => ?_; clear hAz295; refine and3 (hAz295r) fun c d e => ?_; clear hAz295r; subst hEz295_0; subst hEz295_8) | (refine ex2 (h) fun hEz295_0 h' hAz295 => ?_; clear h; refine and12 (hAz295) fun tk' m' tl tvs tn tx hEz295_8 F' a b c' hAz295r => ?_; clear hAz295; refine and4 (hAz295r) fun N' c d e => ?_; clear hAz295r; subst hEz295_0; subst hEz295_8) | (refine ex1 (h) fun hEz295_0 hAz295 => ?_; clear h; refine and12 (hAz295) fun h' tk' m' tl tvs tn tx hEz295_8 F' a b hAz295r => ?_; clear hAz295; refine and5 (hAz295r) fun c' N' c d e => ?_; clear hAz295r; subst hEz295_0; subst hEz295_8) | (refine and12 (h) fun hEz295_0 h' tk' m' tl tvs tn tx hEz295_8 F' a hr => ?_; clear h; refine and6 (hr) fun b c' N' c d e => ?_; clear hr; subst hEz295_0; subst hEz295_8) | obtain ⟨rfl, h', tk', m', tl, tvs, tn, tx, rfl, F', a, b, c', N', c, d, e⟩ := h
    k_unfold; clear Gz
    exact h2 h' tk' m' tl tvs tn tx F' a b c' N' c d e) fun _ _ e => e
theorem ThiP.mk {b : Array UInt8} {D : List Int} {dr sl tl : Addr} {g h' : Heap} {L : Addr} {R tn : List (Addr × Obj)} {s : Shared} {tk' : Nat} {m' : Str → Option Value} {tvs : List Value} {tx : List LookV} (F : Fr g L h' m') (a : m' (Str.ofString "first") = some (.ref dr)) (b2 : m' (Str.ofString "second") = some (.ref sl)) (b3 : m' (Str.ofString "third") = some (.ref tl)) (N : News g L h' ((tl, LCg.lst tvs) :: (tn ++ R))) (c : DatAll tn tvs (tx.map lookD)) (d : rdIf (u16At D 8) (rdLooks b D) [] = .ok tx) (e : Apart ((tl, LCg.lst tvs) :: tn) R) : ThiP b D dr sl g L R s .next { s with heap := h', toks := tk' } := ⟨rfl, xi7 h' tk' m' tl tvs tn tx ⟨rfl, F, a, b2, b3, N, c, d, e⟩⟩
section
variable {w : World} {dp un : Nat} {gd : Option (List Code)} {cn : Str} {cs : Scope} {a : Addr} {ccd : Value} {cl : List (Str × Addr)} {outer : List Env} {A₀ : Around} {base h₀ : Heap} {L : Addr} {m : Str → Option Value} {s : Shared} {Q E : Value → Shared → Prop} {p : Program} {loose : List Str} {mean : ExcName → Option Value} {mg mb : Str → Option Value} {news : List (Addr × Obj)} {tb : Tok} {b : Array UInt8}
variable (B : Below A₀ base outer h₀) (F : Fr h₀ L s.heap m) (X : (hd.heap_39 w.params).In h₀) (N : News h₀ L s.heap news) (T : Top p loose mean mg mb h₀) (hk : cs.kind = .function)
include B F X N T hk
theorem lines_ZP1 : True := by
  k_with "call ref" => (first | ((fail_if_success (k_extra "off ZP")); (k_here; (with_reducible show wpAny _ _ (call (Value.ref 430) _) _ _ _); k_dflt (refine' law_u16 ?k1 ?k2 ?k3 ?k4 ?k5 ?kK ?kd ?ku ?kp _ ?kD ?kb _ _ ?ki ?_ ?_; (case k1 => k_asm); (case k2 => k_asm); (case k3 => k_asm); (case k4 => k_extra "m_news"); (case k5 => k_asm); (case kK => first | exact rfl | assumption); (case kd => first | exact room_n (by with_reducible assumption) (by decide) | ktr_room); (case ku => first | exact room_n (by with_reducible assumption) (by decide) | ktr_units); (case kp => k_extra "m_kept"); (case kD => assumption); (case kb => assumption); (case ki => (k_extra "m_om")); (intro x hx h0x h1x h' tk' t' F' N'; (try k_sweep))))) | fail)
  k_with "call ref" => (first | ((fail_if_success (k_extra "off ZP")); (k_here; (with_reducible show wpAny _ _ (call (Value.ref 442) _) _ _ _); k_dflt (refine' law_offset ?k1 ?k2 ?k3 ?k4 ?k5 ?kK ?kd ?ku ?kp _ ?kD ?kb _ _ ?ki _ _ ?_ ?_; (case k1 => k_asm); (case k2 => k_asm); (case k3 => k_asm); (case k4 => k_extra "m_news"); (case k5 => k_asm); (case kK => first | exact rfl | assumption); (case kd => first | exact room_n (by with_reducible assumption) (by decide) | ktr_room); (case ku => first | exact room_n (by with_reducible assumption) (by decide) | ktr_units); (case kp => k_extra "m_kept"); (case kD => assumption); (case kb => assumption); (case ki => (k_extra "m_om")); (intro gx hgx h' tk' tgo F' N'; (try k_sweep))))) | fail)
  k_with "call ref" => (first | ((fail_if_success (k_extra "off ZP")); (k_here; (with_reducible show wpAny _ _ (call (Value.ref 447) _) _ _ _); k_dflt (refine' law_records ?k1 ?k2 ?k3 ?k4 ?k5 ?kK ?kd ?ku ?kp _ ?kD ?kb _ _ ?kg _ _ ?kl _ ?_ ?_; (case k1 => k_asm); (case k2 => k_asm); (case k3 => k_asm); (case k4 => k_extra "m_news"); (case k5 => k_asm); (case kK => first | exact rfl | assumption); (case kd => first | exact room_n (by with_reducible assumption) (by decide) | ktr_room); (case ku => first | exact room_n (by with_reducible assumption) (by decide) | ktr_units); (case kp => k_extra "m_kept"); (case kD => assumption); (case kb => assumption); (case kg => (k_extra "m_om")); (case kl => decide); (intro rc hrc h' tk' rl rv rn F' N' hrd hra; (try k_sweep))))) | fail)
  k_with "call ref" => (first | ((fail_if_success (k_extra "off ZP")); (k_here; (with_reducible show wpAny _ _ (call (Value.ref 459) _) _ _ _); k_dflt (refine' script_due ?k1 ?k2 ?k3 ?k4 ?k5 ?kK ?kd ?ku ?kp _ ?kD ?kb _ _ ?kg _ _ ?_ ?_; (case k1 => k_asm); (case k2 => k_asm); (case k3 => k_asm); (case k4 => k_extra "m_news"); (case k5 => k_asm); (case kK => first | exact rfl | assumption); (case kd => first | exact room_n (by with_reducible assumption) (by decide) | ktr_room); (case ku => first | exact room_n (by with_reducible assumption) (by decide) | ktr_units); (case kp => k_extra "m_kept"); (case kD => assumption); (case kb => assumption); (case kg => (k_extra "m_om")); (intro sr hsr h' tk' stt sn F' N' hsx hsa; (try k_sweep))))) | fail)
  k_with "call ref" => (first | ((fail_if_success (k_extra "off ZP")); (k_here; (with_reducible show wpAny _ _ (call (Value.ref 464) _) _ _ _); k_dflt (refine' lookup_due ?k1 ?k2 ?k3 ?k4 ?k5 ?kK ?kd ?ku ?kp _ ?kD ?kb _ _ ?kg ?_ ?_; (case k1 => k_asm); (case k2 => k_asm); (case k3 => k_asm); (case k4 => k_extra "m_news"); (case k5 => k_asm); (case kK => first | exact rfl | assumption); (case kd => first | exact room_n (by with_reducible assumption) (by decide) | ktr_room); (case ku => first | exact room_n (by with_reducible assumption) (by decide) | ktr_units); (case kp => k_extra "m_kept"); (case kD => assumption); (case kb => assumption); (case kg => (k_extra "m_om")); (intro lkr hlkr h' tk' lkt lkn F' N' hlkx hlka; (try k_sweep))))) | fail)
  k_with "call ref" => (first | ((fail_if_success (k_extra "off ZP")); (k_here; (with_reducible show wpAny _ _ (call (Value.ref 435) _) _ _ _); k_dflt (refine' law_u16s ?k1 ?k2 ?k3 ?k4 ?k5 ?kK ?kd ?ku ?kp _ ?kD ?kb _ _ ?ki _ _ ?kc0 ?kc1 ?_ ?_; (case k1 => k_asm); (case k2 => k_asm); (case k3 => k_asm); (case k4 => k_extra "m_news"); (case k5 => k_asm); (case kK => first | exact rfl | assumption); (case kd => first | exact room_n (by with_reducible assumption) (by decide) | ktr_room); (case ku => first | exact room_n (by with_reducible assumption) (by decide) | ktr_units); (case kp => k_extra "m_kept"); (case kD => assumption); (case kb => assumption); (case ki => (k_extra "m_om")); (case kc0 => (k_extra "m_om")); (case kc1 => (k_extra "m_om")); (intro rx hrx h' tk' rr yr F' N' hyr hyz har; have hyq := rows_short hD hrx hyr hsz; (try (have harA : @Ne Nat rr _ := Ne.symm (har _ (List.Mem.head _)))); (try (have harB : @Ne Nat rr _ := Ne.symm (har _ (List.Mem.tail _ (List.Mem.head _))))); (try (have harC : @Ne Nat rr _ := Ne.symm (har _ (List.Mem.tail _ (List.Mem.tail _ (List.Mem.head _)))))); (try dsimp only at harA harB harC); (try k_sweep))))) | fail)
  k_with "call ref" => (first | ((fail_if_success (k_extra "off ZP")); (k_here; (with_reducible show wpAny _ _ (call (Value.ref 435) _) _ _ _); k_dflt (refine' law_u16s ?k1 ?k2 ?k3 ?k4 ?k5 ?kK ?kd ?ku ?kp _ ?kD ?kb _ _ ?ki _ _ ?kc0 ?kc1 ?_ ?_; (case k1 => k_asm); (case k2 => k_asm); (case k3 => k_asm); (case k4 => k_extra "m_news"); (case k5 => k_asm); (case kK => first | exact rfl | assumption); (case kd => first | exact room_n (by with_reducible assumption) (by decide) | ktr_room); (case ku => first | exact room_n (by with_reducible assumption) (by decide) | ktr_units); (case kp => k_extra "m_kept"); (case kD => assumption); (case kb => assumption); (case ki => (k_extra "m_om")); (case kc0 => (k_extra "m_om")); (case kc1 => (k_extra "m_om")); (intro rx hrx h' tk' rr yr F' N' hyr hyz har; obtain ⟨ty0, ty1, ty2, hyy, hrO⟩ := rows3 hrx hyr; subst hyy; (try (have har0 : @Ne Nat rr _ := Ne.symm (har _ (List.Mem.head _)))); (try (have har1 : @Ne Nat rr _ := Ne.symm (har _ (List.Mem.tail _ (List.Mem.head _))))); (try (have har2 : @Ne Nat _ rr := har _ (List.Mem.head _))); (try (have har3 : @Ne Nat _ rr := har _ (List.Mem.tail _ (List.Mem.head _)))); (try dsimp only at har0 har1 har2 har3); (try k_sweep))))) | fail)
  k_with "eval IfExp" => (first | ((fail_if_success (k_extra "off ZP")); (k_here; (fail_if_success (with_reducible show wpAny _ _ _ (Join _) _ _)); refine of_stop ?_)) | fail)
  k_with "exec If" => (first | ((fail_if_success (k_extra "off ZP")); (k_here; (fail_if_success (with_reducible show wpAny _ _ _ (JoinF _) _ _)); (with_reducible show wpAny _ _ (exec (Stmt.If _ (Stmt.For _ _ _ _ _ :: _) _ _) _) _ _ _); refine of_stop ?_)) | fail)
  k_with "exec If" => (first | ((fail_if_success (k_extra "off ZP")); (k_here; (fail_if_success (with_reducible show wpAny _ _ _ (JoinF _) _ _)); (with_reducible show wpAny _ _ (exec (Stmt.If _ (Stmt.Assign _ (Expr.ListComp _ _ _ _) _ :: _) _ _) _) _ _ _); refine of_stop ?_)) | fail)
  exact trivial
set_option maxHeartbeats 4000000 in
theorem due_spec (hd : dp + 60 < recursionLimit) (hu : un + 350 < cLine) {kp : List (Addr × Obj)} (hkp : KeptIn kp news)
    (D : List Int) (hD : KBw.bInts b = D) (hsz : D.length ≤ 4000)
    (hok : ∀ x, rdLay b D = .ok x → ∀ h' tk' t nw, Fr h₀ L h' m → News h₀ L h' (nw ++ news) → DatIn nw (.ref t) (layD x) → Apart nw news → Q (.ref t) { s with heap := h', toks := tk' })
    (herr : ∀ z, rdLay b D = .error z → Errs base h₀ kp (envX cn cs L a ccd cl) outer L m E s z) :
    Cl w dp un gd cn cs L a ccd cl outer 476 [.bytes b tb] Q E s := by
  k_dflt (refine' enterC [("data", .bytes b tb)] B F X N T hk ?k6 ?k7 ?k8 ?k9 ?kB ?kD ?c2 ?c3 ?c4 ?_; k_extra "m_sidesC")
  intro g' L' h₁ tk cells E' FG F' N' Y' B' X' T' l' hP hE
  refine (let Gz : Prop := _; (?_ : Gz))
  (refine ex2 (CellsAre.two Y') fun o1 o2 hAz297 => ?_; refine and3 (hAz297) fun hE1 d1 d2 => ?_; clear hAz297)
  k_unfold; clear Gz
  subst hE1
  try simp only [List.cons_append, List.nil_append] at N'
  have hnL1 : ∀ p ∈ news, p.1 ≠ L' + 1 := fun p hp => Nat.ne_of_lt (Nat.lt_succ_of_lt (l' p hp))
  have hnL2 : ∀ p ∈ news, p.1 ≠ L' + 1 + 1 := fun p hp => Nat.ne_of_lt (Nat.lt_succ_of_lt (Nat.lt_succ_of_lt (l' p hp)))
  try dsimp only
  try k_fold
  refine foldAV ?_; intro Mz Az vz gz dz oz
  have b4 := u16At_bd hD 4
  have b6 := u16At_bd hD 6
  have b8 := u16At_bd hD 8
  have f6 : (4 : Int) + 2 = 6 := by decide
  have f8 : (4 : Int) + 4 = 8 := by decide
  k_extra "m_steps"
  · rename rdU16 D 0 = .ok _ => e1
    refine raised B' (by assumption) X' (by assumption) (by k_extra "m_kept") (by assumption) rfl rfl (hE _ _ h₁ 0 _ (herr _ ?_)) _
    exact bo e1 (be (show rdVer D x = .error 0 by unfold rdVer; rw [if_neg (by assumption)]))
  · rename rdU16 D 0 = .ok _ => e1
    rename rdU16 D 2 = .ok _ => e2
    rename _ = (1 : Int) => hv1
    rw [hv1] at e1
    refine raised B' (by assumption) X' (by assumption) (by k_extra "m_kept") (by assumption) rfl rfl (hE _ _ h₁ 0 _ (herr _ ?_)) _
    exact bo e1 (be (show rdVer D 1 = .error 0 by unfold rdVer; rw [if_pos rfl, e2]; exact if_pos (by assumption)))
  · rename rdU16 D 0 = .ok _ => e1
    rename rdU16 D 2 = .ok _ => e2
    rename _ = (1 : Int) => hv1
    rw [hv1] at e1
    have ev : rdVer D 1 = .ok () := by unfold rdVer; rw [if_pos rfl, e2]; exact if_neg (by assumption)
    have e3 : rdThree D = .ok (u16At D 4, u16At D 6, u16At D 8) := if_neg hrO
    rename Fr g' L' _ _ => F5
    rename News g' L' _ _ => N5
    dsimp +zetaDelta only at F5
    rw [f6] at F5
    have hOz5 : ∃ oc tlk, oc.data = Data.cell (some (Value.int (u16At D (4 + 4)) tlk)) ∧ News g' L' _ ((L' + 1 + 1, oc) :: (L' + 1, o2) :: news) := ⟨_, _, by assumption, News.sub N5 (by k_extra "m_sub")⟩
    refine (let Gz : Prop := _; (?_ : Gz))
    (refine ex2 (hOz5) fun oc tlk hAz298 => ?_; clear hOz5; refine and2 (hAz298) fun doc N5 => ?_; clear hAz298)
    k_unfold; clear Gz
    rw [f8] at doc
    refine join_dl scrD (rdIf (u16At D 4) (rdScripts D) []) F5 N5 ?_ ?_
    · k_extra "m_steps"
      · have hrcl := recs_len hD hrc
        have hbd := recs_bd hD hrc
        rename Fr g' L' _ _ => F5
        rename News g' L' _ _ => N5
        have hOz6 : ∃ r, News g' L' _ r ∧ (rl, LCg.lst rv) ∈ r ∧ (∀ p ∈ rn, p ∈ r) ∧ (L' + 1, o2) ∈ r ∧ (L' + 1 + 1, oc) ∈ r ∧ (∀ p ∈ news, p ∈ r) := ⟨_, N5, by k_extra "m_in", by k_extra "m_sub", by k_extra "m_in", by k_extra "m_in", by k_extra "m_sub"⟩
        refine (let Gz : Prop := _; (?_ : Gz))
        (refine ex1 (hOz6) fun r2 hAz299 => ?_; clear hOz6; refine and6 (hAz299) fun hN q1 q2 q3 q4 q5 => ?_; clear hAz299)
        k_unfold; clear Gz
        have hrl : rv.length = rc.length := by rw [hrd.length, List.length_map]
        refine at_list2 (kp := kp) (its := rv.toArray) (fun z => mapE (keyed (rdScript D)) rc = .error z) (fun j ys nw => ∃ t2 out, nw = t2 ++ r2 ∧ mapE (keyed (rdScript D)) (rc.take j) = .ok out ∧ DatAll t2 ys (out.map scrD) ∧ Apart t2 r2)
          B' F5 hN rfl rfl rfl ?_ ?_ ?_ (by decide) rfl rfl rfl (by decide) ?_ hkp.2 ⟨[], [], rfl, rfl, .nil, Apart.nil⟩ (fun z hz h => hE _ _ _ _ _ (herr z ?_)) ?_ ?_
        · rw [List.size_toArray, hrl, sizeLine_eq]; exact Nat.le_trans hrcl (by decide)
        · intro j ys nw hJz7
          refine (let Gz : Prop := _; (?_ : Gz))
          (refine ex2 (hJz7) fun t2 out hAz300 => ?_; clear hJz7; refine and2 (hAz300) fun hEz300_2 _ => ?_; clear hAz300; subst hEz300_2)
          k_unfold; clear Gz
          exact .inr ⟨_, List.mem_append_right _ q1, rfl, _, rfl⟩
        · intro j v ys nw hv hJz8
          refine (let Gz : Prop := _; (?_ : Gz))
          (refine ex2 (hJz8) fun t2 out hAz301 => ?_; clear hJz8; refine and2 (hAz301) fun hEz301_2 _ => ?_; clear hAz301; subst hEz301_2)
          k_unfold; clear Gz
          refine (let Gz : Prop := _; (?_ : Gz))
          (refine ex5 (recs_at hrd (by simpa using hv)) fun q t n t1 t2 hAz302 => ?_; refine and3 (hAz302) fun _ hEz302_6 hm => ?_; clear hAz302; subst hEz302_6)
          k_unfold; clear Gz
          exact (xi5 t _ _ _ n ⟨rfl, List.mem_append_right _ (q2 _ hm), rfl, rfl⟩)
        · intro j ys nw hJz10
          refine (let Gz : Prop := _; (?_ : Gz))
          (refine ex2 (hJz10) fun t2 out hAz303 => ?_; clear hJz10; refine and2 (hAz303) fun hEz303_2 _ => ?_; clear hAz303; subst hEz303_2)
          k_unfold; clear Gz
          intro q hq
          exact List.mem_append_right _ (q5 _ (hkp.1 q hq))
        · exact bo e1 (bo ev (bo e3 (be (if_no (by (k_extra "m_om")) (bo hrc (hz))))))
        · intro j v ys nw I oI C oC D' m₂ h tk hv hJz11
          refine (let Gz : Prop := _; (?_ : Gz))
          (refine ex2 (hJz11) fun t2 out hAz304 => ?_; clear hJz11; refine and4 (hAz304) fun hEz304_2 hmp hd2 hap => ?_; clear hAz304; subst hEz304_2)
          k_unfold; clear Gz
          intro t ot v₁ v₂ nt
          rintro rfl
          intro hmt hct hdt hoC hx1 hx2 F1 N1 O3 hne hkk
          refine (let Gz : Prop := _; (?_ : Gz))
          (refine ex5 (recs_at hrd (by simpa using hv)) fun q' t' n u1 u2 hAz305 => ?_; refine and3 (hAz305) fun hq e hm => ?_; clear hAz305)
          k_unfold; clear Gz
          refine (let Gz : Prop := _; (?_ : Gz))
          obtain ⟨rfl, rfl⟩ := rec_item N1 (.tail _ (.tail _ (.tail _ hmt))) (.tail _ (.tail _ (.tail _ (List.mem_append_right _ (q2 _ hm))))) e hdt
          k_unfold; clear Gz
          have hqb := hbd q' (List.mem_of_getElem? hq)
          replace N1 := News.sub (news' := (L' + 1, o2) :: (I, oI) :: (C, oC) :: (D', LCg.lst ys) :: (t2 ++ r2)) N1 ((fmc (.tail _ (.tail _ (.tail _ (List.mem_append_right _ q3)))) (fun _ h => h)))
          have hkk2 := KeptIn.mono hkk (news' := (L' + 1, o2) :: (I, oI) :: (C, oC) :: (D', LCg.lst ys) :: (t2 ++ r2)) (fun p hp => .tail _ hp)
          k_extra "m_steps"
          · have htg2 : Apart sn ((I, oI) :: (C, oC) :: (D', LCg.lst ys) :: (t2 ++ r2)) := hsa.mono fun p hp => .tail _ hp
            refine LCg.CompEnd.intro (by assumption) (by assumption) ((sn ++ t2) ++ r2) (by k_extra "m_sub") (by rw [List.append_assoc]; exact off3_app O3 (off3_of_apart htg2)) trivial ⟨sn ++ t2, out ++ [(q'.1, sr)], rfl, mapE_next hq hmp (keyed_ok hsr), ?_, ?_⟩
            · rw [List.map_append]
              exact DatAll.append (hd2.mono fun p hp => List.mem_append_right _ hp) (.one (hsx.mono fun p hp => List.mem_append_left _ hp))
            · exact Apart.app (htg2.mono fun p hp => .tail _ (.tail _ (.tail _ (List.mem_append_right _ hp)))) hap
          · rename rdScript D _ = .error _ => hx
            exact errs_fly (show mapE (keyed (rdScript D)) rc = .error _ from mapE_stop hq hmp (keyed_err hx))
        · refine fin_none ?_
          intro D' h tk ys nw F2 N2 hno hJz14
          refine (let Gz : Prop := _; (?_ : Gz))
          (refine ex2 (hJz14) fun t2 out hAz306 => ?_; clear hJz14; refine and4 (hAz306) fun hEz306_2 hmp hd2 hap => ?_; clear hAz306; subst hEz306_2)
          k_unfold; clear Gz
          rw [List.size_toArray, hrl, List.take_length] at hmp
          k_extra "m_steps"
          have qR : ∀ p ∈ (L' + 1 + 1, oc) :: (L' + 1, o2) :: news, p ∈ r2 := (fmc (q4) ((fmc (q3) (q5))))
          exact DLst.mk F2 (News.sub N2 ((fmc (.head _) (List.forall_mem_append.mpr ⟨fun p hp => .tail _ (List.mem_append_left _ hp), fun p hp => .tail _ (List.mem_append_right _ (qR p hp))⟩)))) hd2 (if_no (by (k_extra "m_om")) (bo hrc hmp)) (Apart.cons (fun p hp => hno p (List.mem_append_right _ (qR p hp))) (hap.mono qR))
      · refine hE _ _ _ _ _ (herr _ ?_)
        exact bo e1 (bo ev (bo e3 (be (if_no (by (k_extra "m_om")) (be (show rdRecs D (u16At D 4) 0 true = .error _ by assumption))))))
      · exact DLst.mk (vs := []) (nw := []) (x := []) (by assumption) (by assumption) .nil (if_yes (by (k_extra "m_om"))) (Apart.cons (fun p hp => Nat.ne_of_lt (llwx p hp)) Apart.nil)
    · intro h' tk' dr dvs dn dx F6 N6 dhd dhx dha
      k_extra "m_steps"
      rename Fr g' L' _ _ => F5
      rename News g' L' _ _ => N5
      have hOz15 : ∃ c, c = lw := ⟨_, rfl⟩
      refine (let Gz : Prop := _; (?_ : Gz))
      obtain ⟨sl, hsl⟩ := hOz15
      k_unfold; clear Gz
      subst hsl
      have hsR : ∀ p ∈ (dr, LCg.lst dvs) :: (dn ++ ((L' + 1 + 1, oc) :: (L' + 1, o2) :: news)), p.1 ≠ sl := fun p hp => Nat.ne_of_lt (llwx p hp)
      refine join_if D dr ((dr, LCg.lst dvs) :: (dn ++ ((L' + 1 + 1, oc) :: (L' + 1, o2) :: news))) (g := g') (L := L') ?_ ?_
      · k_extra "m_steps"
        · rename Fr g' L' _ _ => F9
          rename News g' L' _ _ => N9
          have hrcl := recs_len hD hrc
          have hbd := recs_bd hD hrc
          have hOz16 : ∃ r, News g' L' _ ((sl, LCg.lst []) :: r) ∧ (rl, LCg.lst rv) ∈ r ∧ (∀ p ∈ rn, p ∈ r) ∧ (L' + 1, o2) ∈ r ∧ (∀ p ∈ (dr, LCg.lst dvs) :: (dn ++ ((L' + 1 + 1, oc) :: (L' + 1, o2) :: news)), p ∈ r) ∧ (∀ p ∈ news, p ∈ r) ∧ ∀ p ∈ r, p.1 ≠ sl :=
            ⟨(rl, LCg.lst rv) :: (rn ++ ((dr, LCg.lst dvs) :: (dn ++ ((L' + 1 + 1, oc) :: (L' + 1, o2) :: news)))), News.sub N9 (by k_extra "m_sub"), .head _, by k_extra "m_sub", by k_extra "m_in", by k_extra "m_sub", by k_extra "m_sub",
              (fmc (Ne.symm (hra _ (.head _) _ (.head _))) (List.forall_mem_append.mpr ⟨fun p hp => Ne.symm (hra p (.tail _ hp) _ (.head _)), hsR⟩))⟩
          refine (let Gz : Prop := _; (?_ : Gz))
          (refine ex1 (hOz16) fun r3 hAz307 => ?_; clear hOz16; refine and7 (hAz307) fun hN q1 q2 q3 q4 q5 q6 => ?_; clear hAz307)
          k_unfold; clear Gz
          have hrl : rv.length = rc.length := by rw [hrd.length, List.length_map]
          refine for2_list (l := rl) (vs := rv.toArray) (k := rv.length) [Str.ofString "tag", Str.ofString "goal"] (fun j _ nw => ∃ vs2 t2 out, nw = (sl, LCg.lst vs2) :: (t2 ++ r3) ∧ mapE (keyed (rdFeat D)) (rc.take j) = .ok out ∧ DatAll t2 vs2 (out.map featD) ∧ Apart t2 ((sl, LCg.lst []) :: r3))
            rfl F9 hN rfl rfl rfl hP ?_ ⟨[], [], [], rfl, rfl, .nil, Apart.nil⟩ ?_ ?_ ?_
          · intro j _ nw hJz17
            refine (let Gz : Prop := _; (?_ : Gz))
            (refine ex3 (hJz17) fun vs2 t2 out hAz308 => ?_; clear hJz17; refine and2 (hAz308) fun hEz308_3 _ => ?_; clear hAz308; subst hEz308_3)
            k_unfold; clear Gz
            exact .tail _ (List.mem_append_right _ q1)
          · intro j v _ nw hv hJz18
            refine (let Gz : Prop := _; (?_ : Gz))
            (refine ex3 (hJz18) fun vs2 t2 out hAz309 => ?_; clear hJz18; refine and2 (hAz309) fun hEz309_3 _ => ?_; clear hAz309; subst hEz309_3)
            k_unfold; clear Gz
            refine (let Gz : Prop := _; (?_ : Gz))
            (refine ex5 (recs_at hrd (by simpa using hv)) fun q t n t1 t3 hAz310 => ?_; refine and3 (hAz310) fun _ hEz310_6 hm => ?_; clear hAz310; subst hEz310_6)
            k_unfold; clear Gz
            exact (xi5 t _ _ _ n ⟨rfl, .tail _ (List.mem_append_right _ (q2 _ hm)), rfl, rfl⟩)
          · intro j v m₁ nw h tk I it hv hJz20
            refine (let Gz : Prop := _; (?_ : Gz))
            (refine ex3 (hJz20) fun vs2 t2 out hAz311 => ?_; clear hJz20; refine and4 (hAz311) fun hEz311_3 hmp hd2 hap => ?_; clear hAz311; subst hEz311_3)
            k_unfold; clear Gz
            intro t ot v₁ v₂ nt
            rintro rfl
            intro hmt hct hdt hS F1 N1 hI
            refine (let Gz : Prop := _; (?_ : Gz))
            (refine ex5 (recs_at hrd (by simpa using hv)) fun q' t' n u1 u2 hAz312 => ?_; refine and3 (hAz312) fun hq e hm => ?_; clear hAz312)
            k_unfold; clear Gz
            refine (let Gz : Prop := _; (?_ : Gz))
            obtain ⟨rfl, rfl⟩ := rec_item N1 (.tail _ hmt) (.tail _ (.tail _ (List.mem_append_right _ (q2 _ hm)))) e hdt
            k_unfold; clear Gz
            have hqb := hbd q' (List.mem_of_getElem? hq)
            have hvz : vs2.length ≤ 1000000 := by
              rw [hd2.length, List.length_map, mapE_len hmp, List.length_take]
              (k_extra "m_om")
            have hIl : @Ne Nat sl I := hI _ (.head _)
            have hkr : KeptIn kp ((I, it) :: (sl, LCg.lst vs2) :: (t2 ++ r3)) := ⟨fun p hp => .tail _ (.tail _ (List.mem_append_right _ (q5 _ (hkp.1 p hp)))), hkp.2⟩
            have htl : ∀ p ∈ t2 ++ r3, p.1 ≠ sl := List.forall_mem_append.mpr ⟨fun p hp => Ne.symm (hap p hp _ (.head _)), q6⟩
            replace N1 := News.sub (news' := (L' + 1, o2) :: (I, it) :: (sl, LCg.lst vs2) :: (t2 ++ r3)) N1 ((fmc (.tail _ (.tail _ (List.mem_append_right _ q3))) (fun _ h => h)))
            have hkr2 := KeptIn.mono hkr (news' := (L' + 1, o2) :: (I, it) :: (sl, LCg.lst vs2) :: (t2 ++ r3)) (fun p hp => .tail _ hp)
            have hs1 : @Ne Nat (L' + 1) sl := q6 _ q3
            have hs2 : @Ne Nat sl (L' + 1) := Ne.symm hs1
            k_extra "m_steps"
            · have hsn : mapE (keyed (rdFeat D)) (rc.take (j + 1)) = .ok (out ++ [(q'.1, rx)]) :=
                mapE_next hq hmp (keyed_ok (by unfold rdFeat; rename rdU16 D q'.2 = .ok _ => u1; rw [u1, ebo]; rename rdU16 D (q'.2 + 2) = .ok _ => u2; rw [u2, ebo]; assumption))
              refine TurnPost.intro (by assumption) (by assumption) ((sl, LCg.lst (vs2 ++ [.ref tw])) :: (((tw, tupO [.str (tagStr q'.1) u1, .ref tcp]) :: (tcp, tupO yr) :: t2) ++ r3)) (by k_extra "m_sub") ?_ (by k_extra "m_same")
                ⟨vs2 ++ [.ref tw], (tw, tupO [.str (tagStr q'.1) u1, .ref tcp]) :: (tcp, tupO yr) :: t2, out ++ [(q'.1, rx)], rfl, hsn, ?_, ?_⟩
              · exact (fmc (hIl) ((fmc (Nat.ne_of_gt (ltwx (I, it) (.tail _ (.tail _ (.tail _ (.head _)))))) ((fmc (Nat.ne_of_gt (ltcpx (I, it) (.tail _ (.tail _ (.head _))))) (fun p hp => hI p (.tail _ hp)))))))
              · rw [List.map_append]
                exact DatAll.append (hd2.mono fun p hp => .tail _ (.tail _ hp)) (.one (.tuple (.head _) (.cons (.str _ _) (.cons (.tuple (.tail _ (.head _)) (dat_ints hyr)) .nil))))
              · have hS2 : ∀ p ∈ (sl, LCg.lst []) :: r3, p.1 < tcp ∧ p.1 < tw := (fmc (⟨ltcpx (sl, LCg.lst vs2) (.tail _ (.tail _ (.tail _ (.head _)))), ltwx (sl, LCg.lst vs2) (.tail _ (.tail _ (.tail _ (.tail _ (.head _)))))⟩) (fun p hp => ⟨ltcpx p (.tail _ (.tail _ (.tail _ (.tail _ (List.mem_append_right _ hp))))), ltwx p (.tail _ (.tail _ (.tail _ (.tail _ (.tail _ (List.mem_append_right _ hp))))))⟩))
                exact Apart.cons (fun p hp => Nat.ne_of_lt (hS2 p hp).2) (Apart.cons (fun p hp => Nat.ne_of_lt (hS2 p hp).1) hap)
            · rename rdU16 D q'.2 = .ok _ => u1
              rename rdU16 D (q'.2 + 2) = .ok _ => u2
              refine hE _ _ _ _ _ (herr _ ?_)
              have hst := mapE_stop hq hmp (keyed_err (show rdFeat D q'.2 = .error _ by exact bo u1 (bo u2 (by assumption))))
              exact bo e1 (bo ev (bo e3 (bo dhx (be (if_no (by (k_extra "m_om")) (bo hrc hst))))))
            · rename rdU16 D q'.2 = .ok _ => u1
              refine hE _ _ _ _ _ (herr _ ?_)
              have hst := mapE_stop hq hmp (keyed_err (show rdFeat D q'.2 = .error _ by unfold rdFeat; rw [u1, ebo]; rename rdU16 D (q'.2 + 2) = .error _ => u2; rw [u2, ebe]))
              exact bo e1 (bo ev (bo e3 (bo dhx (be (if_no (by (k_extra "m_om")) (bo hrc hst))))))
            · rename rdU16 D q'.2 = .error _ => u1
              refine hE _ _ _ _ _ (herr _ ?_)
              have hst := mapE_stop hq hmp (keyed_err (show rdFeat D q'.2 = .error _ by exact be u1))
              exact bo e1 (bo ev (bo e3 (bo dhx (be (if_no (by (k_extra "m_om")) (bo hrc hst))))))
          · intro m' nw h tk hJz23
            refine (let Gz : Prop := _; (?_ : Gz))
            (refine ex3 (hJz23) fun vs2 t2 out hAz313 => ?_; clear hJz23; refine and4 (hAz313) fun hEz313_3 hmp hd2 hap => ?_; clear hAz313; subst hEz313_3)
            k_unfold; clear Gz
            intro hS F1 N1
            rw [List.size_toArray, hrl, List.take_length] at hmp
            k_extra "m_steps"
            show SecP D dr g' L' _ _ _ _
            refine SecP.mk F1 (by rw [if_neg (by decide +kernel)]; rfl) (by rw [if_neg (by decide +kernel)]; rfl) (News.sub N1 ((fmc (.head _) (List.forall_mem_append.mpr ⟨fun p hp => .tail _ (List.mem_append_left _ hp), fun p hp => .tail _ (List.mem_append_right _ (q4 p hp))⟩)))) hd2 (if_no (by (k_extra "m_om")) (bo hrc hmp)) (Apart.cons hsR (hap.mono fun p hp => .tail _ (q4 p hp)))
        · refine hE _ _ _ _ _ (herr _ ?_)
          exact bo e1 (bo ev (bo e3 (bo dhx (be (if_no (by (k_extra "m_om")) (be (show rdRecs D (u16At D 6) 0 false = .error _ by assumption)))))))
        · exact SecP.mk (svs := []) (sn := []) (sx := []) (by assumption) rfl rfl (by assumption) .nil (if_yes (by (k_extra "m_om"))) (Apart.cons hsR Apart.nil)
      · intro h' tk' m₁ sl svs sn sx F7 hm1 hm2 N7 shd shx sha
        replace F7 := Fr.top2 (Fr.top2 F7 hm1) (k := Str.ofString "second") (v := .ref sl) (by rw [if_neg (by decide +kernel)]; exact hm2)
        have hOz24 : ∃ r, r = ((sl, LCg.lst svs) :: (sn ++ ((dr, LCg.lst dvs) :: (dn ++ ((L' + 1 + 1, oc) :: (L' + 1, o2) :: news))))) := ⟨_, rfl⟩
        refine (let Gz : Prop := _; (?_ : Gz))
        obtain ⟨R3, hR3⟩ := hOz24
        k_unfold; clear Gz
        have q3n : ∀ p ∈ news, p ∈ R3 := by rw [hR3]; k_extra "m_sub"
        have q3o : (L' + 1, o2) ∈ R3 := by rw [hR3]; k_extra "m_in"
        have q3c : (L' + 1 + 1, oc) ∈ R3 := by rw [hR3]; k_extra "m_in"
        have q3d : ∀ p ∈ (dr, LCg.lst dvs) :: (dn ++ ((L' + 1 + 1, oc) :: (L' + 1, o2) :: news)), p ∈ R3 := by rw [hR3]; exact fun p hp => .tail _ (List.mem_append_right _ hp)
        have q3s : ∀ p ∈ (sl, LCg.lst svs) :: sn, p ∈ R3 := by rw [hR3]; k_extra "m_sub"
        rw [← hR3] at N7
        have hk3 : KeptIn kp R3 := ⟨fun p hp => q3n p (hkp.1 p hp), hkp.2⟩
        k_extra "m_steps"
        refine join_if3 b D dr sl R3 (g := g') (L := L') ?_ ?_
        · k_extra "m_steps"
          · rename rdU16 D (u16At D 8) = .ok _ => e8
            rename IsRange _ _ _ _ _ _ _ _ => hR
            rename Fr g' L' _ _ => F9
            rename News g' L' _ _ => N9
            have hOz25 : ∃ c, c = x := ⟨_, rfl⟩
            refine (let Gz : Prop := _; (?_ : Gz))
            obtain ⟨cx, hcx⟩ := hOz25
            k_unfold; clear Gz
            subst hcx
            have h0c := h0x
            have h1c := h1x
            clear h0x h1x
            have hNA : News g' L' _ ((L' + 1 + 1, oc) :: (L' + 1, o2) :: R3) := News.sub N9 (by k_extra "m_sub")
            refine at_range1 (kp := kp) (n := cx.toNat) (fun z => rdOffs D (u16At D 8 + 2) (u16At D 8) cx.toNat = .error z)
              (fun j ys nw => ∃ out, nw = (L' + 1 + 1, oc) :: (L' + 1, o2) :: R3 ∧ IntsAre ys out ∧ mapE (fun (j : Nat) => rdOff D (u16At D 8 + 2 + 2 * (j : Int)) (u16At D 8)) ((List.range cx.toNat).take j) = .ok out)
              B' F9 hNA rfl rfl rfl hR (range_small h0c (by (k_extra "m_om"))) (range_size h0c) (by rw [sizeLine_eq]; (k_extra "m_om")) (by decide) rfl rfl ?_ hkp.2 ⟨[], rfl, .nil, rfl⟩ (fun z hz h => hE _ _ _ _ _ (herr z ?_)) ?_ ?_
            · intro j ys nw hJz26
              refine (let Gz : Prop := _; (?_ : Gz))
              (refine ex1 (hJz26) fun out hAz314 => ?_; clear hJz26; refine and2 (hAz314) fun hEz314_1 _ => ?_; clear hAz314; subst hEz314_1)
              k_unfold; clear Gz
              intro q hq
              exact .tail _ (.tail _ (q3n _ (hkp.1 q hq)))
            · exact bo e1 (bo ev (bo e3 (bo dhx (bo shx (be (if_no (by (k_extra "m_om")) (bo e8 (be hz))))))))
            · intro j tj ys nw I oI C oC D' m₂ h tk hj hJz27
              refine (let Gz : Prop := _; (?_ : Gz))
              (refine ex1 (hJz27) fun out hAz315 => ?_; clear hJz27; refine and3 (hAz315) fun hEz315_1 hys hmp => ?_; clear hAz315; subst hEz315_1)
              k_unfold; clear Gz
              intro hoC hm₂ F1 N1 O3 hne hkk
              have ez : u16At D 8 + 2 + 2 * (0 + (j : Int)) = u16At D 8 + 2 + 2 * (j : Int) := by (k_extra "m_om")
              k_extra "m_steps"
              · rename rdOff D _ _ = .ok _ => hgx
                rw [ez] at hgx
                exact LCg.CompEnd.intro (by assumption) (by assumption) ((L' + 1 + 1, oc) :: (L' + 1, o2) :: R3) (by k_extra "m_sub") O3 trivial ⟨out ++ [gx], rfl, IntsAre.append hys (.cons _ _ .nil), mapE_next (range_at hj) hmp hgx⟩
              · rename rdOff D _ _ = .error _ => hz
                rw [ez] at hz
                exact errs_fly (show rdOffs D (u16At D 8 + 2) (u16At D 8) cx.toNat = .error _ from mapE_stop (range_at hj) hmp hz)
            · refine fin_someU ?_ ?_ ?_ ?_
              · exact rfl
              · exact rfl
              · exact rfl
              intro pl h tk ys nw F1 N1 hno hJz28
              refine (let Gz : Prop := _; (?_ : Gz))
              (refine ex1 (hJz28) fun out hAz316 => ?_; clear hJz28; refine and3 (hAz316) fun hEz316_1 hys hmp => ?_; clear hAz316; subst hEz316_1)
              k_unfold; clear Gz
              have e9 : rdOffs D (u16At D 8 + 2) (u16At D 8) cx.toNat = .ok out := by
                unfold rdOffs
                rw [← hmp, List.take_of_length_le (by rw [List.length_range]; exact Nat.le_refl _)]
              have hoN : out.length = cx.toNat := by rw [mapE_len hmp, List.length_take, List.length_range]; exact Nat.min_self _
              have hog : ∀ q ∈ out, 0 ≤ q ∧ q < 70000000 := fun q hq => by
                refine (let Gz : Prop := _; (?_ : Gz))
                (refine ex1 (mapE_all e9 q hq) fun j hAz317 => ?_; refine and2 (hAz317) fun _ e => ?_; clear hAz317)
                k_unfold; clear Gz
                have := rdOff_bd hD e
                (k_extra "m_om")
              have hoz : out.length ≤ 65536 := by (k_extra "m_om")
              k_extra "m_steps"
              rename Fr g' L' _ _ => F10
              rename News g' L' _ _ => N10
              have hOz30 : ∃ r, News g' L' _ r ∧ (pl, LCg.lst ys) ∈ r ∧ (L' + 1, o2) ∈ r ∧ (∀ p ∈ R3, p ∈ r) := ⟨_, N10, by k_extra "m_in", by k_extra "m_in", by k_extra "m_sub"⟩
              refine (let Gz : Prop := _; (?_ : Gz))
              (refine ex1 (hOz30) fun r1 hAz318 => ?_; clear hOz30; refine and4 (hAz318) fun N10 q1 q2 q3 => ?_; clear hAz318)
              k_unfold; clear Gz
              refine at_list1 (kp := kp) (its := ys.toArray) (fun z => mapE (rdLook b D) out = .error z) (fun j zs nw => ∃ t2 out2, nw = t2 ++ r1 ∧ mapE (rdLook b D) (out.take j) = .ok out2 ∧ DatAll t2 zs (out2.map lookD) ∧ Apart t2 r1)
                B' F10 N10 rfl rfl rfl ?_ ?_ (by decide) rfl rfl ?_ hkp.2 ⟨[], [], rfl, rfl, .nil, Apart.nil⟩ (fun z hz h => hE _ _ _ _ _ (herr z ?_)) ?_ ?_
              · rw [List.size_toArray, hys.length, sizeLine_eq]; (k_extra "m_om")
              · intro j zs nw hJz31
                refine (let Gz : Prop := _; (?_ : Gz))
                (refine ex2 (hJz31) fun t2 out2 hAz319 => ?_; clear hJz31; refine and2 (hAz319) fun hEz319_2 _ => ?_; clear hAz319; subst hEz319_2)
                k_unfold; clear Gz
                exact .inr ⟨_, List.mem_append_right _ q1, rfl, _, rfl⟩
              · intro j zs nw hJz32
                refine (let Gz : Prop := _; (?_ : Gz))
                (refine ex2 (hJz32) fun t2 out2 hAz320 => ?_; clear hJz32; refine and2 (hAz320) fun hEz320_2 _ => ?_; clear hAz320; subst hEz320_2)
                k_unfold; clear Gz
                intro q hq
                exact List.mem_append_right _ (q3 _ (q3n _ (hkp.1 q hq)))
              · exact bo e1 (bo ev (bo e3 (bo dhx (bo shx (be (if_no (by (k_extra "m_om")) (bo e8 (bo e9 (hz)))))))))
              · intro j v zs nw I oI C oC D' m₂ h tk hv hJz33
                refine (let Gz : Prop := _; (?_ : Gz))
                (refine ex2 (hJz33) fun t2 out2 hAz321 => ?_; clear hJz33; refine and4 (hAz321) fun hEz321_2 hmp2 hd2 hap => ?_; clear hAz321; subst hEz321_2)
                k_unfold; clear Gz
                intro hoC hx1 F2 N2 O3 hne hkk
                refine (let Gz : Prop := _; (?_ : Gz))
                (refine ex2 (ints_at hys (by simpa using hv)) fun gj tj hAz322 => ?_; refine and2 (hAz322) fun hgj hEz322_3 => ?_; clear hAz322; subst hEz322_3)
                k_unfold; clear Gz
                have hgb := hog gj (List.mem_of_getElem? hgj)
                replace N2 := News.sub (news' := (L' + 1, o2) :: (I, oI) :: (C, oC) :: (D', LCg.lst zs) :: (t2 ++ r1)) N2
                  ((fmc (.tail _ (.tail _ (.tail _ (List.mem_append_right _ q2)))) (fun _ h => h)))
                have hkk2 := KeptIn.mono hkk (news' := (L' + 1, o2) :: (I, oI) :: (C, oC) :: (D', LCg.lst zs) :: (t2 ++ r1)) (fun p hp => .tail _ hp)
                k_extra "m_steps"
                · have htg2 : Apart lkn ((I, oI) :: (C, oC) :: (D', LCg.lst zs) :: (t2 ++ r1)) := hlka.mono fun p hp => .tail _ hp
                  refine LCg.CompEnd.intro (by assumption) (by assumption) ((lkn ++ t2) ++ r1) (by k_extra "m_sub") (by rw [List.append_assoc]; exact off3_app O3 (off3_of_apart htg2)) trivial ⟨lkn ++ t2, out2 ++ [lkr], rfl, mapE_next hgj hmp2 hlkr, ?_, ?_⟩
                  · rw [List.map_append]
                    exact DatAll.append (hd2.mono fun p hp => List.mem_append_right _ hp) (.one (hlkx.mono fun p hp => List.mem_append_left _ hp))
                  · exact Apart.app (htg2.mono fun p hp => .tail _ (.tail _ (.tail _ (List.mem_append_right _ hp)))) hap
                · exact errs_fly (show mapE (rdLook b D) out = .error _ from mapE_stop hgj hmp2 (by assumption))
              · refine fin_someU ?_ ?_ ?_ ?_
                · exact rfl
                · exact rfl
                · exact rfl
                intro tl h tk zs nw F2 N2 hno2 hJz35
                refine (let Gz : Prop := _; (?_ : Gz))
                (refine ex2 (hJz35) fun t2 out2 hAz323 => ?_; clear hJz35; refine and4 (hAz323) fun hEz323_2 hmp2 hd2 hap => ?_; clear hAz323; subst hEz323_2)
                k_unfold; clear Gz
                rw [List.size_toArray, hys.length, List.take_length] at hmp2
                k_extra "m_steps"
                refine ThiP.mk (by assumption) rfl rfl rfl ?_ hd2 (if_no (by (k_extra "m_om")) (bo e8 (bo e9 hmp2))) (Apart.cons (fun p hp => hno2 p (List.mem_append_right _ (q3 p hp))) (hap.mono q3))
                · rename News g' L' _ _ => NZ
                  exact News.sub NZ ((fmc (by k_extra "m_in") (List.forall_mem_append.mpr ⟨by k_extra "m_sub", fun p hp => .tail _ (List.mem_append_right _ (q3 p hp))⟩)))
          · refine hE _ _ _ _ _ (herr _ ?_)
            exact bo e1 (bo ev (bo e3 (bo dhx (bo shx (be (if_no (by (k_extra "m_om")) (be (show rdU16 D (u16At D 8) = .error _ by assumption))))))))
          · exact ThiP.mk (tvs := []) (tn := []) (tx := []) (by assumption) rfl rfl rfl (by assumption) .nil (if_yes (by (k_extra "m_om"))) (Apart.cons (fun p hp => Nat.ne_of_lt (llwx p hp)) Apart.nil)
        · intro h' tk' m₁ tl tvs tn tx F8 hn1 hn2 hn3 N8 thd thx tha
          replace F8 := Fr.top2 (Fr.top2 (Fr.top2 F8 hn1) (k := Str.ofString "second") (v := .ref sl) (by rw [if_neg (by decide +kernel)]; exact hn2)) (k := Str.ofString "third") (v := .ref tl) (by rw [if_neg (by decide +kernel), if_neg (by decide +kernel)]; exact hn3)
          have z1 : dvs.length ≤ 16000 := by rw [dhd.length, List.length_map]; exact Nat.le_trans (few_scr hD b4.1 dhx) (by (k_extra "m_om"))
          have z2 : svs.length ≤ 16000 := by rw [shd.length, List.length_map]; exact Nat.le_trans (few_feat hD b6.1 shx) (by (k_extra "m_om"))
          have z3 : tvs.length ≤ 16000 := by rw [thd.length, List.length_map]; exact Nat.le_trans (few_look b8.1 thx) (by (k_extra "m_om"))
          have q5 : (dr, LCg.lst dvs) ∈ R3 := q3d _ (.head _)
          have q6 : (sl, LCg.lst svs) ∈ R3 := q3s _ (.head _)
          have q7 : ∀ p ∈ sn ++ (dn ++ news), p ∈ R3 := List.forall_mem_append.mpr ⟨fun p hp => q3s p (.tail _ hp), List.forall_mem_append.mpr ⟨fun p hp => q3d p (.tail _ (List.mem_append_left _ hp)), q3n⟩⟩
          have hal : Apart sn news := fun p hp q hq => sha p (.tail _ hp) q (.tail _ (List.mem_append_right _ (.tail _ (.tail _ hq))))
          have hbl : Apart dn news := fun p hp q hq => dha p (.tail _ hp) q (.tail _ (.tail _ hq))
          clear hk3 hR3 hkp
          k_extra "m_steps"
          rename News h₀ L _ _ => NZ
          refine (let Gz : Prop := _; (?_ : Gz))
          (refine ex1 (fin_lay NZ ltwx (by assumption) (by assumption) (by assumption) q7 thd shd dhd tha hal hbl) fun nw hAz324 => ?_; refine and3 (hAz324) fun NZ hdz haz => ?_; clear hAz324)
          k_unfold; clear Gz
          refine hok (dx, sx, tx) ?_ _ _ tw nw (by assumption) NZ hdz haz
          exact bo e1 (bo ev (bo e3 (bo dhx (bo shx (bo thx rfl)))))
  · rename rdU16 D 0 = .ok _ => e1
    rename rdU16 D 2 = .ok _ => e2
    rename _ = (1 : Int) => hv1
    rw [hv1] at e1
    rename rdRows D _ _ = .error _ => e3
    refine hE _ _ _ _ _ (herr _ ?_)
    exact bo e1 (bo (show rdVer D 1 = .ok () by unfold rdVer; rw [if_pos rfl, e2]; exact if_neg (by assumption)) (be (rows3_err e3)))
  · rename rdU16 D 0 = .ok _ => e1
    rename rdU16 D 2 = .error _ => e2
    rename _ = (1 : Int) => hv1
    rw [hv1] at e1
    refine hE _ _ _ _ _ (herr _ ?_)
    exact bo e1 (be (show rdVer D 1 = .error _ by unfold rdVer; rw [if_pos rfl, e2]))
  · rename rdU16 D 0 = .error _ => e1
    refine hE _ _ _ _ _ (herr _ ?_)
    exact be e1
end
theorem off_ZP : True := by
  k_with "off ZP" => (skip)
  exact trivial
end
section
theorem reset_Q1 : True := by
  w_top off
  exact trivial
section
variable {w : World} {dp un : Nat} {gd : Option (List Code)} {cn : Str} {cs : Scope} {a : Addr} {ccd : Value} {cl : List (Str × Addr)} {outer : List Env} {A₀ : Around} {base h₀ : Heap} {L : Addr} {m : Str → Option Value} {s : Shared} {Q E : Value → Shared → Prop} {p : Program} {loose : List Str} {mean : ExcName → Option Value} {mg mb : Str → Option Value} {news : List (Addr × Obj)} {tb : Tok} {b : Array UInt8}
theorem enterQ {name qual : Str} {params : Arguments} {body : List Stmt} {scope : Scope} {dV kV doc pm cdv ct oc : Value} {an od : Option Addr} {osl : Array (Option Value)} {f : Addr} {vs : List Value} (binds : List (Str × Value))
    (B : Below A₀ base outer h₀) (F : Fr h₀ L s.heap m) (X : (hd.heap_39 w.params).In h₀) (N : News h₀ L s.heap news) (T : Top p loose mean mg mb h₀) (hk : cs.kind = .function)
    (ho : (hd.heap_39 w.params).lookup f = some ⟨oc, od, .func (fnOf name qual params body scope dV kV doc pm an cdv ct), osl⟩) (hcd : codeIn (hd.heap_39 w.params) cdv qual = true) (hroom : dp < recursionLimit)
    (hbind : BindsTo s (fnOf name qual params body scope dV kV doc pm an cdv ct) ⟨vs, []⟩ binds) (hloc : (binds.all fun x => decide (scope.names.lookup x.1 = some .local)) = true)
    (hco : scope.isCoroutine = false) (hgen : scope.isGenerator = false) (hks : scope.kind = .function) (hcell : ∀ x ∈ scope.names, x.2 ≠ .cell)
    (h : ∀ g L' h₁ E', Fr h₀ L g m → (∀ b o, s.heap.get? b = some o → b ∉ news.map (·.1) → g.get? b = some o) → Fr g L' h₁ (fun y => binds.reverse.lookup y) → News g L' h₁ news → Below (ktrTop dp un gd cn cs L a ccd cl outer) base (envX cn cs L a ccd cl :: outer) g → (hd.heap_39 w.params).In g → Top p loose mean mg mb g → (∀ v s', LeaveK h₀ L m g (backR Q E) v s' → Q v s') →
      wpAny (model PySem.Challenge.rw_nu0165_01.row.prog w) (ktrTop (dp + 1) (un + 3) gd qual scope L' f cdv [] (envX cn cs L a ccd cl :: outer)) (execs body (envX qual scope L' f cdv []))
        (fun fl s' => Q (match fl with | .ret v => v | _ => .none) s') E' { s with heap := h₁, toks := s.toks + binds.length }) :
    wpAny (model PySem.Challenge.rw_nu0165_01.row.prog w) (ktrTop dp un gd cn cs L a ccd cl outer) (call (.ref f) vs) Q E s := by
  refine (let Gz : Prop := _; (?_ : Gz))
  (refine and4 (groundX (A := ktrTop dp un gd cn cs L a ccd cl outer) (env := envX cn cs L a ccd cl) (R := backR Q E) B F N rfl rfl hk) fun FG BG st lv => ?_)
  k_unfold; clear Gz
  refine wpAny_call (codeAny_call_def (fd := fnOf name qual params body scope dV kV doc pm an cdv ct) (body := body) (binds := binds) hroom ((X.keeps F.keep) _ _ ho) rfl ((T.nolimit).keeps F.keep) (codeRec_of (X.keeps F.keep) hcd) rfl hbind hcell (locs hloc) (fun h₁ hns hk₁ => ?_) hco hgen hks)
  exact wpAny_mono (h _ s.heap.objs.size h₁ _ FG (fun b o e q => hideAll_get _ e q) ⟨hns, fun b o e => hk₁ b o (of_hideAll _ e), Nat.le_of_eq (hideAll_size _ _)⟩
    (fun p hp => ⟨hk₁ _ _ (N p hp).1, Nat.ne_of_lt (Heap.lt_size (N p hp).1), hideAll_none _ (List.mem_map_of_mem hp)⟩) BG (X.keeps st) (T.keeps st) (fun v s' hl => lv v s' hl)) (fun fl s' hl => hl) fun _ _ y => y
theorem back_ok {g h' : Heap} {L' : Addr} {m' : Str → Option Value} {nw : List (Addr × Obj)} (FG : Fr h₀ L g m) (F' : Fr g L' h' m') (N' : News g L' h' nw) (hg : ∀ b o, s.heap.get? b = some o → g.get? b = some o) (N : News h₀ L s.heap news) :
    Fr h₀ L h' m ∧ News h₀ L h' (nw ++ news) ∧ Apart nw news := by
  refine ⟨⟨FG.ns.keeps F'.keep, fun b o e => F'.keep _ _ (FG.keep _ _ e), FG.above⟩, fun q hq => ?_, fun q hq p hp e => ?_⟩
  · rcases List.mem_append.mp hq with hq | hq
    · have n := N' q hq
      refine ⟨n.1, fun e => ?_, ?_⟩
      · refine (let Gz : Prop := _; (?_ : Gz))
        (refine ex3 (FG.ns) fun o _ _ hAz326 => ?_; refine and2 (hAz326) fun ho _ => ?_; clear hAz326)
        k_unfold; clear Gz
        rw [← e, n.2.2] at ho; cases ho
      · cases e : h₀.get? q.1 with
        | none => rfl
        | some o => have := FG.keep _ _ e; rw [n.2.2] at this; cases this
    · have n := N q hq
      exact ⟨F'.keep _ _ (hg _ _ n.1), n.2⟩
  · have := hg _ _ (N p hp).1
    rw [e, (N' q hq).2.2] at this; cases this
theorem FnAt_keep {g h' : Heap} {f : Addr} (hg : ∀ b o, s.heap.get? b = some o → g.get? b = some o) (k : ∀ b o, g.get? b = some o → h'.get? b = some o) (x : FnAt f s.heap) : FnAt f h' := by
  refine (let Gz : Prop := _; (?_ : Gz))
  (refine ex4 (x) fun oc od fd sl e => ?_; clear x)
  k_unfold; clear Gz
  exact ⟨oc, od, fd, sl, k _ _ (hg _ _ e)⟩
theorem excm {A : Around} {E : Value → Shared → Prop} {h : Heap} {gs : Array GenState} {d : Drawn} {t : Tok} {os : OsState} {e : Addr} {oe : Obj} {Q : Bool → Shared → Prop} (X : (hd.heap_39 w.params).In h) (he : h.get? e = some oe) (hc : oe.cls = .ref 61)
    (hq : Q true ⟨h, gs, d, t, os⟩) : wpAny (model PySem.Challenge.rw_nu0165_01.row.prog w) A (excMatches (.ref e) (.ref 61)) Q E ⟨h, gs, d, t, os⟩ := by
  have f1 : Looks (model PySem.Challenge.rw_nu0165_01.row.prog w) h (isInstance (.ref 61) (.type "tuple")) false := look X (by kernel_rfl)
  have f2 : Looks (model PySem.Challenge.rw_nu0165_01.row.prog w) h (isExcClass (.ref 61)) true := look X (by kernel_rfl)
  have f3 : Looks (model PySem.Challenge.rw_nu0165_01.row.prog w) h (typeOf (.ref e)) (.ref 61) := hc ▸ (Looks.ld he).andThen .now
  have f4 : Looks (model PySem.Challenge.rw_nu0165_01.row.prog w) h (isSubtype (.ref 61) (.ref 61)) true := look X (by kernel_rfl)
  unfold excMatches
  repeat lk
  exact hq
theorem check_ga {nameV : Value} {E : Value → Shared → Prop} {h : Heap} {gs : Array GenState} {d : Drawn} {t : Tok} {os : OsState} {e : Addr} {oe : Obj} {A : Around} {Q : Unit → Shared → Prop} (X : (hd.heap_39 w.params).In h) (he : h.get? e = some oe) (hc : oe.cls = .ref 61)
    (hq : Q () ⟨h, gs, d, t, os⟩) : wpAny (model PySem.Challenge.rw_nu0165_01.row.prog w) A (checkBuiltinCall "BaseException.__getattribute__" ⟨[.ref e, nameV], []⟩) Q E ⟨h, gs, d, t, os⟩ := by
  have hk : builtinKind "BaseException.__getattribute__" = some .slot := by decide +kernel
  have hsplit : splitId "BaseException.__getattribute__" = some ("BaseException", "__getattribute__") := by decide +kernel
  have ha := PySem.F.args_bexc_ga (.ref e) nameV
  have f3 : Looks (model PySem.Challenge.rw_nu0165_01.row.prog w) h (typeOf (.ref e)) (.ref 61) := hc ▸ (Looks.ld he).andThen .now
  have f4 : Looks (model PySem.Challenge.rw_nu0165_01.row.prog w) h (isSubtype (.ref 61) (.type "BaseException")) true := look X (by kernel_rfl)
  simp only [checkBuiltinCall, hk, hsplit]
  refine wpAny_bind ?_
  · unfold isInstance
    repeat (first | lk | wp_step)
    exact hq
theorem fault_at {A : Around} {E : Value → Shared → Prop} {s : Shared} {e dx : Addr} {oe : Obj} {vs : Array Value} {c d : Int} {t1 t2 tx ti : Tok} {xx : Str} {z : Int} {Q : Value → Shared → Prop} (X : (hd.heap_39 w.params).In s.heap) (he : s.heap.get? e = some oe) (hc : oe.cls = .ref 61)
    (hdi : oe.dict = some dx) (hdt : oe.data = .fields vs) (hdx : s.heap.get? dx = some (excDict c d t1 t2 tx ti xx z)) (hq : Q (.int z ti) { s with toks := s.toks + 1 }) : wpAny (model PySem.Challenge.rw_nu0165_01.row.prog w) A (getAttr (.ref e) (Str.ofString "at") true) Q E s := by
  refine (let Gz : Prop := _; (?_ : Gz))
  obtain ⟨hh, gs, dr, tk, os⟩ := s
  k_unfold; clear Gz
  dsimp only at X he hdx hq
  have I : W.InstAt hh e oe 61 (some (excDict c d t1 t2 tx ti xx z)) := ⟨he, hc, by unfold notCls; rw [hdt], by rw [hdi]; exact hdx⟩
  have f0 := I.type (M := model PySem.Challenge.rw_nu0165_01.row.prog w)
  have f1 : Looks (model PySem.Challenge.rw_nu0165_01.row.prog w) hh (typeLookup (.ref 61) "__getattribute__") (some (.builtin "BaseException.__getattribute__")) := looks_findIn X (by k_dflt k_is)
  have f2 : Looks (model PySem.Challenge.rw_nu0165_01.row.prog w) hh (typeLookup (.ref 61) "__getattr__") none := looks_findIn X (by k_dflt k_is)
  have f4 : Looks (model PySem.Challenge.rw_nu0165_01.row.prog w) hh (PySem.Builtin.ObjectAttr.find (.ref e) (.ref 61) (Str.ofString "at")) (PySem.Builtin.ObjectAttr.Found.value (.int z ti)) := looks_find X I (by kernel_rfl)
  have f3 := PySem.F.attr_ValueError.ga.bind (.ref e)
  have hx2 : (Value.builtin "BaseException.__getattribute__" == Value.builtin "object.__getattribute__") = false := by decide +kernel
  have hx1 : (onTheHeap (Value.ref 61) && Value.builtin "BaseException.__getattribute__" == Value.builtin "object.__getattribute__") = false := by rw [hx2]; rfl
  have fin : ∀ E₂ : Value → Shared → Prop, wpAny (model PySem.Challenge.rw_nu0165_01.row.prog w) A (boundAndCalled (.builtin "BaseException.__getattribute__") (.ref e) (.str (Str.ofString "at") tk)) (fun v s' => wpAny (model PySem.Challenge.rw_nu0165_01.row.prog w) A (handedOut v) Q E s') E₂ ⟨hh, gs, dr, tk + 1, os⟩ := by
    intro E₂
    unfold boundAndCalled
    rw [f3]
    refine wpAny_bind (wpAny_pure (wpAny_call (codeAny_call_builtin PySem.F.attr_ValueError.ga.plain PySem.F.entry_bexc_ga (check_ga X he hc ?_))))
    unfold Builtin.«object.__getattribute__»
    refine wpAny_bind (wpAny_pure (wpAny_bind (wpAny_pure (wpAny_bind (f0.at (wpAny_bind (f4.at ?_)))))))
    exact wpAny_pure (wpAny_pure hq)
  unfold getAttr getAttrBy
  refine wpAny_bind (wpAny_mkText (wpAny_holding (wpAny_bind (f0.at (wpAny_bind (f1.at ?_))))))
  dsimp only
  rw [hx1, if_neg (by decide)]
  unfold getAttrByItsOwn hookBefore
  rw [if_pos (show onTheHeap (Value.ref 61) = true from rfl)]
  refine wpAny_bind (f2.at ?_)
  refine wpAny_bind (wpAny_attempt (wpAny_holding ?_))
  show wpAny _ _ (boundAndCalled (.builtin "BaseException.__getattribute__") (.ref e) (.str (Str.ofString "at") tk)) _ _ _
  exact fin _
noncomputable def Asks (w : World) (gd : Option (List Code)) (outer : List Env) (h₁ : Heap) (p : Program) (loose : List Str) (mean : ExcName → Option Value) (mg mb : Str → Option Value) (f : Addr) (b : Array UInt8) (D : List Int) : Prop :=
  ∀ {dp un : Nat} {cn : Str} {cs : Scope} {L a : Addr} {ccd : Value} {cl : List (Str × Addr)} {A₀ : Around} {base g : Heap} {m : Str → Option Value} {s : Shared} {Q E : Value → Shared → Prop}, dp + 70 < recursionLimit → un + 400 < cLine → cs.kind = .function → Below A₀ base outer g → h₁.StaysIn g → Fr g L s.heap m → (hd.heap_39 w.params).In g → Top p loose mean mg mb g →
    (∀ x, rdLay b D = .ok x → ∀ h' tk' t nw, Fr g L h' m → News g L h' nw → DatIn nw (.ref t) (layD x) → Q (.ref t) { s with heap := h', toks := tk' }) →
    (∀ z, rdLay b D = .error z → Errs base g [] (envX cn cs L a ccd cl) outer L m E s z) →
    Cl w dp un gd cn cs L a ccd cl outer f [] Q E s
end
section
variable {w : World} {dp un : Nat} {gd : Option (List Code)} {cn : Str} {cs : Scope} {a : Addr} {ccd : Value} {cl : List (Str × Addr)} {A₀ : Around} {base h₀ : Heap} {L : Addr} {m : Str → Option Value} {s : Shared} {Q E : Value → Shared → Prop} {p : Program} {loose : List Str} {mean : ExcName → Option Value} {mg mb : Str → Option Value} {news : List (Addr × Obj)} {tb : Tok} {b : Array UInt8}
variable (B : Below A₀ base [] h₀) (F : Fr h₀ L s.heap m) (X : (hd.heap_39 w.params).In h₀) (N : News h₀ L s.heap news) (T : Top p loose mean mg mb h₀) (hk : cs.kind = .function)
include B F X N T hk
theorem lines_Q11 : True := by
  k_with "callWith ref" => (first | ((fail_if_success (k_extra "off Q1")); k_extra "m_stop") | fail)
  k_with "getAttr ref" => (first | ((fail_if_success (k_extra "off Q1")); k_extra "m_stop") | fail)
  exact trivial
set_option maxHeartbeats 4000000 in
theorem heard_spec (hd : dp + 80 < recursionLimit) (hu : un + 450 < cLine) (D : List Int) (f : Addr) (hfn : FnAt f s.heap) (hask : Asks w gd [envX cn cs L a ccd cl] s.heap p loose mean mg mb f b D)
    (hok : ∀ x, rdLay b D = .ok x → ∀ h' tk' t t2 k nw, Fr h₀ L h' m → News h₀ L h' (((t, tupO [.str (Str.ofString "ok") k, .ref t2]) :: nw) ++ news) → DatIn nw (.ref t2) (layD x) → Apart ((t, tupO [.str (Str.ofString "ok") k, .ref t2]) :: nw) news → Q (.ref t) { s with heap := h', toks := tk' })
    (herr : ∀ z, rdLay b D = .error z → ∀ h' tk' t k k2, Fr h₀ L h' m → News h₀ L h' ((t, tupO [.str (Str.ofString "fault") k, .int z k2]) :: news) → (∀ p ∈ news, p.1 ≠ t) → Q (.ref t) { s with heap := h', toks := tk' }) :
    Cl w dp un gd cn cs L a ccd cl [] 483 [.ref f] Q E s := by
  k_dflt (refine' enterQ (news := []) [("ask", .ref f)] B F X News.nil T hk ?k6 ?k7 ?k8 ?k9 ?kB ?c2 ?c3 ?c4 ?c5 ?_; (case k6 => k_is); (case k7 => k_is); (case k8 => first | exact room_n (by with_reducible assumption) (by decide) | exact room_k (by with_reducible assumption) (by decide) | exact room_z (by with_reducible assumption) | ktr_room); (case k9 => exact BindsTo.of_eq rfl); (case kB => exact rfl); (case c2 => exact rfl); (case c3 => exact rfl); (case c4 => exact rfl); (case c5 => decide))
  intro g L' h₁ E' FG hgg F' N' B' X' T' hlv
  try dsimp only
  try k_fold
  refine foldAV ?_; intro Mz Az vz gz dz oz
  k_extra "m_steps"
  refine wpAny_Try_except ?_
  k_extra "m_steps"
  have hg : ∀ b o, s.heap.get? b = some o → g.get? b = some o := fun b o e => hgg b o e (fun h => nomatch h)
  have gL : ∀ e, e = L → (hideAll g [L]).get? e = none := fun e h => hideAll_none _ (List.mem_singleton.mpr h)
  have B1 : Below (ktrTop dp un gd cn cs L a ccd cl []) (hideAll g [L]) [envX cn cs L a ccd cl] g := ⟨B'.stack, fun b o e => of_hideAll _ e, funFrames_hide B'.frames fun env he c hc => by
    rw [List.mem_singleton.mp he] at hc
    cases hc; exact .head _⟩
  refine callWith_F0 (FnAt_keep hg F'.keep hfn) ?_
  try dsimp only [List.nil_append]
  refine hask (A₀ := ktrTop dp un gd cn cs L a ccd cl []) (base := hideAll g [L]) (by (k_extra "m_om")) (by (k_extra "m_om")) rfl B1 hg F' X' T' ?_ ?_
  · intro x hx h' tk' t nw F2 N2 hd2
    k_extra "m_steps"
    show Q (.ref tw) _
    refine (let Gz : Prop := _; (?_ : Gz))
    (refine and3 (back_ok FG (by assumption) (by assumption) hg N) fun FZ NZ AZ => ?_)
    k_unfold; clear Gz
    exact hok x hx _ _ tw _ _ _ FZ NZ (by assumption) AZ
  · intro z hz e h' tk' tr x up ns
    try dsimp only
    have hLn : h₀.get? L = none := Heap.get?_none_of_le F.above
    have stG : h₀.StaysIn (hideAll g [L]) := fun b o e => hideAll_get _ (FG.keep b o e) fun q => by
      rw [List.mem_singleton.mp q, hLn] at e; cases e
    have XG := X.keeps stG
    have TG := T.keeps stG
    have hsz : (hideAll g [L]).objs.size ≤ L' := by rw [hideAll_size]; exact F'.above
    refine note_flies rfl rfl x fun h2 x2 u2 => ?_
    refine flight_flies (s := { s with heap := h2, toks := tk' }) x2 fun h3 x3 u3 => ?_
    have F3 : Fr (hideAll g [L]) L' h3 _ := ⟨u3.ns (u2.ns ns), x3.stays, hsz⟩
    have N3 : News (hideAll g [L]) L' h3 [] := News.nil
    have XGh := XG.keeps F3.keep
    refine wpAny_handleBy_cons (codeAny_handlers_test ?_) (by intro q; cases q)
    k_extra "m_steps"
    refine (let Gz : Prop := _; (?_ : Gz))
    (refine ex4 (x3.exc) fun oe3 vs3 dx3 od3 hAz330 => ?_; refine and3 (hAz330) fun he3 hc3 _ => ?_; clear hAz330)
    k_unfold; clear Gz
    refine excm XGh he3 hc3 ?_
    try dsimp only
    refine codeAny_handlers_suite_as ?_
    refine flight_flies (s := { s with heap := h3, toks := tk' }) x3 fun h4 x4 u4 => ?_
    try dsimp only
    refine (let Gz : Prop := _; (?_ : Gz))
    (refine ex4 (x4.exc) fun oe vs dx od hAz331 => ?_; refine and11 (hAz331) fun he hc hdi hdt hvs hdx hdx4 hNz331_11 hdf _ _ => ?_; clear hAz331; obtain ⟨c, d, t1, t2, tx, ti, xx, rfl⟩ := hNz331_11)
    k_unfold; clear Gz
    have ns4 := u4.ns (u3.ns (u2.ns ns))
    have nL4 := u4.ns (u3.ns (u2.ns (up.ns FG.ns)))
    refine (let Gz : Prop := _; (?_ : Gz))
    (refine ex3 (nL4) fun oL esL epL hAz333 => ?_; clear nL4; refine and4 (hAz333) fun hoL hLd hLk hLf => ?_; clear hAz333)
    k_unfold; clear Gz
    have F4 : Fr (hideAll g [L]) L' h4 _ := ⟨ns4, x4.stays, hsz⟩
    have hLL : L ≠ L' := by
      have := F'.above
      refine (let Gz : Prop := _; (?_ : Gz))
      (refine ex3 (FG.ns) fun o _ _ hAz334 => ?_; refine and2 (hAz334) fun ho _ => ?_; clear hAz334)
      k_unfold; clear Gz
      exact Nat.ne_of_lt (Nat.lt_of_lt_of_le (Heap.lt_size ho) this)
    have N4 : News (hideAll g [L]) L' h4 [(e, oe), (dx, excDict c d t1 t2 tx ti xx z), (L, oL)] := by
      refine (fmc (⟨he, fun q => ?_, x4.new⟩) ((fmc (⟨hdx4, fun q => ?_, hdx⟩) ((fmc (⟨hoL, hLL, hideAll_none _ (.head _)⟩) (List.forall_mem_nil _))))))
      · refine (let Gz : Prop := _; (?_ : Gz))
        (refine ex3 (ns4) fun o es ep hAz335 => ?_; clear ns4; refine and3 (hAz335) fun ho hod _ => ?_; clear hAz335)
        k_unfold; clear Gz
        dsimp only at q
        rw [← q, he] at ho; cases ho
        rw [hdt] at hod; cases hod
      · exact hdf (by rw [show dx = L' from q]; exact .head _)
    k_extra "m_steps"
    rename Fr (hideAll g [L]) L' _ _ => F5
    rename News (hideAll g [L]) L' _ _ => N5
    refine fault_at (XG.keeps F5.keep) (N5 _ (.head _)).1 hc hdi hdt (N5 _ (.tail _ (.head _))).1 ?_
    try dsimp only
    k_extra "m_steps"
    refine name_goes_keeps (by assumption) (by assumption) ?_
    intro h6 v6 F6 N6
    show Q (.ref tw) _
    have nLL := (N6 (L, oL) (.tail _ (.tail _ (.tail _ (.head _))))).1
    have n6 := N6 _ (.head _)
    refine herr z hz _ _ tw _ ti ⟨⟨oL, esL, epL, nLL, hLd, hLk, hLf⟩, fun b o e => F6.keep b o (stG b o e), F.above⟩ ((fmc (⟨n6.1, fun q => ?_, ?_⟩) (fun q hq => ⟨F6.keep _ _ (hideAll_get _ (hg _ _ (N q hq).1) fun h => (N q hq).2.1 (List.mem_singleton.mp h)), (N q hq).2⟩))) fun q hq e => ?_
    · exact absurd (show tw = L from q) (Nat.ne_of_gt ltw.2.2)
    · cases e : h₀.get? tw with
      | none => rfl
      | some o =>
        have := stG _ _ e
        rw [n6.2.2] at this; cases this
    · have := hideAll_get [L] (hg _ _ (N q hq).1) fun h => (N q hq).2.1 (List.mem_singleton.mp h)
      rw [e, n6.2.2] at this; cases this
end
theorem off_Q1 : True := by
  k_with "off Q1" => (skip)
  exact trivial
end
section
theorem reset_Q2 : True := by
  w_top off
  exact trivial
section
variable {w : World} {dp un : Nat} {gd : Option (List Code)} {cn : Str} {cs : Scope} {a : Addr} {ccd : Value} {cl : List (Str × Addr)} {outer : List Env} {A₀ : Around} {base h₀ : Heap} {L : Addr} {m : Str → Option Value} {s : Shared} {Q E : Value → Shared → Prop} {p : Program} {loose : List Str} {mean : ExcName → Option Value} {mg mb : Str → Option Value} {news : List (Addr × Obj)} {tb : Tok} {b : Array UInt8}
theorem lam_code {prog : Program} {K : Frag} {A : Around} {env : Env} {R : Result → Shared → Prop} {name qual : Str} {params : Arguments} {body : Expr} {scope : Scope} {clo : List (Str × Addr)} {pm ctv : Value} {c' : Addr} {f : Addr} {args : Args} {binds : List (Str × Value)}
    (B : Below A₀ base outer h₀) (F : Fr h₀ L s.heap m) (X₀ : K.In h₀) (T : Top p loose mean mg mb h₀) (hA : A.frames = some (env :: outer)) (hf : env.frame = some L) (hke : env.scope.kind = .function)
    (ho : s.heap.get? f = some (kla_obj name qual params body scope clo pm c' ctv)) (hcd : s.heap.CodeRec (.ref c') qual) (hroom : A.depth < recursionLimit)
    (hbind : bindArgs (kla_fn name qual params body scope clo pm (.ref c') ctv) args = pure binds) (hloc : ∀ y ∈ binds, scope.names.lookup y.1 = some .local)
    (h : ∀ g L' h₁, Fr h₀ L g m → (∀ b o, s.heap.get? b = some o → g.get? b = some o) → Fr g L' h₁ (fun y => binds.reverse.lookup y) → Below A base (env :: outer) g → K.In g → Top p loose mean mg mb g →
      wpAny (model prog w) (A.deeper (envX qual scope L' f (.ref c') clo)) (eval body (envX qual scope L' f (.ref c') clo))
        (fun v s' => LeaveK h₀ L m g R v s')
        (fun e s' => wpAny (model prog w) (A.deeper (envX qual scope L' f (.ref c') clo)) (leaving (envX qual scope L' f (.ref c') clo) e) (fun _ s'' => R (.error e) s'') (fun e' s'' => R (.error e') s'') s')
        { s with heap := h₁, toks := s.toks + binds.length })
    (hco : scope.isCoroutine = false) (hgen : scope.isGenerator = false) (hk : scope.kind = .function)
    (hcell : ∀ x ∈ scope.names, x.2 ≠ .cell) : codeAny (model prog w) A (.call (.ref f) args) R s := by
  refine (let Gz : Prop := _; (?_ : Gz))
  (refine and4 (groundX (R := R) (news := []) B F News.nil hA hf hke) fun FG BG st lv => ?_)
  k_unfold; clear Gz
  refine kla_callFunE hroom ho rfl hco hgen rfl hcd ?_
  rw [hbind]
  refine wpAny_pure (wpAny_newFunctionEnv hcell hloc (fun h₁ hns hsb => ⟨((T.nolimit).keeps F.keep).fresh _ hsb, ?_⟩) hk)
  show codeAny _ _ (.expr body (envX qual scope s.heap.objs.size f (.ref c') clo)) _ _
  have hk₁ : ∀ b o, s.heap.get? b = some o → h₁.get? b = some o := fun b o e => hsb.extBut b o (Nat.ne_of_lt (Heap.lt_size e)) (Heap.get?_push_of_some _ e)
  exact kla_codeExpr (wpAny_mono (h _ s.heap.objs.size h₁ FG (fun b o e => hideAll_get _ e (fun h => nomatch h)) ⟨hns, fun b o e => hk₁ b o (of_hideAll _ e), Nat.le_of_eq (hideAll_size _ _)⟩
    BG (X₀.keeps st) (T.keeps st)) (fun v s' hl => lv _ _ hl) fun _ _ y => y)
theorem asks_of {h₁ : Heap} {D : List Int} {f c' : Addr} {qual : Str} {params : Arguments} {body : Expr} {scope : Scope} {clo : List (Str × Addr)} {pm ctv : Value}
    (ho : h₁.get? f = some (kla_obj "<lambda>" qual params body scope clo pm c' ctv)) (hcd : h₁.CodeRec (.ref c') qual)
    (hbind : bindArgs (kla_fn "<lambda>" qual params body scope clo pm (.ref c') ctv) ⟨[], []⟩ = pure []) (hco : scope.isCoroutine = false) (hgen : scope.isGenerator = false) (hk : scope.kind = .function) (hcell : ∀ x ∈ scope.names, x.2 ≠ .cell)
    (h : ∀ {dp un : Nat} {outer' : List Env} {L : Addr} {A₀ : Around} {base g : Heap} {m : Str → Option Value} {s : Shared} {Q E : Value → Shared → Prop}, dp + 69 < recursionLimit → un + 397 < cLine → Below A₀ base outer' g → h₁.StaysIn g → Fr g L s.heap m → News g L s.heap [] → (hd.heap_39 w.params).In g → Top p loose mean mg mb g →
      (∀ x, rdLay b D = .ok x → ∀ h' tk' t nw, Fr g L h' m → News g L h' nw → DatIn nw (.ref t) (layD x) → Q (.ref t) { s with heap := h', toks := tk' }) →
      (∀ z, rdLay b D = .error z → Errs base g [] (envX qual scope L f (.ref c') clo) outer' L m E s z) →
      wpAny (model PySem.Challenge.rw_nu0165_01.row.prog w) (ktrTop dp un gd qual scope L f (.ref c') clo outer') (eval body (envX qual scope L f (.ref c') clo)) Q E s) : Asks w gd outer h₁ p loose mean mg mb f b D := by
  intro dp un cn cs L a ccd cl A₀ base g m s Q E hd hu hks B hst F X T hok herr
  have hkeep : ∀ b o, h₁.get? b = some o → s.heap.get? b = some o := fun b o e => F.keep _ _ (hst b o e)
  have hcd' : s.heap.CodeRec (.ref c') qual := by
    refine (let Gz : Prop := _; (?_ : Gz))
    (refine ex4 (hcd) fun c oc vs tq hAz337 => ?_; clear hcd; refine and4 (hAz337) fun h1 h2 h3 h4 => ?_; clear hAz337)
    k_unfold; clear Gz
    exact ⟨c, oc, vs, tq, h1, hkeep _ _ h2, h3, h4⟩
  refine wpAny_call (lam_code (A := ktrTop dp un gd cn cs L a ccd cl outer) (env := envX cn cs L a ccd cl) B F X T rfl rfl hks (hkeep _ _ ho) hcd' (by show dp < recursionLimit; (k_extra "m_om")) hbind (fun _ h => nomatch h) (fun g' L' h₁' FG hgg F' B' X' T' => ?_) hco hgen hk hcell)
  refine h (dp := dp + 1) (un := un + 3) (by (k_extra "m_om")) (by (k_extra "m_om")) B' (fun b o e => hgg _ _ (hkeep _ _ e)) F' News.nil X' T' ?_ ?_
  · intro x hx h' tk' t nw F2 N2 hd2
    exact leaveK_ F2 N2 fun F3 N3 => hok x hx h' tk' t nw F3 N3 hd2
  · exact fun z hz => errs_in FG rfl rfl (herr z hz)
/-- a free name whose cell lies in the ground -/
theorem name_free {M : Model} {A : Around} {x : Str} {pos : Pos} {v : Value} {c : Addr} {o : Obj} (F : Fr h₀ L s.heap m) (hc : cl.lookup x = some c) (hv : h₀.get? c = some o) (hd : o.data = .cell (some v)) (h : Q v s)
    (hk : cs.kind = .function) (hx : (envX cn cs L a ccd cl).kindOf x = some .free) (hb : (x == ("__debug__" : Str)) = false) (hn : (x == ("__classdict__" : Str)) = false) :
    wpAny M A (eval (.Name x pos) (envX cn cs L a ccd cl)) Q E s := wpAny_Name (wpAny_loadName_free hk hx hc ⟨_, F.keep _ _ hv, hd⟩ h hn) hb
end
theorem off_Q2 : True := by
  k_with "off Q2" => (skip)
  exact trivial
end
section
theorem reset_Q3 : True := by
  w_top off
  exact trivial
theorem bind_ok {α β : Type} {x : Except Int α} {f : α → Except Int β} {y : β} (h : (x >>= f) = .ok y) : ∃ a, x = .ok a ∧ f a = .ok y := by
  cases x with
  | error z => cases h
  | ok a => exact ⟨a, rfl, h⟩
theorem rows_le {D : List Int} {i c : Int} {rx : List Int} (hi : 0 ≤ i) (h : rdRows D i c = .ok rx) : rx.length ≤ D.length := by
  unfold rdRows at h
  split at h
  · cases h
  · rename_i ho
    unfold Out at ho
    cases h
    rw [List.length_map, List.length_range]
    (k_extra "m_om")
theorem ints_kq (l : List Int) (n : Nat) : kqdOk (n + 1) (intsD l) = true := by
  unfold intsD kqdOk
  rw [List.all_map, List.all_eq_true]
  intro x _
  cases n <;> rfl
theorem lang_kq (x : Int × List Int) (n : Nat) : kqdOk (n + 2) (langD x) = true := by
  unfold langD kqdOk
  simp only [List.all_cons, List.all_nil, Bool.and_true]
  rw [ints_kq]; rfl
theorem lang_le {D : List Int} {g : Int} {x : Int × List Int} (hg : 0 ≤ g) (h : rdLang D g = .ok x) : x.2.length ≤ D.length := by
  unfold rdLang at h
  refine (let Gz : Prop := _; (?_ : Gz))
  (refine ex1 (bind_ok h) fun _ hAz338 => ?_; refine and2 (hAz338) fun _ h => ?_; clear hAz338)
  k_unfold; clear Gz
  refine (let Gz : Prop := _; (?_ : Gz))
  (refine ex1 (bind_ok h) fun _ hAz339 => ?_; refine and2 (hAz339) fun _ h => ?_; clear hAz339)
  k_unfold; clear Gz
  refine (let Gz : Prop := _; (?_ : Gz))
  (refine ex1 (bind_ok h) fun _ hAz340 => ?_; refine and2 (hAz340) fun _ h => ?_; clear hAz340)
  k_unfold; clear Gz
  refine (let Gz : Prop := _; (?_ : Gz))
  (refine ex1 (bind_ok h) fun fs hAz341 => ?_; refine and2 (hAz341) fun hf h => ?_; clear hAz341)
  k_unfold; clear Gz
  cases h
  exact rows_le (by (k_extra "m_om")) hf
theorem keyed_all {α : Type} {f : Int → Except Int α} {rs : List (List Int × Int)} {out : List (List Int × α)} (h : mapE (keyed f) rs = .ok out) : ∀ q ∈ out, ∃ p ∈ rs, q.1 = p.1 ∧ f p.2 = .ok q.2 := fun q hq => by
  refine (let Gz : Prop := _; (?_ : Gz))
  (refine ex1 (mapE_all h q hq) fun p hAz342 => ?_; refine and2 (hAz342) fun hp e => ?_; clear hAz342)
  k_unfold; clear Gz
  refine (let Gz : Prop := _; (?_ : Gz))
  obtain ⟨e1, e2⟩ := keyed_inv e
  k_unfold; clear Gz
  exact ⟨p, hp, e1, e2⟩
section
variable {b : Array UInt8} {D : List Int}
theorem script_ok (hD : KBw.bInts b = D) (hsz : D.length ≤ 301) {g : Int} {x : ScrV} (hg : 0 ≤ g) (h : rdScript D g = .ok x) : ScrOk x ∧ ∀ q ∈ x.2, TagOk q.1 := by
  unfold rdScript at h
  refine (let Gz : Prop := _; (?_ : Gz))
  (refine ex1 (bind_ok h) fun off hAz343 => ?_; refine and2 (hAz343) fun ho h => ?_; clear hAz343)
  k_unfold; clear Gz
  refine (let Gz : Prop := _; (?_ : Gz))
  (refine ex1 (bind_ok h) fun df hAz344 => ?_; refine and2 (hAz344) fun hdf h => ?_; clear hAz344)
  k_unfold; clear Gz
  refine (let Gz : Prop := _; (?_ : Gz))
  (refine ex1 (bind_ok h) fun rs hAz345 => ?_; refine and2 (hAz345) fun hr h => ?_; clear hAz345)
  k_unfold; clear Gz
  refine (let Gz : Prop := _; (?_ : Gz))
  (refine ex1 (bind_ok h) fun ls hAz346 => ?_; refine and2 (hAz346) fun hl h => ?_; clear hAz346)
  k_unfold; clear Gz
  cases h
  have hb := recs_bd hD hr
  have hf := recs_few hD (by (k_extra "m_om")) hr
  have hk := keyed_all hl
  refine ⟨⟨?_, asc_keyed (recs_asc hr) hl, fun q hq => ?_, fun y hy => ?_⟩, fun q hq => ?_⟩
  · show ls.length < 64
    rw [mapE_len hl]; (k_extra "m_om")
  · refine (let Gz : Prop := _; (?_ : Gz))
    (refine ex1 (hk q hq) fun p hAz347 => ?_; refine and3 (hAz347) fun hp _ e => ?_; clear hAz347)
    k_unfold; clear Gz
    have := hb p hp
    exact Nat.le_trans (lang_le (by (k_extra "m_om")) e) (by (k_extra "m_om"))
  · dsimp only at hy
    subst hy
    unfold rdDef at hdf
    have := rdU16_bd hD ho
    split at hdf
    · cases hdf
    · split at hdf
      · rename_i e
        cases hdf
        exact Nat.le_trans (lang_le (by (k_extra "m_om")) e) (by (k_extra "m_om"))
      · cases hdf
  · refine (let Gz : Prop := _; (?_ : Gz))
    (refine ex1 (hk q hq) fun p hAz348 => ?_; refine and3 (hAz348) fun hp e1 _ => ?_; clear hAz348)
    k_unfold; clear Gz
    rw [e1]; exact (hb p hp).1
theorem look_ok (hsz : D.length ≤ 301) {g : Int} {x : LookV} (hg : 0 ≤ g) (h : rdLook b D g = .ok x) : PyData.strOk x.1 = true ∧ x.2.2.2.length ≤ 16000 ∧ ∀ r ∈ x.2.2.2, r.2.length ≤ 16000 := by
  unfold rdLook at h
  refine (let Gz : Prop := _; (?_ : Gz))
  (refine ex1 (bind_ok h) fun n hAz349 => ?_; refine and2 (hAz349) fun hn h => ?_; clear hAz349)
  k_unfold; clear Gz
  refine (let Gz : Prop := _; (?_ : Gz))
  (refine ex1 (bind_ok h) fun fl hAz350 => ?_; refine and2 (hAz350) fun hfl h => ?_; clear hAz350)
  k_unfold; clear Gz
  refine (let Gz : Prop := _; (?_ : Gz))
  (refine ex1 (bind_ok h) fun c hAz351 => ?_; refine and2 (hAz351) fun hc h => ?_; clear hAz351)
  k_unfold; clear Gz
  dsimp only at h
  by_cases c0 : c = 0
  · rw [if_pos c0] at h; cases h
  rw [if_neg c0] at h
  refine (let Gz : Prop := _; (?_ : Gz))
  (refine ex1 (bind_ok h) fun _ hAz352 => ?_; refine and2 (hAz352) fun _ h => ?_; clear hAz352)
  k_unfold; clear Gz
  refine (let Gz : Prop := _; (?_ : Gz))
  (refine ex1 (bind_ok h) fun gs hAz353 => ?_; refine and2 (hAz353) fun hgs h => ?_; clear hAz353)
  k_unfold; clear Gz
  refine (let Gz : Prop := _; (?_ : Gz))
  (refine ex1 (bind_ok h) fun mk hAz354 => ?_; refine and2 (hAz354) fun hmk h => ?_; clear hAz354)
  k_unfold; clear Gz
  refine (let Gz : Prop := _; (?_ : Gz))
  (refine ex1 (bind_ok h) fun _ hAz355 => ?_; refine and2 (hAz355) fun hck h => ?_; clear hAz355)
  k_unfold; clear Gz
  cases h
  have := offs_few (by (k_extra "m_om")) hgs
  refine ⟨kindB_ok _ _ _, ?_, fun r hr => ?_⟩
  · show (gs.map _).length ≤ 16000
    rw [List.length_map]; (k_extra "m_om")
  · refine (let Gz : Prop := _; (?_ : Gz))
    (refine ex1 (List.mem_map.mp hr) fun q hAz356 => ?_; refine and2 (hAz356) fun _ hEz356_2 => ?_; clear hAz356; subst hEz356_2)
    k_unfold; clear Gz
    show 1 ≤ 16000
    decide
theorem scr_kq {p : List Int × ScrV} (ht : TagOk p.1) (h : ∀ q ∈ p.2.2, TagOk q.1) (n : Nat) : kqdOk (n + 5) (scrD p) = true := by
  unfold scrD kqdOk
  simp only [List.all_cons, List.all_nil, Bool.and_true]
  rw [show kqdOk (n + 4) (.str (tagStr p.1)) = true from by unfold kqdOk; exact tag_strOk ht, show kqdOk (n + 4) (defD p.2.1) = true from by
    cases p.2.1 with
    | none => rfl
    | some x => exact lang_kq x (n + 2)]
  rw [Bool.true_and, Bool.true_and]
  unfold kqdOk
  rw [List.all_map, List.all_eq_true]
  intro q hq
  show kqdOk (n + 3) (pairD q) = true
  unfold pairD kqdOk
  simp only [List.all_cons, List.all_nil, Bool.and_true]
  rw [show kqdOk (n + 2) (.str (tagStr q.1)) = true from by unfold kqdOk; exact tag_strOk (h q hq), lang_kq]; rfl
theorem feat_kq {p : List Int × List Int} (ht : TagOk p.1) (n : Nat) : kqdOk (n + 2) (featD p) = true := by
  unfold featD kqdOk
  simp only [List.all_cons, List.all_nil, Bool.and_true]
  rw [show kqdOk (n + 1) (.str (tagStr p.1)) = true from by unfold kqdOk; exact tag_strOk ht, ints_kq]; rfl
theorem look_kq {p : LookV} (ht : PyData.strOk p.1 = true) (n : Nat) : kqdOk (n + 4) (lookD p) = true := by
  unfold lookD kqdOk
  simp only [List.all_cons, List.all_nil, Bool.and_true]
  rw [show kqdOk (n + 3) (.str p.1) = true from by unfold kqdOk; exact ht, show kqdOk (n + 3) (.tuple (p.2.2.2.map langD)) = true from by
    unfold kqdOk
    rw [List.all_map, List.all_eq_true]
    intro q _
    exact lang_kq q n]
  rfl
theorem lay_ok (hD : KBw.bInts b = D) (hsz : D.length ≤ 301) {x : LayV} (h : rdLay b D = .ok x) : LayOk x ∧ kqdOk 9 (layD x) = true := by
  unfold rdLay at h
  refine (let Gz : Prop := _; (?_ : Gz))
  (refine ex1 (bind_ok h) fun v hAz357 => ?_; refine and2 (hAz357) fun hv h => ?_; clear hAz357)
  k_unfold; clear Gz
  refine (let Gz : Prop := _; (?_ : Gz))
  (refine ex1 (bind_ok h) fun _ hAz358 => ?_; refine and2 (hAz358) fun hve h => ?_; clear hAz358)
  k_unfold; clear Gz
  refine (let Gz : Prop := _; (?_ : Gz))
  (refine ex1 (bind_ok h) fun t hAz359 => ?_; refine and2 (hAz359) fun ht h => ?_; clear hAz359)
  k_unfold; clear Gz
  refine (let Gz : Prop := _; (?_ : Gz))
  (refine ex1 (bind_ok h) fun ss hAz360 => ?_; refine and2 (hAz360) fun hs h => ?_; clear hAz360)
  k_unfold; clear Gz
  refine (let Gz : Prop := _; (?_ : Gz))
  (refine ex1 (bind_ok h) fun fs hAz361 => ?_; refine and2 (hAz361) fun hf h => ?_; clear hAz361)
  k_unfold; clear Gz
  refine (let Gz : Prop := _; (?_ : Gz))
  (refine ex1 (bind_ok h) fun ls hAz362 => ?_; refine and2 (hAz362) fun hl h => ?_; clear hAz362)
  k_unfold; clear Gz
  cases h
  have et : t = (u16At D 4, u16At D 6, u16At D 8) := by
    unfold rdThree at ht
    split at ht <;> cases ht
    rfl
  subst et
  have b4 := u16At_bd hD 4
  have b6 := u16At_bd hD 6
  have b8 := u16At_bd hD 8
  dsimp only at hs hf hl
  have S : ss.length < 64 ∧ Asc ss ∧ ∀ q ∈ ss, TagOk q.1 ∧ ScrOk q.2 ∧ ∀ r ∈ q.2.2, TagOk r.1 := by
    unfold rdIf at hs
    split at hs
    · cases hs
      exact ⟨by decide, List.Pairwise.nil, fun _ h => nomatch h⟩
    · unfold rdScripts at hs
      refine (let Gz : Prop := _; (?_ : Gz))
      (refine ex1 (bind_ok hs) fun rs hAz363 => ?_; refine and2 (hAz363) fun hr hs => ?_; clear hAz363)
      k_unfold; clear Gz
      have hb := recs_bd hD hr
      have hfw := recs_few hD (by (k_extra "m_om")) hr
      refine ⟨by rw [mapE_len hs]; (k_extra "m_om"), asc_keyed (recs_asc hr) hs, fun q hq => ?_⟩
      refine (let Gz : Prop := _; (?_ : Gz))
      (refine ex1 (keyed_all hs q hq) fun p hAz364 => ?_; refine and3 (hAz364) fun hp e1 e2 => ?_; clear hAz364)
      k_unfold; clear Gz
      have h3 := hb p hp
      have h4 := script_ok hD hsz (by (k_extra "m_om")) e2
      exact ⟨e1 ▸ h3.1, h4.1, h4.2⟩
  have FT : fs.length ≤ 16000 ∧ ∀ q ∈ fs, TagOk q.1 ∧ q.2.length ≤ 16000 := by
    unfold rdIf at hf
    split at hf
    · cases hf
      exact ⟨by decide, fun _ h => nomatch h⟩
    · unfold rdFeats at hf
      refine (let Gz : Prop := _; (?_ : Gz))
      (refine ex1 (bind_ok hf) fun rs hAz365 => ?_; refine and2 (hAz365) fun hr hf => ?_; clear hAz365)
      k_unfold; clear Gz
      have hb := recs_bd hD hr
      have hfw := recs_few hD (by (k_extra "m_om")) hr
      refine ⟨by rw [mapE_len hf]; (k_extra "m_om"), fun q hq => ?_⟩
      refine (let Gz : Prop := _; (?_ : Gz))
      (refine ex1 (keyed_all hf q hq) fun p hAz366 => ?_; refine and3 (hAz366) fun hp e1 e2 => ?_; clear hAz366)
      k_unfold; clear Gz
      have h3 := hb p hp
      refine ⟨e1 ▸ h3.1, ?_⟩
      unfold rdFeat at e2
      refine (let Gz : Prop := _; (?_ : Gz))
      (refine ex1 (bind_ok e2) fun _ hAz367 => ?_; refine and2 (hAz367) fun _ e2 => ?_; clear hAz367)
      k_unfold; clear Gz
      refine (let Gz : Prop := _; (?_ : Gz))
      (refine ex1 (bind_ok e2) fun _ hAz368 => ?_; refine and2 (hAz368) fun _ e2 => ?_; clear hAz368)
      k_unfold; clear Gz
      exact Nat.le_trans (rows_le (by (k_extra "m_om")) e2) (by (k_extra "m_om"))
  have LT : ls.length ≤ 16000 ∧ ∀ q ∈ ls, PyData.strOk q.1 = true ∧ q.2.2.2.length ≤ 16000 ∧ ∀ r ∈ q.2.2.2, r.2.length ≤ 16000 := by
    have hfw := few_look b8.1 hl
    unfold rdIf at hl
    split at hl
    · cases hl
      exact ⟨by decide, fun _ h => nomatch h⟩
    · unfold rdLooks at hl
      refine (let Gz : Prop := _; (?_ : Gz))
      (refine ex1 (bind_ok hl) fun c hAz369 => ?_; refine and2 (hAz369) fun hc hl => ?_; clear hAz369)
      k_unfold; clear Gz
      refine (let Gz : Prop := _; (?_ : Gz))
      (refine ex1 (bind_ok hl) fun gs hAz370 => ?_; refine and2 (hAz370) fun hg hl => ?_; clear hAz370)
      k_unfold; clear Gz
      refine ⟨by (k_extra "m_om"), fun q hq => ?_⟩
      refine (let Gz : Prop := _; (?_ : Gz))
      (refine ex1 (mapE_all hl q hq) fun p hAz371 => ?_; refine and2 (hAz371) fun hp e => ?_; clear hAz371)
      k_unfold; clear Gz
      refine (let Gz : Prop := _; (?_ : Gz))
      (refine ex1 (mapE_all hg p hp) fun j hAz372 => ?_; refine and2 (hAz372) fun _ e3 => ?_; clear hAz372)
      k_unfold; clear Gz
      have := rdOff_bd hD e3
      exact look_ok hsz (by (k_extra "m_om")) e
  refine ⟨⟨S.1, S.2.1, fun q hq => (S.2.2 q hq).2.1, FT.1, fun q hq => (FT.2 q hq).2, LT.1, fun q hq => (LT.2 q hq).2.1, fun q hq => (LT.2 q hq).2.2⟩, ?_⟩
  have k1 : kqdOk 8 (.tuple (ss.map scrD)) = true := by
    unfold kqdOk
    rw [List.all_map, List.all_eq_true]
    exact fun q hq => scr_kq (S.2.2 q hq).1 (S.2.2 q hq).2.2 2
  have k2 : kqdOk 8 (.tuple (fs.map featD)) = true := by
    unfold kqdOk
    rw [List.all_map, List.all_eq_true]
    exact fun q hq => feat_kq (FT.2 q hq).1 5
  have k3 : kqdOk 8 (.tuple (ls.map lookD)) = true := by
    unfold kqdOk
    rw [List.all_map, List.all_eq_true]
    exact fun q hq => look_kq (LT.2 q hq).1 3
  unfold layD kqdOk
  simp only [List.all_cons, List.all_nil, Bool.and_true]
  rw [k1, k2, k3]; rfl
end
theorem ne_same {w : World} {A : Around} {E : Value → Shared → Prop} {s : Shared} {h₀ : Heap} {L : Addr} {news n₁ n₂ : List (Addr × Obj)} {x y : Value} {d : Dat} {n : Nat} {Q : Value → Shared → Prop} (N : News h₀ L s.heap news) (h1 : DatIn n₁ x d) (s1 : ∀ p ∈ n₁, p ∈ news) (h2 : DatIn n₂ y d) (s2 : ∀ p ∈ n₂, p ∈ news)
    (hk : kqdOk n d = true) (hn : n ≤ 64) (hu : A.units + 64 < cLine) (h : Q (.bool false) s) : wpAny (model PySem.Challenge.rw_nu0165_01.row.prog w) A (compareOp .NotEq x y) Q E s := by
  refine (let Gz : Prop := _; (?_ : Gz))
  obtain ⟨as, ra⟩ := kqd_in N n (h1.mono s1) hk
  k_unfold; clear Gz
  refine (let Gz : Prop := _; (?_ : Gz))
  obtain ⟨bs, rb⟩ := kqd_in N n (h2.mono s2) hk
  k_unfold; clear Gz
  have la := kqd_lay n d hk
  have sh : PySem.SeqAt.shaped (kqdP d) = true := by
    unfold PySem.SeqAt.shaped
    rw [la.1, Bool.true_and]; exact decide_eq_true (Nat.le_trans la.2 hn)
  refine ne_dataH ra rb sh sh hu ?_
  rw [show PyData.eqv (kqdP d) (kqdP d) = true from (kqd_eqv n d d n hk hk).mpr rfl]
  exact h
theorem off_Q3 : True := by
  k_with "off Q3" => (skip)
  exact trivial
end
section
theorem reset_Q4 : True := by
  w_top off
  exact trivial
noncomputable def resD (b : Array UInt8) (D : List Int) : Dat := match rdLay b D with
  | .ok x => .tuple [.str (Str.ofString "ok"), layD x]
  | .error z => .tuple [.str (Str.ofString "fault"), .int z]
theorem res_ok {b : Array UInt8} {D : List Int} (hD : KBw.bInts b = D) (hsz : D.length ≤ 301) : kqdOk 10 (resD b D) = true := by
  unfold resD
  cases h : rdLay b D with
  | ok x =>
    unfold kqdOk
    simp only [List.all_cons, List.all_nil, Bool.and_true]
    rw [(lay_ok hD hsz h).2, Bool.and_true]
    unfold kqdOk
    exact strOk_of _
  | error z =>
    unfold kqdOk
    simp only [List.all_cons, List.all_nil, Bool.and_true]
    rw [show kqdOk 9 (.int z) = true from rfl, Bool.and_true]
    unfold kqdOk
    exact strOk_of _
section
variable {w : World} {dp un : Nat} {gd : Option (List Code)} {cn : Str} {cs : Scope} {a : Addr} {ccd : Value} {cl : List (Str × Addr)} {A₀ : Around} {base h₀ : Heap} {L : Addr} {m : Str → Option Value} {s : Shared} {Q E : Value → Shared → Prop} {p : Program} {loose : List Str} {mean : ExcName → Option Value} {mg mb : Str → Option Value} {news : List (Addr × Obj)} {tb : Tok} {b : Array UInt8}
variable (B : Below A₀ base [] h₀) (F : Fr h₀ L s.heap m) (X : (hd.heap_39 w.params).In h₀) (N : News h₀ L s.heap news) (T : Top p loose mean mg mb h₀) (hk : cs.kind = .function)
include B F X N T hk
theorem heard1 (hd : dp + 80 < recursionLimit) (hu : un + 450 < cLine) (D : List Int) (f : Addr) (hfn : FnAt f s.heap) (hask : Asks w gd [envX cn cs L a ccd cl] s.heap p loose mean mg mb f b D)
    (hret : ∀ h' tk' t nw, Fr h₀ L h' m → News h₀ L h' (nw ++ news) → DatIn nw (.ref t) (resD b D) → Apart nw news → Q (.ref t) { s with heap := h', toks := tk' }) :
    Cl w dp un gd cn cs L a ccd cl [] 483 [.ref f] Q E s := by
  refine heard_spec B F X N T hk hd hu D f hfn hask ?_ ?_
  · intro x hx h' tk' t t2 k nw F' N' hd' ha
    refine hret h' tk' t _ F' N' ?_ ha
    unfold resD
    rw [hx]
    exact .tuple (.head _) (.cons (.str _ _) (.cons (hd'.mono fun p hp => .tail _ hp) .nil))
  · intro z hz h' tk' t k k2 F' N' ha
    refine hret h' tk' t [_] F' N' ?_ (Apart.cons ha Apart.nil)
    unfold resD
    rw [hz]
    exact .tuple (.head _) (.cons (.str _ _) (.cons (.int _ _) .nil))
end
theorem off_Q4 : True := by
  k_with "off Q4" => (skip)
  exact trivial
end
section
theorem reset_QL : True := by
  w_top off
  exact trivial
theorem lines_QL1 : True := by
  k_with "call ref" => (first | ((fail_if_success (k_extra "off QL")); (k_here; (with_reducible show wpAny _ _ (call (Value.ref 368) _) _ _ _); k_dflt (refine' pen_new ?k1 ?k2 ?k3 ?k4 ?k5 ?kK ?kd ?ku _ _ _ ?kl ?kI ?kz ?_; (case k1 => k_asm); (case k2 => k_asm); (case k3 => k_asm); (case k4 => k_extra "m_news"); (case k5 => k_asm); (case kK => first | exact rfl | assumption); (case kd => first | exact room_n (by with_reducible assumption) (by decide) | ktr_room); (case ku => first | exact room_n (by with_reducible assumption) (by decide) | ktr_units); (case kl => assumption); (case kI => assumption); (case kz => assumption); (intro h' tk' pn pl vs' xs' k' pt1 pt2 F' N' hi' hx' hz' hpn hr1' hr2'; (try k_sweep))))) | fail)
  k_with "call ref" => (first | ((fail_if_success (k_extra "off QL")); (k_here; (with_reducible show wpAny _ _ (call (Value.ref 416) _) _ _ _); k_dflt (refine' octets_b ?k1 ?k2 ?k3 ?k4 ?k5 ?kK ?kd ?ku ?kI ?kx ?kz ?kn ?kq ?kP ?kr1 ?kr2 ?_; (case k1 => k_asm); (case k2 => k_asm); (case k3 => k_asm); (case k4 => k_extra "m_pen"); (case k5 => k_asm); (case kK => first | exact rfl | assumption); (case kd => first | exact room_n (by with_reducible assumption) (by decide) | ktr_room); (case ku => first | exact room_n (by with_reducible assumption) (by decide) | ktr_units); (case kI => assumption); (case kx => assumption); (case kz => assumption); (case kn => (k_extra "m_om")); (case kq => assumption); (case kP => assumption); (case kr1 => k_extra "m_off"); (case kr2 => k_extra "m_off"); (intro ob ot h' tk' vs' xs' k' q' tn' tq' nn' hob hnn F' N' hi' hx' hz' hq'; (try k_sweep))))) | fail)
  k_with "call ref" => (first | ((fail_if_success (k_extra "off QL")); (k_here; (with_reducible show wpAny _ _ (call (Value.ref 423) _) _ _ _); k_dflt (refine' bent_b ?k1 ?k2 ?k3 ?k4 ?k5 ?kK ?kd ?ku ?kI ?kx ?kz ?kn ?kq ?kP ?kr1 ?kr2 _ _ ?kb ?_; (case k1 => k_asm); (case k2 => k_asm); (case k3 => k_asm); (case k4 => k_extra "m_pen"); (case k5 => k_asm); (case kK => first | exact rfl | assumption); (case kd => first | exact room_n (by with_reducible assumption) (by decide) | ktr_room); (case ku => first | exact room_n (by with_reducible assumption) (by decide) | ktr_units); (case kI => assumption); (case kx => assumption); (case kz => assumption); (case kn => (k_extra "m_om")); (case kq => assumption); (case kP => assumption); (case kr1 => k_extra "m_off"); (case kr2 => k_extra "m_off"); (case kb => assumption); (intro eb et h' tk' vs' xs' k' q' tn' tq' nn' heb hnn F' N' hi' hx' hz' hq'; (try k_sweep))))) | fail)
  k_with "call ref" => (first | ((fail_if_success (k_extra "off QL")); (k_here; (with_reducible show wpAny _ _ (call (Value.ref 476) _) _ _ _); k_dflt (refine' due_spec ?k1 ?k2 ?k3 ?k4 ?k5 ?kK ?kd ?ku ?kp _ ?kD ?kz ?_ ?_; (case k1 => k_asm); (case k2 => k_asm); (case k3 => k_asm); (case k4 => k_extra "m_news"); (case k5 => k_asm); (case kK => first | exact rfl | assumption); (case kd => first | exact room_n (by with_reducible assumption) (by decide) | ktr_room); (case ku => first | exact room_n (by with_reducible assumption) (by decide) | ktr_units); (case kp => k_extra "m_kept"); (case kD => first | assumption | exact rfl); (case kz => assumption); (intro dux hdux h' tk' dut dun F' N' hdud hdua; (try k_sweep))))) | fail)
  k_with "call ref" => (first | ((fail_if_success (k_extra "off QL")); (k_here; (with_reducible show wpAny _ _ (call (Value.ref 292) _) _ _ _); k_dflt (refine' lay_told ?k1 ?k2 ?k3 ?k4 ?k5 ?kK ?kd ?ku ?hx ?hs ?hz ?_; (case k1 => k_asm); (case k2 => k_asm); (case k3 => k_asm); (case k4 => k_extra "m_news"); (case k5 => k_asm); (case kK => first | exact rfl | assumption); (case kd => first | exact room_n (by with_reducible assumption) (by decide) | ktr_room); (case ku => first | exact room_n (by with_reducible assumption) (by decide) | ktr_units); (case hx => assumption); (case hs => k_extra "m_sub"); (case hz => assumption); (intro h' tk' tlt tln F' N' htld htla; (try k_sweep))))) | fail)
  k_with "call ref" => (first | ((fail_if_success (k_extra "off QL")); (k_here; (with_reducible show wpAny _ _ (call (Value.ref 363) _) _ _ _); refine of_stop ?_)) | fail)
  k_with "eval Name" => (first | ((fail_if_success (k_extra "off QL")); (k_here; k_dflt (refine' name_free ?zn1 ?zn2 ?zn3 ?zn4 ?_ ?zn5 ?zn6 ?zn7 ?zn8; (case zn6 => exact rfl); (case zn1 => k_asm); (case zn2 => exact rfl); (case zn3 => assumption); (case zn4 => assumption); (case zn5 => exact rfl); (case zn7 => decide); (case zn8 => decide)))) | fail)
  k_with "call ref" => (first | ((fail_if_success (k_extra "off QL")); (k_here; (with_reducible show wpAny _ _ (call (Value.ref 483) _) _ _ _); refine of_stop ?_)) | fail)
  exact trivial
noncomputable def LJ (pn pl L : Addr) (j : Nat) (nw : List (Addr × Obj)) : Prop :=
  ∃ vs xs k n q tn tq oc cV rest, nw = (pn, penO pl n tn q tq) :: (pl, lsO vs k) :: (L + 1, oc) :: rest ∧ oc.data = .cell cV ∧ IntsAre vs xs ∧ (∀ x ∈ xs, 0 ≤ x) ∧ vs.length ≤ 63 ∧ 0 ≤ q ∧ (0 ≤ n ∧ n ≤ 210 * (j : Int)) ∧ (∀ p ∈ rest, p.1 ≠ L + 1) ∧ (∀ p ∈ (L + 1, oc) :: rest, p.1 ≠ pn) ∧ (∀ p ∈ (L + 1, oc) :: rest, p.1 ≠ pl) ∧
    (match j with
      | 0 => rest = [(485, tabObj #[])]
      | _ + 1 => ∃ c1 oc1 c2 oc2 v1 v2 t1 t2, rest = [(485, tabObj #[rawInt 309, rawInt 0, .ref c1, rawInt 310, rawInt 0, .ref c2]), (c1, oc1), (c2, oc2)] ∧ oc1.data = .fields v1 ∧ oc2.data = .fields v2 ∧ v1[1]? = some (.str (Str.ofString "law" ++ Str.ofString ".<locals>." ++ Str.ofString "<lambda>") t1) ∧ v2[1]? = some (.str (Str.ofString "law" ++ Str.ofString ".<locals>." ++ Str.ofString "<lambda>") t2) ∧ @Ne Nat c1 485 ∧ @Ne Nat c2 485)
noncomputable def LawPost (G : Heap) (L : Addr) (s : Shared) (Q : Flow → Shared → Prop) : Prop := ∀ h' tk' m' nw ps, Fr G L h' m' → News G L h' nw → (485, tabObj ps) ∈ nw → Q (.ret (.bool true)) { s with heap := h', toks := tk' }
theorem law_abs {prog : Program} {w : World} {a : Addr} {cn : Str} {cs : Scope} {ccd : Value} {G : Heap} {L : Addr} {s : Shared} {m : Str → Option Value} {body : List Stmt} {Q₀ : Flow → Shared → Prop} {E₀ : Value → Shared → Prop} {loose : List Str} {mean : ExcName → Option Value} {mg mb : Str → Option Value} {p : Program} {oc : Obj} {sl : Addr} {us : List Value} {zs : List Int} {cV : Option Value}
    (B : Below callerA G [] G) (F : Fr G L s.heap m) (X : (Mine.hd.heap_39 w.params).In G) (T : Top p loose mean mg mb G) (N : News G L s.heap [(L + 1, oc), (485, tabObj #[])]) (hcd : CodeHd G 489 485) (hm : m (Str.ofString "script") = some (.ref sl)) (hl : G.IsList sl us.toArray) (hi : IntsAre us zs) (hz : us.length ≤ 63) (hoc : oc.data = .cell cV) (h485 : 485 < L)
    (hP : LawPost G L s Q₀) (hE : PassesOwn (model prog w) (ktrTop (callerA.depth + 1) (callerA.units + 3) (some []) cn cs L a ccd (cellsFrom (L + 1) cs.names []) []) (envX cn cs L a ccd (cellsFrom (L + 1) cs.names [])) E₀) (hcl : ∀ L, cellsFrom (L + 1) cs.names [] = [(Str.ofString "data", L + 1)])
    (h : ∀ {dp un : Nat} {A₀ : Around} {gd : Option (List Code)} {G : Heap} {L : Addr} {s : Shared} {Q : Flow → Shared → Prop} {E : Value → Shared → Prop} {oc : Obj} {m : Str → Option Value} {cV : Option Value} {loose : List Str} {mean : ExcName → Option Value} {mg mb : Str → Option Value} {p : Program} {us : List Value} {zs : List Int}, dp + 100 < recursionLimit → un + 500 < cLine → Below A₀ G [] G → Fr G L s.heap (fun y => if y = Str.ofString "script" then some (.ref sl) else m y) → (Mine.hd.heap_39 w.params).In G → Top p loose mean mg mb G → News G L s.heap [(L + 1, oc), (485, tabObj #[])] → CodeHd G 489 485 → G.IsList sl us.toArray → IntsAre us zs → us.length ≤ 63 → oc.data = .cell cV → 485 < L → LawPost G L s Q → PassesOwn (model prog w) (ktrTop dp un gd cn cs L a ccd [(Str.ofString "data", L + 1)] []) (envX cn cs L a ccd [(Str.ofString "data", L + 1)]) E →
      wpAny (model prog w) (ktrTop dp un gd cn cs L a ccd [(Str.ofString "data", L + 1)] []) (execs body (envX cn cs L a ccd [(Str.ofString "data", L + 1)])) Q E s) :
    wpAny (model prog w) (ktrTop (callerA.depth + 1) (callerA.units + 3) (some []) cn cs L a ccd (cellsFrom (L + 1) cs.names []) []) (execs body (envX cn cs L a ccd (cellsFrom (L + 1) cs.names []))) Q₀ E₀ s := by
  rw [hcl] at hE ⊢
  exact h (by decide +kernel) (by decide +kernel) B (Fr.top2 F hm) X T N hcd hl hi hz hoc h485 hP hE
theorem deeper_top (name : Str) (scope : Scope) (L a : Addr) (cd : Value) : callerA.deeper (envOfC name scope L a cd) = ktrTop (callerA.depth + 1) (callerA.units + 3) (some []) name scope L a cd (cellsFrom (L + 1) scope.names []) [] := rfl
theorem lines_QL2 : True := by
  k_with "compareOp NotEq ref ref" => (first | ((fail_if_success (k_extra "off QL")); (k_here; refine of_stop ?_)) | fail)
  exact trivial
set_option maxHeartbeats 8000000 in
theorem law_holds : PySem.Challenge.rw_nu0165_01.Holds := Mine.hd (by
  k_go0
  all_goals try k_fold
  rename Below _ _ _ _ => B0
  rename Fr _ _ _ _ => F0
  rename News _ _ _ _ => N0
  rename IntsAre _ _ => hI0
  rename ¬ (63 : Int) < _ => hlen
  have hz63 := hI0.length
  have hz := Nat.le_trans (Nat.le_of_eq hz63) (show _ ≤ 63 by (k_extra "m_om"))
  rw [deeper_top]
  try dsimp only
  rename CodeHd _ _ _ => hc0
  rename Heap.IsList (ghostOf _ _) _ _ => hl0
  rename 485 < _ => h485
  rename Obj.data _ = Data.cell _ => hoc
  refine law_abs B0 F0 (by assumption) (by assumption) N0 hc0 (by rfl) hl0 hI0 hz hoc h485 ?_ PassesOwn.leaving (fun _ => rfl) ?_
  · intro h' tk' m' nw ps F N hm
    refine ⟨?_, GrownAt.of N hm, trivial⟩
    try dsimp only
    k_end
    wrow_close
  clear hoc h485 hl0 hc0 N0 F0 B0 hlen hz63 hz hI0
  rename_i w1 s0 s1 mg1 mb1 G1 Y1 fa o1 pm1 doc1 ho1 hg1 X1 V1 T1 B1 TE1 TW1 hcd1 z6 hs1 hlay hL1 hr1 hl2 z5 z4 sl1 z2 z1 hL2 ra1 w1x r01 hr2 hcond hD1 h1 tk1 wo X0a X1a T1a
  clear T1a X1a X0a wo tk1 h1 hD1 hcond hr2 r01 w1x ra1 hL2 z1 z2 z4 z5 hl2 hr1 hL1 hlay hs1 z6 hcd1 hT9 TW1 TE1 B1 T1 V1 X1 hT8 hg1 ho1 doc1 pm1 o1 Y1 G1 mb1 mg1 s1 s0
  intro dp un A₀ gd G L s Q E oc m cV loose mean mg mb p us zs hd hu B0 F0 X0 T0 N0 hc0 hl0 hI0 hz hoc h485 hpost hpo
  k_extra "m_steps"
  rename Fr G L _ _ => F5
  rename News G L _ _ => N5
  rename IsRange _ _ _ _ _ _ _ _ => hR
  have hoff : ∀ p ∈ [((485 : Addr), tabObj #[])], p.1 ≠ L + 1 := fun p hp => by
    rw [List.mem_singleton.mp hp]; exact Nat.ne_of_lt (Nat.lt_succ_of_lt h485)
  refine for1_range (n := 2) [Str.ofString "spot"] (fun j _ nw => LJ pn pl L j nw) rfl F5 N5 hR rfl rfl (xi10 _ _ _ _ _ _ _ oc cV _ ⟨rfl, hoc, hi', hx', hz', by decide, by decide, hoff, hr1', hr2', rfl⟩) ?_ ?_
  · intro j tj m₁ nw h tk I it hj hJz1
    refine (let Gz : Prop := _; (?_ : Gz))
    (refine ex9 (hJz1) fun vs xs k n q tn tq oc cV hAz373 => ?_; clear hJz1; ((refine ex1 (hAz373) fun rest hAz374 => ?_; clear hAz373; refine and11 (hAz374) fun hEz374_1 hoc hi hx hz hq hn hrL hr1 hr2 hmatch => ?_; clear hAz374; subst hEz374_1)))
    k_unfold; clear Gz
    intro hS F1 N1 hI
    have hnb : 0 ≤ n ∧ n < 60000 := by (k_extra "m_om")
    rcases j with _ | j
    · subst hmatch
      replace N1 := News.sub (news' := [(pn, penO pl n tn q tq), (pl, lsO vs k), (I, it), (L + 1, oc), (485, tabObj #[])]) N1 (by k_extra "m_sub")
      have e1 : @Ne Nat pn I := hI _ (.head _)
      have e2 : @Ne Nat pl I := hI _ (.tail _ (.head _))
      have e3 : @Ne Nat (L + 1) I := hI _ (.tail _ (.tail _ (.head _)))
      have e4 : @Ne Nat 485 I := hI _ (.tail _ (.tail _ (.tail _ (.head _))))
      have e5 : @Ne Nat (L + 1) pn := hr1 _ (.head _)
      have e6 : @Ne Nat 485 pn := hr1 _ (.tail _ (.head _))
      have e7 : @Ne Nat (L + 1) pl := hr2 _ (.head _)
      have e8 : @Ne Nat 485 pl := hr2 _ (.tail _ (.head _))
      have e9 : @Ne Nat 485 (L + 1) := hrL _ (.head _)
      have e3' := Ne.symm e3
      have e5' := Ne.symm e5
      have e7' := Ne.symm e7
      have e9' := Ne.symm e9
      have e4' := Ne.symm e4
      have e6' := Ne.symm e6
      have e8' := Ne.symm e8
      clear hI hr1 hr2 hrL hr1' hr2'
      k_extra "m_steps"
      rename_i ha o1 Fa Na hdat f1 c1 oc1 v1 t1 ct1 hb tkb Fb N7 d11 d12 l11 l12
      have lc : @Ne Nat c1 485 := Nat.ne_of_gt l11.2.2.2.2
      have hsz : (KBw.bInts eb).length ≤ 301 := by rw [show (KBw.bInts eb).length = eb.size from by simp [KBw.bInts]]; exact heb
      have hsz4 : (KBw.bInts eb).length ≤ 4000 := Nat.le_trans hsz (by decide)
      refine heard1 (b := eb) B0 (by assumption) X0 N7 T0 rfl (by (k_extra "m_om")) (by (k_extra "m_om")) (KBw.bInts eb) _ (FnAt.of N7 (.head _)) (asks_of (N7 _ (.head _)).1 (codeRec_news N7 (.tail _ (.head _)) (by assumption) (by assumption)) rfl rfl rfl rfl (by decide) ?_) ?_
      · intro dp un outer' L₂ A₂ base₂ g₂ m₂ s₂ Q₂ E₂ hd₂ hu₂ B₂ hst₂ F₂ N₂ X₂ T₂ hok₂ herr₂
        have hc2 := hst₂ _ _ (N7 (L + 1, _) (by k_extra "m_in")).1
        clear hpost hpo B0 T0 X0 hl0
        have hkp2 : KeptIn ([] : List (Addr × Obj)) [] := ⟨fun _ h => h, fun _ h => nomatch h⟩
        k_extra "m_steps"
        refine layout_spec B₂ (by assumption) X₂ (by assumption) T₂ rfl (by (k_extra "m_om")) (by (k_extra "m_om")) hkp2 _ rfl hsz4 ?_ ?_
        · intro x hx h' tk' r nw F' N' hla haa
          have hlok := (lay_ok rfl hsz hx).1
          have hla0 := hla
          refine (let Gz : Prop := _; (?_ : Gz))
          (refine ex9 (hla) fun lx ldx ld lo lkvs lfl lfvs lll llvs hAz376 => ?_; clear hla; ((refine ex6 (hAz376) fun c1 c2 c3 k1 k2 k3 hAz377 => ?_; clear hAz376; refine and5 (hAz377) fun hEz377_6 lm1 lm2 lm3 _ => ?_; clear hAz377; subst hEz377_6)))
          k_unfold; clear Gz
          replace N' := News.sub (news' := (lx, instO 295 ldx) :: (ldx, dictOf [⟨c1, .str (Str.ofString "scripts") k1, .ref ld⟩, ⟨c2, .str (Str.ofString "features") k2, .ref lfl⟩, ⟨c3, .str (Str.ofString "lookups") k3, .ref lll⟩] 3) :: nw) N'
            ((fmc (List.mem_append_left _ lm1) ((fmc (List.mem_append_left _ lm2) (fun p hp => List.mem_append_left _ hp)))))
          k_extra "m_steps"
          rename News g₂ L₂ _ _ => NZ
          exact hok₂ x hx _ _ _ tln (by assumption) (News.sub NZ fun p hp => List.mem_append_left _ hp) htld
        · exact herr₂
      · intro h' tk' t nw F' N' hdt hap
        have hA : ∀ p ∈ nw, p.1 ≠ 485 := fun p hp => Ne.symm (hap p hp (485, _) (by k_extra "m_in"))
        have hA1 : ∀ p ∈ nw, p.1 ≠ L + 1 := fun p hp => Ne.symm (hap p hp (L + 1, _) (by k_extra "m_in"))
        replace N' := News.sub (news' := (c1, oc1) :: (pn, penO pl nn' tn' q' tq') :: (pl, lsO vs' k') :: (I, it) :: (L + 1, o1) :: (485, tabObj #[rawInt 309, rawInt 0, .ref c1]) :: nw) N' (by k_extra "m_sub")
        clear hap F1 N1 Fa Na N7 Fb
        k_extra "m_steps"
        rename_i f2 c2 oc2 v2 t2 ct2 h2 tk2 F2 N8 d21 d22 l21 l22
        have lc2 : @Ne Nat c2 485 := Nat.ne_of_gt l21.2.2.2.2.2.1
        refine heard1 (b := eb) B0 (by assumption) X0 N8 T0 rfl (by (k_extra "m_om")) (by (k_extra "m_om")) (KBw.bInts eb) _ (FnAt.of N8 (.head _)) (asks_of (N8 _ (.head _)).1 (codeRec_news N8 (.tail _ (.head _)) d21 d22) rfl rfl rfl rfl (by decide) ?_) ?_
        · intro dp un outer' L₂ A₂ base₂ g₂ m₂ s₂ Q₂ E₂ hd₂ hu₂ B₂ hst₂ F₂ N₂ X₂ T₂ hok₂ herr₂
          have hc2 := hst₂ _ _ (N8 (L + 1, _) (by k_extra "m_in")).1
          clear hpost hpo B0 T0 X0 hl0
          have hkp2 : KeptIn ([] : List (Addr × Obj)) [] := ⟨fun _ h => h, fun _ h => nomatch h⟩
          k_extra "m_steps"
          · rename News g₂ L₂ _ _ => NZ
            exact hok₂ dux hdux _ _ _ dun (by assumption) (News.sub NZ fun p hp => List.mem_append_left _ hp) hdud
          · exact herr₂ _ (by assumption)
        · intro h3 tk3 t3 nw3 F3 N3 hdt3 hap3
          k_extra "m_steps"
          refine ne_same N3 hdt (by k_extra "m_sub") hdt3 (by k_extra "m_sub") (res_ok rfl hsz) (by decide) (by show un + 64 < cLine; (k_extra "m_om")) ?_
          k_extra "m_steps"
          refine TurnPost.intro (by assumption) (by assumption) [(pn, penO pl nn' tn' q' tq'), (pl, lsO vs' k'), (L + 1, o1), (485, tabObj #[rawInt 309, rawInt 0, .ref c1, rawInt 310, rawInt 0, .ref c2]), (c1, oc1), (c2, oc2)] (by k_extra "m_sub") ?_ (by k_extra "m_same")
            (xi10 vs' xs' k' nn' q' tn' tq' o1 _ _ ⟨rfl, hdat, hi', hx', hz', hq', by (k_extra "m_om"), ?_, ?_, ?_, c1, oc1, c2, oc2, v1, v2, t1, t2, rfl, d11, d21, d12, d22, lc, lc2⟩)
          · exact (fmc (e1) ((fmc (e2) ((fmc (e3) ((fmc (e4) ((fmc (Nat.ne_of_gt l11.2.2.1) ((fmc (Nat.ne_of_gt l21.2.2.2.1) (List.forall_mem_nil _))))))))))))
          · exact (fmc (e9) ((fmc (Nat.ne_of_gt l11.2.2.2.1) ((fmc (Nat.ne_of_gt l21.2.2.2.2.1) (List.forall_mem_nil _))))))
          · exact (fmc (e5) ((fmc (e6) ((fmc (Nat.ne_of_gt l11.1) ((fmc (Nat.ne_of_gt l21.2.1) (List.forall_mem_nil _))))))))
          · exact (fmc (e7) ((fmc (e8) ((fmc (Nat.ne_of_gt l11.2.1) ((fmc (Nat.ne_of_gt l21.2.2.1) (List.forall_mem_nil _))))))))
    · refine (let Gz : Prop := _; (?_ : Gz))
      (refine ex8 (hmatch) fun c1 oc1 c2 oc2 v1 v2 t1 t2 hAz378 => ?_; clear hmatch; refine and7 (hAz378) fun hEz378_8 d11 d21 d12 d22 lc lc2 => ?_; clear hAz378; subst hEz378_8)
      k_unfold; clear Gz
      replace N1 := News.sub (news' := [(pn, penO pl n tn q tq), (pl, lsO vs k), (I, it), (L + 1, oc), (485, tabObj #[rawInt 309, rawInt 0, .ref c1, rawInt 310, rawInt 0, .ref c2]), (c1, oc1), (c2, oc2)]) N1 (by k_extra "m_sub")
      have e1 : @Ne Nat pn I := hI _ (.head _)
      have e2 : @Ne Nat pl I := hI _ (.tail _ (.head _))
      have e3 : @Ne Nat (L + 1) I := hI _ (.tail _ (.tail _ (.head _)))
      have e4 : @Ne Nat 485 I := hI _ (.tail _ (.tail _ (.tail _ (.head _))))
      have e5 : @Ne Nat (L + 1) pn := hr1 _ (.head _)
      have e6 : @Ne Nat 485 pn := hr1 _ (.tail _ (.head _))
      have e7 : @Ne Nat (L + 1) pl := hr2 _ (.head _)
      have e8 : @Ne Nat 485 pl := hr2 _ (.tail _ (.head _))
      have e9 : @Ne Nat 485 (L + 1) := hrL _ (.head _)
      have ea : @Ne Nat c1 I := hI _ (.tail _ (.tail _ (.tail _ (.tail _ (.head _)))))
      have eb' : @Ne Nat c2 I := hI _ (.tail _ (.tail _ (.tail _ (.tail _ (.tail _ (.head _))))))
      have fa1 : @Ne Nat c1 pn := hr1 _ (.tail _ (.tail _ (.head _)))
      have fa2 : @Ne Nat c2 pn := hr1 _ (.tail _ (.tail _ (.tail _ (.head _))))
      have fb1 : @Ne Nat c1 pl := hr2 _ (.tail _ (.tail _ (.head _)))
      have fb2 : @Ne Nat c2 pl := hr2 _ (.tail _ (.tail _ (.tail _ (.head _))))
      have fc1 : @Ne Nat c1 (L + 1) := hrL _ (.tail _ (.head _))
      have fc2 : @Ne Nat c2 (L + 1) := hrL _ (.tail _ (.tail _ (.head _)))
      have fc1' := Ne.symm fc1
      have fc2' := Ne.symm fc2
      have ea' := Ne.symm ea
      have eb'' := Ne.symm eb'
      have fa1' := Ne.symm fa1
      have fa2' := Ne.symm fa2
      have fb1' := Ne.symm fb1
      have fb2' := Ne.symm fb2
      have e3' := Ne.symm e3
      have e5' := Ne.symm e5
      have e7' := Ne.symm e7
      have e9' := Ne.symm e9
      have e4' := Ne.symm e4
      have e6' := Ne.symm e6
      have e8' := Ne.symm e8
      clear hI hr1 hr2 hrL hr1' hr2'
      k_extra "m_steps"
      rename_i ha o1 Fa Na hdat f1 ct1 hb tkb Fb N7 l11
      have hsz : (KBw.bInts eb).length ≤ 301 := by rw [show (KBw.bInts eb).length = eb.size from by simp [KBw.bInts]]; exact heb
      have hsz4 : (KBw.bInts eb).length ≤ 4000 := Nat.le_trans hsz (by decide)
      refine heard1 (b := eb) B0 (by assumption) X0 N7 T0 rfl (by (k_extra "m_om")) (by (k_extra "m_om")) (KBw.bInts eb) _ (FnAt.of N7 (.head _)) (asks_of (N7 _ (.head _)).1 (codeRec_news N7 (show (c1, oc1) ∈ _ by k_extra "m_in") d11 d12) rfl rfl rfl rfl (by decide) ?_) ?_
      · intro dp un outer' L₂ A₂ base₂ g₂ m₂ s₂ Q₂ E₂ hd₂ hu₂ B₂ hst₂ F₂ N₂ X₂ T₂ hok₂ herr₂
        have hc2 := hst₂ _ _ (N7 (L + 1, _) (by k_extra "m_in")).1
        clear hpost hpo B0 T0 X0 hl0
        have hkp2 : KeptIn ([] : List (Addr × Obj)) [] := ⟨fun _ h => h, fun _ h => nomatch h⟩
        k_extra "m_steps"
        refine layout_spec B₂ (by assumption) X₂ (by assumption) T₂ rfl (by (k_extra "m_om")) (by (k_extra "m_om")) hkp2 _ rfl hsz4 ?_ ?_
        · intro x hx h' tk' r nw F' N' hla haa
          have hlok := (lay_ok rfl hsz hx).1
          have hla0 := hla
          refine (let Gz : Prop := _; (?_ : Gz))
          (refine ex9 (hla) fun lx ldx ld lo lkvs lfl lfvs lll llvs hAz380 => ?_; clear hla; ((refine ex6 (hAz380) fun c1 c2 c3 k1 k2 k3 hAz381 => ?_; clear hAz380; refine and5 (hAz381) fun hEz381_6 lm1 lm2 lm3 _ => ?_; clear hAz381; subst hEz381_6)))
          k_unfold; clear Gz
          replace N' := News.sub (news' := (lx, instO 295 ldx) :: (ldx, dictOf [⟨c1, .str (Str.ofString "scripts") k1, .ref ld⟩, ⟨c2, .str (Str.ofString "features") k2, .ref lfl⟩, ⟨c3, .str (Str.ofString "lookups") k3, .ref lll⟩] 3) :: nw) N'
            ((fmc (List.mem_append_left _ lm1) ((fmc (List.mem_append_left _ lm2) (fun p hp => List.mem_append_left _ hp)))))
          k_extra "m_steps"
          rename News g₂ L₂ _ _ => NZ
          exact hok₂ x hx _ _ _ tln (by assumption) (News.sub NZ fun p hp => List.mem_append_left _ hp) htld
        · exact herr₂
      · intro h' tk' t nw F' N' hdt hap
        have hA : ∀ p ∈ nw, p.1 ≠ 485 := fun p hp => Ne.symm (hap p hp (485, _) (by k_extra "m_in"))
        have hA1 : ∀ p ∈ nw, p.1 ≠ L + 1 := fun p hp => Ne.symm (hap p hp (L + 1, _) (by k_extra "m_in"))
        replace N' := News.sub (news' := (pn, penO pl nn' tn' q' tq') :: (pl, lsO vs' k') :: (I, it) :: (L + 1, o1) :: (485, tabObj #[rawInt 309, rawInt 0, .ref c1, rawInt 310, rawInt 0, .ref c2]) :: (c1, oc1) :: (c2, oc2) :: nw) N' (by k_extra "m_sub")
        clear hap F1 N1 Fa Na N7 Fb
        k_extra "m_steps"
        rename_i f2 ct2 h2 tk2 F2 N8 l21
        refine heard1 (b := eb) B0 (by assumption) X0 N8 T0 rfl (by (k_extra "m_om")) (by (k_extra "m_om")) (KBw.bInts eb) _ (FnAt.of N8 (.head _)) (asks_of (N8 _ (.head _)).1 (codeRec_news N8 (show (c2, oc2) ∈ _ by k_extra "m_in") d21 d22) rfl rfl rfl rfl (by decide) ?_) ?_
        · intro dp un outer' L₂ A₂ base₂ g₂ m₂ s₂ Q₂ E₂ hd₂ hu₂ B₂ hst₂ F₂ N₂ X₂ T₂ hok₂ herr₂
          have hc2 := hst₂ _ _ (N8 (L + 1, _) (by k_extra "m_in")).1
          clear hpost hpo B0 T0 X0 hl0
          have hkp2 : KeptIn ([] : List (Addr × Obj)) [] := ⟨fun _ h => h, fun _ h => nomatch h⟩
          k_extra "m_steps"
          · rename News g₂ L₂ _ _ => NZ
            exact hok₂ dux hdux _ _ _ dun (by assumption) (News.sub NZ fun p hp => List.mem_append_left _ hp) hdud
          · exact herr₂ _ (by assumption)
        · intro h3 tk3 t3 nw3 F3 N3 hdt3 hap3
          k_extra "m_steps"
          refine ne_same N3 hdt (by k_extra "m_sub") hdt3 (by k_extra "m_sub") (res_ok rfl hsz) (by decide) (by show un + 64 < cLine; (k_extra "m_om")) ?_
          k_extra "m_steps"
          refine TurnPost.intro (by assumption) (by assumption) [(pn, penO pl nn' tn' q' tq'), (pl, lsO vs' k'), (L + 1, o1), (485, tabObj #[rawInt 309, rawInt 0, .ref c1, rawInt 310, rawInt 0, .ref c2]), (c1, oc1), (c2, oc2)] (by k_extra "m_sub") ?_ (by k_extra "m_same")
            (xi10 vs' xs' k' nn' q' tn' tq' o1 _ _ ⟨rfl, hdat, hi', hx', hz', hq', by (k_extra "m_om"), ?_, ?_, ?_, c1, oc1, c2, oc2, v1, v2, t1, t2, rfl, d11, d21, d12, d22, lc, lc2⟩)
          · exact (fmc (e1) ((fmc (e2) ((fmc (e3) ((fmc (e4) ((fmc (ea) ((fmc (eb') (List.forall_mem_nil _))))))))))))
          · exact (fmc (e9) ((fmc (fc1) ((fmc (fc2) (List.forall_mem_nil _))))))
          · exact (fmc (e5) ((fmc (e6) ((fmc (fa1) ((fmc (fa2) (List.forall_mem_nil _))))))))
          · exact (fmc (e7) ((fmc (e8) ((fmc (fb1) ((fmc (fb2) (List.forall_mem_nil _))))))))
  · intro m' nw h tk hJz5
    refine (let Gz : Prop := _; (?_ : Gz))
    (refine ex9 (hJz5) fun vs xs k n q tn tq oc cV hAz382 => ?_; clear hJz5; (obtain ⟨rest, rfl, hoc, hi, hx, hz, hq, hn, hrL, hr1, hr2, c1, oc1, c2, oc2, v1, v2, t1, t2, rfl, _⟩ := hAz382))
    k_unfold; clear Gz
    intro hS F1 N1
    k_extra "m_steps"
    exact hpost h _ _ _ _ (by assumption) N1 (.tail _ (.tail _ (.tail _ (.head _)))))
theorem off_QL : True := by
  k_with "off QL" => (skip)
  exact trivial
end
end Mine
end
theorem PySem.Challenge.cw_nu0165_01_holds : PySem.Challenge.rw_nu0165_01.Holds := by
  exact Mine.law_holds
