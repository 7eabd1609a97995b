import Derived.Test.YthgloebmfcdhoaaGreatDoorMc
set_option linter.unusedVariables false
namespace Go.AM
noncomputable section
def g0 : Tm → AV := fun T => T.a0.a0
def g1 : Tm → AV := fun T => T.a0.a1
def g2 : Tm → AV := fun T => T.a0.a2
def g3 : Tm → AV := fun T => T.a0.a3
def g4 : Tm → AV := fun T => T.a0.a4
def g5 : Tm → AV := fun T => T.a0.a5
def g6 : Tm → AV := fun T => T.a0.a6
def g7 : Tm → AV := fun T => T.a0.a7
def g8 : Tm → AV := fun T => T.a0.a8
def g9 : Tm → AV := fun T => T.a0.a9
def g10 : Tm → AV := fun T => T.a0.a10
def g11 : Tm → AV := fun T => T.a0.a11
def g12 : Tm → AV := fun T => T.a0.a12
def g13 : Tm → AV := fun T => T.a0.a13
def g14 : Tm → AV := fun T => T.a0.a14
def g15 : Tm → AV := fun T => T.a0.a15
def g16 : Tm → AV := fun T => T.a1.a0
def g17 : Tm → AV := fun T => T.a1.a1
def g18 : Tm → AV := fun T => T.a1.a2
def g19 : Tm → AV := fun T => T.a1.a3
def g20 : Tm → AV := fun T => T.a1.a4
def g21 : Tm → AV := fun T => T.a1.a5
def g22 : Tm → AV := fun T => T.a1.a6
def g23 : Tm → AV := fun T => T.a1.a7
def g24 : Tm → AV := fun T => T.a1.a8
def g25 : Tm → AV := fun T => T.a1.a9
def g26 : Tm → AV := fun T => T.a1.a10
def g27 : Tm → AV := fun T => T.a1.a11
def g28 : Tm → AV := fun T => T.a1.a12
def g29 : Tm → AV := fun T => T.a1.a13
def g30 : Tm → AV := fun T => T.a1.a14
def g31 : Tm → AV := fun T => T.a1.a15
def g32 : Tm → AV := fun T => T.a2.a0
def g33 : Tm → AV := fun T => T.a2.a1
def g34 : Tm → AV := fun T => T.a2.a2
def g35 : Tm → AV := fun T => T.a2.a3
def g36 : Tm → AV := fun T => T.a2.a4
def g37 : Tm → AV := fun T => T.a2.a5
def g38 : Tm → AV := fun T => T.a2.a6
def g39 : Tm → AV := fun T => T.a2.a7
def g40 : Tm → AV := fun T => T.a2.a8
def g41 : Tm → AV := fun T => T.a2.a9
def g42 : Tm → AV := fun T => T.a2.a10
def g43 : Tm → AV := fun T => T.a2.a11
def g44 : Tm → AV := fun T => T.a2.a12
def g45 : Tm → AV := fun T => T.a2.a13
def g46 : Tm → AV := fun T => T.a2.a14
def g47 : Tm → AV := fun T => T.a2.a15
def g48 : Tm → AV := fun T => T.a3.a0
def g49 : Tm → AV := fun T => T.a3.a1
def g50 : Tm → AV := fun T => T.a3.a2
def g51 : Tm → AV := fun T => T.a3.a3
def g52 : Tm → AV := fun T => T.a3.a4
def g53 : Tm → AV := fun T => T.a3.a5
def g54 : Tm → AV := fun T => T.a3.a6
def g55 : Tm → AV := fun T => T.a3.a7
def g56 : Tm → AV := fun T => T.a3.a8
def g57 : Tm → AV := fun T => T.a3.a9
def g58 : Tm → AV := fun T => T.a3.a10
def g59 : Tm → AV := fun T => T.a3.a11
def g60 : Tm → AV := fun T => T.a3.a12
def g61 : Tm → AV := fun T => T.a3.a13
def g62 : Tm → AV := fun T => T.a3.a14
def g63 : Tm → AV := fun T => T.a3.a15
def g64 : Tm → AV := fun T => T.a4.a0
def g65 : Tm → AV := fun T => T.a4.a1
def g66 : Tm → AV := fun T => T.a4.a2
def g67 : Tm → AV := fun T => T.a4.a3
def g68 : Tm → AV := fun T => T.a4.a4
def g69 : Tm → AV := fun T => T.a4.a5
def g70 : Tm → AV := fun T => T.a4.a6
def g71 : Tm → AV := fun T => T.a4.a7
def g72 : Tm → AV := fun T => T.a4.a8
def g73 : Tm → AV := fun T => T.a4.a9
def g74 : Tm → AV := fun T => T.a4.a10
def g75 : Tm → AV := fun T => T.a4.a11
def g76 : Tm → AV := fun T => T.a4.a12
def g77 : Tm → AV := fun T => T.a4.a13
def g78 : Tm → AV := fun T => T.a4.a14
def g79 : Tm → AV := fun T => T.a4.a15
def g80 : Tm → AV := fun T => T.a5.a0
def g81 : Tm → AV := fun T => T.a5.a1
def g82 : Tm → AV := fun T => T.a5.a2
def g83 : Tm → AV := fun T => T.a5.a3
def g84 : Tm → AV := fun T => T.a5.a4
def g85 : Tm → AV := fun T => T.a5.a5
def g86 : Tm → AV := fun T => T.a5.a6
def g87 : Tm → AV := fun T => T.a5.a7
def g88 : Tm → AV := fun T => T.a5.a8
def g89 : Tm → AV := fun T => T.a5.a9
def g90 : Tm → AV := fun T => T.a5.a10
def g91 : Tm → AV := fun T => T.a5.a11
def g92 : Tm → AV := fun T => T.a5.a12
def g93 : Tm → AV := fun T => T.a5.a13
def g94 : Tm → AV := fun T => T.a5.a14
def g95 : Tm → AV := fun T => T.a5.a15
def g96 : Tm → AV := fun T => T.a6.a0
def g97 : Tm → AV := fun T => T.a6.a1
def g98 : Tm → AV := fun T => T.a6.a2
def g99 : Tm → AV := fun T => T.a6.a3
def g100 : Tm → AV := fun T => T.a6.a4
def g101 : Tm → AV := fun T => T.a6.a5
def g102 : Tm → AV := fun T => T.a6.a6
def g103 : Tm → AV := fun T => T.a6.a7
def g104 : Tm → AV := fun T => T.a6.a8
def g105 : Tm → AV := fun T => T.a6.a9
def g106 : Tm → AV := fun T => T.a6.a10
def g107 : Tm → AV := fun T => T.a6.a11
def g108 : Tm → AV := fun T => T.a6.a12
def g109 : Tm → AV := fun T => T.a6.a13
def g110 : Tm → AV := fun T => T.a6.a14
def g111 : Tm → AV := fun T => T.a6.a15
def g112 : Tm → AV := fun T => T.a7.a0
def g113 : Tm → AV := fun T => T.a7.a1
def g114 : Tm → AV := fun T => T.a7.a2
def g115 : Tm → AV := fun T => T.a7.a3
def g116 : Tm → AV := fun T => T.a7.a4
def g117 : Tm → AV := fun T => T.a7.a5
def g118 : Tm → AV := fun T => T.a7.a6
def g119 : Tm → AV := fun T => T.a7.a7
def g120 : Tm → AV := fun T => T.a7.a8
def g121 : Tm → AV := fun T => T.a7.a9
def g122 : Tm → AV := fun T => T.a7.a10
def g123 : Tm → AV := fun T => T.a7.a11
def g124 : Tm → AV := fun T => T.a7.a12
def g125 : Tm → AV := fun T => T.a7.a13
def g126 : Tm → AV := fun T => T.a7.a14
def g127 : Tm → AV := fun T => T.a7.a15
def g128 : Tm → AV := fun T => T.a8.a0
def g129 : Tm → AV := fun T => T.a8.a1
def g130 : Tm → AV := fun T => T.a8.a2
def g131 : Tm → AV := fun T => T.a8.a3
def g132 : Tm → AV := fun T => T.a8.a4
def g133 : Tm → AV := fun T => T.a8.a5
def g134 : Tm → AV := fun T => T.a8.a6
def g135 : Tm → AV := fun T => T.a8.a7
def g136 : Tm → AV := fun T => T.a8.a8
def g137 : Tm → AV := fun T => T.a8.a9
def g138 : Tm → AV := fun T => T.a8.a10
def g139 : Tm → AV := fun T => T.a8.a11
def g140 : Tm → AV := fun T => T.a8.a12
def g141 : Tm → AV := fun T => T.a8.a13
def g142 : Tm → AV := fun T => T.a8.a14
def g143 : Tm → AV := fun T => T.a8.a15
def g144 : Tm → AV := fun T => T.a9.a0
def g145 : Tm → AV := fun T => T.a9.a1
def g146 : Tm → AV := fun T => T.a9.a2
def g147 : Tm → AV := fun T => T.a9.a3
def g148 : Tm → AV := fun T => T.a9.a4
def g149 : Tm → AV := fun T => T.a9.a5
def g150 : Tm → AV := fun T => T.a9.a6
def g151 : Tm → AV := fun T => T.a9.a7
def g152 : Tm → AV := fun T => T.a9.a8
def g153 : Tm → AV := fun T => T.a9.a9
def g154 : Tm → AV := fun T => T.a9.a10
def g155 : Tm → AV := fun T => T.a9.a11
def g156 : Tm → AV := fun T => T.a9.a12
def g157 : Tm → AV := fun T => T.a9.a13
def g158 : Tm → AV := fun T => T.a9.a14
def g159 : Tm → AV := fun T => T.a9.a15
def g160 : Tm → AV := fun T => T.a10.a0
def g161 : Tm → AV := fun T => T.a10.a1
def g162 : Tm → AV := fun T => T.a10.a2
def g163 : Tm → AV := fun T => T.a10.a3
def g164 : Tm → AV := fun T => T.a10.a4
def g165 : Tm → AV := fun T => T.a10.a5
def g166 : Tm → AV := fun T => T.a10.a6
def g167 : Tm → AV := fun T => T.a10.a7
def g168 : Tm → AV := fun T => T.a10.a8
def g169 : Tm → AV := fun T => T.a10.a9
def g170 : Tm → AV := fun T => T.a10.a10
def g171 : Tm → AV := fun T => T.a10.a11
def g172 : Tm → AV := fun T => T.a10.a12
def g173 : Tm → AV := fun T => T.a10.a13
def g174 : Tm → AV := fun T => T.a10.a14
def g175 : Tm → AV := fun T => T.a10.a15
def g176 : Tm → AV := fun T => T.a11.a0
def g177 : Tm → AV := fun T => T.a11.a1
def g178 : Tm → AV := fun T => T.a11.a2
def g179 : Tm → AV := fun T => T.a11.a3
def g180 : Tm → AV := fun T => T.a11.a4
def g181 : Tm → AV := fun T => T.a11.a5
def g182 : Tm → AV := fun T => T.a11.a6
def g183 : Tm → AV := fun T => T.a11.a7
def g184 : Tm → AV := fun T => T.a11.a8
def g185 : Tm → AV := fun T => T.a11.a9
def g186 : Tm → AV := fun T => T.a11.a10
def g187 : Tm → AV := fun T => T.a11.a11
def g188 : Tm → AV := fun T => T.a11.a12
def g189 : Tm → AV := fun T => T.a11.a13
def g190 : Tm → AV := fun T => T.a11.a14
def g191 : Tm → AV := fun T => T.a11.a15
def g192 : Tm → AV := fun T => T.a12.a0
def g193 : Tm → AV := fun T => T.a12.a1
def g194 : Tm → AV := fun T => T.a12.a2
def g195 : Tm → AV := fun T => T.a12.a3
def g196 : Tm → AV := fun T => T.a12.a4
def g197 : Tm → AV := fun T => T.a12.a5
def g198 : Tm → AV := fun T => T.a12.a6
def g199 : Tm → AV := fun T => T.a12.a7
def g200 : Tm → AV := fun T => T.a12.a8
def g201 : Tm → AV := fun T => T.a12.a9
def g202 : Tm → AV := fun T => T.a12.a10
def g203 : Tm → AV := fun T => T.a12.a11
def g204 : Tm → AV := fun T => T.a12.a12
def g205 : Tm → AV := fun T => T.a12.a13
def g206 : Tm → AV := fun T => T.a12.a14
def g207 : Tm → AV := fun T => T.a12.a15
def g208 : Tm → AV := fun T => T.a13.a0
def g209 : Tm → AV := fun T => T.a13.a1
def g210 : Tm → AV := fun T => T.a13.a2
def g211 : Tm → AV := fun T => T.a13.a3
def g212 : Tm → AV := fun T => T.a13.a4
def g213 : Tm → AV := fun T => T.a13.a5
def g214 : Tm → AV := fun T => T.a13.a6
def g215 : Tm → AV := fun T => T.a13.a7
def g216 : Tm → AV := fun T => T.a13.a8
def g217 : Tm → AV := fun T => T.a13.a9
def g218 : Tm → AV := fun T => T.a13.a10
def g219 : Tm → AV := fun T => T.a13.a11
def g220 : Tm → AV := fun T => T.a13.a12
def g221 : Tm → AV := fun T => T.a13.a13
def g222 : Tm → AV := fun T => T.a13.a14
def g223 : Tm → AV := fun T => T.a13.a15
def g224 : Tm → AV := fun T => T.a14.a0
def g225 : Tm → AV := fun T => T.a14.a1
def g226 : Tm → AV := fun T => T.a14.a2
def g227 : Tm → AV := fun T => T.a14.a3
def g228 : Tm → AV := fun T => T.a14.a4
def g229 : Tm → AV := fun T => T.a14.a5
def g230 : Tm → AV := fun T => T.a14.a6
def g231 : Tm → AV := fun T => T.a14.a7
def g232 : Tm → AV := fun T => T.a14.a8
def g233 : Tm → AV := fun T => T.a14.a9
def g234 : Tm → AV := fun T => T.a14.a10
def g235 : Tm → AV := fun T => T.a14.a11
def g236 : Tm → AV := fun T => T.a14.a12
def g237 : Tm → AV := fun T => T.a14.a13
def g238 : Tm → AV := fun T => T.a14.a14
def g239 : Tm → AV := fun T => T.a14.a15
def g240 : Tm → AV := fun T => T.a15.a0
def g241 : Tm → AV := fun T => T.a15.a1
def g242 : Tm → AV := fun T => T.a15.a2
def g243 : Tm → AV := fun T => T.a15.a3
def g244 : Tm → AV := fun T => T.a15.a4
def g245 : Tm → AV := fun T => T.a15.a5
def g246 : Tm → AV := fun T => T.a15.a6
def g247 : Tm → AV := fun T => T.a15.a7
def g248 : Tm → AV := fun T => T.a15.a8
def g249 : Tm → AV := fun T => T.a15.a9
def g250 : Tm → AV := fun T => T.a15.a10
def g251 : Tm → AV := fun T => T.a15.a11
def g252 : Tm → AV := fun T => T.a15.a12
def g253 : Tm → AV := fun T => T.a15.a13
def g254 : Tm → AV := fun T => T.a15.a14
def g255 : Tm → AV := fun T => T.a15.a15
def s0 : Set1 := fun v T => @S.rec (S AV) (fun _ => Tm) (fun a0 a1 a2 a3 a4 a5 a6 a7 a8 a9 a10 a11 a12 a13 a14 a15 => @S.rec AV (fun _ => Tm) (fun b0 b1 b2 b3 b4 b5 b6 b7 b8 b9 b10 b11 b12 b13 b14 b15 => ⟨⟨v, b1, b2, b3, b4, b5, b6, b7, b8, b9, b10, b11, b12, b13, b14, b15⟩, a1, a2, a3, a4, a5, a6, a7, a8, a9, a10, a11, a12, a13, a14, a15⟩) a0) T
def s1 : Set1 := fun v T => @S.rec (S AV) (fun _ => Tm) (fun a0 a1 a2 a3 a4 a5 a6 a7 a8 a9 a10 a11 a12 a13 a14 a15 => @S.rec AV (fun _ => Tm) (fun b0 b1 b2 b3 b4 b5 b6 b7 b8 b9 b10 b11 b12 b13 b14 b15 => ⟨⟨b0, v, b2, b3, b4, b5, b6, b7, b8, b9, b10, b11, b12, b13, b14, b15⟩, a1, a2, a3, a4, a5, a6, a7, a8, a9, a10, a11, a12, a13, a14, a15⟩) a0) T
def s2 : Set1 := fun v T => @S.rec (S AV) (fun _ => Tm) (fun a0 a1 a2 a3 a4 a5 a6 a7 a8 a9 a10 a11 a12 a13 a14 a15 => @S.rec AV (fun _ => Tm) (fun b0 b1 b2 b3 b4 b5 b6 b7 b8 b9 b10 b11 b12 b13 b14 b15 => ⟨⟨b0, b1, v, b3, b4, b5, b6, b7, b8, b9, b10, b11, b12, b13, b14, b15⟩, a1, a2, a3, a4, a5, a6, a7, a8, a9, a10, a11, a12, a13, a14, a15⟩) a0) T
def s3 : Set1 := fun v T => @S.rec (S AV) (fun _ => Tm) (fun a0 a1 a2 a3 a4 a5 a6 a7 a8 a9 a10 a11 a12 a13 a14 a15 => @S.rec AV (fun _ => Tm) (fun b0 b1 b2 b3 b4 b5 b6 b7 b8 b9 b10 b11 b12 b13 b14 b15 => ⟨⟨b0, b1, b2, v, b4, b5, b6, b7, b8, b9, b10, b11, b12, b13, b14, b15⟩, a1, a2, a3, a4, a5, a6, a7, a8, a9, a10, a11, a12, a13, a14, a15⟩) a0) T
def s4 : Set1 := fun v T => @S.rec (S AV) (fun _ => Tm) (fun a0 a1 a2 a3 a4 a5 a6 a7 a8 a9 a10 a11 a12 a13 a14 a15 => @S.rec AV (fun _ => Tm) (fun b0 b1 b2 b3 b4 b5 b6 b7 b8 b9 b10 b11 b12 b13 b14 b15 => ⟨⟨b0, b1, b2, b3, v, b5, b6, b7, b8, b9, b10, b11, b12, b13, b14, b15⟩, a1, a2, a3, a4, a5, a6, a7, a8, a9, a10, a11, a12, a13, a14, a15⟩) a0) T
def s5 : Set1 := fun v T => @S.rec (S AV) (fun _ => Tm) (fun a0 a1 a2 a3 a4 a5 a6 a7 a8 a9 a10 a11 a12 a13 a14 a15 => @S.rec AV (fun _ => Tm) (fun b0 b1 b2 b3 b4 b5 b6 b7 b8 b9 b10 b11 b12 b13 b14 b15 => ⟨⟨b0, b1, b2, b3, b4, v, b6, b7, b8, b9, b10, b11, b12, b13, b14, b15⟩, a1, a2, a3, a4, a5, a6, a7, a8, a9, a10, a11, a12, a13, a14, a15⟩) a0) T
def s6 : Set1 := fun v T => @S.rec (S AV) (fun _ => Tm) (fun a0 a1 a2 a3 a4 a5 a6 a7 a8 a9 a10 a11 a12 a13 a14 a15 => @S.rec AV (fun _ => Tm) (fun b0 b1 b2 b3 b4 b5 b6 b7 b8 b9 b10 b11 b12 b13 b14 b15 => ⟨⟨b0, b1, b2, b3, b4, b5, v, b7, b8, b9, b10, b11, b12, b13, b14, b15⟩, a1, a2, a3, a4, a5, a6, a7, a8, a9, a10, a11, a12, a13, a14, a15⟩) a0) T
def s7 : Set1 := fun v T => @S.rec (S AV) (fun _ => Tm) (fun a0 a1 a2 a3 a4 a5 a6 a7 a8 a9 a10 a11 a12 a13 a14 a15 => @S.rec AV (fun _ => Tm) (fun b0 b1 b2 b3 b4 b5 b6 b7 b8 b9 b10 b11 b12 b13 b14 b15 => ⟨⟨b0, b1, b2, b3, b4, b5, b6, v, b8, b9, b10, b11, b12, b13, b14, b15⟩, a1, a2, a3, a4, a5, a6, a7, a8, a9, a10, a11, a12, a13, a14, a15⟩) a0) T
def s8 : Set1 := fun v T => @S.rec (S AV) (fun _ => Tm) (fun a0 a1 a2 a3 a4 a5 a6 a7 a8 a9 a10 a11 a12 a13 a14 a15 => @S.rec AV (fun _ => Tm) (fun b0 b1 b2 b3 b4 b5 b6 b7 b8 b9 b10 b11 b12 b13 b14 b15 => ⟨⟨b0, b1, b2, b3, b4, b5, b6, b7, v, b9, b10, b11, b12, b13, b14, b15⟩, a1, a2, a3, a4, a5, a6, a7, a8, a9, a10, a11, a12, a13, a14, a15⟩) a0) T
def s9 : Set1 := fun v T => @S.rec (S AV) (fun _ => Tm) (fun a0 a1 a2 a3 a4 a5 a6 a7 a8 a9 a10 a11 a12 a13 a14 a15 => @S.rec AV (fun _ => Tm) (fun b0 b1 b2 b3 b4 b5 b6 b7 b8 b9 b10 b11 b12 b13 b14 b15 => ⟨⟨b0, b1, b2, b3, b4, b5, b6, b7, b8, v, b10, b11, b12, b13, b14, b15⟩, a1, a2, a3, a4, a5, a6, a7, a8, a9, a10, a11, a12, a13, a14, a15⟩) a0) T
def s10 : Set1 := fun v T => @S.rec (S AV) (fun _ => Tm) (fun a0 a1 a2 a3 a4 a5 a6 a7 a8 a9 a10 a11 a12 a13 a14 a15 => @S.rec AV (fun _ => Tm) (fun b0 b1 b2 b3 b4 b5 b6 b7 b8 b9 b10 b11 b12 b13 b14 b15 => ⟨⟨b0, b1, b2, b3, b4, b5, b6, b7, b8, b9, v, b11, b12, b13, b14, b15⟩, a1, a2, a3, a4, a5, a6, a7, a8, a9, a10, a11, a12, a13, a14, a15⟩) a0) T
def s11 : Set1 := fun v T => @S.rec (S AV) (fun _ => Tm) (fun a0 a1 a2 a3 a4 a5 a6 a7 a8 a9 a10 a11 a12 a13 a14 a15 => @S.rec AV (fun _ => Tm) (fun b0 b1 b2 b3 b4 b5 b6 b7 b8 b9 b10 b11 b12 b13 b14 b15 => ⟨⟨b0, b1, b2, b3, b4, b5, b6, b7, b8, b9, b10, v, b12, b13, b14, b15⟩, a1, a2, a3, a4, a5, a6, a7, a8, a9, a10, a11, a12, a13, a14, a15⟩) a0) T
def s12 : Set1 := fun v T => @S.rec (S AV) (fun _ => Tm) (fun a0 a1 a2 a3 a4 a5 a6 a7 a8 a9 a10 a11 a12 a13 a14 a15 => @S.rec AV (fun _ => Tm) (fun b0 b1 b2 b3 b4 b5 b6 b7 b8 b9 b10 b11 b12 b13 b14 b15 => ⟨⟨b0, b1, b2, b3, b4, b5, b6, b7, b8, b9, b10, b11, v, b13, b14, b15⟩, a1, a2, a3, a4, a5, a6, a7, a8, a9, a10, a11, a12, a13, a14, a15⟩) a0) T
def s13 : Set1 := fun v T => @S.rec (S AV) (fun _ => Tm) (fun a0 a1 a2 a3 a4 a5 a6 a7 a8 a9 a10 a11 a12 a13 a14 a15 => @S.rec AV (fun _ => Tm) (fun b0 b1 b2 b3 b4 b5 b6 b7 b8 b9 b10 b11 b12 b13 b14 b15 => ⟨⟨b0, b1, b2, b3, b4, b5, b6, b7, b8, b9, b10, b11, b12, v, b14, b15⟩, a1, a2, a3, a4, a5, a6, a7, a8, a9, a10, a11, a12, a13, a14, a15⟩) a0) T
def s14 : Set1 := fun v T => @S.rec (S AV) (fun _ => Tm) (fun a0 a1 a2 a3 a4 a5 a6 a7 a8 a9 a10 a11 a12 a13 a14 a15 => @S.rec AV (fun _ => Tm) (fun b0 b1 b2 b3 b4 b5 b6 b7 b8 b9 b10 b11 b12 b13 b14 b15 => ⟨⟨b0, b1, b2, b3, b4, b5, b6, b7, b8, b9, b10, b11, b12, b13, v, b15⟩, a1, a2, a3, a4, a5, a6, a7, a8, a9, a10, a11, a12, a13, a14, a15⟩) a0) T
def s15 : Set1 := fun v T => @S.rec (S AV) (fun _ => Tm) (fun a0 a1 a2 a3 a4 a5 a6 a7 a8 a9 a10 a11 a12 a13 a14 a15 => @S.rec AV (fun _ => Tm) (fun b0 b1 b2 b3 b4 b5 b6 b7 b8 b9 b10 b11 b12 b13 b14 b15 => ⟨⟨b0, b1, b2, b3, b4, b5, b6, b7, b8, b9, b10, b11, b12, b13, b14, v⟩, a1, a2, a3, a4, a5, a6, a7, a8, a9, a10, a11, a12, a13, a14, a15⟩) a0) T
def s16 : Set1 := fun v T => @S.rec (S AV) (fun _ => Tm) (fun a0 a1 a2 a3 a4 a5 a6 a7 a8 a9 a10 a11 a12 a13 a14 a15 => @S.rec AV (fun _ => Tm) (fun b0 b1 b2 b3 b4 b5 b6 b7 b8 b9 b10 b11 b12 b13 b14 b15 => ⟨a0, ⟨v, b1, b2, b3, b4, b5, b6, b7, b8, b9, b10, b11, b12, b13, b14, b15⟩, a2, a3, a4, a5, a6, a7, a8, a9, a10, a11, a12, a13, a14, a15⟩) a1) T
def s17 : Set1 := fun v T => @S.rec (S AV) (fun _ => Tm) (fun a0 a1 a2 a3 a4 a5 a6 a7 a8 a9 a10 a11 a12 a13 a14 a15 => @S.rec AV (fun _ => Tm) (fun b0 b1 b2 b3 b4 b5 b6 b7 b8 b9 b10 b11 b12 b13 b14 b15 => ⟨a0, ⟨b0, v, b2, b3, b4, b5, b6, b7, b8, b9, b10, b11, b12, b13, b14, b15⟩, a2, a3, a4, a5, a6, a7, a8, a9, a10, a11, a12, a13, a14, a15⟩) a1) T
def s18 : Set1 := fun v T => @S.rec (S AV) (fun _ => Tm) (fun a0 a1 a2 a3 a4 a5 a6 a7 a8 a9 a10 a11 a12 a13 a14 a15 => @S.rec AV (fun _ => Tm) (fun b0 b1 b2 b3 b4 b5 b6 b7 b8 b9 b10 b11 b12 b13 b14 b15 => ⟨a0, ⟨b0, b1, v, b3, b4, b5, b6, b7, b8, b9, b10, b11, b12, b13, b14, b15⟩, a2, a3, a4, a5, a6, a7, a8, a9, a10, a11, a12, a13, a14, a15⟩) a1) T
def s19 : Set1 := fun v T => @S.rec (S AV) (fun _ => Tm) (fun a0 a1 a2 a3 a4 a5 a6 a7 a8 a9 a10 a11 a12 a13 a14 a15 => @S.rec AV (fun _ => Tm) (fun b0 b1 b2 b3 b4 b5 b6 b7 b8 b9 b10 b11 b12 b13 b14 b15 => ⟨a0, ⟨b0, b1, b2, v, b4, b5, b6, b7, b8, b9, b10, b11, b12, b13, b14, b15⟩, a2, a3, a4, a5, a6, a7, a8, a9, a10, a11, a12, a13, a14, a15⟩) a1) T
def s20 : Set1 := fun v T => @S.rec (S AV) (fun _ => Tm) (fun a0 a1 a2 a3 a4 a5 a6 a7 a8 a9 a10 a11 a12 a13 a14 a15 => @S.rec AV (fun _ => Tm) (fun b0 b1 b2 b3 b4 b5 b6 b7 b8 b9 b10 b11 b12 b13 b14 b15 => ⟨a0, ⟨b0, b1, b2, b3, v, b5, b6, b7, b8, b9, b10, b11, b12, b13, b14, b15⟩, a2, a3, a4, a5, a6, a7, a8, a9, a10, a11, a12, a13, a14, a15⟩) a1) T
def s21 : Set1 := fun v T => @S.rec (S AV) (fun _ => Tm) (fun a0 a1 a2 a3 a4 a5 a6 a7 a8 a9 a10 a11 a12 a13 a14 a15 => @S.rec AV (fun _ => Tm) (fun b0 b1 b2 b3 b4 b5 b6 b7 b8 b9 b10 b11 b12 b13 b14 b15 => ⟨a0, ⟨b0, b1, b2, b3, b4, v, b6, b7, b8, b9, b10, b11, b12, b13, b14, b15⟩, a2, a3, a4, a5, a6, a7, a8, a9, a10, a11, a12, a13, a14, a15⟩) a1) T
def s22 : Set1 := fun v T => @S.rec (S AV) (fun _ => Tm) (fun a0 a1 a2 a3 a4 a5 a6 a7 a8 a9 a10 a11 a12 a13 a14 a15 => @S.rec AV (fun _ => Tm) (fun b0 b1 b2 b3 b4 b5 b6 b7 b8 b9 b10 b11 b12 b13 b14 b15 => ⟨a0, ⟨b0, b1, b2, b3, b4, b5, v, b7, b8, b9, b10, b11, b12, b13, b14, b15⟩, a2, a3, a4, a5, a6, a7, a8, a9, a10, a11, a12, a13, a14, a15⟩) a1) T
def s23 : Set1 := fun v T => @S.rec (S AV) (fun _ => Tm) (fun a0 a1 a2 a3 a4 a5 a6 a7 a8 a9 a10 a11 a12 a13 a14 a15 => @S.rec AV (fun _ => Tm) (fun b0 b1 b2 b3 b4 b5 b6 b7 b8 b9 b10 b11 b12 b13 b14 b15 => ⟨a0, ⟨b0, b1, b2, b3, b4, b5, b6, v, b8, b9, b10, b11, b12, b13, b14, b15⟩, a2, a3, a4, a5, a6, a7, a8, a9, a10, a11, a12, a13, a14, a15⟩) a1) T
def s24 : Set1 := fun v T => @S.rec (S AV) (fun _ => Tm) (fun a0 a1 a2 a3 a4 a5 a6 a7 a8 a9 a10 a11 a12 a13 a14 a15 => @S.rec AV (fun _ => Tm) (fun b0 b1 b2 b3 b4 b5 b6 b7 b8 b9 b10 b11 b12 b13 b14 b15 => ⟨a0, ⟨b0, b1, b2, b3, b4, b5, b6, b7, v, b9, b10, b11, b12, b13, b14, b15⟩, a2, a3, a4, a5, a6, a7, a8, a9, a10, a11, a12, a13, a14, a15⟩) a1) T
def s25 : Set1 := fun v T => @S.rec (S AV) (fun _ => Tm) (fun a0 a1 a2 a3 a4 a5 a6 a7 a8 a9 a10 a11 a12 a13 a14 a15 => @S.rec AV (fun _ => Tm) (fun b0 b1 b2 b3 b4 b5 b6 b7 b8 b9 b10 b11 b12 b13 b14 b15 => ⟨a0, ⟨b0, b1, b2, b3, b4, b5, b6, b7, b8, v, b10, b11, b12, b13, b14, b15⟩, a2, a3, a4, a5, a6, a7, a8, a9, a10, a11, a12, a13, a14, a15⟩) a1) T
def s26 : Set1 := fun v T => @S.rec (S AV) (fun _ => Tm) (fun a0 a1 a2 a3 a4 a5 a6 a7 a8 a9 a10 a11 a12 a13 a14 a15 => @S.rec AV (fun _ => Tm) (fun b0 b1 b2 b3 b4 b5 b6 b7 b8 b9 b10 b11 b12 b13 b14 b15 => ⟨a0, ⟨b0, b1, b2, b3, b4, b5, b6, b7, b8, b9, v, b11, b12, b13, b14, b15⟩, a2, a3, a4, a5, a6, a7, a8, a9, a10, a11, a12, a13, a14, a15⟩) a1) T
def s27 : Set1 := fun v T => @S.rec (S AV) (fun _ => Tm) (fun a0 a1 a2 a3 a4 a5 a6 a7 a8 a9 a10 a11 a12 a13 a14 a15 => @S.rec AV (fun _ => Tm) (fun b0 b1 b2 b3 b4 b5 b6 b7 b8 b9 b10 b11 b12 b13 b14 b15 => ⟨a0, ⟨b0, b1, b2, b3, b4, b5, b6, b7, b8, b9, b10, v, b12, b13, b14, b15⟩, a2, a3, a4, a5, a6, a7, a8, a9, a10, a11, a12, a13, a14, a15⟩) a1) T
def s28 : Set1 := fun v T => @S.rec (S AV) (fun _ => Tm) (fun a0 a1 a2 a3 a4 a5 a6 a7 a8 a9 a10 a11 a12 a13 a14 a15 => @S.rec AV (fun _ => Tm) (fun b0 b1 b2 b3 b4 b5 b6 b7 b8 b9 b10 b11 b12 b13 b14 b15 => ⟨a0, ⟨b0, b1, b2, b3, b4, b5, b6, b7, b8, b9, b10, b11, v, b13, b14, b15⟩, a2, a3, a4, a5, a6, a7, a8, a9, a10, a11, a12, a13, a14, a15⟩) a1) T
def s29 : Set1 := fun v T => @S.rec (S AV) (fun _ => Tm) (fun a0 a1 a2 a3 a4 a5 a6 a7 a8 a9 a10 a11 a12 a13 a14 a15 => @S.rec AV (fun _ => Tm) (fun b0 b1 b2 b3 b4 b5 b6 b7 b8 b9 b10 b11 b12 b13 b14 b15 => ⟨a0, ⟨b0, b1, b2, b3, b4, b5, b6, b7, b8, b9, b10, b11, b12, v, b14, b15⟩, a2, a3, a4, a5, a6, a7, a8, a9, a10, a11, a12, a13, a14, a15⟩) a1) T
def s30 : Set1 := fun v T => @S.rec (S AV) (fun _ => Tm) (fun a0 a1 a2 a3 a4 a5 a6 a7 a8 a9 a10 a11 a12 a13 a14 a15 => @S.rec AV (fun _ => Tm) (fun b0 b1 b2 b3 b4 b5 b6 b7 b8 b9 b10 b11 b12 b13 b14 b15 => ⟨a0, ⟨b0, b1, b2, b3, b4, b5, b6, b7, b8, b9, b10, b11, b12, b13, v, b15⟩, a2, a3, a4, a5, a6, a7, a8, a9, a10, a11, a12, a13, a14, a15⟩) a1) T
def s31 : Set1 := fun v T => @S.rec (S AV) (fun _ => Tm) (fun a0 a1 a2 a3 a4 a5 a6 a7 a8 a9 a10 a11 a12 a13 a14 a15 => @S.rec AV (fun _ => Tm) (fun b0 b1 b2 b3 b4 b5 b6 b7 b8 b9 b10 b11 b12 b13 b14 b15 => ⟨a0, ⟨b0, b1, b2, b3, b4, b5, b6, b7, b8, b9, b10, b11, b12, b13, b14, v⟩, a2, a3, a4, a5, a6, a7, a8, a9, a10, a11, a12, a13, a14, a15⟩) a1) T
def s32 : Set1 := fun v T => @S.rec (S AV) (fun _ => Tm) (fun a0 a1 a2 a3 a4 a5 a6 a7 a8 a9 a10 a11 a12 a13 a14 a15 => @S.rec AV (fun _ => Tm) (fun b0 b1 b2 b3 b4 b5 b6 b7 b8 b9 b10 b11 b12 b13 b14 b15 => ⟨a0, a1, ⟨v, b1, b2, b3, b4, b5, b6, b7, b8, b9, b10, b11, b12, b13, b14, b15⟩, a3, a4, a5, a6, a7, a8, a9, a10, a11, a12, a13, a14, a15⟩) a2) T
def s33 : Set1 := fun v T => @S.rec (S AV) (fun _ => Tm) (fun a0 a1 a2 a3 a4 a5 a6 a7 a8 a9 a10 a11 a12 a13 a14 a15 => @S.rec AV (fun _ => Tm) (fun b0 b1 b2 b3 b4 b5 b6 b7 b8 b9 b10 b11 b12 b13 b14 b15 => ⟨a0, a1, ⟨b0, v, b2, b3, b4, b5, b6, b7, b8, b9, b10, b11, b12, b13, b14, b15⟩, a3, a4, a5, a6, a7, a8, a9, a10, a11, a12, a13, a14, a15⟩) a2) T
def s34 : Set1 := fun v T => @S.rec (S AV) (fun _ => Tm) (fun a0 a1 a2 a3 a4 a5 a6 a7 a8 a9 a10 a11 a12 a13 a14 a15 => @S.rec AV (fun _ => Tm) (fun b0 b1 b2 b3 b4 b5 b6 b7 b8 b9 b10 b11 b12 b13 b14 b15 => ⟨a0, a1, ⟨b0, b1, v, b3, b4, b5, b6, b7, b8, b9, b10, b11, b12, b13, b14, b15⟩, a3, a4, a5, a6, a7, a8, a9, a10, a11, a12, a13, a14, a15⟩) a2) T
def s35 : Set1 := fun v T => @S.rec (S AV) (fun _ => Tm) (fun a0 a1 a2 a3 a4 a5 a6 a7 a8 a9 a10 a11 a12 a13 a14 a15 => @S.rec AV (fun _ => Tm) (fun b0 b1 b2 b3 b4 b5 b6 b7 b8 b9 b10 b11 b12 b13 b14 b15 => ⟨a0, a1, ⟨b0, b1, b2, v, b4, b5, b6, b7, b8, b9, b10, b11, b12, b13, b14, b15⟩, a3, a4, a5, a6, a7, a8, a9, a10, a11, a12, a13, a14, a15⟩) a2) T
def s36 : Set1 := fun v T => @S.rec (S AV) (fun _ => Tm) (fun a0 a1 a2 a3 a4 a5 a6 a7 a8 a9 a10 a11 a12 a13 a14 a15 => @S.rec AV (fun _ => Tm) (fun b0 b1 b2 b3 b4 b5 b6 b7 b8 b9 b10 b11 b12 b13 b14 b15 => ⟨a0, a1, ⟨b0, b1, b2, b3, v, b5, b6, b7, b8, b9, b10, b11, b12, b13, b14, b15⟩, a3, a4, a5, a6, a7, a8, a9, a10, a11, a12, a13, a14, a15⟩) a2) T
def s37 : Set1 := fun v T => @S.rec (S AV) (fun _ => Tm) (fun a0 a1 a2 a3 a4 a5 a6 a7 a8 a9 a10 a11 a12 a13 a14 a15 => @S.rec AV (fun _ => Tm) (fun b0 b1 b2 b3 b4 b5 b6 b7 b8 b9 b10 b11 b12 b13 b14 b15 => ⟨a0, a1, ⟨b0, b1, b2, b3, b4, v, b6, b7, b8, b9, b10, b11, b12, b13, b14, b15⟩, a3, a4, a5, a6, a7, a8, a9, a10, a11, a12, a13, a14, a15⟩) a2) T
def s38 : Set1 := fun v T => @S.rec (S AV) (fun _ => Tm) (fun a0 a1 a2 a3 a4 a5 a6 a7 a8 a9 a10 a11 a12 a13 a14 a15 => @S.rec AV (fun _ => Tm) (fun b0 b1 b2 b3 b4 b5 b6 b7 b8 b9 b10 b11 b12 b13 b14 b15 => ⟨a0, a1, ⟨b0, b1, b2, b3, b4, b5, v, b7, b8, b9, b10, b11, b12, b13, b14, b15⟩, a3, a4, a5, a6, a7, a8, a9, a10, a11, a12, a13, a14, a15⟩) a2) T
def s39 : Set1 := fun v T => @S.rec (S AV) (fun _ => Tm) (fun a0 a1 a2 a3 a4 a5 a6 a7 a8 a9 a10 a11 a12 a13 a14 a15 => @S.rec AV (fun _ => Tm) (fun b0 b1 b2 b3 b4 b5 b6 b7 b8 b9 b10 b11 b12 b13 b14 b15 => ⟨a0, a1, ⟨b0, b1, b2, b3, b4, b5, b6, v, b8, b9, b10, b11, b12, b13, b14, b15⟩, a3, a4, a5, a6, a7, a8, a9, a10, a11, a12, a13, a14, a15⟩) a2) T
def s40 : Set1 := fun v T => @S.rec (S AV) (fun _ => Tm) (fun a0 a1 a2 a3 a4 a5 a6 a7 a8 a9 a10 a11 a12 a13 a14 a15 => @S.rec AV (fun _ => Tm) (fun b0 b1 b2 b3 b4 b5 b6 b7 b8 b9 b10 b11 b12 b13 b14 b15 => ⟨a0, a1, ⟨b0, b1, b2, b3, b4, b5, b6, b7, v, b9, b10, b11, b12, b13, b14, b15⟩, a3, a4, a5, a6, a7, a8, a9, a10, a11, a12, a13, a14, a15⟩) a2) T
def s41 : Set1 := fun v T => @S.rec (S AV) (fun _ => Tm) (fun a0 a1 a2 a3 a4 a5 a6 a7 a8 a9 a10 a11 a12 a13 a14 a15 => @S.rec AV (fun _ => Tm) (fun b0 b1 b2 b3 b4 b5 b6 b7 b8 b9 b10 b11 b12 b13 b14 b15 => ⟨a0, a1, ⟨b0, b1, b2, b3, b4, b5, b6, b7, b8, v, b10, b11, b12, b13, b14, b15⟩, a3, a4, a5, a6, a7, a8, a9, a10, a11, a12, a13, a14, a15⟩) a2) T
def s42 : Set1 := fun v T => @S.rec (S AV) (fun _ => Tm) (fun a0 a1 a2 a3 a4 a5 a6 a7 a8 a9 a10 a11 a12 a13 a14 a15 => @S.rec AV (fun _ => Tm) (fun b0 b1 b2 b3 b4 b5 b6 b7 b8 b9 b10 b11 b12 b13 b14 b15 => ⟨a0, a1, ⟨b0, b1, b2, b3, b4, b5, b6, b7, b8, b9, v, b11, b12, b13, b14, b15⟩, a3, a4, a5, a6, a7, a8, a9, a10, a11, a12, a13, a14, a15⟩) a2) T
def s43 : Set1 := fun v T => @S.rec (S AV) (fun _ => Tm) (fun a0 a1 a2 a3 a4 a5 a6 a7 a8 a9 a10 a11 a12 a13 a14 a15 => @S.rec AV (fun _ => Tm) (fun b0 b1 b2 b3 b4 b5 b6 b7 b8 b9 b10 b11 b12 b13 b14 b15 => ⟨a0, a1, ⟨b0, b1, b2, b3, b4, b5, b6, b7, b8, b9, b10, v, b12, b13, b14, b15⟩, a3, a4, a5, a6, a7, a8, a9, a10, a11, a12, a13, a14, a15⟩) a2) T
def s44 : Set1 := fun v T => @S.rec (S AV) (fun _ => Tm) (fun a0 a1 a2 a3 a4 a5 a6 a7 a8 a9 a10 a11 a12 a13 a14 a15 => @S.rec AV (fun _ => Tm) (fun b0 b1 b2 b3 b4 b5 b6 b7 b8 b9 b10 b11 b12 b13 b14 b15 => ⟨a0, a1, ⟨b0, b1, b2, b3, b4, b5, b6, b7, b8, b9, b10, b11, v, b13, b14, b15⟩, a3, a4, a5, a6, a7, a8, a9, a10, a11, a12, a13, a14, a15⟩) a2) T
def s45 : Set1 := fun v T => @S.rec (S AV) (fun _ => Tm) (fun a0 a1 a2 a3 a4 a5 a6 a7 a8 a9 a10 a11 a12 a13 a14 a15 => @S.rec AV (fun _ => Tm) (fun b0 b1 b2 b3 b4 b5 b6 b7 b8 b9 b10 b11 b12 b13 b14 b15 => ⟨a0, a1, ⟨b0, b1, b2, b3, b4, b5, b6, b7, b8, b9, b10, b11, b12, v, b14, b15⟩, a3, a4, a5, a6, a7, a8, a9, a10, a11, a12, a13, a14, a15⟩) a2) T
def s46 : Set1 := fun v T => @S.rec (S AV) (fun _ => Tm) (fun a0 a1 a2 a3 a4 a5 a6 a7 a8 a9 a10 a11 a12 a13 a14 a15 => @S.rec AV (fun _ => Tm) (fun b0 b1 b2 b3 b4 b5 b6 b7 b8 b9 b10 b11 b12 b13 b14 b15 => ⟨a0, a1, ⟨b0, b1, b2, b3, b4, b5, b6, b7, b8, b9, b10, b11, b12, b13, v, b15⟩, a3, a4, a5, a6, a7, a8, a9, a10, a11, a12, a13, a14, a15⟩) a2) T
def s47 : Set1 := fun v T => @S.rec (S AV) (fun _ => Tm) (fun a0 a1 a2 a3 a4 a5 a6 a7 a8 a9 a10 a11 a12 a13 a14 a15 => @S.rec AV (fun _ => Tm) (fun b0 b1 b2 b3 b4 b5 b6 b7 b8 b9 b10 b11 b12 b13 b14 b15 => ⟨a0, a1, ⟨b0, b1, b2, b3, b4, b5, b6, b7, b8, b9, b10, b11, b12, b13, b14, v⟩, a3, a4, a5, a6, a7, a8, a9, a10, a11, a12, a13, a14, a15⟩) a2) T
def s48 : Set1 := fun v T => @S.rec (S AV) (fun _ => Tm) (fun a0 a1 a2 a3 a4 a5 a6 a7 a8 a9 a10 a11 a12 a13 a14 a15 => @S.rec AV (fun _ => Tm) (fun b0 b1 b2 b3 b4 b5 b6 b7 b8 b9 b10 b11 b12 b13 b14 b15 => ⟨a0, a1, a2, ⟨v, b1, b2, b3, b4, b5, b6, b7, b8, b9, b10, b11, b12, b13, b14, b15⟩, a4, a5, a6, a7, a8, a9, a10, a11, a12, a13, a14, a15⟩) a3) T
def s49 : Set1 := fun v T => @S.rec (S AV) (fun _ => Tm) (fun a0 a1 a2 a3 a4 a5 a6 a7 a8 a9 a10 a11 a12 a13 a14 a15 => @S.rec AV (fun _ => Tm) (fun b0 b1 b2 b3 b4 b5 b6 b7 b8 b9 b10 b11 b12 b13 b14 b15 => ⟨a0, a1, a2, ⟨b0, v, b2, b3, b4, b5, b6, b7, b8, b9, b10, b11, b12, b13, b14, b15⟩, a4, a5, a6, a7, a8, a9, a10, a11, a12, a13, a14, a15⟩) a3) T
def s50 : Set1 := fun v T => @S.rec (S AV) (fun _ => Tm) (fun a0 a1 a2 a3 a4 a5 a6 a7 a8 a9 a10 a11 a12 a13 a14 a15 => @S.rec AV (fun _ => Tm) (fun b0 b1 b2 b3 b4 b5 b6 b7 b8 b9 b10 b11 b12 b13 b14 b15 => ⟨a0, a1, a2, ⟨b0, b1, v, b3, b4, b5, b6, b7, b8, b9, b10, b11, b12, b13, b14, b15⟩, a4, a5, a6, a7, a8, a9, a10, a11, a12, a13, a14, a15⟩) a3) T
def s51 : Set1 := fun v T => @S.rec (S AV) (fun _ => Tm) (fun a0 a1 a2 a3 a4 a5 a6 a7 a8 a9 a10 a11 a12 a13 a14 a15 => @S.rec AV (fun _ => Tm) (fun b0 b1 b2 b3 b4 b5 b6 b7 b8 b9 b10 b11 b12 b13 b14 b15 => ⟨a0, a1, a2, ⟨b0, b1, b2, v, b4, b5, b6, b7, b8, b9, b10, b11, b12, b13, b14, b15⟩, a4, a5, a6, a7, a8, a9, a10, a11, a12, a13, a14, a15⟩) a3) T
def s52 : Set1 := fun v T => @S.rec (S AV) (fun _ => Tm) (fun a0 a1 a2 a3 a4 a5 a6 a7 a8 a9 a10 a11 a12 a13 a14 a15 => @S.rec AV (fun _ => Tm) (fun b0 b1 b2 b3 b4 b5 b6 b7 b8 b9 b10 b11 b12 b13 b14 b15 => ⟨a0, a1, a2, ⟨b0, b1, b2, b3, v, b5, b6, b7, b8, b9, b10, b11, b12, b13, b14, b15⟩, a4, a5, a6, a7, a8, a9, a10, a11, a12, a13, a14, a15⟩) a3) T
def s53 : Set1 := fun v T => @S.rec (S AV) (fun _ => Tm) (fun a0 a1 a2 a3 a4 a5 a6 a7 a8 a9 a10 a11 a12 a13 a14 a15 => @S.rec AV (fun _ => Tm) (fun b0 b1 b2 b3 b4 b5 b6 b7 b8 b9 b10 b11 b12 b13 b14 b15 => ⟨a0, a1, a2, ⟨b0, b1, b2, b3, b4, v, b6, b7, b8, b9, b10, b11, b12, b13, b14, b15⟩, a4, a5, a6, a7, a8, a9, a10, a11, a12, a13, a14, a15⟩) a3) T
def s54 : Set1 := fun v T => @S.rec (S AV) (fun _ => Tm) (fun a0 a1 a2 a3 a4 a5 a6 a7 a8 a9 a10 a11 a12 a13 a14 a15 => @S.rec AV (fun _ => Tm) (fun b0 b1 b2 b3 b4 b5 b6 b7 b8 b9 b10 b11 b12 b13 b14 b15 => ⟨a0, a1, a2, ⟨b0, b1, b2, b3, b4, b5, v, b7, b8, b9, b10, b11, b12, b13, b14, b15⟩, a4, a5, a6, a7, a8, a9, a10, a11, a12, a13, a14, a15⟩) a3) T
def s55 : Set1 := fun v T => @S.rec (S AV) (fun _ => Tm) (fun a0 a1 a2 a3 a4 a5 a6 a7 a8 a9 a10 a11 a12 a13 a14 a15 => @S.rec AV (fun _ => Tm) (fun b0 b1 b2 b3 b4 b5 b6 b7 b8 b9 b10 b11 b12 b13 b14 b15 => ⟨a0, a1, a2, ⟨b0, b1, b2, b3, b4, b5, b6, v, b8, b9, b10, b11, b12, b13, b14, b15⟩, a4, a5, a6, a7, a8, a9, a10, a11, a12, a13, a14, a15⟩) a3) T
def s56 : Set1 := fun v T => @S.rec (S AV) (fun _ => Tm) (fun a0 a1 a2 a3 a4 a5 a6 a7 a8 a9 a10 a11 a12 a13 a14 a15 => @S.rec AV (fun _ => Tm) (fun b0 b1 b2 b3 b4 b5 b6 b7 b8 b9 b10 b11 b12 b13 b14 b15 => ⟨a0, a1, a2, ⟨b0, b1, b2, b3, b4, b5, b6, b7, v, b9, b10, b11, b12, b13, b14, b15⟩, a4, a5, a6, a7, a8, a9, a10, a11, a12, a13, a14, a15⟩) a3) T
def s57 : Set1 := fun v T => @S.rec (S AV) (fun _ => Tm) (fun a0 a1 a2 a3 a4 a5 a6 a7 a8 a9 a10 a11 a12 a13 a14 a15 => @S.rec AV (fun _ => Tm) (fun b0 b1 b2 b3 b4 b5 b6 b7 b8 b9 b10 b11 b12 b13 b14 b15 => ⟨a0, a1, a2, ⟨b0, b1, b2, b3, b4, b5, b6, b7, b8, v, b10, b11, b12, b13, b14, b15⟩, a4, a5, a6, a7, a8, a9, a10, a11, a12, a13, a14, a15⟩) a3) T
def s58 : Set1 := fun v T => @S.rec (S AV) (fun _ => Tm) (fun a0 a1 a2 a3 a4 a5 a6 a7 a8 a9 a10 a11 a12 a13 a14 a15 => @S.rec AV (fun _ => Tm) (fun b0 b1 b2 b3 b4 b5 b6 b7 b8 b9 b10 b11 b12 b13 b14 b15 => ⟨a0, a1, a2, ⟨b0, b1, b2, b3, b4, b5, b6, b7, b8, b9, v, b11, b12, b13, b14, b15⟩, a4, a5, a6, a7, a8, a9, a10, a11, a12, a13, a14, a15⟩) a3) T
def s59 : Set1 := fun v T => @S.rec (S AV) (fun _ => Tm) (fun a0 a1 a2 a3 a4 a5 a6 a7 a8 a9 a10 a11 a12 a13 a14 a15 => @S.rec AV (fun _ => Tm) (fun b0 b1 b2 b3 b4 b5 b6 b7 b8 b9 b10 b11 b12 b13 b14 b15 => ⟨a0, a1, a2, ⟨b0, b1, b2, b3, b4, b5, b6, b7, b8, b9, b10, v, b12, b13, b14, b15⟩, a4, a5, a6, a7, a8, a9, a10, a11, a12, a13, a14, a15⟩) a3) T
def s60 : Set1 := fun v T => @S.rec (S AV) (fun _ => Tm) (fun a0 a1 a2 a3 a4 a5 a6 a7 a8 a9 a10 a11 a12 a13 a14 a15 => @S.rec AV (fun _ => Tm) (fun b0 b1 b2 b3 b4 b5 b6 b7 b8 b9 b10 b11 b12 b13 b14 b15 => ⟨a0, a1, a2, ⟨b0, b1, b2, b3, b4, b5, b6, b7, b8, b9, b10, b11, v, b13, b14, b15⟩, a4, a5, a6, a7, a8, a9, a10, a11, a12, a13, a14, a15⟩) a3) T
def s61 : Set1 := fun v T => @S.rec (S AV) (fun _ => Tm) (fun a0 a1 a2 a3 a4 a5 a6 a7 a8 a9 a10 a11 a12 a13 a14 a15 => @S.rec AV (fun _ => Tm) (fun b0 b1 b2 b3 b4 b5 b6 b7 b8 b9 b10 b11 b12 b13 b14 b15 => ⟨a0, a1, a2, ⟨b0, b1, b2, b3, b4, b5, b6, b7, b8, b9, b10, b11, b12, v, b14, b15⟩, a4, a5, a6, a7, a8, a9, a10, a11, a12, a13, a14, a15⟩) a3) T
def s62 : Set1 := fun v T => @S.rec (S AV) (fun _ => Tm) (fun a0 a1 a2 a3 a4 a5 a6 a7 a8 a9 a10 a11 a12 a13 a14 a15 => @S.rec AV (fun _ => Tm) (fun b0 b1 b2 b3 b4 b5 b6 b7 b8 b9 b10 b11 b12 b13 b14 b15 => ⟨a0, a1, a2, ⟨b0, b1, b2, b3, b4, b5, b6, b7, b8, b9, b10, b11, b12, b13, v, b15⟩, a4, a5, a6, a7, a8, a9, a10, a11, a12, a13, a14, a15⟩) a3) T
def s63 : Set1 := fun v T => @S.rec (S AV) (fun _ => Tm) (fun a0 a1 a2 a3 a4 a5 a6 a7 a8 a9 a10 a11 a12 a13 a14 a15 => @S.rec AV (fun _ => Tm) (fun b0 b1 b2 b3 b4 b5 b6 b7 b8 b9 b10 b11 b12 b13 b14 b15 => ⟨a0, a1, a2, ⟨b0, b1, b2, b3, b4, b5, b6, b7, b8, b9, b10, b11, b12, b13, b14, v⟩, a4, a5, a6, a7, a8, a9, a10, a11, a12, a13, a14, a15⟩) a3) T
def s64 : Set1 := fun v T => @S.rec (S AV) (fun _ => Tm) (fun a0 a1 a2 a3 a4 a5 a6 a7 a8 a9 a10 a11 a12 a13 a14 a15 => @S.rec AV (fun _ => Tm) (fun b0 b1 b2 b3 b4 b5 b6 b7 b8 b9 b10 b11 b12 b13 b14 b15 => ⟨a0, a1, a2, a3, ⟨v, b1, b2, b3, b4, b5, b6, b7, b8, b9, b10, b11, b12, b13, b14, b15⟩, a5, a6, a7, a8, a9, a10, a11, a12, a13, a14, a15⟩) a4) T
def s65 : Set1 := fun v T => @S.rec (S AV) (fun _ => Tm) (fun a0 a1 a2 a3 a4 a5 a6 a7 a8 a9 a10 a11 a12 a13 a14 a15 => @S.rec AV (fun _ => Tm) (fun b0 b1 b2 b3 b4 b5 b6 b7 b8 b9 b10 b11 b12 b13 b14 b15 => ⟨a0, a1, a2, a3, ⟨b0, v, b2, b3, b4, b5, b6, b7, b8, b9, b10, b11, b12, b13, b14, b15⟩, a5, a6, a7, a8, a9, a10, a11, a12, a13, a14, a15⟩) a4) T
def s66 : Set1 := fun v T => @S.rec (S AV) (fun _ => Tm) (fun a0 a1 a2 a3 a4 a5 a6 a7 a8 a9 a10 a11 a12 a13 a14 a15 => @S.rec AV (fun _ => Tm) (fun b0 b1 b2 b3 b4 b5 b6 b7 b8 b9 b10 b11 b12 b13 b14 b15 => ⟨a0, a1, a2, a3, ⟨b0, b1, v, b3, b4, b5, b6, b7, b8, b9, b10, b11, b12, b13, b14, b15⟩, a5, a6, a7, a8, a9, a10, a11, a12, a13, a14, a15⟩) a4) T
def s67 : Set1 := fun v T => @S.rec (S AV) (fun _ => Tm) (fun a0 a1 a2 a3 a4 a5 a6 a7 a8 a9 a10 a11 a12 a13 a14 a15 => @S.rec AV (fun _ => Tm) (fun b0 b1 b2 b3 b4 b5 b6 b7 b8 b9 b10 b11 b12 b13 b14 b15 => ⟨a0, a1, a2, a3, ⟨b0, b1, b2, v, b4, b5, b6, b7, b8, b9, b10, b11, b12, b13, b14, b15⟩, a5, a6, a7, a8, a9, a10, a11, a12, a13, a14, a15⟩) a4) T
def s68 : Set1 := fun v T => @S.rec (S AV) (fun _ => Tm) (fun a0 a1 a2 a3 a4 a5 a6 a7 a8 a9 a10 a11 a12 a13 a14 a15 => @S.rec AV (fun _ => Tm) (fun b0 b1 b2 b3 b4 b5 b6 b7 b8 b9 b10 b11 b12 b13 b14 b15 => ⟨a0, a1, a2, a3, ⟨b0, b1, b2, b3, v, b5, b6, b7, b8, b9, b10, b11, b12, b13, b14, b15⟩, a5, a6, a7, a8, a9, a10, a11, a12, a13, a14, a15⟩) a4) T
def s69 : Set1 := fun v T => @S.rec (S AV) (fun _ => Tm) (fun a0 a1 a2 a3 a4 a5 a6 a7 a8 a9 a10 a11 a12 a13 a14 a15 => @S.rec AV (fun _ => Tm) (fun b0 b1 b2 b3 b4 b5 b6 b7 b8 b9 b10 b11 b12 b13 b14 b15 => ⟨a0, a1, a2, a3, ⟨b0, b1, b2, b3, b4, v, b6, b7, b8, b9, b10, b11, b12, b13, b14, b15⟩, a5, a6, a7, a8, a9, a10, a11, a12, a13, a14, a15⟩) a4) T
def s70 : Set1 := fun v T => @S.rec (S AV) (fun _ => Tm) (fun a0 a1 a2 a3 a4 a5 a6 a7 a8 a9 a10 a11 a12 a13 a14 a15 => @S.rec AV (fun _ => Tm) (fun b0 b1 b2 b3 b4 b5 b6 b7 b8 b9 b10 b11 b12 b13 b14 b15 => ⟨a0, a1, a2, a3, ⟨b0, b1, b2, b3, b4, b5, v, b7, b8, b9, b10, b11, b12, b13, b14, b15⟩, a5, a6, a7, a8, a9, a10, a11, a12, a13, a14, a15⟩) a4) T
def s71 : Set1 := fun v T => @S.rec (S AV) (fun _ => Tm) (fun a0 a1 a2 a3 a4 a5 a6 a7 a8 a9 a10 a11 a12 a13 a14 a15 => @S.rec AV (fun _ => Tm) (fun b0 b1 b2 b3 b4 b5 b6 b7 b8 b9 b10 b11 b12 b13 b14 b15 => ⟨a0, a1, a2, a3, ⟨b0, b1, b2, b3, b4, b5, b6, v, b8, b9, b10, b11, b12, b13, b14, b15⟩, a5, a6, a7, a8, a9, a10, a11, a12, a13, a14, a15⟩) a4) T
def s72 : Set1 := fun v T => @S.rec (S AV) (fun _ => Tm) (fun a0 a1 a2 a3 a4 a5 a6 a7 a8 a9 a10 a11 a12 a13 a14 a15 => @S.rec AV (fun _ => Tm) (fun b0 b1 b2 b3 b4 b5 b6 b7 b8 b9 b10 b11 b12 b13 b14 b15 => ⟨a0, a1, a2, a3, ⟨b0, b1, b2, b3, b4, b5, b6, b7, v, b9, b10, b11, b12, b13, b14, b15⟩, a5, a6, a7, a8, a9, a10, a11, a12, a13, a14, a15⟩) a4) T
def s73 : Set1 := fun v T => @S.rec (S AV) (fun _ => Tm) (fun a0 a1 a2 a3 a4 a5 a6 a7 a8 a9 a10 a11 a12 a13 a14 a15 => @S.rec AV (fun _ => Tm) (fun b0 b1 b2 b3 b4 b5 b6 b7 b8 b9 b10 b11 b12 b13 b14 b15 => ⟨a0, a1, a2, a3, ⟨b0, b1, b2, b3, b4, b5, b6, b7, b8, v, b10, b11, b12, b13, b14, b15⟩, a5, a6, a7, a8, a9, a10, a11, a12, a13, a14, a15⟩) a4) T
def s74 : Set1 := fun v T => @S.rec (S AV) (fun _ => Tm) (fun a0 a1 a2 a3 a4 a5 a6 a7 a8 a9 a10 a11 a12 a13 a14 a15 => @S.rec AV (fun _ => Tm) (fun b0 b1 b2 b3 b4 b5 b6 b7 b8 b9 b10 b11 b12 b13 b14 b15 => ⟨a0, a1, a2, a3, ⟨b0, b1, b2, b3, b4, b5, b6, b7, b8, b9, v, b11, b12, b13, b14, b15⟩, a5, a6, a7, a8, a9, a10, a11, a12, a13, a14, a15⟩) a4) T
def s75 : Set1 := fun v T => @S.rec (S AV) (fun _ => Tm) (fun a0 a1 a2 a3 a4 a5 a6 a7 a8 a9 a10 a11 a12 a13 a14 a15 => @S.rec AV (fun _ => Tm) (fun b0 b1 b2 b3 b4 b5 b6 b7 b8 b9 b10 b11 b12 b13 b14 b15 => ⟨a0, a1, a2, a3, ⟨b0, b1, b2, b3, b4, b5, b6, b7, b8, b9, b10, v, b12, b13, b14, b15⟩, a5, a6, a7, a8, a9, a10, a11, a12, a13, a14, a15⟩) a4) T
def s76 : Set1 := fun v T => @S.rec (S AV) (fun _ => Tm) (fun a0 a1 a2 a3 a4 a5 a6 a7 a8 a9 a10 a11 a12 a13 a14 a15 => @S.rec AV (fun _ => Tm) (fun b0 b1 b2 b3 b4 b5 b6 b7 b8 b9 b10 b11 b12 b13 b14 b15 => ⟨a0, a1, a2, a3, ⟨b0, b1, b2, b3, b4, b5, b6, b7, b8, b9, b10, b11, v, b13, b14, b15⟩, a5, a6, a7, a8, a9, a10, a11, a12, a13, a14, a15⟩) a4) T
def s77 : Set1 := fun v T => @S.rec (S AV) (fun _ => Tm) (fun a0 a1 a2 a3 a4 a5 a6 a7 a8 a9 a10 a11 a12 a13 a14 a15 => @S.rec AV (fun _ => Tm) (fun b0 b1 b2 b3 b4 b5 b6 b7 b8 b9 b10 b11 b12 b13 b14 b15 => ⟨a0, a1, a2, a3, ⟨b0, b1, b2, b3, b4, b5, b6, b7, b8, b9, b10, b11, b12, v, b14, b15⟩, a5, a6, a7, a8, a9, a10, a11, a12, a13, a14, a15⟩) a4) T
def s78 : Set1 := fun v T => @S.rec (S AV) (fun _ => Tm) (fun a0 a1 a2 a3 a4 a5 a6 a7 a8 a9 a10 a11 a12 a13 a14 a15 => @S.rec AV (fun _ => Tm) (fun b0 b1 b2 b3 b4 b5 b6 b7 b8 b9 b10 b11 b12 b13 b14 b15 => ⟨a0, a1, a2, a3, ⟨b0, b1, b2, b3, b4, b5, b6, b7, b8, b9, b10, b11, b12, b13, v, b15⟩, a5, a6, a7, a8, a9, a10, a11, a12, a13, a14, a15⟩) a4) T
def s79 : Set1 := fun v T => @S.rec (S AV) (fun _ => Tm) (fun a0 a1 a2 a3 a4 a5 a6 a7 a8 a9 a10 a11 a12 a13 a14 a15 => @S.rec AV (fun _ => Tm) (fun b0 b1 b2 b3 b4 b5 b6 b7 b8 b9 b10 b11 b12 b13 b14 b15 => ⟨a0, a1, a2, a3, ⟨b0, b1, b2, b3, b4, b5, b6, b7, b8, b9, b10, b11, b12, b13, b14, v⟩, a5, a6, a7, a8, a9, a10, a11, a12, a13, a14, a15⟩) a4) T
def s80 : Set1 := fun v T => @S.rec (S AV) (fun _ => Tm) (fun a0 a1 a2 a3 a4 a5 a6 a7 a8 a9 a10 a11 a12 a13 a14 a15 => @S.rec AV (fun _ => Tm) (fun b0 b1 b2 b3 b4 b5 b6 b7 b8 b9 b10 b11 b12 b13 b14 b15 => ⟨a0, a1, a2, a3, a4, ⟨v, b1, b2, b3, b4, b5, b6, b7, b8, b9, b10, b11, b12, b13, b14, b15⟩, a6, a7, a8, a9, a10, a11, a12, a13, a14, a15⟩) a5) T
def s81 : Set1 := fun v T => @S.rec (S AV) (fun _ => Tm) (fun a0 a1 a2 a3 a4 a5 a6 a7 a8 a9 a10 a11 a12 a13 a14 a15 => @S.rec AV (fun _ => Tm) (fun b0 b1 b2 b3 b4 b5 b6 b7 b8 b9 b10 b11 b12 b13 b14 b15 => ⟨a0, a1, a2, a3, a4, ⟨b0, v, b2, b3, b4, b5, b6, b7, b8, b9, b10, b11, b12, b13, b14, b15⟩, a6, a7, a8, a9, a10, a11, a12, a13, a14, a15⟩) a5) T
def s82 : Set1 := fun v T => @S.rec (S AV) (fun _ => Tm) (fun a0 a1 a2 a3 a4 a5 a6 a7 a8 a9 a10 a11 a12 a13 a14 a15 => @S.rec AV (fun _ => Tm) (fun b0 b1 b2 b3 b4 b5 b6 b7 b8 b9 b10 b11 b12 b13 b14 b15 => ⟨a0, a1, a2, a3, a4, ⟨b0, b1, v, b3, b4, b5, b6, b7, b8, b9, b10, b11, b12, b13, b14, b15⟩, a6, a7, a8, a9, a10, a11, a12, a13, a14, a15⟩) a5) T
def s83 : Set1 := fun v T => @S.rec (S AV) (fun _ => Tm) (fun a0 a1 a2 a3 a4 a5 a6 a7 a8 a9 a10 a11 a12 a13 a14 a15 => @S.rec AV (fun _ => Tm) (fun b0 b1 b2 b3 b4 b5 b6 b7 b8 b9 b10 b11 b12 b13 b14 b15 => ⟨a0, a1, a2, a3, a4, ⟨b0, b1, b2, v, b4, b5, b6, b7, b8, b9, b10, b11, b12, b13, b14, b15⟩, a6, a7, a8, a9, a10, a11, a12, a13, a14, a15⟩) a5) T
def s84 : Set1 := fun v T => @S.rec (S AV) (fun _ => Tm) (fun a0 a1 a2 a3 a4 a5 a6 a7 a8 a9 a10 a11 a12 a13 a14 a15 => @S.rec AV (fun _ => Tm) (fun b0 b1 b2 b3 b4 b5 b6 b7 b8 b9 b10 b11 b12 b13 b14 b15 => ⟨a0, a1, a2, a3, a4, ⟨b0, b1, b2, b3, v, b5, b6, b7, b8, b9, b10, b11, b12, b13, b14, b15⟩, a6, a7, a8, a9, a10, a11, a12, a13, a14, a15⟩) a5) T
def s85 : Set1 := fun v T => @S.rec (S AV) (fun _ => Tm) (fun a0 a1 a2 a3 a4 a5 a6 a7 a8 a9 a10 a11 a12 a13 a14 a15 => @S.rec AV (fun _ => Tm) (fun b0 b1 b2 b3 b4 b5 b6 b7 b8 b9 b10 b11 b12 b13 b14 b15 => ⟨a0, a1, a2, a3, a4, ⟨b0, b1, b2, b3, b4, v, b6, b7, b8, b9, b10, b11, b12, b13, b14, b15⟩, a6, a7, a8, a9, a10, a11, a12, a13, a14, a15⟩) a5) T
def s86 : Set1 := fun v T => @S.rec (S AV) (fun _ => Tm) (fun a0 a1 a2 a3 a4 a5 a6 a7 a8 a9 a10 a11 a12 a13 a14 a15 => @S.rec AV (fun _ => Tm) (fun b0 b1 b2 b3 b4 b5 b6 b7 b8 b9 b10 b11 b12 b13 b14 b15 => ⟨a0, a1, a2, a3, a4, ⟨b0, b1, b2, b3, b4, b5, v, b7, b8, b9, b10, b11, b12, b13, b14, b15⟩, a6, a7, a8, a9, a10, a11, a12, a13, a14, a15⟩) a5) T
def s87 : Set1 := fun v T => @S.rec (S AV) (fun _ => Tm) (fun a0 a1 a2 a3 a4 a5 a6 a7 a8 a9 a10 a11 a12 a13 a14 a15 => @S.rec AV (fun _ => Tm) (fun b0 b1 b2 b3 b4 b5 b6 b7 b8 b9 b10 b11 b12 b13 b14 b15 => ⟨a0, a1, a2, a3, a4, ⟨b0, b1, b2, b3, b4, b5, b6, v, b8, b9, b10, b11, b12, b13, b14, b15⟩, a6, a7, a8, a9, a10, a11, a12, a13, a14, a15⟩) a5) T
def s88 : Set1 := fun v T => @S.rec (S AV) (fun _ => Tm) (fun a0 a1 a2 a3 a4 a5 a6 a7 a8 a9 a10 a11 a12 a13 a14 a15 => @S.rec AV (fun _ => Tm) (fun b0 b1 b2 b3 b4 b5 b6 b7 b8 b9 b10 b11 b12 b13 b14 b15 => ⟨a0, a1, a2, a3, a4, ⟨b0, b1, b2, b3, b4, b5, b6, b7, v, b9, b10, b11, b12, b13, b14, b15⟩, a6, a7, a8, a9, a10, a11, a12, a13, a14, a15⟩) a5) T
def s89 : Set1 := fun v T => @S.rec (S AV) (fun _ => Tm) (fun a0 a1 a2 a3 a4 a5 a6 a7 a8 a9 a10 a11 a12 a13 a14 a15 => @S.rec AV (fun _ => Tm) (fun b0 b1 b2 b3 b4 b5 b6 b7 b8 b9 b10 b11 b12 b13 b14 b15 => ⟨a0, a1, a2, a3, a4, ⟨b0, b1, b2, b3, b4, b5, b6, b7, b8, v, b10, b11, b12, b13, b14, b15⟩, a6, a7, a8, a9, a10, a11, a12, a13, a14, a15⟩) a5) T
def s90 : Set1 := fun v T => @S.rec (S AV) (fun _ => Tm) (fun a0 a1 a2 a3 a4 a5 a6 a7 a8 a9 a10 a11 a12 a13 a14 a15 => @S.rec AV (fun _ => Tm) (fun b0 b1 b2 b3 b4 b5 b6 b7 b8 b9 b10 b11 b12 b13 b14 b15 => ⟨a0, a1, a2, a3, a4, ⟨b0, b1, b2, b3, b4, b5, b6, b7, b8, b9, v, b11, b12, b13, b14, b15⟩, a6, a7, a8, a9, a10, a11, a12, a13, a14, a15⟩) a5) T
def s91 : Set1 := fun v T => @S.rec (S AV) (fun _ => Tm) (fun a0 a1 a2 a3 a4 a5 a6 a7 a8 a9 a10 a11 a12 a13 a14 a15 => @S.rec AV (fun _ => Tm) (fun b0 b1 b2 b3 b4 b5 b6 b7 b8 b9 b10 b11 b12 b13 b14 b15 => ⟨a0, a1, a2, a3, a4, ⟨b0, b1, b2, b3, b4, b5, b6, b7, b8, b9, b10, v, b12, b13, b14, b15⟩, a6, a7, a8, a9, a10, a11, a12, a13, a14, a15⟩) a5) T
def s92 : Set1 := fun v T => @S.rec (S AV) (fun _ => Tm) (fun a0 a1 a2 a3 a4 a5 a6 a7 a8 a9 a10 a11 a12 a13 a14 a15 => @S.rec AV (fun _ => Tm) (fun b0 b1 b2 b3 b4 b5 b6 b7 b8 b9 b10 b11 b12 b13 b14 b15 => ⟨a0, a1, a2, a3, a4, ⟨b0, b1, b2, b3, b4, b5, b6, b7, b8, b9, b10, b11, v, b13, b14, b15⟩, a6, a7, a8, a9, a10, a11, a12, a13, a14, a15⟩) a5) T
def s93 : Set1 := fun v T => @S.rec (S AV) (fun _ => Tm) (fun a0 a1 a2 a3 a4 a5 a6 a7 a8 a9 a10 a11 a12 a13 a14 a15 => @S.rec AV (fun _ => Tm) (fun b0 b1 b2 b3 b4 b5 b6 b7 b8 b9 b10 b11 b12 b13 b14 b15 => ⟨a0, a1, a2, a3, a4, ⟨b0, b1, b2, b3, b4, b5, b6, b7, b8, b9, b10, b11, b12, v, b14, b15⟩, a6, a7, a8, a9, a10, a11, a12, a13, a14, a15⟩) a5) T
def s94 : Set1 := fun v T => @S.rec (S AV) (fun _ => Tm) (fun a0 a1 a2 a3 a4 a5 a6 a7 a8 a9 a10 a11 a12 a13 a14 a15 => @S.rec AV (fun _ => Tm) (fun b0 b1 b2 b3 b4 b5 b6 b7 b8 b9 b10 b11 b12 b13 b14 b15 => ⟨a0, a1, a2, a3, a4, ⟨b0, b1, b2, b3, b4, b5, b6, b7, b8, b9, b10, b11, b12, b13, v, b15⟩, a6, a7, a8, a9, a10, a11, a12, a13, a14, a15⟩) a5) T
def s95 : Set1 := fun v T => @S.rec (S AV) (fun _ => Tm) (fun a0 a1 a2 a3 a4 a5 a6 a7 a8 a9 a10 a11 a12 a13 a14 a15 => @S.rec AV (fun _ => Tm) (fun b0 b1 b2 b3 b4 b5 b6 b7 b8 b9 b10 b11 b12 b13 b14 b15 => ⟨a0, a1, a2, a3, a4, ⟨b0, b1, b2, b3, b4, b5, b6, b7, b8, b9, b10, b11, b12, b13, b14, v⟩, a6, a7, a8, a9, a10, a11, a12, a13, a14, a15⟩) a5) T
def s96 : Set1 := fun v T => @S.rec (S AV) (fun _ => Tm) (fun a0 a1 a2 a3 a4 a5 a6 a7 a8 a9 a10 a11 a12 a13 a14 a15 => @S.rec AV (fun _ => Tm) (fun b0 b1 b2 b3 b4 b5 b6 b7 b8 b9 b10 b11 b12 b13 b14 b15 => ⟨a0, a1, a2, a3, a4, a5, ⟨v, b1, b2, b3, b4, b5, b6, b7, b8, b9, b10, b11, b12, b13, b14, b15⟩, a7, a8, a9, a10, a11, a12, a13, a14, a15⟩) a6) T
def s97 : Set1 := fun v T => @S.rec (S AV) (fun _ => Tm) (fun a0 a1 a2 a3 a4 a5 a6 a7 a8 a9 a10 a11 a12 a13 a14 a15 => @S.rec AV (fun _ => Tm) (fun b0 b1 b2 b3 b4 b5 b6 b7 b8 b9 b10 b11 b12 b13 b14 b15 => ⟨a0, a1, a2, a3, a4, a5, ⟨b0, v, b2, b3, b4, b5, b6, b7, b8, b9, b10, b11, b12, b13, b14, b15⟩, a7, a8, a9, a10, a11, a12, a13, a14, a15⟩) a6) T
def s98 : Set1 := fun v T => @S.rec (S AV) (fun _ => Tm) (fun a0 a1 a2 a3 a4 a5 a6 a7 a8 a9 a10 a11 a12 a13 a14 a15 => @S.rec AV (fun _ => Tm) (fun b0 b1 b2 b3 b4 b5 b6 b7 b8 b9 b10 b11 b12 b13 b14 b15 => ⟨a0, a1, a2, a3, a4, a5, ⟨b0, b1, v, b3, b4, b5, b6, b7, b8, b9, b10, b11, b12, b13, b14, b15⟩, a7, a8, a9, a10, a11, a12, a13, a14, a15⟩) a6) T
def s99 : Set1 := fun v T => @S.rec (S AV) (fun _ => Tm) (fun a0 a1 a2 a3 a4 a5 a6 a7 a8 a9 a10 a11 a12 a13 a14 a15 => @S.rec AV (fun _ => Tm) (fun b0 b1 b2 b3 b4 b5 b6 b7 b8 b9 b10 b11 b12 b13 b14 b15 => ⟨a0, a1, a2, a3, a4, a5, ⟨b0, b1, b2, v, b4, b5, b6, b7, b8, b9, b10, b11, b12, b13, b14, b15⟩, a7, a8, a9, a10, a11, a12, a13, a14, a15⟩) a6) T
def s100 : Set1 := fun v T => @S.rec (S AV) (fun _ => Tm) (fun a0 a1 a2 a3 a4 a5 a6 a7 a8 a9 a10 a11 a12 a13 a14 a15 => @S.rec AV (fun _ => Tm) (fun b0 b1 b2 b3 b4 b5 b6 b7 b8 b9 b10 b11 b12 b13 b14 b15 => ⟨a0, a1, a2, a3, a4, a5, ⟨b0, b1, b2, b3, v, b5, b6, b7, b8, b9, b10, b11, b12, b13, b14, b15⟩, a7, a8, a9, a10, a11, a12, a13, a14, a15⟩) a6) T
def s101 : Set1 := fun v T => @S.rec (S AV) (fun _ => Tm) (fun a0 a1 a2 a3 a4 a5 a6 a7 a8 a9 a10 a11 a12 a13 a14 a15 => @S.rec AV (fun _ => Tm) (fun b0 b1 b2 b3 b4 b5 b6 b7 b8 b9 b10 b11 b12 b13 b14 b15 => ⟨a0, a1, a2, a3, a4, a5, ⟨b0, b1, b2, b3, b4, v, b6, b7, b8, b9, b10, b11, b12, b13, b14, b15⟩, a7, a8, a9, a10, a11, a12, a13, a14, a15⟩) a6) T
def s102 : Set1 := fun v T => @S.rec (S AV) (fun _ => Tm) (fun a0 a1 a2 a3 a4 a5 a6 a7 a8 a9 a10 a11 a12 a13 a14 a15 => @S.rec AV (fun _ => Tm) (fun b0 b1 b2 b3 b4 b5 b6 b7 b8 b9 b10 b11 b12 b13 b14 b15 => ⟨a0, a1, a2, a3, a4, a5, ⟨b0, b1, b2, b3, b4, b5, v, b7, b8, b9, b10, b11, b12, b13, b14, b15⟩, a7, a8, a9, a10, a11, a12, a13, a14, a15⟩) a6) T
def s103 : Set1 := fun v T => @S.rec (S AV) (fun _ => Tm) (fun a0 a1 a2 a3 a4 a5 a6 a7 a8 a9 a10 a11 a12 a13 a14 a15 => @S.rec AV (fun _ => Tm) (fun b0 b1 b2 b3 b4 b5 b6 b7 b8 b9 b10 b11 b12 b13 b14 b15 => ⟨a0, a1, a2, a3, a4, a5, ⟨b0, b1, b2, b3, b4, b5, b6, v, b8, b9, b10, b11, b12, b13, b14, b15⟩, a7, a8, a9, a10, a11, a12, a13, a14, a15⟩) a6) T
def s104 : Set1 := fun v T => @S.rec (S AV) (fun _ => Tm) (fun a0 a1 a2 a3 a4 a5 a6 a7 a8 a9 a10 a11 a12 a13 a14 a15 => @S.rec AV (fun _ => Tm) (fun b0 b1 b2 b3 b4 b5 b6 b7 b8 b9 b10 b11 b12 b13 b14 b15 => ⟨a0, a1, a2, a3, a4, a5, ⟨b0, b1, b2, b3, b4, b5, b6, b7, v, b9, b10, b11, b12, b13, b14, b15⟩, a7, a8, a9, a10, a11, a12, a13, a14, a15⟩) a6) T
def s105 : Set1 := fun v T => @S.rec (S AV) (fun _ => Tm) (fun a0 a1 a2 a3 a4 a5 a6 a7 a8 a9 a10 a11 a12 a13 a14 a15 => @S.rec AV (fun _ => Tm) (fun b0 b1 b2 b3 b4 b5 b6 b7 b8 b9 b10 b11 b12 b13 b14 b15 => ⟨a0, a1, a2, a3, a4, a5, ⟨b0, b1, b2, b3, b4, b5, b6, b7, b8, v, b10, b11, b12, b13, b14, b15⟩, a7, a8, a9, a10, a11, a12, a13, a14, a15⟩) a6) T
def s106 : Set1 := fun v T => @S.rec (S AV) (fun _ => Tm) (fun a0 a1 a2 a3 a4 a5 a6 a7 a8 a9 a10 a11 a12 a13 a14 a15 => @S.rec AV (fun _ => Tm) (fun b0 b1 b2 b3 b4 b5 b6 b7 b8 b9 b10 b11 b12 b13 b14 b15 => ⟨a0, a1, a2, a3, a4, a5, ⟨b0, b1, b2, b3, b4, b5, b6, b7, b8, b9, v, b11, b12, b13, b14, b15⟩, a7, a8, a9, a10, a11, a12, a13, a14, a15⟩) a6) T
def s107 : Set1 := fun v T => @S.rec (S AV) (fun _ => Tm) (fun a0 a1 a2 a3 a4 a5 a6 a7 a8 a9 a10 a11 a12 a13 a14 a15 => @S.rec AV (fun _ => Tm) (fun b0 b1 b2 b3 b4 b5 b6 b7 b8 b9 b10 b11 b12 b13 b14 b15 => ⟨a0, a1, a2, a3, a4, a5, ⟨b0, b1, b2, b3, b4, b5, b6, b7, b8, b9, b10, v, b12, b13, b14, b15⟩, a7, a8, a9, a10, a11, a12, a13, a14, a15⟩) a6) T
def s108 : Set1 := fun v T => @S.rec (S AV) (fun _ => Tm) (fun a0 a1 a2 a3 a4 a5 a6 a7 a8 a9 a10 a11 a12 a13 a14 a15 => @S.rec AV (fun _ => Tm) (fun b0 b1 b2 b3 b4 b5 b6 b7 b8 b9 b10 b11 b12 b13 b14 b15 => ⟨a0, a1, a2, a3, a4, a5, ⟨b0, b1, b2, b3, b4, b5, b6, b7, b8, b9, b10, b11, v, b13, b14, b15⟩, a7, a8, a9, a10, a11, a12, a13, a14, a15⟩) a6) T
def s109 : Set1 := fun v T => @S.rec (S AV) (fun _ => Tm) (fun a0 a1 a2 a3 a4 a5 a6 a7 a8 a9 a10 a11 a12 a13 a14 a15 => @S.rec AV (fun _ => Tm) (fun b0 b1 b2 b3 b4 b5 b6 b7 b8 b9 b10 b11 b12 b13 b14 b15 => ⟨a0, a1, a2, a3, a4, a5, ⟨b0, b1, b2, b3, b4, b5, b6, b7, b8, b9, b10, b11, b12, v, b14, b15⟩, a7, a8, a9, a10, a11, a12, a13, a14, a15⟩) a6) T
def s110 : Set1 := fun v T => @S.rec (S AV) (fun _ => Tm) (fun a0 a1 a2 a3 a4 a5 a6 a7 a8 a9 a10 a11 a12 a13 a14 a15 => @S.rec AV (fun _ => Tm) (fun b0 b1 b2 b3 b4 b5 b6 b7 b8 b9 b10 b11 b12 b13 b14 b15 => ⟨a0, a1, a2, a3, a4, a5, ⟨b0, b1, b2, b3, b4, b5, b6, b7, b8, b9, b10, b11, b12, b13, v, b15⟩, a7, a8, a9, a10, a11, a12, a13, a14, a15⟩) a6) T
def s111 : Set1 := fun v T => @S.rec (S AV) (fun _ => Tm) (fun a0 a1 a2 a3 a4 a5 a6 a7 a8 a9 a10 a11 a12 a13 a14 a15 => @S.rec AV (fun _ => Tm) (fun b0 b1 b2 b3 b4 b5 b6 b7 b8 b9 b10 b11 b12 b13 b14 b15 => ⟨a0, a1, a2, a3, a4, a5, ⟨b0, b1, b2, b3, b4, b5, b6, b7, b8, b9, b10, b11, b12, b13, b14, v⟩, a7, a8, a9, a10, a11, a12, a13, a14, a15⟩) a6) T
def s112 : Set1 := fun v T => @S.rec (S AV) (fun _ => Tm) (fun a0 a1 a2 a3 a4 a5 a6 a7 a8 a9 a10 a11 a12 a13 a14 a15 => @S.rec AV (fun _ => Tm) (fun b0 b1 b2 b3 b4 b5 b6 b7 b8 b9 b10 b11 b12 b13 b14 b15 => ⟨a0, a1, a2, a3, a4, a5, a6, ⟨v, b1, b2, b3, b4, b5, b6, b7, b8, b9, b10, b11, b12, b13, b14, b15⟩, a8, a9, a10, a11, a12, a13, a14, a15⟩) a7) T
def s113 : Set1 := fun v T => @S.rec (S AV) (fun _ => Tm) (fun a0 a1 a2 a3 a4 a5 a6 a7 a8 a9 a10 a11 a12 a13 a14 a15 => @S.rec AV (fun _ => Tm) (fun b0 b1 b2 b3 b4 b5 b6 b7 b8 b9 b10 b11 b12 b13 b14 b15 => ⟨a0, a1, a2, a3, a4, a5, a6, ⟨b0, v, b2, b3, b4, b5, b6, b7, b8, b9, b10, b11, b12, b13, b14, b15⟩, a8, a9, a10, a11, a12, a13, a14, a15⟩) a7) T
def s114 : Set1 := fun v T => @S.rec (S AV) (fun _ => Tm) (fun a0 a1 a2 a3 a4 a5 a6 a7 a8 a9 a10 a11 a12 a13 a14 a15 => @S.rec AV (fun _ => Tm) (fun b0 b1 b2 b3 b4 b5 b6 b7 b8 b9 b10 b11 b12 b13 b14 b15 => ⟨a0, a1, a2, a3, a4, a5, a6, ⟨b0, b1, v, b3, b4, b5, b6, b7, b8, b9, b10, b11, b12, b13, b14, b15⟩, a8, a9, a10, a11, a12, a13, a14, a15⟩) a7) T
def s115 : Set1 := fun v T => @S.rec (S AV) (fun _ => Tm) (fun a0 a1 a2 a3 a4 a5 a6 a7 a8 a9 a10 a11 a12 a13 a14 a15 => @S.rec AV (fun _ => Tm) (fun b0 b1 b2 b3 b4 b5 b6 b7 b8 b9 b10 b11 b12 b13 b14 b15 => ⟨a0, a1, a2, a3, a4, a5, a6, ⟨b0, b1, b2, v, b4, b5, b6, b7, b8, b9, b10, b11, b12, b13, b14, b15⟩, a8, a9, a10, a11, a12, a13, a14, a15⟩) a7) T
def s116 : Set1 := fun v T => @S.rec (S AV) (fun _ => Tm) (fun a0 a1 a2 a3 a4 a5 a6 a7 a8 a9 a10 a11 a12 a13 a14 a15 => @S.rec AV (fun _ => Tm) (fun b0 b1 b2 b3 b4 b5 b6 b7 b8 b9 b10 b11 b12 b13 b14 b15 => ⟨a0, a1, a2, a3, a4, a5, a6, ⟨b0, b1, b2, b3, v, b5, b6, b7, b8, b9, b10, b11, b12, b13, b14, b15⟩, a8, a9, a10, a11, a12, a13, a14, a15⟩) a7) T
def s117 : Set1 := fun v T => @S.rec (S AV) (fun _ => Tm) (fun a0 a1 a2 a3 a4 a5 a6 a7 a8 a9 a10 a11 a12 a13 a14 a15 => @S.rec AV (fun _ => Tm) (fun b0 b1 b2 b3 b4 b5 b6 b7 b8 b9 b10 b11 b12 b13 b14 b15 => ⟨a0, a1, a2, a3, a4, a5, a6, ⟨b0, b1, b2, b3, b4, v, b6, b7, b8, b9, b10, b11, b12, b13, b14, b15⟩, a8, a9, a10, a11, a12, a13, a14, a15⟩) a7) T
def s118 : Set1 := fun v T => @S.rec (S AV) (fun _ => Tm) (fun a0 a1 a2 a3 a4 a5 a6 a7 a8 a9 a10 a11 a12 a13 a14 a15 => @S.rec AV (fun _ => Tm) (fun b0 b1 b2 b3 b4 b5 b6 b7 b8 b9 b10 b11 b12 b13 b14 b15 => ⟨a0, a1, a2, a3, a4, a5, a6, ⟨b0, b1, b2, b3, b4, b5, v, b7, b8, b9, b10, b11, b12, b13, b14, b15⟩, a8, a9, a10, a11, a12, a13, a14, a15⟩) a7) T
def s119 : Set1 := fun v T => @S.rec (S AV) (fun _ => Tm) (fun a0 a1 a2 a3 a4 a5 a6 a7 a8 a9 a10 a11 a12 a13 a14 a15 => @S.rec AV (fun _ => Tm) (fun b0 b1 b2 b3 b4 b5 b6 b7 b8 b9 b10 b11 b12 b13 b14 b15 => ⟨a0, a1, a2, a3, a4, a5, a6, ⟨b0, b1, b2, b3, b4, b5, b6, v, b8, b9, b10, b11, b12, b13, b14, b15⟩, a8, a9, a10, a11, a12, a13, a14, a15⟩) a7) T
def s120 : Set1 := fun v T => @S.rec (S AV) (fun _ => Tm) (fun a0 a1 a2 a3 a4 a5 a6 a7 a8 a9 a10 a11 a12 a13 a14 a15 => @S.rec AV (fun _ => Tm) (fun b0 b1 b2 b3 b4 b5 b6 b7 b8 b9 b10 b11 b12 b13 b14 b15 => ⟨a0, a1, a2, a3, a4, a5, a6, ⟨b0, b1, b2, b3, b4, b5, b6, b7, v, b9, b10, b11, b12, b13, b14, b15⟩, a8, a9, a10, a11, a12, a13, a14, a15⟩) a7) T
def s121 : Set1 := fun v T => @S.rec (S AV) (fun _ => Tm) (fun a0 a1 a2 a3 a4 a5 a6 a7 a8 a9 a10 a11 a12 a13 a14 a15 => @S.rec AV (fun _ => Tm) (fun b0 b1 b2 b3 b4 b5 b6 b7 b8 b9 b10 b11 b12 b13 b14 b15 => ⟨a0, a1, a2, a3, a4, a5, a6, ⟨b0, b1, b2, b3, b4, b5, b6, b7, b8, v, b10, b11, b12, b13, b14, b15⟩, a8, a9, a10, a11, a12, a13, a14, a15⟩) a7) T
def s122 : Set1 := fun v T => @S.rec (S AV) (fun _ => Tm) (fun a0 a1 a2 a3 a4 a5 a6 a7 a8 a9 a10 a11 a12 a13 a14 a15 => @S.rec AV (fun _ => Tm) (fun b0 b1 b2 b3 b4 b5 b6 b7 b8 b9 b10 b11 b12 b13 b14 b15 => ⟨a0, a1, a2, a3, a4, a5, a6, ⟨b0, b1, b2, b3, b4, b5, b6, b7, b8, b9, v, b11, b12, b13, b14, b15⟩, a8, a9, a10, a11, a12, a13, a14, a15⟩) a7) T
def s123 : Set1 := fun v T => @S.rec (S AV) (fun _ => Tm) (fun a0 a1 a2 a3 a4 a5 a6 a7 a8 a9 a10 a11 a12 a13 a14 a15 => @S.rec AV (fun _ => Tm) (fun b0 b1 b2 b3 b4 b5 b6 b7 b8 b9 b10 b11 b12 b13 b14 b15 => ⟨a0, a1, a2, a3, a4, a5, a6, ⟨b0, b1, b2, b3, b4, b5, b6, b7, b8, b9, b10, v, b12, b13, b14, b15⟩, a8, a9, a10, a11, a12, a13, a14, a15⟩) a7) T
def s124 : Set1 := fun v T => @S.rec (S AV) (fun _ => Tm) (fun a0 a1 a2 a3 a4 a5 a6 a7 a8 a9 a10 a11 a12 a13 a14 a15 => @S.rec AV (fun _ => Tm) (fun b0 b1 b2 b3 b4 b5 b6 b7 b8 b9 b10 b11 b12 b13 b14 b15 => ⟨a0, a1, a2, a3, a4, a5, a6, ⟨b0, b1, b2, b3, b4, b5, b6, b7, b8, b9, b10, b11, v, b13, b14, b15⟩, a8, a9, a10, a11, a12, a13, a14, a15⟩) a7) T
def s125 : Set1 := fun v T => @S.rec (S AV) (fun _ => Tm) (fun a0 a1 a2 a3 a4 a5 a6 a7 a8 a9 a10 a11 a12 a13 a14 a15 => @S.rec AV (fun _ => Tm) (fun b0 b1 b2 b3 b4 b5 b6 b7 b8 b9 b10 b11 b12 b13 b14 b15 => ⟨a0, a1, a2, a3, a4, a5, a6, ⟨b0, b1, b2, b3, b4, b5, b6, b7, b8, b9, b10, b11, b12, v, b14, b15⟩, a8, a9, a10, a11, a12, a13, a14, a15⟩) a7) T
def s126 : Set1 := fun v T => @S.rec (S AV) (fun _ => Tm) (fun a0 a1 a2 a3 a4 a5 a6 a7 a8 a9 a10 a11 a12 a13 a14 a15 => @S.rec AV (fun _ => Tm) (fun b0 b1 b2 b3 b4 b5 b6 b7 b8 b9 b10 b11 b12 b13 b14 b15 => ⟨a0, a1, a2, a3, a4, a5, a6, ⟨b0, b1, b2, b3, b4, b5, b6, b7, b8, b9, b10, b11, b12, b13, v, b15⟩, a8, a9, a10, a11, a12, a13, a14, a15⟩) a7) T
def s127 : Set1 := fun v T => @S.rec (S AV) (fun _ => Tm) (fun a0 a1 a2 a3 a4 a5 a6 a7 a8 a9 a10 a11 a12 a13 a14 a15 => @S.rec AV (fun _ => Tm) (fun b0 b1 b2 b3 b4 b5 b6 b7 b8 b9 b10 b11 b12 b13 b14 b15 => ⟨a0, a1, a2, a3, a4, a5, a6, ⟨b0, b1, b2, b3, b4, b5, b6, b7, b8, b9, b10, b11, b12, b13, b14, v⟩, a8, a9, a10, a11, a12, a13, a14, a15⟩) a7) T
def s128 : Set1 := fun v T => @S.rec (S AV) (fun _ => Tm) (fun a0 a1 a2 a3 a4 a5 a6 a7 a8 a9 a10 a11 a12 a13 a14 a15 => @S.rec AV (fun _ => Tm) (fun b0 b1 b2 b3 b4 b5 b6 b7 b8 b9 b10 b11 b12 b13 b14 b15 => ⟨a0, a1, a2, a3, a4, a5, a6, a7, ⟨v, b1, b2, b3, b4, b5, b6, b7, b8, b9, b10, b11, b12, b13, b14, b15⟩, a9, a10, a11, a12, a13, a14, a15⟩) a8) T
def s129 : Set1 := fun v T => @S.rec (S AV) (fun _ => Tm) (fun a0 a1 a2 a3 a4 a5 a6 a7 a8 a9 a10 a11 a12 a13 a14 a15 => @S.rec AV (fun _ => Tm) (fun b0 b1 b2 b3 b4 b5 b6 b7 b8 b9 b10 b11 b12 b13 b14 b15 => ⟨a0, a1, a2, a3, a4, a5, a6, a7, ⟨b0, v, b2, b3, b4, b5, b6, b7, b8, b9, b10, b11, b12, b13, b14, b15⟩, a9, a10, a11, a12, a13, a14, a15⟩) a8) T
def s130 : Set1 := fun v T => @S.rec (S AV) (fun _ => Tm) (fun a0 a1 a2 a3 a4 a5 a6 a7 a8 a9 a10 a11 a12 a13 a14 a15 => @S.rec AV (fun _ => Tm) (fun b0 b1 b2 b3 b4 b5 b6 b7 b8 b9 b10 b11 b12 b13 b14 b15 => ⟨a0, a1, a2, a3, a4, a5, a6, a7, ⟨b0, b1, v, b3, b4, b5, b6, b7, b8, b9, b10, b11, b12, b13, b14, b15⟩, a9, a10, a11, a12, a13, a14, a15⟩) a8) T
def s131 : Set1 := fun v T => @S.rec (S AV) (fun _ => Tm) (fun a0 a1 a2 a3 a4 a5 a6 a7 a8 a9 a10 a11 a12 a13 a14 a15 => @S.rec AV (fun _ => Tm) (fun b0 b1 b2 b3 b4 b5 b6 b7 b8 b9 b10 b11 b12 b13 b14 b15 => ⟨a0, a1, a2, a3, a4, a5, a6, a7, ⟨b0, b1, b2, v, b4, b5, b6, b7, b8, b9, b10, b11, b12, b13, b14, b15⟩, a9, a10, a11, a12, a13, a14, a15⟩) a8) T
def s132 : Set1 := fun v T => @S.rec (S AV) (fun _ => Tm) (fun a0 a1 a2 a3 a4 a5 a6 a7 a8 a9 a10 a11 a12 a13 a14 a15 => @S.rec AV (fun _ => Tm) (fun b0 b1 b2 b3 b4 b5 b6 b7 b8 b9 b10 b11 b12 b13 b14 b15 => ⟨a0, a1, a2, a3, a4, a5, a6, a7, ⟨b0, b1, b2, b3, v, b5, b6, b7, b8, b9, b10, b11, b12, b13, b14, b15⟩, a9, a10, a11, a12, a13, a14, a15⟩) a8) T
def s133 : Set1 := fun v T => @S.rec (S AV) (fun _ => Tm) (fun a0 a1 a2 a3 a4 a5 a6 a7 a8 a9 a10 a11 a12 a13 a14 a15 => @S.rec AV (fun _ => Tm) (fun b0 b1 b2 b3 b4 b5 b6 b7 b8 b9 b10 b11 b12 b13 b14 b15 => ⟨a0, a1, a2, a3, a4, a5, a6, a7, ⟨b0, b1, b2, b3, b4, v, b6, b7, b8, b9, b10, b11, b12, b13, b14, b15⟩, a9, a10, a11, a12, a13, a14, a15⟩) a8) T
def s134 : Set1 := fun v T => @S.rec (S AV) (fun _ => Tm) (fun a0 a1 a2 a3 a4 a5 a6 a7 a8 a9 a10 a11 a12 a13 a14 a15 => @S.rec AV (fun _ => Tm) (fun b0 b1 b2 b3 b4 b5 b6 b7 b8 b9 b10 b11 b12 b13 b14 b15 => ⟨a0, a1, a2, a3, a4, a5, a6, a7, ⟨b0, b1, b2, b3, b4, b5, v, b7, b8, b9, b10, b11, b12, b13, b14, b15⟩, a9, a10, a11, a12, a13, a14, a15⟩) a8) T
def s135 : Set1 := fun v T => @S.rec (S AV) (fun _ => Tm) (fun a0 a1 a2 a3 a4 a5 a6 a7 a8 a9 a10 a11 a12 a13 a14 a15 => @S.rec AV (fun _ => Tm) (fun b0 b1 b2 b3 b4 b5 b6 b7 b8 b9 b10 b11 b12 b13 b14 b15 => ⟨a0, a1, a2, a3, a4, a5, a6, a7, ⟨b0, b1, b2, b3, b4, b5, b6, v, b8, b9, b10, b11, b12, b13, b14, b15⟩, a9, a10, a11, a12, a13, a14, a15⟩) a8) T
def s136 : Set1 := fun v T => @S.rec (S AV) (fun _ => Tm) (fun a0 a1 a2 a3 a4 a5 a6 a7 a8 a9 a10 a11 a12 a13 a14 a15 => @S.rec AV (fun _ => Tm) (fun b0 b1 b2 b3 b4 b5 b6 b7 b8 b9 b10 b11 b12 b13 b14 b15 => ⟨a0, a1, a2, a3, a4, a5, a6, a7, ⟨b0, b1, b2, b3, b4, b5, b6, b7, v, b9, b10, b11, b12, b13, b14, b15⟩, a9, a10, a11, a12, a13, a14, a15⟩) a8) T
def s137 : Set1 := fun v T => @S.rec (S AV) (fun _ => Tm) (fun a0 a1 a2 a3 a4 a5 a6 a7 a8 a9 a10 a11 a12 a13 a14 a15 => @S.rec AV (fun _ => Tm) (fun b0 b1 b2 b3 b4 b5 b6 b7 b8 b9 b10 b11 b12 b13 b14 b15 => ⟨a0, a1, a2, a3, a4, a5, a6, a7, ⟨b0, b1, b2, b3, b4, b5, b6, b7, b8, v, b10, b11, b12, b13, b14, b15⟩, a9, a10, a11, a12, a13, a14, a15⟩) a8) T
def s138 : Set1 := fun v T => @S.rec (S AV) (fun _ => Tm) (fun a0 a1 a2 a3 a4 a5 a6 a7 a8 a9 a10 a11 a12 a13 a14 a15 => @S.rec AV (fun _ => Tm) (fun b0 b1 b2 b3 b4 b5 b6 b7 b8 b9 b10 b11 b12 b13 b14 b15 => ⟨a0, a1, a2, a3, a4, a5, a6, a7, ⟨b0, b1, b2, b3, b4, b5, b6, b7, b8, b9, v, b11, b12, b13, b14, b15⟩, a9, a10, a11, a12, a13, a14, a15⟩) a8) T
def s139 : Set1 := fun v T => @S.rec (S AV) (fun _ => Tm) (fun a0 a1 a2 a3 a4 a5 a6 a7 a8 a9 a10 a11 a12 a13 a14 a15 => @S.rec AV (fun _ => Tm) (fun b0 b1 b2 b3 b4 b5 b6 b7 b8 b9 b10 b11 b12 b13 b14 b15 => ⟨a0, a1, a2, a3, a4, a5, a6, a7, ⟨b0, b1, b2, b3, b4, b5, b6, b7, b8, b9, b10, v, b12, b13, b14, b15⟩, a9, a10, a11, a12, a13, a14, a15⟩) a8) T
def s140 : Set1 := fun v T => @S.rec (S AV) (fun _ => Tm) (fun a0 a1 a2 a3 a4 a5 a6 a7 a8 a9 a10 a11 a12 a13 a14 a15 => @S.rec AV (fun _ => Tm) (fun b0 b1 b2 b3 b4 b5 b6 b7 b8 b9 b10 b11 b12 b13 b14 b15 => ⟨a0, a1, a2, a3, a4, a5, a6, a7, ⟨b0, b1, b2, b3, b4, b5, b6, b7, b8, b9, b10, b11, v, b13, b14, b15⟩, a9, a10, a11, a12, a13, a14, a15⟩) a8) T
def s141 : Set1 := fun v T => @S.rec (S AV) (fun _ => Tm) (fun a0 a1 a2 a3 a4 a5 a6 a7 a8 a9 a10 a11 a12 a13 a14 a15 => @S.rec AV (fun _ => Tm) (fun b0 b1 b2 b3 b4 b5 b6 b7 b8 b9 b10 b11 b12 b13 b14 b15 => ⟨a0, a1, a2, a3, a4, a5, a6, a7, ⟨b0, b1, b2, b3, b4, b5, b6, b7, b8, b9, b10, b11, b12, v, b14, b15⟩, a9, a10, a11, a12, a13, a14, a15⟩) a8) T
def s142 : Set1 := fun v T => @S.rec (S AV) (fun _ => Tm) (fun a0 a1 a2 a3 a4 a5 a6 a7 a8 a9 a10 a11 a12 a13 a14 a15 => @S.rec AV (fun _ => Tm) (fun b0 b1 b2 b3 b4 b5 b6 b7 b8 b9 b10 b11 b12 b13 b14 b15 => ⟨a0, a1, a2, a3, a4, a5, a6, a7, ⟨b0, b1, b2, b3, b4, b5, b6, b7, b8, b9, b10, b11, b12, b13, v, b15⟩, a9, a10, a11, a12, a13, a14, a15⟩) a8) T
def s143 : Set1 := fun v T => @S.rec (S AV) (fun _ => Tm) (fun a0 a1 a2 a3 a4 a5 a6 a7 a8 a9 a10 a11 a12 a13 a14 a15 => @S.rec AV (fun _ => Tm) (fun b0 b1 b2 b3 b4 b5 b6 b7 b8 b9 b10 b11 b12 b13 b14 b15 => ⟨a0, a1, a2, a3, a4, a5, a6, a7, ⟨b0, b1, b2, b3, b4, b5, b6, b7, b8, b9, b10, b11, b12, b13, b14, v⟩, a9, a10, a11, a12, a13, a14, a15⟩) a8) T
def s144 : Set1 := fun v T => @S.rec (S AV) (fun _ => Tm) (fun a0 a1 a2 a3 a4 a5 a6 a7 a8 a9 a10 a11 a12 a13 a14 a15 => @S.rec AV (fun _ => Tm) (fun b0 b1 b2 b3 b4 b5 b6 b7 b8 b9 b10 b11 b12 b13 b14 b15 => ⟨a0, a1, a2, a3, a4, a5, a6, a7, a8, ⟨v, b1, b2, b3, b4, b5, b6, b7, b8, b9, b10, b11, b12, b13, b14, b15⟩, a10, a11, a12, a13, a14, a15⟩) a9) T
def s145 : Set1 := fun v T => @S.rec (S AV) (fun _ => Tm) (fun a0 a1 a2 a3 a4 a5 a6 a7 a8 a9 a10 a11 a12 a13 a14 a15 => @S.rec AV (fun _ => Tm) (fun b0 b1 b2 b3 b4 b5 b6 b7 b8 b9 b10 b11 b12 b13 b14 b15 => ⟨a0, a1, a2, a3, a4, a5, a6, a7, a8, ⟨b0, v, b2, b3, b4, b5, b6, b7, b8, b9, b10, b11, b12, b13, b14, b15⟩, a10, a11, a12, a13, a14, a15⟩) a9) T
def s146 : Set1 := fun v T => @S.rec (S AV) (fun _ => Tm) (fun a0 a1 a2 a3 a4 a5 a6 a7 a8 a9 a10 a11 a12 a13 a14 a15 => @S.rec AV (fun _ => Tm) (fun b0 b1 b2 b3 b4 b5 b6 b7 b8 b9 b10 b11 b12 b13 b14 b15 => ⟨a0, a1, a2, a3, a4, a5, a6, a7, a8, ⟨b0, b1, v, b3, b4, b5, b6, b7, b8, b9, b10, b11, b12, b13, b14, b15⟩, a10, a11, a12, a13, a14, a15⟩) a9) T
def s147 : Set1 := fun v T => @S.rec (S AV) (fun _ => Tm) (fun a0 a1 a2 a3 a4 a5 a6 a7 a8 a9 a10 a11 a12 a13 a14 a15 => @S.rec AV (fun _ => Tm) (fun b0 b1 b2 b3 b4 b5 b6 b7 b8 b9 b10 b11 b12 b13 b14 b15 => ⟨a0, a1, a2, a3, a4, a5, a6, a7, a8, ⟨b0, b1, b2, v, b4, b5, b6, b7, b8, b9, b10, b11, b12, b13, b14, b15⟩, a10, a11, a12, a13, a14, a15⟩) a9) T
def s148 : Set1 := fun v T => @S.rec (S AV) (fun _ => Tm) (fun a0 a1 a2 a3 a4 a5 a6 a7 a8 a9 a10 a11 a12 a13 a14 a15 => @S.rec AV (fun _ => Tm) (fun b0 b1 b2 b3 b4 b5 b6 b7 b8 b9 b10 b11 b12 b13 b14 b15 => ⟨a0, a1, a2, a3, a4, a5, a6, a7, a8, ⟨b0, b1, b2, b3, v, b5, b6, b7, b8, b9, b10, b11, b12, b13, b14, b15⟩, a10, a11, a12, a13, a14, a15⟩) a9) T
def s149 : Set1 := fun v T => @S.rec (S AV) (fun _ => Tm) (fun a0 a1 a2 a3 a4 a5 a6 a7 a8 a9 a10 a11 a12 a13 a14 a15 => @S.rec AV (fun _ => Tm) (fun b0 b1 b2 b3 b4 b5 b6 b7 b8 b9 b10 b11 b12 b13 b14 b15 => ⟨a0, a1, a2, a3, a4, a5, a6, a7, a8, ⟨b0, b1, b2, b3, b4, v, b6, b7, b8, b9, b10, b11, b12, b13, b14, b15⟩, a10, a11, a12, a13, a14, a15⟩) a9) T
def s150 : Set1 := fun v T => @S.rec (S AV) (fun _ => Tm) (fun a0 a1 a2 a3 a4 a5 a6 a7 a8 a9 a10 a11 a12 a13 a14 a15 => @S.rec AV (fun _ => Tm) (fun b0 b1 b2 b3 b4 b5 b6 b7 b8 b9 b10 b11 b12 b13 b14 b15 => ⟨a0, a1, a2, a3, a4, a5, a6, a7, a8, ⟨b0, b1, b2, b3, b4, b5, v, b7, b8, b9, b10, b11, b12, b13, b14, b15⟩, a10, a11, a12, a13, a14, a15⟩) a9) T
def s151 : Set1 := fun v T => @S.rec (S AV) (fun _ => Tm) (fun a0 a1 a2 a3 a4 a5 a6 a7 a8 a9 a10 a11 a12 a13 a14 a15 => @S.rec AV (fun _ => Tm) (fun b0 b1 b2 b3 b4 b5 b6 b7 b8 b9 b10 b11 b12 b13 b14 b15 => ⟨a0, a1, a2, a3, a4, a5, a6, a7, a8, ⟨b0, b1, b2, b3, b4, b5, b6, v, b8, b9, b10, b11, b12, b13, b14, b15⟩, a10, a11, a12, a13, a14, a15⟩) a9) T
def s152 : Set1 := fun v T => @S.rec (S AV) (fun _ => Tm) (fun a0 a1 a2 a3 a4 a5 a6 a7 a8 a9 a10 a11 a12 a13 a14 a15 => @S.rec AV (fun _ => Tm) (fun b0 b1 b2 b3 b4 b5 b6 b7 b8 b9 b10 b11 b12 b13 b14 b15 => ⟨a0, a1, a2, a3, a4, a5, a6, a7, a8, ⟨b0, b1, b2, b3, b4, b5, b6, b7, v, b9, b10, b11, b12, b13, b14, b15⟩, a10, a11, a12, a13, a14, a15⟩) a9) T
def s153 : Set1 := fun v T => @S.rec (S AV) (fun _ => Tm) (fun a0 a1 a2 a3 a4 a5 a6 a7 a8 a9 a10 a11 a12 a13 a14 a15 => @S.rec AV (fun _ => Tm) (fun b0 b1 b2 b3 b4 b5 b6 b7 b8 b9 b10 b11 b12 b13 b14 b15 => ⟨a0, a1, a2, a3, a4, a5, a6, a7, a8, ⟨b0, b1, b2, b3, b4, b5, b6, b7, b8, v, b10, b11, b12, b13, b14, b15⟩, a10, a11, a12, a13, a14, a15⟩) a9) T
def s154 : Set1 := fun v T => @S.rec (S AV) (fun _ => Tm) (fun a0 a1 a2 a3 a4 a5 a6 a7 a8 a9 a10 a11 a12 a13 a14 a15 => @S.rec AV (fun _ => Tm) (fun b0 b1 b2 b3 b4 b5 b6 b7 b8 b9 b10 b11 b12 b13 b14 b15 => ⟨a0, a1, a2, a3, a4, a5, a6, a7, a8, ⟨b0, b1, b2, b3, b4, b5, b6, b7, b8, b9, v, b11, b12, b13, b14, b15⟩, a10, a11, a12, a13, a14, a15⟩) a9) T
def s155 : Set1 := fun v T => @S.rec (S AV) (fun _ => Tm) (fun a0 a1 a2 a3 a4 a5 a6 a7 a8 a9 a10 a11 a12 a13 a14 a15 => @S.rec AV (fun _ => Tm) (fun b0 b1 b2 b3 b4 b5 b6 b7 b8 b9 b10 b11 b12 b13 b14 b15 => ⟨a0, a1, a2, a3, a4, a5, a6, a7, a8, ⟨b0, b1, b2, b3, b4, b5, b6, b7, b8, b9, b10, v, b12, b13, b14, b15⟩, a10, a11, a12, a13, a14, a15⟩) a9) T
def s156 : Set1 := fun v T => @S.rec (S AV) (fun _ => Tm) (fun a0 a1 a2 a3 a4 a5 a6 a7 a8 a9 a10 a11 a12 a13 a14 a15 => @S.rec AV (fun _ => Tm) (fun b0 b1 b2 b3 b4 b5 b6 b7 b8 b9 b10 b11 b12 b13 b14 b15 => ⟨a0, a1, a2, a3, a4, a5, a6, a7, a8, ⟨b0, b1, b2, b3, b4, b5, b6, b7, b8, b9, b10, b11, v, b13, b14, b15⟩, a10, a11, a12, a13, a14, a15⟩) a9) T
def s157 : Set1 := fun v T => @S.rec (S AV) (fun _ => Tm) (fun a0 a1 a2 a3 a4 a5 a6 a7 a8 a9 a10 a11 a12 a13 a14 a15 => @S.rec AV (fun _ => Tm) (fun b0 b1 b2 b3 b4 b5 b6 b7 b8 b9 b10 b11 b12 b13 b14 b15 => ⟨a0, a1, a2, a3, a4, a5, a6, a7, a8, ⟨b0, b1, b2, b3, b4, b5, b6, b7, b8, b9, b10, b11, b12, v, b14, b15⟩, a10, a11, a12, a13, a14, a15⟩) a9) T
def s158 : Set1 := fun v T => @S.rec (S AV) (fun _ => Tm) (fun a0 a1 a2 a3 a4 a5 a6 a7 a8 a9 a10 a11 a12 a13 a14 a15 => @S.rec AV (fun _ => Tm) (fun b0 b1 b2 b3 b4 b5 b6 b7 b8 b9 b10 b11 b12 b13 b14 b15 => ⟨a0, a1, a2, a3, a4, a5, a6, a7, a8, ⟨b0, b1, b2, b3, b4, b5, b6, b7, b8, b9, b10, b11, b12, b13, v, b15⟩, a10, a11, a12, a13, a14, a15⟩) a9) T
def s159 : Set1 := fun v T => @S.rec (S AV) (fun _ => Tm) (fun a0 a1 a2 a3 a4 a5 a6 a7 a8 a9 a10 a11 a12 a13 a14 a15 => @S.rec AV (fun _ => Tm) (fun b0 b1 b2 b3 b4 b5 b6 b7 b8 b9 b10 b11 b12 b13 b14 b15 => ⟨a0, a1, a2, a3, a4, a5, a6, a7, a8, ⟨b0, b1, b2, b3, b4, b5, b6, b7, b8, b9, b10, b11, b12, b13, b14, v⟩, a10, a11, a12, a13, a14, a15⟩) a9) T
def s160 : Set1 := fun v T => @S.rec (S AV) (fun _ => Tm) (fun a0 a1 a2 a3 a4 a5 a6 a7 a8 a9 a10 a11 a12 a13 a14 a15 => @S.rec AV (fun _ => Tm) (fun b0 b1 b2 b3 b4 b5 b6 b7 b8 b9 b10 b11 b12 b13 b14 b15 => ⟨a0, a1, a2, a3, a4, a5, a6, a7, a8, a9, ⟨v, b1, b2, b3, b4, b5, b6, b7, b8, b9, b10, b11, b12, b13, b14, b15⟩, a11, a12, a13, a14, a15⟩) a10) T
def s161 : Set1 := fun v T => @S.rec (S AV) (fun _ => Tm) (fun a0 a1 a2 a3 a4 a5 a6 a7 a8 a9 a10 a11 a12 a13 a14 a15 => @S.rec AV (fun _ => Tm) (fun b0 b1 b2 b3 b4 b5 b6 b7 b8 b9 b10 b11 b12 b13 b14 b15 => ⟨a0, a1, a2, a3, a4, a5, a6, a7, a8, a9, ⟨b0, v, b2, b3, b4, b5, b6, b7, b8, b9, b10, b11, b12, b13, b14, b15⟩, a11, a12, a13, a14, a15⟩) a10) T
def s162 : Set1 := fun v T => @S.rec (S AV) (fun _ => Tm) (fun a0 a1 a2 a3 a4 a5 a6 a7 a8 a9 a10 a11 a12 a13 a14 a15 => @S.rec AV (fun _ => Tm) (fun b0 b1 b2 b3 b4 b5 b6 b7 b8 b9 b10 b11 b12 b13 b14 b15 => ⟨a0, a1, a2, a3, a4, a5, a6, a7, a8, a9, ⟨b0, b1, v, b3, b4, b5, b6, b7, b8, b9, b10, b11, b12, b13, b14, b15⟩, a11, a12, a13, a14, a15⟩) a10) T
def s163 : Set1 := fun v T => @S.rec (S AV) (fun _ => Tm) (fun a0 a1 a2 a3 a4 a5 a6 a7 a8 a9 a10 a11 a12 a13 a14 a15 => @S.rec AV (fun _ => Tm) (fun b0 b1 b2 b3 b4 b5 b6 b7 b8 b9 b10 b11 b12 b13 b14 b15 => ⟨a0, a1, a2, a3, a4, a5, a6, a7, a8, a9, ⟨b0, b1, b2, v, b4, b5, b6, b7, b8, b9, b10, b11, b12, b13, b14, b15⟩, a11, a12, a13, a14, a15⟩) a10) T
def s164 : Set1 := fun v T => @S.rec (S AV) (fun _ => Tm) (fun a0 a1 a2 a3 a4 a5 a6 a7 a8 a9 a10 a11 a12 a13 a14 a15 => @S.rec AV (fun _ => Tm) (fun b0 b1 b2 b3 b4 b5 b6 b7 b8 b9 b10 b11 b12 b13 b14 b15 => ⟨a0, a1, a2, a3, a4, a5, a6, a7, a8, a9, ⟨b0, b1, b2, b3, v, b5, b6, b7, b8, b9, b10, b11, b12, b13, b14, b15⟩, a11, a12, a13, a14, a15⟩) a10) T
def s165 : Set1 := fun v T => @S.rec (S AV) (fun _ => Tm) (fun a0 a1 a2 a3 a4 a5 a6 a7 a8 a9 a10 a11 a12 a13 a14 a15 => @S.rec AV (fun _ => Tm) (fun b0 b1 b2 b3 b4 b5 b6 b7 b8 b9 b10 b11 b12 b13 b14 b15 => ⟨a0, a1, a2, a3, a4, a5, a6, a7, a8, a9, ⟨b0, b1, b2, b3, b4, v, b6, b7, b8, b9, b10, b11, b12, b13, b14, b15⟩, a11, a12, a13, a14, a15⟩) a10) T
def s166 : Set1 := fun v T => @S.rec (S AV) (fun _ => Tm) (fun a0 a1 a2 a3 a4 a5 a6 a7 a8 a9 a10 a11 a12 a13 a14 a15 => @S.rec AV (fun _ => Tm) (fun b0 b1 b2 b3 b4 b5 b6 b7 b8 b9 b10 b11 b12 b13 b14 b15 => ⟨a0, a1, a2, a3, a4, a5, a6, a7, a8, a9, ⟨b0, b1, b2, b3, b4, b5, v, b7, b8, b9, b10, b11, b12, b13, b14, b15⟩, a11, a12, a13, a14, a15⟩) a10) T
def s167 : Set1 := fun v T => @S.rec (S AV) (fun _ => Tm) (fun a0 a1 a2 a3 a4 a5 a6 a7 a8 a9 a10 a11 a12 a13 a14 a15 => @S.rec AV (fun _ => Tm) (fun b0 b1 b2 b3 b4 b5 b6 b7 b8 b9 b10 b11 b12 b13 b14 b15 => ⟨a0, a1, a2, a3, a4, a5, a6, a7, a8, a9, ⟨b0, b1, b2, b3, b4, b5, b6, v, b8, b9, b10, b11, b12, b13, b14, b15⟩, a11, a12, a13, a14, a15⟩) a10) T
def s168 : Set1 := fun v T => @S.rec (S AV) (fun _ => Tm) (fun a0 a1 a2 a3 a4 a5 a6 a7 a8 a9 a10 a11 a12 a13 a14 a15 => @S.rec AV (fun _ => Tm) (fun b0 b1 b2 b3 b4 b5 b6 b7 b8 b9 b10 b11 b12 b13 b14 b15 => ⟨a0, a1, a2, a3, a4, a5, a6, a7, a8, a9, ⟨b0, b1, b2, b3, b4, b5, b6, b7, v, b9, b10, b11, b12, b13, b14, b15⟩, a11, a12, a13, a14, a15⟩) a10) T
def s169 : Set1 := fun v T => @S.rec (S AV) (fun _ => Tm) (fun a0 a1 a2 a3 a4 a5 a6 a7 a8 a9 a10 a11 a12 a13 a14 a15 => @S.rec AV (fun _ => Tm) (fun b0 b1 b2 b3 b4 b5 b6 b7 b8 b9 b10 b11 b12 b13 b14 b15 => ⟨a0, a1, a2, a3, a4, a5, a6, a7, a8, a9, ⟨b0, b1, b2, b3, b4, b5, b6, b7, b8, v, b10, b11, b12, b13, b14, b15⟩, a11, a12, a13, a14, a15⟩) a10) T
def s170 : Set1 := fun v T => @S.rec (S AV) (fun _ => Tm) (fun a0 a1 a2 a3 a4 a5 a6 a7 a8 a9 a10 a11 a12 a13 a14 a15 => @S.rec AV (fun _ => Tm) (fun b0 b1 b2 b3 b4 b5 b6 b7 b8 b9 b10 b11 b12 b13 b14 b15 => ⟨a0, a1, a2, a3, a4, a5, a6, a7, a8, a9, ⟨b0, b1, b2, b3, b4, b5, b6, b7, b8, b9, v, b11, b12, b13, b14, b15⟩, a11, a12, a13, a14, a15⟩) a10) T
def s171 : Set1 := fun v T => @S.rec (S AV) (fun _ => Tm) (fun a0 a1 a2 a3 a4 a5 a6 a7 a8 a9 a10 a11 a12 a13 a14 a15 => @S.rec AV (fun _ => Tm) (fun b0 b1 b2 b3 b4 b5 b6 b7 b8 b9 b10 b11 b12 b13 b14 b15 => ⟨a0, a1, a2, a3, a4, a5, a6, a7, a8, a9, ⟨b0, b1, b2, b3, b4, b5, b6, b7, b8, b9, b10, v, b12, b13, b14, b15⟩, a11, a12, a13, a14, a15⟩) a10) T
def s172 : Set1 := fun v T => @S.rec (S AV) (fun _ => Tm) (fun a0 a1 a2 a3 a4 a5 a6 a7 a8 a9 a10 a11 a12 a13 a14 a15 => @S.rec AV (fun _ => Tm) (fun b0 b1 b2 b3 b4 b5 b6 b7 b8 b9 b10 b11 b12 b13 b14 b15 => ⟨a0, a1, a2, a3, a4, a5, a6, a7, a8, a9, ⟨b0, b1, b2, b3, b4, b5, b6, b7, b8, b9, b10, b11, v, b13, b14, b15⟩, a11, a12, a13, a14, a15⟩) a10) T
def s173 : Set1 := fun v T => @S.rec (S AV) (fun _ => Tm) (fun a0 a1 a2 a3 a4 a5 a6 a7 a8 a9 a10 a11 a12 a13 a14 a15 => @S.rec AV (fun _ => Tm) (fun b0 b1 b2 b3 b4 b5 b6 b7 b8 b9 b10 b11 b12 b13 b14 b15 => ⟨a0, a1, a2, a3, a4, a5, a6, a7, a8, a9, ⟨b0, b1, b2, b3, b4, b5, b6, b7, b8, b9, b10, b11, b12, v, b14, b15⟩, a11, a12, a13, a14, a15⟩) a10) T
def s174 : Set1 := fun v T => @S.rec (S AV) (fun _ => Tm) (fun a0 a1 a2 a3 a4 a5 a6 a7 a8 a9 a10 a11 a12 a13 a14 a15 => @S.rec AV (fun _ => Tm) (fun b0 b1 b2 b3 b4 b5 b6 b7 b8 b9 b10 b11 b12 b13 b14 b15 => ⟨a0, a1, a2, a3, a4, a5, a6, a7, a8, a9, ⟨b0, b1, b2, b3, b4, b5, b6, b7, b8, b9, b10, b11, b12, b13, v, b15⟩, a11, a12, a13, a14, a15⟩) a10) T
def s175 : Set1 := fun v T => @S.rec (S AV) (fun _ => Tm) (fun a0 a1 a2 a3 a4 a5 a6 a7 a8 a9 a10 a11 a12 a13 a14 a15 => @S.rec AV (fun _ => Tm) (fun b0 b1 b2 b3 b4 b5 b6 b7 b8 b9 b10 b11 b12 b13 b14 b15 => ⟨a0, a1, a2, a3, a4, a5, a6, a7, a8, a9, ⟨b0, b1, b2, b3, b4, b5, b6, b7, b8, b9, b10, b11, b12, b13, b14, v⟩, a11, a12, a13, a14, a15⟩) a10) T
def s176 : Set1 := fun v T => @S.rec (S AV) (fun _ => Tm) (fun a0 a1 a2 a3 a4 a5 a6 a7 a8 a9 a10 a11 a12 a13 a14 a15 => @S.rec AV (fun _ => Tm) (fun b0 b1 b2 b3 b4 b5 b6 b7 b8 b9 b10 b11 b12 b13 b14 b15 => ⟨a0, a1, a2, a3, a4, a5, a6, a7, a8, a9, a10, ⟨v, b1, b2, b3, b4, b5, b6, b7, b8, b9, b10, b11, b12, b13, b14, b15⟩, a12, a13, a14, a15⟩) a11) T
def s177 : Set1 := fun v T => @S.rec (S AV) (fun _ => Tm) (fun a0 a1 a2 a3 a4 a5 a6 a7 a8 a9 a10 a11 a12 a13 a14 a15 => @S.rec AV (fun _ => Tm) (fun b0 b1 b2 b3 b4 b5 b6 b7 b8 b9 b10 b11 b12 b13 b14 b15 => ⟨a0, a1, a2, a3, a4, a5, a6, a7, a8, a9, a10, ⟨b0, v, b2, b3, b4, b5, b6, b7, b8, b9, b10, b11, b12, b13, b14, b15⟩, a12, a13, a14, a15⟩) a11) T
def s178 : Set1 := fun v T => @S.rec (S AV) (fun _ => Tm) (fun a0 a1 a2 a3 a4 a5 a6 a7 a8 a9 a10 a11 a12 a13 a14 a15 => @S.rec AV (fun _ => Tm) (fun b0 b1 b2 b3 b4 b5 b6 b7 b8 b9 b10 b11 b12 b13 b14 b15 => ⟨a0, a1, a2, a3, a4, a5, a6, a7, a8, a9, a10, ⟨b0, b1, v, b3, b4, b5, b6, b7, b8, b9, b10, b11, b12, b13, b14, b15⟩, a12, a13, a14, a15⟩) a11) T
def s179 : Set1 := fun v T => @S.rec (S AV) (fun _ => Tm) (fun a0 a1 a2 a3 a4 a5 a6 a7 a8 a9 a10 a11 a12 a13 a14 a15 => @S.rec AV (fun _ => Tm) (fun b0 b1 b2 b3 b4 b5 b6 b7 b8 b9 b10 b11 b12 b13 b14 b15 => ⟨a0, a1, a2, a3, a4, a5, a6, a7, a8, a9, a10, ⟨b0, b1, b2, v, b4, b5, b6, b7, b8, b9, b10, b11, b12, b13, b14, b15⟩, a12, a13, a14, a15⟩) a11) T
def s180 : Set1 := fun v T => @S.rec (S AV) (fun _ => Tm) (fun a0 a1 a2 a3 a4 a5 a6 a7 a8 a9 a10 a11 a12 a13 a14 a15 => @S.rec AV (fun _ => Tm) (fun b0 b1 b2 b3 b4 b5 b6 b7 b8 b9 b10 b11 b12 b13 b14 b15 => ⟨a0, a1, a2, a3, a4, a5, a6, a7, a8, a9, a10, ⟨b0, b1, b2, b3, v, b5, b6, b7, b8, b9, b10, b11, b12, b13, b14, b15⟩, a12, a13, a14, a15⟩) a11) T
def s181 : Set1 := fun v T => @S.rec (S AV) (fun _ => Tm) (fun a0 a1 a2 a3 a4 a5 a6 a7 a8 a9 a10 a11 a12 a13 a14 a15 => @S.rec AV (fun _ => Tm) (fun b0 b1 b2 b3 b4 b5 b6 b7 b8 b9 b10 b11 b12 b13 b14 b15 => ⟨a0, a1, a2, a3, a4, a5, a6, a7, a8, a9, a10, ⟨b0, b1, b2, b3, b4, v, b6, b7, b8, b9, b10, b11, b12, b13, b14, b15⟩, a12, a13, a14, a15⟩) a11) T
def s182 : Set1 := fun v T => @S.rec (S AV) (fun _ => Tm) (fun a0 a1 a2 a3 a4 a5 a6 a7 a8 a9 a10 a11 a12 a13 a14 a15 => @S.rec AV (fun _ => Tm) (fun b0 b1 b2 b3 b4 b5 b6 b7 b8 b9 b10 b11 b12 b13 b14 b15 => ⟨a0, a1, a2, a3, a4, a5, a6, a7, a8, a9, a10, ⟨b0, b1, b2, b3, b4, b5, v, b7, b8, b9, b10, b11, b12, b13, b14, b15⟩, a12, a13, a14, a15⟩) a11) T
def s183 : Set1 := fun v T => @S.rec (S AV) (fun _ => Tm) (fun a0 a1 a2 a3 a4 a5 a6 a7 a8 a9 a10 a11 a12 a13 a14 a15 => @S.rec AV (fun _ => Tm) (fun b0 b1 b2 b3 b4 b5 b6 b7 b8 b9 b10 b11 b12 b13 b14 b15 => ⟨a0, a1, a2, a3, a4, a5, a6, a7, a8, a9, a10, ⟨b0, b1, b2, b3, b4, b5, b6, v, b8, b9, b10, b11, b12, b13, b14, b15⟩, a12, a13, a14, a15⟩) a11) T
def s184 : Set1 := fun v T => @S.rec (S AV) (fun _ => Tm) (fun a0 a1 a2 a3 a4 a5 a6 a7 a8 a9 a10 a11 a12 a13 a14 a15 => @S.rec AV (fun _ => Tm) (fun b0 b1 b2 b3 b4 b5 b6 b7 b8 b9 b10 b11 b12 b13 b14 b15 => ⟨a0, a1, a2, a3, a4, a5, a6, a7, a8, a9, a10, ⟨b0, b1, b2, b3, b4, b5, b6, b7, v, b9, b10, b11, b12, b13, b14, b15⟩, a12, a13, a14, a15⟩) a11) T
def s185 : Set1 := fun v T => @S.rec (S AV) (fun _ => Tm) (fun a0 a1 a2 a3 a4 a5 a6 a7 a8 a9 a10 a11 a12 a13 a14 a15 => @S.rec AV (fun _ => Tm) (fun b0 b1 b2 b3 b4 b5 b6 b7 b8 b9 b10 b11 b12 b13 b14 b15 => ⟨a0, a1, a2, a3, a4, a5, a6, a7, a8, a9, a10, ⟨b0, b1, b2, b3, b4, b5, b6, b7, b8, v, b10, b11, b12, b13, b14, b15⟩, a12, a13, a14, a15⟩) a11) T
def s186 : Set1 := fun v T => @S.rec (S AV) (fun _ => Tm) (fun a0 a1 a2 a3 a4 a5 a6 a7 a8 a9 a10 a11 a12 a13 a14 a15 => @S.rec AV (fun _ => Tm) (fun b0 b1 b2 b3 b4 b5 b6 b7 b8 b9 b10 b11 b12 b13 b14 b15 => ⟨a0, a1, a2, a3, a4, a5, a6, a7, a8, a9, a10, ⟨b0, b1, b2, b3, b4, b5, b6, b7, b8, b9, v, b11, b12, b13, b14, b15⟩, a12, a13, a14, a15⟩) a11) T
def s187 : Set1 := fun v T => @S.rec (S AV) (fun _ => Tm) (fun a0 a1 a2 a3 a4 a5 a6 a7 a8 a9 a10 a11 a12 a13 a14 a15 => @S.rec AV (fun _ => Tm) (fun b0 b1 b2 b3 b4 b5 b6 b7 b8 b9 b10 b11 b12 b13 b14 b15 => ⟨a0, a1, a2, a3, a4, a5, a6, a7, a8, a9, a10, ⟨b0, b1, b2, b3, b4, b5, b6, b7, b8, b9, b10, v, b12, b13, b14, b15⟩, a12, a13, a14, a15⟩) a11) T
def s188 : Set1 := fun v T => @S.rec (S AV) (fun _ => Tm) (fun a0 a1 a2 a3 a4 a5 a6 a7 a8 a9 a10 a11 a12 a13 a14 a15 => @S.rec AV (fun _ => Tm) (fun b0 b1 b2 b3 b4 b5 b6 b7 b8 b9 b10 b11 b12 b13 b14 b15 => ⟨a0, a1, a2, a3, a4, a5, a6, a7, a8, a9, a10, ⟨b0, b1, b2, b3, b4, b5, b6, b7, b8, b9, b10, b11, v, b13, b14, b15⟩, a12, a13, a14, a15⟩) a11) T
def s189 : Set1 := fun v T => @S.rec (S AV) (fun _ => Tm) (fun a0 a1 a2 a3 a4 a5 a6 a7 a8 a9 a10 a11 a12 a13 a14 a15 => @S.rec AV (fun _ => Tm) (fun b0 b1 b2 b3 b4 b5 b6 b7 b8 b9 b10 b11 b12 b13 b14 b15 => ⟨a0, a1, a2, a3, a4, a5, a6, a7, a8, a9, a10, ⟨b0, b1, b2, b3, b4, b5, b6, b7, b8, b9, b10, b11, b12, v, b14, b15⟩, a12, a13, a14, a15⟩) a11) T
def s190 : Set1 := fun v T => @S.rec (S AV) (fun _ => Tm) (fun a0 a1 a2 a3 a4 a5 a6 a7 a8 a9 a10 a11 a12 a13 a14 a15 => @S.rec AV (fun _ => Tm) (fun b0 b1 b2 b3 b4 b5 b6 b7 b8 b9 b10 b11 b12 b13 b14 b15 => ⟨a0, a1, a2, a3, a4, a5, a6, a7, a8, a9, a10, ⟨b0, b1, b2, b3, b4, b5, b6, b7, b8, b9, b10, b11, b12, b13, v, b15⟩, a12, a13, a14, a15⟩) a11) T
def s191 : Set1 := fun v T => @S.rec (S AV) (fun _ => Tm) (fun a0 a1 a2 a3 a4 a5 a6 a7 a8 a9 a10 a11 a12 a13 a14 a15 => @S.rec AV (fun _ => Tm) (fun b0 b1 b2 b3 b4 b5 b6 b7 b8 b9 b10 b11 b12 b13 b14 b15 => ⟨a0, a1, a2, a3, a4, a5, a6, a7, a8, a9, a10, ⟨b0, b1, b2, b3, b4, b5, b6, b7, b8, b9, b10, b11, b12, b13, b14, v⟩, a12, a13, a14, a15⟩) a11) T
def s192 : Set1 := fun v T => @S.rec (S AV) (fun _ => Tm) (fun a0 a1 a2 a3 a4 a5 a6 a7 a8 a9 a10 a11 a12 a13 a14 a15 => @S.rec AV (fun _ => Tm) (fun b0 b1 b2 b3 b4 b5 b6 b7 b8 b9 b10 b11 b12 b13 b14 b15 => ⟨a0, a1, a2, a3, a4, a5, a6, a7, a8, a9, a10, a11, ⟨v, b1, b2, b3, b4, b5, b6, b7, b8, b9, b10, b11, b12, b13, b14, b15⟩, a13, a14, a15⟩) a12) T
def s193 : Set1 := fun v T => @S.rec (S AV) (fun _ => Tm) (fun a0 a1 a2 a3 a4 a5 a6 a7 a8 a9 a10 a11 a12 a13 a14 a15 => @S.rec AV (fun _ => Tm) (fun b0 b1 b2 b3 b4 b5 b6 b7 b8 b9 b10 b11 b12 b13 b14 b15 => ⟨a0, a1, a2, a3, a4, a5, a6, a7, a8, a9, a10, a11, ⟨b0, v, b2, b3, b4, b5, b6, b7, b8, b9, b10, b11, b12, b13, b14, b15⟩, a13, a14, a15⟩) a12) T
def s194 : Set1 := fun v T => @S.rec (S AV) (fun _ => Tm) (fun a0 a1 a2 a3 a4 a5 a6 a7 a8 a9 a10 a11 a12 a13 a14 a15 => @S.rec AV (fun _ => Tm) (fun b0 b1 b2 b3 b4 b5 b6 b7 b8 b9 b10 b11 b12 b13 b14 b15 => ⟨a0, a1, a2, a3, a4, a5, a6, a7, a8, a9, a10, a11, ⟨b0, b1, v, b3, b4, b5, b6, b7, b8, b9, b10, b11, b12, b13, b14, b15⟩, a13, a14, a15⟩) a12) T
def s195 : Set1 := fun v T => @S.rec (S AV) (fun _ => Tm) (fun a0 a1 a2 a3 a4 a5 a6 a7 a8 a9 a10 a11 a12 a13 a14 a15 => @S.rec AV (fun _ => Tm) (fun b0 b1 b2 b3 b4 b5 b6 b7 b8 b9 b10 b11 b12 b13 b14 b15 => ⟨a0, a1, a2, a3, a4, a5, a6, a7, a8, a9, a10, a11, ⟨b0, b1, b2, v, b4, b5, b6, b7, b8, b9, b10, b11, b12, b13, b14, b15⟩, a13, a14, a15⟩) a12) T
def s196 : Set1 := fun v T => @S.rec (S AV) (fun _ => Tm) (fun a0 a1 a2 a3 a4 a5 a6 a7 a8 a9 a10 a11 a12 a13 a14 a15 => @S.rec AV (fun _ => Tm) (fun b0 b1 b2 b3 b4 b5 b6 b7 b8 b9 b10 b11 b12 b13 b14 b15 => ⟨a0, a1, a2, a3, a4, a5, a6, a7, a8, a9, a10, a11, ⟨b0, b1, b2, b3, v, b5, b6, b7, b8, b9, b10, b11, b12, b13, b14, b15⟩, a13, a14, a15⟩) a12) T
def s197 : Set1 := fun v T => @S.rec (S AV) (fun _ => Tm) (fun a0 a1 a2 a3 a4 a5 a6 a7 a8 a9 a10 a11 a12 a13 a14 a15 => @S.rec AV (fun _ => Tm) (fun b0 b1 b2 b3 b4 b5 b6 b7 b8 b9 b10 b11 b12 b13 b14 b15 => ⟨a0, a1, a2, a3, a4, a5, a6, a7, a8, a9, a10, a11, ⟨b0, b1, b2, b3, b4, v, b6, b7, b8, b9, b10, b11, b12, b13, b14, b15⟩, a13, a14, a15⟩) a12) T
def s198 : Set1 := fun v T => @S.rec (S AV) (fun _ => Tm) (fun a0 a1 a2 a3 a4 a5 a6 a7 a8 a9 a10 a11 a12 a13 a14 a15 => @S.rec AV (fun _ => Tm) (fun b0 b1 b2 b3 b4 b5 b6 b7 b8 b9 b10 b11 b12 b13 b14 b15 => ⟨a0, a1, a2, a3, a4, a5, a6, a7, a8, a9, a10, a11, ⟨b0, b1, b2, b3, b4, b5, v, b7, b8, b9, b10, b11, b12, b13, b14, b15⟩, a13, a14, a15⟩) a12) T
def s199 : Set1 := fun v T => @S.rec (S AV) (fun _ => Tm) (fun a0 a1 a2 a3 a4 a5 a6 a7 a8 a9 a10 a11 a12 a13 a14 a15 => @S.rec AV (fun _ => Tm) (fun b0 b1 b2 b3 b4 b5 b6 b7 b8 b9 b10 b11 b12 b13 b14 b15 => ⟨a0, a1, a2, a3, a4, a5, a6, a7, a8, a9, a10, a11, ⟨b0, b1, b2, b3, b4, b5, b6, v, b8, b9, b10, b11, b12, b13, b14, b15⟩, a13, a14, a15⟩) a12) T
def s200 : Set1 := fun v T => @S.rec (S AV) (fun _ => Tm) (fun a0 a1 a2 a3 a4 a5 a6 a7 a8 a9 a10 a11 a12 a13 a14 a15 => @S.rec AV (fun _ => Tm) (fun b0 b1 b2 b3 b4 b5 b6 b7 b8 b9 b10 b11 b12 b13 b14 b15 => ⟨a0, a1, a2, a3, a4, a5, a6, a7, a8, a9, a10, a11, ⟨b0, b1, b2, b3, b4, b5, b6, b7, v, b9, b10, b11, b12, b13, b14, b15⟩, a13, a14, a15⟩) a12) T
def s201 : Set1 := fun v T => @S.rec (S AV) (fun _ => Tm) (fun a0 a1 a2 a3 a4 a5 a6 a7 a8 a9 a10 a11 a12 a13 a14 a15 => @S.rec AV (fun _ => Tm) (fun b0 b1 b2 b3 b4 b5 b6 b7 b8 b9 b10 b11 b12 b13 b14 b15 => ⟨a0, a1, a2, a3, a4, a5, a6, a7, a8, a9, a10, a11, ⟨b0, b1, b2, b3, b4, b5, b6, b7, b8, v, b10, b11, b12, b13, b14, b15⟩, a13, a14, a15⟩) a12) T
def s202 : Set1 := fun v T => @S.rec (S AV) (fun _ => Tm) (fun a0 a1 a2 a3 a4 a5 a6 a7 a8 a9 a10 a11 a12 a13 a14 a15 => @S.rec AV (fun _ => Tm) (fun b0 b1 b2 b3 b4 b5 b6 b7 b8 b9 b10 b11 b12 b13 b14 b15 => ⟨a0, a1, a2, a3, a4, a5, a6, a7, a8, a9, a10, a11, ⟨b0, b1, b2, b3, b4, b5, b6, b7, b8, b9, v, b11, b12, b13, b14, b15⟩, a13, a14, a15⟩) a12) T
def s203 : Set1 := fun v T => @S.rec (S AV) (fun _ => Tm) (fun a0 a1 a2 a3 a4 a5 a6 a7 a8 a9 a10 a11 a12 a13 a14 a15 => @S.rec AV (fun _ => Tm) (fun b0 b1 b2 b3 b4 b5 b6 b7 b8 b9 b10 b11 b12 b13 b14 b15 => ⟨a0, a1, a2, a3, a4, a5, a6, a7, a8, a9, a10, a11, ⟨b0, b1, b2, b3, b4, b5, b6, b7, b8, b9, b10, v, b12, b13, b14, b15⟩, a13, a14, a15⟩) a12) T
def s204 : Set1 := fun v T => @S.rec (S AV) (fun _ => Tm) (fun a0 a1 a2 a3 a4 a5 a6 a7 a8 a9 a10 a11 a12 a13 a14 a15 => @S.rec AV (fun _ => Tm) (fun b0 b1 b2 b3 b4 b5 b6 b7 b8 b9 b10 b11 b12 b13 b14 b15 => ⟨a0, a1, a2, a3, a4, a5, a6, a7, a8, a9, a10, a11, ⟨b0, b1, b2, b3, b4, b5, b6, b7, b8, b9, b10, b11, v, b13, b14, b15⟩, a13, a14, a15⟩) a12) T
def s205 : Set1 := fun v T => @S.rec (S AV) (fun _ => Tm) (fun a0 a1 a2 a3 a4 a5 a6 a7 a8 a9 a10 a11 a12 a13 a14 a15 => @S.rec AV (fun _ => Tm) (fun b0 b1 b2 b3 b4 b5 b6 b7 b8 b9 b10 b11 b12 b13 b14 b15 => ⟨a0, a1, a2, a3, a4, a5, a6, a7, a8, a9, a10, a11, ⟨b0, b1, b2, b3, b4, b5, b6, b7, b8, b9, b10, b11, b12, v, b14, b15⟩, a13, a14, a15⟩) a12) T
def s206 : Set1 := fun v T => @S.rec (S AV) (fun _ => Tm) (fun a0 a1 a2 a3 a4 a5 a6 a7 a8 a9 a10 a11 a12 a13 a14 a15 => @S.rec AV (fun _ => Tm) (fun b0 b1 b2 b3 b4 b5 b6 b7 b8 b9 b10 b11 b12 b13 b14 b15 => ⟨a0, a1, a2, a3, a4, a5, a6, a7, a8, a9, a10, a11, ⟨b0, b1, b2, b3, b4, b5, b6, b7, b8, b9, b10, b11, b12, b13, v, b15⟩, a13, a14, a15⟩) a12) T
def s207 : Set1 := fun v T => @S.rec (S AV) (fun _ => Tm) (fun a0 a1 a2 a3 a4 a5 a6 a7 a8 a9 a10 a11 a12 a13 a14 a15 => @S.rec AV (fun _ => Tm) (fun b0 b1 b2 b3 b4 b5 b6 b7 b8 b9 b10 b11 b12 b13 b14 b15 => ⟨a0, a1, a2, a3, a4, a5, a6, a7, a8, a9, a10, a11, ⟨b0, b1, b2, b3, b4, b5, b6, b7, b8, b9, b10, b11, b12, b13, b14, v⟩, a13, a14, a15⟩) a12) T
def s208 : Set1 := fun v T => @S.rec (S AV) (fun _ => Tm) (fun a0 a1 a2 a3 a4 a5 a6 a7 a8 a9 a10 a11 a12 a13 a14 a15 => @S.rec AV (fun _ => Tm) (fun b0 b1 b2 b3 b4 b5 b6 b7 b8 b9 b10 b11 b12 b13 b14 b15 => ⟨a0, a1, a2, a3, a4, a5, a6, a7, a8, a9, a10, a11, a12, ⟨v, b1, b2, b3, b4, b5, b6, b7, b8, b9, b10, b11, b12, b13, b14, b15⟩, a14, a15⟩) a13) T
def s209 : Set1 := fun v T => @S.rec (S AV) (fun _ => Tm) (fun a0 a1 a2 a3 a4 a5 a6 a7 a8 a9 a10 a11 a12 a13 a14 a15 => @S.rec AV (fun _ => Tm) (fun b0 b1 b2 b3 b4 b5 b6 b7 b8 b9 b10 b11 b12 b13 b14 b15 => ⟨a0, a1, a2, a3, a4, a5, a6, a7, a8, a9, a10, a11, a12, ⟨b0, v, b2, b3, b4, b5, b6, b7, b8, b9, b10, b11, b12, b13, b14, b15⟩, a14, a15⟩) a13) T
def s210 : Set1 := fun v T => @S.rec (S AV) (fun _ => Tm) (fun a0 a1 a2 a3 a4 a5 a6 a7 a8 a9 a10 a11 a12 a13 a14 a15 => @S.rec AV (fun _ => Tm) (fun b0 b1 b2 b3 b4 b5 b6 b7 b8 b9 b10 b11 b12 b13 b14 b15 => ⟨a0, a1, a2, a3, a4, a5, a6, a7, a8, a9, a10, a11, a12, ⟨b0, b1, v, b3, b4, b5, b6, b7, b8, b9, b10, b11, b12, b13, b14, b15⟩, a14, a15⟩) a13) T
def s211 : Set1 := fun v T => @S.rec (S AV) (fun _ => Tm) (fun a0 a1 a2 a3 a4 a5 a6 a7 a8 a9 a10 a11 a12 a13 a14 a15 => @S.rec AV (fun _ => Tm) (fun b0 b1 b2 b3 b4 b5 b6 b7 b8 b9 b10 b11 b12 b13 b14 b15 => ⟨a0, a1, a2, a3, a4, a5, a6, a7, a8, a9, a10, a11, a12, ⟨b0, b1, b2, v, b4, b5, b6, b7, b8, b9, b10, b11, b12, b13, b14, b15⟩, a14, a15⟩) a13) T
def s212 : Set1 := fun v T => @S.rec (S AV) (fun _ => Tm) (fun a0 a1 a2 a3 a4 a5 a6 a7 a8 a9 a10 a11 a12 a13 a14 a15 => @S.rec AV (fun _ => Tm) (fun b0 b1 b2 b3 b4 b5 b6 b7 b8 b9 b10 b11 b12 b13 b14 b15 => ⟨a0, a1, a2, a3, a4, a5, a6, a7, a8, a9, a10, a11, a12, ⟨b0, b1, b2, b3, v, b5, b6, b7, b8, b9, b10, b11, b12, b13, b14, b15⟩, a14, a15⟩) a13) T
def s213 : Set1 := fun v T => @S.rec (S AV) (fun _ => Tm) (fun a0 a1 a2 a3 a4 a5 a6 a7 a8 a9 a10 a11 a12 a13 a14 a15 => @S.rec AV (fun _ => Tm) (fun b0 b1 b2 b3 b4 b5 b6 b7 b8 b9 b10 b11 b12 b13 b14 b15 => ⟨a0, a1, a2, a3, a4, a5, a6, a7, a8, a9, a10, a11, a12, ⟨b0, b1, b2, b3, b4, v, b6, b7, b8, b9, b10, b11, b12, b13, b14, b15⟩, a14, a15⟩) a13) T
def s214 : Set1 := fun v T => @S.rec (S AV) (fun _ => Tm) (fun a0 a1 a2 a3 a4 a5 a6 a7 a8 a9 a10 a11 a12 a13 a14 a15 => @S.rec AV (fun _ => Tm) (fun b0 b1 b2 b3 b4 b5 b6 b7 b8 b9 b10 b11 b12 b13 b14 b15 => ⟨a0, a1, a2, a3, a4, a5, a6, a7, a8, a9, a10, a11, a12, ⟨b0, b1, b2, b3, b4, b5, v, b7, b8, b9, b10, b11, b12, b13, b14, b15⟩, a14, a15⟩) a13) T
def s215 : Set1 := fun v T => @S.rec (S AV) (fun _ => Tm) (fun a0 a1 a2 a3 a4 a5 a6 a7 a8 a9 a10 a11 a12 a13 a14 a15 => @S.rec AV (fun _ => Tm) (fun b0 b1 b2 b3 b4 b5 b6 b7 b8 b9 b10 b11 b12 b13 b14 b15 => ⟨a0, a1, a2, a3, a4, a5, a6, a7, a8, a9, a10, a11, a12, ⟨b0, b1, b2, b3, b4, b5, b6, v, b8, b9, b10, b11, b12, b13, b14, b15⟩, a14, a15⟩) a13) T
def s216 : Set1 := fun v T => @S.rec (S AV) (fun _ => Tm) (fun a0 a1 a2 a3 a4 a5 a6 a7 a8 a9 a10 a11 a12 a13 a14 a15 => @S.rec AV (fun _ => Tm) (fun b0 b1 b2 b3 b4 b5 b6 b7 b8 b9 b10 b11 b12 b13 b14 b15 => ⟨a0, a1, a2, a3, a4, a5, a6, a7, a8, a9, a10, a11, a12, ⟨b0, b1, b2, b3, b4, b5, b6, b7, v, b9, b10, b11, b12, b13, b14, b15⟩, a14, a15⟩) a13) T
def s217 : Set1 := fun v T => @S.rec (S AV) (fun _ => Tm) (fun a0 a1 a2 a3 a4 a5 a6 a7 a8 a9 a10 a11 a12 a13 a14 a15 => @S.rec AV (fun _ => Tm) (fun b0 b1 b2 b3 b4 b5 b6 b7 b8 b9 b10 b11 b12 b13 b14 b15 => ⟨a0, a1, a2, a3, a4, a5, a6, a7, a8, a9, a10, a11, a12, ⟨b0, b1, b2, b3, b4, b5, b6, b7, b8, v, b10, b11, b12, b13, b14, b15⟩, a14, a15⟩) a13) T
def s218 : Set1 := fun v T => @S.rec (S AV) (fun _ => Tm) (fun a0 a1 a2 a3 a4 a5 a6 a7 a8 a9 a10 a11 a12 a13 a14 a15 => @S.rec AV (fun _ => Tm) (fun b0 b1 b2 b3 b4 b5 b6 b7 b8 b9 b10 b11 b12 b13 b14 b15 => ⟨a0, a1, a2, a3, a4, a5, a6, a7, a8, a9, a10, a11, a12, ⟨b0, b1, b2, b3, b4, b5, b6, b7, b8, b9, v, b11, b12, b13, b14, b15⟩, a14, a15⟩) a13) T
def s219 : Set1 := fun v T => @S.rec (S AV) (fun _ => Tm) (fun a0 a1 a2 a3 a4 a5 a6 a7 a8 a9 a10 a11 a12 a13 a14 a15 => @S.rec AV (fun _ => Tm) (fun b0 b1 b2 b3 b4 b5 b6 b7 b8 b9 b10 b11 b12 b13 b14 b15 => ⟨a0, a1, a2, a3, a4, a5, a6, a7, a8, a9, a10, a11, a12, ⟨b0, b1, b2, b3, b4, b5, b6, b7, b8, b9, b10, v, b12, b13, b14, b15⟩, a14, a15⟩) a13) T
def s220 : Set1 := fun v T => @S.rec (S AV) (fun _ => Tm) (fun a0 a1 a2 a3 a4 a5 a6 a7 a8 a9 a10 a11 a12 a13 a14 a15 => @S.rec AV (fun _ => Tm) (fun b0 b1 b2 b3 b4 b5 b6 b7 b8 b9 b10 b11 b12 b13 b14 b15 => ⟨a0, a1, a2, a3, a4, a5, a6, a7, a8, a9, a10, a11, a12, ⟨b0, b1, b2, b3, b4, b5, b6, b7, b8, b9, b10, b11, v, b13, b14, b15⟩, a14, a15⟩) a13) T
def s221 : Set1 := fun v T => @S.rec (S AV) (fun _ => Tm) (fun a0 a1 a2 a3 a4 a5 a6 a7 a8 a9 a10 a11 a12 a13 a14 a15 => @S.rec AV (fun _ => Tm) (fun b0 b1 b2 b3 b4 b5 b6 b7 b8 b9 b10 b11 b12 b13 b14 b15 => ⟨a0, a1, a2, a3, a4, a5, a6, a7, a8, a9, a10, a11, a12, ⟨b0, b1, b2, b3, b4, b5, b6, b7, b8, b9, b10, b11, b12, v, b14, b15⟩, a14, a15⟩) a13) T
def s222 : Set1 := fun v T => @S.rec (S AV) (fun _ => Tm) (fun a0 a1 a2 a3 a4 a5 a6 a7 a8 a9 a10 a11 a12 a13 a14 a15 => @S.rec AV (fun _ => Tm) (fun b0 b1 b2 b3 b4 b5 b6 b7 b8 b9 b10 b11 b12 b13 b14 b15 => ⟨a0, a1, a2, a3, a4, a5, a6, a7, a8, a9, a10, a11, a12, ⟨b0, b1, b2, b3, b4, b5, b6, b7, b8, b9, b10, b11, b12, b13, v, b15⟩, a14, a15⟩) a13) T
def s223 : Set1 := fun v T => @S.rec (S AV) (fun _ => Tm) (fun a0 a1 a2 a3 a4 a5 a6 a7 a8 a9 a10 a11 a12 a13 a14 a15 => @S.rec AV (fun _ => Tm) (fun b0 b1 b2 b3 b4 b5 b6 b7 b8 b9 b10 b11 b12 b13 b14 b15 => ⟨a0, a1, a2, a3, a4, a5, a6, a7, a8, a9, a10, a11, a12, ⟨b0, b1, b2, b3, b4, b5, b6, b7, b8, b9, b10, b11, b12, b13, b14, v⟩, a14, a15⟩) a13) T
def s224 : Set1 := fun v T => @S.rec (S AV) (fun _ => Tm) (fun a0 a1 a2 a3 a4 a5 a6 a7 a8 a9 a10 a11 a12 a13 a14 a15 => @S.rec AV (fun _ => Tm) (fun b0 b1 b2 b3 b4 b5 b6 b7 b8 b9 b10 b11 b12 b13 b14 b15 => ⟨a0, a1, a2, a3, a4, a5, a6, a7, a8, a9, a10, a11, a12, a13, ⟨v, b1, b2, b3, b4, b5, b6, b7, b8, b9, b10, b11, b12, b13, b14, b15⟩, a15⟩) a14) T
def s225 : Set1 := fun v T => @S.rec (S AV) (fun _ => Tm) (fun a0 a1 a2 a3 a4 a5 a6 a7 a8 a9 a10 a11 a12 a13 a14 a15 => @S.rec AV (fun _ => Tm) (fun b0 b1 b2 b3 b4 b5 b6 b7 b8 b9 b10 b11 b12 b13 b14 b15 => ⟨a0, a1, a2, a3, a4, a5, a6, a7, a8, a9, a10, a11, a12, a13, ⟨b0, v, b2, b3, b4, b5, b6, b7, b8, b9, b10, b11, b12, b13, b14, b15⟩, a15⟩) a14) T
def s226 : Set1 := fun v T => @S.rec (S AV) (fun _ => Tm) (fun a0 a1 a2 a3 a4 a5 a6 a7 a8 a9 a10 a11 a12 a13 a14 a15 => @S.rec AV (fun _ => Tm) (fun b0 b1 b2 b3 b4 b5 b6 b7 b8 b9 b10 b11 b12 b13 b14 b15 => ⟨a0, a1, a2, a3, a4, a5, a6, a7, a8, a9, a10, a11, a12, a13, ⟨b0, b1, v, b3, b4, b5, b6, b7, b8, b9, b10, b11, b12, b13, b14, b15⟩, a15⟩) a14) T
def s227 : Set1 := fun v T => @S.rec (S AV) (fun _ => Tm) (fun a0 a1 a2 a3 a4 a5 a6 a7 a8 a9 a10 a11 a12 a13 a14 a15 => @S.rec AV (fun _ => Tm) (fun b0 b1 b2 b3 b4 b5 b6 b7 b8 b9 b10 b11 b12 b13 b14 b15 => ⟨a0, a1, a2, a3, a4, a5, a6, a7, a8, a9, a10, a11, a12, a13, ⟨b0, b1, b2, v, b4, b5, b6, b7, b8, b9, b10, b11, b12, b13, b14, b15⟩, a15⟩) a14) T
def s228 : Set1 := fun v T => @S.rec (S AV) (fun _ => Tm) (fun a0 a1 a2 a3 a4 a5 a6 a7 a8 a9 a10 a11 a12 a13 a14 a15 => @S.rec AV (fun _ => Tm) (fun b0 b1 b2 b3 b4 b5 b6 b7 b8 b9 b10 b11 b12 b13 b14 b15 => ⟨a0, a1, a2, a3, a4, a5, a6, a7, a8, a9, a10, a11, a12, a13, ⟨b0, b1, b2, b3, v, b5, b6, b7, b8, b9, b10, b11, b12, b13, b14, b15⟩, a15⟩) a14) T
def s229 : Set1 := fun v T => @S.rec (S AV) (fun _ => Tm) (fun a0 a1 a2 a3 a4 a5 a6 a7 a8 a9 a10 a11 a12 a13 a14 a15 => @S.rec AV (fun _ => Tm) (fun b0 b1 b2 b3 b4 b5 b6 b7 b8 b9 b10 b11 b12 b13 b14 b15 => ⟨a0, a1, a2, a3, a4, a5, a6, a7, a8, a9, a10, a11, a12, a13, ⟨b0, b1, b2, b3, b4, v, b6, b7, b8, b9, b10, b11, b12, b13, b14, b15⟩, a15⟩) a14) T
def s230 : Set1 := fun v T => @S.rec (S AV) (fun _ => Tm) (fun a0 a1 a2 a3 a4 a5 a6 a7 a8 a9 a10 a11 a12 a13 a14 a15 => @S.rec AV (fun _ => Tm) (fun b0 b1 b2 b3 b4 b5 b6 b7 b8 b9 b10 b11 b12 b13 b14 b15 => ⟨a0, a1, a2, a3, a4, a5, a6, a7, a8, a9, a10, a11, a12, a13, ⟨b0, b1, b2, b3, b4, b5, v, b7, b8, b9, b10, b11, b12, b13, b14, b15⟩, a15⟩) a14) T
def s231 : Set1 := fun v T => @S.rec (S AV) (fun _ => Tm) (fun a0 a1 a2 a3 a4 a5 a6 a7 a8 a9 a10 a11 a12 a13 a14 a15 => @S.rec AV (fun _ => Tm) (fun b0 b1 b2 b3 b4 b5 b6 b7 b8 b9 b10 b11 b12 b13 b14 b15 => ⟨a0, a1, a2, a3, a4, a5, a6, a7, a8, a9, a10, a11, a12, a13, ⟨b0, b1, b2, b3, b4, b5, b6, v, b8, b9, b10, b11, b12, b13, b14, b15⟩, a15⟩) a14) T
def s232 : Set1 := fun v T => @S.rec (S AV) (fun _ => Tm) (fun a0 a1 a2 a3 a4 a5 a6 a7 a8 a9 a10 a11 a12 a13 a14 a15 => @S.rec AV (fun _ => Tm) (fun b0 b1 b2 b3 b4 b5 b6 b7 b8 b9 b10 b11 b12 b13 b14 b15 => ⟨a0, a1, a2, a3, a4, a5, a6, a7, a8, a9, a10, a11, a12, a13, ⟨b0, b1, b2, b3, b4, b5, b6, b7, v, b9, b10, b11, b12, b13, b14, b15⟩, a15⟩) a14) T
def s233 : Set1 := fun v T => @S.rec (S AV) (fun _ => Tm) (fun a0 a1 a2 a3 a4 a5 a6 a7 a8 a9 a10 a11 a12 a13 a14 a15 => @S.rec AV (fun _ => Tm) (fun b0 b1 b2 b3 b4 b5 b6 b7 b8 b9 b10 b11 b12 b13 b14 b15 => ⟨a0, a1, a2, a3, a4, a5, a6, a7, a8, a9, a10, a11, a12, a13, ⟨b0, b1, b2, b3, b4, b5, b6, b7, b8, v, b10, b11, b12, b13, b14, b15⟩, a15⟩) a14) T
def s234 : Set1 := fun v T => @S.rec (S AV) (fun _ => Tm) (fun a0 a1 a2 a3 a4 a5 a6 a7 a8 a9 a10 a11 a12 a13 a14 a15 => @S.rec AV (fun _ => Tm) (fun b0 b1 b2 b3 b4 b5 b6 b7 b8 b9 b10 b11 b12 b13 b14 b15 => ⟨a0, a1, a2, a3, a4, a5, a6, a7, a8, a9, a10, a11, a12, a13, ⟨b0, b1, b2, b3, b4, b5, b6, b7, b8, b9, v, b11, b12, b13, b14, b15⟩, a15⟩) a14) T
def s235 : Set1 := fun v T => @S.rec (S AV) (fun _ => Tm) (fun a0 a1 a2 a3 a4 a5 a6 a7 a8 a9 a10 a11 a12 a13 a14 a15 => @S.rec AV (fun _ => Tm) (fun b0 b1 b2 b3 b4 b5 b6 b7 b8 b9 b10 b11 b12 b13 b14 b15 => ⟨a0, a1, a2, a3, a4, a5, a6, a7, a8, a9, a10, a11, a12, a13, ⟨b0, b1, b2, b3, b4, b5, b6, b7, b8, b9, b10, v, b12, b13, b14, b15⟩, a15⟩) a14) T
def s236 : Set1 := fun v T => @S.rec (S AV) (fun _ => Tm) (fun a0 a1 a2 a3 a4 a5 a6 a7 a8 a9 a10 a11 a12 a13 a14 a15 => @S.rec AV (fun _ => Tm) (fun b0 b1 b2 b3 b4 b5 b6 b7 b8 b9 b10 b11 b12 b13 b14 b15 => ⟨a0, a1, a2, a3, a4, a5, a6, a7, a8, a9, a10, a11, a12, a13, ⟨b0, b1, b2, b3, b4, b5, b6, b7, b8, b9, b10, b11, v, b13, b14, b15⟩, a15⟩) a14) T
def s237 : Set1 := fun v T => @S.rec (S AV) (fun _ => Tm) (fun a0 a1 a2 a3 a4 a5 a6 a7 a8 a9 a10 a11 a12 a13 a14 a15 => @S.rec AV (fun _ => Tm) (fun b0 b1 b2 b3 b4 b5 b6 b7 b8 b9 b10 b11 b12 b13 b14 b15 => ⟨a0, a1, a2, a3, a4, a5, a6, a7, a8, a9, a10, a11, a12, a13, ⟨b0, b1, b2, b3, b4, b5, b6, b7, b8, b9, b10, b11, b12, v, b14, b15⟩, a15⟩) a14) T
def s238 : Set1 := fun v T => @S.rec (S AV) (fun _ => Tm) (fun a0 a1 a2 a3 a4 a5 a6 a7 a8 a9 a10 a11 a12 a13 a14 a15 => @S.rec AV (fun _ => Tm) (fun b0 b1 b2 b3 b4 b5 b6 b7 b8 b9 b10 b11 b12 b13 b14 b15 => ⟨a0, a1, a2, a3, a4, a5, a6, a7, a8, a9, a10, a11, a12, a13, ⟨b0, b1, b2, b3, b4, b5, b6, b7, b8, b9, b10, b11, b12, b13, v, b15⟩, a15⟩) a14) T
def s239 : Set1 := fun v T => @S.rec (S AV) (fun _ => Tm) (fun a0 a1 a2 a3 a4 a5 a6 a7 a8 a9 a10 a11 a12 a13 a14 a15 => @S.rec AV (fun _ => Tm) (fun b0 b1 b2 b3 b4 b5 b6 b7 b8 b9 b10 b11 b12 b13 b14 b15 => ⟨a0, a1, a2, a3, a4, a5, a6, a7, a8, a9, a10, a11, a12, a13, ⟨b0, b1, b2, b3, b4, b5, b6, b7, b8, b9, b10, b11, b12, b13, b14, v⟩, a15⟩) a14) T
def s240 : Set1 := fun v T => @S.rec (S AV) (fun _ => Tm) (fun a0 a1 a2 a3 a4 a5 a6 a7 a8 a9 a10 a11 a12 a13 a14 a15 => @S.rec AV (fun _ => Tm) (fun b0 b1 b2 b3 b4 b5 b6 b7 b8 b9 b10 b11 b12 b13 b14 b15 => ⟨a0, a1, a2, a3, a4, a5, a6, a7, a8, a9, a10, a11, a12, a13, a14, ⟨v, b1, b2, b3, b4, b5, b6, b7, b8, b9, b10, b11, b12, b13, b14, b15⟩⟩) a15) T
def s241 : Set1 := fun v T => @S.rec (S AV) (fun _ => Tm) (fun a0 a1 a2 a3 a4 a5 a6 a7 a8 a9 a10 a11 a12 a13 a14 a15 => @S.rec AV (fun _ => Tm) (fun b0 b1 b2 b3 b4 b5 b6 b7 b8 b9 b10 b11 b12 b13 b14 b15 => ⟨a0, a1, a2, a3, a4, a5, a6, a7, a8, a9, a10, a11, a12, a13, a14, ⟨b0, v, b2, b3, b4, b5, b6, b7, b8, b9, b10, b11, b12, b13, b14, b15⟩⟩) a15) T
def s242 : Set1 := fun v T => @S.rec (S AV) (fun _ => Tm) (fun a0 a1 a2 a3 a4 a5 a6 a7 a8 a9 a10 a11 a12 a13 a14 a15 => @S.rec AV (fun _ => Tm) (fun b0 b1 b2 b3 b4 b5 b6 b7 b8 b9 b10 b11 b12 b13 b14 b15 => ⟨a0, a1, a2, a3, a4, a5, a6, a7, a8, a9, a10, a11, a12, a13, a14, ⟨b0, b1, v, b3, b4, b5, b6, b7, b8, b9, b10, b11, b12, b13, b14, b15⟩⟩) a15) T
def s243 : Set1 := fun v T => @S.rec (S AV) (fun _ => Tm) (fun a0 a1 a2 a3 a4 a5 a6 a7 a8 a9 a10 a11 a12 a13 a14 a15 => @S.rec AV (fun _ => Tm) (fun b0 b1 b2 b3 b4 b5 b6 b7 b8 b9 b10 b11 b12 b13 b14 b15 => ⟨a0, a1, a2, a3, a4, a5, a6, a7, a8, a9, a10, a11, a12, a13, a14, ⟨b0, b1, b2, v, b4, b5, b6, b7, b8, b9, b10, b11, b12, b13, b14, b15⟩⟩) a15) T
def s244 : Set1 := fun v T => @S.rec (S AV) (fun _ => Tm) (fun a0 a1 a2 a3 a4 a5 a6 a7 a8 a9 a10 a11 a12 a13 a14 a15 => @S.rec AV (fun _ => Tm) (fun b0 b1 b2 b3 b4 b5 b6 b7 b8 b9 b10 b11 b12 b13 b14 b15 => ⟨a0, a1, a2, a3, a4, a5, a6, a7, a8, a9, a10, a11, a12, a13, a14, ⟨b0, b1, b2, b3, v, b5, b6, b7, b8, b9, b10, b11, b12, b13, b14, b15⟩⟩) a15) T
def s245 : Set1 := fun v T => @S.rec (S AV) (fun _ => Tm) (fun a0 a1 a2 a3 a4 a5 a6 a7 a8 a9 a10 a11 a12 a13 a14 a15 => @S.rec AV (fun _ => Tm) (fun b0 b1 b2 b3 b4 b5 b6 b7 b8 b9 b10 b11 b12 b13 b14 b15 => ⟨a0, a1, a2, a3, a4, a5, a6, a7, a8, a9, a10, a11, a12, a13, a14, ⟨b0, b1, b2, b3, b4, v, b6, b7, b8, b9, b10, b11, b12, b13, b14, b15⟩⟩) a15) T
def s246 : Set1 := fun v T => @S.rec (S AV) (fun _ => Tm) (fun a0 a1 a2 a3 a4 a5 a6 a7 a8 a9 a10 a11 a12 a13 a14 a15 => @S.rec AV (fun _ => Tm) (fun b0 b1 b2 b3 b4 b5 b6 b7 b8 b9 b10 b11 b12 b13 b14 b15 => ⟨a0, a1, a2, a3, a4, a5, a6, a7, a8, a9, a10, a11, a12, a13, a14, ⟨b0, b1, b2, b3, b4, b5, v, b7, b8, b9, b10, b11, b12, b13, b14, b15⟩⟩) a15) T
def s247 : Set1 := fun v T => @S.rec (S AV) (fun _ => Tm) (fun a0 a1 a2 a3 a4 a5 a6 a7 a8 a9 a10 a11 a12 a13 a14 a15 => @S.rec AV (fun _ => Tm) (fun b0 b1 b2 b3 b4 b5 b6 b7 b8 b9 b10 b11 b12 b13 b14 b15 => ⟨a0, a1, a2, a3, a4, a5, a6, a7, a8, a9, a10, a11, a12, a13, a14, ⟨b0, b1, b2, b3, b4, b5, b6, v, b8, b9, b10, b11, b12, b13, b14, b15⟩⟩) a15) T
def s248 : Set1 := fun v T => @S.rec (S AV) (fun _ => Tm) (fun a0 a1 a2 a3 a4 a5 a6 a7 a8 a9 a10 a11 a12 a13 a14 a15 => @S.rec AV (fun _ => Tm) (fun b0 b1 b2 b3 b4 b5 b6 b7 b8 b9 b10 b11 b12 b13 b14 b15 => ⟨a0, a1, a2, a3, a4, a5, a6, a7, a8, a9, a10, a11, a12, a13, a14, ⟨b0, b1, b2, b3, b4, b5, b6, b7, v, b9, b10, b11, b12, b13, b14, b15⟩⟩) a15) T
def s249 : Set1 := fun v T => @S.rec (S AV) (fun _ => Tm) (fun a0 a1 a2 a3 a4 a5 a6 a7 a8 a9 a10 a11 a12 a13 a14 a15 => @S.rec AV (fun _ => Tm) (fun b0 b1 b2 b3 b4 b5 b6 b7 b8 b9 b10 b11 b12 b13 b14 b15 => ⟨a0, a1, a2, a3, a4, a5, a6, a7, a8, a9, a10, a11, a12, a13, a14, ⟨b0, b1, b2, b3, b4, b5, b6, b7, b8, v, b10, b11, b12, b13, b14, b15⟩⟩) a15) T
def s250 : Set1 := fun v T => @S.rec (S AV) (fun _ => Tm) (fun a0 a1 a2 a3 a4 a5 a6 a7 a8 a9 a10 a11 a12 a13 a14 a15 => @S.rec AV (fun _ => Tm) (fun b0 b1 b2 b3 b4 b5 b6 b7 b8 b9 b10 b11 b12 b13 b14 b15 => ⟨a0, a1, a2, a3, a4, a5, a6, a7, a8, a9, a10, a11, a12, a13, a14, ⟨b0, b1, b2, b3, b4, b5, b6, b7, b8, b9, v, b11, b12, b13, b14, b15⟩⟩) a15) T
def s251 : Set1 := fun v T => @S.rec (S AV) (fun _ => Tm) (fun a0 a1 a2 a3 a4 a5 a6 a7 a8 a9 a10 a11 a12 a13 a14 a15 => @S.rec AV (fun _ => Tm) (fun b0 b1 b2 b3 b4 b5 b6 b7 b8 b9 b10 b11 b12 b13 b14 b15 => ⟨a0, a1, a2, a3, a4, a5, a6, a7, a8, a9, a10, a11, a12, a13, a14, ⟨b0, b1, b2, b3, b4, b5, b6, b7, b8, b9, b10, v, b12, b13, b14, b15⟩⟩) a15) T
def s252 : Set1 := fun v T => @S.rec (S AV) (fun _ => Tm) (fun a0 a1 a2 a3 a4 a5 a6 a7 a8 a9 a10 a11 a12 a13 a14 a15 => @S.rec AV (fun _ => Tm) (fun b0 b1 b2 b3 b4 b5 b6 b7 b8 b9 b10 b11 b12 b13 b14 b15 => ⟨a0, a1, a2, a3, a4, a5, a6, a7, a8, a9, a10, a11, a12, a13, a14, ⟨b0, b1, b2, b3, b4, b5, b6, b7, b8, b9, b10, b11, v, b13, b14, b15⟩⟩) a15) T
def s253 : Set1 := fun v T => @S.rec (S AV) (fun _ => Tm) (fun a0 a1 a2 a3 a4 a5 a6 a7 a8 a9 a10 a11 a12 a13 a14 a15 => @S.rec AV (fun _ => Tm) (fun b0 b1 b2 b3 b4 b5 b6 b7 b8 b9 b10 b11 b12 b13 b14 b15 => ⟨a0, a1, a2, a3, a4, a5, a6, a7, a8, a9, a10, a11, a12, a13, a14, ⟨b0, b1, b2, b3, b4, b5, b6, b7, b8, b9, b10, b11, b12, v, b14, b15⟩⟩) a15) T
def s254 : Set1 := fun v T => @S.rec (S AV) (fun _ => Tm) (fun a0 a1 a2 a3 a4 a5 a6 a7 a8 a9 a10 a11 a12 a13 a14 a15 => @S.rec AV (fun _ => Tm) (fun b0 b1 b2 b3 b4 b5 b6 b7 b8 b9 b10 b11 b12 b13 b14 b15 => ⟨a0, a1, a2, a3, a4, a5, a6, a7, a8, a9, a10, a11, a12, a13, a14, ⟨b0, b1, b2, b3, b4, b5, b6, b7, b8, b9, b10, b11, b12, b13, v, b15⟩⟩) a15) T
def s255 : Set1 := fun v T => @S.rec (S AV) (fun _ => Tm) (fun a0 a1 a2 a3 a4 a5 a6 a7 a8 a9 a10 a11 a12 a13 a14 a15 => @S.rec AV (fun _ => Tm) (fun b0 b1 b2 b3 b4 b5 b6 b7 b8 b9 b10 b11 b12 b13 b14 b15 => ⟨a0, a1, a2, a3, a4, a5, a6, a7, a8, a9, a10, a11, a12, a13, a14, ⟨b0, b1, b2, b3, b4, b5, b6, b7, b8, b9, b10, b11, b12, b13, b14, v⟩⟩) a15) T
end
end Go.AM
