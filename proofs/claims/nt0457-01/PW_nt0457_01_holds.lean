import PyProof.Rows.All
import Wide.All
import OpenK.AllK
import Wide.FinOn
import Lean
import PySem.Challenge.RW_nt0457_01
set_option Elab.async false
set_option maxRecDepth 100000
set_option autoImplicit false
set_option tactic.hygienic false
set_option linter.all false
local macro_rules | `(tactic| omega) => `(tactic| first | lia -abstractProof | omega (config := {}))
local macro_rules
  | `(∃ $xs:binderIdent*, $b) => do
    if xs.size < 2 then Lean.Macro.throwUnsupported
    let f ← xs.foldrM (init := b) fun x a => match x with
      | `(Lean.binderIdent| $i:ident) => `(fun $i => $a)
      | _ => `(fun _ => $a)
    `($(Lean.mkIdent (.mkSimple s!"Ex{xs.size}")) $f)
local macro_rules
  | `(⋯) => `(by omega)
  | `(∅) => `(by kernel_rfl)
  | `(nofun) => `(by decide)
namespace Mine
open Lean
abbrev SL := List Syntax
def skK (p : Syntax) : String := match p.getKind with
  | .str _ s => s
  | _ => ""
def skNm (p : Name) : List String → Name
  | [] => p
  | x :: xs => skNm (.str p x) xs
def skT1 (x : Syntax) : Syntax := .node .none `Lean.Parser.Tactic.tacticSeq #[.node .none `Lean.Parser.Tactic.tacticSeq1Indented #[.node .none `null #[x]]]
def skW (xs : SL) : SL → List String → Syntax
  | st, [] => st.headD .missing
  | st, w :: ws => skW xs (match w.splitOn "/" with
    | [k, n] => let n := n.toNat!
      .node .none (if k == "null" || k == "group" || k == "hygieneInfo" then .mkSimple k else skNm (if k.startsWith "Term." then `Lean.Parser else `Lean.Parser.Tactic) (k.splitOn ".")) (st.take n).reverse.toArray :: st.drop n
    | _ => (if w == "$" then skT1 (st.headD .missing) :: st.drop 1 else if w == "?" then .node .none `Lean.Parser.Term.syntheticHole #[.atom .none "?", .atom .none "_"] :: st else if w.startsWith "#" then xs.getD (w.length - 1) .missing :: st else .atom .none w :: st)) ws
def skT (s : String) (xs : SL) : Syntax := skW xs [] (s.splitOn " ")
def skN (xs : SL) : Syntax := .node .none `null xs.toArray
def skId (s : String) : Syntax := mkIdent (.mkSimple s)
def skIs (s : String) : SL → SL
  | x :: y :: xs => x :: .atom .none s :: skIs s (y :: xs)
  | xs => xs
def skMp (s : String) : SL → SL
  | [] => []
  | x :: xs => skT s [x] :: skMp s xs
def skSq (xs : SL) : Syntax := skT "( # tacticSeq1Indented/1 tacticSeq/1 ) paren/3" [skN (skIs ";" xs)]
def skOr (xs : SL) : Syntax := skT "first # first/2" [skN (skMp "| # $ group/2" xs)]
def skRi (ps : SL) : SL := if ps.isEmpty then [] else [skT "rintro # null/0 rintro/3" [skN (skMp "# rintroPat.one/1" (skT "- rcasesPat.clear/1" [] :: ps))]]
def skG (c : String) (r : SL) : Nat → SL → SL
  | _, [] => r
  | i, x :: xs => skT "first | generalize null/0 # _ Term.hole/1 null/1 Term.app/2 = ## generalizeArg/4 null/1 null/0 generalize/3 ; fail_if_success clear ## null/1 clear/2 $ failIfSuccess/2 null/3 tacticSeq1Indented/1 tacticSeq/1 group/2 | skip skip/1 $ group/2 null/2 first/2" [skId (c ++ toString i), if x.isIdent then x else skId "_x"] :: skG c r (i + 1) xs
def skBl (p c : String) (n : Nat) (xs r : SL) : Syntax :=
  skSq (skT "refine no_implicit_lambda% # ? null/1 Term.app/2 Term.noImplicitLambda/2 refine/2" [skId (p ++ toString n)] :: skG (c ++ toString n) r 0 (xs.take n))
def skA (x : Syntax) (xs : SL) (rs : List SL) : Nat → SL
  | 0 => [skSq (skT "intro # null/1 intro/2" [if x.isIdent then x else skT "_ Term.hole/1" []] :: rs.headD [])]
  | n + 1 => if n ≤ xs.length then skBl "sk" "sk" (n + 1) (x :: xs) (rs.getD n []) :: skA x xs rs n else skA x xs rs n
def skD : SL → List SL
  | [] => [[]]
  | x :: xs => let rs := skD xs; [skOr (skA x xs rs 8)] :: rs
def skIn (xs : SL) : SL := (skD xs).headD []
def skU (p : Syntax) : Syntax := let k := skK p; if k == "rcasesPatLo" || (k == "one" && !p[0].isIdent) then p[0] else if k == "rcasesPatMed" && p[0].getNumArgs == 1 then p[0][0] else p
def skP (p : Syntax) : Syntax := skU (skU (skU p))
def skPs : SL → SL
  | [] => []
  | x :: xs => skP x :: skPs xs
def skV (p : Syntax) : Bool := skK p == "ignore" || (skK p == "one" && p[0].getId != `rfl)
def skSp : SL → SL × SL
  | [] => ([], [])
  | x :: xs => if skV x then let (a, b) := skSp xs; (x[0] :: a, b) else ([], x :: xs)
def skTu : SL → Syntax
  | [q] => q
  | qs => skT "⟨ # ⟩ rcasesPat.tuple/3" [skN (skIs "," (skMp "# null/1 rcasesPatMed/1 null/0 rcasesPatLo/2" qs))]
def skCs (p : Syntax) : SL := let h := skId "_h"; [skT "intro # null/1 intro/2" [h], skT "rcases null/0 # elimTarget/2 null/1 with ## null/1 rcasesPatMed/1 null/0 rcasesPatLo/2 null/2 rcases/3" [h, p]]
def skRv (xs : SL) : Syntax := skT "revert # revert/2" [skN xs]
def skF : Nat → SL → SL × SL × SL × SL
  | _, [] => ([], [], [], [])
  | i, q :: qs =>
    let (a, b, c, d) := skF (i + 1) qs
    let u := if skK q == "one" && skV q then q[0] else skId ("_u" ++ toString i)
    if skK q == "paren" then (q :: a, b, c, d) else
    (skT "# rcasesPat.one/1" [u] :: a, u :: b, if skV q || skK q == "tuple" then c else skT "subst # null/1 subst/2" [u] :: c, if skK q == "tuple" then skRv [u] :: skRi [q] ++ d else d)
def skE (is qs : SL) : Nat → SL
  | 0 => []
  | n + 1 => if n < is.length && n + 1 < qs.length then skBl "exI" "ch" (n + 1) is (skRi [skTu (qs.drop (n + 1))]) :: skE is qs n else skE is qs n
def skRun (ps : SL) : Syntax :=
  let (is, rs) := skSp ps
  if !is.isEmpty then skSq (skIn is ++ skRi rs) else
  let p := ps.headD .missing
  let t := if skK p != "tuple" then skSq (skCs p) else
    let qs := skPs p[1].getSepArgs.toList
    let (a, b, c, d) := skF 0 qs
    skOr (skE (skSp qs).1 qs 4 ++ (if qs.length < 2 then [] else [skSq (skT "refine # ? null/1 Term.app/2 refine/2" [skId "andI"] :: skRi [qs.headD .missing, skTu (qs.drop 1)])]) ++ [skSq (skCs (skTu a) ++ skRv b :: skIn b ++ c ++ d), skSq (skCs p)])
  if ps.length < 2 then t else skT "# <;> ## tactic_<;>_/3" (t :: skRi (ps.drop 1))
def skR (s : Syntax) : MacroM Syntax := match skPs s[1].getArgs.toList with
  | p :: ps => if skK p == "clear" then pure (skRun ps) else Macro.throwUnsupported
  | _ => Macro.throwUnsupported
def skO (s : Syntax) : MacroM Syntax :=
  let p := skP s[1][0]
  let e := s[3][1][0]
  let f := skT "refine ( ### hygieneInfo/1 Term.hygienicLParen/2 ? : # → _ Term.hole/1 Term.arrow/3 null/1 ) Term.typeAscription/5 ## null/1 Term.app/2 refine/2" [if s[2].getNumArgs == 0 then skT "_ Term.hole/1" [] else s[2][1], e, mkIdent .anonymous]
  if skK p == "paren" then pure (skSq [if e.isIdent then skOr [skRv [e], f] else f, skRun [skP p[1]]]) else Macro.throwUnsupported
def skJ (s : Syntax) : MacroM Syntax :=
  let t := s[1]
  let hs := s[2][1].getArgs.toList
  let ds := if t.isIdent then [t] else t[0] :: t[1].getArgs.toList
  if t.isIdent && hs.isEmpty then Macro.throwUnsupported else
  pure (skSq ((if hs.isEmpty then [] else [skRv hs]) ++ skRv ds :: skIn ds ++ (if hs.isEmpty then [] else [skT "intros # intros/2" [skN hs]])))
def skRw (s : Syntax) : MacroM Syntax :=
  if s[3].getNumArgs != 0 then Macro.throwUnsupported else
  match s[2][1].getSepArgs.toList with
  | [r] =>
    let e := skT "# .. Term.ellipsis/1 null/1 Term.app/2" [r[1]]
    let f := skT "with_reducible refine # ## ? null/2 Term.app/2 refine/2 $ withReducible/2"
    let n := skId (if r[0].getNumArgs == 0 then "rwG" else "rwH")
    pure (skOr [f [n, e], f [n, skT "# ## null/1 Term.app/2" [skId "propext", e]]])
  | rs => pure (skSq (skMp "rewrite null/0 optConfig/1 [ # null/1 ] rwRuleSeq/3 null/0 rewriteSeq/4" rs))
def skOa (n : Nat) : Nat → SL
  | 0 => []
  | i + 1 => skT ("with_reducible apply # apply/2 $ withReducible/2 <;> first | with_reducible assumption assumption/1 $ withReducible/2 $ group/2 | exact ## exact/2 $ group/2 null/2 first/2 tactic_<;>_/3") [skId s!"om{n}{i}", skId "rfl"] :: skOa n i
def skO0 : Nat → SL
  | 0 => []
  | i + 1 => skT "with_reducible exact # exact/2 $ withReducible/2" [skId s!"om0{i}"] :: skO0 i
def skOm (_ : Syntax) : MacroM Syntax := pure (skOr (skT "with_reducible assumption assumption/1 $ withReducible/2" [] :: skO0 11 ++ skOa 1 41 ++ skOa 2 32 ++ skOa 3 11))
end Mine
local macro_rules (kind := Lean.Parser.Tactic.omega) | s => if s[1][0].getNumArgs == 0 then Mine.skOm s else Lean.Macro.throwUnsupported
local macro_rules (kind := Lean.Parser.Tactic.rewriteSeq) | s => Mine.skRw s
local macro_rules (kind := Lean.Parser.Tactic.rintro) | s => Mine.skR s
local macro_rules (kind := Lean.Parser.Tactic.obtain) | s => Mine.skO s
local macro_rules (kind := Lean.Parser.Tactic.injection) | s => Mine.skJ s
def Mine.skDe (s : Lean.Syntax) : Lean.MacroM Lean.Syntax :=
 if s[0][4].getNumArgs == 0 && (s[1].isOfKind `Lean.Parser.Command.definition || s[1].isOfKind `Lean.Parser.Command.abbrev) then pure (s.setArg 0 (s[0].setArg 4 (Mine.skN [.node .none `Lean.Parser.Command.noncomputable #[.atom .none "noncomputable"]]))) else Lean.Macro.throwUnsupported
local macro_rules (kind := Lean.Parser.Command.declaration) | s => Mine.skDe s
namespace Mine
noncomputable section
def z00:=@decide_eq_true_eq
def z01:=@Bool.and_eq_true
def z02:=@Int.toNat_natCast
def z03:=@of_decide_eq_true
def z04:=@of_decide_eq_false
def z05:=@List.getElem?_eq_getElem
def z06:=@List.getElem?_eq_some_iff
def z07:=@Bool.eq_iff_iff
def z08:=@List.mem_of_getElem?
def z09:=@List.getElem?_append_left
def z10:=@List.getElem?_append_right
def z11:=@List.getElem?_map
def z12:=@List.length_append
def z13:=@List.length_filter_le
def z14:=@List.mem_cons_of_mem
def z15:=@Int.eq_ofNat_of_zero_le
def z16:=@Int.fdiv_eq_ediv_of_nonneg
def z19:=@Nat.lt_of_lt_of_le
def z20:=@Nat.le_trans
def z21:=@Nat.le_refl
def z22:=@Bool.false_ne_true
def z23:=@Nat.le_of_ble_eq_true
def z24:=@Nat.lt_of_le_of_lt
def z25:=@Int.natCast_nonneg
def z26:=@List.map_congr_left
def z27:=@List.getElem_of_mem
def z28:=@Int.toNat_of_nonneg
def z29:=@Nat.le_succ_of_le
def z30:=@Nat.div_lt_of_lt_mul
def z31:=@Nat.le_sub_one_of_lt
inductive Ex2 {gE gF:Type} (p:gE→gF→Prop):Prop|mk (a0:gE) (a1:gF) (h:p a0 a1):Ex2 p
inductive Ex3 {gE gF hN:Type} (p:gE→gF→hN→Prop):Prop|mk (a0:gE) (a1:gF) (a2:hN) (h:p a0 a1 a2):Ex3 p
inductive Ex4 {gE gF hN iT:Type} (p:gE→gF→hN→iT→Prop):Prop|mk (a0:gE) (a1:gF) (a2:hN) (a3:iT) (h:p a0 a1 a2 a3):Ex4 p
inductive Ex5 {gE gF hN iT kD:Type} (p:gE→gF→hN→iT→kD→Prop):Prop|mk (a0:gE) (a1:gF) (a2:hN) (a3:iT) (a4:kD) (h:p a0 a1 a2 a3 a4):Ex5 p
inductive Ex6 {gE gF hN iT kD mh:Type} (p:gE→gF→hN→iT→kD→mh→Prop):Prop|mk (a0:gE) (a1:gF) (a2:hN) (a3:iT) (a4:kD) (a5:mh) (h:p a0 a1 a2 a3 a4 a5):Ex6 p
inductive Ex7 {gE gF hN iT kD mh pz:Type} (p:gE→gF→hN→iT→kD→mh→pz→Prop):Prop|mk (a0:gE) (a1:gF) (a2:hN) (a3:iT) (a4:kD) (a5:mh) (a6:pz) (h:p a0 a1 a2 a3 a4 a5 a6):Ex7 p
inductive Ex8 {gE gF hN iT kD mh pz rh:Type} (p:gE→gF→hN→iT→kD→mh→pz→rh→Prop):Prop|mk (a0:gE) (a1:gF) (a2:hN) (a3:iT) (a4:kD) (a5:mh) (a6:pz) (a7:rh) (h:p a0 a1 a2 a3 a4 a5 a6 a7):Ex8 p
inductive Ex9 {gE gF hN iT kD mh pz rh vt:Type} (p:gE→gF→hN→iT→kD→mh→pz→rh→vt→Prop):Prop|mk (a0:gE) (a1:gF) (a2:hN) (a3:iT) (a4:kD) (a5:mh) (a6:pz) (a7:rh) (a8:vt) (h:p a0 a1 a2 a3 a4 a5 a6 a7 a8):Ex9 p
inductive Ex10 {gE gF hN iT kD mh pz rh vt yl:Type} (p:gE→gF→hN→iT→kD→mh→pz→rh→vt→yl→Prop):Prop|mk (a0:gE) (a1:gF) (a2:hN) (a3:iT) (a4:kD) (a5:mh) (a6:pz) (a7:rh) (a8:vt) (a9:yl) (h:p a0 a1 a2 a3 a4 a5 a6 a7 a8 a9):Ex10 p
inductive Ex11 {gE gF hN iT kD mh pz rh vt yl pq:Type} (p:gE→gF→hN→iT→kD→mh→pz→rh→vt→yl→pq→Prop):Prop|mk (a0:gE) (a1:gF) (a2:hN) (a3:iT) (a4:kD) (a5:mh) (a6:pz) (a7:rh) (a8:vt) (a9:yl) (Ee:pq) (h:p a0 a1 a2 a3 a4 a5 a6 a7 a8 a9 Ee):Ex11 p
inductive Ex14 {gE gF hN iT kD mh pz rh vt yl pq vo vp vq:Type} (p:gE→gF→hN→iT→kD→mh→pz→rh→vt→yl→pq→vo→vp→vq→Prop):Prop|mk (a0:gE) (a1:gF) (a2:hN) (a3:iT) (a4:kD) (a5:mh) (a6:pz) (a7:rh) (a8:vt) (a9:yl) (Ee:pq) (GH:vo) (GI:vp) (GJ:vq) (h:p a0 a1 a2 a3 a4 a5 a6 a7 a8 a9 Ee GH GI GJ):Ex14 p
inductive Ex18 {gE gF hN iT kD mh pz rh vt yl pq vo vp vq BE BF BG BH:Type} (p:gE→gF→hN→iT→kD→mh→pz→rh→vt→yl→pq→vo→vp→vq→BE→BF→BG→BH→Prop):Prop|mk (a0:gE) (a1:gF) (a2:hN) (a3:iT) (a4:kD) (a5:mh) (a6:pz) (a7:rh) (a8:vt) (a9:yl) (Ee:pq) (GH:vo) (GI:vp) (GJ:vq) (JR:BE) (JS:BF) (JT:BG) (JU:BH) (h:p a0 a1 a2 a3 a4 a5 a6 a7 a8 a9 Ee GH GI GJ JR JS JT JU):Ex18 p
inductive Ex20 {gE gF hN iT kD mh pz rh vt yl pq vo vp vq BE BF BG BH Jf Jg:Type} (p:gE→gF→hN→iT→kD→mh→pz→rh→vt→yl→pq→vo→vp→vq→BE→BF→BG→BH→Jf→Jg→Prop):Prop|mk (a0:gE) (a1:gF) (a2:hN) (a3:iT) (a4:kD) (a5:mh) (a6:pz) (a7:rh) (a8:vt) (a9:yl) (Ee:pq) (GH:vo) (GI:vp) (GJ:vq) (JR:BE) (JS:BF) (JT:BG) (JU:BH) (Oz:Jf) (OA:Jg) (h:p a0 a1 a2 a3 a4 a5 a6 a7 a8 a9 Ee GH GI GJ JR JS JT JU Oz OA):Ex20 p
@[elab_as_elim] theorem rwG.{u} {α:Sort u} {motive:α→Prop} {a b:α} (h:a=b) (g:motive b):motive a:=h▸g
@[elab_as_elim] theorem rwH.{u} {α:Sort u} {motive:α→Prop} {a b:α} (h:b=a) (g:motive b):motive a:=h▸g
theorem om00 {x:Nat}:1-x<2:=Nat.lt_succ_of_le (Nat.sub_le 1 x)
theorem om01 {x:Nat}:(0:Int)≤x:=z25 x
theorem om02 {x:Nat}:x<x+1:=Nat.lt_succ_self x
theorem om03 {x y:Nat}:x≤x+y:=Nat.le_add_right x y
theorem om04 {x y:Nat}:x≤y+x:=Nat.le_add_left x y
theorem om06 {x y:Nat}:x+y-x=y:=Nat.add_sub_cancel_left ..
theorem om08 {x y:Nat}:min x y≤y:=Nat.min_le_right x y
theorem om010 {k:Nat}:2^k-1<2^k:=Nat.sub_lt (Nat.two_pow_pos k) Nat.one_pos
theorem om10:∀{x:Nat},x<2→(1:Int)-x=((1-x:Nat):Int):=@nofun
theorem om11 {x:Nat} (h:x<2):((1-x:Nat):Int)=1-x:=(om10 h).symm
theorem om12:∀{x:Nat},x<2→x=0∨x=1:=@nofun
theorem om13:∀{x:Nat},x<8→x=0∨x=1∨x=2∨x=3∨x=4∨x=5∨x=6∨x=7:=@nofun
theorem om14:∀{x:Nat},x<7→x=0∨x=1∨x=2∨x=3∨x=4∨x=5∨x=6:=@nofun
theorem om15:∀{x:Nat},x<4→x=0∨x=1∨x=2∨x=3:=@nofun
theorem om16 {a b:Nat} (h:¬b<a):a≤b:=Nat.le_of_not_lt h
theorem om17 {a b:Nat} (h:¬b≤a):a<b:=Nat.lt_of_not_le h
theorem om18 {a b:Nat} (h:a<b):¬a=b:=Nat.ne_of_lt h
theorem om19 {a b:Nat} (h:a<b):¬b=a:=Nat.ne_of_gt h
theorem om110 {a b:Nat} (h:a<b):a≤b:=Nat.le_of_lt h
theorem om111 {a b:Nat} (h:a<b):¬b≤a:=Nat.not_le_of_lt h
theorem om114 {a b:Nat} (h:a<b):a≤b-1:=z31 h
theorem om115 {a b:Nat} (h:a<b):(b:Int)-1-a=((b-1-a:Nat):Int):=by rw[Int.ofNat_sub (z31 h),Int.ofNat_sub (Nat.zero_lt_of_lt h)];rfl
theorem om117 {a b:Nat} (h:a≤b):(a:Int)≤b:=Int.ofNat_le.mpr h
theorem om118 {a b:Nat} (h:(a:Int)<b):a<b:=Int.ofNat_lt.mp h
theorem om119 {a b:Nat} (h:a=b):a≤b:=Nat.le_of_eq h
theorem om120 {a b:Nat} (h:b=a):a≤b:=Nat.le_of_eq h.symm
theorem om121 {a b:Nat} (h:¬a=b):¬(a:Int)=b:=fun e=>h (Int.ofNat.inj e)
theorem om122 {a b:Nat} (h:a<b):0<b:=Nat.zero_lt_of_lt h
theorem om123 {a b:Nat} (h:a<b):a+1≤b:=h
theorem om124 {a b:Nat} (h:a+1≤b):a<b:=h
theorem om125 {a b:Nat} (h:a<b):a<b+1:=Nat.lt_succ_of_lt h
theorem om126 {a b:Nat} (h:a≤b):a<b+1:=Nat.lt_succ_of_le h
theorem om127 {a b:Nat} (h:a≤b):a≤b+1:=z29 h
theorem om128 {a b:Nat} (h:a<b+1):a≤b:=Nat.le_of_lt_succ h
theorem om129 {a b c:Nat} (h:a+b=c):a≤c:=h▸Nat.le_add_right a b
theorem om131 {a b:Nat} (h:a<b):1≤b-a:=Nat.sub_pos_of_lt h
theorem om132 {x:Nat} (h:¬x=0):x/2<x:=Nat.div_lt_self (Nat.pos_of_ne_zero h) nofun
theorem om133 {x:Nat} (h:0<x):x/2<x:=Nat.div_lt_self h nofun
theorem om134 {x:Nat} (h:3≤x):x-1<x:=Nat.sub_lt (z19 nofun h) Nat.one_pos
theorem om136 {a b c:Nat} (h:a<min b c):a<c:=z19 h (Nat.min_le_right ..)
theorem om137 {a b c:Nat} (h:a<min b c):a<b:=z19 h (Nat.min_le_left ..)
theorem om138:∀{x:Nat},x<2→1-(1-x)=x:=@nofun
theorem om139 {x:Nat} (h:x<6):6-(x+1)<6-x:=Nat.sub_lt_sub_left h (Nat.lt_succ_self x)
theorem om140 {x y:Nat} (h:x<y):x+(y-x-1)+1=y:=by rw[Nat.add_assoc,Nat.sub_add_cancel (Nat.sub_pos_of_lt h),Nat.add_sub_cancel' (Nat.le_of_lt h)]
theorem om20 {n a c:Nat} (h:n≤a) (q:Nat.ble (a+1) c=true):(n:Int).natAbs<c:=z24 h (z23 q)
theorem om21 {n a c:Nat} (h:n<a) (q:Nat.ble a c=true):(n:Int).natAbs<c:=z19 h (z23 q)
theorem om22 {n a c:Nat} (h:n≤a) (q:Nat.ble a c=true):n≤c:=z20 h (z23 q)
theorem om23 {n a c:Nat} (h:n<a) (q:Nat.ble a (c+1)=true):n≤c:=Nat.le_of_lt_succ (z19 h (z23 q))
theorem om24 {n a c:Nat} (h:n≤a) (q:Nat.ble (a+1) c=true):n<c:=z24 h (z23 q)
theorem om25 {n a c:Nat} (h:n<a) (q:Nat.ble a c=true):n<c:=z19 h (z23 q)
theorem om26 {n a c:Nat} (h:a≤n) (q:Nat.ble (c+1) a=true):c<n:=z19 (z23 q) h
theorem om27 {n a c:Nat} (h:a≤n) (q:Nat.ble c a=true):c≤n:=z20 (z23 q) h
theorem om28 {n a c:Nat} (h:a≤n) (q:Nat.ble (c+1) a=true):¬n=c:=Nat.ne_of_gt (z19 (z23 q) h)
theorem om29 {n a:Nat} {c:Int} (h:n≤a) (q:decide ((a:Int)<c)=true):(n:Int)<c:=Int.lt_of_le_of_lt (Int.ofNat_le.mpr h) (z03 q)
theorem om210 {n a:Nat} {c:Int} (h:n≤a) (q:decide ((a:Int)≤c)=true):(n:Int)≤c:=Int.le_trans (Int.ofNat_le.mpr h) (z03 q)
theorem om211 {n a:Nat} {c:Int} (h:n<a) (q:decide ((a:Int)≤c)=true):(n:Int)<c:=Int.lt_of_lt_of_le (Int.ofNat_lt.mpr h) (z03 q)
theorem om213 {a b c:Nat} (q:b≤c) (h:a≤b):a≤c:=z20 h q
theorem om215 {a b c:Nat} (q:b≤c) (h:a<b):a<c:=z19 h q
theorem om219 {a b c:Nat} (q:b=c) (h:a<b):a<c:=q▸h
theorem om220 {a b c:Nat} (h:a<b) (q:c=b):a<c:=q▸h
theorem om223 {a b c:Nat} (h:a=b) (q:b<c):a<c:=h▸q
theorem om224:∀{n:Nat},2≤n→n≤5→n=2∨n=3∨n=4∨n=5:=fun h q=>(by decide:∀n,n<6→2≤n→n=2∨n=3∨n=4∨n=5) _ (Nat.lt_succ_of_le q) h
theorem om226 {a b c:Nat} (h:a<b) (q:b≤c):¬a=c:=Nat.ne_of_lt (z19 h q)
theorem om227 {a b c:Nat} (h:a<b) (q:b≤c):¬c=a:=Nat.ne_of_gt (z19 h q)
theorem om230 {x d:Nat} (h:d≤x) (q:Nat.ble 1 d=true):(x:Int)-1=((x-1:Nat):Int):=(Int.ofNat_sub (z20 (z23 q) h)).symm
theorem om231 {n d:Nat} (h:n<d) (q:Nat.ble 1 (n+1)=true):(d:Int)-1=((d-1:Nat):Int):=(Int.ofNat_sub (Nat.zero_lt_of_lt h)).symm
theorem om30 {n a d c:Nat} (h:n≤a) (h2:a≤d) (q:Nat.ble d c=true):n≤c:=z20 h (om22 h2 q)
theorem om31 {n a d:Nat} {c:Int} (h:n≤a) (h2:a≤d) (q:decide ((d:Int)<c)=true):(n:Int)<c:=om29 (z20 h h2) q
theorem om32 {n a d:Nat} {c:Int} (h:n≤a) (h2:a≤d) (q:decide ((d:Int)≤c)=true):(n:Int)≤c:=om210 (z20 h h2) q
theorem om33 {n a d:Nat} {c:Int} (h:n<a) (h2:a≤d) (q:decide ((d:Int)≤c)=true):(n:Int)<c:=om211 (z19 h h2) q
theorem om34 {n a d c:Nat} (h:n<a) (h2:a≤d) (q:Nat.ble d (c+1)=true):n≤c:=om23 (z19 h h2) q
theorem om35 {n a d c:Nat} (h:n=a) (h2:a≤d) (q:Nat.ble d c=true):n≤c:=om30 (Nat.le_of_eq h) h2 q
theorem om36 {n a d c:Nat} (h:n≤a) (h2:a≤d) (q:Nat.ble (d+1) c=true):(n:Int).natAbs<c:=om20 (z20 h h2) q
theorem om37 {a b c d:Nat} (h:a≤b) (h2:b≤c) (h3:c≤d):a≤d:=z20 (z20 h h2) h3
theorem om38 {a b c d:Nat} (h:a<b) (h2:b≤c) (h3:c≤d):a<d:=z19 (z19 h h2) h3
theorem om39 {a b c d:Nat} (h:a<b) (h2:b≤c) (h3:c≤d):¬a=d:=Nat.ne_of_lt (om38 h h2 h3)
theorem om310 {n a b c d:Nat} (h:a≤c) (h2:b≤d) (q:Nat.ble (c+d) n=true):a+b≤n:=z20 (Nat.add_le_add h h2) (z23 q)
def sk10 {A0:Type} {i0:Nonempty A0} (P:A0→Prop):A0:=Classical.epsilon fun x=>¬P x
def ch10 {A0:Type} {i0:Nonempty A0} (P:A0→Prop):A0:=Classical.epsilon P
theorem sk1 {A0:Type} [i0:Nonempty A0] {P:A0→Prop} (h:P (@sk10 A0 i0 P)):∀x,P x:=fun x=>Classical.byContradiction fun n=>Classical.epsilon_spec (p:=fun x=>¬P x) ⟨x,n⟩ h
theorem exI1 {A0:Type} [i0:Nonempty A0] {P:A0→Prop} {G:Prop} (h:P (@ch10 A0 i0 P)→G):(∃x,P x)→G:=fun e=>h (Classical.epsilon_spec e)
theorem andI {a b G:Prop} (h:a→b→G):a∧b→G:=fun⟨x,y⟩=>h x y
section
variable {A0 A1 A2 A3 A4 A5 A6 A7:Type}
section
variable {i:Nonempty (A0×A1)} (P:A0→A1→Prop)
def sk22:=@sk10 (A0×A1) i fun t=>P t.1 t.2
def sk20:A0:=(@sk22 _ _ i P).1
def sk21:A1:=(@sk22 _ _ i P).2
def ch22:=@ch10 (A0×A1) i fun t=>P t.1 t.2
def ch20:A0:=(@ch22 _ _ i P).1
def ch21:A1:=(@ch22 _ _ i P).2
end
theorem sk2 [i:Nonempty (A0×A1)] {P:A0→A1→Prop} (h:P (@sk20 _ _ i P) (@sk21 _ _ i P)):∀x0 x1,P x0 x1:=fun x0 x1=>@sk1 _ i (fun t=>P t.1 t.2) h (x0,x1)
theorem exI2 [i:Nonempty (A0×A1)] {P:A0→A1→Prop} {G:Prop} (h:P (@ch20 _ _ i P) (@ch21 _ _ i P)→G):Ex2 P→G:=fun⟨x0,x1,q⟩=>h (@Classical.epsilon_spec _ (fun t:A0×A1=>P t.1 t.2) ⟨(x0,x1),q⟩)
section
variable {i:Nonempty (A0×A1×A2)} (P:A0→A1→A2→Prop)
def sk33:=@sk10 (A0×A1×A2) i fun t=>P t.1 t.2.1 t.2.2
def sk30:A0:=(@sk33 _ _ _ i P).1
def sk31:A1:=(@sk33 _ _ _ i P).2.1
def sk32:A2:=(@sk33 _ _ _ i P).2.2
def ch33:=@ch10 (A0×A1×A2) i fun t=>P t.1 t.2.1 t.2.2
def ch30:A0:=(@ch33 _ _ _ i P).1
def ch31:A1:=(@ch33 _ _ _ i P).2.1
def ch32:A2:=(@ch33 _ _ _ i P).2.2
end
theorem sk3 [i:Nonempty (A0×A1×A2)] {P:A0→A1→A2→Prop} (h:P (@sk30 _ _ _ i P) (@sk31 _ _ _ i P) (@sk32 _ _ _ i P)):∀x0 x1 x2,P x0 x1 x2:=fun x0 x1 x2=>@sk1 _ i (fun t=>P t.1 t.2.1 t.2.2) h (x0,x1,x2)
theorem exI3 [i:Nonempty (A0×A1×A2)] {P:A0→A1→A2→Prop} {G:Prop} (h:P (@ch30 _ _ _ i P) (@ch31 _ _ _ i P) (@ch32 _ _ _ i P)→G):Ex3 P→G:=fun⟨x0,x1,x2,q⟩=>h (@Classical.epsilon_spec _ (fun t:A0×A1×A2=>P t.1 t.2.1 t.2.2) ⟨(x0,x1,x2),q⟩)
section
variable {i:Nonempty (A0×A1×A2×A3)} (P:A0→A1→A2→A3→Prop)
def sk44:=@sk10 (A0×A1×A2×A3) i fun t=>P t.1 t.2.1 t.2.2.1 t.2.2.2
def sk40:A0:=(@sk44 _ _ _ _ i P).1
def sk41:A1:=(@sk44 _ _ _ _ i P).2.1
def sk42:A2:=(@sk44 _ _ _ _ i P).2.2.1
def sk43:A3:=(@sk44 _ _ _ _ i P).2.2.2
def ch44:=@ch10 (A0×A1×A2×A3) i fun t=>P t.1 t.2.1 t.2.2.1 t.2.2.2
def ch40:A0:=(@ch44 _ _ _ _ i P).1
def ch41:A1:=(@ch44 _ _ _ _ i P).2.1
def ch42:A2:=(@ch44 _ _ _ _ i P).2.2.1
def ch43:A3:=(@ch44 _ _ _ _ i P).2.2.2
end
theorem sk4 [i:Nonempty (A0×A1×A2×A3)] {P:A0→A1→A2→A3→Prop} (h:P (@sk40 _ _ _ _ i P) (@sk41 _ _ _ _ i P) (@sk42 _ _ _ _ i P) (@sk43 _ _ _ _ i P)):∀x0 x1 x2 x3,P x0 x1 x2 x3:=fun x0 x1 x2 x3=>@sk1 _ i (fun t=>P t.1 t.2.1 t.2.2.1 t.2.2.2) h (x0,x1,x2,x3)
theorem exI4 [i:Nonempty (A0×A1×A2×A3)] {P:A0→A1→A2→A3→Prop} {G:Prop} (h:P (@ch40 _ _ _ _ i P) (@ch41 _ _ _ _ i P) (@ch42 _ _ _ _ i P) (@ch43 _ _ _ _ i P)→G):Ex4 P→G:=fun⟨x0,x1,x2,x3,q⟩=>h (@Classical.epsilon_spec _ (fun t:A0×A1×A2×A3=>P t.1 t.2.1 t.2.2.1 t.2.2.2) ⟨(x0,x1,x2,x3),q⟩)
section
variable {i:Nonempty (A0×A1×A2×A3×A4)} (P:A0→A1→A2→A3→A4→Prop)
def sk55:=@sk10 (A0×A1×A2×A3×A4) i fun t=>P t.1 t.2.1 t.2.2.1 t.2.2.2.1 t.2.2.2.2
def sk50:A0:=(@sk55 _ _ _ _ _ i P).1
def sk51:A1:=(@sk55 _ _ _ _ _ i P).2.1
def sk52:A2:=(@sk55 _ _ _ _ _ i P).2.2.1
def sk53:A3:=(@sk55 _ _ _ _ _ i P).2.2.2.1
def sk54:A4:=(@sk55 _ _ _ _ _ i P).2.2.2.2
end
theorem sk5 [i:Nonempty (A0×A1×A2×A3×A4)] {P:A0→A1→A2→A3→A4→Prop} (h:P (@sk50 _ _ _ _ _ i P) (@sk51 _ _ _ _ _ i P) (@sk52 _ _ _ _ _ i P) (@sk53 _ _ _ _ _ i P) (@sk54 _ _ _ _ _ i P)):∀x0 x1 x2 x3 x4,P x0 x1 x2 x3 x4:=fun x0 x1 x2 x3 x4=>@sk1 _ i (fun t=>P t.1 t.2.1 t.2.2.1 t.2.2.2.1 t.2.2.2.2) h (x0,x1,x2,x3,x4)
section
variable {i:Nonempty (A0×A1×A2×A3×A4×A5)} (P:A0→A1→A2→A3→A4→A5→Prop)
def sk66:=@sk10 (A0×A1×A2×A3×A4×A5) i fun t=>P t.1 t.2.1 t.2.2.1 t.2.2.2.1 t.2.2.2.2.1 t.2.2.2.2.2
def sk60:A0:=(@sk66 _ _ _ _ _ _ i P).1
def sk61:A1:=(@sk66 _ _ _ _ _ _ i P).2.1
def sk62:A2:=(@sk66 _ _ _ _ _ _ i P).2.2.1
def sk63:A3:=(@sk66 _ _ _ _ _ _ i P).2.2.2.1
def sk64:A4:=(@sk66 _ _ _ _ _ _ i P).2.2.2.2.1
def sk65:A5:=(@sk66 _ _ _ _ _ _ i P).2.2.2.2.2
end
theorem sk6 [i:Nonempty (A0×A1×A2×A3×A4×A5)] {P:A0→A1→A2→A3→A4→A5→Prop} (h:P (@sk60 _ _ _ _ _ _ i P) (@sk61 _ _ _ _ _ _ i P) (@sk62 _ _ _ _ _ _ i P) (@sk63 _ _ _ _ _ _ i P) (@sk64 _ _ _ _ _ _ i P) (@sk65 _ _ _ _ _ _ i P)):∀x0 x1 x2 x3 x4 x5,P x0 x1 x2 x3 x4 x5:=fun x0 x1 x2 x3 x4 x5=>@sk1 _ i (fun t=>P t.1 t.2.1 t.2.2.1 t.2.2.2.1 t.2.2.2.2.1 t.2.2.2.2.2) h (x0,x1,x2,x3,x4,x5)
section
variable {i:Nonempty (A0×A1×A2×A3×A4×A5×A6)} (P:A0→A1→A2→A3→A4→A5→A6→Prop)
def sk77:=@sk10 (A0×A1×A2×A3×A4×A5×A6) i fun t=>P t.1 t.2.1 t.2.2.1 t.2.2.2.1 t.2.2.2.2.1 t.2.2.2.2.2.1 t.2.2.2.2.2.2
def sk70:A0:=(@sk77 _ _ _ _ _ _ _ i P).1
def sk71:A1:=(@sk77 _ _ _ _ _ _ _ i P).2.1
def sk72:A2:=(@sk77 _ _ _ _ _ _ _ i P).2.2.1
def sk73:A3:=(@sk77 _ _ _ _ _ _ _ i P).2.2.2.1
def sk74:A4:=(@sk77 _ _ _ _ _ _ _ i P).2.2.2.2.1
def sk75:A5:=(@sk77 _ _ _ _ _ _ _ i P).2.2.2.2.2.1
def sk76:A6:=(@sk77 _ _ _ _ _ _ _ i P).2.2.2.2.2.2
end
theorem sk7 [i:Nonempty (A0×A1×A2×A3×A4×A5×A6)] {P:A0→A1→A2→A3→A4→A5→A6→Prop} (h:P (@sk70 _ _ _ _ _ _ _ i P) (@sk71 _ _ _ _ _ _ _ i P) (@sk72 _ _ _ _ _ _ _ i P) (@sk73 _ _ _ _ _ _ _ i P) (@sk74 _ _ _ _ _ _ _ i P) (@sk75 _ _ _ _ _ _ _ i P) (@sk76 _ _ _ _ _ _ _ i P)):∀x0 x1 x2 x3 x4 x5 x6,P x0 x1 x2 x3 x4 x5 x6:=fun x0 x1 x2 x3 x4 x5 x6=>@sk1 _ i (fun t=>P t.1 t.2.1 t.2.2.1 t.2.2.2.1 t.2.2.2.2.1 t.2.2.2.2.2.1 t.2.2.2.2.2.2) h (x0,x1,x2,x3,x4,x5,x6)
section
variable {i:Nonempty (A0×A1×A2×A3×A4×A5×A6×A7)} (P:A0→A1→A2→A3→A4→A5→A6→A7→Prop)
def sk88:=@sk10 (A0×A1×A2×A3×A4×A5×A6×A7) i fun t=>P t.1 t.2.1 t.2.2.1 t.2.2.2.1 t.2.2.2.2.1 t.2.2.2.2.2.1 t.2.2.2.2.2.2.1 t.2.2.2.2.2.2.2
def sk80:A0:=(@sk88 _ _ _ _ _ _ _ _ i P).1
def sk81:A1:=(@sk88 _ _ _ _ _ _ _ _ i P).2.1
def sk82:A2:=(@sk88 _ _ _ _ _ _ _ _ i P).2.2.1
def sk83:A3:=(@sk88 _ _ _ _ _ _ _ _ i P).2.2.2.1
def sk84:A4:=(@sk88 _ _ _ _ _ _ _ _ i P).2.2.2.2.1
def sk85:A5:=(@sk88 _ _ _ _ _ _ _ _ i P).2.2.2.2.2.1
def sk86:A6:=(@sk88 _ _ _ _ _ _ _ _ i P).2.2.2.2.2.2.1
def sk87:A7:=(@sk88 _ _ _ _ _ _ _ _ i P).2.2.2.2.2.2.2
end
theorem sk8 [i:Nonempty (A0×A1×A2×A3×A4×A5×A6×A7)] {P:A0→A1→A2→A3→A4→A5→A6→A7→Prop} (h:P (@sk80 _ _ _ _ _ _ _ _ i P) (@sk81 _ _ _ _ _ _ _ _ i P) (@sk82 _ _ _ _ _ _ _ _ i P) (@sk83 _ _ _ _ _ _ _ _ i P) (@sk84 _ _ _ _ _ _ _ _ i P) (@sk85 _ _ _ _ _ _ _ _ i P) (@sk86 _ _ _ _ _ _ _ _ i P) (@sk87 _ _ _ _ _ _ _ _ i P)):∀x0 x1 x2 x3 x4 x5 x6 x7,P x0 x1 x2 x3 x4 x5 x6 x7:=fun x0 x1 x2 x3 x4 x5 x6 x7=>@sk1 _ i (fun t=>P t.1 t.2.1 t.2.2.1 t.2.2.2.1 t.2.2.2.2.1 t.2.2.2.2.2.1 t.2.2.2.2.2.2.1 t.2.2.2.2.2.2.2) h (x0,x1,x2,x3,x4,x5,x6,x7)
end
theorem zH {F a:Nat} {x:Int} (h:3≤F) (h1: -1≤x) (h2:x≤1) (ha:a<F):((¬0<x∨¬a=F-1)∧(¬x<0∨¬a=0))↔0≤(a:Int)+x∧(a:Int)+x<F:=by
 have e:x= -1∨x=0∨x=1:=⋯
 rcases e with rfl|rfl|rfl
 · exact⟨fun h=>⟨by have:=h.2.resolve_left (fun q=>q nofun);omega,⋯⟩,fun h=>⟨.inl nofun,.inr ⋯⟩⟩
 · exact⟨fun _=>⟨⋯,⋯⟩,fun _=>⟨.inl nofun,.inl nofun⟩⟩
 · exact⟨fun h=>⟨⋯,by have:=h.1.resolve_left (fun q=>q nofun);omega⟩,fun h=>⟨.inr ⋯,.inl nofun⟩⟩
theorem Fj (a b:Nat):((min a b:Nat):Int)=min (a:Int) (b:Int):=by
 rcases Nat.le_total a b with h|h
 · rw[Nat.min_eq_left h,Int.min_eq_left (Int.ofNat_le.mpr h)]
 · rw[Nat.min_eq_right h,Int.min_eq_right (Int.ofNat_le.mpr h)]
theorem Lv (a b:Nat):((max a b:Nat):Int)=max (a:Int) (b:Int):=by
 rcases Nat.le_total a b with h|h
 · rw[Nat.max_eq_right h,Int.max_eq_right (Int.ofNat_le.mpr h)]
 · rw[Nat.max_eq_left h,Int.max_eq_left (Int.ofNat_le.mpr h)]
theorem g6 {n F:Nat} (h:3≤F):min (max (n:Int) 1) ((F:Int)-2)=((min (max n 1) (F-2):Nat):Int):=by
 rw[Fj,Lv,Int.ofNat_sub (z20 nofun h)];rfl
theorem g7 {n F:Nat} (h:3≤F):1≤min (max n 1) (F-2)∧min (max n 1) (F-2)+1<F:=by
 refine⟨Nat.le_min.mpr ⟨Nat.le_max_right ..,⋯⟩,?_⟩;have:=Nat.min_le_right (max n 1) (F-2);generalize min (max n 1) (F-2)=m at*;omega
theorem qG {n m:Nat} (h:n<m):min (n:Int) ((m:Int)-1-n)=((min n (m-1-n):Nat):Int):=by
 rw[Fj,Int.ofNat_sub ⋯,Int.ofNat_sub ⋯];rfl
theorem NU {x y:Int} {a b c:Nat} (hx:x.natAbs<a) (hy:y.natAbs<b) (h:Nat.ble (a+b) c=true):(x-y).natAbs<c:=
 z24 (Int.natAbs_sub_le x y) (z19 (Nat.add_lt_add hx hy) (z23 h))
theorem Qk {x y:Int} {a b c:Nat} (hx:x.natAbs<a) (hy:y.natAbs<b) (h:Nat.ble (a+b) c=true):(x+y).natAbs<c:=
 z24 (Int.natAbs_add_le x y) (z19 (Nat.add_lt_add hx hy) (z23 h))
theorem NT {n a c:Nat} (h:n≤a) (q:Nat.ble (a+1) c=true):(n:Int).natAbs<c:=z24 h (z23 q)
theorem Cs {x y:Int} (hy:0<y):(x.fdiv y).natAbs≤x.natAbs+y.natAbs:=by
 have h3:=Int.mul_fdiv_add_fmod x y;have h7:(y*x.fdiv y).natAbs≤x.natAbs+y.natAbs:=by
  rw[show y*x.fdiv y=x-x.fmod y from by rw[Int.fmod_def,Int.sub_sub_self]];exact z20 (Int.natAbs_sub_le ..) (Nat.add_le_add_left (Nat.le_of_lt (Int.natAbs_lt_natAbs_of_nonneg_of_lt (Int.fmod_nonneg_of_pos x hy) (Int.fmod_lt_of_pos x hy))) _)
 rw[Int.natAbs_mul]at h7;exact z20 (Nat.le_mul_of_pos_left _ (Int.natAbs_pos.mpr (Int.ne_of_gt hy))) h7
theorem ja {v:Int} {sd kd:Nat} (h:v=8*sd+kd) (hk:kd≤7):v/8=sd:=by
 subst h;rw[Int.mul_add_ediv_left _ _ nofun,Int.ediv_eq_zero_of_lt (z25 _) ⋯,Int.add_zero]
theorem oY {v:Int} {sd kd:Nat} (h:v=8*sd+kd) (hk:kd≤7):v % 8=kd:=by
 subst h;rw[Int.mul_add_emod_self_left,Int.emod_eq_of_lt (z25 _) ⋯]
theorem xY {v:Int} {sd kd:Nat} (h:v=8*sd+kd) (hk:1≤kd):v≠0:=⋯
theorem xi {a b n:Nat} (ha:a≤n) (hb:b≤n):a=n-b↔n-a=b:=⟨fun h=>by rw[h,Nat.sub_sub_self hb],fun h=>by rw[←h,Nat.sub_sub_self ha]⟩
theorem NO {m:Nat} (h:1≤m):m<3↔m=1∨m=2:=⟨fun q=>(by decide:∀m,m<3→1≤m→m=1∨m=2) m q h,fun q=>q.elim (· ▸by decide) (· ▸by decide)⟩
theorem L4 {v:Int} (h:v=0∨(1≤v∧v≤6)∨(9≤v∧v≤14)):∃n:Nat,v=n∧n<15∧(n=0∨1≤n % 8∧n % 8≤6):=by
 have d:∀n:Nat,n<15→n=7∨n=8∨n=0∨1≤n % 8∧n % 8≤6:=by decide
 rcases h with rfl|⟨a,b⟩|⟨a,b⟩
 · exact⟨0,rfl,by decide,.inl rfl⟩
 · obtain⟨n,rfl⟩:=z15 (Int.le_trans nofun a);have b:n≤6:=Int.ofNat_le.mp b;have l:n<15:=om24 b rfl;exact⟨n,rfl,l,(d n l).elim (fun e=>absurd (e▸b) nofun) fun q=>q.elim (fun e=>absurd (e▸b) nofun) id⟩
 · obtain⟨n,rfl⟩:=z15 (Int.le_trans nofun a);have a:9≤n:=Int.ofNat_le.mp a;have l:n<15:=om24 (Int.ofNat_le.mp b) rfl;exact⟨n,rfl,l,(d n l).elim (fun e=>absurd (e▸a) nofun) fun q=>q.elim (fun e=>absurd (e▸a) nofun) id⟩
theorem vb {v:Int} (h:v=0∨(1≤v∧v≤6)∨(9≤v∧v≤14)) (h0:v≠0):∃sd kd:Nat,sd<2∧1≤kd∧kd≤6∧v=8*sd+kd:=by
 obtain⟨n,rfl,l,k⟩:=L4 h;have⟨k1,k6⟩:=k.resolve_left fun e=>h0 (e▸rfl);exact⟨n/8,n % 8,z30 (om25 l rfl),k1,k6,congrArg Int.ofNat (Nat.div_add_mod n 8).symm⟩
theorem DZ {v:Int} {sd:Nat} (h:v=0∨(1≤v∧v≤6)∨(9≤v∧v≤14)) (h0:v≠0) (hd:v/8=sd):∃kd:Nat,v=8*sd+kd∧1≤kd∧kd≤6:=by
 obtain⟨BU,kd,_,h1,h6,e⟩:=vb h h0;have:BU=sd:=Int.ofNat.inj ((ja e (z29 h6)).symm.trans hd);exact⟨kd,this▸e,h1,h6⟩
theorem AV {v:Int} {sd k:Nat} (h1:1≤k) (h6:k≤7):(v≠0∧v/8=sd)∧v≠0∧v % 8=k↔v=8*sd+k:=
 ⟨fun h=>by rw[←h.1.2,←h.2.2,Int.mul_ediv_add_emod],fun h=>⟨⟨xY h h1,ja h h6⟩,xY h h1,oY h h6⟩⟩
theorem IS {v:Int} (h:v=0∨(1≤v∧v≤6)∨(9≤v∧v≤14)):(v≠0∧v/8=(0:Nat)∨v≠0∧v/8=(1:Nat))↔v≠0:=by
 refine⟨fun q=>q.elim (·.1) (·.1),fun h0=>?_⟩;obtain⟨sd,kd,hs,h1,h6,e⟩:=vb h h0;have:=ja e (z29 h6);rcases Nat.lt_or_ge sd 1 with q|q
 · exact .inl ⟨h0,by rw[this,Nat.lt_one_iff.mp q]⟩
 · exact .inr ⟨h0,by rw[this,Nat.le_antisymm (Nat.le_of_lt_succ hs) q]⟩
theorem IT {v:Int} (h:v=0∨(1≤v∧v≤6)∨(9≤v∧v≤14)):¬v=5∧¬v=13↔v=0∨¬v % 8=5:=by
 refine⟨fun⟨a,b⟩=>.inr ?_,fun q=>⟨?_,?_⟩⟩
 · obtain⟨n,rfl,l,_⟩:=L4 h;exact fun e=>(by decide:∀n:Nat,n<15→n % 8=5→n=5∨n=13) n l (Int.ofNat.inj e)|>.elim (fun q=>a (q▸rfl)) fun q=>b (q▸rfl)
 · rintro rfl;exact q.elim nofun fun q=>q rfl
 · rintro rfl;exact q.elim nofun fun q=>q rfl
theorem C6 {v:Int} {sd k:Nat} (h1:1≤k) (h6:k≤7):(v≠0∧v % 8=k)∧v≠0∧v/8=sd↔v=k+(sd:Int)*8:=by
 rw[Int.add_comm,Int.mul_comm,←AV h1 h6];exact and_comm
theorem slt {a b c:Nat} (h:a<c):a-b<c:=z24 (Nat.sub_le a b) h
open PySem PySem.W PySem.Calls PyProof.Rows
def z17:=@Heap.get?_push_of_some
def z18:=@Heap.get?_none_of_le
abbrev Io:=List (Addr×Addr)
set_option genInjectivity false in
set_option genSizeOf false in
structure Cx where
 prog:Program
 w:World
 aA:Heap
 os:OsState
 mg:Str→Option Value
 mb:Str→Option Value
 jd:Io
 K:Frag
structure Ea (C:Cx):Prop where
 g:C.aA.Ns mainGlobals C.mg
 b:C.aA.Ns builtinsNs C.mb
 nolimit:C.aA.NoLimit
 blt:∀x:Str,x≠"__name__"→C.mb x=bootBuiltins x
 Ih:C.K.In C.aA
instance:Nonempty Shared:=⟨{}⟩
instance:Nonempty Around:=⟨{}⟩
instance iW:Nonempty World:=⟨⟨fun _ _=>0,{strHash:=fun _=>0,shareClass:=id,mergeTok:=id,idOf:=fun _=>0,idOfShared:=fun _ _=>0,followText:=fun _=>false,idOfImm:=fun _=>0}⟩⟩
instance:Nonempty Cx:=iW.elim fun w=>⟨⟨default,w,default,default,fun _=>none,fun _=>none,[],[]⟩⟩
def Cx.T (C:Cx):Nat:=C.jd.length
set_option genSizeOf false in
inductive V where
 |none
 |bool (b:Bool)
 |I (i:Int)
 |ref (n:Nat)
instance:Nonempty V:=⟨.none⟩
set_option genSizeOf false in
inductive O where
 |L (xs:List V)
 |tup (xs:List V)
 |range (a b s:Int)
 |inst (c:Addr) (fs:List (Str×V))
instance:Nonempty O:=⟨.L []⟩
abbrev Hp:=List O
inductive VR (ι:Io):V→Value→Prop
 |none:VR ι .none .none
 |bool (b:Bool):VR ι (.bool b) (.bool b)
 |I (i:Int) (t:Tok):VR ι (.I i) (.int i t)
 |ref {n:Nat} {p:Addr×Addr}:ι[n]? =some p→VR ι (.ref n) (.ref p.1)
inductive dS (ι:Io):List V→List Value→Prop
 |nil:dS ι [] []
 |cons {x xs v vs}:VR ι x v→dS ι xs vs→dS ι (x::xs) (v::vs)
inductive pA (ι:Io):List (Str×V)→List DictEntry→Prop
 |nil:pA ι [] []
 |cons {n x v t hh fs es}:VR ι x v→pA ι fs es→pA ι ((n,x)::fs) (⟨hh,.str n t,v⟩::es)
def OR (ι:Io) (h:Heap) (p:Addr×Addr):O→Prop
 |.L xs=>∃vs,h.PlainList p.1 vs∧dS ι xs vs.toList
 |.tup xs=>∃vs ep,h.get? p.1=some ⟨.type "tuple",none,.seq vs ep,#[]⟩∧dS ι xs vs.toList
 |.range a b s=>∃t u v,IsRange h p.1 a b s t u v
 |.inst c fs=>∃es n,h.get? p.1=some (instObj c p.2)∧h.get? p.2=some (dictOf es n)∧pA ι fs es
def foot (C:Cx) (ι:Io) (a:Addr):Prop:=C.aA.get? a=none∧∃p∈ι,a=p.1∨a=p.2
def Keeps (C:Cx) (ι:Io) (h h':Heap):Prop:=∀a o,h.get? a=some o→¬foot C ι a→h'.get? a=some o
inductive Ext (h:Heap) (ι bw:Io):Prop|mk (ε:Io) (e:bw=ι++ε) (n:∀p∈ε,h.get? p.1=none∧h.get? p.2=none):Ext h ι bw
structure Jl (C:Cx) (ι:Io) (H:Hp) (h:Heap):Prop where
 len:ι.length=H.length
 apart:ι.Pairwise fun p q=>p.1≠q.1∧p.1≠q.2∧p.2≠q.1∧p.2≠q.2
 own:∀(n:Nat) p,C.T≤n→ι[n]? =some p→C.aA.get? p.1=none∧C.aA.get? p.2=none
 jd:∃δ,ι=C.jd++δ
 obj:∀(n:Nat) p o,ι[n]? =some p→H[n]? =some o→OR ι h p o
 ex:∀p∈ι,(h.get? p.1).isSome=true∧(h.get? p.2).isSome=true
structure Bs (C:Cx) (ι:Io) (H:Hp) (s:Shared):Prop where
 keep:∀a o,C.aA.get? a=some o→s.heap.get? a=some o
 gens:s.gens=#[]
 os:s.os=C.os
 ok:Ea C
 sim:Jl C ι H s.heap
structure dM (k:Nat) (A:Around):Prop where
 handled:A.handled=none
 depth:A.depth+10*k<recursionLimit
 units:A.units+60*k<cLine
theorem VR.mono {ι bw:Io} {x v} (h:VR ι x v) {ε} (e:bw=ι++ε):VR bw x v:=by
 cases h with
 |none=>exact .none
 |bool b=>exact .bool b
 |I i t=>exact .I i t
 |ref hn=>
  refine .ref ?_;rw[e,z09 (z06.mp hn).1];exact hn
theorem dS.mono {ι bw:Io} {xs vs} (h:dS ι xs vs) {ε} (e:bw=ι++ε):dS bw xs vs:=by
 induction h with
 |nil=>exact .nil
 |cons a _ ih=>exact .cons (a.mono e) ih
theorem pA.mono {ι bw:Io} {xs vs} (h:pA ι xs vs) {ε} (e:bw=ι++ε):pA bw xs vs:=by
 induction h with
 |nil=>exact .nil
 |cons a _ ih=>exact .cons (a.mono e) ih
theorem dS.length {ι:Io} {xs vs} (h:dS ι xs vs):vs.length=xs.length:=by
 induction h with
 |nil=>rfl
 |cons _ _ ih=>simp[ih]
theorem dS.get {ι:Io} {xs vs} (h:dS ι xs vs) {i:Nat} {x} (e:xs[i]? =some x):∃v,vs[i]? =some v∧VR ι x v:=by
 induction h generalizing i with
 |nil=>simp at e
 |cons a _ ih=>cases i with
  |zero=>simp at e;subst e;exact⟨_,by simp,a⟩
  |succ i=>simp at e;simpa using ih e
theorem dS.append {ι:Io} {xs vs ys us} (h:dS ι xs vs) (h':dS ι ys us):dS ι (xs++ys) (vs++us):=by
 induction h with
 |nil=>exact h'
 |cons a _ ih=>exact .cons a ih
theorem dS.set {ι:Io} {xs vs x v} (h:dS ι xs vs) (hx:VR ι x v) (i:Nat):dS ι (xs.set i x) (vs.set i v):=by
 induction h generalizing i with
 |nil=>exact .nil
 |cons a hr ih=>cases i with
  |zero=>exact .cons hx hr
  |succ i=>exact .cons a (ih i)
theorem Ext.rfl (h:Heap) (ι:Io):Ext h ι ι:=⟨[],(List.append_nil _).symm,fun _ hp=>nomatch hp⟩
theorem Keeps.rfl (C:Cx) (ι:Io) (h:Heap):Keeps C ι h h:=fun _ _ e _=>e
theorem Ext.trans {C:Cx} {h h':Heap} {ι bw vu:Io} (x:Ext h ι bw) (k:Keeps C ι h h') (hx:∀p∈ι,(h'.get? p.1).isSome=true∧(h'.get? p.2).isSome=true) (y:Ext h' bw vu):Ext h ι vu:=by
 obtain⟨ε,rfl,wH⟩:=x;obtain⟨δ,rfl,oo⟩:=y;refine⟨ε++δ,List.append_assoc ..,fun p hp=>?_⟩;rcases List.mem_append.mp hp with hp|hp
 · exact wH p hp
 · have key:∀a,h'.get? a=none→h.get? a=none:=by
    intro a ha
    cases e:h.get? a with
    |none=>rfl
    |some o=>
     exfalso
     by_cases hf:foot C ι a
     · obtain⟨_,q,hq,e'⟩:=hf;have:=hx q hq;rcases e' with rfl|rfl
       · rw[ha]at this;simp at this
       · rw[ha]at this;simp at this
     · rw[k a o e hf]at ha;cases ha
   exact⟨key _ (oo p hp).1,key _ (oo p hp).2⟩
theorem Keeps.trans {C:Cx} {h h' uI:Heap} {ι bw:Io} (x:Ext h ι bw) (k:Keeps C ι h h') (k':Keeps C bw h' uI):Keeps C ι h uI:=by
 injection C h h' uI ι bw with x k k'
 rintro-a o e nf;refine k' a o (k a o e nf) ?_;rintro-hf;refine nf ?_;obtain(⟨h0,p,hp,e'⟩):=hf;obtain⟨ε,rfl,wH⟩:=x;rcases List.mem_append.mp hp with hp|hp
 · exact⟨h0,p,hp,e'⟩
 · exfalso
   have:=wH p hp;rcases e' with rfl|rfl
   · rw[this.1]at e;cases e
   · rw[this.2]at e;cases e
inductive bC {α β:Type} (C:Cx) (ι:Io) (h₀:Heap) (R:Io→β→α→Prop) (Q:β→Hp→Prop) (a:α) (s':Shared):Prop
 |mk (bw:Io) (b:β) (H':Hp) (hb:Bs C bw H' s') (he:Ext h₀ ι bw) (hk:Keeps C ι h₀ s'.heap) (hr:R bw b a) (hq:Q b H'):bC C ι h₀ R Q a s'
theorem bC.up {α β:Type} {C:Cx} {ι aj:Io} {h₀:Heap} {R:Io→β→α→Prop} {Q:β→Hp→Prop} {a:α} {s':Shared} {H₁:Hp} {s₁:Shared} (B:Bs C aj H₁ s₁) (x:Ext h₀ ι aj) (k:Keeps C ι h₀ s₁.heap)
 (p:bC C aj s₁.heap R Q a s'):bC C ι h₀ R Q a s':=by
 obtain⟨bw,b,H',hb,he,hk,hr,hq⟩:=p;refine⟨bw,b,H',hb,x.trans k (fun p hp=>?_) he,Keeps.trans x k hk,hr,hq⟩;obtain⟨ε,rfl,_⟩:=x;exact B.sim.ex p (List.mem_append_left _ hp)
def fM:Value→Shared→Prop:=fun _ _=>False
structure Loc (C:Cx) (names:List (Str×NameKind)) (env:Env) (ρ:List (Option V)) (ι:Io) (h:Heap):Prop where
 hn:env.scope.names=names
 hk:env.scope.kind=.function
 hg:env.globals=mainGlobals
 hb:env.builtins=builtinsNs
 nd:(names.map (·.1)).Nodup
 m:∃m,h.Ns env.locals m∧∀(j:Nat) (x:Str) (v:V),names[j]? =some (x,NameKind.local)→ρ[j]? =some (some v)→∃v',m x=some v'∧VR ι v v'
 cell:∀(j:Nat) (x:Str) (k:NameKind) (v:V),names[j]? =some (x,k)→(k=NameKind.cell∨k=NameKind.free)→ρ[j]? =some (some v)→∃c v',env.cells.lookup x=some c∧h.IsCell c (some v')∧VR ι v v'
 cells:∀x,(x,NameKind.cell)∈names→∃c,env.cells.lookup x=some c
 BK:∀x c,env.cells.lookup x=some c→∃tJ,h.IsCell c tJ
 qi:C.aA.get? env.locals=none∧¬foot C ι env.locals
 rH:∀x c,env.cells.lookup x=some c→C.aA.get? c=none∧¬foot C ι c
 kJ:∀x y c,env.cells.lookup x=some c→env.cells.lookup y=some c→x=y
theorem bZ {C:Cx} {h:Heap} {ι bw:Io} {a:Addr} {o:Obj} (x:Ext h ι bw) (e:h.get? a=some o) (nf:¬foot C ι a):¬foot C bw a:=by
 rintro⟨h0,p,hp,e'⟩;obtain⟨ε,rfl,wH⟩:=x;rcases List.mem_append.mp hp with hp|hp
 · exact nf ⟨h0,p,hp,e'⟩
 · have:=wH p hp;rcases e' with rfl|rfl
   · rw[this.1]at e;cases e
   · rw[this.2]at e;cases e
theorem wR {h:Heap} {a:Addr} {m} (n:h.Ns a m):∃o,h.get? a=some o:=let⟨o,_,_,e,_⟩:=n;⟨o,e⟩
theorem oq {h:Heap} {c:Addr} {v} (x:h.IsCell c v):∃o,h.get? c=some o:=let⟨o,e,_⟩:=x;⟨o,e⟩
theorem Loc.keep {C:Cx} {names env ρ} {ι bw:Io} {h h':Heap} (L:Loc C names env ρ ι h) (x:Ext h ι bw) (k:Keeps C ι h h'):Loc C names env ρ bw h':=by
 obtain⟨m,hm,hv⟩:=L.m;obtain⟨ε,F2,_⟩:=id x;obtain⟨oL,eL⟩:=wR hm;have kc:∀{y c v},env.cells.lookup y=some c→h.IsCell c v→h'.IsCell c v:=fun hy ⟨o,ho,hd⟩=>⟨o,k _ _ ho (L.rH _ _ hy).2,hd⟩;refine⟨L.hn,L.hk,L.hg,L.hb,L.nd,⟨m,?_,fun j y v h1 h2=>?_⟩,fun j y kd v h1 h2 h3=>?_,L.cells,fun y c hc=>?_,⟨L.qi.1,bZ x eL L.qi.2⟩,fun y c hc=>?_,L.kJ⟩
 · obtain⟨o,es,ep,e,r⟩:=hm;exact⟨o,es,ep,k _ _ e L.qi.2,r⟩
 · obtain⟨v',a,b⟩:=hv j y v h1 h2;exact⟨v',a,b.mono F2⟩
 · obtain⟨c,v',a,b,d⟩:=L.cell j y kd v h1 h2 h3;exact⟨c,v',a,kc a b,d.mono F2⟩
 · obtain⟨tJ,d⟩:=L.BK y c hc;exact⟨tJ,kc hc d⟩
 · obtain⟨tJ,d⟩:=L.BK y c hc;obtain⟨o,ho⟩:=oq d;exact⟨(L.rH y c hc).1,bZ x ho (L.rH y c hc).2⟩
structure G {α β:Type} (C:Cx) (k:Nat) (names:List (Str×NameKind)) (ρ:List (Option V)) (H:Hp) (t:Env→Sem α) (R:Io→β→α→Prop) (Q:β→Hp→Prop):Prop where
 out:∀A s ι env,dM k A→Bs C ι H s→Loc C names env ρ ι s.heap→wpAny (model C.prog C.w) A (t env) (bC C ι s.heap R Q) fM s
def EW (C:Cx) (k:Nat) (names:List (Str×NameKind)) (ρ:List (Option V)) (H:Hp) (e:Expr) (Q:V→Hp→Prop):Prop:=G C k names ρ H (eval e) VR Q
theorem G.run {α β:Type} {C:Cx} {k:Nat} {names ρ H} {t:Env→Sem α} {R:Io→β→α→Prop} {Q:β→Hp→Prop} {P:α→Shared→Prop} {A:Around} {s:Shared} {ι:Io} {env:Env} (g:G C k names ρ H t R Q) (hr:dM k A) (hb:Bs C ι H s) (hl:Loc C names env ρ ι s.heap)
 (h:∀a s₁ aj b H₁,Bs C aj H₁ s₁→Loc C names env ρ aj s₁.heap→Ext s.heap ι aj→Keeps C ι s.heap s₁.heap→R aj b a→Q b H₁→P a s₁):wpAny (model C.prog C.w) A (t env) P fM s:=
 wpAny_mono (g.out A s ι env hr hb hl) (fun a s₁ ⟨aj,b,H₁,z9,he,hk,hR,hq⟩=>h a s₁ aj b H₁ z9 (hl.keep he hk) he hk hR hq) fun _ _ x=>x
theorem aH {α:Type} {M:Model} {A:Around} {t:Sem α} {Q:α→Shared→Prop} {E:Value→Shared→Prop} {s:Shared} (h:wpAny M A t Q fM s):wpAny M A t Q E s:=wpAny_mono h (fun _ _ x=>x) fun _ _ x=>x.elim
theorem up {α β:Type} {C:Cx} {ι aj:Io} {h₀:Heap} {R:Io→β→α→Prop} {Q:β→Hp→Prop} {H₁:Hp} {s₁:Shared} {A:Around} {t:Sem α} (B:Bs C aj H₁ s₁) (x:Ext h₀ ι aj) (k:Keeps C ι h₀ s₁.heap)
 (h:wpAny (model C.prog C.w) A t (bC C aj s₁.heap R Q) fM s₁):wpAny (model C.prog C.w) A t (bC C ι h₀ R Q) fM s₁:=
 wpAny_mono h (fun _ _ p=>p.up B x k) fun _ _ x=>x
theorem cM {α β:Type} {C:Cx} {ι:Io} {R:Io→β→α→Prop} {Q:β→Hp→Prop} {a:α} {b:β} {H:Hp} {s:Shared} (B:Bs C ι H s) (r:R ι b a) (q:Q b H):bC C ι s.heap R Q a s:=
 ⟨ι,b,H,B,Ext.rfl _ _,Keeps.rfl _ _ _,r,q⟩
theorem Bs.tok {C:Cx} {ι:Io} {H:Hp} {s:Shared} (B:Bs C ι H s) (t:Nat):Bs C ι H {s with toks:=t}:=⟨B.keep,B.gens,B.os,B.ok,B.sim⟩
theorem bx {α β:Type} {C:Cx} {ι:Io} {R:Io→β→α→Prop} {Q:β→Hp→Prop} {a:α} {b:β} {H:Hp} {s:Shared} {t:Nat} (B:Bs C ι H s) (r:R ι b a) (q:Q b H):bC C ι s.heap R Q a {s with toks:=t}:=
 ⟨ι,b,H,B.tok t,Ext.rfl _ _,Keeps.rfl _ _ _,r,q⟩
section
variable {C:Cx} {k:Nat} {names:List (Str×NameKind)} {ρ:List (Option V)} {H:Hp} {Q:V→Hp→Prop}
theorem cw {α:Type}:∀{l:List (Str×α)} {j:Nat} {x:Str} {k:α},(l.map (·.1)).Nodup→l[j]? =some (x,k)→l.lookup x=some k
 |[],_,_,_,_,h=>by simp at h
 | (y,c)::r,0,x,k,_,h=>by simp at h;obtain⟨rfl,rfl⟩:=h;simp
 | (y,c)::r,j+1,x,k,nd,h=>by
  simp at h;have NV:=List.nodup_cons.mp nd;have hx:x∈r.map (·.1):=List.mem_map.mpr ⟨_,z08 h,rfl⟩;have ne:(x==y)=false:=by
   cases e:x==y with
   |false=>rfl
   |true=>rw[beq_iff_eq.mp e]at hx;exact absurd hx NV.1
  rw[List.lookup_cons,ne];exact cw NV.2 h
theorem Loc.kind {env:Env} {ι:Io} {h:Heap} (L:Loc C names env ρ ι h) {j:Nat} {x:Str} {kd:NameKind} (e:names[j]? =some (x,kd)):env.kindOf x=some kd:=by
 unfold Env.kindOf;rw[L.hn];exact cw L.nd e
theorem DS {env:Env} {ι:Io} {s:Shared} {A:Around} (L:Loc C names env ρ ι s.heap) (j:Nat) {x:Str} {kd:NameKind} {v:V} {P:Value→Shared→Prop} (e:names[j]? =some (x,kd)) (hk:kd≠.globalImplicit∧kd≠.globalExplicit) (hv:ρ[j]? =some (some v)) (h:∀v',VR ι v v'→P v' s)
 (hc:(x==("__classdict__":Str))=false):
 wpAny (model C.prog C.w) A (loadName env x) P fM s:=by
 have kx:=L.kind e
 cases kd with
 |«local»=>
  obtain⟨m,hm,hvs⟩:=L.m;obtain⟨v',hmv,r⟩:=hvs j x v e hv;exact wpAny_loadName_local L.hk kx hm hmv (h v' r)
 |cell=>
  obtain⟨c,v',hl,hcell,r⟩:=L.cell j x _ v e (.inl rfl) hv;exact wpAny_loadName_cell L.hk kx hl hcell (h v' r)
 |free=>
  obtain⟨c,v',hl,hcell,r⟩:=L.cell j x _ v e (.inr rfl) hv;exact wpAny_loadName_free L.hk kx hl hcell (h v' r) hc
 |globalImplicit=>exact absurd rfl hk.1
 |globalExplicit=>exact absurd rfl hk.2
end
structure BW (C:Cx) (k:Nat) (H:Hp) (op:Operator) (x y:V) (Q:V→Hp→Prop):Prop where
 out:∀A s ι a b,dM k A→Bs C ι H s→VR ι x a→VR ι y b→wpAny (model C.prog C.w) A (binaryOp op a b) (bC C ι s.heap VR Q) fM s
structure IW (C:Cx) (k:Nat) (H:Hp) (op:Operator) (x y:V) (Q:V→Hp→Prop):Prop where
 out:∀A s ι a b,dM k A→Bs C ι H s→VR ι x a→VR ι y b→wpAny (model C.prog C.w) A (inplaceOp op a b) (bC C ι s.heap VR Q) fM s
structure UW (C:Cx) (k:Nat) (H:Hp) (op:UnaryOp) (x:V) (Q:V→Hp→Prop):Prop where
 out:∀A s ι a,dM k A→Bs C ι H s→VR ι x a→wpAny (model C.prog C.w) A (unaryOp op a) (bC C ι s.heap VR Q) fM s
structure CW (C:Cx) (k:Nat) (H:Hp) (op:CmpOp) (x y:V) (Q:V→Hp→Prop):Prop where
 out:∀A s ι a b,dM k A→Bs C ι H s→VR ι x a→VR ι y b→wpAny (model C.prog C.w) A (compareOp op a b) (bC C ι s.heap VR Q) fM s
def BR (_:Io) (b b':Bool):Prop:=b=b'
structure bk (C:Cx) (k:Nat) (H:Hp) (x:V) (Q:Bool→Hp→Prop):Prop where
 out:∀A s ι a,dM k A→Bs C ι H s→VR ι x a→wpAny (model C.prog C.w) A (truthy a) (bC C ι s.heap BR Q) fM s
theorem ee {C:Cx} {ι aj aP:Io} {h₀:Heap} {H₁:Hp} {s₁:Shared} (B:Bs C aj H₁ s₁) (x:Ext h₀ ι aj) (k:Keeps C ι h₀ s₁.heap) (y:Ext s₁.heap aj aP):Ext h₀ ι aP:=
 x.trans k (fun p hp=>by obtain⟨ε,rfl,_⟩:=x;exact B.sim.ex p (List.mem_append_left _ hp)) y
theorem kk {C:Cx} {ι aj:Io} {h₀ aA bp:Heap} (x:Ext h₀ ι aj) (k:Keeps C ι h₀ aA) (k':Keeps C aj aA bp):Keeps C ι h₀ bp:=Keeps.trans x k k'
section
variable {C:Cx} {k:Nat} {H:Hp} {Q:V→Hp→Prop} {a b:Int}
theorem ax {ι:Io} {v:Value} (h:VR ι (.I a) v):∃t,v=.int a t:=by cases h with|I _ t=>exact⟨t,rfl⟩
theorem BW.add (h:Q (.I (a+b)) H):BW C k H .Add (.I a) (.I b) Q:=by
 refine⟨fun A s ι x y hr B hx hy=>?_⟩;obtain⟨t,rfl⟩:=ax hx;obtain⟨u,rfl⟩:=ax hy
 with_reducible exact P.add_int (bx B (.I _ _) h)
theorem BW.sub (h:Q (.I (a-b)) H):BW C k H .Sub (.I a) (.I b) Q:=by
 refine⟨fun A s ι x y hr B hx hy=>?_⟩;obtain⟨t,rfl⟩:=ax hx;obtain⟨u,rfl⟩:=ax hy
 with_reducible exact P.sub_int (bx B (.I _ _) h)
theorem DW (h:a.natAbs<2^64∨b.natAbs<2^64):IntMulOk a b:=by
 unfold IntMulOk;intro hh;simp only[z01,z00]at hh;have Kj:shortFactorBits=64:=rfl;rcases h with h|h
 · have:=intBits_le h;omega
 · have:=intBits_le h;omega
theorem BW.mul (hs:a.natAbs<2^64∨b.natAbs<2^64) (h:Q (.I (a*b)) H):BW C k H .Mult (.I a) (.I b) Q:=by
 refine⟨fun A s ι x y hr B hx hy=>?_⟩;obtain⟨t,rfl⟩:=ax hx;obtain⟨u,rfl⟩:=ax hy
 with_reducible exact P.mul_int (bx B (.I _ _) h) (DW hs)
theorem BW.mod (hb:b≠0) (h:Q (.I (a.fmod b)) H):BW C k H .Mod (.I a) (.I b) Q:=by
 refine⟨fun A s ι x y hr B hx hy=>?_⟩;obtain⟨t,rfl⟩:=ax hx;obtain⟨u,rfl⟩:=ax hy
 with_reducible exact mod_int' hb (bx B (.I _ _) h)
theorem BW.div (hb:b≠0) (ha:b.natAbs<1073741824) (h:Q (.I (a.fdiv b)) H):BW C k H .FloorDiv (.I a) (.I b) Q:=by
 refine⟨fun A s ι x y hr B hx hy=>?_⟩;obtain⟨t,rfl⟩:=ax hx;obtain⟨u,rfl⟩:=ax hy
 with_reducible exact floordiv_int hb (bx B (.I _ _) h) (.inl (PyProof.noPylong_small ha))
theorem BW.and (h:Q (.I (Builtin.bitAnd a b)) H):BW C k H .BitAnd (.I a) (.I b) Q:=by
 refine⟨fun A s ι x y hr B hx hy=>?_⟩;obtain⟨t,rfl⟩:=ax hx;obtain⟨u,rfl⟩:=ax hy
 with_reducible exact and_int (bx B (.I _ _) h)
theorem BW.or (h:Q (.I (Builtin.bitOr a b)) H):BW C k H .BitOr (.I a) (.I b) Q:=by
 refine⟨fun A s ι x y hr B hx hy=>?_⟩;obtain⟨t,rfl⟩:=ax hx;obtain⟨u,rfl⟩:=ax hy
 with_reducible exact or_int (bx B (.I _ _) h)
theorem BW.xor (h:Q (.I (Builtin.bitXor a b)) H):BW C k H .BitXor (.I a) (.I b) Q:=by
 refine⟨fun A s ι x y hr B hx hy=>?_⟩;obtain⟨t,rfl⟩:=ax hx;obtain⟨u,rfl⟩:=ax hy
 with_reducible exact xor_int (bx B (.I _ _) h)
theorem BW.shr (hb:0≤b) (h:Q (.I (a.fdiv (2^b.toNat))) H):BW C k H .RShift (.I a) (.I b) Q:=by
 refine⟨fun A s ι x y hr B hx hy=>?_⟩;obtain⟨t,rfl⟩:=ax hx;obtain⟨u,rfl⟩:=ax hy
 with_reducible exact rshift_int hb (bx B (.I _ _) h)
theorem BW.shl (hb:0≤b) (z7:b≤1000000) (ha:a.natAbs<2^64) (h:Q (.I (a*2^b.toNat)) H):BW C k H .LShift (.I a) (.I b) Q:=by
 refine⟨fun A s ι x y hr B hx hy=>?_⟩;obtain⟨t,rfl⟩:=ax hx;obtain⟨u,rfl⟩:=ax hy
 with_reducible exact lshift_int_small hb z7 ha (bx B (.I _ _) h)
theorem IW.add (h:Q (.I (a+b)) H):IW C k H .Add (.I a) (.I b) Q:=by
 refine⟨fun A s ι x y hr B hx hy=>?_⟩;obtain⟨t,rfl⟩:=ax hx;obtain⟨u,rfl⟩:=ax hy
 with_reducible exact P.iadd_int (bx B (.I _ _) h)
theorem IW.sub (h:Q (.I (a-b)) H):IW C k H .Sub (.I a) (.I b) Q:=by
 refine⟨fun A s ι x y hr B hx hy=>?_⟩;obtain⟨t,rfl⟩:=ax hx;obtain⟨u,rfl⟩:=ax hy
 with_reducible exact P.isub_int (bx B (.I _ _) h)
theorem IW.mul (hs:a.natAbs<2^64∨b.natAbs<2^64) (h:Q (.I (a*b)) H):IW C k H .Mult (.I a) (.I b) Q:=by
 refine⟨fun A s ι x y hr B hx hy=>?_⟩;obtain⟨t,rfl⟩:=ax hx;obtain⟨u,rfl⟩:=ax hy
 with_reducible exact P.imul_int (bx B (.I _ _) h) (DW hs)
theorem IW.div (hb:b≠0) (ha:b.natAbs<1073741824) (h:Q (.I (a.fdiv b)) H):IW C k H .FloorDiv (.I a) (.I b) Q:=by
 refine⟨fun A s ι x y hr B hx hy=>?_⟩;obtain⟨t,rfl⟩:=ax hx;obtain⟨u,rfl⟩:=ax hy
 with_reducible exact ifloordiv_int hb (bx B (.I _ _) h) (.inl (PyProof.noPylong_small ha))
theorem IW.and (h:Q (.I (Builtin.bitAnd a b)) H):IW C k H .BitAnd (.I a) (.I b) Q:=by
 refine⟨fun A s ι x y hr B hx hy=>?_⟩;obtain⟨t,rfl⟩:=ax hx;obtain⟨u,rfl⟩:=ax hy
 with_reducible exact iand_int (bx B (.I _ _) h)
theorem IW.or (h:Q (.I (Builtin.bitOr a b)) H):IW C k H .BitOr (.I a) (.I b) Q:=by
 refine⟨fun A s ι x y hr B hx hy=>?_⟩;obtain⟨t,rfl⟩:=ax hx;obtain⟨u,rfl⟩:=ax hy
 with_reducible exact ior_int (bx B (.I _ _) h)
theorem IW.xor (h:Q (.I (Builtin.bitXor a b)) H):IW C k H .BitXor (.I a) (.I b) Q:=by
 refine⟨fun A s ι x y hr B hx hy=>?_⟩;obtain⟨t,rfl⟩:=ax hx;obtain⟨u,rfl⟩:=ax hy
 with_reducible exact ixor_int (bx B (.I _ _) h)
theorem IW.shr (hb:0≤b) (h:Q (.I (a.fdiv (2^b.toNat))) H):IW C k H .RShift (.I a) (.I b) Q:=by
 refine⟨fun A s ι x y hr B hx hy=>?_⟩;obtain⟨t,rfl⟩:=ax hx;obtain⟨u,rfl⟩:=ax hy
 with_reducible exact irshift_int hb (bx B (.I _ _) h)
theorem UW.neg (h:Q (.I (-a)) H):UW C k H .USub (.I a) Q:=by
 refine⟨fun A s ι x hr B hx=>?_⟩;obtain⟨t,rfl⟩:=ax hx
 with_reducible exact P.neg_int (bx B (.I _ _) h)
theorem UW.inv (h:Q (.I (Builtin.bitNot a)) H):UW C k H .Invert (.I a) Q:=by
 refine⟨fun A s ι x hr B hx=>?_⟩;obtain⟨t,rfl⟩:=ax hx
 with_reducible exact invert_int (bx B (.I _ _) h)
theorem CW.lt (h:Q (.bool (decide (a<b))) H):CW C k H .Lt (.I a) (.I b) Q:=by
 refine⟨fun A s ι x y hr B hx hy=>?_⟩;obtain⟨t,rfl⟩:=ax hx;obtain⟨u,rfl⟩:=ax hy
 with_reducible exact P.lt_int (cM B (.bool _) h)
theorem CW.le (h:Q (.bool (decide (a≤b))) H):CW C k H .LtE (.I a) (.I b) Q:=by
 refine⟨fun A s ι x y hr B hx hy=>?_⟩;obtain⟨t,rfl⟩:=ax hx;obtain⟨u,rfl⟩:=ax hy
 with_reducible exact P.le_int (cM B (.bool _) h)
theorem CW.gt (h:Q (.bool (decide (b<a))) H):CW C k H .Gt (.I a) (.I b) Q:=by
 refine⟨fun A s ι x y hr B hx hy=>?_⟩;obtain⟨t,rfl⟩:=ax hx;obtain⟨u,rfl⟩:=ax hy
 with_reducible exact P.gt_int (cM B (.bool _) h)
theorem CW.ge (h:Q (.bool (decide (b≤a))) H):CW C k H .GtE (.I a) (.I b) Q:=by
 refine⟨fun A s ι x y hr B hx hy=>?_⟩;obtain⟨t,rfl⟩:=ax hx;obtain⟨u,rfl⟩:=ax hy
 with_reducible exact P.ge_int (cM B (.bool _) h)
theorem CW.eq (h:Q (.bool (decide (a=b))) H):CW C k H .Eq (.I a) (.I b) Q:=by
 refine⟨fun A s ι x y hr B hx hy=>?_⟩;obtain⟨t,rfl⟩:=ax hx;obtain⟨u,rfl⟩:=ax hy
 with_reducible refine P.eq_int (cM B ?_ h)
 have:(a==b)=decide (a=b):=by by_cases e:a=b<;>simp[e]
 rw[this];exact .bool _
theorem CW.ne (h:Q (.bool (decide (a≠b))) H):CW C k H .NotEq (.I a) (.I b) Q:=by
 refine⟨fun A s ι x y hr B hx hy=>?_⟩;obtain⟨t,rfl⟩:=ax hx;obtain⟨u,rfl⟩:=ax hy
 with_reducible refine P.ne_int (cM B ?_ h)
 have:(a !=b)=decide (a≠b):=by by_cases e:a=b<;>simp[e]
 rw[this];exact .bool _
theorem bk.int {Q:Bool→Hp→Prop} (h:Q (decide (a≠0)) H):bk C k H (.I a) Q:=by
 refine⟨fun A s ι x hr B hx=>?_⟩;obtain⟨t,rfl⟩:=ax hx
 with_reducible refine P.truthy_int (cM B ?_ h)
 show decide (a≠0)=(a !=0)
 by_cases e:a=0<;>simp[e]
theorem bk.bool {Q:Bool→Hp→Prop} {b:Bool} (h:Q b H):bk C k H (.bool b) Q:=by
 refine⟨fun A s ι x hr B hx=>?_⟩;cases hx;exact wpAny_truthy_bool (cM B rfl h)
end
section
variable {C:Cx} {k:Nat} {names:List (Str×NameKind)} {ρ:List (Option V)} {H:Hp} {Q:V→Hp→Prop}
theorem EW.name (j:Nat) {x:Str} {kd:NameKind} {p:Pos} {v:V} (e:names[j]? =some (x,kd)) (hv:ρ[j]? =some (some v)) (h:Q v H)
 (hk:kd≠.globalImplicit∧kd≠.globalExplicit) (hd:(x==("__debug__":Str))=false) (hc:(x==("__classdict__":Str))=false):EW C k names ρ H (.Name x p) Q:=by
 refine⟨fun A s ι env hr B L=>?_⟩;exact wpAny_Name (DS L j e hk hv (fun v' r=>cM B r h) hc) hd
theorem EW.int {i:Int} {u:Nat} {p:Pos} (h:Q (.I i) H):EW C k names ρ H (.Constant (.int i) u p) Q:=by
 refine⟨fun A s ι env hr B L=>?_⟩;exact wpAny_Constant_int (bx B (.I _ _) h)
theorem EW.bool {b:Bool} {u:Nat} {p:Pos} (h:Q (.bool b) H):EW C k names ρ H (.Constant (.bool b) u p) Q:=by
 refine⟨fun A s ι env hr B L=>?_⟩;exact wpAny_Constant_bool (cM B (.bool _) h)
theorem EW.none {u:Nat} {p:Pos} (h:Q .none H):EW C k names ρ H (.Constant .none u p) Q:=by
 refine⟨fun A s ι env hr B L=>?_⟩;exact wpAny_Constant_none (cM B .none h)
theorem EW.binop {op:Operator} {l r:Expr} {p:Pos} (h:EW C k names ρ H l (fun x H₁=>EW C k names ρ H₁ r (fun y aB=>BW C k aB op x y Q))):EW C k names ρ H (.BinOp l op r p) Q:=by
 refine⟨fun A s ι env hr B L=>?_⟩;refine wpAny_BinOp (G.run h hr B L fun a s₁ aj x H₁ av aK aC k₁ aN aA=>aH (G.run aA hr av aK fun b bH aP y aB aQ bh aZ k₂ b9 bp=>?_));obtain⟨ε,lJ,_⟩:=id aZ;exact up aQ (ee av aC k₁ aZ) (kk aC k₁ k₂) (bp.out A bH aP a b hr aQ (aN.mono lJ) b9)
theorem EW.unary {op:UnaryOp} {x:Expr} {p:Pos} (h:EW C k names ρ H x (fun v H₁=>UW C k H₁ op v Q)):EW C k names ρ H (.UnaryOp op x p) Q:=by
 refine⟨fun A s ι env hr B L=>?_⟩;refine wpAny_UnaryOp (G.run h hr B L fun a s₁ aj x H₁ av aK aC k₁ aN aA=>?_);exact up av aC k₁ (aA.out A s₁ aj a hr av aN)
theorem EW.cmp {op:CmpOp} {l r:Expr} {p:Pos} (h:EW C k names ρ H l (fun x H₁=>EW C k names ρ H₁ r (fun y aB=>CW C k aB op x y Q))) (hm:behindInMarks op r=false):EW C k names ρ H (.Compare l [op] [r] p) Q:=by
 refine⟨fun A s ι env hr B L=>?_⟩;refine wpAny_Compare1 (G.run h hr B L fun a s₁ aj x H₁ av aK aC k₁ aN aA=>aH (G.run aA hr av aK fun b bH aP y aB aQ bh aZ k₂ b9 bp=>?_)) hm;obtain⟨ε,lJ,_⟩:=id aZ;exact up aQ (ee av aC k₁ aZ) (kk aC k₁ k₂) (bp.out A bH aP a b hr aQ (aN.mono lJ) b9)
def TW (C:Cx) (k:Nat) (names:List (Str×NameKind)) (ρ:List (Option V)) (H:Hp) (e:Expr) (Q:Bool→Hp→Prop):Prop:=G C k names ρ H (fun env=>isTrue e env (eval e env)) BR Q
theorem TW.val {e:Expr} {Q:Bool→Hp→Prop} (h:EW C k names ρ H e (fun v H₁=>bk C k H₁ v Q)) (he:∀env (whole:Sem Value),isTrue e env whole=(do let v←whole;standAt e.pos;holding [v] (truthy v))):TW C k names ρ H e Q:=by
 refine⟨fun A s ι env hr B L=>?_⟩;refine isTrue_plain (G.run h hr B L fun a s₁ aj x H₁ av aK aC k₁ aN aA=>?_) (he _ _);exact up av aC k₁ (aA.out A s₁ aj a hr av aN)
theorem TW.cmp {op:CmpOp} {l r:Expr} {p:Pos} {Q:Bool→Hp→Prop} (h:EW C k names ρ H l (fun x H₁=>EW C k names ρ H₁ r (fun y aB=>CW C k aB op x y (fun v bc=>bk C k bc v Q)))) (hm:behindInMarks op r=false):TW C k names ρ H (.Compare l [op] [r] p) Q:=by
 refine⟨fun A s ι env hr B L=>?_⟩;refine wpAny_isTrue_Compare1 (G.run h hr B L fun a s₁ aj x H₁ av aK aC k₁ aN aA=>aH (G.run aA hr av aK fun b bH aP y aB aQ bh aZ k₂ b9 bp=>?_)) hm;obtain⟨ε,lJ,_⟩:=id aZ;refine wpAny_mono (bp.out A bH aP a b hr aQ (aN.mono lJ) b9) (fun c gI ⟨eE,v,bc,cU,dt,cW,o_,i7⟩=>?_) fun _ _ x=>x;exact up cU (ee av aC k₁ (ee aQ aZ k₂ dt)) (kk aC k₁ (kk aZ k₂ cW)) (i7.out A gI eE c hr cU o_)
theorem TW.not {x:Expr} {p:Pos} {Q:Bool→Hp→Prop} (h:TW C k names ρ H x (fun b H₁=>Q (!b) H₁)):TW C k names ρ H (.UnaryOp .Not x p) Q:=by
 refine⟨fun A s ι env hr B L=>?_⟩;refine wpAny_isTrue_Not (G.run h hr B L fun a s₁ aj b H₁ av aK aC k₁ aN aA=>?_)
 cases aN
 exact⟨aj,!a,H₁,av,aC,k₁,rfl,aA⟩
def gK (C:Cx) (k:Nat) (names:List (Str×NameKind)) (ρ:List (Option V)) (H:Hp) (op:BoolOp) (es:List Expr) (Q:Bool→Hp→Prop):Prop:=G C k names ρ H (fun env=>allTrue op es env) BR Q
theorem TW.zL {op:BoolOp} {es:List Expr} {p:Pos} {Q:Bool→Hp→Prop} (h:gK C k names ρ H op es Q):TW C k names ρ H (.BoolOp op es p) Q:=by
 refine⟨fun A s ι env hr B L=>?_⟩;exact wpAny_isTrue_BoolOp (h.out A s ι env hr B L)
theorem gK.and {e:Expr} {es:List Expr} {Q:Bool→Hp→Prop} (h:TW C k names ρ H e (fun b H₁=>(b=true→gK C k names ρ H₁ .And es Q)∧(b=false→Q false H₁))):gK C k names ρ H .And (e::es) Q:=by
 refine⟨fun A s ι env hr B L=>?_⟩;refine wpAny_allTrue_And_cons (G.run h hr B L fun a s₁ aj x H₁ av aK aC k₁ aN aA=>?_)
 cases aN
 cases a with
 |true=>simp only[if_true];exact up av aC k₁ ((aA.1 rfl).out A s₁ aj env hr av aK)
 |false=>simp only[Bool.false_eq_true,if_false];exact⟨aj,false,H₁,av,aC,k₁,rfl,aA.2 rfl⟩
theorem gK.Eg {Q:Bool→Hp→Prop} (h:Q true H):gK C k names ρ H .And [] Q:=by
 refine⟨fun A s ι env hr B L=>?_⟩;exact wpAny_allTrue_And_nil (cM B rfl h)
theorem gK.or {e:Expr} {es:List Expr} {Q:Bool→Hp→Prop} (h:TW C k names ρ H e (fun b H₁=>(b=true→Q true H₁)∧(b=false→gK C k names ρ H₁ .Or es Q))):gK C k names ρ H .Or (e::es) Q:=by
 refine⟨fun A s ι env hr B L=>?_⟩;refine wpAny_allTrue_Or_cons (G.run h hr B L fun a s₁ aj x H₁ av aK aC k₁ aN aA=>?_)
 cases aN
 cases a with
 |true=>simp only[if_true];exact⟨aj,true,H₁,av,aC,k₁,rfl,aA.1 rfl⟩
 |false=>simp only[Bool.false_eq_true,if_false];exact up av aC k₁ ((aA.2 rfl).out A s₁ aj env hr av aK)
theorem gK.II {Q:Bool→Hp→Prop} (h:Q false H):gK C k names ρ H .Or [] Q:=by
 refine⟨fun A s ι env hr B L=>?_⟩;exact wpAny_allTrue_Or_nil (cM B rfl h)
theorem EW.bq {t b o:Expr} {p:Pos} (h:TW C k names ρ H t (fun c H₁=>(c=true→EW C k names ρ H₁ b Q)∧(c=false→EW C k names ρ H₁ o Q))):EW C k names ρ H (.IfExp t b o p) Q:=by
 refine⟨fun A s ι env hr B L=>?_⟩;refine wpAny_IfExp (G.run h hr B L fun a s₁ aj x H₁ av aK aC k₁ aN aA=>?_)
 cases aN
 cases a with
 |true=>simp only[if_true];exact up av aC k₁ ((aA.1 rfl).out A s₁ aj env hr av aK)
 |false=>simp only[Bool.false_eq_true,if_false];exact up av aC k₁ ((aA.2 rfl).out A s₁ aj env hr av aK)
theorem EW.tT {x y:Expr} {p:Pos} (h:EW C k names ρ H x (fun v H₁=>bk C k H₁ v (fun c aB=>(c=true→EW C k names ρ aB y Q)∧(c=false→Q v aB)))):EW C k names ρ H (.BoolOp .And [x,y] p) Q:=by
 refine⟨fun A s ι env hr B L=>?_⟩;refine wpAny_And2 (G.run h hr B L fun a s₁ aj x H₁ av aK aC k₁ aN aA=>wpAny_mono (aA.out A s₁ aj a hr av aN) (fun c bH ⟨aP,b,aB,aQ,aZ,k₂,b9,bp⟩=>?_) fun _ _ x=>x)
 cases b9
 obtain⟨ε,lJ,_⟩:=id aZ
 cases c with
 |true=>simp only[if_true];exact up aQ (ee av aC k₁ aZ) (kk aC k₁ k₂) ((bp.1 rfl).out A bH aP env hr aQ (aK.keep aZ k₂))
 |false=>simp only[Bool.false_eq_true,if_false];exact bC.up av aC k₁ ⟨aP,x,aB,aQ,aZ,k₂,aN.mono lJ,bp.2 rfl⟩
theorem EW.DY {x y:Expr} {p:Pos} (h:EW C k names ρ H x (fun v H₁=>bk C k H₁ v (fun c aB=>(c=true→Q v aB)∧(c=false→EW C k names ρ aB y Q)))):EW C k names ρ H (.BoolOp .Or [x,y] p) Q:=by
 refine⟨fun A s ι env hr B L=>?_⟩;refine wpAny_Or2 (G.run h hr B L fun a s₁ aj x H₁ av aK aC k₁ aN aA=>wpAny_mono (aA.out A s₁ aj a hr av aN) (fun c bH ⟨aP,b,aB,aQ,aZ,k₂,b9,bp⟩=>?_) fun _ _ x=>x)
 cases b9
 obtain⟨ε,lJ,_⟩:=id aZ
 cases c with
 |true=>simp only[if_true];exact bC.up av aC k₁ ⟨aP,x,aB,aQ,aZ,k₂,aN.mono lJ,bp.1 rfl⟩
 |false=>simp only[Bool.false_eq_true,if_false];exact up aQ (ee av aC k₁ aZ) (kk aC k₁ k₂) ((bp.2 rfl).out A bH aP env hr aQ (aK.keep aZ k₂))
end
theorem OR.same {ι:Io} {h h':Heap} {p:Addr×Addr} {o:O} (x:OR ι h p o) (e1:∀u,h.get? p.1=some u→h'.get? p.1=some u) (e2:∀u,h.get? p.2=some u→h'.get? p.2=some u):OR ι h' p o:=by
 cases o with
 |L xs=>obtain⟨vs,⟨n,a⟩,c⟩:=x;exact⟨vs,⟨n,e1 _ a⟩,c⟩
 |tup xs=>obtain⟨vs,ep,a,b⟩:=x;exact⟨vs,ep,e1 _ a,b⟩
 |range a b s=>obtain⟨t,u,v,ho⟩:=x;exact⟨t,u,v,e1 _ ho⟩
 |inst c fs=>obtain⟨es,n,a,b,d⟩:=x;exact⟨es,n,e1 _ a,e2 _ b,d⟩
theorem OR.mono {ι bw:Io} {h:Heap} {p:Addr×Addr} {o:O} (x:OR ι h p o) {ε} (e:bw=ι++ε):OR bw h p o:=by
 cases o with
 |L xs=>obtain⟨vs,a,b⟩:=x;exact⟨vs,a,b.mono e⟩
 |tup xs=>obtain⟨vs,ep,a,b⟩:=x;exact⟨vs,ep,a,b.mono e⟩
 |range a b s=>exact x
 |inst c fs=>obtain⟨es,n,a,b,d⟩:=x;exact⟨es,n,a,b,d.mono e⟩
def ry (C:Cx) (ι:Io) (a:Addr):Prop:=C.aA.get? a=none∧∀p∈ι,a≠p.1∧a≠p.2
theorem jB {C:Cx} {ι:Io} {a:Addr} (h0:C.aA.get? a=none) (nf:¬foot C ι a):ry C ι a:=
 ⟨h0,fun p hp=>⟨fun e=>nf ⟨h0,p,hp,.inl e⟩,fun e=>nf ⟨h0,p,hp,.inr e⟩⟩⟩
theorem ry.nf {C:Cx} {ι:Io} {a:Addr} (h:ry C ι a):¬foot C ι a:=(by rintro⟨_,p,hp,e⟩;exact e.elim (h.2 p hp).1 (h.2 p hp).2)
theorem Bs.turn {C:Cx} {ι:Io} {H:Hp} {s:Shared} (B:Bs C ι H s) (X:Addr→Prop) (hX:∀a,X a→ry C ι a) {h':Heap} (hk:∀a o,s.heap.get? a=some o→¬X a→h'.get? a=some o) (tk:Nat):Bs C ι H {s with heap:=h',toks:=tk}:=by
 have kp:∀p∈ι,(∀u,s.heap.get? p.1=some u→h'.get? p.1=some u)∧(∀u,s.heap.get? p.2=some u→h'.get? p.2=some u):=
  fun p hp=>⟨fun u e=>hk _ _ e fun x=>((hX _ x).2 p hp).1 rfl,fun u e=>hk _ _ e fun x=>((hX _ x).2 p hp).2 rfl⟩
 refine⟨fun a o e=>hk a o (B.keep a o e) fun x=>?_,B.gens,B.os,B.ok,⟨B.sim.len,B.sim.apart,B.sim.own,B.sim.jd,fun n p o h1 h2=>?_,fun p hp=>?_⟩⟩
 · have:=(hX a x).1;rw[e]at this;cases this
 · have:=kp p (z08 h1);exact(B.sim.obj n p o h1 h2).same this.1 this.2
 · have:=kp p hp;have ex:=B.sim.ex p hp;obtain⟨o1,e1⟩:=Option.isSome_iff_exists.mp ex.1;obtain⟨o2,e2⟩:=Option.isSome_iff_exists.mp ex.2;exact⟨by rw[this.1 _ e1];rfl,by rw[this.2 _ e2];rfl⟩
theorem Bs.push {C:Cx} {ι:Io} {H:Hp} {s:Shared} (B:Bs C ι H s) (o:Obj):Bs C ι H {s with heap:=s.heap.push o}:=
 B.turn (fun _=>False) (fun _ x=>x.elim) (fun a u e _=>z17 o e) s.toks
theorem Keeps.push {C:Cx} {ι:Io} {h h':Heap} (k:Keeps C ι h h') (o:Obj):Keeps C ι h (h'.push o):=fun a u e nf=>z17 o (k a u e nf)
theorem Bs.fresh {C:Cx} {ι:Io} {H:Hp} {s:Shared} (B:Bs C ι H s) {a:Addr} (ha:s.heap.get? a=none):ry C ι a:=by
 refine⟨?_,fun p hp=>?_⟩
 · cases e:C.aA.get? a with
   |none=>rfl
   |some o=>rw[B.keep a o e]at ha;cases ha
 · have:=B.sim.ex p hp;exact⟨fun e=>by subst e;rw[ha]at this;simp at this,fun e=>by subst e;rw[ha]at this;simp at this⟩
theorem y_ (h:Heap):h.get? h.objs.size=none:=by
 cases e:h.get? h.objs.size with
 |none=>rfl
 |some o=>exact absurd (Heap.lt_size e) (Nat.lt_irrefl _)
theorem Bs.new {C:Cx} {ι:Io} {H:Hp} {s:Shared} (B:Bs C ι H s) {h':Heap} (p:Addr×Addr) (o:O) (h1:s.heap.get? p.1=none) (h2:s.heap.get? p.2=none) (hk:∀a u,s.heap.get? a=some u→h'.get? a=some u)
 (ho:OR (ι++[p]) h' p o) (hs:(h'.get? p.1).isSome=true∧(h'.get? p.2).isSome=true) (tk:Nat):Bs C (ι++[p]) (H++[o]) {s with heap:=h',toks:=tk}:=by
 have B':=B.turn (fun _=>False) (fun _ x=>x.elim) (h':=h') (fun a u e _=>hk a u e) tk;have f1:=B.fresh h1;have f2:=B.fresh h2;refine⟨B'.keep,B.gens,B.os,B.ok,⟨by simp[B.sim.len],?_,fun n q hn hq=>?_,(by obtain⟨δ,e⟩:=B.sim.jd;exact⟨δ++[p],by rw[e,List.append_assoc]⟩),fun n q u hq hu=>?_,fun q hq=>?_⟩⟩
 · refine List.pairwise_append.mpr ⟨B.sim.apart,List.pairwise_singleton _ _,fun a ha b hb=>?_⟩;rw[List.mem_singleton.mp hb];exact⟨fun e=>(f1.2 a ha).1 e.symm,fun e=>(f2.2 a ha).1 e.symm,fun e=>(f1.2 a ha).2 e.symm,fun e=>(f2.2 a ha).2 e.symm⟩
 · by_cases hl:n<ι.length
   · rw[z09 hl]at hq;exact B.sim.own n q hn hq
   · rw[z10 ⋯]at hq;have:n-ι.length=0:=by
      have:=(z06.mp hq).1;simp at this;omega
     rw[this]at hq;simp at hq;subst hq;exact⟨f1.1,f2.1⟩
 · by_cases hl:n<ι.length
   · rw[z09 hl]at hq;rw[z09 (by rw[←B.sim.len];exact hl)]at hu;exact(B'.sim.obj n q u hq hu).mono rfl
   · rw[z10 ⋯]at hq;rw[z10 (by rw[←B.sim.len];omega)]at hu;have e0:n-ι.length=0:=by
      have:=(z06.mp hq).1;simp at this;omega
     rw[e0]at hq;rw[←B.sim.len,e0]at hu;simp at hq hu;subst hq;subst hu;exact ho
 · rcases List.mem_append.mp hq with hq|hq
   · exact B'.sim.ex q hq
   · rw[List.mem_singleton.mp hq];exact hs
theorem Bs.upd {C:Cx} {ι:Io} {H:Hp} {s:Shared} (B:Bs C ι H s) {h':Heap} {n:Nat} {p:Addr×Addr} {o:O} (hn:C.T≤n) (hp:ι[n]? =some p) (hk:∀a u,s.heap.get? a=some u→a≠p.1→a≠p.2→h'.get? a=some u)
 (ho:OR ι h' p o) (hs:(h'.get? p.1).isSome=true∧(h'.get? p.2).isSome=true) (tk:Nat):Bs C ι (H.set n o) {s with heap:=h',toks:=tk}:=by
 have ow:=B.sim.own n p hn hp;have ne:∀(i j:Nat) (q r:Addr×Addr),i≠j→ι[i]? =some q→ι[j]? =some r→q.1≠r.1∧q.1≠r.2∧q.2≠r.1∧q.2≠r.2:=by
  intro i j q r hij hi hj;have pw:=List.pairwise_iff_getElem.mp B.sim.apart;obtain⟨li,ei⟩:=z06.mp hi;obtain⟨lj,ej⟩:=z06.mp hj;rcases Nat.lt_or_gt_of_ne hij with h|h
  · have:=pw i j li lj h;rw[ei,ej]at this;exact this
  · have:=pw j i lj li h;rw[ei,ej]at this;exact⟨fun e=>this.1 e.symm,fun e=>this.2.2.1 e.symm,fun e=>this.2.1 e.symm,fun e=>this.2.2.2 e.symm⟩
 refine⟨fun a u e=>hk a u (B.keep a u e) (fun x=>?_) (fun x=>?_),B.gens,B.os,B.ok,⟨by simp[B.sim.len],B.sim.apart,B.sim.own,B.sim.jd,fun m q u hq hu=>?_,fun q hq=>?_⟩⟩
 · subst x;rw[ow.1]at e;cases e
 · subst x;rw[ow.2]at e;cases e
 · by_cases e:m=n
   · subst e;rw[hp]at hq;cases hq;have lt:m<H.length:=by rw[←B.sim.len];exact(z06.mp hp).1
     rw[List.getElem?_set_self lt]at hu;cases hu;exact ho
   · rw[List.getElem?_set_ne (fun x=>e x.symm)]at hu;have d:=ne m n q p e hq hp;exact(B.sim.obj m q u hq hu).same (fun v ev=>hk _ _ ev d.1 d.2.1) (fun v ev=>hk _ _ ev d.2.2.1 d.2.2.2)
 · obtain⟨m,lm,em⟩:=z27 hq;have hm:ι[m]? =some q:=by rw[z05 lm,em]
   by_cases e:m=n
   · subst e;rw[hp]at hm;cases hm;exact hs
   · have d:=ne m n q p e hm hp;have ex:=B.sim.ex q hq;obtain⟨o1,e1⟩:=Option.isSome_iff_exists.mp ex.1;obtain⟨o2,e2⟩:=Option.isSome_iff_exists.mp ex.2;exact⟨by rw[hk _ _ e1 d.1 d.2.1];rfl,by rw[hk _ _ e2 d.2.2.1 d.2.2.2];rfl⟩
theorem mX {C:Cx} {ι:Io} {H:Hp} {s:Shared} (B:Bs C ι H s) {n:Nat} {p:Addr×Addr} (hn:C.T≤n) (hp:ι[n]? =some p):foot C ι p.1∧foot C ι p.2:=
 ⟨⟨(B.sim.own n p hn hp).1,p,z08 hp,.inl rfl⟩,⟨(B.sim.own n p hn hp).2,p,z08 hp,.inr rfl⟩⟩
set_option genSizeOf false in
inductive Fl where
 |next|brk|cont
 |ret (v:V)
instance:Nonempty Fl:=⟨.next⟩
inductive Eb (ι:Io):Fl→Flow→Prop
 |next:Eb ι .next .next
 |brk:Eb ι .brk .brk
 |cont:Eb ι .cont .cont
 |ret {v v'}:VR ι v v'→Eb ι (.ret v) (.ret v')
def Own (env:Env) (a:Addr):Prop:=a=env.locals∨∃x,env.cells.lookup x=some a
def df (C:Cx) (ι:Io) (env:Env) (h h':Heap):Prop:=∀a o,h.get? a=some o→¬foot C ι a→¬Own env a→h'.get? a=some o
inductive jm (C:Cx) (names:List (Str×NameKind)) (env:Env) (ι:Io) (h₀:Heap) (Q:Fl→List (Option V)→Hp→Prop) (DG:Flow) (s':Shared):Prop
 |mk (bw:Io) (fl:Fl) (aO:List (Option V)) (H':Hp) (hb:Bs C bw H' s') (hl:Loc C names env aO bw s'.heap) (he:Ext h₀ ι bw) (hk:df C ι env h₀ s'.heap) (hr:Eb bw fl DG) (hq:Q fl aO H'):jm C names env ι h₀ Q DG s'
structure SW (C:Cx) (k:Nat) (names:List (Str×NameKind)) (ρ:List (Option V)) (H:Hp) (t:Env→Sem Flow) (Q:Fl→List (Option V)→Hp→Prop):Prop where
 out:∀A s ι env,dM k A→Bs C ι H s→Loc C names env ρ ι s.heap→wpAny (model C.prog C.w) A (t env) (jm C names env ι s.heap Q) fM s
def XW (C:Cx) (k:Nat) (names:List (Str×NameKind)) (ρ:List (Option V)) (H:Hp) (ss:List Stmt) (Q:Fl→List (Option V)→Hp→Prop):Prop:=SW C k names ρ H (execs ss) Q
def XS (C:Cx) (k:Nat) (names:List (Str×NameKind)) (ρ:List (Option V)) (H:Hp) (st:Stmt) (Q:Fl→List (Option V)→Hp→Prop):Prop:=SW C k names ρ H (exec st) Q
theorem Keeps.s {C:Cx} {ι:Io} {env:Env} {h h':Heap} (k:Keeps C ι h h'):df C ι env h h':=fun a o e nf _=>k a o e nf
theorem zQ {C:Cx} {ι bw vu:Io} {env:Env} {h h':Heap} (x:Ext h ι bw) (k:df C ι env h h') (ex:∀p∈ι,(h'.get? p.1).isSome=true∧(h'.get? p.2).isSome=true)
 (ow:∀a,Own env a→∃o,h'.get? a=some o) (y:Ext h' bw vu):Ext h ι vu:=by
 obtain⟨ε,rfl,wH⟩:=x;obtain⟨δ,rfl,oo⟩:=y;refine⟨ε++δ,List.append_assoc ..,fun p hp=>?_⟩;rcases List.mem_append.mp hp with hp|hp
 · exact wH p hp
 · have key:∀a,h'.get? a=none→h.get? a=none:=by
    intro a ha
    cases e:h.get? a with
    |none=>rfl
    |some o=>
     exfalso
     by_cases hw:Own env a
     · obtain⟨u,hu⟩:=ow a hw;rw[ha]at hu;cases hu
     by_cases hf:foot C ι a
     · obtain⟨_,q,hq,e'⟩:=hf;have:=ex q hq;rcases e' with rfl|rfl
       · rw[ha]at this;simp at this
       · rw[ha]at this;simp at this
     · rw[k a o e hf hw]at ha;cases ha
   exact⟨key _ (oo p hp).1,key _ (oo p hp).2⟩
theorem ba {C:Cx} {ι bw:Io} {env:Env} {h h' uI:Heap} (x:Ext h ι bw) (k:df C ι env h h') (k':df C bw env h' uI):df C ι env h uI:=
 fun a o e nf nw=>k' a o (k a o e nf nw) (bZ x e nf) nw
theorem Loc.mT {C:Cx} {names env ρ} {ι:Io} {h:Heap} (L:Loc C names env ρ ι h):∀a,Own env a→∃o,h.get? a=some o:=by
 rintro a (rfl|⟨x,hx⟩)
 · obtain⟨m,hm,_⟩:=L.m;exact wR hm
 · obtain⟨v,hv⟩:=L.BK x a hx;exact oq hv
theorem jm.up {C:Cx} {names env ρ} {ι aj:Io} {h₀:Heap} {Q:Fl→List (Option V)→Hp→Prop} {a:Flow} {s' s₁:Shared} {H₁:Hp} (B:Bs C aj H₁ s₁) (L:Loc C names env ρ aj s₁.heap) (x:Ext h₀ ι aj) (k:df C ι env h₀ s₁.heap)
 (p:jm C names env aj s₁.heap Q a s'):jm C names env ι h₀ Q a s':=by
 obtain⟨bw,fl,aO,H',hb,hl,he,hk,hr,hq⟩:=p;refine⟨bw,fl,aO,H',hb,hl,zQ x k (fun p hp=>?_) L.mT he,ba x k hk,hr,hq⟩;obtain⟨ε,rfl,_⟩:=x;exact B.sim.ex p (List.mem_append_left _ hp)
theorem Mk {C:Cx} {names env ρ} {ι aj:Io} {h₀:Heap} {Q:Fl→List (Option V)→Hp→Prop} {H₁:Hp} {s₁:Shared} {A:Around} {t:Sem Flow} (B:Bs C aj H₁ s₁) (L:Loc C names env ρ aj s₁.heap) (x:Ext h₀ ι aj) (k:df C ι env h₀ s₁.heap)
 (h:wpAny (model C.prog C.w) A t (jm C names env aj s₁.heap Q) fM s₁):wpAny (model C.prog C.w) A t (jm C names env ι h₀ Q) fM s₁:=
 wpAny_mono h (fun _ _ p=>p.up B L x k) fun _ _ x=>x
theorem wY {C:Cx} {names env ρ} {ι:Io} {Q:Fl→List (Option V)→Hp→Prop} {fl:Fl} {DG:Flow} {H:Hp} {s:Shared} (B:Bs C ι H s) (L:Loc C names env ρ ι s.heap) (r:Eb ι fl DG) (q:Q fl ρ H):jm C names env ι s.heap Q DG s:=
 ⟨ι,fl,ρ,H,B,L,Ext.rfl _ _,(Keeps.rfl _ _ _).s,r,q⟩
section
variable {C:Cx} {k:Nat} {names:List (Str×NameKind)} {ρ:List (Option V)} {H:Hp} {Q:Fl→List (Option V)→Hp→Prop}
theorem j_ {l:List (Str×NameKind)} (nd:(l.map (·.1)).Nodup) {i j:Nat} {x:Str} {a b:NameKind} (hi:l[i]? =some (x,a)) (hj:l[j]? =some (x,b)):i=j:=by
 have h1:(l.map (·.1))[i]? =some x:=by rw[z11,hi];rfl
 have h2:(l.map (·.1))[j]? =some x:=by rw[z11,hj];rfl
 exact(List.getElem?_inj (z06.mp h1).1 nd).mp (h1.trans h2.symm)
theorem m_ {ρ:List (Option V)} {j i:Nat} {v u:V} (h:(ρ.set j (some v))[i]? =some (some u)):(i=j∧u=v)∨(i≠j∧ρ[i]? =some (some u)):=by
 injection ρ j i v u with h
 by_cases e:i=j
 · subst e
   left
   refine⟨rfl,?_⟩;have lt:i<(ρ.set i (some v)).length:=(z06.mp h).1;rw[List.length_set]at lt;rw[List.getElem?_set_self lt]at h
   cases h;rfl
 · right
   rw[List.getElem?_set_ne (fun x=>e x.symm)]at h;exact⟨e,h⟩
def zx (C:Cx) (ι:Io) (env:Env) (x:Str) (h h':Heap):Prop:=∀a o,h.get? a=some o→¬foot C ι a→¬(a=env.locals∨env.cells.lookup x=some a)→h'.get? a=some o
theorem zx.s {C:Cx} {ι:Io} {env:Env} {x:Str} {h h':Heap} (k:zx C ι env x h h'):df C ι env h h':=fun a o e nf nw=>k a o e nf fun q=>nw (by rcases q with q|q;exact .inl q;exact .inr ⟨x,q⟩)
theorem je {env:Env} {ι:Io} {s:Shared} {A:Around} (B:Bs C ι H s) (L:Loc C names env ρ ι s.heap) (j:Nat) {x:Str} {kd:NameKind} {v:V} {v':Value} {P:Unit→Shared→Prop} (e:names[j]? =some (x,kd)) (hk:kd=.local∨kd=.cell) (r:VR ι v v')
 (h:∀h' tk,Bs C ι H {s with heap:=h',toks:=tk}→Loc C names env (ρ.set j (some v)) ι h'→zx C ι env x s.heap h'→P () {s with heap:=h',toks:=tk}):
 wpAny (model C.prog C.w) A (storeName env x v') P fM s:=by
 injection C names ρ H env ι s A j x kd v v' P with B L e hk r h
 have kx:=L.kind e;obtain(⟨m,hm,hvs⟩):=L.m;rcases hk with rfl|rfl
 · refine wpAny_storeName_local kx hm (?_) (by rw[L.hk];rfl);rintro-h' hn hs;have fr:=jB L.qi.1 L.qi.2;have kp:∀a o,s.heap.get? a=some o→¬a=env.locals→h'.get? a=some o:=fun a o ea na=>(hs.2 a na).trans ea;have cne:∀y c,env.cells.lookup y=some c→c≠env.locals:=by
    rintro-y c hy ec;obtain(⟨v0,o,ho,hd⟩):=L.BK y c hy;obtain(⟨o2,es,ep,HD,hd2,_⟩):=hm;rw[ec,HD]at ho;cases ho;rw[hd]at hd2;cases hd2
   have kc:∀{y c u},env.cells.lookup y=some c→s.heap.IsCell c u→h'.IsCell c u:=fun hy ⟨o,ho,hd⟩=>⟨o,kp _ _ ho (cne _ _ hy),hd⟩;refine h h' _ (B.turn (· =env.locals) (fun a ha=>by subst ha;exact fr) kp _) ⟨L.hn,L.hk,L.hg,L.hb,L.nd,⟨_,hn,?_⟩,?_,L.cells,?_,L.qi,L.rH,L.kJ⟩ (fun a o ea nf nw=>kp a o ea fun q=>nw (.inl q))
   · rintro-i y u h1 h2;rcases m_ h2 with⟨rfl,rfl⟩|⟨ne,h2⟩
     · rw[h1]at e;cases e;exact⟨v',by simp,r⟩
     · have:y≠x:=fun q=>ne (j_ L.nd (q▸h1) e);obtain(⟨u',a,b⟩):=hvs i y u h1 h2;exact⟨u',by simp[this,a],b⟩
   · rintro-i y kd u h1 h2 h3;rcases m_ h3 with⟨rfl,rfl⟩|⟨ne,h3⟩
     · rw[h1]at e;cases e;simp at h2
     · obtain(⟨c,u',a,b,d⟩):=L.cell i y kd u h1 h2 h3;exact⟨c,u',a,kc a b,d⟩
   · rintro-y c hc;obtain(⟨tJ,xG⟩):=L.BK y c hc;exact⟨tJ,kc hc xG⟩
 · obtain(⟨c,hc⟩):=L.cells x (z08 e);obtain(⟨tJ,xG⟩):=L.BK x c hc;refine wpAny_storeName_cell L.hk kx hc xG ?_;rintro-h' hcell hs;have fr:=jB (L.rH x c hc).1 (L.rH x c hc).2;have kp:∀a o,s.heap.get? a=some o→¬a=c→h'.get? a=some o:=fun a o ea na=>(hs.2 a na).trans ea;have lne:env.locals≠c:=by
    rintro-ec;obtain(⟨o,ho,hd⟩):=xG;obtain(⟨o2,es,ep,HD,hd2,_⟩):=hm;rw[←ec,HD]at ho;cases ho;rw[hd]at hd2;cases hd2
   refine h h' s.toks (B.turn (· =c) (fun a ha=>by subst ha;exact fr) kp _) ⟨L.hn,L.hk,L.hg,L.hb,L.nd,⟨m,?_,?_⟩,?_,L.cells,?_,L.qi,L.rH,L.kJ⟩ (fun a o ea nf nw=>kp a o ea fun q=>nw (.inr (by rw[q];exact hc)))
   · obtain(⟨o2,es,ep,HD,q⟩):=hm;exact⟨o2,es,ep,kp _ _ HD lne,q⟩
   · rintro-i y u h1 h2;rcases m_ h2 with⟨rfl,rfl⟩|⟨ne,h2⟩
     · rw[h1]at e;cases e
     · exact hvs i y u h1 h2
   · rintro-i y kd u h1 h2 h3;rcases m_ h3 with⟨rfl,rfl⟩|⟨ne,h3⟩
     · rw[h1]at e;cases e;exact⟨c,v',hc,hcell,r⟩
     · obtain(⟨d,u',a,b,q⟩):=L.cell i y kd u h1 h2 h3;have:d≠c:=fun z=>ne (j_ L.nd (by rw[L.kJ y x d a (z▸hc)]at h1;exact h1) e);obtain⟨o,ho,hd⟩:=b;exact⟨d,u',a,⟨o,kp _ _ ho this,hd⟩,q⟩
   · rintro-y d hd
     by_cases z:d=c
     · subst z;exact⟨_,hcell⟩
     · obtain(⟨Mo,o,ho,sC⟩):=L.BK y d hd;exact⟨Mo,o,kp _ _ ho z,sC⟩
theorem SW.run {t:Env→Sem Flow} {P:Flow→Shared→Prop} {A:Around} {s:Shared} {ι:Io} {env:Env} (g:SW C k names ρ H t Q) (hr:dM k A) (hb:Bs C ι H s) (hl:Loc C names env ρ ι s.heap)
 (h:∀a s₁ aj fl fV H₁,Bs C aj H₁ s₁→Loc C names env fV aj s₁.heap→Ext s.heap ι aj→df C ι env s.heap s₁.heap→Eb aj fl a→Q fl fV H₁→P a s₁):wpAny (model C.prog C.w) A (t env) P fM s:=
 wpAny_mono (g.out A s ι env hr hb hl) ((by rintro a s₁ ⟨aj,fl,fV,H₁,z9,Hw,he,hk,hR,hq⟩;exact h a s₁ aj fl fV H₁ z9 Hw he hk hR hq)) fun _ _ x=>x
def Qc (C:Cx) (k:Nat) (names:List (Str×NameKind)) (rest:List Stmt) (Q:Fl→List (Option V)→Hp→Prop):Fl→List (Option V)→Hp→Prop
 |.next,ρ,H=>XW C k names ρ H rest Q
 |fl,ρ,H=>Q fl ρ H
theorem XW.nil (h:Q .next ρ H):XW C k names ρ H [] Q:=⟨fun A s ι env hr B L=>wpAny_execs_nil (wY B L .next h)⟩
theorem XW.cons {st:Stmt} {rest:List Stmt} (h:XS C k names ρ H st (Qc C k names rest Q)):XW C k names ρ H (st::rest) Q:=by
 refine⟨fun A s ι env hr B L=>wpAny_execs_cons (SW.run h hr B L fun a s₁ aj fl fV H₁ av aK aC k₁ aN aA=>?_)⟩
 cases aN with
 |next=>exact Mk av aK aC k₁ (aA.out A s₁ aj env hr av aK)
 |brk=>exact⟨aj,_,fV,H₁,av,aK,aC,k₁,.brk,aA⟩
 |cont=>exact⟨aj,_,fV,H₁,av,aK,aC,k₁,.cont,aA⟩
 |ret r=>exact⟨aj,_,fV,H₁,av,aK,aC,k₁,.ret r,aA⟩
theorem Qc.nx {rest:List Stmt} (h:XW C k names ρ H rest Q):Qc C k names rest Q .next ρ H:=h
theorem Qc.ret {rest:List Stmt} {v:V} (h:Q (.ret v) ρ H):Qc C k names rest Q (.ret v) ρ H:=h
theorem Qc.brk {rest:List Stmt} (h:Q .brk ρ H):Qc C k names rest Q .brk ρ H:=h
theorem Qc.cont {rest:List Stmt} (h:Q .cont ρ H):Qc C k names rest Q .cont ρ H:=h
theorem XW.aug (j:Nat) {x:Str} {kd:NameKind} {p p':Pos} {e:Expr} {op:Operator} {rest:List Stmt} {u:V} (hu:ρ[j]? =some (some u)) (h:EW C k names ρ H e (fun v H₁=>IW C k H₁ op u v (fun r aB=>XW C k names (ρ.set j (some r)) aB rest Q)))
 (en:names[j]? =some (x,kd)) (hk:kd=.local∨kd=.cell) (hc:(x==("__classdict__":Str))=false):XW C k names ρ H (.AugAssign (.Name x p') op e p::rest) Q:=by
 refine XW.cons ⟨fun A s ι env hr B L=>?_⟩;refine wpAny_AugAssign_Name (DS L j en (by rcases hk with rfl|rfl<;>decide) hu (fun u' ru=>aH (G.run h hr B L fun a s₁ aj v H₁ av aK aC k₁ aN aA=>?_)) hc);obtain⟨ε,lJ,_⟩:=id aC;refine aH (wpAny_mono (aA.out A s₁ aj u' a hr av (ru.mono lJ) aN) (fun c bH ⟨aP,w,aB,aQ,aZ,k₂,b9,bp⟩=>?_) fun _ _ x=>x);have bh:=aK.keep aZ k₂;refine aH (je aQ bh j en hk b9 fun h' tk cU fy cW=>?_);exact⟨aP,.next,_,aB,cU,fy,ee av aC k₁ aZ,ba (ee av aC k₁ aZ) (kk aC k₁ k₂).s cW.s,.next,bp⟩
theorem XW.ite {t:Expr} {b o:List Stmt} {p:Pos} {rest:List Stmt} (h:TW C k names ρ H t (fun c H₁=>(c=true→XW C k names ρ H₁ b (Qc C k names rest Q))∧(c=false→XW C k names ρ H₁ o (Qc C k names rest Q)))):XW C k names ρ H (.If t b o p::rest) Q:=by
 refine XW.cons ⟨fun A s ι env hr B L=>?_⟩;refine wpAny_If (G.run h hr B L fun a s₁ aj c H₁ av aK aC k₁ aN aA=>?_)
 cases aN
 cases a with
 |true=>simp only[if_true];exact Mk av aK aC k₁.s ((aA.1 rfl).out A s₁ aj env hr av aK)
 |false=>simp only[Bool.false_eq_true,if_false];exact Mk av aK aC k₁.s ((aA.2 rfl).out A s₁ aj env hr av aK)
theorem XW.ret {e:Expr} {p:Pos} {rest:List Stmt} (h:EW C k names ρ H e (fun v H₁=>Q (.ret v) ρ H₁)):XW C k names ρ H (.Return (some e) p::rest) Q:=by
 refine XW.cons ⟨fun A s ι env hr B L=>?_⟩;exact wpAny_Return_some (G.run h hr B L fun a s₁ aj v H₁ av aK aC k₁ aN aA=>⟨aj,.ret v,ρ,H₁,av,aK,aC,k₁.s,.ret aN,aA⟩)
theorem XW.brk {p:Pos} {rest:List Stmt} (h:Q .brk ρ H):XW C k names ρ H (.Break p::rest) Q:=
 XW.cons ⟨fun A s ι env hr B L=>wpAny_Break (wY B L .brk h)⟩
theorem XW.cont {p:Pos} {rest:List Stmt} (h:Q .cont ρ H):XW C k names ρ H (.Continue p::rest) Q:=
 XW.cons ⟨fun A s ι env hr B L=>wpAny_Continue (wY B L .cont h)⟩
end
theorem Loc.own {C:Cx} {names env ρ} {ι:Io} {h h':Heap} (L:Loc C names env ρ ι h) (k:∀a o,Own env a→h.get? a=some o→h'.get? a=some o):Loc C names env ρ ι h':=by
 obtain⟨m,hm,hv⟩:=L.m;have kc:∀{y c v},env.cells.lookup y=some c→h.IsCell c v→h'.IsCell c v:=fun hy ⟨o,ho,hd⟩=>⟨o,k _ _ (.inr ⟨_,hy⟩) ho,hd⟩;refine⟨L.hn,L.hk,L.hg,L.hb,L.nd,⟨m,?_,hv⟩,fun j y kd v h1 h2 h3=>?_,L.cells,fun y c hc=>?_,L.qi,L.rH,L.kJ⟩
 · obtain⟨o,es,ep,e,r⟩:=hm;exact⟨o,es,ep,k _ _ (.inl rfl) e,r⟩
 · obtain⟨c,v',a,b,d⟩:=L.cell j y kd v h1 h2 h3;exact⟨c,v',a,kc a b,d⟩
 · obtain⟨tJ,d⟩:=L.BK y c hc;exact⟨tJ,kc hc d⟩
inductive Dx (C:Cx) (names:List (Str×NameKind)) (env:Env) (ι:Io) (h₀:Heap) (P:List (Option V)→Hp→Prop) (s':Shared):Prop
 |mk (bw:Io) (aO:List (Option V)) (H':Hp) (hb:Bs C bw H' s') (hl:Loc C names env aO bw s'.heap) (he:Ext h₀ ι bw) (hk:df C ι env h₀ s'.heap) (hq:P aO H'):Dx C names env ι h₀ P s'
structure AW (C:Cx) (k:Nat) (names:List (Str×NameKind)) (ρ:List (Option V)) (H:Hp) (tg:Expr) (x:V) (P:List (Option V)→Hp→Prop):Prop where
 out:∀A s ι env v',dM k A→Bs C ι H s→Loc C names env ρ ι s.heap→VR ι x v'→
  wpAny (model C.prog C.w) A (assign tg env v') (fun _=>Dx C names env ι s.heap P) fM s
def rZ:List String:=["enumerate","zip","dict_itemiterator","dict_reverseitemiterator","odict_iterator","itertools.zip_longest","itertools.pairwise"]
structure Ec (C:Cx) (ι₀:Io) (it:Addr) (xs:List V) (Hc:Hp→Prop) (St:Nat→Heap→Prop):Prop where
 frame:∀i (h h':Heap),St i h→(∀o,h.get? it=some o→h'.get? it=some o)→St i h'
 item:∀(A:Around) (i:Nat) (x:V) (s:Shared) (ι ε:Io) (H:Hp) (P:Option Value→Shared→Prop),xs[i]? =some x→Bs C ι H s→ι=ι₀++ε→Hc H→St i s.heap→
  (∀v' h' tk,VR ι x v'→St (i+1) h'→(∀b o,b≠it→s.heap.get? b=some o→h'.get? b=some o)→P (some v') {s with heap:=h',toks:=tk})→wpAny (model C.prog C.w) A (pyNext (.ref it)) P fM s
 done:∀(A:Around) (s:Shared) (ι ε:Io) (H:Hp) (P:Option Value→Shared→Prop),A.handled=none→Bs C ι H s→ι=ι₀++ε→Hc H→St xs.length s.heap→
  (∀h' tk,(∀b o,b≠it→s.heap.get? b=some o→h'.get? b=some o)→P none {s with heap:=h',toks:=tk})→wpAny (model C.prog C.w) A (pyNext (.ref it)) P fM s
 self:∀A i s (P:Value→Shared→Prop),St i s.heap→P (.ref it) s→wpAny (model C.prog C.w) A (pyIter (.ref it)) P fM s
 obj:∀i (h:Heap),St i h→∃o n,h.get? it=some o∧o.cls=.type n∧rZ.contains n=false
structure bF (C:Cx) (k:Nat) (H:Hp) (v:V) (xs:List V) (Hc:Hp→Prop):Prop where
 out:∀A s ι v' (P:Value→Shared→Prop),dM k A→Bs C ι H s→VR ι v v'→
  (∀it h' St,s.heap.get? it=none→(∀b o,s.heap.get? b=some o→h'.get? b=some o)→Ec C ι it xs Hc St→St 0 h'→P (.ref it) {s with heap:=h'})→wpAny (model C.prog C.w) A (pyIter v') P fM s
theorem Nb {prog:Program} {w:World} {A:Around} {s:Shared} {P:Unit→Shared→Prop} {tg:Expr} {it:Addr} {v:Value} {o:Obj} {n:String} (ho:s.heap.get? it=some o) (hc:o.cls=.type n) (hn:rZ.contains n=false) (h:P () s):wpAny (model prog w) A (letOwnedTupleGo tg (.ref it) v) P fM s:=by
 injection prog w A s P tg it v o n with ho hc hn h
 have key:∀a:Addr,wpAny (model prog w) A (do
  let o←load it
  match o.cls,o.data with
  |.type n,.fields vs=>if rZ.contains n&&vs[0]? ==some (rawInt a)then do rule "for.unpacks-the-owned-tuple";updateField it 0 .none else pure ()
  |_,_=>pure ()) P fM s:=by
  rintro-a;refine wpAny_bind (wpAny_load ho ?_);rw[hc]
  cases o.data<;>first|exact wpAny_pure h|(simp only[hn,Bool.false_and,Bool.false_eq_true,if_false];exact wpAny_pure h)
 unfold letOwnedTupleGo
 cases tg<;>first|exact wpAny_pure h|(cases v<;>first|exact wpAny_pure h|exact key _)
section
variable {C:Cx} {k:Nat} {names:List (Str×NameKind)} {ρ:List (Option V)} {H:Hp} {Q:Fl→List (Option V)→Hp→Prop}
inductive MV (C:Cx) (names:List (Str×NameKind)) (env:Env) (ι:Io) (h:Heap) (I:Nat→List (Option V)→Hp→Prop) (m:Nat) (s':Shared):Prop
 |mk (bw:Io) (aO:List (Option V)) (H':Hp) (b:Bs C bw H' s') (c:Loc C names env aO bw s'.heap) (d:Ext h ι bw) (e:df C ι env h s'.heap) (g:I m aO H'):MV C names env ι h I m s'
inductive Mu (C:Cx) (names:List (Str×NameKind)) (env:Env) (aj:Io) (h:Heap) (dz:Addr) (St:Nat→Heap→Prop) (I:Nat→List (Option V)→Hp→Prop) (n m:Nat) (s':Shared):Prop
 |mk (i:Nat) (bw:Io) (aO:List (Option V)) (H':Hp) (a:i+m=n) (b:Bs C bw H' s') (c:Loc C names env aO bw s'.heap) (d:Ext h aj bw) (e:df C aj env h s'.heap) (f:St i s'.heap) (nf:¬foot C bw dz) (g:I i aO H'):Mu C names env aj h dz St I n m s'
theorem XW.Jb {t:Expr} {b:List Stmt} {p:Pos} {rest:List Stmt} (I:Nat→List (Option V)→Hp→Prop) (n:Nat) (h0:I n ρ H)
 (h:∀n ρ H,I n ρ H→TW C k names ρ H t (fun c H₁=>
  (c=true→XW C k names ρ H₁ b (fun fl aO H'=>match fl with|.next=>∃m,m<n∧I m aO H'|.cont=>∃m,m<n∧I m aO H'|.brk=>XW C k names aO H' rest Q|.ret v=>Q (.ret v) aO H'))∧
  (c=false→XW C k names ρ H₁ rest Q))):XW C k names ρ H (.While t b [] p::rest) Q:=by
 injection C k names ρ H Q t b p rest I n with h0 h
 refine XW.cons ⟨?_⟩;rintro-A s ι env hr B L;refine wpAny_While (codeAny_whileLoop (MV C names env ι s.heap I) ?_ n ⟨ι,ρ,H,B,L,Ext.rfl _ _,(Keeps.rfl _ _ _).s,h0⟩);rintro-m du ⟨ι₀,eY,H₀,ji,pH,iu,k₀,hI⟩;have ext:∀{s₁:Shared} {aj:Io},Ext du.heap ι₀ aj→Ext s.heap ι aj:=fun x=>zQ iu k₀ (fun p hp=>by obtain(⟨ε,rfl,_⟩):=iu;exact ji.sim.ex p (List.mem_append_left _ hp)) pH.mT x;refine aH (G.run (h m eY H₀ hI) ⟨hr.handled,hr.depth,hr.units⟩ ji pH ?_);rintro-c s₁ aj c' H₁ av aK aC k₁ aN aA
 cases aN
 cases c with
 |true=>
  simp only[if_true];refine aH (SW.run (aA.1 rfl) hr av aK ?_);rintro-fl bH aP DG cT aB aQ bh aZ k₂ b9 bp;have xB:Ext s.heap ι aP:=ext (s₁:=s₁) (ee av aC k₁ aZ);have xJ:df C ι env s.heap bH.heap:=ba iu k₀ (ba aC k₁.s k₂)
  cases b9 with
  |next=>obtain(⟨m',lt,Kk⟩):=bp;exact⟨m',lt,aP,cT,aB,aQ,bh,xB,xJ,Kk⟩
  |cont=>obtain(⟨m',lt,Kk⟩):=bp;exact⟨m',lt,aP,cT,aB,aQ,bh,xB,xJ,Kk⟩
  |brk=>exact⟨aP,.next,cT,aB,aQ,bh,xB,xJ,.next,bp⟩
  |ret r=>exact⟨aP,_,cT,aB,aQ,bh,xB,xJ,.ret r,bp⟩
 |false=>
  simp only[Bool.false_eq_true,if_false];exact wpAny_execs_nil ⟨aj,.next,eY,H₁,av,aK,ext (s₁:=s₁) aC,ba iu k₀ k₁.s,.next,aA.2 rfl⟩
theorem XW.M_ {tg it:Expr} {b:List Stmt} {p:Pos} {rest:List Stmt}
 (h0:EW C k names ρ H it (fun v H₁=>∃(xs:List V) (Hc:Hp→Prop) (I:Nat→List (Option V)→Hp→Prop),bF C k H₁ v xs Hc∧I 0 ρ H₁∧
  (∀i x ρ H,xs[i]? =some x→I i ρ H→Hc H∧AW C k names ρ H tg x (fun fV H₁=>XW C k names fV H₁ b (fun fl aO H'=>match fl with|.next=>I (i+1) aO H'|.cont=>I (i+1) aO H'|.brk=>XW C k names aO H' rest Q|.ret v=>Q (.ret v) aO H')))∧
  (∀ρ H,I xs.length ρ H→Hc H∧XW C k names ρ H rest Q)))
 (hs:∀env x,foldedSetIterable it env x=pure x):XW C k names ρ H (.For tg it b [] p::rest) Q:=by
 injection C k names ρ H Q tg it b p rest with h0 hs
 refine XW.cons ⟨?_⟩;rintro-A s ι env hr B L;refine wpAny_For (G.run h0 hr B L ?_) (hs env);rintro-v s₁ aj x H₁ av aK aC k₁ aN aA;refine aH ?_;obtain(⟨xs,Hc,I,hit,Pl,turn,done⟩):=aA;refine hit.out A s₁ aj v _ hr av aN ?_;rintro-dz h' St hnew hkeep ok hst;have fr:=av.fresh hnew;have notOwn:¬Own env dz:=fun ow=>by obtain(⟨o,ho⟩):=aK.mT _ ow;rw[hnew]at ho;cases ho
 have Gr:Bs C aj H₁ {s₁ with heap:=h'}:=av.turn (fun _=>False) (fun _ x=>x.elim) (fun a u e _=>hkeep a u e) s₁.toks;have GC:Loc C names env ρ aj h':=aK.own fun a o _ e=>hkeep a o e;refine codeAny_forLoop_any (Mu C names env aj s₁.heap dz St I xs.length) ?_ xs.length
  ⟨0,aj,ρ,H₁,⋯,Gr,GC,Ext.rfl _ _,fun a o e _ _=>hkeep a o e,hst,fr.nf,Pl⟩
 rintro-m du ⟨i,ι₀,eY,H₀,him,ji,pH,iu,k₀,i6,j9,hI⟩;obtain(⟨ε,lJ,_⟩):=id iu;have Kc:∀{aP:Io},Ext du.heap ι₀ aP→Ext s₁.heap aj aP:=fun x=>zQ iu k₀ (fun p hp=>by obtain(⟨ε,rfl,_⟩):=iu;exact ji.sim.ex p (List.mem_append_left _ hp)) pH.mT x;have Ew:∀{aP:Io},Ext s₁.heap aj aP→Ext s.heap ι aP:=fun x=>ee av aC k₁ x;have um:ry C ι₀ dz:=jB fr.1 j9
 by_cases hi:i<xs.length
 · obtain(⟨x,hx⟩):∃x,xs[i]? =some x:=⟨_,z05 hi⟩;obtain(⟨hc,aw⟩):=turn i _ eY H₀ hx hI;refine aH (ok.item A i _ du ι₀ ε H₀ _ hx ji lJ hc i6 ?_);rintro-v' h2 tk rv yM kp;have E0:∀a o,du.heap.get? a=some o→¬a=dz→h2.get? a=some o:=fun a o e ne=>kp a o ne e;have aQ:=ji.turn (· =dz) (fun a ha=>by subst ha;exact um) E0 tk;have bh:Loc C names env eY ι₀ h2:=pH.own fun a o ow e=>kp a o (fun q=>notOwn (q▸ow)) e;obtain(⟨oi,ni,goi,gci,gni⟩):=ok.obj _ _ yM;refine aH (Nb (s:={du with heap:=h2,toks:=tk}) goi gci gni ?_);refine aH (wpAny_mono (aw.out A {du with heap:=h2,toks:=tk} ι₀ env v' hr aQ bh rv) (?_) fun _ _ x=>x);rintro-_ gI ⟨eE,D9,bc,cU,fy,dt,cW,hw⟩;refine aH (SW.run hw hr cU fy ?_);rintro-fl iB cZ DG rk bN fv tN fB f_ w9 i8;have kI:∀o,h2.get? dz=some o→iB.heap.get? dz=some o:=fun o e=>f_ _ _ (cW _ _ e j9 notOwn) (bZ dt e j9) notOwn;have M7:Ext h2 ι₀ cZ:=zQ (env:=env) dt cW (fun p hp=>by obtain(⟨δ,rfl,_⟩):=dt;exact cU.sim.ex p (List.mem_append_left _ hp)) fy.mT fB;have Jo:Ext du.heap ι₀ cZ:=by
    obtain(⟨δ,rfl,oo⟩):=M7;refine⟨δ,rfl,?_⟩;rintro-p hp;have key:∀a,h2.get? a=none→du.heap.get? a=none:=by
     rintro-a ha
     cases q:du.heap.get? a with
     |none=>rfl
     |some o=>
      by_cases z:a=dz
      · subst z;rw[goi]at ha;cases ha
      · rw[kp a o z q]at ha;cases ha
    exact⟨key _ (oo p hp).1,key _ (oo p hp).2⟩
   have xA:=Kc Jo;have EX:df C aj env s₁.heap iB.heap:=by
    rintro-a o e nf nw;have ne:a≠dz:=fun q=>by subst q;rw[hnew]at e;cases e
    have h0:=k₀ a o e nf nw;have NW:=bZ iu e nf;have Nc:=kp a o ne h0;have h3:=cW a o Nc NW nw;exact f_ a o h3 (bZ dt Nc NW) nw
   have ke:df C ι env s.heap iB.heap:=ba aC k₁.s EX;obtain(⟨QE,HG⟩):∃o,h2.get? dz=some o:=⟨_,goi⟩;have NX:¬foot C cZ dz:=bZ M7 HG j9
   cases w9 with
   |next=>exact⟨m-1,⋯,i+1,cZ,rk,bN,⋯,fv,tN,xA,EX,ok.frame _ _ _ yM kI,NX,i8⟩
   |cont=>exact⟨m-1,⋯,i+1,cZ,rk,bN,⋯,fv,tN,xA,EX,ok.frame _ _ _ yM kI,NX,i8⟩
   |brk=>exact⟨cZ,.next,rk,bN,fv,tN,Ew xA,ke,.next,i8⟩
   |ret r=>exact⟨cZ,_,rk,bN,fv,tN,Ew xA,ke,.ret r,i8⟩
 · have yK:i=xs.length:=⋯
   subst yK;obtain(⟨hc,hw⟩):=done eY H₀ hI;refine aH (ok.done A du ι₀ ε H₀ _ hr.handled ji lJ hc i6 ?_);rintro-h2 tk kp;have E0:∀a o,du.heap.get? a=some o→¬a=dz→h2.get? a=some o:=fun a o e ne=>kp a o ne e;have aQ:=ji.turn (· =dz) (fun a ha=>by subst ha;exact um) E0 tk;have bh:Loc C names env eY ι₀ h2:=pH.own fun a o ow e=>kp a o (fun q=>notOwn (q▸ow)) e;have EX:df C aj env s₁.heap h2:=fun a o e nf nw=>kp a o (fun q=>by subst q;rw[hnew]at e;cases e) (k₀ a o e nf nw);exact wpAny_execs_nil ⟨ι₀,.next,eY,H₀,aQ,bh,Ew iu,ba aC k₁.s EX,.next,hw⟩
end
inductive GF (ι:Io) (h:Heap) (n:Nat) (o:O) (v:Value):Prop|mk (p:Addr×Addr) (e:v=.ref p.1) (hp:ι[n]? =some p) (r:OR ι h p o):GF ι h n o v
theorem bj {C:Cx} {ι:Io} {H:Hp} {s:Shared} (B:Bs C ι H s) {n:Nat} {v':Value} {o:O} (r:VR ι (.ref n) v') (ho:H[n]? =some o):GF ι s.heap n o v':=by
 cases r with
 |ref hn=>exact⟨_,rfl,hn,B.sim.obj n _ o hn ho⟩
theorem dm {ι bw ε:Io} (e:bw=ι++ε) {n:Nat} {p:Addr×Addr} (h:ι[n]? =some p):bw[n]? =some p:=by
 rw[e,z09 (z06.mp h).1];exact h
section
variable {C:Cx} {k:Nat} {H:Hp}
theorem uQ {h:Heap} {p:Addr×Addr} {ι:Io} {xs:List V} (x:OR ι h p (.L xs)) {i:Nat} {y:V} (hy:xs[i]? =some y):∃vs,h.IsList p.1 vs∧∃v,vs[i]? =some v∧VR ι y v:=by
 obtain⟨vs,a,b⟩:=x;obtain⟨v,e,r⟩:=b.get hy;exact⟨vs,a.isList,v,by simpa using e,r⟩
theorem Dn {h:Heap} {p:Addr×Addr} {ι:Io} {xs:List V} (x:OR ι h p (.tup xs)) {i:Nat} {y:V} (hy:xs[i]? =some y):∃vs,h.IsTuple p.1 vs∧∃v,vs[i]? =some v∧VR ι y v:=by
 obtain⟨vs,ep,a,b⟩:=x;obtain⟨v,e,r⟩:=b.get hy;exact⟨vs,⟨_,a,rfl,_,rfl⟩,v,by simpa using e,r⟩
theorem bF.list {n:Nat} {xs:List V} (h0:H[n]? =some (.L xs)):bF C k H (.ref n) xs (fun H'=>H'[n]? =some (.L xs)):=by
 refine⟨fun A s ι v' P hr B r h=>?_⟩;obtain⟨p,rfl,hp,vs,hL,hvs⟩:=bj B r h0;refine wpAny_pyIter_list hL.isList ?_;refine h _ _ (fun i h'=>h'.IsListIter s.heap.objs.size p.1 i) (z18 (z21 _)) (fun b o e=>z17 _ e) ⟨?_,?_,?_,?_,?_⟩ ⟨_,Heap.get?_push_size _ rfl,rfl,rfl⟩
 · rintro i h h' ⟨o,a,b⟩ hk;exact⟨o,hk o a,b⟩
 · intro A i x s₁ aj ε H₁ P hx av e hc hst hq;have zy:=av.sim.obj n p _ (dm e hp) hc;obtain⟨By,hl,v,hv,rv⟩:=uQ zy hx;exact wpAny_pyNext_list_item hst hl hv fun h' hit hs=>hq v h' _ rv hit fun b o hb eb=>(hs.2 b hb).trans eb
 · intro A s₁ aj ε H₁ P hh av e hc hst hq;obtain⟨By,Ho,wG⟩:=av.sim.obj n p _ (dm e hp) hc;refine wpAny_pyNext_list_end hh hst Ho.isList ?_ fun h' hs=>hq h' _ fun b o hb eb=>hs b o hb eb;rw[Array.getElem?_eq_none];have:=wG.length;simp at this;omega
 · intro A i s₁ P st hq;exact wpAny_pyIter_listiter st hq
 · rintro i h ⟨o,a,b,c⟩;exact⟨o,_,a,b,by decide⟩
theorem sL {prog:Program} {w:World} {A:Around} {E:Value→Shared→Prop} {s:Shared} {it l:Addr} {i:Nat} {Q:Value→Shared→Prop} (hit:s.heap.IsTupleIter it l i) (h:Q (.ref it) s):wpAny (model prog w) A (pyIter (.ref it)) Q E s:=by
 have hT:s.TypeIs (.ref it) "tuple_iterator":=by obtain⟨o,a,b,_⟩:=hit;exact⟨o,a,b⟩
 refine wpAny_pyIter_slot hT F.slot_tuple_iterator_iter (wpAny_call_entry F.slot_tuple_iterator_iter hT F.entry_tuple_iterator_iter ?_ (F.args_tuple_iterator_iter_1 _));show wpAny _ _ (ret (.ref it)) _ _ s;exact wpAny_pure ⟨_,rfl,"tuple_iterator",_,hT,F.slot_tuple_iterator_next.lookup,h⟩
theorem ox {prog:Program} {w:World} {A:Around} {E:Value→Shared→Prop} {s:Shared} {it:Addr} {x l st:Int} {Q:Value→Shared→Prop} (hit:IsRangeIter s.heap it x l st) (h:Q (.ref it) s):wpAny (model prog w) A (pyIter (.ref it)) Q E s:=by
 have hT:s.TypeIs (.ref it) "range_iterator":=⟨_,hit,rfl⟩;refine wpAny_pyIter_slot hT F.slot_range_iterator_iter (wpAny_call_entry F.slot_range_iterator_iter hT F.entry_range_iterator_iter ?_ (F.args_range_iterator_iter_1 _));show wpAny _ _ (ret (.ref it)) _ _ s;exact wpAny_pure ⟨_,rfl,"range_iterator",_,hT,F.slot_range_iterator_next.lookup,h⟩
theorem bF.tup {n:Nat} {xs:List V} (h0:H[n]? =some (.tup xs)):bF C k H (.ref n) xs (fun H'=>H'[n]? =some (.tup xs)):=by
 refine⟨fun A s ι v' P hr B r h=>?_⟩;obtain⟨p,rfl,hp,vs,ep,ho,hvs⟩:=bj B r h0;refine wpAny_pyIter_tuple ⟨_,ho,rfl,_,rfl⟩ ?_;refine h _ _ (fun i h'=>h'.IsTupleIter s.heap.objs.size p.1 i) (z18 (z21 _)) (fun b o e=>z17 _ e) ⟨?_,?_,?_,?_,?_⟩ ⟨_,Heap.get?_push_size _ rfl,rfl,rfl⟩
 · rintro i h h' ⟨o,a,b⟩ hk;exact⟨o,hk o a,b⟩
 · intro A i x s₁ aj ε H₁ P hx av e hc hst hq;have zy:=av.sim.obj n p _ (dm e hp) hc;obtain⟨By,hl,v,hv,rv⟩:=Dn zy hx;exact wpAny_pyNext_tuple_item hst hl hv fun h' hit hs=>hq v h' _ rv hit fun b o hb eb=>(hs.2 b hb).trans eb
 · intro A s₁ aj ε H₁ P hh av e hc hst hq;obtain⟨By,M8,HF,wG⟩:=av.sim.obj n p _ (dm e hp) hc;refine wpAny_pyNext_tuple_end hh hst ⟨_,HF,rfl,_,rfl⟩ ?_ fun h' hs=>hq h' _ fun b o hb eb=>hs b o hb eb;rw[Array.getElem?_eq_none];have:=wG.length;simp at this;omega
 · intro A i s₁ P st hq;exact sL st hq
 · rintro i h ⟨o,a,b,c⟩;exact⟨o,_,a,b,by decide⟩
def c8 (a b c:Int):List V:=(List.range (Builtin.Range.rangeSize a b c).toNat).map fun i:Nat=>.I (a+c*i)
theorem bF.range {n:Nat} {a b c:Int} (h0:H[n]? =some (.range a b c)) (hs:Builtin.Range.small a b c=true):bF C k H (.ref n) (c8 a b c) (fun _=>True):=by
 refine⟨fun A s ι v' P hr B r h=>?_⟩;obtain⟨p,rfl,hp,t,u,v,ho⟩:=bj B r h0;refine wpAny_pyIter_range ho hs ?_;have hlen:(c8 a b c).length=(Builtin.Range.rangeSize a b c).toNat:=by simp[c8]
 refine h _ _ (fun i h'=>IsRangeIter h' s.heap.objs.size (a+c*i) (Builtin.Range.rangeSize a b c-i) c) (z18 (z21 _)) (fun b o e=>z17 _ e) ⟨?_,?_,?_,?_,?_⟩ ?_
 · intro i h h' a hk;exact hk _ a
 · intro A i x s₁ aj ε H₁ P hx av e hc hst hq;have hi:i<(c8 a b c).length:=(z06.mp hx).1;have ex:x=.I (a+c*i):=by
    simp only[c8,z11]at hx;rw[List.getElem?_range ⋯]at hx
    simpa using hx.symm
   subst ex;refine wpAny_pyNext_range_item hst ⋯ fun h' hit hs=>hq _ h' _ (.I _ _) ?_ fun b o hb eb=>(hs.2 b hb).trans eb;have e1:a+c*(i:Int)+c=a+c*((i+1:Nat):Int):=by push_cast;rw[Int.mul_add];omega
   have e2:Builtin.Range.rangeSize a b c-(i:Int)-1=Builtin.Range.rangeSize a b c-((i+1:Nat):Int):=⋯
   rw[e1,e2]at hit;exact hit
 · intro A s₁ aj ε H₁ P hh av e hc hst hq;exact wpAny_pyNext_range_end hh hst ⋯ fun h' hs=>hq h' _ fun b o hb eb=>hs b o hb eb
 · intro A i s₁ P st hq;exact ox st hq
 · intro i h a;exact⟨_,_,a,rfl,by decide⟩
 · have:=Heap.get?_push_size s.heap (o:={cls:=.type "range_iterator",data:=.fields #[rawInt a,rawInt (Builtin.Range.rangeSize a b c),rawInt c]}) rfl;show Heap.get? _ _=_;rw[this];simp
end
section
variable {C:Cx} {k:Nat} {names:List (Str×NameKind)} {ρ:List (Option V)} {H:Hp} {P:List (Option V)→Hp→Prop}
theorem AW.name (j:Nat) {x:Str} {kd:NameKind} {p:Pos} {v:V} (h:P (ρ.set j (some v)) H) (en:names[j]? =some (x,kd)) (hk:kd=.local∨kd=.cell):AW C k names ρ H (.Name x p) v P:=by
 refine⟨fun A s ι env v' hr B L r=>?_⟩;refine wpAny_assign_Name (je B L j en hk r fun h' tk aQ bh k₂=>?_);exact⟨ι,_,H,aQ,bh,Ext.rfl _ _,k₂.s,h⟩
inductive zt (names:List (Str×NameKind)):List Expr→List Nat→Prop
 |nil:zt names [] []
 |cons {x kd p es j js}:names[j]? =some (x,kd)→(kd=.local∨kd=.cell)→zt names es js→zt names (.Name x p::es) (j::js)
def sets (ρ:List (Option V)):List Nat→List V→List (Option V)
 |j::js,v::vs=>sets (ρ.set j (some v)) js vs
 |_,_=>ρ
theorem zt.len {es js} (h:zt names es js):js.length=es.length:=by induction h<;>simp_all
theorem t8 (es:List Expr) (env:Env) {js} (h:zt names es js):(assignEach es env).length=es.length:=by
 induction h with
 |nil=>rfl
 |cons h1 h2 h3 ih=>exact congrArg (· +1) ih
theorem qF (es:List Expr) (env:Env) {js} (h:zt names es js):(assignEach es env).findIdx? (·.1)=none:=by
 induction h with
 |nil=>rfl
 |cons h1 h2 h3 ih=>
  refine(List.findIdx?_cons).trans ?_;exact congrArg (Option.map (· +1)) ih
theorem uK {env:Env} {A:Around} {js:List Nat} {es:List Expr} (at_:zt names es js):∀{ρ:List (Option V)} {vs:List V} {D5:List Value} {s:Shared} {ι:Io} {Q:Unit→Shared→Prop},vs.length=es.length→dS ι vs D5→Bs C ι H s→Loc C names env ρ ι s.heap→
 (∀h' tk,Bs C ι H {s with heap:=h',toks:=tk}→Loc C names env (sets ρ js vs) ι h'→df C ι env s.heap h'→Q () {s with heap:=h',toks:=tk})→
 wpAny (model C.prog C.w) A (assignInOrder ((assignEach es env).map (·.2)) D5) Q fM s:=by
 induction at_ with
 |nil=>
  intro ρ vs D5 s ι Q hl r B L h
  cases r with
  |nil=>exact wpAny_assignInOrder_none (h s.heap s.toks B L (Keeps.rfl _ _ _).s)
  |cons _ _=>simp at hl
 |@cons x kd p es j js h1 h2 h3 ih=>
  intro ρ vs D5 s ι Q hl r B L h
  cases r with
  |nil=>simp at hl
  |@cons y ys v' D5 r1 r2=>
   refine wpAny_assignInOrder_more (t:=fun v=>assign (.Name x p) env v) (wpAny_assign_Name (je B L j h1 h2 r1 fun h' tk aQ bh k₂=>?_));refine ih (by simpa using hl) r2 aQ bh fun uI Q3 cU fy cW=>?_;exact h uI Q3 cU fy (ba (Ext.rfl _ _) k₂.s cW)
theorem AW.tup {n:Nat} {vs:List V} {es:List Expr} {x1:Nat} {pos:Pos} (js:List Nat) (at_:zt names es js) (hl:vs.length=es.length) (ho:H[n]? =some (.tup vs)) (h:P (sets ρ js vs) H):AW C k names ρ H (.Tuple es x1 pos) (.ref n) P:=by
 refine⟨fun A s ι env v' hr B L r=>?_⟩;obtain⟨p,rfl,hp,D5,ep,hg,hvs⟩:=bj B r ho;refine wpAny_assign_Tuple hr.handled ⟨_,hg,rfl,_,rfl⟩ ?_ (qF es env at_) fun h' he=>?_
 · rw[t8 es env at_,←hl,←hvs.length];simp
 have av:Bs C ι H {s with heap:=h',toks:=s.toks}:=B.turn (· =s.heap.objs.size) (fun a e=>by subst e;exact B.fresh (z18 (z21 _))) (fun a o e ne=>he a o ne e) s.toks;have kp:∀a o,s.heap.get? a=some o→h'.get? a=some o:=fun a o e=>he a o (fun q=>by rw[q,z18 (z21 _)]at e;cases e) e;have aK:Loc C names env ρ ι h':=L.own fun a o _ e=>kp a o e;refine uK at_ hl hvs av aK fun uI tk aQ bh k₂=>?_;exact⟨ι,_,H,aQ,bh,Ext.rfl _ _,ba (Ext.rfl _ _) (fun a o e _ _=>kp a o e) k₂,h⟩
section
variable {prog:Program} {w:World} {A:Around} {E:Value→Shared→Prop} {s:Shared}
theorem iG {h h':Heap} {a b:Addr} {items:Array Value} (x:h.IsList a items) (hs:Heap.ExtBut b h h') (hab:a≠b):h'.IsList a items:=
 let⟨o,ho,r⟩:=x;⟨o,hs a o hab ho,r⟩
theorem lM {h:Heap} {a:Addr} {items:Array Value} (x:h.IsList a items) (o:Obj):(h.push o).IsList a items:=
 let⟨o',ho,r⟩:=x;⟨o',z17 o ho,r⟩
theorem qE {it t:Addr} {items:Array Value} (hne:t≠it):∀(n i:Nat) (s:Shared) (Q:List Value→Shared→Prop),s.heap.IsListIter it t i→s.heap.IsList t items→i+n≤items.size→
 (∀h',h'.IsListIter it t (i+n)→Heap.SameBut it s.heap h'→Q ((items.toList.drop i).take n) {s with heap:=h'})→wpAny (model prog w) A (draw (.ref it) n) Q E s
 |0,i,s,Q,hit,_,_,hQ=>by
  show wpAny _ _ (pure []) Q E s;exact wpAny_pure (by simpa using hQ s.heap hit (Heap.SameBut.refl ..))
 |n+1,i,s,Q,hit,ht,hle,hQ=>by
  have hlt:i<items.size:=⋯
  show wpAny _ _ (pyNext (.ref it)>>=_) Q E s;refine wpAny_bind (wpAny_pyNext_list_item hit ht (x:=items[i]) (by simp[hlt]) fun aA wF uJ=>?_);refine wpAny_bind (wpAny_holding (qE hne n (i+1) _ _ wF (iG ht uJ.extBut hne) ⋯ fun bp EF HM=>wpAny_pure ?_));have hd:items.toList.drop i=items[i]::items.toList.drop (i+1):=by simp[List.drop_eq_getElem_cons,hlt]
  have:=hQ bp (by rw[show i+(n+1)=i+1+n by omega];exact EF) (uJ.trans HM);rw[hd,List.take_succ_cons]at this;exact this
theorem lB {t:Addr} {items:Array Value} {Q:List Value→Shared→Prop} (hh:A.handled=none) (ht:s.heap.IsList t items)
 (hQ:∀h',Heap.ExtBut s.heap.objs.size s.heap h'→Q items.toList {s with heap:=h'}):wpAny (model prog w) A (unpackItems (.ref t) items.size none) Q E s:=by
 injection prog w A E s t items Q with hh ht hQ
 have hlt:t≠s.heap.objs.size:=by obtain(⟨o,ho,_⟩):=ht;exact Nat.ne_of_lt (Heap.lt_size ho)
 unfold unpackItems;refine wpAny_bind ?_
 · unfold notIterableAtAll;refine wpAny_bind (wpAny_specialOf ht.typeIs slot_list_iter.lookup ?_);refine wpAny_pure ?_;simp only[Bool.false_eq_true,if_false];refine wpAny_bind (wpAny_holding (wpAny_pyIter_list ht ?_));refine wpAny_bind (wpAny_holding (qE hlt items.size 0 _ _ ⟨_,Heap.get?_push_size _ rfl,rfl,rfl⟩ (lM ht _) ⋯ fun aA wF uJ=>?_));have hall:List.take items.size (List.drop 0 items.toList)=items.toList:=by
    rw[List.drop_zero];exact List.take_of_length_le (by simp)
   rw[hall];rw[if_neg (by simp)];have HO:aA.IsList t items:=iG (lM ht _) uJ.extBut hlt;refine wpAny_bind (wpAny_holding (wpAny_pyNext_list_end hh wF HO (by simp) ?_));rintro-bp Hr;simp only[Option.isSome_none,Bool.false_eq_true,if_false];refine wpAny_pure (hQ bp fun b o hb e=>Hr b o hb (uJ.extBut b o hb (z17 _ e)))
theorem jq {env:Env} {elts:List Expr} {x1:Nat} {pos:Pos} {t:Addr} {items:Array Value} {Q:Unit→Shared→Prop} (hh:A.handled=none) (ht:s.heap.IsList t items)
 (hn:(assignEach elts env).length=items.size) (hstar:(assignEach elts env).findIdx? (·.1)=none)
 (h:∀h',Heap.ExtBut s.heap.objs.size s.heap h'→wpAny (model prog w) A (assignInOrder ((assignEach elts env).map (·.2)) items.toList) Q E {s with heap:=h'}):
 wpAny (model prog w) A (assign (.Tuple elts x1 pos) env (.ref t)) Q E s:=by
 rw[arm_assign_Tuple];refine wpAny_bind (wpAny_standAt ?_);unfold unpack;rw[hn,hstar];exact wpAny_bind (wpAny_holding (lB hh ht h))
end
theorem AW.Mh {n:Nat} {vs:List V} {es:List Expr} {x1:Nat} {pos:Pos} (js:List Nat) (at_:zt names es js) (hl:vs.length=es.length) (ho:H[n]? =some (.L vs)) (h:P (sets ρ js vs) H):AW C k names ρ H (.Tuple es x1 pos) (.ref n) P:=by
 refine⟨fun A s ι env v' hr B L r=>?_⟩;obtain⟨p,rfl,hp,D5,hg,hvs⟩:=bj B r ho;refine jq hr.handled hg.isList ?_ (qF es env at_) fun h' he=>?_
 · rw[t8 es env at_,←hl,←hvs.length];simp
 have av:Bs C ι H {s with heap:=h',toks:=s.toks}:=B.turn (· =s.heap.objs.size) (fun a e=>by subst e;exact B.fresh (z18 (z21 _))) (fun a o e ne=>he a o ne e) s.toks;have kp:∀a o,s.heap.get? a=some o→h'.get? a=some o:=fun a o e=>he a o (fun q=>by rw[q,z18 (z21 _)]at e;cases e) e;have aK:Loc C names env ρ ι h':=L.own fun a o _ e=>kp a o e;refine uK at_ hl hvs av aK fun uI tk aQ bh k₂=>?_;exact⟨ι,_,H,aQ,bh,Ext.rfl _ _,ba (Ext.rfl _ _) (fun a o e _ _=>kp a o e) k₂,h⟩
end
inductive Mt (C:Cx) (a:Addr) (names:List (Str×NameKind)) (n:Nat) (body:List Stmt):Prop
 |mk (o:Obj) (fd:FuncData) (h0:C.aA.get? a=some o) (h1:o.data=.func fd) (h2:C.aA.CodeRec fd.code fd.qualname) (h3:fd.body=.stmts body) (h4:fd.closure=[]) (h5:fd.scope.names=names) (h6:fd.scope.isCoroutine=false) (h7:fd.scope.isGenerator=false) (h8:fd.scope.kind=.function) (h9:fd.globals=mainGlobals) (Rl:fd.builtins=builtinsNs)
  (Rm:∀vs:List Value,vs.length=n→bindArgs fd ⟨vs,[]⟩=pure (((names.take n).map (·.1)).zip vs)):Mt C a names n body
structure FnAt (C:Cx) (a:Addr) (names:List (Str×NameKind)) (n:Nat) (body:List Stmt):Prop where
 ex:Mt C a names n body
 nd:(names.map (·.1)).Nodup
 le:n≤names.length
 par:∀(i:Nat) x kd,i<n→names[i]? =some (x,kd)→kd=.local∨kd=.cell
structure FW (C:Cx) (k:Nat) (a:Addr) (args:List V) (H:Hp) (Q:V→Hp→Prop):Prop where
 out:∀A s ι vs,dM k A→Bs C ι H s→dS ι args vs→wpAny (model C.prog C.w) A (call (.ref a) vs) (bC C ι s.heap VR Q) fM s
structure FC (C:Cx) (k:Nat) (a:Addr) (args:List V) (H:Hp) (Q:V→Hp→Prop):Prop where
 out:∀A s ι vs,dM k A→Bs C ι H s→dS ι args vs→codeAny (model C.prog C.w) A (.call (.ref a) ⟨vs,[]⟩) (fun r s'=>match r with|.ok (.ret v)=>bC C ι s.heap VR Q v s'|.ok _=>False|.error e=>fM e s') s
theorem FC.fw {C:Cx} {k:Nat} {a:Addr} {args:List V} {H:Hp} {Q:V→Hp→Prop} (h:FC C k a args H Q):FW C k a args H Q:=⟨fun A s ι vs hr B r=>wpAny_call (h.out A s ι vs hr B r)⟩
theorem dA:∀(names:List (Str×NameKind)) (n:Nat) (acc:List (Str×Addr)) (x:Str),((x,NameKind.cell)∈names∨(acc.lookup x).isSome=true)→((cellsFrom n names acc).lookup x).isSome=true
 |[],n,acc,x,h=>by
  rcases h with h|h
  · cases h
  · exact h
 | (y,kd)::r,n,acc,x,h=>by
  unfold cellsFrom
  split
  · rename_i hk
    refine dA r _ _ x ?_;rw[List.lookup_cons]
    by_cases e:x=y
    · subst e;right;simp
    · have:(x==y)=false:=by simpa using e
      rw[this];rcases h with h|h
      · rcases List.mem_cons.mp h with h|h
        · cases h;exact absurd rfl e
        · exact .inl h
      · exact .inr h
  · rename_i hk
    refine dA r _ _ x ?_;rcases h with h|h
    · rcases List.mem_cons.mp h with h|h
      · cases h;exact absurd rfl hk
      · exact .inl h
    · exact .inr h
theorem lG (kf:Str→Option NameKind):∀(binds:List (Str×Value)) (m:Str→Option Value) (x:Str),x∉binds.map (·.1)→bindL kf binds m x=m x
 |[],m,x,_=>rfl
 | (y,v)::r,m,x,h=>by
  simp only[List.map_cons,List.mem_cons,not_or]at h;unfold bindL;rw[lG kf r _ x h.2]
  split
  · simp[h.1]
  · rfl
theorem lF (kf:Str→Option NameKind):∀(binds:List (Str×Value)) (m:Str→Option Value) (x:Str),x∉binds.map (·.1)→bindC kf binds m x=m x
 |[],m,x,_=>rfl
 | (y,v)::r,m,x,h=>by
  simp only[List.map_cons,List.mem_cons,not_or]at h;unfold bindC;rw[lF kf r _ x h.2]
  split
  · rfl
  · simp[h.1]
theorem tX (kf:Str→Option NameKind):∀(binds:List (Str×Value)) (m:Str→Option Value) (i:Nat) (x:Str) (v:Value),(binds.map (·.1)).Nodup→binds[i]? =some (x,v)→kf x=some .local→bindL kf binds m x=some v
 |[],m,i,x,v,_,h,_=>by simp at h
 | (y,u)::r,m,0,x,v,nd,h,hk=>by
  simp at h;obtain⟨rfl,rfl⟩:=h;unfold bindL;rw[lG kf r _ _ (List.nodup_cons.mp nd).1,if_pos hk];simp
 | (y,u)::r,m,i+1,x,v,nd,h,hk=>by
  unfold bindL;exact tX kf r _ i x v (List.nodup_cons.mp nd).2 (by simpa using h) hk
theorem tW (kf:Str→Option NameKind):∀(binds:List (Str×Value)) (m:Str→Option Value) (i:Nat) (x:Str) (v:Value),(binds.map (·.1)).Nodup→binds[i]? =some (x,v)→kf x=some .cell→bindC kf binds m x=some v
 |[],m,i,x,v,_,h,_=>by simp at h
 | (y,u)::r,m,0,x,v,nd,h,hk=>by
  simp at h;obtain⟨rfl,rfl⟩:=h;unfold bindC;rw[lF kf r _ _ (List.nodup_cons.mp nd).1,if_neg (by rw[hk];decide)];simp
 | (y,u)::r,m,i+1,x,v,nd,h,hk=>by
  unfold bindC;exact tW kf r _ i x v (List.nodup_cons.mp nd).2 (by simpa using h) hk
theorem yk {α β:Type}:∀(l:List α) (r:List β),l.length=r.length→(l.zip r).map (·.1)=l
 |[],r,_=>by simp
 |a::l,[],h=>by simp at h
 |a::l,b::r,h=>by simp[yk l r (by simpa using h)]
theorem xZ {args:List V} {m j:Nat} {v:V} (h:(args.map some++List.replicate m none)[j]? =some (some v)):args[j]? =some v:=by
 by_cases hj:j<args.length
 · rw[z09 (by simpa using hj)]at h
   simpa using h
 · rw[z10 (by simpa using hj)]at h;rw[List.getElem?_replicate]at h
   split at h<;>simp at h
theorem FC.of {C:Cx} {k:Nat} {a:Addr} {names:List (Str×NameKind)} {n:Nat} {body:List Stmt} {args:List V} {H:Hp} {Q:V→Hp→Prop} (F:FnAt C a names n body) (hl:args.length=n)
 (h:XW C k names (args.map some++List.replicate (names.length-n) none) H body (fun fl _ H'=>match fl with|.ret v=>Q v H'|.next=>Q .none H'|_=>False)):FC C (k+1) a args H Q:=by
 injection C k a names n body args H Q with F hl h
 obtain(⟨o,fd,ho,hd,hcd,hbody,hclo,hnm,hco,hgen,hkind,hgl,hbu,hbind⟩):=F.ex;refine⟨?_⟩;rintro-A s ι vs hr B rv;have hlen:vs.length=n:=rv.length.trans hl;have hzl:((names.take n).map (·.1)).length=vs.length:=by simp[hlen,F.le]
 have hfst:((((names.take n).map (·.1)).zip vs)).map (·.1)=(names.take n).map (·.1):=yk _ _ hzl;have sF:((((names.take n).map (·.1)).zip vs).map (·.1)).Nodup:=by
  rw[hfst];have:=F.nd;rw[←List.take_append_drop n names,List.map_append]at this;exact(List.nodup_append.mp this).1
 have hat:∀(j:Nat) x kd v,names[j]? =some (x,kd)→vs[j]? =some v→(((names.take n).map (·.1)).zip vs)[j]? =some (x,v):=by
  rintro-j x kd v h1 h2;have hj:j<n:=by have:=(z06.mp h2).1;omega
  rw[List.getElem?_zip_eq_some];refine⟨?_,h2⟩;rw[z11,List.getElem?_take_of_lt hj,h1];rfl
 have Px:A.depth<recursionLimit:=by have:=hr.depth;omega
 refine codeAny_call_cells Px (B.keep _ _ ho) hd (B.ok.nolimit.keeps B.keep) (hcd.keeps B.keep) hbody (hbind vs hlen) hclo ?_ (?_) hco hgen hkind
 · rintro-x hx;obtain(⟨i,hi,ei⟩):=z27 hx;have yK:=hi;rw[List.length_zip]at hi;have hin:i<names.length:=by simp at hi;exact z19 hi (z20 (Nat.min_le_right ..) (Nat.min_le_left ..))
   have hiN:i<n:=by simp at hi;omega
   have e1:x.1=names[i].1:=by
    have:(((names.take n).map (·.1)).zip vs)[i]? =some x:=by rw[z05 yK,ei]
    have:=hat i names[i].1 names[i].2 _ (z05 hin) (z05 (by omega:i<vs.length));rw[z05 yK,ei]at this
    cases this;rfl
   have hk:=F.par i names[i].1 names[i].2 hiN (z05 hin);have hlk:names.lookup names[i].1=some names[i].2:=cw F.nd (z05 hin);rw[hnm,e1,hlk];rcases hk with hk|hk
   · rw[hk];exact .inl rfl
   · rw[hk];exact .inr ⟨rfl,dA _ _ _ _ (.inl (by rw[←hk];exact List.getElem_mem hin))⟩
 · rintro-s₁ X;have EM:s.heap.get? s.heap.objs.size=none:=z18 (z21 _);have kind_at:∀{j:Nat} {x:Str} {kd:NameKind},names[j]? =some (x,kd)→(callEnvC fd s.heap.objs.size a).kindOf x=some kd:=by
    rintro-j x kd e;show fd.scope.names.lookup _=_;rw[hnm];exact cw F.nd e
   have keep:=X.toInCall.keep;obtain(⟨h',tk,rfl,_⟩):=X.done;have av:Bs C ι H {s with heap:=h',toks:=tk}:=B.turn (fun _=>False) (fun _ x=>x.elim) (fun a o e _=>keep a o e) tk;have clo:∀x c,(callEnvC fd s.heap.objs.size a).cells.lookup x=some c→s.heap.get? c=none:=fun x c hc=>z18 (by have:=X.above x c (mem_of_lookup hc);exact Nat.le_of_lt this);have aK:Loc C names (callEnvC fd s.heap.objs.size a) (args.map some++List.replicate (names.length-n) none) ι h':=by
    refine⟨hnm,hkind,hgl,hbu,F.nd,⟨_,X.toInCall.ns,?_⟩,?_,?_,fun x c hc=>⟨_,X.cell x c hc⟩,?_,?_,?_⟩
    · rintro-j x v h1 h2;obtain(⟨v',e,r⟩):=rv.get (xZ h2);exact⟨v',tX _ _ _ j x v' sF (hat j x _ v' h1 e) (kind_at h1),r⟩
    · rintro-j x kd v h1 h2 h3;obtain(⟨v',e,r⟩):=rv.get (xZ h3);have hj:j<n:=by have:=(z06.mp e).1;omega
      have i5:kd=.cell:=by
       rcases F.par j x kd hj h1 with e|e
       · subst e;rcases h2 with h2|h2<;>cases h2
       · exact e
      subst i5;have hs:=dA names (s.heap.objs.size+1) [] x (.inl (z08 h1));obtain(⟨c,hc⟩):=Option.isSome_iff_exists.mp hs;have F_:(callEnvC fd s.heap.objs.size a).cells.lookup x=some c:=by
       show(cellsFrom (s.heap.objs.size+1) fd.scope.names []).lookup x=_;rw[hnm];exact hc
      refine⟨c,v',F_,?_,r⟩;have:=X.cell x c F_
      rwa [tW _ _ _ j x v' sF (hat j x _ v' h1 e) (kind_at h1)]at this
    · rintro-x hx;have hs:=dA names (s.heap.objs.size+1) [] x (.inl hx);obtain(⟨c,hc⟩):=Option.isSome_iff_exists.mp hs;exact⟨c,by show(cellsFrom (s.heap.objs.size+1) fd.scope.names []).lookup x=_;rw[hnm];exact hc⟩
    · exact⟨(B.fresh EM).1,(B.fresh EM).nf⟩
    · rintro-x c hc;exact⟨(B.fresh (clo x c hc)).1,(B.fresh (clo x c hc)).nf⟩
    · rintro-x y c hx hy;exact name_of_addr X.apart (mem_of_lookup hx) (mem_of_lookup hy)
   have CH:dM k (A.deeper (callEnvC fd s.heap.objs.size a)):=⟨hr.handled,by have:=hr.depth;show A.depth+1+10*k<_;omega,by have:=hr.units;show A.units+3+60*k<_;omega⟩;refine wpAny_mono (h.out _ {s with heap:=h',toks:=tk} ι _ CH av aK) (?_) fun _ _ x=>x.elim;rintro-fl bH p;obtain⟨aP,DG,cT,aB,aQ,bh,aZ,k₂,b9,C8⟩:=p;have back:∀b,h'.get? b=none→s.heap.get? b=none:=by
    rintro-b hb
    cases e:s.heap.get? b with
    |none=>rfl
    |some o=>rw[keep b o e]at hb;cases hb
   have e':Ext s.heap ι aP:=by obtain(⟨ε,rfl,wH⟩):=aZ;exact⟨ε,rfl,fun p hp=>⟨back _ (wH p hp).1,back _ (wH p hp).2⟩⟩
   have kp:Keeps C ι s.heap bH.heap:=fun b u eb nf=>k₂ b u (keep b u eb) nf (by
    rintro-ow;rcases ow with rfl|⟨x,hx⟩
    · exact absurd EM (by rw[show(callEnvC fd s.heap.objs.size a).locals=s.heap.objs.size from rfl]at eb;rw[eb];simp)
    · rw[clo x b hx]at eb;cases eb)
   cases b9 with
   |next=>exact⟨aP,_,aB,aQ,e',kp,.none,C8⟩
   |brk=>exact C8.elim
   |cont=>exact C8.elim
   |ret r=>exact⟨aP,_,aB,aQ,e',kp,r,C8⟩
theorem FW.of {C:Cx} {k:Nat} {a:Addr} {names:List (Str×NameKind)} {n:Nat} {body:List Stmt} {args:List V} {H:Hp} {Q:V→Hp→Prop} (F:FnAt C a names n body) (hl:args.length=n)
 (h:XW C k names (args.map some++List.replicate (names.length-n) none) H body (fun fl _ H'=>match fl with|.ret v=>Q v H'|.next=>Q .none H'|_=>False)):FW C (k+1) a args H Q:=(FC.of F hl h).fw
def vE (C:Cx) (k:Nat) (names:List (Str×NameKind)) (ρ:List (Option V)) (H:Hp) (pos:Pos) (es:List Expr) (Q:List V→Hp→Prop):Prop:=G C k names ρ H (fun env=>spliced (backTo pos (starEach es env))) dS Q
section
variable {C:Cx} {k:Nat} {names:List (Str×NameKind)} {ρ:List (Option V)} {H:Hp}
theorem vE.nil {pos:Pos} {Q:List V→Hp→Prop} (h:Q [] H):vE C k names ρ H pos [] Q:=⟨fun A s ι env hr B L=>spliced_nil (cM B .nil h)⟩
theorem vE.cons {pos:Pos} {e:Expr} {es:List Expr} {Q:List V→Hp→Prop} (h:EW C k names ρ H e (fun v H₁=>vE C k names ρ H₁ pos es (fun vs aB=>Q (v::vs) aB)))
 (he:∀env,starEach (e::es) env=(false,eval e env)::starEach es env):vE C k names ρ H pos (e::es) Q:=by
 refine⟨fun A s ι env hr B L=>?_⟩;show wpAny _ _ (spliced (backTo pos (starEach (e::es) env))) _ _ _;rw[he];refine spliced_cons (G.run h hr B L fun a s₁ aj v H₁ av aK aC k₁ aN aA=>aH (G.run aA hr av aK fun b bH aP y aB aQ bh aZ k₂ b9 bp=>?_));obtain⟨ε,lJ,_⟩:=id aZ;exact⟨aP,v::y,aB,aQ,ee av aC k₁ aZ,kk aC k₁ k₂,.cons (aN.mono lJ) b9,bp⟩
theorem EW.Hf (j:Nat) {x:Str} {np pos:Pos} {es:List Expr} {Q:V→Hp→Prop} (a:Addr) (en:names[j]? =some (x,.globalImplicit)) (hg:C.mg x=some (.ref a)) (hf:∃o fd,C.aA.get? a=some o∧o.data=.func fd)
 (h:vE C k names ρ H pos es (fun vs H₁=>FW C k a vs H₁ Q)) (hne:es≠[]) (hs:∀env,∃t ts,backTo pos (starEach es env)=(false,t)::ts)
 (hd:(x==("__debug__":Str))=false):EW C k names ρ H (.Call (.Name x np) es [] pos) Q:=by
 refine⟨fun A s ι env hr B L=>?_⟩;obtain⟨o,fd,ho,hdt⟩:=hf;refine wpAny_Call_ofName ?_;refine Name_function_global L.hk (L.kind en) (loadGlobal_global (by rw[L.hg];exact B.ok.g.keeps B.keep) hg ?_) hd;refine callWith_function (o:=o) (fd:=fd) ?_;obtain⟨t,ts,hts⟩:=hs env;have:wpAny (model C.prog C.w) A (spliced (backTo pos (starEach es env))) (fun vs s₁=>(s₁.heap.get? a=some o∧o.data=.func fd)∧wpAny (model C.prog C.w) A (call (.ref a) vs) (bC C ι s.heap VR Q) fM s₁) fM s:=by
  refine G.run h hr B L fun vs s₁ aj v H₁ av aK aC k₁ aN aA=>⟨⟨av.keep _ _ ho,hdt⟩,?_⟩;exact up av aC k₁ (aA.out A s₁ aj vs hr av aN)
 rw[hts]at this⊢;exact evalArgs_plain this
end
structure cz (C:Cx) (k:Nat) (H:Hp) (x y:V) (Q:V→Hp→Prop):Prop where
 out:∀A s ι a b,dM k A→Bs C ι H s→VR ι x a→VR ι y b→∃T id,s.TypeIs a T∧typeLookup (.type T) "__getitem__"=pure (some (.builtin id))∧wpAny (model C.prog C.w) A (getItem a b) (bC C ι s.heap VR Q) fM s
def UR (_:Io) (_:Unit) (_:Unit):Prop:=True
structure iV (C:Cx) (k:Nat) (H:Hp) (x y z:V) (Q:Hp→Prop):Prop where
 out:∀A s ι a b c,dM k A→Bs C ι H s→VR ι x a→VR ι y b→VR ι z c→wpAny (model C.prog C.w) A (setItem a b c) (bC C ι s.heap UR (fun _=>Q)) fM s
theorem qp {prog:Program} {w:World} {A:Around} {E:Value→Shared→Prop} {s:Shared} {l:Addr} {items:Array Value} {k:Int} {t:Tok} {v:Value} {Q:Unit→Shared→Prop} (hl:s.heap.PlainList l items)
 (h0:0≤k) (hfit:k<2^63) (hn:k<items.size)
 (hQ:∀h',h'.PlainList l (items.setIfInBounds k.toNat v)→Heap.SameBut l s.heap h'→Q () {s with heap:=h'}):
 wpAny (model prog w) A (setItem (.ref l) (.int k t) v) Q E s:=by
 injection prog w A E s l items k t v Q with hl h0 hfit hn hQ
 obtain(⟨ne,ho⟩):=hl;have hl:s.heap.IsList l items:=⟨_,ho,rfl,_,rfl⟩;unfold setItem
 try with_reducible refine wpAny_holding ?_
 first|refine wpAny_bind (wpAny_pure ?_)|skip
 refine wpAny_bind (wpAny_sequenceKey hl.typeIs nofun ?_);refine wpAny_bind (wpAny_callSpecial?_slot (name:=Str.ofString "__setitem__") hl.typeIs slot_list_setitem
  (wpAny_call_entry slot_list_setitem hl.typeIs entry_list_setitem ?_ (args_list_setitem _ _ _)))
 show wpAny _ _ (Builtin.List.listSubscript? (.int k t)>>=_) _ _ s;refine wpAny_bind (wpAny_listSubscript_int (fitsIndex_of h0 hfit) ?_);clear hfit;obtain(⟨j,rfl⟩):=z15 h0;have hj:j<items.size:=⋯
 have EO:items[j]? =some items[j]:=Array.getElem?_eq_getElem hj;show wpAny _ _ ((seqItemAt l j>>=fun r=>pure (r.map (j, ·)))>>=_) _ _ s;refine wpAny_bind (wpAny_bind (wpAny_seqItemAt ho rfl (wpAny_pure ?_)));rw[EO];show wpAny _ _ (setSeqItemAt l j v>>=_) _ _ s;have hfin:(s.heap.update l (Obj.mapSeq (·.setIfInBounds j v))).PlainList l (items.setIfInBounds j v):=
  ⟨_,(Heap.get?_update_self _ ho (by rfl)).trans rfl⟩
 refine wpAny_bind (wpAny_setSeqItemAt ho rfl ?_)
 first
  |exact wpAny_bind (wpAny_pure (wpAny_pure ⟨.none,rfl,wpAny_pure (hQ _ hfin (Heap.SameBut.update ..))⟩))
  |exact wpAny_pure ⟨.none,rfl,wpAny_pure (hQ _ hfin (Heap.SameBut.update ..))⟩
section
variable {C:Cx} {k:Nat} {names:List (Str×NameKind)} {ρ:List (Option V)} {H:Hp} {Q:V→Hp→Prop}
theorem isTup {h:Heap} {a:Addr} {vs:Array Value} {ep:Nat} (e:h.get? a=some ⟨.type "tuple",none,.seq vs ep,#[]⟩):IsTup h a vs:=⟨_,e,rfl,_,rfl⟩
theorem cz.list {n:Nat} {xs:List V} {i:Int} {y:V} (ho:H[n]? =some (.L xs)) (h0:0≤i) (hb:i<1000000) (hy:xs[i.toNat]? =some y) (h:Q y H):cz C k H (.ref n) (.I i) Q:=by
 refine⟨fun A s ι a b hr B ra rb=>?_⟩;obtain⟨p,rfl,hp,O⟩:=bj B ra ho;obtain⟨t,rfl⟩:=ax rb;obtain⟨vs,hL,v,hv,rv⟩:=uQ O hy;exact⟨_,_,hL.typeIs,slot_list_getitem.lookup,wpAny_getItem_list hL h0 ⋯ hv (cM B rv h)⟩
theorem cz.tup {n:Nat} {xs:List V} {i:Int} {y:V} (ho:H[n]? =some (.tup xs)) (h0:0≤i) (hb:i<1000000) (hy:xs[i.toNat]? =some y) (h:Q y H):cz C k H (.ref n) (.I i) Q:=by
 refine⟨fun A s ι a b hr B ra rb=>?_⟩;obtain⟨p,rfl,hp,O⟩:=bj B ra ho;obtain⟨t,rfl⟩:=ax rb;obtain⟨vs,ep,hg,hvs⟩:=O;obtain⟨v,e,r⟩:=hvs.get hy;have hT:=isTup hg;have hi:i<vs.size:=by have:=(z06.mp e).1;simp at this;omega
 exact⟨_,_,hT.typeIs,slot_tuple_getitem.lookup,PyProof.Rows.getItem_tuple hT ⋯ ⋯ (seqIndex_of h0 hi) (by simpa using e) (cM B r h)⟩
theorem EW.sub {value slice:Expr} {pos:Pos} (h:EW C k names ρ H value (fun x H₁=>EW C k names ρ H₁ slice (fun y aB=>cz C k aB x y Q)))
 (hs:∀o i,subscripted slice false o i=operate [o,i] (getItem o i)):EW C k names ρ H (.Subscript value slice pos) Q:=by
 refine⟨fun A s ι env hr B L=>?_⟩;refine Subscript_ (G.run h hr B L fun a s₁ aj x H₁ av aK aC k₁ aN aA=>aH (G.run aA hr av aK fun b bH aP y aB aQ bh aZ k₂ b9 bp=>?_));obtain⟨ε,lJ,_⟩:=id aZ;obtain⟨T,id,hT,hl,hg⟩:=bp.out A bH aP a b hr aQ (aN.mono lJ) b9;exact tail_any hT hl (up aQ (ee av aC k₁ aZ) (kk aC k₁ k₂) hg) (hs _ _)
theorem iV.list {n:Nat} {xs:List V} {i:Int} {v:V} {Q:Hp→Prop} (hn:C.T≤n) (ho:H[n]? =some (.L xs)) (h0:0≤i) (hi:i<xs.length) (hb:i<1000000) (h:Q (H.set n (.L (xs.set i.toNat v)))):iV C k H (.ref n) (.I i) v Q:=by
 refine⟨fun A s ι a b c hr B ra rb rc=>?_⟩;obtain⟨p,rfl,hp,vs,hL,hvs⟩:=bj B ra ho;obtain⟨t,rfl⟩:=ax rb;have hlen:=hvs.length;refine qp hL h0 ⋯ (by simp at hlen;omega) fun h' Kl hs=>?_;have kp:∀a u,s.heap.get? a=some u→a≠p.1→a≠p.2→h'.get? a=some u:=fun a u e n1 _=>(hs.2 a n1).trans e;have ex:=B.sim.ex p (z08 hp);obtain⟨n',BO⟩:=Kl;have G9:(h'.get? p.1).isSome=true∧(h'.get? p.2).isSome=true:=by
  refine⟨by rw[BO];rfl,?_⟩
  by_cases e:p.2=p.1
  · rw[e,BO];rfl
  · rw[hs.2 _ e];exact ex.2
 have B':=B.upd hn hp kp (o:=.L (xs.set i.toNat v)) ⟨_,⟨n',BO⟩,by rw[Array.toList_setIfInBounds];exact hvs.set rc _⟩ G9 s.toks;have ft:=mX B hn hp;exact⟨ι,(),_,B',Ext.rfl _ _,fun a u e nf=>kp a u e (fun q=>nf (q▸ft.1)) (fun q=>nf (q▸ft.2)),trivial,h⟩
theorem EW.glob (j:Nat) {x:Str} {np:Pos} {v:V} (en:names[j]? =some (x,.globalImplicit)) (hg:∃v',C.mg x=some v'∧VR C.jd v v') (h:Q v H)
 (hd:(x==("__debug__":Str))=false):EW C k names ρ H (.Name x np) Q:=by
 refine⟨fun A s ι env hr B L=>?_⟩;obtain⟨v',hm,r⟩:=hg;obtain⟨δ,e⟩:=B.sim.jd;exact Name_function_global L.hk (L.kind en) (loadGlobal_global (by rw[L.hg];exact B.ok.g.keeps B.keep) hm (cM B (r.mono e) h)) hd
theorem kj {h₀:Heap} {ι aj:Io} {s₁:Shared} {H₁:Hp} (B:Bs C aj H₁ s₁) (x:Ext h₀ ι aj) (kp:Keeps C ι h₀ s₁.heap) (ob:Obj) (o:O) (hf:ob.isFreed=false) (ho:∀h',h'.get? s₁.heap.objs.size=some ob→OR (aj++[(s₁.heap.objs.size,s₁.heap.objs.size)]) h' (s₁.heap.objs.size,s₁.heap.objs.size) o)
 (h:Q (.ref H₁.length) (H₁++[o])):bC C ι h₀ VR Q (.ref s₁.heap.objs.size) {s₁ with heap:=s₁.heap.push ob}:=by
 have h0:s₁.heap.get? s₁.heap.objs.size=none:=z18 (z21 _);have hg:(s₁.heap.push ob).get? s₁.heap.objs.size=some ob:=Heap.get?_push_size _ hf;have B':=B.new (s₁.heap.objs.size,s₁.heap.objs.size) o h0 h0 (h':=s₁.heap.push ob) (fun a u e=>z17 _ e) (ho _ hg) ⟨by rw[hg];rfl,by rw[hg];rfl⟩ s₁.toks;refine⟨_,.ref H₁.length,_,B',ee B x kp ⟨[_],rfl,fun p hp=>?_⟩,fun a u e nf=>z17 _ (kp a u e nf),?_,h⟩
 · rw[List.mem_singleton.mp hp];exact⟨h0,h0⟩
 · refine VR.ref (p:=(s₁.heap.objs.size,s₁.heap.objs.size)) ?_;rw[←B.sim.len,z10 (z21 _)];simp
theorem uP {n:Nat} (h:n≤1000):n≤sizeLine:=z20 h nofun
theorem EW.list {es:List Expr} {pos:Pos} (h:vE C k names ρ H pos es (fun vs H₁=>vs.length≤1000∧Q (.ref H₁.length) (H₁++[.L vs]))):EW C k names ρ H (.List es pos) Q:=by
 refine⟨fun A s ι env hr B L=>?_⟩;refine wpAny_List_spliced (G.run h hr B L fun a s₁ aj v H₁ av aK aC k₁ aN aA=>⟨by rw[aN.length];exact uP aA.1,?_⟩);exact kj av aC k₁ _ (.L v) rfl (fun h' hg=>⟨_,⟨_,hg⟩,aN.mono rfl⟩) aA.2
theorem EW.tuple {es:List Expr} {x1:Nat} {pos:Pos} (h:vE C k names ρ H pos es (fun vs H₁=>vs.length≤1000∧Q (.ref H₁.length) (H₁++[.tup vs]))):EW C k names ρ H (.Tuple es x1 pos) Q:=by
 refine⟨fun A s ι env hr B L=>?_⟩;refine wpAny_Tuple_spliced (G.run h hr B L fun a s₁ aj v H₁ av aK aC k₁ aN aA=>⟨by rw[aN.length];exact uP aA.1,?_⟩);exact kj av aC k₁ _ (.tup v) rfl (fun h' hg=>⟨_,_,hg,aN.mono rfl⟩) aA.2
end
section
variable {C:Cx} {k:Nat} {names:List (Str×NameKind)} {ρ:List (Option V)} {H:Hp} {Q:Fl→List (Option V)→Hp→Prop}
theorem XW.cN {o i e:Expr} {p p':Pos} {rest:List Stmt} (h:EW C k names ρ H e (fun v H₁=>EW C k names ρ H₁ o (fun x aB=>EW C k names ρ aB i (fun y bc=>iV C k bc x y v (fun bN=>XW C k names ρ bN rest Q)))))
 (hs:∀env:Env,swapsWith e (some (.Subscript o i p')) p.line env=pure false):XW C k names ρ H (.Assign [.Subscript o i p'] e p::rest) Q:=by
 refine XW.cons ⟨fun A s ι env hr B L=>?_⟩;refine wpAny_Assign_Subscript (G.run h hr B L fun a s₁ aj v H₁ av aK aC k₁ aN aA=>aH (G.run aA hr av aK fun b bH aP x aB aQ bh aZ k₂ b9 bp=>aH (G.run bp hr aQ bh fun c gI eE y bc cU fy dt cW o_ i7=>aH ?_))) (hs env);obtain⟨ε,lJ,_⟩:=id dt;obtain⟨δ,Kd,_⟩:=id aZ;have nE:=ee av aC k₁ aZ;have oy:=kk aC k₁ k₂;have yt:=ee aQ nE oy dt;have yP:=kk nE oy cW;refine wpAny_mono (i7.out A gI eE b c a hr cU (b9.mono lJ) o_ ((aN.mono Kd).mono lJ)) (fun _ iB ⟨cZ,_,bN,fv,fB,f_,_,i8⟩=>?_) fun _ _ x=>x;exact⟨cZ,.next,ρ,bN,fv,fy.keep fB f_,ee cU yt yP fB,(kk yt yP f_).s,.next,i8⟩
theorem XW.cG {o i e:Expr} {op:Operator} {p p':Pos} {rest:List Stmt} (h:EW C k names ρ H o (fun x H₁=>EW C k names ρ H₁ i (fun y aB=>cz C k aB x y (fun old bc=>EW C k names ρ bc e (fun v bN=>IW C k bN op old v (fun r fX=>iV C k fX x y r (fun mj=>XW C k names ρ mj rest Q)))))))
 (hi:∀ov iv new,augStore i ov iv new=(do holding [new,ov,iv] (setItem ov iv new);release [new,ov,iv] [];pure .next)):XW C k names ρ H (.AugAssign (.Subscript o i p') op e p::rest) Q:=by
 injection C k names ρ H Q o i e op p p' rest with h hi
 refine XW.cons ⟨?_⟩;rintro-A s ι env hr B L;refine wpAny_AugAssign_SubscriptAny (G.run h hr B L ?_) hi;rintro-a s₁ aj x H₁ av aK aC k₁ aN aA;refine aH (G.run aA hr av aK ?_);rintro-b bH aP y aB aQ bh aZ k₂ b9 bp;refine aH ?_;obtain(⟨Og,zR,_⟩):=id aZ;have nE:=ee av aC k₁ aZ;have oy:=kk aC k₁ k₂;obtain(⟨_,_,_,_,hg⟩):=bp.out A bH aP a b hr aQ (aN.mono zR) b9;refine wpAny_mono hg (?_) fun _ _ x=>x;rintro-old gI ⟨eE,ov,bc,cU,dt,cW,o_,i7⟩;refine aH ?_;have fy:=bh.keep dt cW;obtain(⟨Oh,zS,_⟩):=id dt;have yt:=ee aQ nE oy dt;have yP:=kk nE oy cW;refine G.run i7 hr cU fy ?_;rintro-c iB cZ v bN fv tN fB f_ w9 i8;refine aH ?_;obtain(⟨Oi,vR,_⟩):=id fB;have xA:=ee cU yt yP fB;have CJ:=kk yt yP f_;refine wpAny_mono (i8.out A iB cZ old c hr fv (o_.mono vR) w9) (?_) fun _ _ x=>x;rintro-nw Dl ⟨vv,nv,fX,vF,rK,wJ,Fw,Ad⟩;refine aH ?_;obtain(⟨Oj,zT,_⟩):=id rK;have Ep:=ee fv xA CJ rK;have HV:=kk xA CJ wJ;refine wpAny_mono (Ad.out A Dl vv a b nw hr vF ((((aN.mono zR).mono zS).mono vR).mono zT) (((b9.mono zS).mono vR).mono zT) Fw) (?_) fun _ _ x=>x;rintro-_ I2 ⟨BI,_,mj,BZ,Cq,CM,_,ER⟩;exact⟨BI,.next,ρ,mj,BZ,(tN.keep rK wJ).keep Cq CM,ee vF Ep HV Cq,(kk Ep HV CM).s,.next,ER⟩
end
structure eM (C:Cx) (k:Nat) (H:Hp) (x:V) (a:Str) (Q:V→Hp→Prop):Prop where
 out:∀A s ι v,dM k A→Bs C ι H s→VR ι x v→wpAny (model C.prog C.w) A (getAttr v a true) (bC C ι s.heap VR Q) fM s
structure pB (C:Cx) (k:Nat) (H:Hp) (x:V) (a:Str) (z:V) (Q:Hp→Prop):Prop where
 out:∀A s ι v c,dM k A→Bs C ι H s→VR ι x v→VR ι z c→wpAny (model C.prog C.w) A (setAttr v a c) (bC C ι s.heap UR (fun _=>Q)) fM s
def mW (K:Frag) (c:Addr) (name:Str):Bool:=plainGet K c name&&hasDictIn K c&&(findIn K (.ref c) name).any (noGet K)
def storeOk (K:Frag) (c:Addr) (name:Str):Bool:=(findIn K (.ref c) "__setattr__"==some (some (.builtin "object.__setattr__")))&&plainOver K c&&(takerIn K c name==some none)&&hasDictIn K c
def jA (name:Str) (x:V):List (Str×V)→List (Str×V)
 |[]=>[(name,x)]
 | (n,y)::r=>if n==name then(n,x)::r else(n,y)::jA name x r
section
variable {C:Cx} {k:Nat} {names:List (Str×NameKind)} {ρ:List (Option V)} {H:Hp} {Q:V→Hp→Prop}
theorem zi {ι:Io} {x:V} {v:Value} (r:VR ι x v):handedIn v=true:=by cases r<;>rfl
theorem pA.getL {ι:Io} {name:Str} {x:V}:∀{fs es},pA ι fs es→fs.lookup name=some x→∃v,getL name es=some (some v)∧VR ι x v
 |_,_,.nil,h=>by simp at h
 |_,_,.cons (n:=n) (x:=y) (v:=v) (t:=t) (hh:=hh) (es:=es) a r,h=>by
  rw[List.lookup_cons]at h;unfold PySem.W.getL;rw[List.find?_cons]
  by_cases e:n=name
  · subst e;simp at h;subst h;have e2:(Value.str n t).isStr n=true:=by show(n==n)=true;simp
    simp only[e2];exact⟨v,rfl,a⟩
  · have e1:(name==n)=false:=by simpa using fun q=>e q.symm
    have e2:(Value.str n t).isStr name=false:=by show(n==name)=false;simpa using e
    rw[e1]at h;simp only[e2];obtain⟨u,hu,ru⟩:=pA.getL r h;refine⟨u,?_,ru⟩;unfold PySem.W.getL at hu
    cases q:es.find? (fun z=>z.key.isStr name)with
    |some z=>rw[q]at hu;simpa using hu
    |none=>rw[q]at hu;simp only at hu;split at hu<;>cases hu
theorem eM.field {n:Nat} {c:Addr} {fs:List (Str×V)} {a:Str} {y:V} (ho:H[n]? =some (.inst c fs)) (hk:mW C.K c a=true) (hf:fs.lookup a=some y) (h:Q y H):eM C k H (.ref n) a Q:=by
 refine⟨fun A s ι v hr B r=>?_⟩;obtain⟨p,rfl,hp,es,nn,hg,hd,hF⟩:=bj B r ho;obtain⟨v,hl,rv⟩:=hF.getL hf;simp only[mW,z01]at hk;obtain⟨⟨h1,h2⟩,h3⟩:=hk;obtain⟨attr,ha,hn⟩:=any_some h3;exact get_value (B.ok.Ih.keeps B.keep) (od:=some (dictOf es nn)) ⟨hg,rfl,rfl,hd⟩ (plainGet_of h1).1 (findObj_own h2 ha hn (by rw[lookIn_dict];exact hl)) (zi rv) (bx B rv h)
theorem EW.attr {value:Expr} {a:Str} {pos:Pos} (h:EW C k names ρ H value (fun x H₁=>eM C k H₁ x a Q))
 (hb:∀env t,attributeBase value a env t=t):EW C k names ρ H (.Attribute value a pos) Q:=by
 refine⟨fun A s ι env hr B L=>?_⟩;rw[arm_eval_Attribute,hb];refine wpAny_bind (G.run h hr B L fun v s₁ aj x H₁ av aK aC k₁ aN aA=>wpAny_bind (wpAny_standAt (wpAny_bind (wpAny_holding ?_))));refine wpAny_mono (aA.out A s₁ aj v hr av aN) (fun r bH p=>?_) fun _ _ x=>x;exact wpAny_bind (wpAny_letTemporaryGo (wpAny_pure (p.up av aC k₁)))
theorem pA.noRef {ι:Io}:∀{fs es},pA ι fs es→es.any (·.refKey)=false
 |_,_,.nil=>rfl
 |_,_,.cons a r=>by rw[List.any_cons,pA.noRef r];rfl
theorem pA.found {ι:Io} {name:Str} {fs es} (h:pA ι fs es):(PySem.W.getL name es).isSome=true:=by
 unfold PySem.W.getL
 cases es.find? (fun z=>z.key.isStr name)with
 |some z=>rfl
 |none=>rw[h.noRef];rfl
theorem pA.put {ι:Io} {name:Str} {x:V} {v:Value} {hsh:Int} {t:Tok} (rx:VR ι x v):∀{fs es},pA ι fs es→pA ι (jA name x fs) (putL name hsh (.str name t) v es)
 |_,_,.nil=>.cons rx .nil
 |_,_,.cons (n:=n) (x:=y) (v:=u) (t:=t') (hh:=hh) (es:=es) a r=>by
  unfold jA PySem.W.putL;have e2:(Value.str n t').isStr name=(n==name):=rfl;simp only[e2]
  cases e:n==name with
  |true=>simp only[if_true];exact .cons rx r
  |false=>simp only[Bool.false_eq_true,if_false];exact .cons a (pA.put rx r)
theorem pA.len {ι:Io}:∀{fs es},pA ι fs es→es.length=fs.length
 |_,_,.nil=>rfl
 |_,_,.cons a r=>by simp[pA.len r]
theorem uk (name:Str) (x:V):∀fs:List (Str×V),(jA name x fs).length≤fs.length+1
 |[]=>by simp[jA]
 | (n,y)::r=>by
  unfold jA
  split
  · simp
  · have:=uk name x r;simp;omega
set_option tactic.hygienic true in
theorem LB {prog:Program} {w:World} {A:Around} {s:Shared} {K:Frag} {c x dx:Addr} {name:Str} {tk:Tok} {v:Value} {es:List DictEntry} {n:Nat} {R:Result→Shared→Prop} (X:K.In s.heap)
 (hx:s.heap.get? x=some (instObj c dx)) (hd:s.heap.get? dx=some (dictOf es n)) (hp:plainOver K c=true) (ht:takerIn K c name=some none) (hh:hasDictIn K c=true)
 (hl:(getL name es).isSome=true) (hz:(putL name (PyData.keyHash w.params name) (.str name s.toks) v es).length≤1000)
 (h:∀h',Heap.SameBut dx s.heap h'→h'.get? dx=some (dictOf (putL name (PyData.keyHash w.params name) (.str name s.toks) v es) (putN name es n))→R (.ok (.ret .none)) {s with heap:=h',toks:=s.toks+1}):
 codeAny (model prog w) A (.call (.builtin "object.__setattr__") ⟨[.ref x,.str name tk,v],[]⟩) R s:=by
 injection prog w A s K c x dx name tk v es n R with X hx hd hp ht hh hl hz h
 have I:InstAt s.heap x (instObj c dx) c (some (dictOf es n)):=⟨hx,rfl,rfl,hd⟩;refine osa_open X I hp ht ?_;rintro-b;obtain(⟨cd,hc,sC⟩):=any_some hh;refine wpAny_bind (wpAny_pure (wpAny_bind (wpAny_bind (wpAny_loadPart hx (wpAny_bind ((looks_clsIn X hc).here ?_))))));rw[sC];refine wpAny_pure (a:=some dx) (wpAny_bind (wpAny_pure (wpAny_bind ?_)));unfold nsSet;refine wpAny_bind (wpAny_bind (wpAny_askSetting (wpAny_pure (wpAny_bind (wpAny_mkText (wpAny_bind (wpAny_loadPart hd ?_)))))));dsimp only;have q:(!es.toArray.any (·.key.isStr name)&&es.toArray.any (·.refKey))=false:=by
  rw[←Array.any_toList,←Array.any_toList];dsimp only;unfold PySem.W.getL at hl
  split at hl
  · rename_i en he
    rw[List.any_eq_true.mpr ⟨en,List.mem_of_find?_eq_some he,List.find?_some he⟩];rfl
  · split at hl
    · cases hl
    · rename_i z;rw[Bool.not_eq_true]at z;rw[z,Bool.and_false]
 rw[aRefKeyMayBeTheName_at,q];refine wpAny_updatePart hd ?_;have D':(s.heap.update dx (Obj.putName name (PyData.keyHash w.params name) (.str name s.toks) v)).get? dx=some (dictOf (putL name (PyData.keyHash w.params name) (.str name s.toks) v es) (putN name es n)):=by
  have:=Heap.get?_update_self (Obj.putName name (PyData.keyHash w.params name) (.str name s.toks) v) hd (by rw[putName_dict];rfl)
  rwa [putName_dict]at this
 refine wpAny_bind (wpAny_lookBehind D' (pastItsLine_dict (by rw[List.size_toArray,sizeLine_eq];omega)) ?_);exact wpAny_pure (h _ (Heap.SameBut.update ..) D')
theorem pB.field {n:Nat} {c:Addr} {fs:List (Str×V)} {a:Str} {z:V} {Q:Hp→Prop} (hn:C.T≤n) (ho:H[n]? =some (.inst c fs)) (hk:storeOk C.K c a=true) (hz:fs.length<1000) (h:Q (H.set n (.inst c (jA a z fs)))):pB C k H (.ref n) a z Q:=by
 injection C k H n c fs a z Q with hn ho hk hz h
 refine⟨?_⟩;rintro-A s ι v cv hr B r rz;obtain(⟨p,rfl,hp,es,nn,hg,hd,hF⟩):=bj B r ho;simp only[storeOk,z01,beq_iff_eq]at hk;obtain⟨⟨⟨h1,h2⟩,h3⟩,h4⟩:=hk;have X:=B.ok.Ih.keeps B.keep;have hne:p.1≠p.2:=fun e=>by rw[e,hd]at hg;cases hg
 refine set_plain (od:=some (dictOf es nn)) X ⟨hg,rfl,rfl,hd⟩ h1 (LB (s:={s with toks:=s.toks+1}) X hg hd h2 h3 h4 hF.found ?_ ?_)
 · rw[(hF.put rz).len];have:=uk a z fs;omega
 rintro-h' hs sC;have kp:∀a u,s.heap.get? a=some u→a≠p.1→a≠p.2→h'.get? a=some u:=fun a u e _ n2=>(hs.2 a n2).trans e;have BO:h'.get? p.1=some (instObj c p.2):=(hs.2 _ hne).trans hg;have B':=B.upd hn hp kp (o:=.inst c (jA a z fs)) ⟨_,_,BO,sC,hF.put rz⟩ ⟨by rw[BO];rfl,by rw[sC];rfl⟩ (s.toks+1+1);have ft:=mX B hn hp;exact⟨ι,(),_,B',Ext.rfl _ _,fun a u e nf=>kp a u e (fun q=>nf (q▸ft.1)) (fun q=>nf (q▸ft.2)),trivial,h⟩
end
section
variable {C:Cx} {k:Nat} {names:List (Str×NameKind)} {ρ:List (Option V)} {H:Hp} {Q:Fl→List (Option V)→Hp→Prop}
theorem XW.setattr {o e:Expr} {a:Str} {p p':Pos} {rest:List Stmt} (h:EW C k names ρ H e (fun v H₁=>EW C k names ρ H₁ o (fun x aB=>pB C k aB x a v (fun bN=>XW C k names ρ bN rest Q))))
 (hs:∀env:Env,swapsWith e (some (.Attribute o a p')) p.line env=pure false):XW C k names ρ H (.Assign [.Attribute o a p'] e p::rest) Q:=by
 refine XW.cons ⟨fun A s ι env hr B L=>?_⟩;refine plainObj_wpAny_Assign_Attribute (G.run h hr B L fun v s₁ aj x H₁ av aK aC k₁ aN aA=>aH (G.run aA hr av aK fun b bH aP y aB aQ bh aZ k₂ b9 bp=>aH ?_)) (hs env);obtain⟨ε,lJ,_⟩:=id aZ;have nE:=ee av aC k₁ aZ;have oy:=kk aC k₁ k₂;refine wpAny_mono (bp.out A bH aP b v hr aQ b9 (aN.mono lJ)) (fun _ iB ⟨cZ,_,bN,fv,fB,f_,_,i8⟩=>?_) fun _ _ x=>x;exact⟨cZ,.next,ρ,bN,fv,bh.keep fB f_,ee aQ nE oy fB,(kk nE oy f_).s,.next,i8⟩
theorem XW.hO {o e:Expr} {a:Str} {op:Operator} {p p':Pos} {rest:List Stmt} (h:EW C k names ρ H o (fun x H₁=>eM C k H₁ x a (fun old aB=>EW C k names ρ aB e (fun v bc=>IW C k bc op old v (fun nw bN=>pB C k bN x a nw (fun fX=>XW C k names ρ fX rest Q)))))):
 XW C k names ρ H (.AugAssign (.Attribute o a p') op e p::rest) Q:=by
 refine XW.cons ⟨fun A s ι env hr B L=>?_⟩;refine wpAny_AugAssign_AttributeAny (G.run h hr B L fun ov s₁ aj x H₁ av aK aC k₁ aN aA=>aH ?_);refine wpAny_mono (aA.out A s₁ aj ov hr av aN) (fun old bH ⟨aP,y,aB,aQ,aZ,k₂,b9,bp⟩=>aH ?_) fun _ _ x=>x;have nE:=ee av aC k₁ aZ;have oy:=kk aC k₁ k₂;refine G.run bp hr aQ (aK.keep aZ k₂) fun v gI eE z bc cU fy dt cW o_ i7=>aH ?_;obtain⟨rj,dC,_⟩:=id aZ;obtain⟨D8,kQ,_⟩:=id dt;have yt:=ee aQ nE oy dt;have yP:=kk nE oy cW;refine wpAny_mono (i7.out A gI eE old v hr cU (b9.mono kQ) o_) (fun nw iB ⟨cZ,u,bN,fv,fB,f_,w9,i8⟩=>aH ?_) fun _ _ x=>x;obtain⟨Ji,vU,_⟩:=id fB;have xA:=ee cU yt yP fB;have CJ:=kk yt yP f_;refine wpAny_mono (i8.out A iB cZ ov nw hr fv (((aN.mono dC).mono kQ).mono vU) w9) (fun _ Dl ⟨vv,_,fX,vF,rK,wJ,_,Ad⟩=>?_) fun _ _ x=>x;exact⟨vv,.next,ρ,fX,vF,(fy.keep fB f_).keep rK wJ,ee fv xA CJ rK,(kk xA CJ wJ).s,.next,Ad⟩
end
section
open PySem.SeqAt
theorem FN {ι:Io} {x:V} {vs:Array Value} (h:dS ι [x] vs.toList):∃v,VR ι x v∧vs=#[v]:=by
 obtain⟨l⟩:=vs
 cases h with
 |cons a r=>cases r;exact⟨_,a,rfl⟩
theorem D4 {ι:Io} {a b:Int} {vs:Array Value} (h:dS ι [.I a,.I b] vs.toList):∃t1 t2,vs=#[.int a t1,.int b t2]:=by
 injection ι a b vs with h
 obtain⟨l⟩:=vs
 cases h with
 |cons x r=>cases r with
  |cons y r=>cases r;obtain(⟨t,rfl⟩):=ax x;obtain(⟨u,rfl⟩):=ax y;exact⟨t,u,rfl⟩
section
variable {C:Cx} {k:Nat} {H:Hp} {Q:V→Hp→Prop}
theorem size_le {xs:List V} {ι:Io} {vs:Array Value} (r:dS ι xs vs.toList):vs.size=xs.length:=by have:=r.length;simpa using this
theorem u3 {ι:Io} {s:Shared} (B:Bs C ι H s) (ob:Obj) (o:O) (hf:ob.isFreed=false) (ho:∀h',h'.get? s.heap.objs.size=some ob→OR (ι++[(s.heap.objs.size,s.heap.objs.size)]) h' (s.heap.objs.size,s.heap.objs.size) o)
 (h:Q (.ref H.length) (H++[o])):bC C ι s.heap VR Q (.ref s.heap.objs.size) {s with heap:=s.heap.push ob}:=
 kj B (Ext.rfl _ _) (Keeps.rfl _ _ _) ob o hf ho h
theorem BW.E9 {n m:Nat} {xs ys:List V} (h1:H[n]? =some (.L xs)) (h2:H[m]? =some (.L ys)) (hz:xs.length+ys.length≤1000) (h:Q (.ref H.length) (H++[.L (xs++ys)])):BW C k H .Add (.ref n) (.ref m) Q:=by
 refine⟨fun A s ι x y hr B hx hy=>?_⟩;obtain⟨p,rfl,hp,vs,⟨ne,hL⟩,hvs⟩:=bj B hx h1;obtain⟨q,rfl,hq,us,⟨me,hM⟩,hus⟩:=bj B hy h2;refine concat_meets ⟨_,hL,rfl⟩ ⟨_,hM,rfl⟩ noFill_list_add seq_list_add PySem.F.slot_list_add PySem.F.entry_list_add (PySem.F.args_list_add_2 _ _) (list_addW p.1 q.1 vs us _ _ _ _ _ _ (by rw[size_le hvs,size_le hus,sizeLine_eq];omega)) ⟨hL,hM,?_⟩;exact u3 B _ (.L (xs++ys)) rfl (fun h' hg=>⟨_,⟨_,hg⟩,by rw[Array.toList_append];exact(hvs.append hus).mono rfl⟩) h
theorem dS.replicate {ι:Io} {x v} (h:VR ι x v):∀n,dS ι (List.replicate n x) (List.replicate n v)
 |0=>.nil
 |n+1=>.cons h (dS.replicate h n)
theorem AJ (z:Int) (hz:z≤1000) (ND:0≤z) (v:Value):¬Builtin.List.listTooLong ((#[v]:Array Value).size*z.toNat)=true:=by
 have e:(#[v]:Array Value).size*z.toNat=z.toNat:=by simp
 rw[e];simp[Builtin.List.listTooLong,sizeLine];omega
theorem BW.mR {n:Nat} {x:V} {z:Int} (h1:H[n]? =some (.L [x])) (hz:z≤1000) (ND:0≤z) (h:Q (.ref H.length) (H++[.L (List.replicate z.toNat x)])):BW C k H .Mult (.ref n) (.I z) Q:=by
 refine⟨fun A s ι a b hr B hx hy=>?_⟩;obtain⟨p,rfl,hp,vs,⟨ne,hL⟩,hvs⟩:=bj B hx h1;obtain⟨u,rfl⟩:=ax hy;obtain⟨v,rv,rfl⟩:=FN hvs;refine wpAny_binaryOp_repeat_ref (T:="list") (U:="int") nofun ⟨_,hL,rfl⟩ (fun s'=>typeIs_int s' z u) noFill_list_mul F.fills_int_mul F.slot_int_rmul repeat_list F.slot_int_index.lookup
  (call_meets F.slot_int_rmul (typeIs_int s z u) F.entry_int_rmul (F.args_int_rmul_2 _ _) (int___rmul___int_list z u p.1 #[v] ne)
   ⟨hL,rfl,⟨_,hL,rfl⟩,call_meets F.slot_list_mul ⟨_,hL,rfl⟩ F.entry_list_mul (F.args_list_mul_2 _ _)
    (AutoListH.list___mul___list_int_3 p.1 #[v] ne z u (by simp[Builtin.List.listFitsIndex];omega) (by simp;omega) (AJ z hz ND v))
    ⟨hL,?_⟩⟩)
 refine u3 B _ (.L (List.replicate z.toNat x)) rfl (fun h' hg=>⟨_,⟨_,hg⟩,?_⟩) h;have:(#[v]:Array Value).isEmpty=false:=rfl;rw[if_neg (by rw[this];decide),PyProof.Rows.listMul_foldl];simp only[List.nil_append];rw[PyProof.Rows.lm_rep_flat_one];exact(dS.replicate rv _).mono rfl
theorem z_:fillsInplaceSlot (.type "list") "add" (Operator.Add==.Add)=pure false:=by
 unfold fillsInplaceSlot;show(typeLookup (.type "list") (dunderI "add")>>=fun fi=>pure (fi.isSome&&!isSeqSlot fi))=pure false;rw[F.slot_list_iadd.lookup];have e:((some (Value.builtin "list.__iadd__")).isSome&&!isSeqSlot (some (.builtin "list.__iadd__")))=false:=by decide+kernel
 exact(congrArg (pure (f:=Sem)) e)
theorem Ab:seqSlot? (.type "list") (dunderI "add")=pure (some (.builtin "list.__iadd__")):=by
 exact PySem.seqSlot_of F.slot_list_iadd.lookup (by decide+kernel)
theorem IW.CP {n m:Nat} {xs ys:List V} (hn:C.T≤n) (h1:H[n]? =some (.L xs)) (h2:H[m]? =some (.L ys)) (hz:xs.length+ys.length≤1000) (h:Q (.ref n) (H.set n (.L (xs++ys)))):IW C k H .Add (.ref n) (.ref m) Q:=by
 injection C k H Q n m xs ys with hn h1 h2 hz h
 refine⟨?_⟩;rintro-A s ι x y hr B hx hy;obtain(⟨p,rfl,hp,vs,⟨ne,hL⟩,hvs⟩):=bj B hx h1;obtain(⟨q,rfl,hq,us,⟨me,hM⟩,hus⟩):=bj B hy h2;have hsz:vs.size+us.size≤1000:=by rw[size_le hvs,size_le hus];exact hz
 unfold inplaceOp;refine wpAny_holding ?_;refine wpAny_bind (wpAny_typeOf (T:="list") ⟨_,hL,rfl⟩ (wpAny_bind (wpAny_of_eq z_ ?_)));rw[if_neg z22];refine wpAny_bind (wpAny_binaryOp1_none (nm:="add") (T:="list") ⟨_,hL,rfl⟩ ⟨_,hM,rfl⟩ noFill_list_add ?_);refine wpAny_bind (wpAny_of_eq Ab ?_);refine wpAny_bind (wpAny_rule ?_);refine call_meets F.slot_list_iadd (T:="list") ⟨_,hL,rfl⟩ F.entry_list_iadd (F.args_list_iadd_2 _ _) (AutoSeq1.list___iadd___list_list_0 p.1 vs ne q.1 us me (extend_door (by rw[sizeLine_eq];omega)) (by rw[sizeLine_eq];omega) (by rw[sizeLine_eq];omega)) ?_;have hg:=Heap.get?_update_self (Obj.mapSeq (fun x=>x++us)) hL rfl;have hs:=Heap.SameBut.update s.heap p.1 (Obj.mapSeq (fun x=>x++us));refine⟨hL,hM,?_⟩;have kp:∀a u,s.heap.get? a=some u→a≠p.1→a≠p.2→(s.heap.update p.1 (Obj.mapSeq (fun x=>x++us))).get? a=some u:=fun a u e n1 _=>(hs.2 a n1).trans e;have ex:=B.sim.ex p (z08 hp);have G9:((s.heap.update p.1 (Obj.mapSeq (fun x=>x++us))).get? p.1).isSome=true∧((s.heap.update p.1 (Obj.mapSeq (fun x=>x++us))).get? p.2).isSome=true:=by
  refine⟨by rw[hg];rfl,?_⟩
  by_cases e:p.2=p.1
  · rw[e,hg];rfl
  · rw[hs.2 _ e];exact ex.2
 have B':=B.upd hn hp kp (o:=.L (xs++ys)) ⟨_,⟨_,hg⟩,by rw[Array.toList_append];exact hvs.append hus⟩ G9 s.toks;have ft:=mX B hn hp;refine⟨ι,.ref n,_,B',Ext.rfl _ _,fun a u e nf=>kp a u e (fun q=>nf (q▸ft.1)) (fun q=>nf (q▸ft.2)),.ref hp,h⟩
theorem bk.list {n:Nat} {xs:List V} {Q:Bool→Hp→Prop} (h1:H[n]? =some (.L xs)) (hz:xs.length≤1000) (h:Q (!xs.isEmpty) H):bk C k H (.ref n) Q:=by
 refine⟨fun A s ι x hr B hx=>?_⟩;obtain⟨p,rfl,hp,vs,hL,hvs⟩:=bj B hx h1;refine wpAny_truthy_list hL.isList (by have:=size_le hvs;omega) (bx B ?_ h);show(!xs.isEmpty)=!vs.isEmpty;have:=size_le hvs
 congr 1
 rw[z07,List.isEmpty_iff,Array.isEmpty_iff_size_eq_zero,this,List.length_eq_zero_iff]
theorem vl {ι:Io}:∀{xs:List Int} {vs:List Value},dS ι (xs.map V.I) vs→∀y∈vs,∃i t,y=.int i t
 |[],_,.nil,y,h=>by cases h
 |x::xs,_,.cons a r,y,h=>by
  rcases List.mem_cons.mp h with rfl|h
  · obtain⟨t,e⟩:=ax a;exact⟨x,t,e⟩
  · exact vl r y h
def Gd (z:Int):Value→Bool|.int i _=>i==z|_=>false
theorem rC {ι:Io} {z:Int}:∀{xs:List Int} {vs:List Value},dS ι (xs.map V.I) vs→vs.any (Gd z)=decide (z∈xs)
 |[],_,.nil=>rfl
 |x::xs,_,.cons a r=>by
  obtain⟨t,rfl⟩:=ax a;rw[List.any_cons,rC r];show(x==z||_)=_
  by_cases e:x=z
  · subst e;simp
  · have e':¬z=x:=fun q=>e q.symm;simp[e,e']
theorem nI {A:Around} {s:Shared} {ι:Io} {z:Int} {t:Tok} {xs:List Int} {vs:List Value} (r:dS ι (xs.map V.I) vs):∀y∈vs,EqAt A s y (.int z t) (Gd z y):=by
 intro y hy;obtain⟨i,u,rfl⟩:=vl r y hy;exact EqAt.int_int i u z t
theorem CW.Lk {n:Nat} {xs:List Int} {z:Int} (h1:H[n]? =some (.L (xs.map V.I))) (h:Q (.bool (decide (z∈xs))) H):CW C k H .In (.I z) (.ref n) Q:=by
 refine⟨fun A s ι x y hr B hx hy=>?_⟩;obtain⟨p,rfl,hp,vs,hL,hvs⟩:=bj B hy h1;obtain⟨t,rfl⟩:=ax hx;refine in_listAt (Gd z) hL.isList (fun y hy=>nI hvs y (by simpa using hy)) ?_;rw[←Array.any_toList,rC hvs];exact cM B (.bool _) h
theorem CW.Ax {n:Nat} {xs:List Int} {z:Int} (h1:H[n]? =some (.L (xs.map V.I))) (h:Q (.bool (decide (z∉xs))) H):CW C k H .NotIn (.I z) (.ref n) Q:=by
 refine⟨fun A s ι x y hr B hx hy=>?_⟩;obtain⟨p,rfl,hp,vs,hL,hvs⟩:=bj B hy h1;obtain⟨t,rfl⟩:=ax hx;refine notIn_listAt (Gd z) hL.isList (fun y hy=>nI hvs y (by simpa using hy)) ?_;rw[←Array.any_toList,rC hvs];refine cM B ?_ h;have:(!decide (z∈xs))=decide (z∉xs):=by simp
 rw[this];exact .bool _
theorem CW.Ql {a b:Bool} (h:Q (.bool (a !=b)) H):CW C k H .NotEq (.bool a) (.bool b) Q:=by
 refine⟨fun A s ι x y hr B hx hy=>?_⟩
 cases hx;cases hy
 exact RcNeAt.bool_bool a b C.prog C.w _ _ (cM B (.bool _) h)
theorem CW.I5 {n m:Nat} {a b c d:Int} (h1:H[n]? =some (.tup [.I a,.I b])) (h2:H[m]? =some (.tup [.I c,.I d])) (h:Q (.bool (!(decide (a=c)&&decide (b=d)))) H):CW C k H .NotEq (.ref n) (.ref m) Q:=by
 refine⟨fun A s ι x y hr B hx hy=>?_⟩;obtain⟨p,rfl,hp,vs,ep,hg,hvs⟩:=bj B hx h1;obtain⟨q,rfl,hq,us,eq,Kp,hus⟩:=bj B hy h2;obtain⟨t1,t2,rfl⟩:=D4 hvs;obtain⟨u1,u2,rfl⟩:=D4 hus;refine RcNeAt.tuples (isTup hg) (isTup Kp) (by have:=hr.units;omega) (e:=fun j=>if j=0 then a==c else b==d) (fun j j1 j2=>?_) C.prog C.w _ _ (cM B ?_ h)
 · match j,j1,j2 with
   |0,_,_=>exact EqAt.int_int a t1 c u1
   |1,_,_=>exact EqAt.int_int b t2 d u2
   |j+2,j1,_=>exact absurd j1 (by simp)
 · have:(!((List.range (min (#[.int a t1,.int b t2]:Array Value).size (#[.int c u1,.int d u2]:Array Value).size)).all (fun j=>if j=0 then a==c else b==d)&&(#[.int a t1,.int b t2]:Array Value).size==(#[.int c u1,.int d u2]:Array Value).size))=!(decide (a=c)&&decide (b=d)):=by
    simp[List.range,List.range.loop]
    rfl
   rw[this];exact .bool _
end
section
variable {C:Cx} {k:Nat} {names:List (Str×NameKind)} {ρ:List (Option V)} {H:Hp}
theorem TW.En {o1 o2:CmpOp} {l e1 e2:Expr} {p:Pos} {Q:Bool→Hp→Prop}
 (h:EW C k names ρ H l (fun x H₁=>EW C k names ρ H₁ e1 (fun y aB=>CW C k aB o1 x y (fun v bc=>bk C k bc v (fun b bN=>(b=true→EW C k names ρ bN e2 (fun z fX=>CW C k fX o2 y z (fun v mj=>bk C k mj v Q)))∧(b=false→Q false bN))))))
 (hm:∀env,markedEach [o1,o2] [e1,e2] (evalEach [e1,e2] env)=[eval e1 env,eval e2 env]):TW C k names ρ H (.Compare l [o1,o2] [e1,e2] p) Q:=by
 injection C k names ρ H o1 o2 l e1 e2 p Q with h hm
 refine⟨?_⟩;rintro-A s ι env hr B L;rw[arm_isTrue_Compare,hm];refine wpAny_bind (G.run h hr B L ?_);rintro-a s₁ aj x H₁ av aK aC k₁ aN aA;refine wpAny_bind (wpAny_holding (aH (G.run aA hr av aK ?_)));rintro-b bH aP y aB aQ bh aZ k₂ b9 bp;obtain(⟨rj,dC,_⟩):=id aZ;have nE:=ee av aC k₁ aZ;have oy:=kk aC k₁ k₂;refine wpAny_bind (wpAny_standAt (wpAny_bind (wpAny_holding (wpAny_mono (bp.out A bH aP a b hr aQ (aN.mono dC) b9) (?_) fun _ _ x=>x))));rintro-c gI ⟨eE,v,bc,cU,dt,cW,o_,i7⟩;have yt:=ee aQ nE oy dt;have yP:=kk nE oy cW;refine wpAny_bind (wpAny_release (wpAny_bind (wpAny_holding (wpAny_mono (i7.out A gI eE c hr cU o_) (?_) fun _ _ x=>x))));rintro-t iB ⟨cZ,t',bN,fv,fB,f_,w9,i8⟩
 cases w9
 have xA:=ee cU yt yP fB;have CJ:=kk yt yP f_;obtain(⟨D8,kQ,_⟩):=id dt;obtain(⟨Ji,vU,_⟩):=id fB
 cases t with
 |false=>simp only[Bool.false_eq_true,if_false];exact wpAny_pure ⟨cZ,false,bN,fv,xA,CJ,rfl,i8.2 rfl⟩
 |true=>
  simp only[if_true];refine wpAny_bind (wpAny_holding (G.run (i8.1 rfl) hr fv ((bh.keep dt cW).keep fB f_) ?_));rintro-d Dl vv z fX vF Ow rK wJ Fw Ad;obtain(⟨Ol,Ex,_⟩):=id rK;have Ep:=ee fv xA CJ rK;have HV:=kk xA CJ wJ;refine wpAny_bind (wpAny_standAt (wpAny_bind (wpAny_operate' (wpAny_mono (Ad.out A Dl vv b d hr vF (((b9.mono kQ).mono vU).mono Ex) Fw) (?_) fun _ _ x=>x))));rintro-c I2 ⟨BI,v,mj,BZ,Cq,CM,L9,ER⟩;have J3:=ee vF Ep HV Cq;have PU:=kk Ep HV CM;exact wpAny_holding (up BZ J3 PU (ER.out A I2 BI c hr BZ L9))
end
end
section
open PySem.SeqAt
structure cR (C:Cx) (k:Nat) (f:Value) (args:List V) (H:Hp) (Q:V→Hp→Prop):Prop where
 out:∀A s ι vs,dM k A→Bs C ι H s→dS ι args vs→wpAny (model C.prog C.w) A (call f vs) (bC C ι s.heap VR Q) fM s
theorem lz {C:Cx} {ι:Io} {H:Hp} {s:Shared} {Q:V→Hp→Prop} {h':Heap} {tk:Nat} {v:V} {v':Value} (B:Bs C ι H s) (k:∀b o,s.heap.get? b=some o→h'.get? b=some o) (r:VR ι v v') (h:Q v H):bC C ι s.heap VR Q v' {s with heap:=h',toks:=tk}:=
 ⟨ι,v,H,B.turn (fun _=>False) (fun _ x=>x.elim) (fun a u e _=>k a u e) tk,Ext.rfl _ _,fun a o e _=>k a o e,r,h⟩
theorem ig {C:Cx} {ι:Io} {H:Hp} {s:Shared} {Q:V→Hp→Prop} (B:Bs C ι H s) {h':Heap} {tk:Nat} (ob:Obj) (o:O) (kp:∀b o,s.heap.get? b=some o→h'.get? b=some o) (hg:h'.get? s.heap.objs.size=some ob) (ho:OR (ι++[(s.heap.objs.size,s.heap.objs.size)]) h' (s.heap.objs.size,s.heap.objs.size) o)
 (h:Q (.ref H.length) (H++[o])):bC C ι s.heap VR Q (.ref s.heap.objs.size) {s with heap:=h',toks:=tk}:=by
 have h0:s.heap.get? s.heap.objs.size=none:=z18 (z21 _);have B':=B.new (s.heap.objs.size,s.heap.objs.size) o h0 h0 (h':=h') kp ho ⟨by rw[hg];rfl,by rw[hg];rfl⟩ tk;refine⟨_,.ref H.length,_,B',⟨[_],rfl,fun p hp=>?_⟩,fun a u e nf=>kp a u e,?_,h⟩
 · rw[List.mem_singleton.mp hp];exact⟨h0,h0⟩
 · refine VR.ref (p:=(s.heap.objs.size,s.heap.objs.size)) ?_;rw[←B.sim.len,z10 (z21 _)];simp
theorem Bu {C:Cx} {ι:Io} {H:Hp} {s:Shared} {Q:V→Hp→Prop} {h':Heap} {n:Nat} {p:Addr×Addr} {xs:List V} {items:Array Value} {v:V} {v':Value} (B:Bs C ι H s) (hn:C.T≤n) (hp:ι[n]? =some p) (hL:h'.PlainList p.1 items) (hs:Heap.SameBut p.1 s.heap h') (hvs:dS ι xs items.toList) (tk:Nat) (r:VR ι v v') (h:Q v (H.set n (.L xs))):
 bC C ι s.heap VR Q v' {s with heap:=h',toks:=tk}:=by
 have kp:∀a u,s.heap.get? a=some u→a≠p.1→a≠p.2→h'.get? a=some u:=fun a u e n1 _=>(hs.2 a n1).trans e;have ex:=B.sim.ex p (z08 hp);obtain⟨n',BO⟩:=id hL;have G9:(h'.get? p.1).isSome=true∧(h'.get? p.2).isSome=true:=by
  refine⟨by rw[BO];rfl,?_⟩
  by_cases e:p.2=p.1
  · rw[e,BO];rfl
  · rw[hs.2 _ e];exact ex.2
 have B':=B.upd hn hp kp (o:=.L xs) ⟨_,hL,hvs⟩ G9 tk;have ft:=mX B hn hp;exact⟨ι,v,_,B',Ext.rfl _ _,fun a u e nf=>kp a u e (fun q=>nf (q▸ft.1)) (fun q=>nf (q▸ft.2)),r,h⟩
section
variable {C:Cx} {k:Nat} {H:Hp} {Q:V→Hp→Prop}
theorem zj {ι:Io} {x:V} {vs:List Value} (r:dS ι [x] vs):∃a,vs=[a]∧VR ι x a:=by
 cases r with|cons a r=>cases r;exact⟨_,rfl,a⟩
inductive V2 (ι:Io) (x y:V) (vs:List Value):Prop|mk (a b:Value) (e:vs=[a,b]) (r:VR ι x a) (q:VR ι y b):V2 ι x y vs
inductive V3 (ι:Io) (x y z:V) (vs:List Value):Prop|mk (a b c:Value) (e:vs=[a,b,c]) (r:VR ι x a) (q:VR ι y b) (o:VR ι z c):V3 ι x y z vs
theorem xo {ι:Io} {x y:V} {vs:List Value} (r:dS ι [x,y] vs):V2 ι x y vs:=by
 cases r with|cons a r=>obtain⟨b,rfl,h⟩:=zj r;exact⟨_,b,rfl,a,h⟩
theorem Ml {ι:Io} {x y z:V} {vs:List Value} (r:dS ι [x,y,z] vs):V3 ι x y z vs:=by
 cases r with|cons a r=>obtain⟨b,c,rfl,h,g⟩:=xo r;exact⟨_,b,c,rfl,a,h,g⟩
theorem cR.append {n:Nat} {xs:List V} {v:V} (hn:C.T≤n) (h1:H[n]? =some (.L xs)) (hz:xs.length≤1000) (h:Q .none (H.set n (.L (xs++[v])))):cR C k (.builtin "list.append") [.ref n,v] H Q:=by
 refine⟨fun A s ι vs hr B r=>?_⟩;obtain⟨a,b,rfl,ra,rb⟩:=xo r;obtain⟨p,rfl,hp,us,hL,hus⟩:=bj B ra h1;refine wpAny_list_append_plain hL (fun h' Kl hs=>?_) (by rw[size_le hus,sizeLine_eq];omega);exact Bu (tk:=s.toks) B hn hp Kl hs (by rw[Array.toList_push];exact hus.append (.cons rb .nil)) .none h
theorem uL {ι:Io}:∀{xs:List Int} {vs:List Value},dS ι (xs.map V.I) vs→IntsAre vs xs
 |[],_,.nil=>.nil
 |x::xs,_,.cons a r=>by obtain⟨t,rfl⟩:=ax a;exact .cons _ _ (uL r)
theorem cR.index {n:Nat} {xs:List Int} {z:Int} (h1:H[n]? =some (.L (xs.map V.I))) (hm:z∈xs) (hz:xs.length≤1000) (h:Q (.I (xs.idxOf z:Nat)) H):cR C k (.builtin "list.index") [.ref n,.I z] H Q:=by
 refine⟨fun A s ι vs hr B r=>?_⟩;obtain⟨a,b,rfl,ra,rb⟩:=xo r;obtain⟨p,rfl,hp,us,⟨nn,hL⟩,hus⟩:=bj B ra h1;obtain⟨t,rfl⟩:=ax rb;have hsz:=size_le hus;rw[List.length_map]at hsz;have hj:xs.idxOf z<xs.length:=List.idxOf_lt_length_iff.mpr hm;have at_:∀(m:Nat) (hm:m<us.size),Gd z us[m]=(xs[m]'⋯==z):=by
  intro m hmm;obtain⟨v,e,rv⟩:=hus.get (i:=m) (x:=.I (xs[m]'⋯)) (by simp[hsz▸hmm]);obtain⟨u,rfl⟩:=ax rv;have:us[m]=.int (xs[m]'⋯) u:=by
   rw[Array.getElem?_toList,Array.getElem?_eq_getElem hmm]at e;exact Option.some.inj e
  rw[this];rfl
 refine call_meets PySem.F.slot_list_index ⟨_,hL,rfl⟩ PySem.F.entry_list_index (PySem.F.args_list_index_2 _ _)
  (list_indexAt p.1 us nn _ _ (.int z t) (Gd z) (xs.idxOf z) ⋯ ⋯ ?_ ?_) ⟨hL,fun y hy=>nI hus y (by simpa using hy),?_⟩
 · rw[at_];simp
 · intro m hmm hlt;rw[at_];have:=List.not_of_lt_findIdx (p:=(· ==z)) (xs:=xs) (i:=m) hlt
   simpa using this
 · exact bx B (.I _ _) h
theorem cR.count {n:Nat} {xs:List Int} {z:Int} (h1:H[n]? =some (.L (xs.map V.I))) (h:Q (.I (xs.count z:Nat)) H):cR C k (.builtin "list.count") [.ref n,.I z] H Q:=by
 refine⟨fun A s ι vs hr B r=>?_⟩;obtain⟨a,b,rfl,ra,rb⟩:=xo r;obtain⟨p,rfl,hp,us,hL,hus⟩:=bj B ra h1;obtain⟨t,rfl⟩:=ax rb;exact count_list_ints (vs:=us.toList) (by simpa using hL.isList) (uL hus) (bx B (.I _ _) h)
theorem cR.len {n:Nat} {xs:List V} (h1:H[n]? =some (.L xs)) (hz:xs.length≤1000) (h:Q (.I xs.length) H):cR C k (.builtin "len") [.ref n] H Q:=by
 refine⟨fun A s ι vs hr B r=>?_⟩;obtain⟨a,rfl,ra⟩:=zj r;obtain⟨p,rfl,hp,us,hL,hus⟩:=bj B ra h1;have:=size_le hus;refine call_len_list hL.isList ⋯ (bx B ?_ h);rw[this];exact .I _ _
theorem cR.abs {a:Int} (h:Q (.I (if a<0 then-a else a)) H):cR C k (.builtin "abs") [.I a] H Q:=by
 refine⟨fun A s ι vs hr B r=>?_⟩;obtain⟨x,rfl,ra⟩:=zj r;obtain⟨t,rfl⟩:=ax ra;exact call_abs_int fun u tk=>bx B (.I _ _) h
theorem cR.min2 {a b:Int} (h:Q (.I (min a b)) H):cR C k (.builtin "min") [.I a,.I b] H Q:=by
 refine⟨fun A s ι vs hr B r=>?_⟩;obtain⟨x,y,rfl,ra,rb⟩:=xo r;obtain⟨t,rfl⟩:=ax ra;obtain⟨u,rfl⟩:=ax rb;refine min_two_ints hr.handled fun h' tk kp=>lz B kp ?_ h
 split
 · rename_i c;rw[Int.min_eq_right ⋯];exact .I _ _
 · rename_i c;rw[Int.min_eq_left ⋯];exact .I _ _
theorem cR.max2 {a b:Int} (h:Q (.I (max a b)) H):cR C k (.builtin "max") [.I a,.I b] H Q:=by
 refine⟨fun A s ι vs hr B r=>?_⟩;obtain⟨x,y,rfl,ra,rb⟩:=xo r;obtain⟨t,rfl⟩:=ax ra;obtain⟨u,rfl⟩:=ax rb;refine max_two_ints hr.handled fun h' tk kp=>lz B kp ?_ h
 split
 · rename_i c;rw[Int.max_eq_right ⋯];exact .I _ _
 · rename_i c;rw[Int.max_eq_left ⋯];exact .I _ _
theorem xH {ι:Io}:∀{xs:List Int} {vs:List Value},dS ι (xs.map V.I) vs→∃ps:List (Int×Tok),vs=ps.map (fun p=>.int p.1 p.2)∧ps.map (·.1)=xs
 |[],_,.nil=>⟨[],rfl,rfl⟩
 |x::xs,_,.cons a r=>by
  obtain⟨t,rfl⟩:=ax a;obtain⟨ps,rfl,rfl⟩:=xH r;exact⟨(x,t)::ps,rfl,rfl⟩
theorem cR.Fh {n:Nat} {xs:List Int} {m:Int} (h1:H[n]? =some (.L (xs.map V.I))) (hm:m∈xs) (hl:∀x∈xs,m≤x) (h:Q (.I m) H):cR C k (.builtin "min") [.ref n] H Q:=by
 injection C k H Q n xs m with h1 hm hl h
 refine⟨?_⟩;rintro-A s ι vs hr B r;obtain(⟨a,rfl,ra⟩):=zj r;obtain(⟨p,rfl,hp,us,hL,hus⟩):=bj B ra h1;obtain(⟨ps,e,rfl⟩):=xH hus;have eu:us=intItems ps.toArray:=by
  apply Array.toList_inj.mp;rw[e];simp[intItems]
 subst eu;have hne:0<ps.length:=by
  cases ps with
  |nil=>simp at hm
  |cons _ _=>simp
 refine min_intList hr.handled hL.isList (by simpa using hne) ?_;rintro-v h' tk hv kp;refine lz B kp ?_ h;have am:=argBest_lt (numAt ps.toArray) (ps.toArray.size-1);obtain(⟨t,rfl⟩):=intItems_at hv;have num:∀j (hj:j<ps.length),numAt ps.toArray j=ps[j].1:=fun j hj=>by simp[numAt,hj]
 obtain(⟨i,hi,ei⟩):=z27 hm;rw[List.length_map]at hi;rw[List.getElem_map]at ei;have hsz:ps.toArray.size=ps.length:=by simp
 have a1:=am.2 i ⋯;rw[num i hi,ei]at a1;have hb:argBest (fun i j=>decide (numAt ps.toArray i<numAt ps.toArray j)) (ps.toArray.size-1)<ps.length:=by have:=am.1;omega
 have a2:m≤numAt ps.toArray (argBest (fun i j=>decide (numAt ps.toArray i<numAt ps.toArray j)) (ps.toArray.size-1)):=by
  rw[num _ hb];exact hl _ (List.mem_map.mpr ⟨_,List.getElem_mem hb,rfl⟩)
 have:numAt ps.toArray (argBest (fun i j=>decide (numAt ps.toArray i<numAt ps.toArray j)) (ps.toArray.size-1))=m:=⋯
 rw[this];exact .I _ _
theorem cR.gd {n:Int} (h:Q (.ref H.length) (H++[.range 0 n 1])):cR C k (.type "range") [.I n] H Q:=by
 refine⟨fun A s ι vs hr B r=>?_⟩;obtain⟨a,rfl,ra⟩:=zj r;obtain⟨t,rfl⟩:=ax ra;exact call_range_1 (ig B _ (.range 0 n 1) (fun b o e=>z17 _ e) (Heap.get?_push_size _ rfl) ⟨_,_,_,IsRange.new ..⟩ h)
theorem cR.wZ {a b:Int} (h:Q (.ref H.length) (H++[.range a b 1])):cR C k (.type "range") [.I a,.I b] H Q:=by
 refine⟨fun A s ι vs hr B r=>?_⟩;obtain⟨x,y,rfl,ra,rb⟩:=xo r;obtain⟨t,rfl⟩:=ax ra;obtain⟨u,rfl⟩:=ax rb;exact call_range_2 (ig B _ (.range a b 1) (fun b o e=>z17 _ e) (Heap.get?_push_size _ rfl) ⟨_,_,_,IsRange.new ..⟩ h)
theorem cR.tv {a b c:Int} (hc:c≠0) (hs:c.natAbs<1073741824) (h:Q (.ref H.length) (H++[.range a b c])):cR C k (.type "range") [.I a,.I b,.I c] H Q:=by
 refine⟨fun A s ι vs hr B r=>?_⟩;obtain⟨x,y,z,rfl,ra,rb,rc⟩:=Ml r;obtain⟨t,rfl⟩:=ax ra;obtain⟨u,rfl⟩:=ax rb;obtain⟨v,rfl⟩:=ax rc;exact call_range_3 hc (ig B _ (.range a b c) (fun b o e=>z17 _ e) (Heap.get?_push_size _ rfl) ⟨_,_,_,IsRange.new ..⟩ h) (.inl (PyProof.noPylong_small hs))
theorem tI {ι:Io} {a c:Int} {acc:Array Value}:∀{n:Nat},ItemsOf (fun i v=>∃t,v=.int (a+i*c) t) acc n→dS ι ((List.range n).map fun(i:Nat)=>V.I (a+c*i)) acc.toList:=by
 injection ι a c acc;rintro-n h;obtain(⟨hs,hi⟩):=h;have key:∀m,m≤n→dS ι ((List.range m).map fun(i:Nat)=>V.I (a+c*i)) (acc.toList.take m):=by
  rintro-m
  induction m with
  |zero=>intro _;simpa using dS.nil
  |succ m ih=>
   rintro-hm;have hlt:m<acc.toList.length:=by simp;omega
   rw[List.range_succ,List.map_append,List.take_succ_eq_append_getElem hlt];obtain(⟨t,e⟩):=hi m acc[m] (by rw[Array.getElem?_eq_getElem]);refine(ih ⋯).append (.cons ?_ .nil);rw[Array.getElem_toList,e,Int.mul_comm];exact .I _ _
 have:=key n (z21 _)
 rwa [List.take_of_length_le (by simp[hs])]at this
theorem cR.lq {n:Nat} {a b c:Int} (h1:H[n]? =some (.range a b c)) (hs:Builtin.Range.small a b c=true) (hz:0≤Builtin.Range.rangeSize a b c∧Builtin.Range.rangeSize a b c≤1000) (h:Q (.ref H.length) (H++[.L (c8 a b c)])):cR C k (.type "list") [.ref n] H Q:=by
 refine⟨fun A s ι vs hr B r=>?_⟩;obtain⟨x,rfl,ra⟩:=zj r;obtain⟨p,rfl,hp,t,u,v,hR⟩:=bj B ra h1;refine call_list_range (n:=(Builtin.Range.rangeSize a b c).toNat) hr.handled hR hs ⋯ ⋯ fun h' tk acc cc kp hg hI=>?_;exact ig B _ (.L (c8 a b c)) kp hg ⟨acc,⟨_,hg⟩,(tI hI)⟩ h
end
section
variable {C:Cx} {k:Nat} {names:List (Str×NameKind)} {ρ:List (Option V)} {H:Hp} {Q:V→Hp→Prop}
theorem EW.GN (j:Nat) {x:Str} {np pos:Pos} {e:Expr} {es:List Expr} (id:String) (en:names[j]? =some (x,.globalImplicit)) (hg:C.mg x=Option.none) (hb:bootBuiltins x=some (.builtin id)) (hn:x≠"__name__")
 (h:vE C k names ρ H pos (e::es) (fun vs H₁=>cR C k (.builtin id) vs H₁ Q))
 (he:∀env,starEach (e::es) env=(false,eval e env)::starEach es env) (hplain:∀env,(backTo pos (starEach es env)).any (·.1)=false)
 (hd:(x==("__debug__":Str))=false):EW C k names ρ H (.Call (.Name x np) (e::es) [] pos) Q:=by
 refine⟨fun A s ι env hr B L=>?_⟩;refine wpAny_Call_ofName ?_;refine Name_function_global L.hk (L.kind en) (loadGlobal_builtin (by rw[L.hg];exact B.ok.g.keeps B.keep) hg (by rw[L.hb];exact B.ok.b.keeps B.keep) ((B.ok.blt x hn).trans hb) ?_) hd;refine PyProof.Rows.callWith_builtin1 (G.run h hr B L fun vs s₁ aj v H₁ av aK aC k₁ aN aA=>?_) (he env) (hplain env);exact up av aC k₁ (aA.out A s₁ aj vs hr av aN)
theorem EW.I3 (j:Nat) {x:Str} {np pos:Pos} {e:Expr} {es:List Expr} (T:String) (en:names[j]? =some (x,.globalImplicit)) (hg:C.mg x=Option.none) (hb:bootBuiltins x=some (.type T)) (hn:x≠"__name__")
 (h:vE C k names ρ H pos (e::es) (fun vs H₁=>cR C k (.type T) vs H₁ Q))
 (he:∀env,starEach (e::es) env=(false,eval e env)::starEach es env) (hplain:∀env,(backTo pos (starEach es env)).any (·.1)=false)
 (hd:(x==("__debug__":Str))=false):EW C k names ρ H (.Call (.Name x np) (e::es) [] pos) Q:=by
 refine⟨fun A s ι env hr B L=>?_⟩;refine wpAny_Call_ofName ?_;refine Name_function_global L.hk (L.kind en) (loadGlobal_builtin (by rw[L.hg];exact B.ok.g.keeps B.keep) hg (by rw[L.hb];exact B.ok.b.keeps B.keep) ((B.ok.blt x hn).trans hb) ?_) hd;refine Pv.callWith_type1 (G.run h hr B L fun vs s₁ aj v H₁ av aK aC k₁ aN aA=>?_) (he env) (hplain env);exact up av aC k₁ (aA.out A s₁ aj vs hr av aN)
theorem EW.append {o elt:Expr} {apos pos:Pos} (h:EW C k names ρ H o (fun x H₁=>∃n xs,x=.ref n∧H₁[n]? =some (.L xs)∧EW C k names ρ H₁ elt (fun v aB=>cR C k (.builtin "list.append") [x,v] aB Q)))
 (hbase:∀env,attributeBase o "append" env (eval o env)=eval o env)
 (hfew:∀env,((backTo pos (starEach [elt] env)).all (fun x=>!x.1)&&(backToKw pos (keywordEach [] env)).all (fun x=>x.1.isSome)
  &&decide (([elt]:List Expr).length+([]:List Keyword).length+(if([]:List Keyword).isEmpty then 0 else 1)<30))=true)
 (hline:(apos.endLine==pos.line)=true) (htrees:∀env,backTo pos (starEach [elt] env)=[(false,eval elt env)]):
 EW C k names ρ H (.Call (.Attribute o "append" apos) [elt] [] pos) Q:=by
 refine⟨fun A s ι env hr B L=>?_⟩;refine wpAny_Call_append (hbase env) (hfew env) hline (htrees env) (G.run h hr B L fun ov s₁ aj x H₁ av aK aC k₁ aN aA=>?_);obtain⟨n,xs,rfl,hx,aA⟩:=aA;obtain⟨p,rfl,hp,us,⟨nn,hL⟩,hus⟩:=bj av aN hx;refine⟨p.1,us,rfl,⟨_,nn,hL,rfl,rfl,rfl⟩,?_⟩;refine G.run aA hr av aK fun y bH aP v aB aQ bh aZ k₂ b9 bp=>?_;obtain⟨rj,dC,_⟩:=id aZ;exact up aQ (ee av aC k₁ aZ) (kk aC k₁ k₂) (bp.out A bH aP _ hr aQ (.cons (aN.mono dC) (.cons b9 .nil)))
theorem EW.DR {o elt:Expr} {name:Str} {apos pos:Pos} (mid:String) (slot:Slot "list" name mid) (hty:typeOf (.builtin mid)=pure (.type "method_descriptor"))
 (h:EW C k names ρ H o (fun x H₁=>∃n xs,x=.ref n∧H₁[n]? =some (.L xs)∧EW C k names ρ H₁ elt (fun v aB=>cR C k (.builtin mid) [x,v] aB Q)))
 (pl:Env→Sem Bool)
 (he:∀env,eval (.Call (.Attribute o name apos) [elt] [] pos) env=(do
  let ov←eval o env
  standAt apos.atName
  let(f,first)←holding [ov] (getMethod ov name (pl env))
  callWith pos f first (backTo pos (starEach [elt] env)) (backToKw pos (keywordEach [] env))))
 (hst:∀env,backTo pos (starEach [elt] env)=[(false,eval elt env)]):EW C k names ρ H (.Call (.Attribute o name apos) [elt] [] pos) Q:=by
 refine⟨fun A s ι env hr B L=>?_⟩;refine methodCall_KW (pl:=pl env) (G.run h hr B L fun ov s₁ aj x H₁ av aK aC k₁ aN aA=>?_) (he env);obtain⟨n,xs,rfl,hx,aA⟩:=aA;obtain⟨p,rfl,hp,us,⟨nn,hL⟩,hus⟩:=bj av aN hx;refine getMethod_list_of slot hty ⟨_,hL,rfl,_,rfl⟩ ⟨_,hL,rfl⟩ ?_;rw[hst];refine Calls.callWith_builtin rfl (evalArgs_plain (spliced_cons (G.run aA hr av aK fun y bH aP v aB aQ bh aZ k₂ b9 bp=>spliced_nil ?_)));obtain⟨rj,dC,_⟩:=id aZ;exact up aQ (ee av aC k₁ aZ) (kk aC k₁ k₂) (bp.out A bH aP _ hr aQ (.cons (aN.mono dC) (.cons b9 .nil)))
def jl (C:Cx) (k:Nat) (names:List (Str×NameKind)) (ρ:List (Option V)) (H:Hp) (e:Option Expr) (Q:Option Int→Hp→Prop):Prop:=G C k names ρ H (evalPart e) (fun _ i v=>IsPart v i) Q
theorem jl.no {Q:Option Int→Hp→Prop} (h:Q Option.none H):jl C k names ρ H Option.none Q:=⟨fun A s ι env hr B L=>by rw[evalPart_none];exact wpAny_pure (cM B .none h)⟩
theorem jl.int {e:Expr} {Q:Option Int→Hp→Prop} (h:EW C k names ρ H e (fun v H₁=>∃i,v=.I i∧Q (some i) H₁)):jl C k names ρ H (some e) Q:=by
 refine⟨fun A s ι env hr B L=>?_⟩;rw[evalPart_some];refine G.run h hr B L fun a s₁ aj v H₁ av aK aC k₁ aN aA=>?_;obtain⟨i,rfl,aA⟩:=aA;obtain⟨t,rfl⟩:=ax aN;exact⟨aj,some i,H₁,av,aC,k₁,.int _ _,aA⟩
def q5 (xs:List V) (lo hi:Option Int):List V:=(sliceRange (sliceBounds lo hi none xs.length).1 (sliceBounds lo hi none xs.length).2.1 (sliceBounds lo hi none xs.length).2.2).filterMap (xs[·]?)
theorem ph {ι:Io} {xs:List V} {vs:List Value} (r:dS ι xs vs):∀is:List Nat,dS ι (is.filterMap (xs[·]?)) (is.filterMap (vs[·]?))
 |[]=>.nil
 |i::is=>by
  have hl:=r.length
  by_cases h:i<xs.length
  · obtain⟨v,e,rv⟩:=r.get (z05 h);rw[List.filterMap_cons_some (z05 h),List.filterMap_cons_some e];exact .cons rv (ph r is)
  · rw[List.filterMap_cons_none (List.getElem?_eq_none ⋯),List.filterMap_cons_none (List.getElem?_eq_none ⋯)];exact ph r is
end
section
variable {C:Cx} {k:Nat} {names:List (Str×NameKind)} {ρ:List (Option V)} {H:Hp} {Q:Fl→List (Option V)→Hp→Prop}
end
end
section
open PySem.SeqAt
def d4 (names ns:List (Str×NameKind)):List (Str×NameKind):=ns.map fun p=>if p.2==.free&&names.lookup p.1==some .cell then(p.1,.cell)else p
def Ll (names:List (Str×NameKind)) (ρ:List (Option V)) (x:Str):Option V:=match names.findIdx? (fun p=>p.1==x)with|some i=>(ρ[i]?).join|none=>none
def qC (names:List (Str×NameKind)) (ρ:List (Option V)) (ns:List (Str×NameKind)):List (Option V):=ns.map fun p=>if p.2==.free then Ll names ρ p.1 else none
def bX (cells:List (Str×Addr)):List (Str×NameKind)→List (Str×Addr)→List (Str×Addr)
 |[],acc=>acc
 | (n,k)::r,acc=>if k==.free then bX cells r ((n,(cells.lookup n).getD 0)::acc)else bX cells r acc
theorem e_:∀(ns:List (Str×NameKind)) (k:Nat) (acc:List (Str×Addr)) (x:Str),(x,NameKind.cell)∉ns→(cellsFrom k ns acc).lookup x=acc.lookup x
 |[],_,_,_,_=>rfl
 | (y,kd)::r,k,acc,x,h=>by
  unfold cellsFrom;have hr:(x,NameKind.cell)∉r:=fun q=>h (z14 _ q)
  split
  · rename_i hk
    rw[e_ r _ _ x hr,List.lookup_cons];have:(x==y)=false:=by
     cases e:x==y with
     |false=>rfl
     |true=>exact absurd (by rw[beq_iff_eq.mp e,beq_iff_eq.mp hk];exact List.mem_cons_self) h
    rw[this]
  · exact e_ r _ _ x hr
theorem d0:∀(ns:List (Str×NameKind)) (h:Heap) (acc:List (Str×Addr)) (x:Str) (c:Addr),(cellsFrom h.objs.size ns acc).lookup x=some c→acc.lookup x=some c∨((pushCells h ns).IsCell c none∧h.objs.size≤c∧(x,NameKind.cell)∈ns)
 |[],_,_,_,_,h=>.inl h
 | (y,kd)::r,h,acc,x,c,e=>by
  unfold cellsFrom at e;unfold pushCells
  split at e
  · rename_i hk
    rw[if_pos hk];have:=d0 r (h.push {cls:=.type "cell",data:=.cell none}) ((y,h.objs.size)::acc) x c (by rw[Heap.size_push];exact e);rw[Heap.size_push]at this;rcases this with q|⟨q1,q2,q3⟩
    · rw[List.lookup_cons]at q
      cases ex:x==y with
      |true=>
       rw[ex]at q
       cases q
       refine .inr ⟨⟨_,pushCells_keeps _ _ _ _ (Heap.get?_push_size _ rfl),rfl⟩,z21 _,?_⟩;rw[beq_iff_eq.mp ex,beq_iff_eq.mp hk];exact List.mem_cons_self
      |false=>rw[ex]at q;exact .inl q
    · exact .inr ⟨q1,⋯,z14 _ q3⟩
  · rename_i hk
    rw[if_neg hk];rcases d0 r h acc x c e with q|⟨q1,q2,q3⟩
    · exact .inl q
    · exact .inr ⟨q1,q2,z14 _ q3⟩
theorem eZ:∀(ns:List (Str×NameKind)) (k:Nat) (acc:List (Str×Addr)),(∀x c,acc.lookup x=some c→c<k)→(∀x y c,acc.lookup x=some c→acc.lookup y=some c→x=y)→
 ∀x y c,(cellsFrom k ns acc).lookup x=some c→(cellsFrom k ns acc).lookup y=some c→x=y
 |[],_,_,_,h2,x,y,c,e1,e2=>h2 x y c e1 e2
 | (z,kd)::r,k,acc,h1,h2,x,y,c,e1,e2=>by
  unfold cellsFrom at e1 e2
  split at e1
  · rename_i hk
    rw[if_pos hk]at e2;refine eZ r (k+1) ((z,k)::acc) (fun x c e=>?_) (fun x y c e e'=>?_) x y c e1 e2
    · rw[List.lookup_cons]at e
      split at e
      · cases e;exact Nat.lt_succ_self _
      · exact Nat.lt_succ_of_lt (h1 x c e)
    · rw[List.lookup_cons]at e e'
      cases ex:x==z with
      |true=>
       rw[ex]at e;cases e
       cases ey:y==z with
       |true=>rw[beq_iff_eq.mp ex,beq_iff_eq.mp ey]
       |false=>rw[ey]at e';exact absurd (h1 y _ e') (Nat.lt_irrefl _)
      |false=>
       rw[ex]at e
       cases ey:y==z with
       |true=>rw[ey]at e';cases e';exact absurd (h1 x _ e) (Nat.lt_irrefl _)
       |false=>rw[ey]at e';exact h2 x y c e e'
  · rename_i hk
    rw[if_neg hk]at e2;exact eZ r k acc h1 h2 x y c e1 e2
theorem hY (cells:List (Str×Addr)):∀(ns:List (Str×NameKind)) (acc:List (Str×Addr)) (x:Str),(x,NameKind.free)∈ns∨acc.lookup x=some ((cells.lookup x).getD 0)→(bX cells ns acc).lookup x=some ((cells.lookup x).getD 0)
 |[],acc,x,h=>by
  rcases h with h|h
  · cases h
  · exact h
 | (y,kd)::r,acc,x,h=>by
  unfold bX
  split
  · rename_i hk
    refine hY cells r _ x ?_;rw[List.lookup_cons]
    cases ex:x==y with
    |true=>right;rw[beq_iff_eq.mp ex]
    |false=>
     rcases h with h|h
     · rcases List.mem_cons.mp h with h|h
       · cases h;simp at ex
       · exact .inl h
     · exact .inr h
  · rename_i hk
    refine hY cells r _ x ?_;rcases h with h|h
    · rcases List.mem_cons.mp h with h|h
      · cases h;exact absurd rfl hk
      · exact .inl h
    · exact .inr h
theorem iY (cells:List (Str×Addr)):∀(ns:List (Str×NameKind)) (acc:List (Str×Addr)) (x:Str),(x,NameKind.free)∉ns→(bX cells ns acc).lookup x=acc.lookup x
 |[],_,_,_=>rfl
 | (y,kd)::r,acc,x,h=>by
  unfold bX;have hr:(x,NameKind.free)∉r:=fun q=>h (z14 _ q)
  split
  · rename_i hk
    rw[iY cells r _ x hr,List.lookup_cons];have:(x==y)=false:=by
     cases e:x==y with
     |false=>rfl
     |true=>exact absurd (by rw[beq_iff_eq.mp e,beq_iff_eq.mp hk];exact List.mem_cons_self) h
    rw[this]
  · exact iY cells r _ x hr
theorem c9 (cells:List (Str×Addr)) (ns:List (Str×NameKind)) (x:Str) (c:Addr) (hf:∀y,(y,NameKind.free)∈ns→∃c,cells.lookup y=some c) (h:(bX cells ns []).lookup x=some c):(x,NameKind.free)∈ns∧cells.lookup x=some c:=by
 by_cases hm:(x,NameKind.free)∈ns
 · rw[hY cells ns [] x (.inl hm)]at h;obtain⟨d,hd⟩:=hf x hm;rw[hd]at h⊢;exact⟨hm,by simpa using h⟩
 · rw[iY cells ns [] x hm]at h;cases h
theorem iE {scope:Scope} {env:Env} (hf:∀y,(y,NameKind.free)∈scope.names→∃c,env.cells.lookup y=some c):closureFor scope env=pure (bX env.cells scope.names []):=by
 unfold closureFor;have key:∀(ns:List (Str×NameKind)) (acc:List (Str×Addr)),(∀y,(y,NameKind.free)∈ns→∃c,env.cells.lookup y=some c)→
  (forIn ns acc (fun x (r:List (Str×Addr))=>if(x.2==NameKind.free)=true then(cellOf env x.1>>=fun a=>pure (ForInStep.yield ((x.1,a)::r)):Sem _)else pure (ForInStep.yield r)))=pure (bX env.cells ns acc):=by
  intro ns
  induction ns with
  |nil=>intro acc _;rfl
  |cons x r ih=>
   intro acc hr;obtain⟨y,kd⟩:=x;rw[List.forIn_cons];unfold bX
   by_cases hk:(kd==NameKind.free)=true
   · simp only[hk,if_true];obtain⟨c,hc⟩:=hr y (by rw[beq_iff_eq.mp hk];exact List.mem_cons_self);have:cellOf env y=pure c:=by unfold cellOf;rw[hc]
     rw[this,hc];show(forIn r ((y,c)::acc) _:Sem _)=_;exact ih _ fun z hz=>hr z (z14 _ hz)
   · simp only[hk,if_false];show(forIn r acc _:Sem _)=_;exact ih _ fun z hz=>hr z (z14 _ hz)
 have:=key scope.names [] hf;exact(congrArg (fun t=>t>>=fun cs=>pure cs) this)
def cH (scope:Scope) (a:Addr) (env:Env):Env:=
 {scope:=relabel scope env,locals:=a,globals:=env.globals,cells:=cellsFrom (a+1) scope.names (bX env.cells scope.names []),qual:=env.qual,func:=none,code:=env.code,frame:=env.frame,builtins:=env.builtins}
def cI (h:Heap) (ns:List (Str×NameKind)):Heap:=pushCells (h.push {cls:=.type "dict",data:=.dict #[]}) ns
theorem el (h:Heap) (ns:List (Str×NameKind)):∀b o,h.get? b=some o→(cI h ns).get? b=some o:=fun b o e=>pushCells_keeps _ _ _ _ (z17 _ e)
theorem CU {prog:Program} {w:World} {A:Around} {E:Value→Shared→Prop} {s:Shared} {scope:Scope} {env:Env} {Q:Env→Shared→Prop}
 (h:Q {scope,locals:=s.heap.objs.size,globals:=env.globals,cells:=cellsFrom (s.heap.objs.size+1) scope.names (bX env.cells scope.names []),qual:=env.qual,func:=none,code:=env.code,frame:=env.frame,builtins:=env.builtins} {s with heap:=cI s.heap scope.names}):
 wpAny (model prog w) A (newFunctionEnv scope env.globals (bX env.cells scope.names []) [] env.qual none .none (some env)) Q E s:=by
 simp only[newFunctionEnv,Option.isSome_some,if_true];refine wpAny_bind (wpAny_alloc ?_);refine wpAny_bind (wpAny_layCells _ (fun name kind cells=>by cases hkc:kind==NameKind.cell<;>simp[hkc]) _ _ _ _ ?_);rw[show({s with heap:=s.heap.push {cls:=.type "dict",data:=.dict #[]}}:Shared).heap.objs.size=s.heap.objs.size+1 from Heap.size_push ..];rw[List.forIn_nil];exact wpAny_bind (wpAny_pure (wpAny_pure h))
theorem qn {C:Cx} {names env ρ} {ι:Io} {h:Heap} (L:Loc C names env ρ ι h) (scope:Scope):(relabel scope env).names=d4 names scope.names:=by
 show scope.names.map _=scope.names.map _;refine z26 fun p _=>?_;obtain⟨n,k⟩:=p;have h1:(env.scope.kind==.function)=true:=by rw[L.hk];rfl
 have h2:env.kindOf n=names.lookup n:=by unfold Env.kindOf;rw[L.hn]
 simp only[h1,h2,Bool.and_true]
theorem AY (names ns:List (Str×NameKind)):(d4 names ns).map (·.1)=ns.map (·.1):=by
 unfold d4;rw[List.map_map];refine z26 fun p _=>?_;simp only[Function.comp]
 split<;>rfl
theorem tx {names ns:List (Str×NameKind)} {j:Nat} {x:Str} {k:NameKind} (e:(d4 names ns)[j]? =some (x,k)):∃k₀,ns[j]? =some (x,k₀)∧(k=k₀∨(k₀=.free∧k=.cell)):=by
 injection names ns j x k with e
 unfold d4 at e;rw[z11]at e
 cases q:ns[j]? with
 |none=>rw[q]at e;cases e
 |some p=>
  obtain⟨y,k₀⟩:=p;rw[q]at e;simp only[Option.map_some,Option.some.injEq]at e
  split at e
  · rename_i hc
    cases e
    simp only[z01,beq_iff_eq]at hc;exact⟨_,rfl,.inr ⟨hc.1,rfl⟩⟩
  · cases e;exact⟨_,rfl,.inl rfl⟩
set_option tactic.hygienic true in
theorem zO {C:Cx} {names:List (Str×NameKind)} {env:Env} {ρ:List (Option V)} {ι:Io} {H:Hp} {s:Shared} (B:Bs C ι H s) (L:Loc C names env ρ ι s.heap) {scope:Scope} (hk:scope.kind=.function) (sF:(scope.names.map (·.1)).Nodup)
 (dv:∀x,(x,NameKind.free)∈scope.names→(x,NameKind.cell)∈names):
 Loc C (d4 names scope.names) (cH scope s.heap.objs.size env) (qC names ρ scope.names) ι (cI s.heap scope.names):=by
 injection C names env ρ ι H s scope with B L hk sF dv
 have hcl:∀y,(y,NameKind.free)∈scope.names→∃c,env.cells.lookup y=some c:=fun y hy=>L.cells y (dv y hy);have keep:=el s.heap scope.names;have cases_:∀x c,(cH scope s.heap.objs.size env).cells.lookup x=some c→((x,NameKind.free)∈scope.names∧env.cells.lookup x=some c)∨((cI s.heap scope.names).IsCell c none∧s.heap.get? c=none):=by
  rintro-x c e;have:=d0 scope.names (s.heap.push {cls:=.type "dict",data:=.dict #[]}) (bX env.cells scope.names []) x c (by rw[Heap.size_push];exact e);rcases this with q|⟨q1,q2,_⟩
  · exact .inl (c9 _ _ _ _ hcl q)
  · rw[Heap.size_push]at q2;exact .inr ⟨q1,z18 ⋯⟩
 have free_at:∀x,(x,NameKind.free)∈scope.names→(cH scope s.heap.objs.size env).cells.lookup x=env.cells.lookup x:=by
  rintro-x hx;have nc:(x,NameKind.cell)∉scope.names:=by
   rintro-hc;obtain(⟨i,hi,ei⟩):=z27 hx;obtain(⟨j,hj,ej⟩):=z27 hc;have:=j_ sF (i:=i) (j:=j) (x:=x) (a:=.free) (b:=.cell) (by rw[z05 hi,ei]) (by rw[z05 hj,ej]);subst this;rw[ei]at ej;cases ej
  show(cellsFrom _ _ _).lookup x=_;rw[e_ _ _ _ _ nc,hY _ _ _ _ (.inl hx)];obtain(⟨c,hc⟩):=hcl x hx;rw[hc];rfl
 refine⟨qn L scope,hk,L.hg,L.hb,by rw[AY];exact sF,⟨fun _=>none,?_,?_⟩,?_,?_,?_,?_,?_,?_⟩
 · exact(Heap.Ns.new s.heap (.type "dict")).keeps (pushCells_keeps _ _)
 · rintro-j x v h1 h2
   exfalso
   obtain(⟨k₀,e0,ek⟩):=tx h1;unfold qC at h2;rw[z11,e0]at h2;simp only[Option.map_some,Option.some.injEq]at h2
   split at h2
   · rename_i hf
     have:k₀=.free:=by simpa using hf
     subst this;rcases ek with ek|⟨_,ek⟩<;>cases ek
   · cases h2
 · rintro-j x kd v h1 h2 h3;obtain(⟨k₀,e0,ek⟩):=tx h1;unfold qC at h3;rw[z11,e0]at h3;simp only[Option.map_some,Option.some.injEq]at h3
   split at h3
   · rename_i hf
     have:k₀=.free:=by simpa using hf
     subst this;have hm:=z08 e0;have hc:=dv x hm;unfold Ll at h3
     split at h3
     · rename_i i hi
       obtain(⟨hlt,hp,_⟩):=List.findIdx?_eq_some_iff_getElem.mp hi;have hx:names[i].1=x:=by simpa using hp
       have hni:names[i]? =some (x,names[i].2):=by rw[z05 hlt,←hx]
       obtain(⟨i',yK,J4⟩):=z27 hc;have:=j_ L.nd hni (by rw[z05 yK,J4]:names[i']? =some (x,NameKind.cell));subst this;rw[z05 yK,J4]at hni;have hv:ρ[i]? =some (some v):=by
        cases q:ρ[i]? with
        |none=>rw[q]at h3;cases h3
        |some u=>rw[q]at h3;simp at h3;rw[h3]
       obtain(⟨c,v',a,b,d⟩):=L.cell i x .cell v (by rw[z05 yK,J4]) (.inl rfl) hv;exact⟨c,v',(free_at x hm).trans a,b.keeps keep,d⟩
     · cases h3
   · cases h3
 · rintro-x hx;obtain(⟨j,hj,ej⟩):=z27 hx;obtain(⟨k₀,e0,ek⟩):=tx (by rw[z05 hj,ej]:(d4 names scope.names)[j]? =some (x,NameKind.cell));have hm:=z08 e0;rcases ek with ek|⟨ek,_⟩
   · subst ek;exact Option.isSome_iff_exists.mp (dA scope.names (s.heap.objs.size+1) _ x (.inl hm))
   · subst ek;obtain(⟨c,hc⟩):=hcl x hm;exact⟨c,(free_at x hm).trans hc⟩
 · rintro-x c hc;rcases cases_ x c hc with⟨hm,q⟩|⟨q,_⟩
   · obtain(⟨v,hv⟩):=L.BK x c q;exact⟨v,hv.keeps keep⟩
   · exact⟨_,q⟩
 · have f:=B.fresh (z18 (z21 _):s.heap.get? s.heap.objs.size=none);exact⟨f.1,f.nf⟩
 · rintro-x c hc;rcases cases_ x c hc with⟨hm,q⟩|⟨_,q⟩
   · exact L.rH x c q
   · have f:=B.fresh q;exact⟨f.1,f.nf⟩
 · refine eZ _ _ _ (?_) (?_)
   · rintro-x c e;obtain(⟨hm,q⟩):=c9 _ _ _ _ hcl e;obtain(⟨v,o,ho,_⟩):=L.BK x c q;exact Nat.lt_succ_of_lt (Heap.lt_size ho)
   · rintro-x y c e e';obtain(⟨_,q⟩):=c9 _ _ _ _ hcl e;obtain(⟨_,q'⟩):=c9 _ _ _ _ hcl e';exact L.kJ x y c q q'
end
section
open PySem.SeqAt
def iU (env:Env) (ws:List Str) (a:Addr):Prop:=a=env.locals∨∃x∈ws,env.cells.lookup x=some a
theorem iU.own {env:Env} {ws:List Str} {a:Addr} (h:iU env ws a):Own env a:=h.elim .inl (by rintro⟨x,_,e⟩;exact .inr ⟨x,e⟩)
def tM (C:Cx) (ι:Io) (W:Addr→Prop) (h h':Heap):Prop:=∀a o,h.get? a=some o→¬foot C ι a→¬W a→h'.get? a=some o
theorem Ha {C:Cx} {ι bw vu:Io} {W:Addr→Prop} {h h':Heap} (x:Ext h ι bw) (k:tM C ι W h h') (ex:∀p∈ι,(h'.get? p.1).isSome=true∧(h'.get? p.2).isSome=true)
 (ow:∀a,W a→∃o,h'.get? a=some o) (y:Ext h' bw vu):Ext h ι vu:=by
 obtain⟨ε,rfl,wH⟩:=x;obtain⟨δ,rfl,oo⟩:=y;refine⟨ε++δ,List.append_assoc ..,fun p hp=>?_⟩;rcases List.mem_append.mp hp with hp|hp
 · exact wH p hp
 · have key:∀a,h'.get? a=none→h.get? a=none:=by
    intro a ha
    cases e:h.get? a with
    |none=>rfl
    |some o=>
     exfalso
     by_cases hw:W a
     · obtain⟨u,hu⟩:=ow a hw;rw[ha]at hu;cases hu
     by_cases hf:foot C ι a
     · obtain⟨_,q,hq,e'⟩:=hf;have:=ex q hq;rcases e' with rfl|rfl
       · rw[ha]at this;simp at this
       · rw[ha]at this;simp at this
     · rw[k a o e hf hw]at ha;cases ha
   exact⟨key _ (oo p hp).1,key _ (oo p hp).2⟩
theorem Ka {C:Cx} {ι aj:Io} {H₁:Hp} {s₁:Shared} {h:Heap} (B:Bs C aj H₁ s₁) (x:Ext h ι aj):∀p∈ι,(s₁.heap.get? p.1).isSome=true∧(s₁.heap.get? p.2).isSome=true:=fun p hp=>by
 obtain⟨ε,rfl,_⟩:=x;exact B.sim.ex p (List.mem_append_left _ hp)
inductive qw (C:Cx) (names:List (Str×NameKind)) (env:Env) (W:Addr→Prop) (ι:Io) (h₀:Heap) (P:List (Option V)→Hp→Prop) (s':Shared):Prop
 |mk (bw:Io) (aO:List (Option V)) (H':Hp) (hb:Bs C bw H' s') (hl:Loc C names env aO bw s'.heap) (he:Ext h₀ ι bw) (hk:tM C ι W h₀ s'.heap) (hq:P aO H'):qw C names env W ι h₀ P s'
inductive Ms (C:Cx) (names:List (Str×NameKind)) (env:Env) (W:Addr→Prop) (ι:Io) (h₀:Heap) (it:Addr) (St:Nat→Heap→Prop) (I:Nat→List (Option V)→Hp→Prop) (n m:Nat) (s':Shared):Prop
 |mk (i:Nat) (bw:Io) (aO:List (Option V)) (H':Hp) (e:i+m=n) (hb:Bs C bw H' s') (hl:Loc C names env aO bw s'.heap) (he:Ext h₀ ι bw) (hk:tM C ι W h₀ s'.heap) (hs:St i s'.heap) (nf:¬foot C bw it) (hI:I i aO H'):Ms C names env W ι h₀ it St I n m s'
structure BJ (C:Cx) (k:Nat) (names:List (Str×NameKind)) (ρ:List (Option V)) (H:Hp) (ws:List Str) (n:Nat) (body:Env→Value→Sem Unit) (P:List (Option V)→Hp→Prop):Prop where
 out:∀A s ι env p,dM k A→Bs C ι H s→Loc C names env ρ ι s.heap→ι[n]? =some p→wpAny (model C.prog C.w) A (body env (.ref p.1)) (fun _ s'=>qw C names env (iU env ws) ι s.heap P s') fM s
def jg (e:Expr) (d:Nat) (x:Str) (px pp:Pos) (body:Env→Value→Sem Unit):Prop:=∀it acc env,compTurn e d it acc env=(standAt pp>>=fun _=>pyNext it>>=fun r=>match r with
 |none=>pure (.done .next)
 |some v=>letOwnedTupleGo (.Name x px) it v>>=fun _=>assign (.Name x px) env v>>=fun _=>body env acc>>=fun _=>again (.compLoop e d it acc env))
theorem qB {C:Cx} {k:Nat} {names:List (Str×NameKind)} {elt:Expr} {gens:List Comprehension} {scope:Scope} {cpos:Pos} {d:Nat} {x:Str} {px pp:Pos} {kd:NameKind} {body:Env→Value→Sem Unit} {n:Nat} {ws:List Str} {vs:List V} {Hc:Hp→Prop} {P:List (Option V)→Hp→Prop}
 (ht:jg (.ListComp elt gens scope cpos) d x px pp body) (I:Nat→List (Option V)→Hp→Prop) (j:Nat) (en:names[j]? =some (x,kd)) (hk:kd=.local∨kd=.cell) (hw:x∈ws)
 (turn:∀i v ρ H,vs[i]? =some v→I i ρ H→Hc H∧BJ C k names (ρ.set j (some v)) H ws n body (fun aO H'=>I (i+1) aO H'))
 (done:∀ρ H,I vs.length ρ H→Hc H∧P ρ H)
 {A:Around} {s:Shared} {ι₀ ι ε:Io} {env:Env} {p:Addr×Addr} {it:Addr} {St:Nat→Heap→Prop} {ρ:List (Option V)} {H:Hp} (hr:dM k A) (B:Bs C ι H s) (L:Loc C names env ρ ι s.heap) (hp:ι[n]? =some p) (h0:I 0 ρ H)
 (ok:Ec C ι₀ it vs Hc St) (F2:ι=ι₀++ε) (hst:St 0 s.heap) (nf:¬foot C ι it) (f0:C.aA.get? it=none) (no:¬Own env it):
 codeAny (model C.prog C.w) A (.compLoop (.ListComp elt gens scope cpos) d (.ref it) (.ref p.1) env) (fun r s'=>match r with|.ok _=>qw C names env (fun a=>iU env ws a∨a=it) ι s.heap P s'|.error _=>False) s:=by
 injection C k names elt gens scope cpos d x px pp kd body n ws vs Hc P I j A s ι₀ ι ε env p it St ρ H with ht en hk hw turn done hr B L hp h0 ok F2 hst nf f0 no
 refine codeAny_loop rfl (Ms C names env (fun a=>iU env ws a∨a=it) ι s.heap it St I vs.length)
  ?_ vs.length ⟨0,ι,ρ,H,⋯,B,L,Ext.rfl _ _,fun a o e _ _=>e,hst,nf,h0⟩
 rintro-m du ⟨i,bw,eY,H₀,him,ji,pH,iu,k₀,i6,j9,hI⟩;show wpAny _ A ((compTurn (.ListComp elt gens scope cpos) d (.ref it) (.ref p.1) env).onRaise (fun x=>do noteFrame x env;theTreesLotGoes x)) _ _ du;refine wpAny_noted ?_;rw[ht];obtain(⟨D7,vS,_⟩):=id iu;have um:ry C bw it:=jB f0 j9;have PH:bw[n]? =some p:=dm vS hp;have IJ:∀{s₁:Shared} {fV:List (Option V)} {aj:Io} {HU:Nat},Loc C names env fV aj s₁.heap→St HU s₁.heap→∀a,(iU env ws a∨a=it)→∃o,s₁.heap.get? a=some o:=by
  rintro-s₁ fV aj HU aK I1 a ha;rcases ha with ha|rfl
  · exact aK.mT a ha.own
  · obtain(⟨o,_,ho,_⟩):=ok.obj _ _ I1;exact⟨o,ho⟩
 refine wpAny_bind (wpAny_standAt (wpAny_bind (aH ?_)))
 by_cases hi:i<vs.length
 · obtain(⟨xv,hx⟩):∃x,vs[i]? =some x:=⟨_,z05 hi⟩;obtain(⟨hc,cb⟩):=turn i _ eY H₀ hx hI;refine ok.item A i _ du bw (ε++D7) H₀ _ hx ji (by rw[vS,F2,List.append_assoc]) hc i6 ?_;rintro-v' h2 tk rv yM kp;have E0:∀a o,du.heap.get? a=some o→¬a=it→h2.get? a=some o:=fun a o e ne=>kp a o ne e;have aQ:=ji.turn (· =it) (fun a ha=>by subst ha;exact um) E0 tk;have bh:Loc C names env eY bw h2:=pH.own fun a o ow e=>kp a o (fun q=>no (q▸ow)) e;obtain(⟨oi,ni,goi,gci,gni⟩):=ok.obj _ _ yM;refine wpAny_bind (aH (Nb (s:={du with heap:=h2,toks:=tk}) goi gci gni ?_));refine wpAny_bind (aH (wpAny_assign_Name (je (s:={du with heap:=h2,toks:=tk}) aQ bh j en hk rv ?_)));rintro-h3 Q4 cU fy cW;refine wpAny_bind (aH (wpAny_mono (cb.out A {du with heap:=h3,toks:=Q4} bw env p hr cU fy PH) (?_) fun _ _ x=>x));rintro-_ iB ⟨cZ,rk,bN,fv,tN,fB,f_,Hn⟩;have nx:∀a,¬iU env ws a→¬(a=env.locals∨env.cells.lookup x=some a):=fun a na q=>na (q.elim .inl fun q=>.inr ⟨x,hw,q⟩);have NY:¬iU env ws it:=fun q=>no q.own;have kI:∀o,h2.get? it=some o→iB.heap.get? it=some o:=fun o e=>f_ _ _ (cW _ _ e j9 (nx _ NY)) j9 NY;have EN:St (i+1) iB.heap:=ok.frame _ _ _ yM kI;have EX:tM C bw (fun a=>iU env ws a∨a=it) du.heap iB.heap:=fun a o e nfa nw=>f_ _ _ (cW _ _ (kp a o (fun q=>nw (.inr q)) e) nfa (nx _ fun q=>nw (.inl q))) nfa fun q=>nw (.inl q);have Jo:Ext du.heap bw cZ:=by
    have e3:Ext h2 bw cZ:=Ha (Ext.rfl _ _) (W:=iU env ws) (fun a o e nfa nw=>cW _ _ e nfa (nx _ nw)) (Ka cU (Ext.rfl h3 _)) (fun a ha=>fy.mT a ha.own) fB;obtain(⟨δ,rfl,oo⟩):=e3;refine⟨δ,rfl,?_⟩;rintro-p hp;have key:∀a,h2.get? a=none→du.heap.get? a=none:=by
     rintro-a ha
     cases q:du.heap.get? a with
     |none=>rfl
     |some o=>
      by_cases z:a=it
      · subst z;rw[goi]at ha;cases ha
      · rw[kp a o z q]at ha;cases ha
    exact⟨key _ (oo p hp).1,key _ (oo p hp).2⟩
   refine wpAny_pure ⟨rfl,m-1,⋯,i+1,cZ,rk,bN,⋯,fv,tN,Ha iu k₀ (Ka ji iu) (IJ pH i6) Jo,fun a o e nfa nw=>EX _ _ (k₀ a o e nfa nw) (bZ iu e nfa) nw,EN,?_,Hn⟩;obtain(⟨QB,_,HE,_⟩):=ok.obj _ _ i6;exact bZ Jo HE j9
 · have yK:i=vs.length:=⋯
   subst yK;obtain(⟨hc,hP⟩):=done eY H₀ hI;refine ok.done A du bw (ε++D7) H₀ _ hr.handled ji (by rw[vS,F2,List.append_assoc]) hc i6 ?_;rintro-h2 tk kp;have E0:∀a o,du.heap.get? a=some o→¬a=it→h2.get? a=some o:=fun a o e ne=>kp a o ne e;have aQ:=ji.turn (· =it) (fun a ha=>by subst ha;exact um) E0 tk;have bh:Loc C names env eY bw h2:=pH.own fun a o ow e=>kp a o (fun q=>no (q▸ow)) e;exact wpAny_pure ⟨bw,eY,H₀,aQ,bh,iu,fun a o e nfa nw=>kp a o (fun q=>nw (.inr q)) (k₀ a o e nfa nw),hP⟩
def d1 (ifs:List Expr) (env:Env):Sem Bool:=forIn ifs true fun c r=>if r=true then do let ok←isTrue c env (eval c env);pure (ForInStep.yield ok)else pure (ForInStep.yield r)
def vH (C:Cx) (k:Nat) (names:List (Str×NameKind)) (ρ:List (Option V)) (H:Hp) (ifs:List Expr) (Q:Bool→Hp→Prop):Prop:=G C k names ρ H (d1 ifs) BR Q
def nB (ifs:List Expr) (elt:Expr) (env:Env) (acc:Value):Sem Unit:=d1 ifs env>>=fun ok=>if ok=true then(eval elt env>>=fun x=>call (.builtin "list.append") [acc,x]>>=fun _=>pure ())else pure ()
def tY (ifs:List Expr) (e:Expr) (d:Nat) (iter:Expr) (env:Env) (acc:Value):Sem Unit:=d1 ifs env>>=fun ok=>if ok=true then(eval iter env>>=fun x=>standAt iter.pos>>=fun _=>foldedSetIterable iter env x>>=fun x=>holding [x] (pyIter x)>>=fun it=>runOwn (.compStart e d it acc env) env>>=fun _=>pure ())else pure ()
section
variable {C:Cx} {k:Nat} {names:List (Str×NameKind)} {ρ:List (Option V)} {H:Hp}
theorem vH.nil {Q:Bool→Hp→Prop} (h:Q true H):vH C k names ρ H [] Q:=⟨fun A s ι env hr B L=>by unfold d1;rw[List.forIn_nil];exact wpAny_pure (cM B rfl h)⟩
theorem vH.one {c:Expr} {Q:Bool→Hp→Prop} (h:TW C k names ρ H c Q):vH C k names ρ H [c] Q:=by
 refine⟨fun A s ι env hr B L=>?_⟩;unfold d1;rw[List.forIn_cons];simp only[if_true];refine wpAny_bind (wpAny_bind (wpAny_mono (h.out A s ι env hr B L) (fun ok s₁ p=>wpAny_pure ?_) fun _ _ x=>x));dsimp only;rw[List.forIn_nil];exact wpAny_pure p
theorem BJ.one {ifs:List Expr} {elt:Expr} {ws:List Str} {n:Nat} {P:List (Option V)→Hp→Prop} (hn:C.T≤n)
 (h:vH C k names ρ H ifs (fun b H₁=>(b=true→EW C k names ρ H₁ elt (fun y aB=>∃acc,aB[n]? =some (.L acc)∧acc.length≤1000∧P ρ (aB.set n (.L (acc++[y])))))∧(b=false→P ρ H₁))):BJ C k names ρ H ws n (nB ifs elt) P:=by
 injection C k names ρ H ifs elt ws n P with hn h
 refine⟨?_⟩;rintro-A s ι env p hr B L hp;unfold nB;refine wpAny_bind (G.run h hr B L ?_);rintro-ok s₁ aj b H₁ av aK aC k₁ aN aA
 cases aN
 cases ok with
 |false=>simp only[Bool.false_eq_true,if_false];exact wpAny_pure ⟨aj,ρ,H₁,av,aK,aC,fun a o e nf _=>k₁ a o e nf,aA.2 rfl⟩
 |true=>
  simp only[if_true];refine wpAny_bind (G.run (aA.1 rfl) hr av aK ?_);rintro-y bH aP y' aB aQ bh aZ k₂ b9 bp;obtain(⟨acc,ha,hz,hP⟩):=bp;obtain(⟨Jh,vT,_⟩):=id aC;obtain(⟨rj,dC,_⟩):=id aZ;have HH:=dm dC (dm vT hp);have b:cR C k (.builtin "list.append") [.ref n,y'] aB (fun v H'=>v=.none∧P ρ H'):=cR.append hn ha hz ⟨rfl,hP⟩;refine wpAny_bind (wpAny_mono (b.out A bH aP _ hr aQ (.cons (.ref HH) (.cons b9 .nil))) (?_) fun _ _ x=>x);rintro-_ gI ⟨eE,_,bc,cU,dt,cW,_,i7⟩;refine wpAny_pure ?_;have nE:=ee av aC k₁ aZ;have oy:=kk aC k₁ k₂;exact⟨eE,ρ,bc,cU,bh.keep dt cW,ee aQ nE oy dt,fun a o e nf _=>(kk nE oy cW) a o e nf,i7.2⟩
theorem BJ.two {ifs:List Expr} {elt:Expr} {gens:List Comprehension} {scope:Scope} {cpos:Pos} {iter:Expr} {ws:List Str} {n:Nat} {P:List (Option V)→Hp→Prop} {x:Str} {px pp:Pos} {kd:NameKind} {body:Env→Value→Sem Unit}
 (ht:jg (.ListComp elt gens scope cpos) 1 x px pp body) (vs:List V) (Hc:Hp→Prop) (I:Nat→List (Option V)→Hp→Prop) (j:Nat) (en:names[j]? =some (x,kd)) (hk:kd=.local∨kd=.cell) (hw:x∈ws)
 (h:vH C k names ρ H ifs (fun b H₁=>b=true∧EW C k names ρ H₁ iter (fun v aB=>bF C k aB v vs Hc∧I 0 ρ aB)))
 (turn:∀i v ρ H,vs[i]? =some v→I i ρ H→Hc H∧BJ C k names (ρ.set j (some v)) H ws n body (fun aO H'=>I (i+1) aO H'))
 (done:∀ρ H,I vs.length ρ H→Hc H∧P ρ H)
 (hs:∀env x,foldedSetIterable iter env x=pure x) (hcl:(clausesOf (.ListComp elt gens scope cpos))[1]?.elim false (·.is_async !=0)=false):BJ C k names ρ H ws n (tY ifs (.ListComp elt gens scope cpos) 1 iter) P:=by
 injection C k names ρ H ifs elt gens scope cpos iter ws n P x px pp kd body vs Hc I j with ht en hk hw h turn done hs hcl
 refine⟨?_⟩;rintro-A s ι env p hr B L hp;unfold tY;refine wpAny_bind (G.run h hr B L ?_);rintro-ok s₁ aj b H₁ av aK aC k₁ aN aA
 cases aN
 obtain(⟨rfl,aA⟩):=aA;simp only[if_true];refine wpAny_bind (G.run aA hr av aK ?_);rintro-v bH aP v' aB aQ bh aZ k₂ b9 bp;refine wpAny_bind (wpAny_standAt (wpAny_bind (wpAny_of_eq (hs _ _) (wpAny_bind (wpAny_holding ?_)))));refine bp.1.out A bH aP v _ hr aQ b9 ?_;rintro-dz h' St hnew hkeep ok hst;obtain(⟨Jh,vT,_⟩):=id aC;obtain(⟨rj,dC,_⟩):=id aZ;have nE:=ee av aC k₁ aZ;have oy:=kk aC k₁ k₂;have fr:=aQ.fresh hnew;have notOwn:¬Own env dz:=fun ow=>by obtain(⟨o,ho⟩):=bh.mT _ ow;rw[hnew]at ho;cases ho
 have Gu:Bs C aP aB {bH with heap:=h'}:=aQ.turn (fun _=>False) (fun _ x=>x.elim) (fun a u e _=>hkeep a u e) bH.toks;have GD:Loc C names env ρ aP h':=bh.own fun a o _ e=>hkeep a o e;refine wpAny_bind (wpAny_runOwn (h:=none) ?_);have fin:codeAny (model C.prog C.w) (A.mark none) (.compLoop (.ListComp elt gens scope cpos) 1 (.ref dz) (.ref p.1) env) (fun r s'=>match r with|.ok f=>wpAny (model C.prog C.w) A (pure ()) (fun _ s'=>qw C names env (iU env ws) ι s.heap P s') fM s'|.error e=>cameBackBy (model C.prog C.w) A env fM e s') {bH with heap:=h'}:=by
  refine codeAny_mono (qB ht I j en hk hw turn done (A:=A.mark none) (s:={bH with heap:=h'}) (ι₀:=aP) (ι:=aP) (ε:=[]) ⟨hr.handled,hr.depth,hr.units⟩ Gu GD (dm dC (dm vT hp)) bp.2 ok (List.append_nil _).symm hst fr.nf fr.1 notOwn) ?_;rintro-r s' CH
  cases r with
  |error x=>exact CH.elim
  |ok f=>
   obtain(⟨eE,D9,bc,cU,fy,dt,cW,hP⟩):=CH;have PW:tM C aP (iU env ws) bH.heap s'.heap:=fun a o ea nf nw=>cW a o (hkeep a o ea) nf fun q=>q.elim nw fun q=>by subst q;rw[hnew]at ea;cases ea
   have OY:Ext bH.heap aP eE:=by
    obtain(⟨δ,Kd,oo⟩):=dt;refine⟨δ,Kd,?_⟩;rintro-p hp;have key:∀a,h'.get? a=none→bH.heap.get? a=none:=by
     rintro-a ha
     cases q:bH.heap.get? a with
     |none=>rfl
     |some o=>rw[hkeep a o q]at ha;cases ha
    exact⟨key _ (oo p hp).1,key _ (oo p hp).2⟩
   exact wpAny_pure ⟨eE,D9,bc,cU,fy,ee aQ nE oy OY,fun a o ea nf nw=>PW a o (oy a o ea nf) (bZ nE ea nf) nw,hP⟩
 refine codeAny_of_tree ?_;show wpAny _ _ ((compStart (.ListComp elt gens scope cpos) 1 (.ref dz) (.ref p.1) env).onRaise (fun x=>do noteFrame x env;standAt theWindowsPlace)) _ _ _;refine wpAny_notedAt ?_;unfold compStart;rw[hcl,if_neg z22];show wpAny _ _ (ask>>=_) _ _ _;refine wpAny_bind (wpAny_askSetting (wpAny_ite ?_))
 split
 · exact wpAny_bind (wpAny_pure (wpAny_pure (And.intro rfl fin)))
 · refine wpAny_bind (wpAny_rule ?_);have last:wpAny (model C.prog C.w) (A.mark none) (do again (.compLoop (.ListComp elt gens scope cpos) 1 (←pyIter (.ref dz)) (.ref p.1) env)) (fun fin s'=>match fin with|.done f=>wpAny (model C.prog C.w) A (pure ()) (fun _ s'=>qw C names env (iU env ws) ι s.heap P s') fM s'|.again c'=>c'.quiet=true∧codeAny (model C.prog C.w) (A.mark none) c' (fun r s'=>match r with|.ok f=>wpAny (model C.prog C.w) A (pure ()) (fun _ s'=>qw C names env (iU env ws) ι s.heap P s') fM s'|.error e=>cameBackBy (model C.prog C.w) A env fM e s') s') fM {bH with heap:=h'}:=
    wpAny_bind (ok.self _ 0 {bH with heap:=h'} _ hst (wpAny_pure ⟨rfl,fin⟩))
   split
   · exact wpAny_bind (wpAny_standAt (aH last))
   · exact aH last
end
end
section
open PySem.SeqAt
theorem vN {C:Cx} {names:List (Str×NameKind)} {env:Env} {ρ:List (Option V)} {ι:Io} {h:Heap} (L:Loc C names env ρ ι h) {scope:Scope} (dv:∀x,(x,NameKind.free)∈scope.names→(x,NameKind.cell)∈names) (ws:List Str) (BP:∀x∈ws,(x,NameKind.free)∉scope.names) (a:Addr)
 (hlt:∀b,a≤b→h.get? b=none):∀b,iU (cH scope a env) ws b→h.get? b=none:=by
 rintro b (rfl|⟨x,hx,e⟩)
 · exact hlt _ (z21 _)
 · have hcl:∀y,(y,NameKind.free)∈scope.names→∃c,env.cells.lookup y=some c:=fun y hy=>L.cells y (dv y hy);have key:∀(ns:List (Str×NameKind)) (k:Nat) (acc:List (Str×Addr)) (c:Addr),(cellsFrom k ns acc).lookup x=some c→acc.lookup x=some c∨k≤c:=by
    intro ns
    induction ns with
    |nil=>intro k acc c e;exact .inl e
    |cons y r ih=>
     intro k acc c e;obtain⟨y,kd⟩:=y;unfold cellsFrom at e
     split at e
     · rcases ih _ _ _ e with q|q
       · rw[List.lookup_cons]at q
         split at q
         · cases q;exact .inr (z21 _)
         · exact .inl q
       · exact .inr ⋯
     · exact ih _ _ _ e
   rcases key _ _ _ _ e with q|q
   · exact absurd (c9 _ _ _ _ hcl q).1 (BP x hx)
   · exact hlt _ (z20 (Nat.le_succ _) q)
def rt (C:Cx) (k:Nat) (names:List (Str×NameKind)) (ρ:List (Option V)) (scope:Scope) (ws:List Str) (body:Env→Value→Sem Unit) (j:Nat) (n:Nat) (H₀:Hp) (vs:List V) (Hc:Hp→Prop) (P:Hp→Prop):Prop:=
 ∃I:Nat→List (Option V)→Hp→Prop,I 0 (qC names ρ scope.names) H₀∧
  (∀i v aO H',vs[i]? =some v→I i aO H'→Hc H'∧BJ C k (d4 names scope.names) (aO.set j (some v)) H' ws n body (fun Mq eG=>I (i+1) Mq eG))∧
  (∀aO H',I vs.length aO H'→Hc H'∧P H')
def kE:Obj:={cls:=.type "list",dict:=none,data:=.seq ([]:List Value).toArray}
def pr (a:Addr):Addr×Addr:=(a,a)
theorem t5 {C:Cx} {k:Nat} {names:List (Str×NameKind)} {ρ:List (Option V)} {H:Hp} {A:Around} {s:Shared} {ι:Io} {env:Env} {elt:Expr} {gens:List Comprehension} {scope:Scope} {cpos:Pos} {x:Str} {px pp:Pos} {kd:NameKind} {body:Env→Value→Sem Unit} {ws:List Str} {vs:List V} {Hc:Hp→Prop} {P:Hp→Prop} {j:Nat} {it:Addr} {St:Nat→Heap→Prop} {E:Value→Shared→Prop} {RR:Value→Addr→Result→Shared→Prop}
 (hr:dM k A) (B:Bs C ι H s) (L:Loc C names env ρ ι s.heap) (hk:scope.kind=.function) (sF:(scope.names.map (·.1)).Nodup) (dv:∀x,(x,NameKind.free)∈scope.names→(x,NameKind.cell)∈names)
 (ok:Ec C ι it vs Hc St) (hst:St 0 s.heap) (fr:ry C ι it) (no:¬Own env it)
 (ht:jg (.ListComp elt gens scope cpos) 0 x px pp body) (hcl:(clausesOf (.ListComp elt gens scope cpos))[0]?.elim false (·.is_async !=0)=false)
 (en:(d4 names scope.names)[j]? =some (x,kd)) (i5:kd=.local∨kd=.cell) (hw:x∈ws) (BP:∀y∈ws,(y,NameKind.free)∉scope.names)
 (hc:rt C k names ρ scope ws body j H.length (H++[.L []]) vs Hc P)
 (hR:∀Cl s' bw H' m,s.heap.get? Cl=none→Bs C bw H' s'→Ext s.heap ι bw→(∀a o,s.heap.get? a=some o→a≠it→¬foot C ι a→s'.heap.get? a=some o)→
  s'.heap.Ns Cl m→ry C bw Cl→VR bw (.ref H.length) (.ref s.heap.objs.size)→s.heap.objs.size≠Cl→P H'→RR (.ref s.heap.objs.size) Cl (.ok .next) s') (hRok:∀f a b s',RR a b (.ok .next) s'→RR a b (.ok f) s'):
 wpAny (model C.prog C.w) A (newList []) (fun acc gI=>wpAny (model C.prog C.w) A (newFunctionEnv scope env.globals (bX env.cells scope.names []) [] env.qual none .none (some env)) (fun cenv iB=>
  codeAny (model C.prog C.w) A (.compStart (.ListComp elt gens scope cpos) 0 (.ref it) acc {cenv with scope:=relabel scope env}) (RR acc cenv.locals) iB) E gI) E s:=by
 injection C k names ρ H A s ι env elt gens scope cpos x px pp kd body ws vs Hc P j it St E RR with hr B L hk sF dv ok hst fr no ht hcl en i5 hw BP hc hR hRok
 obtain(⟨I,h0,turn,done⟩):=hc;refine wpAny_newObj_type (CU ?_);dsimp only;have hnone:∀b,s.heap.objs.size≤b→s.heap.get? b=none:=fun b hb=>z18 hb;have F3:s.heap.get? s.heap.objs.size=none:=hnone _ (z21 _);have hg:(s.heap.push kE).get? s.heap.objs.size=some kE:=Heap.get?_push_size _ rfl;have av:Bs C (ι++[pr s.heap.objs.size]) (H++[.L []]) {s with heap:=s.heap.push kE}:=B.new (pr s.heap.objs.size) (.L []) F3 F3 (h':=s.heap.push kE) (fun a u e=>z17 _ e) ⟨#[],⟨_,hg⟩,.nil⟩ ⟨by show Option.isSome ((s.heap.push kE).get? s.heap.objs.size)=true;rw[hg];rfl,by show Option.isSome ((s.heap.push kE).get? s.heap.objs.size)=true;rw[hg];rfl⟩ s.toks;have aC:Ext s.heap ι (ι++[pr s.heap.objs.size]):=⟨[pr s.heap.objs.size],rfl,fun q hq=>by rw[List.mem_singleton.mp hq];exact⟨F3,F3⟩⟩;have aK:Loc C names env ρ (ι++[pr s.heap.objs.size]) (s.heap.push kE):=L.keep aC fun a u e _=>z17 _ e;have bh:=zO (s:={s with heap:=s.heap.push kE}) av aK hk sF dv;dsimp only at bh;have aQ:Bs C (ι++[pr s.heap.objs.size]) (H++[.L []]) {s with heap:=cI (s.heap.push kE) scope.names}:=av.turn (fun _=>False) (fun _ x=>x.elim) (fun a u e _=>el _ _ a u e) s.toks;have old:∀b o,s.heap.get? b=some o→(cI (s.heap.push kE) scope.names).get? b=some o:=fun b o e=>el _ _ b o (z17 _ e);have Ac:St 0 (cI (s.heap.push kE) scope.names):=ok.frame _ _ _ hst fun o e=>old _ o e;obtain(⟨oi,ni,goi,_,_⟩):=ok.obj _ _ hst;have IA:¬foot C (ι++[pr s.heap.objs.size]) it:=bZ aC goi fr.nf;have IF:¬Own (cH scope (s.heap.push kE).objs.size env) it:=by
  rintro-ow;rcases ow with q|⟨y,hy⟩
  · have:s.heap.get? it=none:=hnone _ (by rw[q];show _≤(s.heap.push kE).objs.size;rw[Heap.size_push];omega);rw[goi]at this;cases this
  · have Kn:∀y,(y,NameKind.free)∈scope.names→∃c,env.cells.lookup y=some c:=fun y hy=>L.cells y (dv y hy);have:=d0 scope.names ((s.heap.push kE).push {cls:=.type "dict",data:=.dict #[]}) (bX env.cells scope.names []) y it (by rw[Heap.size_push];exact hy);rcases this with q|⟨_,q2,_⟩
    · exact no (.inr ⟨y,(c9 _ _ _ _ Kn q).2⟩)
    · rw[Heap.size_push,Heap.size_push]at q2;have:s.heap.get? it=none:=hnone _ ⋯;rw[goi]at this;cases this
 have hpn:(ι++[pr s.heap.objs.size])[H.length]? =some (pr s.heap.objs.size):=by rw[←B.sim.len,z10 (z21 _)];simp
 have fin:codeAny (model C.prog C.w) A (.compLoop (.ListComp elt gens scope cpos) 0 (.ref it) (.ref s.heap.objs.size) (cH scope (s.heap.push kE).objs.size env)) (RR (.ref s.heap.objs.size) (cH scope (s.heap.push kE).objs.size env).locals) {s with heap:=cI (s.heap.push kE) scope.names}:=by
  refine codeAny_mono (qB (P:=fun _ H'=>P H') ht I j en i5 hw turn (fun aO H' h=>done aO H' h) (A:=A) (ι₀:=ι) (ι:=ι++[pr s.heap.objs.size]) (ε:=[pr s.heap.objs.size]) (p:=pr s.heap.objs.size) hr aQ bh hpn h0 ok rfl Ac IA fr.1 IF) ?_;rintro-r s' CH
  cases r with
  |error x=>exact CH.elim
  |ok f=>
   obtain(⟨bw,aO,H',B',L',e',k',hP⟩):=CH;obtain(⟨m,hm,_⟩):=L'.m;obtain(⟨Rd,Hb,HP⟩):=id e';have cf:=vN L dv ws BP (s.heap.push kE).objs.size (fun b hb=>hnone _ (by rw[Heap.size_push]at hb;exact Nat.le_of_succ_le hb));refine hRok _ _ _ _ (hR _ s' bw H' m (hnone _ (by show _≤(s.heap.push kE).objs.size;rw[Heap.size_push];omega)) B' ⟨[pr s.heap.objs.size]++Rd,by rw[Hb,List.append_assoc],?_⟩ (?_) hm (jB L'.qi.1 L'.qi.2) (.ref (p:=pr s.heap.objs.size) (dm Hb hpn)) ?_ hP)
   · rintro-q hq;rcases List.mem_append.mp hq with hq|hq
     · rw[List.mem_singleton.mp hq];exact⟨F3,F3⟩
     · have key:∀a,(cI (s.heap.push kE) scope.names).get? a=none→s.heap.get? a=none:=by
        rintro-a ha
        cases z:s.heap.get? a with
        |none=>rfl
        |some o=>rw[old a o z]at ha;cases ha
       exact⟨key _ (HP q hq).1,key _ (HP q hq).2⟩
   · rintro-a o ea ne nf;refine k' a o (old a o ea) (bZ aC ea nf) ?_;rintro-hw;rcases hw with hw|hw
     · rw[cf a hw]at ea;cases ea
     · exact ne hw
   · show s.heap.objs.size≠(s.heap.push kE).objs.size;rw[Heap.size_push];omega
 have hpush:s.heap.push {cls:=.type "list",dict:=none,data:=.seq ([]:List Value).toArray}=s.heap.push kE:=rfl;refine codeAny_of_tree ?_;show wpAny _ _ ((compStart (.ListComp elt gens scope cpos) 0 (.ref it) (.ref s.heap.objs.size) (cH scope (s.heap.push kE).objs.size env)).onRaise (fun x=>do noteFrame x _;standAt theWindowsPlace)) _ _ _;refine wpAny_notedAt ?_;unfold compStart;rw[hcl,if_neg z22];show wpAny _ _ (ask>>=_) _ _ _;refine wpAny_bind (wpAny_askSetting (wpAny_ite ?_))
 split
 · exact wpAny_bind (wpAny_pure (wpAny_pure (And.intro rfl fin)))
 · refine wpAny_bind (wpAny_rule ?_);have last:∀E',wpAny (model C.prog C.w) A (do again (.compLoop (.ListComp elt gens scope cpos) 0 (←pyIter (.ref it)) (.ref s.heap.objs.size) (cH scope (s.heap.push kE).objs.size env))) (fun fin s'=>match fin with|.done f=>RR (.ref s.heap.objs.size) (cH scope (s.heap.push kE).objs.size env).locals (.ok f) s'|.again c'=>c'.quiet=true∧codeAny (model C.prog C.w) A c' (RR (.ref s.heap.objs.size) (cH scope (s.heap.push kE).objs.size env).locals) s') E' {s with heap:=cI (s.heap.push kE) scope.names}:=
    fun E'=>aH (wpAny_bind (ok.self _ 0 {s with heap:=cI (s.heap.push kE) scope.names} _ Ac (wpAny_pure ⟨rfl,fin⟩)))
   split
   · exact wpAny_bind (wpAny_standAt (last _))
   · exact last _
section
variable {C:Cx} {k:Nat} {names:List (Str×NameKind)} {ρ:List (Option V)} {H:Hp}
theorem jQ {ns:List (Str×NameKind)} (sF:(ns.map (·.1)).Nodup):∀x∈ns,x.2=.local→ns.lookup x.1=some .local:=by
 rintro⟨y,kd⟩ hx e;obtain⟨i,hi,ei⟩:=z27 hx;have:kd=.local:=e;subst this;exact cw sF (by rw[z05 hi,ei])
structure vG (names:List (Str×NameKind)) (elt tgt iter:Expr) (ifs:List Expr) (gs:List Comprehension) (scope:Scope) (cpos:Pos) (x:Str) (px pp:Pos) (kd:NameKind) (body:Env→Value→Sem Unit) (ws:List Str) (j:Nat):Prop where
 hk:scope.kind=.function
 sF:(scope.names.map (·.1)).Nodup
 dv:∀x,(x,NameKind.free)∈scope.names→(x,NameKind.cell)∈names
 ht:jg (.ListComp elt (⟨tgt,iter,ifs,0⟩::gs) scope cpos) 0 x px pp body
 en:(d4 names scope.names)[j]? =some (x,kd)
 i5:kd=.local∨kd=.cell
 hw:x∈ws
 BP:∀y∈ws,(y,NameKind.free)∉scope.names
 hs:∀env x,foldedSetIterable iter env x=pure x
theorem EW.Ar {elt tgt iter:Expr} {ifs:List Expr} {gs:List Comprehension} {scope:Scope} {cpos:Pos} {x:Str} {px pp:Pos} {kd:NameKind} {body:Env→Value→Sem Unit} {ws:List Str} {j:Nat} {Q:V→Hp→Prop}
 (S:vG names elt tgt iter ifs gs scope cpos x px pp kd body ws j)
 (h:EW C k names ρ H iter (fun v H₁=>∃vs Hc,bF C k H₁ v vs Hc∧rt C k names ρ scope ws body j H₁.length (H₁++[.L []]) vs Hc (fun H'=>Q (.ref H₁.length) H'))):
 EW C k names ρ H (.ListComp elt (⟨tgt,iter,ifs,0⟩::gs) scope cpos) Q:=by
 obtain⟨hk,sF,dv,ht,en,i5,hw,BP,hs⟩:=S;refine⟨fun A s ι env hr B L=>?_⟩;rw[eval_ListComp];have hclos:closureFor scope env=pure (bX env.cells scope.names []):=iE fun y hy=>L.cells y (dv y hy);refine wpAny_comprehension_free (e:=.ListComp elt (⟨tgt,iter,ifs,0⟩::gs) scope cpos) (g:=⟨tgt,iter,ifs,0⟩) (gs:=gs) (use:=Option.none) (cl:=bX env.cells scope.names []) rfl (hs env) hclos hk (jQ sF) ?_;refine G.run h hr B L fun v s₁ aj x' H₁ av aK aC k₁ aN aA=>?_;obtain⟨vs,Hc,hit,hc⟩:=aA;refine hit.out A s₁ aj v _ hr av aN fun dz h' St hnew hkeep ok hst=>?_;have fr:=av.fresh hnew;have notOwn:¬Own env dz:=fun ow=>by obtain⟨o,ho⟩:=aK.mT _ ow;rw[hnew]at ho;cases ho
 have aQ:Bs C aj H₁ {s₁ with heap:=h'}:=av.turn (fun _=>False) (fun _ x=>x.elim) (fun a u e _=>hkeep a u e) s₁.toks;have bh:Loc C names env ρ aj h':=aK.own fun a o _ e=>hkeep a o e;refine t5 hr aQ bh hk sF dv ok hst fr notOwn ht rfl en i5 hw BP hc ?_ (fun _ _ _ _ h=>h);intro Cl s' bw H' m hCl B' e' k' hm hF hv hne hP;refine⟨m,hm,fun uI yL=>?_⟩;have JJ:Bs C bw H' {s' with heap:=uI,toks:=s'.toks}:=B'.turn (· =Cl) (fun a ha=>by subst ha;exact hF) (fun a o e na=>(yL.2 a na).trans e) s'.toks;have back:∀a,h'.get? a=Option.none→s₁.heap.get? a=Option.none:=fun a ha=>by
  cases q:s₁.heap.get? a with
  |none=>rfl
  |some o=>rw[hkeep a o q]at ha;cases ha
 have e2:Ext s₁.heap aj bw:=by obtain⟨δ,rfl,oo⟩:=e';exact⟨δ,rfl,fun p hp=>⟨back _ (oo p hp).1,back _ (oo p hp).2⟩⟩
 have k2:Keeps C aj s₁.heap uI:=fun a o ea nf=>by
  have n1:a≠dz:=fun q=>by subst q;rw[hnew]at ea;cases ea
  have n2:a≠Cl:=fun q=>by subst q;rw[hkeep _ o ea]at hCl;cases hCl
  exact(yL.2 a n2).trans (k' a o (hkeep a o ea) n1 nf)
 exact⟨bw,_,H',JJ,ee av aC k₁ e2,kk aC k₁ k2,hv,hP⟩
theorem XW.B8 (jt:Nat) {y:Str} {p p':Pos} {rest:List Stmt} {elt tgt iter:Expr} {ifs:List Expr} {gs:List Comprehension} {scope:Scope} {cpos:Pos} {x:Str} {px pp:Pos} {kd:NameKind} {body:Env→Value→Sem Unit} {ws:List Str} {j:Nat} {Q:Fl→List (Option V)→Hp→Prop}
 (S:vG names elt tgt iter ifs gs scope cpos x px pp kd body ws j)
 (h:EW C k names ρ H iter (fun v H₁=>∃vs Hc,bF C k H₁ v vs Hc∧rt C k names ρ scope ws body j H₁.length (H₁++[.L []]) vs Hc (fun H'=>XW C k names (ρ.set jt (some (.ref H₁.length))) H' rest Q)))
 (Co:names[jt]? =some (y,.local)) (hl:p'.line=cpos.line) (hny:(scope.names.any fun(n,k)=>n==y&&(k==.local||k==.cell))=false):
 XW C k names ρ H (.Assign [.Name y p'] (.ListComp elt (⟨tgt,iter,ifs,0⟩::gs) scope cpos) p::rest) Q:=by
 obtain⟨hk,sF,dv,ht,en,i5,hw,BP,hs⟩:=S;refine XW.cons ⟨fun A s ι env hr B L=>?_⟩;have hclos:closureFor scope env=pure (bX env.cells scope.names []):=iE fun y hy=>L.cells y (dv y hy);have hkind:env.kindOf y=some .local:=L.kind Co
 by_cases hsw:env.blockKind=.function
 · have hswap:swapsWith (.ListComp elt (⟨tgt,iter,ifs,0⟩::gs) scope cpos) (some (.Name y p')) p.line env=pure true:=by
    show(pure (env.blockKind==.function&&env.kindOf y==some .local&&p'.line==cpos.line&&!(scope.names.any fun(n,k)=>n==y&&(k==.local||k==.cell))):Sem Bool)=pure true;rw[hsw,hkind,hl,hny];simp
   rw[exec_Assign_Name_used _ _ _ _ hswap];refine wpAny_bind (wpAny_standAt (wpAny_bind ?_));rw[arm_evalThenUse_ListComp];refine wpAny_bind (wpAny_mono (wpAny_comprehension_free (e:=.ListComp elt (⟨tgt,iter,ifs,0⟩::gs) scope cpos) (g:=⟨tgt,iter,ifs,0⟩) (gs:=gs) (cl:=bX env.cells scope.names []) (use:=some (PySem.assign (Expr.Name y p') env)) (Q:=fun _ s'=>jm C names env ι s.heap (Qc C k names rest Q) Flow.next s') rfl (hs env) hclos hk (jQ sF)
    (G.run h hr B L fun v s₁ aj x' H₁ av aK aC k₁ aN aA=>?_)) (fun _ s' hq=>wpAny_pure (wpAny_pure hq)) fun _ _ e=>e)
   obtain⟨vs,Hc,hit,hc⟩:=aA;refine hit.out A s₁ aj v _ hr av aN fun dz h' St hnew hkeep ok hst=>?_;have fr:=av.fresh hnew;have notOwn:¬Own env dz:=fun ow=>by obtain⟨o,ho⟩:=aK.mT _ ow;rw[hnew]at ho;cases ho
   have aQ:Bs C aj H₁ {s₁ with heap:=h'}:=av.turn (fun _=>False) (fun _ x=>x.elim) (fun a u e _=>hkeep a u e) s₁.toks;have bh:Loc C names env ρ aj h':=aK.own fun a o _ e=>hkeep a o e;refine t5 hr aQ bh hk sF dv ok hst fr notOwn ht rfl en i5 hw BP hc ?_ (fun _ _ _ _ h=>h);intro Cl s' bw H' m hCl B' e' k' hm hF hv hne hP;have back:∀a,h'.get? a=none→s₁.heap.get? a=none:=fun a ha=>by
    cases q:s₁.heap.get? a with
    |none=>rfl
    |some o=>rw[hkeep a o q]at ha;cases ha
   have e2:Ext s₁.heap aj bw:=by obtain⟨δ,rfl,oo⟩:=e';exact⟨δ,rfl,fun p hp=>⟨back _ (oo p hp).1,back _ (oo p hp).2⟩⟩
   have k2:Keeps C aj s₁.heap s'.heap:=fun a o ea nf=>by
    have n1:a≠dz:=fun q=>by subst q;rw[hnew]at ea;cases ea
    exact k' a o (hkeep a o ea) n1 nf
   have L':Loc C names env ρ bw s'.heap:=aK.keep e2 k2;have hCo:¬Own env Cl:=fun ow=>by obtain⟨o,ho⟩:=bh.mT _ ow;rw[hCl]at ho;cases ho
   show wpAny _ A (PySem.assign (Expr.Name y p') env (.ref _)) _ _ _;refine wpAny_assign_Name (aH (je B' L' jt Co (.inl rfl) hv fun h3 tk cU fy cW=>?_));have hCk:¬(Cl=env.locals∨env.cells.lookup y=some Cl):=fun q=>hCo (q.elim .inl fun q=>.inr ⟨y,q⟩);obtain⟨oc,hoc⟩:=wR hm;refine⟨m,hm.at' fun o e=>cW _ o e hF.nf hCk,fun uI yL=>?_⟩;have JJ:Bs C bw H' {s' with heap:=uI,toks:=tk}:=cU.turn (· =Cl) (fun a ha=>by subst ha;exact hF) (fun a o e na=>(yL.2 a na).trans e) tk;have Oq:Loc C names env (ρ.set jt (some (.ref H₁.length))) bw uI:=fy.own fun a o ow e=>(yL.2 a (fun q=>hCo (q▸ow))).trans e;have k4:df C aj env s₁.heap uI:=fun a o ea nf nw=>by
    have n2:a≠Cl:=fun q=>by subst q;rw[hkeep _ o ea]at hCl;cases hCl
    exact(yL.2 a n2).trans (cW a o (k2 a o ea nf) (bZ e2 ea nf) fun q=>nw (q.elim .inl fun q=>.inr ⟨y,q⟩))
   exact⟨bw,.next,_,H',JJ,Oq,ee av aC k₁ e2,ba aC k₁.s k4,.next,hP⟩
 · have hswap:swapsWith (.ListComp elt (⟨tgt,iter,ifs,0⟩::gs) scope cpos) (some (.Name y p')) p.line env=pure false:=by
    show(pure (env.blockKind==.function&&env.kindOf y==some .local&&p'.line==cpos.line&&!(scope.names.any fun(n,k)=>n==y&&(k==.local||k==.cell))):Sem Bool)=pure false;have:(env.blockKind==ScopeKind.function)=false:=by simpa using hsw
    rw[this];simp
   have h':EW C k names ρ H (.ListComp elt (⟨tgt,iter,ifs,0⟩::gs) scope cpos) (fun v H₁=>XW C k names (ρ.set jt (some v)) H₁ rest Q):=
    EW.Ar ⟨hk,sF,dv,ht,en,i5,hw,BP,hs⟩ h
   refine wpAny_Assign_Name (G.run h' hr B L fun a s₁ aj v H₁ av aK aC k₁ aN aA=>aH (je av aK jt Co (.inl rfl) aN fun h' tk aQ bh k₂=>?_)) hswap;exact⟨aj,.next,_,H₁,aQ,bh,aC,ba aC k₁.s k₂.s,.next,aA⟩
end
end
section
open PySem.SeqAt
theorem bC.mono {α β:Type} {C:Cx} {ι:Io} {h₀:Heap} {R:Io→β→α→Prop} {Q Q':β→Hp→Prop} {a:α} {s':Shared} (hq:∀b H,Q b H→Q' b H) (h:bC C ι h₀ R Q a s'):bC C ι h₀ R Q' a s':=
 let⟨bw,b,H',hb,he,hk,hr,q⟩:=h;⟨bw,b,H',hb,he,hk,hr,hq _ _ q⟩
theorem FW.mono {C:Cx} {k:Nat} {a:Addr} {args:List V} {H:Hp} {Q Q':V→Hp→Prop} (h:FW C k a args H Q) (hq:∀v H',Q v H'→Q' v H'):FW C k a args H Q':=
 ⟨fun A s ι vs hr B r=>wpAny_mono (h.out A s ι vs hr B r) (fun _ _ p=>p.mono hq) fun _ _ x=>x⟩
theorem dM.le {k k':Nat} {A:Around} (h:dM k' A) (l:k≤k'):dM k A:=⟨h.handled,by have:=h.depth;omega,by have:=h.units;omega⟩
theorem FW.up {C:Cx} {k k':Nat} {a:Addr} {args:List V} {H:Hp} {Q:V→Hp→Prop} (l:k≤k') (h:FW C k a args H Q):FW C k' a args H Q:=
 ⟨fun A s ι vs hr B r=>h.out A s ι vs (hr.le l) B r⟩
theorem FW.make {C:Cx} {k:Nat} {c fI:Addr} {args:List V} {H:Hp} {Q:V→Hp→Prop} (hm:makesIn C.K c=true) (hi:findIn C.K (.ref c) "__init__"=some (some (.ref fI))) (hf:typeIn C.K (.ref fI)=some (.type "function"))
 (h:FC C k fI (.ref H.length::args) (H++[.inst c []]) (fun v H'=>v=.none∧Q (.ref H.length) H')):FW C (k+1) c args H Q:=by
 refine⟨fun A s ι vs hr B r=>wpAny_call ?_⟩;have X:=B.ok.Ih.keeps B.keep;obtain⟨hh,g,d,t,os⟩:=s;refine make_core (makes_of X hm) (looks_findIn X hi) (fun self=>bind_fn X self hf) (.inl rfl) ?_;have h0:hh.get? hh.objs.size=none:=y_ hh;have h1:hh.get? (hh.objs.size+1)=none:=z18 (Nat.le_succ _);have kp:∀b o,hh.get? b=some o→((hh.push emptyDict).push (instObj c hh.objs.size)).get? b=some o:=fun b o e=>z17 _ (z17 _ e);have g0:((hh.push emptyDict).push (instObj c hh.objs.size)).get? hh.objs.size=some emptyDict:=by heap_get
 have g1:((hh.push emptyDict).push (instObj c hh.objs.size)).get? (hh.objs.size+1)=some (instObj c hh.objs.size):=by heap_get
 have av:Bs C (ι++[(hh.objs.size+1,hh.objs.size)]) (H++[.inst c []]) ⟨(hh.push emptyDict).push (instObj c hh.objs.size),g,d,t,os⟩:=
  B.new (hh.objs.size+1,hh.objs.size) (.inst c []) h1 h0 (h':=(hh.push emptyDict).push (instObj c hh.objs.size)) kp ⟨[],0,g1,g0,.nil⟩ ⟨by rw[g1];rfl,by rw[g0];rfl⟩ t
 have hat:(ι++[(hh.objs.size+1,hh.objs.size)])[H.length]? =some (hh.objs.size+1,hh.objs.size):=by rw[←B.sim.len,z10 (z21 _)];simp
 have CH:dM k (A.under (.builtin "type.__call__" ⟨.ref c::vs,[]⟩)):=⟨hr.handled,by have:=hr.depth;rw[depth_under_make];omega,by have:=hr.units;rw[units_under_make];omega⟩;refine codeAny_mono (h.out _ _ _ _ CH av (.cons (.ref (p:=(hh.objs.size+1,hh.objs.size)) hat) (r.mono rfl))) fun r s' hR=>?_;rcases r with e|f
 · exact hR.elim
 cases f with
 |ret v=>
  obtain⟨bw,b,H',B',e',k',rv,rfl,hq⟩:=hR
  cases rv
  obtain⟨ε,lJ,wH⟩:=id e';refine⟨rfl,bw,.ref H.length,H',B',⟨[(hh.objs.size+1,hh.objs.size)]++ε,by rw[lJ,List.append_assoc],fun p hp=>?_⟩,fun a o ea nf=>k' a o (kp a o ea) fun q=>?_,.ref (p:=(hh.objs.size+1,hh.objs.size)) (dm lJ hat),hq⟩
  · rcases List.mem_append.mp hp with hp|hp
    · rw[List.mem_singleton.mp hp];exact⟨h1,h0⟩
    · have back:∀a,((hh.push emptyDict).push (instObj c hh.objs.size)).get? a=none→hh.get? a=none:=fun a ha=>by
       cases q:hh.get? a with
       |none=>rfl
       |some o=>rw[kp a o q]at ha;cases ha
      exact⟨back _ (wH p hp).1,back _ (wH p hp).2⟩
  · obtain⟨f0,p,hp,ep⟩:=q;rcases List.mem_append.mp hp with hp|hp
    · exact nf ⟨f0,p,hp,ep⟩
    · rw[List.mem_singleton.mp hp]at ep;rcases ep with rfl|rfl
      · rw[h1]at ea;cases ea
      · rw[h0]at ea;cases ea
 |_=>exact hR.elim
def tL (C:Cx) (a:Addr):Prop:=(∃o fd,C.aA.get? a=some o∧o.data=.func fd)∨keepIn C.K (.ref a)=true
section
variable {C:Cx} {k:Nat} {names:List (Str×NameKind)} {ρ:List (Option V)} {H:Hp}
theorem EW.Hj (j:Nat) {x:Str} {np pos:Pos} {e:Expr} {es:List Expr} {Q:V→Hp→Prop} (a:Addr) (en:names[j]? =some (x,.globalImplicit)) (hg:C.mg x=some (.ref a)) (hf:tL C a)
 (h:vE C k names ρ H pos (e::es) (fun vs H₁=>FW C k a vs H₁ Q)) (he:∀env,starEach (e::es) env=(false,eval e env)::starEach es env) (hplain:∀env,(backTo pos (starEach es env)).any (·.1)=false)
 (hd:(x==("__debug__":Str))=false):EW C k names ρ H (.Call (.Name x np) (e::es) [] pos) Q:=by
 rcases hf with hf|hf
 · exact EW.Hf j a en hg hf h (by simp) (fun env=>⟨eval e env,backTo pos (starEach es env),by rw[he];rfl⟩) hd
 · refine⟨fun A s ι env hr B L=>?_⟩;refine wpAny_Call_ofName ?_;refine Name_function_global L.hk (L.kind en) (loadGlobal_global (by rw[L.hg];exact B.ok.g.keeps B.keep) hg ?_) hd;refine callWith_K (B.ok.Ih.keeps B.keep) hf (G.run h hr B L fun vs s₁ aj v H₁ av aK aC k₁ aN aA=>⟨B.ok.Ih.keeps av.keep,?_⟩) (he env) (hplain env);exact up av aC k₁ (aA.out A s₁ aj vs hr av aN)
end
section
variable {C:Cx} {k:Nat} {names:List (Str×NameKind)} {ρ:List (Option V)} {H:Hp} {Q:Fl→List (Option V)→Hp→Prop}
theorem XW.B9 (j:Nat) {x:Str} {kd:NameKind} {p p':Pos} {e:Expr} {rest:List Stmt} (h:EW C k names ρ H e (fun v H₁=>XW C k names (ρ.set j (some v)) H₁ rest Q)) (en:names[j]? =some (x,kd)) (hk:kd=.local∨kd=.cell)
 (hs:∀env:Env,env.kindOf x=some kd→swapsWith e (some (.Name x p')) p.line env=pure false):XW C k names ρ H (.Assign [.Name x p'] e p::rest) Q:=by
 refine XW.cons ⟨fun A s ι env hr B L=>?_⟩;refine wpAny_Assign_Name (G.run h hr B L fun a s₁ aj v H₁ av aK aC k₁ aN aA=>aH (je av aK j en hk aN fun h' tk aQ bh k₂=>?_)) (hs env (L.kind en));exact⟨aj,.next,_,H₁,aQ,bh,aC,ba aC k₁.s k₂.s,.next,aA⟩
theorem XW.G_ {e:Expr} {p:Pos} {rest:List Stmt} (h:EW C k names ρ H e (fun v H₁=>v=.none∧XW C k names ρ H₁ rest Q))
 (hs:∀env:Env,swapsWith e none p.line env=pure false):XW C k names ρ H (.Expr e p::rest) Q:=by
 refine XW.cons ⟨fun A s ι env hr B L=>?_⟩;refine wpAny_Expr (G.run h hr B L fun v s₁ aj x H₁ av aK aC k₁ aN aA=>?_) (by unfold interactive;rw[L.hk];rfl) (hs env);obtain⟨rfl,aA⟩:=aA
 cases aN
 exact⟨aj,.next,ρ,H₁,av,aK,aC,k₁.s,.next,aA⟩
theorem XW.B_ {es:List Expr} {x1:Nat} {p p':Pos} {e:Expr} {rest:List Stmt} (js:List Nat) (at_:zt names es js)
 (h:EW C k names ρ H e (fun v H₁=>∃n vs,v=.ref n∧(H₁[n]? =some (.tup vs)∨H₁[n]? =some (.L vs))∧vs.length=es.length∧XW C k names (sets ρ js vs) H₁ rest Q)) (hs:∀env:Env,swapsWithSole [.Tuple es x1 p'] e p.line env=pure false) (hw:∀env:Env,swappedStores [.Tuple es x1 p'] e env=pure none):
 XW C k names ρ H (.Assign [.Tuple es x1 p'] e p::rest) Q:=by
 refine XW.cons ⟨fun A s ι env hr B L=>?_⟩;refine Assign_Tuple (G.run h hr B L fun a s₁ aj v H₁ av aK aC k₁ aN aA=>aH ?_) (hs env) (hw env);obtain⟨n,vs,rfl,ho,hl,hX⟩:=aA;have aw:AW C k names ρ H₁ (.Tuple es x1 p') (.ref n) (fun aO H'=>XW C k names aO H' rest Q):=ho.elim (fun ho=>AW.tup js at_ hl ho hX) fun ho=>AW.Mh js at_ hl ho hX;refine wpAny_mono (aw.out A s₁ aj env a hr av aK aN) (fun _ bH ⟨aP,cT,aB,aQ,bh,aZ,k₂,bp⟩=>?_) fun _ _ x=>x;exact⟨aP,.next,cT,aB,aQ,bh,zQ aC k₁.s (Ka av aC) aK.mT aZ,ba aC k₁.s k₂,.next,bp⟩
end
end
section
open PySem.SeqAt
abbrev Nm:=List (Str×NameKind)
set_option genInjectivity false in
set_option genSizeOf false in
inductive ME where
 |V (j:Nat)|gl (x:Str)|I (i:Int)|bool (b:Bool)|none
 |B (op:Operator) (l r:ME)|un (op:UnaryOp) (e:ME)|cmp (op:CmpOp) (l r:ME)
 |bq (t b o:ME)|tT (x y:ME)|DY (x y:ME)
 |sub (o i:ME)|Gl (o lo hi:ME)|attr (o:ME) (a:Str)
 |L (es:ME)|tup (es:ME)|K (x:Str) (es:ME)
 |app (o e:ME)|index (o e:ME)|count (o e:ME)
 |lc (rn:List (Option Nat)) (j:Nat) (it cond elt:ME)
 |Il (rn:List (Option Nat)) (EU:Nat) (it₁:ME) (EV:Nat) (it₂ elt:ME)
 |N|C (e es:ME)
 |bf (e:ME)|aD (op:CmpOp) (l r:ME)|yf (QC QD:CmpOp) (l aC aZ:ME)|iC (t:ME)|cx (ts:ME)|vD (ts:ME)
instance:Nonempty ME:=⟨.N⟩
set_option genInjectivity false in
set_option genSizeOf false in
inductive MS where
 |N
 |asg (j:Nat) (e:ME) (r:MS)|nu (js:List Nat) (e:ME) (r:MS)|aug (j:Nat) (op:Operator) (e:ME) (r:MS)
 |cN (o i e:ME) (r:MS)|cG (o i:ME) (op:Operator) (e:ME) (r:MS)
 |setattr (o:ME) (a:Str) (e:ME) (r:MS)|hO (o:ME) (a:Str) (op:Operator) (e:ME) (r:MS)
 |expr (e:ME) (r:MS)|ret (e:ME)|brk|cont|raise
 |bq (t:ME) (b o r:MS)|Du (t:ME) (b r:MS)|bP (j:Nat) (it:ME) (b r:MS)|rY (js:List Nat) (it:ME) (b r:MS)
instance:Nonempty MS:=⟨.N⟩
def Cx.rv (C:Cx) (x:Str):Value:=(C.mg x).getD ((bootBuiltins x).getD .none)
def aa (C:Cx) (k:Nat) (x:Str) (vs:List V) (H:Hp) (Q:V→Hp→Prop):Prop:=cR C k (C.rv x) vs H Q
def eO (C:Cx) (x:Str):Prop:=
 (∃a,C.mg x=some (.ref a)∧tL C a)∨(∃id,C.mg x=Option.none∧bootBuiltins x=some (.builtin id)∧x≠"__name__")∨(∃T,C.mg x=Option.none∧bootBuiltins x=some (.type T)∧x≠"__name__")
def calls:List Str:=[Str.ofString "range",Str.ofString "len",Str.ofString "min",Str.ofString "max",Str.ofString "abs",Str.ofString "list",Str.ofString "count_bits",Str.ofString "more_than_one",Str.ofString "highest",Str.ofString "lowest",Str.ofString "squares_of",Str.ofString "side_of",Str.ofString "kind_of",Str.ofString "direction",Str.ofString "between",Str.ofString "line",Str.ofString "Geometry",Str.ofString "is_growing",Str.ofString "add_masks",Str.ofString "inner_squares",Str.ofString "add_rays",Str.ofString "add_pawns",Str.ofString "add_knights",Str.ofString "add_castles",Str.ofString "make_geometry",Str.ofString "ray_attacks",Str.ofString "rook_attacks",Str.ofString "bishop_attacks",Str.ofString "queen_attacks",Str.ofString "slider_attacks",Str.ofString "piece_attacks",Str.ofString "Position",Str.ofString "put_piece",Str.ofString "occupied",Str.ofString "pieces",Str.ofString "king_square",Str.ofString "straight_sliders",Str.ofString "slanting_sliders",Str.ofString "snipers_of",Str.ofString "blockers",Str.ofString "own_rank",Str.ofString "from_edge",Str.ofString "wrap_half",Str.ofString "divide",Str.ofString "make_score",Str.ofString "mg_of",Str.ofString "pawns_of",Str.ofString "shift_up",Str.ofString "neighbours",Str.ofString "pawn_attacks",Str.ofString "nearest_rank",Str.ofString "shelter_file",Str.ofString "shelter",Str.ofString "AttackMap",Str.ofString "rank_board",Str.ofString "seen_stops",Str.ofString "piece_reach",Str.ofString "attack_map",Str.ofString "attack_maps",Str.ofString "area_of",Str.ofString "mobility_bonus",Str.ofString "mobility_score",Str.ofString "off_edge",Str.ofString "king_ring",Str.ofString "guarded_ring",Str.ofString "ring_attackers",Str.ofString "weak_squares",Str.ofString "check_danger",Str.ofString "flank_files",Str.ofString "flank_squares",Str.ofString "storm_count",Str.ofString "king_danger",Str.ofString "king_score",Str.ofString "Zobrist",Str.ofString "_law_board",Str.ofString "_law_position",Str.ofString "_law_bits",Str.ofString "_law_ray",Str.ofString "_law_hops",Str.ofString "_law_shields",Str.ofString "_law_reach",Str.ofString "_law_looks",Str.ofString "_law_area",Str.ofString "_law_cut",Str.ofString "_law_near",Str.ofString "_law_cover",Str.ofString "_law_moving",Str.ofString "_law_checking",Str.ofString "_law_ring",Str.ofString "_law_danger",Str.ofString "_law_side"]
def bV (C:Cx) (x:Str) (v:V):Prop:=∃v',C.mg x=some v'∧VR C.jd v v'
def aW (rn:List (Option Nat)) (ρ:List (Option V)):List (Option V):=rn.map fun|some i=>(ρ[i]?).join|Option.none=>Option.none
inductive FP (C:Cx) (x:Str) (H:Hp) (Q:V→Hp→Prop):Prop|mk (v:V) (h:bV C x v) (q:Q v H):FP C x H Q
inductive Jj (x:V) (H:Hp) (W:Prop):Prop|mk (n:Nat) (xs:List V) (e:x=.ref n) (h:H[n]? =some (.L xs)) (w:W):Jj x H W
inductive JP (x:V) (H:Hp) (a b:Option Int) (Q:V→Hp→Prop):Prop|mk (n:Nat) (xs:List V) (e:x=.ref n) (h:H[n]? =some (.L xs)) (l:xs.length≤1000) (q:Q (.ref H.length) (H++[.L (q5 xs a b)])):JP x H a b Q
structure Br (c:Bool) (A B:Prop):Prop where
 t:c=true→A
 f:c=false→B
inductive My (v:V) (H:Hp) (Q:Option Int→Hp→Prop):Prop|mk (i:Int) (e:v=.I i) (q:Q (some i) H):My v H Q
structure Ox (v:V) (W:Prop):Prop where
 e:v=.none
 w:W
abbrev Kv:=V→Hp→Prop
abbrev Kb:=Bool→Hp→Prop
abbrev Kx:=Fl→List (Option V)→Hp→Prop
abbrev Wv:=Hp→Kv→Prop
section
variable (C:Cx) (k:Nat)
abbrev K0 (op:Operator) (x:V) (Q:Kv):Kv:=fun y H=>BW C k H op x y Q
abbrev HZ (op:Operator) (W:Wv) (Q:Kv):Kv:=fun x H=>W H (K0 C k op x Q)
abbrev PZ (op:UnaryOp) (Q:Kv):Kv:=fun x H=>UW C k H op x Q
abbrev K1 (op:CmpOp) (x:V) (Q:Kv):Kv:=fun y H=>CW C k H op x y Q
abbrev K2 (op:CmpOp) (W:Wv) (Q:Kv):Kv:=fun x H=>W H (K1 C k op x Q)
abbrev K4 (W W':Wv) (Q:Kv):Kb:=fun c H=>Br c (W H Q) (W' H Q)
abbrev KY (W:Wv) (Q:Kv) (v:V):Kb:=fun c H=>Br c (W H Q) (Q v H)
abbrev KZ (W:Wv) (Q:Kv):Kv:=fun v H=>bk C k H v (KY W Q v)
abbrev K5 (W:Wv) (Q:Kv) (v:V):Kb:=fun c H=>Br c (Q v H) (W H Q)
abbrev PY (W:Wv) (Q:Kv):Kv:=fun v H=>bk C k H v (K5 W Q v)
abbrev K6 (x:V) (Q:Kv):Kv:=fun y H=>cz C k H x y Q
abbrev K7 (W:Wv) (Q:Kv):Kv:=fun x H=>W H (K6 C k x Q)
abbrev HX (a:Str) (Q:Kv):Kv:=fun x H=>eM C k H x a Q
abbrev Ic (Q:Kv):List V→Hp→Prop:=fun vs H=>vs.length≤1000∧Q (.ref H.length) (H++[.L vs])
abbrev K9 (Q:Kv):List V→Hp→Prop:=fun vs H=>vs.length≤1000∧Q (.ref H.length) (H++[.tup vs])
abbrev H_ (x:Str) (Q:Kv):List V→Hp→Prop:=fun vs H=>aa C k x vs H Q
abbrev K3 (v:V) (Q:List V→Hp→Prop):List V→Hp→Prop:=fun vs H=>Q (v::vs) H
abbrev Ia (W:Hp→(List V→Hp→Prop)→Prop) (Q:List V→Hp→Prop):Kv:=fun v H=>W H (K3 v Q)
abbrev K' (Q:Kb):Kv:=fun v H=>bk C k H v Q
abbrev K8 (op:CmpOp) (x:V) (Q:Kb):Kv:=fun y H=>CW C k H op x y (K' C k Q)
abbrev NH (op:CmpOp) (W:Wv) (Q:Kb):Kv:=fun x H=>W H (K8 C k op x Q)
abbrev Ie (Q:Kb):Kb:=fun b H=>Q (!b) H
abbrev NI (W:Hp→Kb→Prop) (Q:Kb):Kb:=fun b H=>Br b (W H Q) (Q false H)
abbrev K_ (W:Hp→Kb→Prop) (Q:Kb):Kb:=fun b H=>Br b (Q true H) (W H Q)
abbrev CK (j:Nat) (ρ:List (Option V)) (W:List (Option V)→Hp→Kx→Prop) (Q:Kx):Kv:=fun v H=>W (ρ.set j (some v)) H Q
abbrev HY (op:Operator) (u:V) (K:Kv):Kv:=fun v H=>IW C k H op u v K
abbrev Ib (ρ:List (Option V)) (W:List (Option V)→Hp→Kx→Prop) (Q:Kx):Kv:=fun v H=>Ox v (W ρ H Q)
abbrev Ig (ρ:List (Option V)) (Q:Kx):Kv:=fun v H=>Q (.ret v) ρ H
end
mutual
noncomputable def wE (C:Cx) (k:Nat):ME→List (Option V)→Hp→(V→Hp→Prop)→Prop
 |.V j,ρ,H,Q=>match ρ[j]? with|some (some v)=>Q v H|_=>False
 |.gl x,_,H,Q=>FP C x H Q
 |.I i,_,H,Q=>Q (.I i) H
 |.bool b,_,H,Q=>Q (.bool b) H
 |.none,_,H,Q=>Q .none H
 |.B op l r,ρ,H,Q=>wE C k l ρ H (HZ C k op (wE C k r ρ) Q)
 |.un op e,ρ,H,Q=>wE C k e ρ H (PZ C k op Q)
 |.cmp op l r,ρ,H,Q=>wE C k l ρ H (K2 C k op (wE C k r ρ) Q)
 |.bq t b o,ρ,H,Q=>wT C k t ρ H (K4 (wE C k b ρ) (wE C k o ρ) Q)
 |.tT x y,ρ,H,Q=>wE C k x ρ H (KZ C k (wE C k y ρ) Q)
 |.DY x y,ρ,H,Q=>wE C k x ρ H (PY C k (wE C k y ρ) Q)
 |.sub o i,ρ,H,Q=>wE C k o ρ H (K7 C k (wE C k i ρ) Q)
 |.Gl o lo hi,ρ,H,Q=>wE C k o ρ H fun x H₁=>wP C k lo ρ H₁ fun a aB=>wP C k hi ρ aB fun b bc=>JP x bc a b Q
 |.attr o a,ρ,H,Q=>wE C k o ρ H (HX C k a Q)
 |.L es,ρ,H,Q=>wA C k es ρ H (Ic Q)
 |.tup es,ρ,H,Q=>wA C k es ρ H (K9 Q)
 |.K x es,ρ,H,Q=>wA C k es ρ H (H_ C k x Q)
 |.app o e,ρ,H,Q=>wE C k o ρ H fun x H₁=>Jj x H₁ (wE C k e ρ H₁ fun v aB=>cR C k (.builtin "list.append") [x,v] aB Q)
 |.index o e,ρ,H,Q=>wE C k o ρ H fun x H₁=>Jj x H₁ (wE C k e ρ H₁ fun v aB=>cR C k (.builtin "list.index") [x,v] aB Q)
 |.count o e,ρ,H,Q=>wE C k o ρ H fun x H₁=>Jj x H₁ (wE C k e ρ H₁ fun v aB=>cR C k (.builtin "list.count") [x,v] aB Q)
 |.lc rn j it cond elt,ρ,H,Q=>wE C k it ρ H fun v H₁=>∃vs Hc,bF C k H₁ v vs Hc∧∃I:Nat→List (Option V)→Hp→Prop,I 0 (aW rn ρ) (H₁++[.L []])∧
  (∀i v aO H',vs[i]? =some v→I i aO H'→Hc H'∧wT C k cond (aO.set j (some v)) H' fun b aB=>
   (b=true→wE C k elt (aO.set j (some v)) aB fun y bc=>∃acc,bc[H₁.length]? =some (.L acc)∧acc.length≤1000∧I (i+1) (aO.set j (some v)) (bc.set H₁.length (.L (acc++[y]))))∧(b=false→I (i+1) (aO.set j (some v)) aB))∧
  (∀aO H',I vs.length aO H'→Hc H'∧Q (.ref H₁.length) H')
 |.Il rn EU it₁ EV it₂ elt,ρ,H,Q=>wE C k it₁ ρ H fun v H₁=>∃vs Hc,bF C k H₁ v vs Hc∧∃I:Nat→List (Option V)→Hp→Prop,I 0 (aW rn ρ) (H₁++[.L []])∧
  (∀i v aO H',vs[i]? =some v→I i aO H'→Hc H'∧∃us Hd,∃J:Nat→List (Option V)→Hp→Prop,(wE C k it₂ (aO.set EU (some v)) H' fun w aB=>bF C k aB w us Hd∧J 0 (aO.set EU (some v)) aB)∧
   (∀i' u cT bc,us[i']? =some u→J i' cT bc→Hd bc∧wE C k elt (cT.set EV (some u)) bc fun y bN=>∃acc,bN[H₁.length]? =some (.L acc)∧acc.length≤1000∧J (i'+1) (cT.set EV (some u)) (bN.set H₁.length (.L (acc++[y]))))∧
   (∀cT bc,J us.length cT bc→Hd bc∧I (i+1) cT bc))∧
  (∀aO H',I vs.length aO H'→Hc H'∧Q (.ref H₁.length) H')
 |.N,_,_,_=>False
 |.C _ _,_,_,_=>False
 |.bf _,_,_,_=>False
 |.aD _ _ _,_,_,_=>False
 |.yf _ _ _ _ _,_,_,_=>False
 |.iC _,_,_,_=>False
 |.cx _,_,_,_=>False
 |.vD _,_,_,_=>False
noncomputable def wP (C:Cx) (k:Nat):ME→List (Option V)→Hp→(Option Int→Hp→Prop)→Prop
 |.N,_,H,Q=>Q Option.none H
 |.C e _,ρ,H,Q=>wE C k e ρ H fun v H₁=>My v H₁ Q
 |_,_,_,_=>False
noncomputable def wA (C:Cx) (k:Nat):ME→List (Option V)→Hp→(List V→Hp→Prop)→Prop
 |.N,_,H,Q=>Q [] H
 |.C e es,ρ,H,Q=>wE C k e ρ H (Ia (wA C k es ρ) Q)
 |_,_,_,_=>False
noncomputable def wT (C:Cx) (k:Nat):ME→List (Option V)→Hp→(Bool→Hp→Prop)→Prop
 |.N,_,H,Q=>Q true H
 |.bf e,ρ,H,Q=>wE C k e ρ H (K' C k Q)
 |.aD op l r,ρ,H,Q=>wE C k l ρ H (NH C k op (wE C k r ρ) Q)
 |.yf o1 o2 l e1 e2,ρ,H,Q=>wE C k l ρ H fun x H₁=>wE C k e1 ρ H₁ fun y aB=>CW C k aB o1 x y fun v bc=>bk C k bc v fun b bN=>
  Br b (wE C k e2 ρ bN fun z fX=>CW C k fX o2 y z fun v mj=>bk C k mj v Q) (Q false bN)
 |.iC t,ρ,H,Q=>wT C k t ρ H (Ie Q)
 |.cx ts,ρ,H,Q=>qv C k ts ρ H Q
 |.vD ts,ρ,H,Q=>zk C k ts ρ H Q
 |_,_,_,_=>False
noncomputable def qv (C:Cx) (k:Nat):ME→List (Option V)→Hp→(Bool→Hp→Prop)→Prop
 |.N,_,H,Q=>Q true H
 |.C t ts,ρ,H,Q=>wT C k t ρ H (NI (qv C k ts ρ) Q)
 |_,_,_,_=>False
noncomputable def zk (C:Cx) (k:Nat):ME→List (Option V)→Hp→(Bool→Hp→Prop)→Prop
 |.N,_,H,Q=>Q false H
 |.C t ts,ρ,H,Q=>wT C k t ρ H (K_ (zk C k ts ρ) Q)
 |_,_,_,_=>False
end
def wX (C:Cx) (k:Nat):MS→List (Option V)→Hp→(Fl→List (Option V)→Hp→Prop)→Prop
 |.N,ρ,H,Q=>Q .next ρ H
 |.asg j e r,ρ,H,Q=>wE C k e ρ H (CK j ρ (wX C k r) Q)
 |.nu js e r,ρ,H,Q=>wE C k e ρ H fun v H₁=>∃n vs,v=.ref n∧(H₁[n]? =some (.tup vs)∨H₁[n]? =some (.L vs))∧vs.length=js.length∧wX C k r (sets ρ js vs) H₁ Q
 |.aug j op e r,ρ,H,Q=>∃u,ρ[j]? =some (some u)∧wE C k e ρ H (HY C k op u (CK j ρ (wX C k r) Q))
 |.cN o i e r,ρ,H,Q=>wE C k e ρ H fun v H₁=>wE C k o ρ H₁ fun x aB=>wE C k i ρ aB fun y bc=>iV C k bc x y v fun bN=>wX C k r ρ bN Q
 |.cG o i op e r,ρ,H,Q=>wE C k o ρ H fun x H₁=>wE C k i ρ H₁ fun y aB=>cz C k aB x y fun old bc=>wE C k e ρ bc fun v bN=>IW C k bN op old v fun w fX=>iV C k fX x y w fun mj=>wX C k r ρ mj Q
 |.setattr o a e r,ρ,H,Q=>wE C k e ρ H fun v H₁=>wE C k o ρ H₁ fun x aB=>pB C k aB x a v fun bN=>wX C k r ρ bN Q
 |.hO o a op e r,ρ,H,Q=>wE C k o ρ H fun x H₁=>eM C k H₁ x a fun old aB=>wE C k e ρ aB fun v bc=>IW C k bc op old v fun w bN=>pB C k bN x a w fun fX=>wX C k r ρ fX Q
 |.expr e r,ρ,H,Q=>wE C k e ρ H (Ib ρ (wX C k r) Q)
 |.ret e,ρ,H,Q=>wE C k e ρ H (Ig ρ Q)
 |.brk,ρ,H,Q=>Q .brk ρ H
 |.cont,ρ,H,Q=>Q .cont ρ H
 |.raise,_,_,_=>False
 |.bq t b o r,ρ,H,Q=>wT C k t ρ H fun c H₁=>(c=true→wX C k b ρ H₁ fun fl aO H'=>match fl with|.next=>wX C k r aO H' Q|fl=>Q fl aO H')∧(c=false→wX C k o ρ H₁ fun fl aO H'=>match fl with|.next=>wX C k r aO H' Q|fl=>Q fl aO H')
 |.Du t b r,ρ,H,Q=>∃(I:Nat→List (Option V)→Hp→Prop) (n:Nat),I n ρ H∧∀n ρ H,I n ρ H→wT C k t ρ H fun c H₁=>
  (c=true→wX C k b ρ H₁ fun fl aO H'=>match fl with|.next=>∃m,m<n∧I m aO H'|.cont=>∃m,m<n∧I m aO H'|.brk=>wX C k r aO H' Q|.ret v=>Q (.ret v) aO H')∧(c=false→wX C k r ρ H₁ Q)
 |.bP j it b r,ρ,H,Q=>wE C k it ρ H fun v H₁=>∃(xs:List V) (Hc:Hp→Prop) (I:Nat→List (Option V)→Hp→Prop),bF C k H₁ v xs Hc∧I 0 ρ H₁∧
  (∀i x ρ H,xs[i]? =some x→I i ρ H→Hc H∧wX C k b (ρ.set j (some x)) H fun fl aO H'=>match fl with|.next=>I (i+1) aO H'|.cont=>I (i+1) aO H'|.brk=>wX C k r aO H' Q|.ret v=>Q (.ret v) aO H')∧
  (∀ρ H,I xs.length ρ H→Hc H∧wX C k r ρ H Q)
 |.rY js it b r,ρ,H,Q=>wE C k it ρ H fun v H₁=>∃(xs:List V) (Hc:Hp→Prop) (I:Nat→List (Option V)→Hp→Prop),bF C k H₁ v xs Hc∧I 0 ρ H₁∧
  (∀i x ρ H,xs[i]? =some x→I i ρ H→Hc H∧∃n vs,x=.ref n∧H[n]? =some (.tup vs)∧vs.length=js.length∧wX C k b (sets ρ js vs) H fun fl aO H'=>match fl with|.next=>I (i+1) aO H'|.cont=>I (i+1) aO H'|.brk=>wX C k r aO H' Q|.ret v=>Q (.ret v) aO H')∧
  (∀ρ H,I xs.length ρ H→Hc H∧wX C k r ρ H Q)
def c7 (ns:Nm) (x:Str):Option (Nat×NameKind):=match ns.findIdx? (fun p=>p.1==x)with|some j=>(ns[j]?).map fun p=>(j,p.2)|Option.none=>Option.none
def ly (x:Str):Bool:=!(x==("__debug__":Str))&&!(x==("__classdict__":Str))
def notStar:Expr→Bool|.Starred .. =>false|_=>true
def kh:Expr→Bool|.Call _ [] _ _=>false|_=>true
def uR (ns:Nm) (x:Str):Option Nat:=(c7 ns x).bind fun p=>if p.2==.local||p.2==.cell then some p.1 else Option.none
def IE (ns:Nm):Expr→Option Nat|.Name x _=>uR ns x|_=>Option.none
def lhs (ns:Nm):List Expr→Option (List Nat)
 |[]=>some []
 |e::es=>(IE ns e).bind fun j=>(lhs ns es).bind fun js=>some (j::js)
def y8 (ns sn:Nm):List (Option Nat):=sn.map fun p=>if p.2==.free then ns.findIdx? (fun q=>q.1==p.1)else Option.none
def kM (ns:Nm) (sc:Scope) (targets:List Str):Bool:=
 sc.kind==.function&&decide ((sc.names.map (·.1)).Nodup)&&sc.names.all (fun p=>!(p.2==.free)||ns.contains (p.1,.cell))&&targets.all (fun t=>!(sc.names.contains (t,.free)))
def g9:Expr→Bool|.Set .. =>false|_=>true
abbrev Oe:=Expr→Option ME
def sA (f:Oe):List Expr→Option ME
 |[]=>some .N
 |e::es=>if notStar e then(f e).bind fun a=>(sA f es).bind fun b=>some (.C a b)else Option.none
def sB (f:Oe):List Expr→Option ME
 |[]=>some .N
 |e::es=>(f e).bind fun a=>(sB f es).bind fun b=>some (.C a b)
def sI (f:Oe):List Expr→Option ME
 |[]=>some .N
 |c::cs=>if cs.isEmpty then f c else Option.none
def sP (f:Oe):Option Expr→Option ME
 |Option.none=>some .N
 |some e=>(f e).bind fun a=>some (.C a .N)
def QS (ns:Nm) (x:Str):Option ME:=if ly x then(c7 ns x).bind fun p=>if p.2==.local||p.2==.cell||p.2==.free then some (.V p.1)else if p.2==.globalImplicit then some (.gl x)else Option.none else Option.none
def QQ:Const→Option ME
 |.int i=>some (.I i)
 |.bool b=>some (.bool b)
 |.none=>some .none
 |_=>Option.none
def N8 (f:Oe) (l:Expr):List CmpOp→List Expr→Option ME
 |[op],[r]=>if behindInMarks op r then Option.none else(f l).bind fun a=>(f r).bind fun b=>some (.cmp op a b)
 |_,_=>Option.none
def N7 (f:Oe) (op:BoolOp):List Expr→Option ME
 |[x,y]=>(f x).bind fun a=>(f y).bind fun b=>some (match op with|.And=>.tT a b|.Or=>.DY a b)
 |_=>Option.none
def eA:Expr→Bool|.Slice .. =>false|_=>true
def QT (f:Oe) (v:Expr):Expr→Option ME
 |.Slice lo hi st _=>if st.isSome then Option.none else(f v).bind fun a=>(sP f lo).bind fun b=>(sP f hi).bind fun c=>some (.Gl a b c)
 |_=>Option.none
def Mc (f:Oe) (v i:Expr):Option ME:=if eA i then(f v).bind fun a=>(f i).bind fun b=>some (.sub a b)else QT f v i
def Ma (f:Oe) (ns:Nm) (pos:Pos) (args:List Expr):Expr→Option ME
 |.Name x _=>if ly x&&calls.contains x&&!args.isEmpty then(c7 ns x).bind fun p=>if p.2==.globalImplicit then(sA f args).bind fun a=>some (.K x a)else Option.none else Option.none
 |.Attribute o m apos=>match args with
  |[elt]=>if kh o&&notStar elt&&apos.endLine==pos.line then(f o).bind fun a=>(f elt).bind fun b=>
   if m==("append":Str)then some (.app a b)else if m==("index":Str)then some (.index a b)else if m==("count":Str)then some (.count a b)else Option.none
   else Option.none
  |_=>Option.none
 |_=>Option.none
def CV:Expr→Option Str|.Name x _=>some x|_=>Option.none
def Mb (f g:Nm→Oe) (ns:Nm) (elt:Expr) (sc:Scope):List Comprehension→Option ME
 |[c]=>(CV c.target).bind fun x=>if c.is_async==0&&kM ns sc [x]&&g9 c.iter then(uR (d4 ns sc.names) x).bind fun j=>
  (f ns c.iter).bind fun a=>(sI (g (d4 ns sc.names)) c.ifs).bind fun b=>(f (d4 ns sc.names) elt).bind fun d=>some (.lc (y8 ns sc.names) j a b d)else Option.none
 |[c,c']=>(CV c.target).bind fun x=>(CV c'.target).bind fun y=>if c.is_async==0&&c'.is_async==0&&c.ifs.isEmpty&&c'.ifs.isEmpty&&kM ns sc [x,y]&&g9 c.iter&&g9 c'.iter then
  (c7 (d4 ns sc.names) x).bind fun p=>(c7 (d4 ns sc.names) y).bind fun q=>if p.2==.local&&q.2==.local then
   (f ns c.iter).bind fun a=>(f (d4 ns sc.names) c'.iter).bind fun b=>(f (d4 ns sc.names) elt).bind fun d=>some (.Il (y8 ns sc.names) p.1 a q.1 b d)else Option.none
  else Option.none
 |_=>Option.none
def N9 (f:Oe) (l:Expr):List CmpOp→List Expr→Option ME
 |[op],[r]=>if behindInMarks op r then Option.none else(f l).bind fun a=>(f r).bind fun b=>some (.aD op a b)
 |[o1,o2],[e1,e2]=>if behindInMarks o2 e2 then Option.none else(f l).bind fun a=>(f e1).bind fun b=>(f e2).bind fun c=>some (.yf o1 o2 a b c)
 |_,_=>Option.none
def HT:UnaryOp→Bool|.Not=>true|_=>false
mutual
noncomputable def sE:Nat→Nm→Expr→Option ME
 |0,_,_=>Option.none
 |n+1,ns,e=>match e with
  |.Name x _=>QS ns x
  |.Constant c _ _=>QQ c
  |.BinOp l op r _=>(sE n ns l).bind fun a=>(sE n ns r).bind fun b=>some (.B op a b)
  |.UnaryOp op x _=>(sE n ns x).bind fun a=>some (.un op a)
  |.Compare l ops cs _=>N8 (sE n ns) l ops cs
  |.IfExp t b o _=>(sT n ns t).bind fun t=>(sE n ns b).bind fun b=>(sE n ns o).bind fun o=>some (.bq t b o)
  |.BoolOp op es _=>N7 (sE n ns) op es
  |.Attribute v a _=>if kh v then(sE n ns v).bind fun v=>some (.attr v a)else Option.none
  |.Subscript v i _=>Mc (sE n ns) v i
  |.List es _=>(sA (sE n ns) es).bind fun a=>some (.L a)
  |.Tuple es _ _=>(sA (sE n ns) es).bind fun a=>some (.tup a)
  |.Call f args kws pos=>if kws.isEmpty then Ma (sE n ns) ns pos args f else Option.none
  |.ListComp elt gens sc _=>Mb (sE n) (sT n) ns elt sc gens
  |_=>Option.none
noncomputable def sT:Nat→Nm→Expr→Option ME
 |0,_,_=>Option.none
 |n+1,ns,e=>match e with
  |.Compare l ops cs _=>N9 (sE n ns) l ops cs
  |.UnaryOp op x _=>if HT op then(sT n ns x).bind fun a=>some (.iC a)else Option.none
  |.BoolOp op es _=>(sB (sT n ns) es).bind fun a=>some (match op with|.And=>.cx a|.Or=>.vD a)
  |.Name x p=>(sE n ns (.Name x p)).bind fun a=>some (.bf a)
  |.BinOp l op r p=>(sE n ns (.BinOp l op r p)).bind fun a=>some (.bf a)
  |.Attribute v a p=>(sE n ns (.Attribute v a p)).bind fun a=>some (.bf a)
  |.Subscript v i p=>(sE n ns (.Subscript v i p)).bind fun a=>some (.bf a)
  |.Call f a kw p=>(sE n ns (.Call f a kw p)).bind fun a=>some (.bf a)
  |.ListComp a b c d=>(sE n ns (.ListComp a b c d)).bind fun a=>some (.bf a)
  |_=>Option.none
end
def m9:Expr→Bool
 |.Name .. |.Constant .. |.BinOp .. |.UnaryOp .. |.Compare .. |.IfExp .. |.BoolOp .. |.Attribute .. |.Subscript .. |.List .. |.Tuple .. |.Call .. =>true
 |_=>false
def qy:Expr→Bool|.Call .. |.Subscript .. =>true|_=>false
def isCall:Expr→Bool|.Call .. =>true|_=>false
def Ik (x:Str) (p':Pos):Expr→Bool
 |.ListComp _ gens sc cpos=>gens.length==1&&p'.line==cpos.line&&!(sc.names.any fun(n,k)=>n==x&&(k==.local||k==.cell))
 |_=>false
def N5 (f:Oe) (ns:Nm) (e:Expr) (R:Option MS):Expr→Option MS
 |.Name x p'=>(c7 ns x).bind fun q=>if q.2==.local&&(m9 e||Ik x p' e)||q.2==.cell then(f e).bind fun a=>R.bind fun r=>some (.asg q.1 a r)else Option.none
 |.Tuple es _ _=>if qy e then(lhs ns es).bind fun js=>(f e).bind fun a=>R.bind fun r=>some (.nu js a r)else Option.none
 |.Attribute o a _=>if m9 e then(f o).bind fun o=>(f e).bind fun e=>R.bind fun r=>some (.setattr o a e r)else Option.none
 |.Subscript o i _=>if m9 e&&eA i then(f o).bind fun o=>(f i).bind fun i=>(f e).bind fun e=>R.bind fun r=>some (.cN o i e r)else Option.none
 |_=>Option.none
def N6 (f:Oe) (ns:Nm) (op:Operator) (e:Expr) (R:Option MS):Expr→Option MS
 |.Name x _=>if ly x then(uR ns x).bind fun j=>(f e).bind fun a=>R.bind fun r=>some (.aug j op a r)else Option.none
 |.Attribute o a _=>(f o).bind fun o=>(f e).bind fun e=>R.bind fun r=>some (.hO o a op e r)
 |.Subscript o i _=>if eA i then(f o).bind fun o=>(f i).bind fun i=>(f e).bind fun e=>R.bind fun r=>some (.cG o i op e r)else Option.none
 |_=>Option.none
def QR (f:Oe) (ns:Nm) (it:Expr) (B R:Option MS):Expr→Option MS
 |.Name x _=>(uR ns x).bind fun j=>(f it).bind fun a=>B.bind fun b=>R.bind fun r=>some (.bP j a b r)
 |.Tuple es _ _=>(lhs ns es).bind fun js=>(f it).bind fun a=>B.bind fun b=>R.bind fun r=>some (.rY js a b r)
 |_=>Option.none
def sX:Nat→Nm→List Stmt→Option MS
 |0,_,_=>Option.none
 |n+1,ns,ss=>match ss with
  |[]=>some .N
  |s::r=>match s with
   |.Assign ts e _=>match ts with
    |[t]=>N5 (sE n ns) ns e (sX n ns r) t
    |_=>Option.none
   |.AugAssign t op e _=>N6 (sE n ns) ns op e (sX n ns r) t
   |.Expr e _=>if isCall e then(sE n ns e).bind fun a=>(sX n ns r).bind fun r=>some (.expr a r)else Option.none
   |.Return e _=>e.bind fun e=>(sE n ns e).bind fun a=>some (.ret a)
   |.Break _=>some .brk
   |.Continue _=>some .cont
   |.Raise _ _ _=>some .raise
   |.If t b o _=>(sT n ns t).bind fun t=>(sX n ns b).bind fun b=>(sX n ns o).bind fun o=>(sX n ns r).bind fun r=>some (.bq t b o r)
   |.While t b o _=>if o.isEmpty then(sT n ns t).bind fun t=>(sX n ns b).bind fun b=>(sX n ns r).bind fun r=>some (.Du t b r)else Option.none
   |.For t it b o _=>if o.isEmpty&&g9 it then QR (sE n ns) ns it (sX n ns b) (sX n ns r) t else Option.none
   |_=>Option.none
end
section
open PySem.SeqAt
set_option tactic.hygienic true in
theorem cA {ns:Nm} {x:Str} {j:Nat} {kd:NameKind} (h:c7 ns x=some (j,kd)):ns[j]? =some (x,kd):=by
 injection ns x j kd with h
 unfold c7 at h
 split at h
 · rename_i i hi
   obtain(⟨hlt,hp,_⟩):=List.findIdx?_eq_some_iff_getElem.mp hi;rw[z05 hlt]at h;simp only[Option.map_some,Option.some.injEq,Prod.mk.injEq]at h;obtain(⟨rfl,rfl⟩):=h;rw[z05 hlt];have:ns[i].1=x:=by simpa using hp
   rw[←this]
 · cases h
theorem oS {x:Str} (h:ly x=true):(x==("__debug__":Str))=false∧(x==("__classdict__":Str))=false:=by
 simpa [ly] using h
inductive Mr {α β:Type} (o:Option α) (f:α→Option β) (m:β):Prop|mk (a:α) (e:o=some a) (h:f a=some m):Mr o f m
theorem bs {α β:Type} {o:Option α} {f:α→Option β} {m:β} (h:o.bind f=some m):Mr o f m:=let⟨a,e,q⟩:=Option.bind_eq_some_iff.mp h;⟨a,e,q⟩
theorem nn {α:Type} {m:α} {p:Prop} (h:Option.none=some m):p:=nomatch h
theorem fb {C:Cx} {k:Nat} {ρ:List (Option V)} {H:Hp} {Q:V→Hp→Prop} {a m:ME} (h:some a=some m) (w:wE C k m ρ H Q):wE C k a ρ H Q:=Option.some.inj h▸w
theorem pU {C:Cx} {k:Nat} {ρ:List (Option V)} {H:Hp} {Q:Bool→Hp→Prop} {a m:ME} (h:some a=some m) (w:wT C k m ρ H Q):wT C k a ρ H Q:=Option.some.inj h▸w
theorem gM {C:Cx} {k:Nat} {ρ:List (Option V)} {H:Hp} {Q:Fl→List (Option V)→Hp→Prop} {a m:MS} (h:some a=some m) (w:wX C k m ρ H Q):wX C k a ρ H Q:=Option.some.inj h▸w
theorem m8 {e:Expr} {x:Str} (h:CV e=some x):∃q,e=.Name x q:=by
 cases e with
 |Name y q=>exact⟨q,by cases h;rfl⟩
 |_=>exact nn h
theorem ifs {α:Type} {c:Bool} {o:Option α} {m:α} (h:(if c=true then o else Option.none)=some m):c=true∧o=some m:=by cases c<;>first|exact nn h|exact⟨rfl,h⟩
theorem JA {α:Type} {c:Bool} {o:Option α} {m:α} (h:(if c=true then Option.none else o)=some m):c=false∧o=some m:=by cases c<;>first|exact nn h|exact⟨rfl,h⟩
theorem gO {ns:Nm} {x:Str} {j:Nat} (h:uR ns x=some j):∃kd,c7 ns x=some (j,kd)∧(kd=.local∨kd=.cell):=by
 obtain⟨⟨i,kd⟩,e,h⟩:=bs h;obtain⟨hk,h⟩:=ifs h;have:=Option.some.inj h;subst this;exact⟨kd,e,by simpa using hk⟩
theorem sZ {ns:Nm}:∀{es:List Expr} {js:List Nat},lhs ns es=some js→zt ns es js
 |[],js,h=>by have:=Option.some.inj h;subst this;exact .nil
 |e::es,js,h=>by
  obtain⟨j,h1,h⟩:=bs h;obtain⟨RD,h2,h⟩:=bs h;have:=Option.some.inj h;subst this
  cases e with
  |Name x p=>obtain⟨kd,h3,h4⟩:=gO h1;exact .cons (cA h3) h4 (sZ h2)
  |_=>exact nn h1
theorem ik {e:Expr} {es:List Expr} (h:notStar e=true) (env:Env):starEach (e::es) env=(false,eval e env)::starEach es env:=by
 cases e<;>first|rfl|exact(z22 h).elim
theorem x9 {f:Expr→Option ME}:∀{es:List Expr} {m:ME},sA f es=some m→∀e∈es,notStar e=true
 |[],_,_,e,he=>by cases he
 |x::es,m,h,e,he=>by
  obtain⟨hx,h⟩:=ifs h;obtain⟨a,_,h⟩:=bs h;obtain⟨b,hb,_⟩:=bs h;rcases List.mem_cons.mp he with rfl|he
  · exact hx
  · exact x9 hb e he
theorem oX (pos:Pos):∀{es:List Expr},(∀e∈es,notStar e=true)→∀env,(backTo pos (starEach es env)).any (·.1)=false
 |[],_,_=>rfl
 |e::es,h,env=>by
  rw[ik (h e List.mem_cons_self)];show(false||(backTo pos (starEach es env)).any (·.1))=false;rw[oX pos (fun x hx=>h x (z14 _ hx))];rfl
theorem rE {o:Expr} (h:kh o=true) (a:Str) (env:Env) (t:Sem Value):attributeBase o a env t=t:=by
 cases o with
 |Call f args kws pos=>cases args with
  |nil=>exact(z22 h).elim
  |cons x xs=>cases f<;>rfl
 |_=>rfl
theorem qD (ns sn:Nm) (ρ:List (Option V)):aW (y8 ns sn) ρ=qC ns ρ sn:=by
 unfold aW y8 qC;rw[List.map_map];refine z26 fun p _=>?_;simp only[Function.comp]
 cases h:p.2==NameKind.free with
 |false=>simp
 |true=>
  simp only[if_true];unfold Ll
  cases ns.findIdx? (fun q=>q.1==p.1)<;>rfl
theorem fN {it:Expr} (h:g9 it=true):∀(env:Env) (x:Value),foldedSetIterable it env x=pure x:=by
 injection it with h
 rintro-env x;unfold foldedSetIterable
 cases it<;>first|rfl|exact(z22 h).elim
theorem zg {prog:Program} {w:World} {A:Around} {E:Value→Shared→Prop} {s:Shared} {env:Env} {value:Expr} {lower upper:Option Expr} {p pos:Pos} {T id:String} {Q:Value→Shared→Prop}
 (hl:typeLookup (.type T) "__getitem__"=pure (some (.builtin id)))
 (h:wpAny (model prog w) A (eval value env) (fun o s₁=>wpAny (model prog w) A (eval (.Slice lower upper none p) env) (fun i bH=>bH.TypeIs o T∧wpAny (model prog w) A (getItem o i) Q E bH) E s₁) E s):
 wpAny (model prog w) A (eval (.Subscript value (.Slice lower upper none p) pos) env) Q E s:=by
 rw[eval_Subscript];refine wpAny_bind (wpAny_mono h (fun o s₁ aA=>wpAny_bind (wpAny_holding (wpAny_mono aA (fun i bH bp=>wpAny_bind (wpAny_standAt ?_)) fun _ _ x=>x)))
  fun _ _ x=>x)
 have fin:wpAny (model prog w) A (operate [i,o] (getItem o i)) (fun r gI=>wpAny (model prog w) A (letTemporaryGo value o r>>=fun _=>pure r) Q E gI) E bH:=
  wpAny_operating (wpAny_mono bp.2 (fun r gI i7=>wpAny_bind (wpAny_letTemporaryGo (wpAny_pure i7))) fun _ _ x=>x)
 first
  | (refine wpAny_bind ?_
     rw[getitemInPython_of_ne bp.1.not_modules];refine wpAny_bind (wpAny_specialOf bp.1 hl ?_)
     first
      |exact wpAny_pure (wpAny_bind fin)
      |exact wpAny_bind (wpAny_pure (wpAny_bind fin))
      |exact wpAny_bind fin)
  | (refine wpAny_bind (wpAny_specialOf bp.1 hl ?_)
     first
      |exact wpAny_bind (wpAny_pure (wpAny_bind fin))
      |exact wpAny_bind fin)
section
variable {C:Cx} {k:Nat} {names:List (Str×NameKind)} {ρ:List (Option V)} {H:Hp} {Q:V→Hp→Prop}
theorem EW.Fz {value:Expr} {lower upper:Option Expr} {p pos:Pos}
 (h:EW C k names ρ H value (fun x H₁=>jl C k names ρ H₁ lower (fun lo aB=>jl C k names ρ aB upper (fun hi bc=>JP x bc lo hi Q)))):
 EW C k names ρ H (.Subscript value (.Slice lower upper Option.none p) pos) Q:=by
 refine⟨fun A s ι env hr B L=>?_⟩;refine zg (T:="list") list_getitem_lookup (G.run h hr B L fun a s₁ aj x H₁ av aK aC k₁ aN aA=>aH (wpAny_Slice (G.run aA hr av aK fun b bH aP lo aB aQ bh aZ k₂ b9 bp=>aH (G.run bp hr aQ bh fun c gI eE hi bc cU fy dt cW o_ i7=>?_))));obtain⟨n,xs,rfl,hx,hz,hq⟩:=i7;obtain⟨rj,dC,_⟩:=id aZ;obtain⟨D8,kQ,_⟩:=id dt;obtain⟨q,rfl,DM,us,hL,hus⟩:=bj cU ((aN.mono dC).mono kQ) hx;have hsz:=size_le hus;rw[evalPart_none];have hl:=hL.isList;refine wpAny_pure ⟨(hl.push _).typeIs,wpAny_getItem_list_slice (hl.push _) (Heap.IsSliceOf.new ..) b9 o_ .none (by simp) ?_ (by rw[sizeLine_eq];omega)⟩;have nE:=ee av aC k₁ aZ;have oy:=kk aC k₁ k₂;have yt:=ee aQ nE oy dt;have yP:=kk nE oy cW;have Gv:=cU.push {cls:=.type "slice",data:=.fields #[b,c,.none]};exact kj (s₁:={gI with heap:=gI.heap.push {cls:=.type "slice",data:=.fields #[b,c,.none]}}) Gv yt (yP.push _) {cls:=.type "list",data:=.seq (slicePick us lo hi Option.none)} (.L (q5 xs lo hi)) rfl (fun h' hg=>⟨_,⟨_,hg⟩,by
  unfold slicePick q5;rw[hsz];have:=ph hus (sliceRange (sliceBounds lo hi Option.none xs.length).1 (sliceBounds lo hi Option.none xs.length).2.1 (sliceBounds lo hi Option.none xs.length).2.2);simp only[Array.getElem?_toList]at this;exact this.mono rfl⟩) hq
end
end
section
open PySem.SeqAt
section
variable {C:Cx} {k:Nat}
def zw (C:Cx) (k:Nat) (n:Nat):Prop:=∀ns e m ρ H Q,sE n ns e=some m→wE C k m ρ H Q→EW C k ns ρ H e Q
def B2 (C:Cx) (k:Nat) (n:Nat):Prop:=∀ns e m ρ H Q,sT n ns e=some m→wT C k m ρ H Q→TW C k ns ρ H e Q
theorem EW.mono {names:Nm} {ρ:List (Option V)} {H:Hp} {e:Expr} {Q Q':V→Hp→Prop} (h:EW C k names ρ H e Q) (hq:∀v H',Q v H'→Q' v H'):EW C k names ρ H e Q':=
 ⟨fun A s ι env hr B L=>wpAny_mono (h.out A s ι env hr B L) (fun _ _ p=>p.mono hq) fun _ _ x=>x⟩
theorem TW.mono {names:Nm} {ρ:List (Option V)} {H:Hp} {e:Expr} {Q Q':Bool→Hp→Prop} (h:TW C k names ρ H e Q) (hq:∀v H',Q v H'→Q' v H'):TW C k names ρ H e Q':=
 ⟨fun A s ι env hr B L=>wpAny_mono (h.out A s ι env hr B L) (fun _ _ p=>p.mono hq) fun _ _ x=>x⟩
theorem fin {α:Type} {P:α→Prop} {a m:α} (h:some a=some m) (w:P m):P a:=Option.some.inj h▸w
theorem nh {n:Nat} (ih:zw C k n) {ns:Nm} {pos:Pos}:∀(es:List Expr) (m:ME) (ρ:List (Option V)) (H:Hp) (Q:List V→Hp→Prop),sA (sE n ns) es=some m→wA C k m ρ H Q→vE C k ns ρ H pos es Q
 |[],m,ρ,H,Q,h,w=>by
  replace w:=fin (P:=fun m=>wA C k m ρ H Q) h w;exact vE.nil w
 |e::es,m,ρ,H,Q,h,w=>by
  obtain⟨hs,h⟩:=ifs h;obtain⟨a,ha,h⟩:=bs h;obtain⟨b,hb,h⟩:=bs h;replace w:=fin (P:=fun m=>wA C k m ρ H Q) h w;exact vE.cons (EW.mono (ih _ _ _ _ _ _ ha w) fun v H₁ xq=>nh ih es b ρ H₁ _ hb xq) (ik hs)
theorem q7 {n:Nat} (ih:B2 C k n) {ns:Nm}:∀(es:List Expr) (m:ME) (ρ:List (Option V)) (H:Hp) (Q:Bool→Hp→Prop),sB (sT n ns) es=some m→qv C k m ρ H Q→gK C k ns ρ H .And es Q
 |[],m,ρ,H,Q,h,w=>by
  replace w:=fin (P:=fun m=>qv C k m ρ H Q) h w;exact gK.Eg w
 |e::es,m,ρ,H,Q,h,w=>by
  obtain⟨a,ha,h⟩:=bs h;obtain⟨b,hb,h⟩:=bs h;replace w:=fin (P:=fun m=>qv C k m ρ H Q) h w;exact gK.and (TW.mono (ih _ _ _ _ _ _ ha w) fun v H₁ xq=>⟨fun c=>q7 ih es b ρ H₁ _ hb (xq.1 c),xq.2⟩)
theorem vi {n:Nat} (ih:B2 C k n) {ns:Nm}:∀(es:List Expr) (m:ME) (ρ:List (Option V)) (H:Hp) (Q:Bool→Hp→Prop),sB (sT n ns) es=some m→zk C k m ρ H Q→gK C k ns ρ H .Or es Q
 |[],m,ρ,H,Q,h,w=>by
  replace w:=fin (P:=fun m=>zk C k m ρ H Q) h w;exact gK.II w
 |e::es,m,ρ,H,Q,h,w=>by
  obtain⟨a,ha,h⟩:=bs h;obtain⟨b,hb,h⟩:=bs h;replace w:=fin (P:=fun m=>zk C k m ρ H Q) h w;exact gK.or (TW.mono (ih _ _ _ _ _ _ ha w) fun v H₁ xq=>⟨xq.1,fun c=>vi ih es b ρ H₁ _ hb (xq.2 c)⟩)
theorem yb {n:Nat} (ih:zw C k n) {ns:Nm} {e:Option Expr} {m:ME} {ρ:List (Option V)} {H:Hp} {Q:Option Int→Hp→Prop} (h:sP (sE n ns) e=some m) (w:wP C k m ρ H Q):jl C k ns ρ H e Q:=by
 cases e with
 |none=>
  replace w:=fin (P:=fun m=>wP C k m ρ H Q) h w;exact jl.no w
 |some e=>
  obtain⟨a,ha,h⟩:=bs h;replace w:=fin (P:=fun m=>wP C k m ρ H Q) h w;exact jl.int (EW.mono (ih _ _ _ _ _ _ ha w) (by rintro _ _ ⟨i,e,q⟩;exact⟨i,e,q⟩))
theorem Di {n:Nat} (ih:B2 C k n) {ns:Nm} {ifs:List Expr} {m:ME} {ρ:List (Option V)} {H:Hp} {Q:Bool→Hp→Prop} (h:sI (sT n ns) ifs=some m) (w:wT C k m ρ H Q):vH C k ns ρ H ifs Q:=by
 cases ifs with
 |nil=>
  replace w:=fin (P:=fun m=>wT C k m ρ H Q) h w;exact vH.nil w
 |cons c cs=>
  cases cs with
  |nil=>exact vH.one (ih _ _ _ _ _ _ h w)
  |cons _ _=>exact nn h
theorem vH.mono {names:Nm} {ρ:List (Option V)} {H:Hp} {ifs:List Expr} {Q Q':Bool→Hp→Prop} (h:vH C k names ρ H ifs Q) (hq:∀v H',Q v H'→Q' v H'):vH C k names ρ H ifs Q':=
 ⟨fun A s ι env hr B L=>wpAny_mono (h.out A s ι env hr B L) (fun _ _ p=>p.mono hq) fun _ _ x=>x⟩
theorem xg (hR:∀x,calls.contains x=true→eO C x) {n:Nat} (ih:zw C k n) {ns:Nm} {x:Str} {np pos:Pos} {e:Expr} {es:List Expr} {j:Nat} {m:ME} {ρ:List (Option V)} {H:Hp} {Q:V→Hp→Prop} (ok:ly x=true) (hc:calls.contains x=true) (en:c7 ns x=some (j,.globalImplicit))
 (h:sA (sE n ns) (e::es)=some m) (w:wA C k m ρ H fun vs H₁=>aa C k x vs H₁ Q):EW C k ns ρ H (.Call (.Name x np) (e::es) [] pos) Q:=by
 have hst:=x9 h;have he:=ik (es:=es) (hst e List.mem_cons_self);have hp:=oX pos (es:=es) fun y hy=>hst y (z14 _ hy);have hd:=(oS ok).1;have Co:=cA en;have key:vE C k ns ρ H pos (e::es) (fun vs H₁=>aa C k x vs H₁ Q):=nh ih _ _ _ _ _ h w;rcases hR x hc with⟨a,e1,c⟩|⟨id,e1,e2,e3⟩|⟨T,e1,e2,e3⟩
 · have hv:C.rv x=.ref a:=by unfold Cx.rv;rw[e1];rfl
   unfold aa at key;rw[hv]at key;exact EW.Hj j a Co e1 c ⟨fun A s ι env hr B L=>wpAny_mono (key.out A s ι env hr B L) (fun _ _ p=>p.mono fun _ _ q=>⟨q.out⟩) fun _ _ x=>x⟩ he hp hd
 · have hv:C.rv x=.builtin id:=by unfold Cx.rv;rw[e1,e2];rfl
   unfold aa at key;rw[hv]at key;exact EW.GN j id Co e1 e2 e3 key he hp hd
 · have hv:C.rv x=.type T:=by unfold Cx.rv;rw[e1,e2];rfl
   unfold aa at key;rw[hv]at key;exact EW.I3 j T Co e1 e2 e3 key he hp hd
theorem xx {ns:Nm} {sc:Scope} {targets:List Str} (h:kM ns sc targets=true):sc.kind=.function∧(sc.names.map (·.1)).Nodup∧(∀x,(x,NameKind.free)∈sc.names→(x,NameKind.cell)∈ns)∧(∀t∈targets,(t,NameKind.free)∉sc.names):=by
 injection ns sc targets with h
 unfold kM at h;simp only[z01,beq_iff_eq,z00,List.all_eq_true,Bool.or_eq_true,Bool.not_eq_true',List.contains_iff_mem]at h;obtain⟨⟨⟨h1,h2⟩,h3⟩,h4⟩:=h;refine⟨h1,h2,?_,?_⟩
 · rintro-x hx;rcases h3 _ hx with q|q
   · simp at q
   · exact q
 · rintro-t ht hm;have:=h4 t ht;rw[List.contains_eq_mem]at this;simp[hm]at this
theorem Bs.T {C:Cx} {ι:Io} {H:Hp} {s:Shared} (B:Bs C ι H s):C.T≤H.length:=by
 obtain⟨δ,e⟩:=B.sim.jd;rw[←B.sim.len,e,z12];exact Nat.le_add_right _ _
theorem EW.D6 {names:Nm} {ρ:List (Option V)} {H:Hp} {e:Expr} {Q:V→Hp→Prop} (h:EW C k names ρ H e Q):EW C k names ρ H e (fun v H'=>C.T≤H'.length∧Q v H'):=
 ⟨fun A s ι env hr B L=>wpAny_mono (h.out A s ι env hr B L) ((by rintro _ _ ⟨bw,b,H',hb,he,hk,hR,q⟩;exact⟨bw,b,H',hb,he,hk,hR,hb.T,q⟩)) fun _ _ x=>x⟩
theorem aR {α β:Type} {m:Sem α} {f g:α→Sem β} (h:∀a,f a=g a):(m>>=f)=(m>>=g):=by
 have:f=g:=funext h;rw[this]
theorem I6 (elt it:Expr) (ifs:List Expr) (sc:Scope) (cpos px:Pos) (x:Str):jg (.ListComp elt (⟨.Name x px,it,ifs,0⟩::[]) sc cpos) 0 x px it.pos (nB ifs elt):=by
 injection elt it ifs sc cpos px x;rintro-i acc env;rw[compTurn_list];refine aR ?_;rintro-_;refine aR ?_;rintro-r
 cases r with
 |none=>rfl
 |some v=>
  refine aR ?_;rintro-_;refine aR ?_;rintro-_;show(d1 ifs env>>=_)=((d1 ifs env>>=_)>>=_);rw[bind_assoc];refine aR ?_;rintro-ok
  cases ok<;>rfl
theorem vh {n:Nat} (ihE:zw C k n) (ihT:B2 C k n) {ns:Nm} {elt it:Expr} {ifs:List Expr} {sc:Scope} {cpos px:Pos} {x:Str} {j:Nat} {kd:NameKind} {mi mc me:ME} {ρ:List (Option V)} {H:Hp} {Q:V→Hp→Prop}
 (ok:kM ns sc [x]=true) (hs:g9 it=true) (en:c7 (d4 ns sc.names) x=some (j,kd)) (i5:kd=.local∨kd=.cell)
 (h1:sE n ns it=some mi) (h2:sI (sT n (d4 ns sc.names)) ifs=some mc) (h3:sE n (d4 ns sc.names) elt=some me) (w:wE C k (.lc (y8 ns sc.names) j mi mc me) ρ H Q):
 ∃pp,vG ns elt (.Name x px) it ifs [] sc cpos x px pp kd (nB ifs elt) [x] j∧
  EW C k ns ρ H it (fun v H₁=>∃vs Hc,bF C k H₁ v vs Hc∧rt C k ns ρ sc [x] (nB ifs elt) j H₁.length (H₁++[.L []]) vs Hc (fun H'=>Q (.ref H₁.length) H')):=by
 obtain⟨c1,c2,c3,c4⟩:=xx ok;refine⟨it.pos,⟨c1,c2,c3,I6 elt it ifs sc cpos px x,cA en,i5,List.mem_singleton.mpr rfl,c4,fN hs⟩,?_⟩;refine EW.mono (EW.D6 (ihE _ _ _ _ _ _ h1 w)) fun v H₁ ⟨hn,vs,Hc,hit,I,h0,turn,done⟩=>⟨vs,Hc,hit,I,by rw[←qD];exact h0,fun i v aO H' hv hI=>?_,done⟩;obtain⟨hc,wt⟩:=turn i v aO H' hv hI;refine⟨hc,BJ.one hn (vH.mono (Di ihT h2 wt) fun b aB hb=>⟨fun e=>EW.mono (ihE _ _ _ _ _ _ h3 (hb.1 e)) fun y bc h=>h,hb.2⟩)⟩
theorem FK (elt it sG:Expr) (sc:Scope) (cpos px py:Pos) (x y:Str):jg (.ListComp elt (⟨.Name x px,it,[],0⟩::⟨.Name y py,sG,[],0⟩::[]) sc cpos) 1 y py sG.pos (nB [] elt):=by
 injection elt it sG sc cpos px py x y;rintro-i acc env;unfold compTurn;refine aR ?_;rintro-_;refine aR ?_;rintro-r
 cases r with
 |none=>rfl
 |some v=>
  refine aR ?_;rintro-_;refine aR ?_;rintro-_;unfold nB d1;simp only[List.forIn_nil,pure_bind,if_true,bind_assoc]
  rfl
theorem FJ (elt it sG:Expr) (sc:Scope) (cpos px py:Pos) (x y:Str):jg (.ListComp elt (⟨.Name x px,it,[],0⟩::⟨.Name y py,sG,[],0⟩::[]) sc cpos) 0 x px it.pos (tY [] (.ListComp elt (⟨.Name x px,it,[],0⟩::⟨.Name y py,sG,[],0⟩::[]) sc cpos) 1 sG):=by
 injection elt it sG sc cpos px py x y;rintro-i acc env;unfold compTurn;refine aR ?_;rintro-_;refine aR ?_;rintro-r
 cases r with
 |none=>rfl
 |some v=>
  refine aR ?_;rintro-_;refine aR ?_;rintro-_;unfold tY d1;simp only[List.forIn_nil,pure_bind,if_true,bind_assoc]
  rfl
theorem zd {n:Nat} (ihE:zw C k n) {ns:Nm} {elt it sG:Expr} {sc:Scope} {cpos px py:Pos} {x y:Str} {j j':Nat} {mi NR me:ME} {ρ:List (Option V)} {H:Hp} {Q:V→Hp→Prop}
 (ok:kM ns sc [x,y]=true) (hs:g9 it=true) (lh:g9 sG=true) (en:c7 (d4 ns sc.names) x=some (j,.local)) (Co:c7 (d4 ns sc.names) y=some (j',.local))
 (h1:sE n ns it=some mi) (h2:sE n (d4 ns sc.names) sG=some NR) (h3:sE n (d4 ns sc.names) elt=some me) (w:wE C k (.Il (y8 ns sc.names) j mi j' NR me) ρ H Q):
 EW C k ns ρ H (.ListComp elt (⟨.Name x px,it,[],0⟩::⟨.Name y py,sG,[],0⟩::[]) sc cpos) Q:=by
 obtain⟨c1,c2,c3,c4⟩:=xx ok;refine EW.Ar (ws:=[x,y]) (x:=x) (px:=px) (pp:=it.pos) (kd:=.local) (j:=j) (body:=tY [] (.ListComp elt (⟨.Name x px,it,[],0⟩::⟨.Name y py,sG,[],0⟩::[]) sc cpos) 1 sG) ⟨c1,c2,c3,FJ elt it sG sc cpos px py x y,cA en,.inl rfl,by simp,c4,fN hs⟩ ?_;refine EW.mono (EW.D6 (ihE _ _ _ _ _ _ h1 w)) fun v H₁ ⟨hn,vs,Hc,hit,I,h0,turn,done⟩=>⟨vs,Hc,hit,I,by rw[←qD];exact h0,fun i v aO H' hv hI=>?_,done⟩;obtain⟨hc,us,Hd,J,w2,t2,d2⟩:=turn i v aO H' hv hI;refine⟨hc,BJ.two (FK elt it sG sc cpos px py x y) us Hd J j' (cA Co) (.inl rfl) (by simp) (vH.nil ⟨rfl,ihE _ _ _ _ _ _ h2 w2⟩) (fun i' u cT bc hu hJ=>?_) (fun cT bc h=>d2 cT bc h) (fN lh) rfl⟩;obtain⟨hd,w3⟩:=t2 i' u cT bc hu hJ;exact⟨hd,BJ.one hn (vH.nil ⟨fun _=>ihE _ _ _ _ _ _ h3 w3,fun e=>by cases e⟩)⟩
end
end
section
open PySem.SeqAt
section
variable {C:Cx} {k:Nat}
theorem CS {o elt:Expr} {name:Str} {apos pos:Pos} (h0:kh o=true) (hl:(apos.endLine==pos.line)=true) (hst:∀env,backTo pos (starEach [elt] env)=[(false,eval elt env)]) (env:Env):
 eval (.Call (.Attribute o name apos) [elt] [] pos) env=(do
  let ov←eval o env
  standAt apos.atName
  let(f,first)←holding [ov] (getMethod ov name (do return(←importBound o env).getD true))
  callWith pos f first (backTo pos (starEach [elt] env)) (backToKw pos (keywordEach [] env))):=by
 injection o elt name apos pos env with h0 hl hst
 rw[arm_eval_Call,rE h0];unfold methodCall calleeOf methodCallPos;rw[hst];have hf:methodCallForm (([elt]:List Expr).length+([]:List Keyword).length) [(false,eval elt env)] (backToKw pos (keywordEach [] env))=true:=rfl;rw[hf];simp only[if_true,hl,Bool.not_true,Bool.false_or,pure_bind]
theorem Fo {i:Expr} (h:eA i=true):∀o j,subscripted i false o j=operate [o,j] (getItem o j):=by
 cases i<;>first|exact fun _ _=>rfl|exact(z22 h).elim
theorem Fn {e:Expr} (h:eA e=false):Ex4 fun lo hi st q=>e=.Slice lo hi st q:=by
 cases e with
 |Slice lo hi st q=>exact⟨lo,hi,st,q,rfl⟩
 |_=>exact(z22 h.symm).elim
theorem C_ {f:Oe} {ns:Nm} {pos:Pos} {args:List Expr} {g:Expr} {m:ME} (h:Ma f ns pos args g=some m):(Ex2 fun x np=>g=.Name x np)∨Ex3 fun o mth ap=>g=.Attribute o mth ap:=by
 cases g with
 |Name x np=>exact .inl ⟨x,np,rfl⟩
 |Attribute o m ap=>exact .inr ⟨o,m,ap,rfl⟩
 |_=>exact nn h
theorem Dh (hR:∀x,calls.contains x=true→eO C x) {n:Nat} (ihE:zw C k n) (ihT:B2 C k n):zw C k (n+1):=by
 intro ns e m ρ H Q h w
 cases e with
 |Name x p=>
  injection C k n ns m ρ H Q x p with hR ihE ihT w h
  replace h:=ifs h;obtain(⟨ok,h⟩):=h;have nd:=oS ok;replace h:=bs h;obtain⟨⟨j,kd⟩,e1,h⟩:=h;injection j kd with e1 h
  have e1:=cA e1;dsimp only at h
  by_cases hk:(kd==.local||kd==.cell||kd==.free)=true
  · rw[if_pos hk]at h;replace w:=fb h w;replace w:(match ρ[j]? with|some (some v)=>Q v H|_=>False):=w
    cases hv:ρ[j]? with
    |none=>rw[hv]at w;exact w.elim
    |some o=>
     cases o with
     |none=>rw[hv]at w;exact w.elim
     |some v=>rw[hv]at w;exact EW.name j e1 hv w (by cases kd<;>first|decide|cases hk) nd.1 nd.2
  · rw[if_neg hk]at h;replace h:=ifs h;obtain(⟨hg,h⟩):=h;replace w:=fb h w;obtain(⟨v,hv,w⟩):=w;have hg:kd=.globalImplicit:=eq_of_beq hg;subst hg;exact EW.glob j e1 hv w nd.1
 |Constant c u p=>
  injection C k n ns m ρ H Q c u p with hR ihE ihT w h
  cases c with
  |none=>replace w:=fb h w;exact EW.none w
  |bool b=>replace w:=fb h w;exact EW.bool w
  |int i=>replace w:=fb h w;exact EW.int w
  |_=>exact nn h
 |BinOp l op r p=>
  injection C k n ns m ρ H Q l op r p with hR ihE ihT w h
  replace h:=bs h;obtain(⟨a,ha,h⟩):=h;replace h:=bs h;obtain(⟨b,hb,h⟩):=h;replace w:=fb h w;exact EW.binop (EW.mono (ihE _ _ _ _ _ _ ha w) fun _ _ w=>ihE _ _ _ _ _ _ hb w)
 |UnaryOp op x p=>
  injection C k n ns m ρ H Q op x p with hR ihE ihT w h
  replace h:=bs h;obtain(⟨a,ha,h⟩):=h;replace w:=fb h w;exact EW.unary (ihE _ _ _ _ _ _ ha w)
 |Compare l ops cs p=>
  injection C k n ns m ρ H Q l ops cs p with hR ihE ihT w h
  replace h:N8 (sE n ns) l ops cs=some m:=h;rcases ops with _|⟨op,_|⟨NZ,ops⟩⟩<;>rcases cs with _|⟨r,_|⟨r2,cs⟩⟩<;>first|exact nn h|skip
  injection op r with h
  replace h:=JA h;obtain(⟨hm,h⟩):=h;replace h:=bs h;obtain(⟨a,ha,h⟩):=h;replace h:=bs h;obtain(⟨b,hb,h⟩):=h;replace w:=fb h w;exact EW.cmp (EW.mono (ihE _ _ _ _ _ _ ha w) fun _ _ w=>ihE _ _ _ _ _ _ hb w) hm
 |IfExp t b o p=>
  injection C k n ns m ρ H Q t b o p with hR ihE ihT w h
  replace h:=bs h;obtain(⟨a,ha,h⟩):=h;replace h:=bs h;obtain(⟨b',hb,h⟩):=h;replace h:=bs h;obtain(⟨c,hc,h⟩):=h;replace w:=fb h w;exact EW.bq (TW.mono (ihT _ _ _ _ _ _ ha w) fun _ _ w=>⟨fun e=>ihE _ _ _ _ _ _ hb (w.1 e),fun e=>ihE _ _ _ _ _ _ hc (w.2 e)⟩)
 |BoolOp op es p=>
  injection C k n ns m ρ H Q op es p with hR ihE ihT w h
  replace h:N7 (sE n ns) op es=some m:=h;rcases es with _|⟨x,_|⟨y,_|⟨z,es⟩⟩⟩<;>first|exact nn h|skip
  injection x y with h
  replace h:=bs h;obtain(⟨a,ha,h⟩):=h;replace h:=bs h;obtain(⟨b',hb,h⟩):=h;replace w:=fb h w
  cases op
  · refine EW.tT (EW.mono (ihE _ _ _ _ _ _ ha w) fun _ _ w=>?_);exact⟨fun A s ι v hr B r=>wpAny_mono (w.out A s ι v hr B r) (fun _ _ p=>p.mono fun _ _ q=>⟨fun e=>ihE _ _ _ _ _ _ hb (q.1 e),q.2⟩) fun _ _ x=>x⟩
  · refine EW.DY (EW.mono (ihE _ _ _ _ _ _ ha w) fun _ _ w=>?_);exact⟨fun A s ι v hr B r=>wpAny_mono (w.out A s ι v hr B r) (fun _ _ p=>p.mono fun _ _ q=>⟨q.1,fun e=>ihE _ _ _ _ _ _ hb (q.2 e)⟩) fun _ _ x=>x⟩
 |Attribute v a p=>
  injection C k n ns m ρ H Q v a p with hR ihE ihT w h
  replace h:=ifs h;obtain(⟨hb,h⟩):=h;replace h:=bs h;obtain(⟨m',ha,h⟩):=h;replace w:=fb h w;exact EW.attr (ihE _ _ _ _ _ _ ha w) (rE hb a)
 |Subscript v i p=>
  injection C k n ns m ρ H Q v i p with hR ihE ihT w h
  replace h:Mc (sE n ns) v i=some m:=h;unfold Mc at h
  cases hn:eA i with
  |true=>
   rw[hn,if_pos rfl]at h;replace h:=bs h;obtain(⟨m',ha,h⟩):=h;replace h:=bs h;obtain(⟨b',hb,h⟩):=h;replace w:=fb h w;exact EW.sub (EW.mono (ihE _ _ _ _ _ _ ha w) fun _ _ w=>ihE _ _ _ _ _ _ hb w) (Fo hn)
  |false=>
   rw[hn,if_neg z22]at h;obtain(⟨lo,hi,st,q,rfl⟩):=Fn hn;replace h:=JA h;obtain(⟨hst,h⟩):=h
   cases st with
   |some _=>cases hst
   |none=>
    replace h:=bs h;obtain(⟨m',ha,h⟩):=h;replace h:=bs h;obtain(⟨b',hb,h⟩):=h;replace h:=bs h;obtain(⟨c,hc,h⟩):=h;replace w:=fb h w;refine EW.Fz (EW.mono (ihE _ _ _ _ _ _ ha w) fun _ _ w=>?_);have:=yb ihE hb w;exact⟨fun A s ι env hr B L=>wpAny_mono (this.out A s ι env hr B L) (fun _ _ p=>p.mono fun _ _ q=>yb ihE hc q) fun _ _ x=>x⟩
 |List es p=>
  injection C k n ns m ρ H Q es p with hR ihE ihT w h
  replace h:=bs h;obtain(⟨a,ha,h⟩):=h;replace w:=fb h w;exact EW.list (nh ihE _ _ _ _ _ ha w)
 |Tuple es x1 p=>
  injection C k n ns m ρ H Q es x1 p with hR ihE ihT w h
  replace h:=bs h;obtain(⟨a,ha,h⟩):=h;replace w:=fb h w;exact EW.tuple (nh ihE _ _ _ _ _ ha w)
 |Call f args kws pos=>
  injection C k n ns m ρ H Q f args kws pos with hR ihE ihT w h
  replace h:=ifs h;obtain(⟨hkw,h⟩):=h
  cases kws with
  |cons _ _=>cases hkw
  |nil=>
  rcases C_ h with⟨x,np,rfl⟩|⟨o,mth,apos,rfl⟩
  · injection x np with h
    replace h:=ifs h;obtain(⟨ok,h⟩):=h;simp only[z01]at ok;obtain⟨⟨y3,CZ⟩,C0⟩:=ok;replace h:=bs h;obtain⟨⟨j,kd⟩,e1,h⟩:=h;injection j kd with e1 h
    replace h:=ifs h;obtain(⟨hg,h⟩):=h;have hg:kd=.globalImplicit:=eq_of_beq hg;subst hg;replace h:=bs h;obtain(⟨a,ha,h⟩):=h;replace w:=fb h w
    cases args with
    |nil=>cases C0
    |cons e es=>exact xg hR ihE y3 CZ e1 ha w
  · injection o mth apos with h
    replace h:Ma (sE n ns) ns pos args (.Attribute o mth apos)=some m:=h;rcases args with _|⟨elt,_|⟨_,_⟩⟩<;>first|exact nn h|skip
    injection elt with h
    replace h:=ifs h;obtain(⟨ok,h⟩):=h;simp only[z01]at ok;have hst:∀env,backTo pos (starEach [elt] env)=[(false,eval elt env)]:=fun env=>by rw[ik ok.1.2];rfl
    have hl:=ok.2;have he:=CS (o:=o) (elt:=elt) (name:=mth) (apos:=apos) (pos:=pos) ok.1.1 ok.2 hst;replace h:=bs h;obtain(⟨a,ha,h⟩):=h;replace h:=bs h;obtain(⟨b,hb,h⟩):=h
    cases h1:mth==("append":Str)with
    |true=>
     rw[h1,if_pos rfl]at h;replace w:=fb h w;have:=eq_of_beq h1;subst this;refine EW.append (EW.mono (ihE _ _ _ _ _ _ ha w) (by rintro x H₁ ⟨n',xs,h1,h2,w⟩;exact⟨n',xs,h1,h2,ihE _ _ _ _ _ _ hb w⟩)) (fun env=>rE ok.1.1 _ _ _) ?_ hl hst;intro env;rw[hst];rfl
    |false=>
     rw[h1,if_neg z22]at h
     cases h2:mth==("index":Str)with
     |true=>
      rw[h2,if_pos rfl]at h;replace w:=fb h w;have:=eq_of_beq h2;subst this;exact EW.DR "list.index" PySem.F.slot_list_index ∅ (EW.mono (ihE _ _ _ _ _ _ ha w) (by rintro x H₁ ⟨n',xs,h1,h2,w⟩;exact⟨n',xs,h1,h2,ihE _ _ _ _ _ _ hb w⟩)) _ he hst
     |false=>
      rw[h2,if_neg z22]at h;replace h:=ifs h;obtain(⟨h3,h⟩):=h;replace w:=fb h w;have:=eq_of_beq h3;subst this;exact EW.DR "list.count" PySem.F.slot_list_count ∅ (EW.mono (ihE _ _ _ _ _ _ ha w) (by rintro x H₁ ⟨n',xs,h1,h2,w⟩;exact⟨n',xs,h1,h2,ihE _ _ _ _ _ _ hb w⟩)) _ he hst
 |ListComp elt gens sc p=>
  injection C k n ns m ρ H Q elt gens sc p with hR ihE ihT w h
  replace h:Mb (sE n) (sT n) ns elt sc gens=some m:=h;rcases gens with _|⟨⟨tg,it,fs,ay⟩,_|⟨⟨Q0,sG,Na,MX⟩,_|⟨_,_⟩⟩⟩
  · exact nn h
  · injection tg it fs ay with h
    replace h:=bs h;obtain(⟨x,hx,h⟩):=h;obtain(⟨q,rfl⟩):=m8 hx;replace h:=ifs h;obtain(⟨ok,h⟩):=h;simp only[z01]at ok;obtain⟨⟨y3,CZ⟩,C0⟩:=ok;have y3:ay=0:=eq_of_beq y3;subst y3;replace h:=bs h;obtain(⟨j,hj,h⟩):=h;obtain(⟨kd,e1,hk⟩):=gO hj;replace h:=bs h;obtain(⟨a,ha,h⟩):=h;replace h:=bs h;obtain(⟨b,hb,h⟩):=h;replace h:=bs h;obtain(⟨c,hc,h⟩):=h;replace w:=fb h w;obtain(⟨pp,S,w'⟩):=vh ihE ihT CZ C0 e1 hk ha hb hc w;exact EW.Ar S w'
  · injection tg it fs ay Q0 sG Na MX with h
    replace h:=bs h;obtain(⟨x,hx,h⟩):=h;replace h:=bs h;obtain(⟨y,hy,h⟩):=h;obtain(⟨q,rfl⟩):=m8 hx;obtain(⟨q',rfl⟩):=m8 hy;replace h:=ifs h;obtain(⟨ok,h⟩):=h;simp only[z01]at ok;obtain⟨⟨⟨⟨⟨⟨y3,CZ⟩,C0⟩,Lz⟩,Qy⟩,Qz⟩,QA⟩:=ok;have y3:ay=0:=eq_of_beq y3;have CZ:MX=0:=eq_of_beq CZ;have C0:fs=[]:=List.isEmpty_iff.mp C0;have Lz:Na=[]:=List.isEmpty_iff.mp Lz;subst y3 CZ C0 Lz;replace h:=bs h;obtain⟨⟨j,kd⟩,e1,h⟩:=h;injection j kd with e1 h
    replace h:=bs h;obtain⟨⟨j',zu⟩,e2,h⟩:=h;injection j' zu with e2 h
    replace h:=ifs h;obtain(⟨hk,h⟩):=h;rw[z01]at hk;have h1:kd=.local:=eq_of_beq hk.1;have h2:zu=.local:=eq_of_beq hk.2;subst h1 h2;replace h:=bs h;obtain(⟨a,ha,h⟩):=h;replace h:=bs h;obtain(⟨b,hb,h⟩):=h;replace h:=bs h;obtain(⟨c,hc,h⟩):=h;replace w:=fb h w;exact zd ihE Qy Qz QA e1 e2 ha hb hc w
  · exact nn h
 |_=>exact nn h
end
end
section
open PySem.SeqAt
section
variable {C:Cx} {k:Nat}
theorem CW.mono {H:Hp} {op:CmpOp} {x y:V} {Q Q':V→Hp→Prop} (h:CW C k H op x y Q) (hq:∀v H',Q v H'→Q' v H'):CW C k H op x y Q':=
 ⟨fun A s ι a b hr B r r'=>wpAny_mono (h.out A s ι a b hr B r r') (fun _ _ p=>p.mono hq) fun _ _ x=>x⟩
theorem bk.mono {H:Hp} {x:V} {Q Q':Bool→Hp→Prop} (h:bk C k H x Q) (hq:∀v H',Q v H'→Q' v H'):bk C k H x Q':=
 ⟨fun A s ι a hr B r=>wpAny_mono (h.out A s ι a hr B r) (fun _ _ p=>p.mono hq) fun _ _ x=>x⟩
theorem IW.mono {H:Hp} {op:Operator} {x y:V} {Q Q':V→Hp→Prop} (h:IW C k H op x y Q) (hq:∀v H',Q v H'→Q' v H'):IW C k H op x y Q':=
 ⟨fun A s ι a b hr B r r'=>wpAny_mono (h.out A s ι a b hr B r r') (fun _ _ p=>p.mono hq) fun _ _ x=>x⟩
theorem cz.mono {H:Hp} {x y:V} {Q Q':V→Hp→Prop} (h:cz C k H x y Q) (hq:∀v H',Q v H'→Q' v H'):cz C k H x y Q':=
 ⟨fun A s ι a b hr B r r'=>let⟨T,id,h1,h2,h3⟩:=h.out A s ι a b hr B r r';⟨T,id,h1,h2,wpAny_mono h3 (fun _ _ p=>p.mono hq) fun _ _ x=>x⟩⟩
theorem eM.mono {H:Hp} {x:V} {a:Str} {Q Q':V→Hp→Prop} (h:eM C k H x a Q) (hq:∀v H',Q v H'→Q' v H'):eM C k H x a Q':=
 ⟨fun A s ι a hr B r=>wpAny_mono (h.out A s ι a hr B r) (fun _ _ p=>p.mono hq) fun _ _ x=>x⟩
theorem iV.mono {H:Hp} {x y z:V} {Q Q':Hp→Prop} (h:iV C k H x y z Q) (hq:∀H',Q H'→Q' H'):iV C k H x y z Q':=
 ⟨fun A s ι a b c hr B r r' QG=>wpAny_mono (h.out A s ι a b c hr B r r' QG) (fun _ _ p=>p.mono fun _ _=>hq _) fun _ _ x=>x⟩
theorem pB.mono {H:Hp} {x z:V} {a:Str} {Q Q':Hp→Prop} (h:pB C k H x a z Q) (hq:∀H',Q H'→Q' H'):pB C k H x a z Q':=
 ⟨fun A s ι v c hr B r r'=>wpAny_mono (h.out A s ι v c hr B r r') (fun _ _ p=>p.mono fun _ _=>hq _) fun _ _ x=>x⟩
theorem XW.mono {names:Nm} {ρ:List (Option V)} {H:Hp} {ss:List Stmt} {Q Q':Fl→List (Option V)→Hp→Prop} (h:XW C k names ρ H ss Q) (hq:∀fl aO H',Q fl aO H'→Q' fl aO H'):XW C k names ρ H ss Q':=
 ⟨fun A s ι env hr B L=>wpAny_mono (h.out A s ι env hr B L) ((by rintro _ _ ⟨bw,fl,aO,H',hb,hl,he,hk,hR,q⟩;exact⟨bw,fl,aO,H',hb,hl,he,hk,hR,hq _ _ _ q⟩)) fun _ _ x=>x⟩
theorem Dj {n:Nat} (ihE:zw C k n) (ihT:B2 C k n):B2 C k (n+1):=by
 intro ns e m ρ H Q h w
 cases e with
 |Compare l ops cs p=>
  replace h:N9 (sE n ns) l ops cs=some m:=h;rcases ops with _|⟨op,_|⟨NZ,_|⟨RM,ops⟩⟩⟩<;>rcases cs with _|⟨r,_|⟨r2,_|⟨r3,cs⟩⟩⟩<;>first|exact nn h|skip
  · replace h:=JA h;obtain⟨hm,h⟩:=h;replace h:=bs h;obtain⟨a,ha,h⟩:=h;replace h:=bs h;obtain⟨b,hb,h⟩:=h;replace w:=pU h w;exact TW.cmp (EW.mono (ihE _ _ _ _ _ _ ha w) fun _ _ w=>ihE _ _ _ _ _ _ hb w) hm
  · replace h:=JA h;obtain⟨hm,h⟩:=h;replace h:=bs h;obtain⟨a,ha,h⟩:=h;replace h:=bs h;obtain⟨b,hb,h⟩:=h;replace h:=bs h;obtain⟨c,hc,h⟩:=h;replace w:=pU h w;refine TW.En (EW.mono (ihE _ _ _ _ _ _ ha w) fun _ _ w=>EW.mono (ihE _ _ _ _ _ _ hb w) fun _ _ w=>CW.mono w fun _ _ w=>bk.mono w fun _ _ w=>⟨fun e=>ihE _ _ _ _ _ _ hc (w.1 e),w.2⟩) ?_;intro env;show eval r env::[markedBehindIn NZ r2 (eval r2 env)]=_;unfold markedBehindIn;rw[hm]
 |UnaryOp op x p=>
  replace h:=ifs h;obtain⟨hn,h⟩:=h;replace h:=bs h;obtain⟨a,ha,h⟩:=h;replace w:=pU h w
  cases op<;>first|cases hn;done|skip
  exact TW.not (ihT _ _ _ _ _ _ ha w)
 |BoolOp op es p=>
  replace h:=bs h;obtain⟨a,ha,h⟩:=h;replace w:=pU h w
  cases op
  · exact TW.zL (q7 ihT _ _ _ _ _ ha w)
  · exact TW.zL (vi ihT _ _ _ _ _ ha w)
 |Name x p=>
  replace h:=bs h;obtain⟨a,ha,h⟩:=h;replace w:=pU h w;exact TW.val (ihE _ _ _ _ _ _ ha w) fun _ _=>rfl
 |BinOp l op r p=>
  replace h:=bs h;obtain⟨a,ha,h⟩:=h;replace w:=pU h w;exact TW.val (ihE _ _ _ _ _ _ ha w) fun _ _=>rfl
 |Attribute v a p=>
  replace h:=bs h;obtain⟨a,ha,h⟩:=h;replace w:=pU h w;exact TW.val (ihE _ _ _ _ _ _ ha w) fun _ _=>rfl
 |Subscript v i p=>
  replace h:=bs h;obtain⟨a,ha,h⟩:=h;replace w:=pU h w;exact TW.val (ihE _ _ _ _ _ _ ha w) fun _ _=>rfl
 |Call f a kw p=>
  replace h:=bs h;obtain⟨a,ha,h⟩:=h;replace w:=pU h w;exact TW.val (ihE _ _ _ _ _ _ ha w) fun _ _=>rfl
 |ListComp a b c d=>
  replace h:=bs h;obtain⟨a,ha,h⟩:=h;replace w:=pU h w;exact TW.val (ihE _ _ _ _ _ _ ha w) fun _ _=>rfl
 |_=>exact nn h
theorem ku (hR:∀x,calls.contains x=true→eO C x):∀n,zw C k n∧B2 C k n
 |0=>And.intro (fun ns e m ρ H Q (h:sE 0 ns e=some m)=>nn h) (fun ns e m ρ H Q (h:sT 0 ns e=some m)=>nn h)
 |n+1=>let⟨a,b⟩:=ku hR n;⟨Dh hR a b,Dj a b⟩
theorem xN {ns:Nm}:∀{es:List Expr} {js:List Nat},lhs ns es=some js→js.length=es.length:=fun h=>(sZ h).len
def Gz (C:Cx) (k:Nat) (n:Nat):Prop:=∀ns ss m ρ H Q,sX n ns ss=some m→wX C k m ρ H Q→XW C k ns ρ H ss Q
theorem q8 {n:Nat} (ihE:zw C k n) (ihX:Gz C k n) {ns:Nm} {x:Str} {j:Nat} {kd:NameKind} {p p':Pos} {e:Expr} {r:List Stmt} {me:ME} {mr:MS} {ρ:List (Option V)} {H:Hp} {Q:Fl→List (Option V)→Hp→Prop}
 (en:c7 ns x=some (j,kd)) (hk:kd=.local∨kd=.cell) (hs:∀env:Env,env.kindOf x=some kd→swapsWith e (some (.Name x p')) p.line env=pure false)
 (h1:sE n ns e=some me) (h2:sX n ns r=some mr) (w:wX C k (.asg j me mr) ρ H Q):XW C k ns ρ H (.Assign [.Name x p'] e p::r) Q:=by
 exact XW.B9 j (EW.mono (ihE _ _ _ _ _ _ h1 w) fun _ _ w=>ihX _ _ _ _ _ _ h2 w) (cA en) hk hs
set_option tactic.hygienic true in
theorem zh {e:Expr} {x:Str} {p':Pos} {l:Nat} {env:Env} (h:env.kindOf x=some .cell) (h2:∀a b c d,e≠.SetComp a b c d) (h3:∀a b c d f,e≠.DictComp a b c d f):swapsWith e (some (.Name x p')) l env=pure false:=by
 cases e<;>first|rfl|skip
 · rename_i elt gens sc cpos
   show(pure (env.blockKind==.function&&env.kindOf x==some .local&&p'.line==cpos.line&&!(sc.names.any fun(n,k)=>n==x&&(k==.local||k==.cell))):Sem Bool)=pure false;rw[h];have:(NameKind.cell==NameKind.local)=false:=by decide
   simp[this]
 · exact(h2 _ _ _ _ rfl).elim
 · exact(h3 _ _ _ _ _ rfl).elim
theorem vf {n:Nat} {ns:Nm} {e:Expr} {m:ME} (h:sE n ns e=some m):(∀a b c d,e≠.SetComp a b c d)∧(∀a b c d f,e≠.DictComp a b c d f):=by
 cases n with
 |zero=>exact nn h
 |succ n=>exact⟨fun a b c d e=>by subst e;exact nn h,fun a b c d f e=>by subst e;exact nn h⟩
theorem xf {n:Nat} (ihE:zw C k n) (ihT:B2 C k n) (hR:∀x,calls.contains x=true→eO C x) (ihX:Gz C k (n+1)) {ns:Nm} {x:Str} {j:Nat} {p p' cpos:Pos} {elt:Expr} {gens:List Comprehension} {sc:Scope} {r:List Stmt} {me:ME} {mr:MS} {ρ:List (Option V)} {H:Hp} {Q:Fl→List (Option V)→Hp→Prop}
 (en:c7 ns x=some (j,.local)) (hg:gens.length=1) (hl:p'.line=cpos.line) (hny:(sc.names.any fun(n,k)=>n==x&&(k==.local||k==.cell))=false)
 (h:sE (n+1) ns (.ListComp elt gens sc cpos)=some me) (h2:sX (n+1) ns r=some mr) (w:wX C k (.asg j me mr) ρ H Q):XW C k ns ρ H (.Assign [.Name x p'] (.ListComp elt gens sc cpos) p::r) Q:=by
 replace h:Mb (sE n) (sT n) ns elt sc gens=some me:=h;rcases gens with _|⟨⟨tg,it,fs,ay⟩,_|⟨_,_⟩⟩
 · cases hg
 · replace h:=bs h;obtain⟨y,hx,h⟩:=h;obtain⟨q,rfl⟩:=m8 hx;replace h:=ifs h;obtain⟨ok,h⟩:=h;simp only[z01]at ok;obtain⟨⟨y3,CZ⟩,C0⟩:=ok;have y3:ay=0:=eq_of_beq y3;subst y3
   · replace h:=bs h;obtain⟨i,hj,h⟩:=h;obtain⟨kd,e1,hk⟩:=gO hj;replace h:=bs h;obtain⟨a,ha,h⟩:=h;replace h:=bs h;obtain⟨b,hb,h⟩:=h;replace h:=bs h;obtain⟨c,hc,h⟩:=h;have e:=Option.some.inj h;subst e;obtain⟨pp,S,w'⟩:=vh ihE ihT CZ C0 e1 hk ha hb hc w;exact XW.B8 _ S (EW.mono w' (by rintro v H₁ ⟨vs,Hc,hi,I,h0,t,d⟩;exact⟨vs,Hc,hi,I,h0,t,fun aO H' hI=>⟨(d aO H' hI).1,ihX _ _ _ _ _ _ h2 (d aO H' hI).2⟩⟩)) (cA en) hl hny
 · cases hg
theorem wW {e:Expr} (h:m9 e=true) (t:Option Expr) (l:Nat) (env:Env):swapsWith e t l env=pure false:=by
 cases e<;>first|rfl|exact(z22 h).elim
theorem GS {e:Expr} (h:isCall e=true) (t:Option Expr) (l:Nat) (env:Env):swapsWith e t l env=pure false:=by
 cases e<;>first|rfl|exact(z22 h).elim
theorem OV {e:Expr} (h:qy e=true) (es:List Expr) (x1:Nat) (p' p:Pos):(∀env,swapsWithSole [.Tuple es x1 p'] e p.line env=pure false)∧(∀env,swappedStores [.Tuple es x1 p'] e env=pure none):=by
 cases e<;>first|exact⟨fun _=>rfl,fun _=>rfl⟩|exact(z22 h).elim
theorem JW {i:Expr} (h:eA i=true) (ov iv new:Value):augStore i ov iv new=(do holding [new,ov,iv] (setItem ov iv new);release [new,ov,iv] [];pure .next):=by
 cases i<;>first|rfl|exact(z22 h).elim
theorem Bf (hR:∀x,calls.contains x=true→eO C x) {n:Nat} (ihX:Gz C k n) {ns:Nm} {t e:Expr} {p:Pos} {r:List Stmt} {m:MS} {ρ:List (Option V)} {H:Hp} {Q:Fl→List (Option V)→Hp→Prop} (h:N5 (sE n ns) ns e (sX n ns r) t=some m) (w:wX C k m ρ H Q):XW C k ns ρ H (.Assign [t] e p::r) Q:=by
 obtain⟨ihE,ihT⟩:=ku (C:=C) (k:=k) hR n
 cases t with
 |Name x p'=>
  replace h:=bs h;obtain⟨⟨j,kd⟩,e1,h⟩:=h;replace h:=ifs h;obtain⟨hk,h⟩:=h;replace h:=bs h;obtain⟨a,ha,h⟩:=h;replace h:=bs h;obtain⟨b,hb,h⟩:=h;replace w:=gM h w;simp only[Bool.or_eq_true,z01]at hk;rcases hk with⟨h1,h2|h2⟩|h1
  · have h1:kd=.local:=eq_of_beq h1;subst h1;exact q8 ihE ihX e1 (.inl rfl) (fun env _=>wW h2 _ _ _) ha hb w
  · have h1:kd=.local:=eq_of_beq h1;subst h1
    cases e with
    |ListComp elt gens sc cpos=>
     replace h2:(gens.length==1&&p'.line==cpos.line&&!(sc.names.any fun(n,k)=>n==x&&(k==.local||k==.cell)))=true:=h2;simp only[z01,beq_iff_eq,Bool.not_eq_true']at h2
     cases n with
     |zero=>exact nn ha
     |succ n=>
      obtain⟨KV,KW⟩:=ku (C:=C) (k:=k) hR n;exact xf KV KW hR ihX e1 h2.1.1 h2.1.2 h2.2 ha hb w
    |_=>exact(z22 h2).elim
  · have h1:kd=.cell:=eq_of_beq h1;subst h1;exact q8 ihE ihX e1 (.inr rfl) (fun env he=>zh he (vf ha).1 (vf ha).2) ha hb w
 |Attribute o a' p'=>
  replace h:=ifs h;obtain⟨hp,h⟩:=h;have pl:=wW hp (some (.Attribute o a' p')) p.line;replace h:=bs h;obtain⟨m1,h1,h⟩:=h;replace h:=bs h;obtain⟨m2,h2,h⟩:=h;replace h:=bs h;obtain⟨m3,h3,h⟩:=h;replace w:=gM h w;exact XW.setattr (EW.mono (ihE _ _ _ _ _ _ h2 w) fun _ _ w=>EW.mono (ihE _ _ _ _ _ _ h1 w) fun _ _ w=>pB.mono w fun _ w=>ihX _ _ _ _ _ _ h3 w) pl
 |Subscript o i p'=>
  replace h:=ifs h;obtain⟨hp,h⟩:=h;rw[z01]at hp;have pl:=wW hp.1 (some (.Subscript o i p')) p.line;replace h:=bs h;obtain⟨m1,h1,h⟩:=h;replace h:=bs h;obtain⟨m2,h2,h⟩:=h;replace h:=bs h;obtain⟨m3,h3,h⟩:=h;replace h:=bs h;obtain⟨m4,h4,h⟩:=h;replace w:=gM h w;exact XW.cN (EW.mono (ihE _ _ _ _ _ _ h3 w) fun _ _ w=>EW.mono (ihE _ _ _ _ _ _ h1 w) fun _ _ w=>EW.mono (ihE _ _ _ _ _ _ h2 w) fun _ _ w=>iV.mono w fun _ w=>ihX _ _ _ _ _ _ h4 w) pl
 |Tuple es x1 p'=>
  replace h:=ifs h;obtain⟨hp,h⟩:=h;have pl:=OV hp es x1 p' p;replace h:=bs h;obtain⟨js,h1,h⟩:=h;replace h:=bs h;obtain⟨m2,h2,h⟩:=h;replace h:=bs h;obtain⟨m3,h3,h⟩:=h;replace w:=gM h w;exact XW.B_ js (sZ h1) (EW.mono (ihE _ _ _ _ _ _ h2 w) (by rintro _ _ ⟨n',vs,e1,e2,e3,w⟩;exact⟨n',vs,e1,e2,e3.trans (xN h1),ihX _ _ _ _ _ _ h3 w⟩)) pl.1 pl.2
 |_=>exact nn h
theorem Bg (hR:∀x,calls.contains x=true→eO C x) {n:Nat} (ihX:Gz C k n) {ns:Nm} {t e:Expr} {op:Operator} {p:Pos} {r:List Stmt} {m:MS} {ρ:List (Option V)} {H:Hp} {Q:Fl→List (Option V)→Hp→Prop} (h:N6 (sE n ns) ns op e (sX n ns r) t=some m) (w:wX C k m ρ H Q):XW C k ns ρ H (.AugAssign t op e p::r) Q:=by
 obtain⟨ihE,ihT⟩:=ku (C:=C) (k:=k) hR n
 cases t with
 |Name x p'=>
  replace h:=ifs h;obtain⟨ok,h⟩:=h;replace h:=bs h;obtain⟨j,hj,h⟩:=h;obtain⟨kd,e1,hk⟩:=gO hj;replace h:=bs h;obtain⟨a,ha,h⟩:=h;replace h:=bs h;obtain⟨b,hb,h⟩:=h;replace w:=gM h w;obtain⟨u,hu,w⟩:=w;exact XW.aug j hu (EW.mono (ihE _ _ _ _ _ _ ha w) fun _ _ w=>IW.mono w fun _ _ w=>ihX _ _ _ _ _ _ hb w) (cA e1) hk (oS ok).2
 |Attribute o a' p'=>
  replace h:=bs h;obtain⟨a,ha,h⟩:=h;replace h:=bs h;obtain⟨b,hb,h⟩:=h;replace h:=bs h;obtain⟨c,hc,h⟩:=h;replace w:=gM h w;exact XW.hO (EW.mono (ihE _ _ _ _ _ _ ha w) fun _ _ w=>eM.mono w fun _ _ w=>EW.mono (ihE _ _ _ _ _ _ hb w) fun _ _ w=>IW.mono w fun _ _ w=>pB.mono w fun _ w=>ihX _ _ _ _ _ _ hc w)
 |Subscript o i p'=>
  replace h:=ifs h;obtain⟨hp,h⟩:=h;have pl:=JW hp;replace h:=bs h;obtain⟨m1,h1,h⟩:=h;replace h:=bs h;obtain⟨m2,h2,h⟩:=h;replace h:=bs h;obtain⟨m3,h3,h⟩:=h;replace h:=bs h;obtain⟨m4,h4,h⟩:=h;replace w:=gM h w;exact XW.cG (EW.mono (ihE _ _ _ _ _ _ h1 w) fun _ _ w=>EW.mono (ihE _ _ _ _ _ _ h2 w) fun _ _ w=>cz.mono w fun _ _ w=>EW.mono (ihE _ _ _ _ _ _ h3 w) fun _ _ w=>IW.mono w fun _ _ w=>iV.mono w fun _ w=>ihX _ _ _ _ _ _ h4 w) pl
 |_=>exact nn h
theorem Dk (hR:∀x,calls.contains x=true→eO C x) (n:Nat):Gz C k n:=by
 induction n with
 |zero=>exact fun ns ss m ρ H Q h _=>nn h
 |succ n ihX=>
  intro ns ss m ρ H Q h w;obtain⟨ihE,ihT⟩:=ku (C:=C) (k:=k) hR n
  cases ss with
  |nil=>
   replace w:=gM h w;exact XW.nil w
  |cons s r=>
  cases s with
  |Assign ts e p=>
   cases ts with
   |nil=>exact nn h
   |cons t ts=>
    cases ts with
    |nil=>exact Bf hR ihX h w
    |cons _ _=>exact nn h
  |AugAssign t op e p=>exact Bg hR ihX h w
  |Expr e p=>
   replace h:=ifs h;obtain⟨hp,h⟩:=h;replace h:=bs h;obtain⟨a,ha,h⟩:=h;replace h:=bs h;obtain⟨b,hb,h⟩:=h;replace w:=gM h w;exact XW.G_ (EW.mono (ihE _ _ _ _ _ _ ha w) fun _ _ w=>⟨w.1,ihX _ _ _ _ _ _ hb w.2⟩) (fun _=>GS hp _ _ _)
  |Return e p=>
   replace h:=bs h;obtain⟨e',he,h⟩:=h;subst he;replace h:=bs h;obtain⟨a,ha,h⟩:=h;replace w:=gM h w;exact XW.ret (ihE _ _ _ _ _ _ ha w)
  |Break p=>replace w:=gM h w;exact XW.brk w
  |Continue p=>replace w:=gM h w;exact XW.cont w
  |Raise a b p=>replace w:=gM h w;exact w.elim
  |If t b o p=>
   replace h:=bs h;obtain⟨a,ha,h⟩:=h;replace h:=bs h;obtain⟨b',hb,h⟩:=h;replace h:=bs h;obtain⟨c,hc,h⟩:=h;replace h:=bs h;obtain⟨d,hd,h⟩:=h;replace w:=gM h w;have q:∀fl aO H',(match fl with|.next=>wX C k d aO H' Q|fl=>Q fl aO H')→Qc C k ns r Q fl aO H':=fun fl aO H' q=>by
    cases fl<;>first|exact ihX _ _ _ _ _ _ hd q|exact q
   exact XW.ite (TW.mono (ihT _ _ _ _ _ _ ha w) fun _ _ w=>⟨fun e=>XW.mono (ihX _ _ _ _ _ _ hb (w.1 e)) q,fun e=>XW.mono (ihX _ _ _ _ _ _ hc (w.2 e)) q⟩)
  |While t b o p=>
   replace h:=ifs h;obtain⟨ho,h⟩:=h
   cases o with
   |cons _ _=>cases ho
   |nil=>
   replace h:=bs h;obtain⟨a,ha,h⟩:=h;replace h:=bs h;obtain⟨b',hb,h⟩:=h;replace h:=bs h;obtain⟨c,hc,h⟩:=h;replace w:=gM h w;obtain⟨I,Lw,h0,w⟩:=w;exact XW.Jb I Lw h0 fun m ρ H hI=>TW.mono (ihT _ _ _ _ _ _ ha (w m ρ H hI)) fun _ _ w=>⟨fun e=>XW.mono (ihX _ _ _ _ _ _ hb (w.1 e)) fun fl aO H' q=>by cases fl<;>first|exact ihX _ _ _ _ _ _ hc q|exact q,fun e=>ihX _ _ _ _ _ _ hc (w.2 e)⟩
  |For t it b o p=>
   have hh:=ifs h;clear h;obtain⟨ho,h⟩:=hh;rw[z01]at ho
   cases o with
   |cons _ _=>cases ho.1
   |nil=>
   have hs:=ho.2
   cases t with
   |Name x p'=>
    replace h:=bs h;obtain⟨j,hj,h⟩:=h;obtain⟨kd,e1,hk⟩:=gO hj;replace h:=bs h;obtain⟨a,ha,h⟩:=h;replace h:=bs h;obtain⟨b',hb,h⟩:=h;replace h:=bs h;obtain⟨c,hc,h⟩:=h;replace w:=gM h w;exact XW.M_ (EW.mono (ihE _ _ _ _ _ _ ha w) (by rintro v H₁ ⟨xs,Hc,I,w1,w0,w2,w3⟩;exact⟨xs,Hc,I,w1,w0,(fun i x ρ H hx hI=>⟨(w2 i x ρ H hx hI).1,AW.name j (XW.mono (ihX _ _ _ _ _ _ hb (w2 i x ρ H hx hI).2) fun fl aO H' q=>by cases fl<;>first|exact ihX _ _ _ _ _ _ hc q|exact q) (cA e1) hk⟩),
     (fun ρ H hI=>⟨(w3 ρ H hI).1,ihX _ _ _ _ _ _ hc (w3 ρ H hI).2⟩)⟩)) (fN hs)
   |Tuple es x1 p'=>
    replace h:=bs h;obtain⟨js,hj,h⟩:=h;replace h:=bs h;obtain⟨a,ha,h⟩:=h;replace h:=bs h;obtain⟨b',hb,h⟩:=h;replace h:=bs h;obtain⟨c,hc,h⟩:=h;replace w:=gM h w;refine XW.M_ (EW.mono (ihE _ _ _ _ _ _ ha w) fun v H₁ ⟨xs,Hc,I,w1,w0,w2,w3⟩=>⟨xs,Hc,I,w1,w0,(fun i x ρ H hx hI=>⟨(w2 i x ρ H hx hI).1,?_⟩),
     (fun ρ H hI=>⟨(w3 ρ H hI).1,ihX _ _ _ _ _ _ hc (w3 ρ H hI).2⟩)⟩) (fN hs)
    obtain⟨_,n',vs,rfl,e2,e3,w⟩:=w2 i x ρ H hx hI;exact AW.tup js (sZ hj) (e3.trans (xN hj)) e2 (XW.mono (ihX _ _ _ _ _ _ hb w) fun fl aO H' q=>by cases fl<;>first|exact ihX _ _ _ _ _ _ hc q|exact q)
   |_=>exact nn h
  |_=>exact nn h
end
end
set_option maxHeartbeats 0
def nH:=@PySem.W.Fast.te10110043849684766642
def eqB:=@PySem.W.Fast.te14364793385576792824
abbrev pw:Program:=PySem.Challenge.pw_nt0457_01
def st (i:Nat):Stmt:=(pw.main.body.drop i).headD (.Pass default)
def Cf:Stmt→List Stmt
 |.ClassDef _ _ _ b _ _ _ _ _ _ _=>b
 |_=>[]
def mt (i j:Nat):Stmt:=((Cf (st i)).drop j).headD (.Pass default)
abbrev s (x:String):Str:=Str.ofString x
def Hg (d:Stmt) (qual:Str) (globals:Addr) (doc pm code:Value) (bu:Addr):FuncData:=
 match d with
 |.FunctionDef n a b _ _ _ sc _ _ _=>{name:=n,qualname:=qual,params:=a,body:=.stmts b,scope:=sc,globals:=globals,closure:=[],defaults:=.none,kwdefaults:=.none,doc:=doc,pyModule:=pm,code:=code,builtins:=bu}
 |_=>default
def sv (x:String) (t:Tok):Value:=.str (s x) t
def iz (i:Int):Value:=.int i 0
def sq (t:Nat):List String→List Value
 |[]=>[]
 |x::r=>sv x t::sq (t+1) r
def iq (l:List (Int×Nat)):List Value:=l.map fun p=>.int p.1 p.2
def rq:Nat→Nat→List Value
 |_,0=>[]
 |i,n+1=>.ref i::rq (i+1) n
def tp (l:List Value):Obj:=⟨.type "tuple",none,.seq l.toArray 0,#[]⟩
def lt (l:List Value):Obj:=⟨.type "list",none,.seq l.toArray 0,#[]⟩
def fl (l:List Value):Obj:=⟨.none,none,.fields l.toArray,#[]⟩
def ty (t:String) (l:List Value):Obj:=⟨.type t,none,.fields l.toArray,#[]⟩
def dk (l:List DictEntry) (n:Nat):Obj:=⟨.type "dict",none,.dict l.toArray n,#[]⟩
def en (P:Params) (x:String) (t:Tok) (v:Value):DictEntry:=⟨PyData.keyHash P (s x),sv x t,v⟩
def cf:String:="/claim/cut.py"
def fo (d:Stmt) (q:String) (pm:Value) (cd:Nat):Obj:=⟨.type "function",none,.func (Hg d (s q) 3 .none pm (.ref cd) 0),#[]⟩
def co (n q:String) (t l c k:Nat) (b:Bool) (r r1:Value) (L:List Value) (e:Nat):Obj:=
 ty "code" ([sv n t,sv q (t+1),sv cf (t+2),iz l,iz c,iz 0,iz 0,iz k,r,.bool b,iz 181,r1,.none]++L++[iz e,iz l,sv cf (e+1)])
def fg (d:Stmt) (n q:String) (pm:Value) (a t l c:Nat) (xs:List String):List Obj:=
 [tp [],fl [],tp (sq (t+3) xs),tp [],⟨.none,none,.func (Hg d (s q) 0 .none .none .none 0),#[]⟩,co n q t l c 3 true (.ref a) (.ref (a+1)) (rq (a+2) 3) (t+3+xs.length),fo d q pm (a+5)]
def ff (d:Stmt) (n:String) (pm:Value) (a t l c:Nat) (xs:List String):List Obj:=fg d n n pm a t l c xs
def f5 (d:Stmt) (q:String) (pm:Value) (a t l c:Nat):List Obj:=
 [tp [],fl [],⟨.none,none,.func (Hg d (s q) 0 .none .none .none 0),#[]⟩,co q q t l c 3 true (.ref a) (.ref (a+1)) [.none,.none,.ref (a+2)] (t+3),fo d q pm (a+3)]
def cg (P:Params) (n:String) (pm:Value) (a b l li L:Nat) (F:List Obj) (xs:List String):List Obj:=
 let en:=en P
 let K:=b+16+L+xs.length
 let i:=en "__init__" (b+15+L) (.ref (a+13))
 let m:=en "__module__" (b+5) pm
 let f:=en "__firstlineno__" (b+9) (.int l (b+8))
 let z:=en "__static_attributes__" K (.ref (a+14))
 let c:Value:=.ref (a+16)
 [tp [],ty "builtin_function_or_method" [.builtin "type.__prepare__",.type "type"],dk [m,en "__qualname__" (b+7) (sv n (b+6)),f,i,z] 5,
  tp [],fl [iz li,iz 4,.ref (a+12)],co n n b l 0 0 false (.ref (a+3)) (.ref (a+4)) [.none,.none,.none] (b+3),
  ⟨.type "frame",none,.plain,#[some (.ref (a+5)),some (.ref 3),some (.ref (a+2)),none,some pm,none,some (.ref 0)]⟩]++F++
 [tp (sq (b+16+L) xs),dk [m,f,i,z,en "__dict__" (K+2) (.ref (a+17)),en "__weakref__" (K+4) (.ref (a+18)),en "__doc__" (K+5) .none] 4,
  ⟨.type "type",none,.cls {name:=s n,bases:=[.type "object"],mro:=[c,.type "object"],ns:=a+15,qualname:=s n,hasDict:=true,slotNames:=[],subclasses:=[],abstract:=false,collection:=none,hasDel:=false},#[none,none,some (sv n (b-2)),some (sv n (b+6)),some (.builtin "object.__new__"),some (.bool true)]⟩,
  ty "getset_descriptor" [sv "__dict__" (K+1),c,.builtin "function.__dict__",.builtin "function.__dict__#set"],ty "getset_descriptor" [sv "__weakref__" (K+3),c,.builtin "ExceptionGroup.__weakref__",.none],
  ty "super" [c,c,c],ty "builtin_function_or_method" [.builtin "object.__init_subclass__",c]]
def p0:Value:=sv "chess.bits" 187
def p1:Value:=sv "chess.kinds" 229
def p2:Value:=sv "chess.lines" 263
def p3:Value:=sv "chess.errors" 295
def p4:Value:=sv "chess.geometry" 326
def p5:Value:=sv "chess.sliders" 487
def p6:Value:=sv "chess.position" 554
def p7:Value:=sv "chess.attacks" 631
def p8:Value:=sv "chess.psqt" 672
def p9:Value:=sv "chess.scores" 692
def xX:Value:=sv "chess.pawns" 733
def tj:Value:=sv "chess.mobility" 810
def pE:Value:=sv "chess.kings" 972
def LC:Value:=sv "chess.zobrist" 1130
def gJ:Value:=sv "law_nt0457_01" 1167
def hV (P:Params):List Obj:=cg P "Geometry" p4 107 354 76 78 5 (fg (mt 27 0) "__init__" "Geometry.__init__" p4 114 364 78 5 ["self","files","ranks","has_double","has_castling"]) ["castles","file_masks","files","full","has_castling","has_double","king","knight","pawn","rank_masks","ranks","rays","rights_lost","size"]
def hW (P:Params):List Obj:=cg P "Position" p6 226 558 217 219 3 (fg (mt 44 0) "__init__" "Position.__init__" p6 233 568 219 3 ["self","geo","zob"]) ["board","ep","full","geo","half","history","key","kinds","rights","side","sides","zob"]
def f3 (P:Params):List Obj:=cg P "AttackMap" tj 399 843 329 331 6 (fg (mt 74 0) "__init__" "AttackMap.__init__" tj 406 853 331 6 ["self","king","by","twice","reaches","shields"]) ["by","king","reaches","shields","twice"]
def jw (P:Params):List Obj:=cg P "Zobrist" LC 559 1134 484 486 5 (fg (mt 99 0) "__init__" "Zobrist.__init__" LC 566 1144 486 5 ["self","pieces","ep","rights","side"]) ["ep","pieces","rights","side"]
def Qo (P:Params):List Obj:=
 ff (st 1) "count_bits" p0 15 189 2 1 ["b","count"]++
 ff (st 2) "more_than_one" p0 22 197 8 1 ["b"]++
 ff (st 3) "highest" p0 29 204 10 1 ["b","width","square"]++
 ff (st 4) "lowest" p0 36 213 23 1 ["b"]++
 ff (st 5) "squares_of" p0 43 220 25 1 ["b","out","square"]++
 ff (st 16) "side_of" p1 50 249 47 1 ["piece"]++
 ff (st 17) "kind_of" p1 57 256 49 1 ["piece"]++
 ff (st 19) "direction" p2 64 265 52 3 ["geo","a","b","d"]++
 ff (st 20) "between" p2 71 275 57 3 ["geo","a","b","d"]
def Qp (P:Params):List Obj:=
 let en:=en P
 ff (st 21) "line" p2 78 285 62 3 ["geo","a","b","d"]++
 [tp [(.type "Exception")],
  ⟨(.type "builtin_function_or_method"),none,(.fields #[(.builtin "type.__prepare__"),(.type "type")]),#[]⟩,
  ⟨(.type "dict"),none,(.dict #[(en "__module__" 304 (sv "chess.errors" 295)),(en "__qualname__" 306 (sv "ChessError" 305)),(en "__firstlineno__" 308 (.int 68 307)),(en "__init__" 316 (.ref 98)),(en "__static_attributes__" 318 (.ref 99))] 5),#[]⟩,
  tp [],
  ⟨.none,none,(.fields #[(iz 70),(iz 4),(.ref 97)]),#[]⟩,
  ⟨(.type "code"),none,(.fields #[(sv "ChessError" 299),(sv "ChessError" 300),(sv "/claim/cut.py" 301),(iz 68),(iz 0),(iz 0),(iz 0),(iz 0),(.ref 88),(.bool false),(iz 181),(.ref 89),.none,.none,.none,.none,(iz 302),(iz 68),(sv "/claim/cut.py" 303)]),#[]⟩,
  ⟨(.type "frame"),none,.plain,#[(some (.ref 90)),(some (.ref 3)),(some (.ref 87)),none,(some (sv "chess.errors" 295)),none,(some (.ref 0))]⟩]++
 fg (mt 23 0) "__init__" "ChessError.__init__" p3 92 309 70 2 ["self","text"]++
 [tp (sq 317 ["text"]),
  ⟨(.type "dict"),none,(.dict #[(en "__module__" 304 (sv "chess.errors" 295)),(en "__firstlineno__" 308 (.int 68 307)),(en "__init__" 316 (.ref 98)),(en "__static_attributes__" 318 (.ref 99)),(en "__weakref__" 320 (.ref 102)),(en "__doc__" 321 .none)] 3),#[]⟩,
  ⟨(.type "type"),none,(.cls {name:=(s "ChessError"),bases:=[(.type "Exception")],mro:=[(.ref 101),(.type "Exception"),(.type "BaseException"),(.type "object")],ns:=100,qualname:=(s "ChessError"),hasDict:=true,slotNames:=[],subclasses:=[],abstract:=false,collection:=none,hasDel:=false}),#[(some (.ref 85)),none,(some (sv "ChessError" 297)),(some (sv "ChessError" 305)),(some (.builtin "Exception.__new__")),(some (.bool true))]⟩,
  ⟨(.type "getset_descriptor"),none,(.fields #[(sv "__weakref__" 319),(.ref 101),(.builtin "ExceptionGroup.__weakref__"),.none]),#[]⟩,
  ⟨(.type "super"),none,(.fields #[(.ref 101),(.ref 101),(.ref 101)]),#[]⟩,
  ⟨(.type "builtin_function_or_method"),none,(.fields #[(.builtin "object.__init_subclass__"),(.ref 101)]),#[]⟩,
  tp (iq [(0,328),(1,329),(0,330),(-1,332),(1,333),(1,334),(-1,336),(-1,338)]),
  tp (iq [(1,340),(0,341),(-1,343),(0,344),(1,345),(-1,347),(-1,349),(1,350)])]++
 hV P++
 ff (st 28) "is_growing" p4 128 397 93 1 ["d"]++
 ff (st 29) "add_masks" p4 135 404 95 1 ["geo","row","column","r","f"]
def Qq (P:Params):List Obj:=
 ff (st 30) "inner_squares" p4 142 415 103 2 ["geo","d","edge"]++
 ff (st 31) "add_rays" p4 149 424 114 1 ["geo","d","inner","delta","ray","order","square","goal"]++
 ff (st 32) "add_pawns" p4 156 438 129 1 ["geo","square"]++
 ff (st 33) "add_knights" p4 163 446 133 1 ["geo","files","not_first","not_last","not_first_two","not_last_two","square","b","near","far","found"]++
 ff (st 34) "add_castles" p4 170 463 145 1 ["geo","start","index","base","corner","way","goal"]++
 ff (st 35) "make_geometry" p4 177 476 162 4 ["files","ranks","has_double","has_castling","geo"]++
 ff (st 37) "ray_attacks" p5 184 489 173 4 ["geo","d","square","occupied","ray","stop","behind"]++
 ff (st 38) "rook_attacks" p5 191 502 188 3 ["geo","square","occupied","found","d"]++
 ff (st 39) "bishop_attacks" p5 198 513 193 3 ["geo","square","occupied","found","d"]
def Qr (P:Params):List Obj:=
 ff (st 40) "queen_attacks" p5 205 524 198 3 ["geo","square","occupied"]++
 ff (st 41) "slider_attacks" p5 212 533 200 4 ["geo","kind","square","occupied"]++
 ff (st 42) "piece_attacks" p5 219 543 208 5 ["geo","side","kind","square","occupied"]++
 hW P++
 ff (st 45) "put_piece" p6 247 597 232 3 ["pos","piece","s","bit"]++
 ff (st 46) "occupied" p6 254 607 238 1 ["pos"]++
 ff (st 47) "pieces" p6 261 614 240 3 ["pos","side","kind"]
def Qs (P:Params):List Obj:=
 ff (st 48) "king_square" p6 268 623 242 2 ["pos","side"]++
 ff (st 50) "straight_sliders" p7 275 633 245 1 ["pos"]++
 ff (st 51) "slanting_sliders" p7 282 640 247 1 ["pos"]++
 ff (st 52) "snipers_of" p7 289 647 249 2 ["pos","side","king","hits"]++
 ff (st 53) "blockers" p7 296 657 254 2 ["pos","side","king","snipers","standing","held","pinners","sniper","inside"]++
 ff (st 55) "own_rank" p8 303 674 268 3 ["geo","side","square","rank"]++
 ff (st 56) "from_edge" p8 310 684 271 2 ["n","size"]++
 ff (st 60) "wrap_half" p9 317 702 276 1 ["n"]++
 ff (st 61) "divide" p9 324 709 278 2 ["a","n","quotient"]
def Qt (P:Params):List Obj:=
 ff (st 62) "make_score" p9 331 718 283 2 ["mg","eg"]++
 ff (st 63) "mg_of" p9 338 726 285 1 ["s"]++
 ff (st 65) "pawns_of" xX 345 735 288 2 ["pos","side"]++
 ff (st 66) "shift_up" xX 352 743 290 3 ["geo","b","side"]++
 ff (st 67) "neighbours" xX 359 752 294 2 ["geo","b","right","left"]++
 ff (st 68) "pawn_attacks" xX 366 762 298 3 ["geo","b","side"]++
 ff (st 69) "nearest_rank" xX 373 771 300 4 ["geo","b","side","first","nearest","square","rank"]++
 ff (st 70) "shelter_file" xX 380 784 307 3 ["own_at","foe_at","file_in","score"]++
 ff (st 71) "shelter" xX 387 794 314 2 ["pos","side","geo","king","first","centre","score","file","own_at","foe_at"]
def Qu (P:Params):List Obj:=
 [tp (iq [(-62,813),(33,814),(-79,816),(27,817),(8,818)]),
  tp (iq [(-47,820),(97,821),(-59,823),(88,824),(13,825)]),
  tp (iq [(-60,827),(62,828),(-82,830),(170,831),(14,832)]),
  tp (iq [(-29,834),(112,835),(-49,837),(204,838),(27,839)]),
  lt [.none,.none,(.ref 394),(.ref 395),(.ref 396),(.ref 397)]]++
 f3 P++
 ff (st 75) "rank_board" tj 420 878 337 3 ["geo","side","rank"]++
 ff (st 76) "seen_stops" tj 427 887 341 3 ["pos","side","kind","stops"]++
 ff (st 77) "piece_reach" tj 434 897 348 5 ["pos","side","kind","square","shields","b"]++
 ff (st 78) "attack_map" tj 441 909 353 2 ["pos","side","shields","by","twice","reaches","kind","square","b"]++
 ff (st 79) "attack_maps" tj 448 924 367 1 ["pos"]
def Qv (P:Params):List Obj:=
 ff (st 80) "area_of" tj 455 931 369 3 ["pos","side","shields","geo","low","out"]++
 ff (st 81) "mobility_bonus" tj 462 943 375 2 ["kind","count","low_mg","high_mg","low_eg","high_eg","most","bend","mg","eg"]++
 ff (st 82) "mobility_score" tj 469 959 381 3 ["pos","side","maps","area","total","kind","b"]++
 [lt (iq [(0,974),(0,975),(81,976),(52,977),(44,978),(10,979),(0,980)]),
  tp (iq [(803,982),(1292,983)]),
  tp (iq [(639,984),(974,985)]),
  tp (iq [(1087,986),(1878,987)]),
  tp (iq [(759,988),(1132,989)]),
  lt [.none,.none,(.ref 477),(.ref 478),(.ref 479),(.ref 480)]]++
 ff (st 87) "off_edge" pE 482 993 391 2 ["n","count"]++
 ff (st 88) "king_ring" pE 489 1001 395 2 ["geo","square","centre"]++
 ff (st 89) "guarded_ring" pE 496 1010 398 3 ["pos","side","king","once","twice","square"]++
 ff (st 90) "ring_attackers" pE 503 1022 405 4 ["geo","side","maps","ring","enemy","near","count","weight","hits","kind","b"]++
 ff (st 91) "weak_squares" pE 510 1039 417 2 ["side","maps","own"]
def Qw (P:Params):List Obj:=
 ff (st 92) "check_danger" pE 517 1048 420 3 ["pos","side","maps","geo","own","enemy","king","stops","straight","slant","safe","goals","danger","unsafe","kind","good"]++
 ff (st 93) "flank_files" pE 524 1070 445 2 ["geo","square","out","file"]++
 ff (st 94) "flank_squares" pE 531 1080 451 3 ["geo","side","king","camp","rank"]++
 ff (st 95) "storm_count" pE 538 1091 456 3 ["geo","side","maps","near"]++
 ff (st 96) "king_danger" pE 545 1101 459 3 ["pos","side","maps","own","ring","count","weight","hits","checks","unsafe","storm","danger"]++
 ff (st 97) "king_score" pE 552 1119 475 3 ["pos","side","maps","score","danger"]++
 jw P
def Qx (P:Params):List Obj:=
 [lt (iq [(0,1169),(0,1170),(81,1171),(52,1172),(44,1173),(10,1174),(0,1175)]),
  lt [],
  lt [],
  lt (iq [(0,1177),(803,1178),(1292,1179)]),
  lt (iq [(0,1180),(639,1181),(974,1182)]),
  lt (iq [(0,1183),(1087,1184),(1878,1185)]),
  lt (iq [(0,1186),(759,1187),(1132,1188)]),
  lt (rq 581 6),
  lt [],
  lt [],
  lt (iq [(-62,1191),(33,1192),(8,1193)]),
  lt (iq [(-47,1195),(97,1196),(13,1197)]),
  lt (iq [(-60,1199),(62,1200),(14,1201)]),
  lt (iq [(-29,1203),(112,1204),(27,1205)]),
  lt (rq 588 6),
  tp (iq [(0,1207),(1,1208)]),
  tp (iq [(1,1209),(0,1210)]),
  tp (iq [(0,1211),(-1,1213)]),
  tp (iq [(-1,1215),(0,1216)]),
  tp (iq [(1,1217),(1,1218)]),
  tp (iq [(1,1219),(-1,1221)]),
  tp (iq [(-1,1223),(-1,1225)]),
  tp (iq [(-1,1227),(1,1228)]),
  lt (rq 595 8),
  tp (iq [(1,1230),(2,1231)]),
  tp (iq [(2,1232),(1,1233)]),
  tp (iq [(2,1234),(-1,1236)]),
  tp (iq [(1,1237),(-2,1239)]),
  tp (iq [(-1,1241),(-2,1243)]),
  tp (iq [(-2,1245),(-1,1247)]),
  tp (iq [(-2,1249),(1,1250)]),
  tp (iq [(-1,1252),(2,1253)]),
  lt (rq 604 8)]++
 ff (st 106) "_law_board" gJ 613 1255 497 3 ["files","ranks","nums","size","board","white","n","square","kind","is_outer"]++
 f5 (st 107) "_law_position" gJ 620 1271 511 3++
 ff (st 108) "_law_bits" gJ 625 1277 519 1 ["squares","total","t"]++
 ff (st 109) "_law_ray" gJ 632 1286 524 6 ["files","ranks","board","square","way","through","out","f","r"]++
 ff (st 110) "_law_hops" gJ 639 1301 535 4 ["files","ranks","square","steps","out","df","dr","f","r"]
def Lx (P:Params):List Obj:=
 ff (st 111) "_law_shields" gJ 646 1316 543 4 ["files","ranks","board","side","king","found","d","snipers","standing","t"]++
 f5 (st 112) "_law_reach" gJ 653 1332 556 5++
 ff (st 113) "_law_looks" gJ 658 1338 576 4 ["files","ranks","board","side","shields","reaches","by","times","t","out","u"]++
 ff (st 114) "_law_area" gJ 665 1355 589 6 ["files","ranks","board","side","shields","hit","out","t","height"]++
 ff (st 115) "_law_cut" gJ 672 1370 598 2 ["n","by"]++
 ff (st 116) "_law_near" gJ 679 1378 600 5 ["files","ranks","side","king","t","height"]++
 f5 (st 117) "_law_cover" gJ 686 1390 603 5++
 f5 (st 118) "_law_moving" gJ 691 1396 620 6++
 f5 (st 119) "_law_checking" gJ 696 1402 629 7++
 f5 (st 120) "_law_ring" gJ 701 1408 651 3
def Ly (P:Params):List Obj:=
 f5 (st 121) "_law_danger" gJ 706 1414 655 9++
 f5 (st 122) "_law_side" gJ 711 1420 682 8++
 ff (st 123) "law" gJ 716 1426 703 1 ["script","first","files","ranks","board","pos","maps","looks","side"]
def DI (P:Params):List DictEntry:=List.map (fun p=>en P p.1 p.2.1 p.2.2) [
 ("__doc__",166,.none),
 ("__package__",167,.none),
 ("__loader__",168,(.builtin "__main__.__loader__#opaque")),
 ("__spec__",169,.none),
 ("__annotations__",170,(.ref 6)),
 ("__builtins__",171,(.ref 4)),
 ("__file__",173,(sv "/claim/cut.py" 172)),
 ("__cached__",174,.none),
 ("count_bits",196,(.ref 21)),
 ("more_than_one",203,(.ref 28)),
 ("highest",212,(.ref 35)),
 ("lowest",219,(.ref 42)),
 ("squares_of",228,(.ref 49)),
 ("WHITE",232,(.int 0 231)),
 ("BLACK",234,(.int 1 233)),
 ("PAWN",236,(.int 1 235)),
 ("KNIGHT",238,(.int 2 237)),
 ("BISHOP",240,(.int 3 239)),
 ("ROOK",242,(.int 4 241)),
 ("QUEEN",244,(.int 5 243)),
 ("KING",246,(.int 6 245)),
 ("EMPTY",248,(.int 0 247)),
 ("side_of",255,(.ref 56)),
 ("kind_of",262,(.ref 63)),
 ("direction",274,(.ref 70)),
 ("between",284,(.ref 77)),
 ("line",294,(.ref 84)),
 ("ChessError",325,(.ref 101)),
 ("STEP_FILES",339,(.ref 105)),
 ("STEP_RANKS",351,(.ref 106)),
 ("Geometry",396,(.ref 123)),
 ("is_growing",403,(.ref 134)),
 ("add_masks",414,(.ref 141)),
 ("inner_squares",423,(.ref 148)),
 ("add_rays",437,(.ref 155)),
 ("add_pawns",445,(.ref 162)),
 ("add_knights",462,(.ref 169)),
 ("add_castles",475,(.ref 176)),
 ("make_geometry",486,(.ref 183)),
 ("ray_attacks",501,(.ref 190)),
 ("rook_attacks",512,(.ref 197)),
 ("bishop_attacks",523,(.ref 204)),
 ("queen_attacks",532,(.ref 211)),
 ("slider_attacks",542,(.ref 218)),
 ("piece_attacks",553,(.ref 225)),
 ("Position",596,(.ref 242)),
 ("put_piece",606,(.ref 253)),
 ("occupied",613,(.ref 260)),
 ("pieces",622,(.ref 267)),
 ("king_square",630,(.ref 274)),
 ("straight_sliders",639,(.ref 281)),
 ("slanting_sliders",646,(.ref 288)),
 ("snipers_of",656,(.ref 295)),
 ("blockers",671,(.ref 302)),
 ("own_rank",683,(.ref 309)),
 ("from_edge",691,(.ref 316)),
 ("HALF",697,(.int 32768 696)),
 ("WORD",701,(.int 65536 700)),
 ("wrap_half",708,(.ref 323)),
 ("divide",717,(.ref 330)),
 ("make_score",725,(.ref 337)),
 ("mg_of",732,(.ref 344)),
 ("pawns_of",742,(.ref 351)),
 ("shift_up",751,(.ref 358)),
 ("neighbours",761,(.ref 365)),
 ("pawn_attacks",770,(.ref 372)),
 ("nearest_rank",783,(.ref 379)),
 ("shelter_file",793,(.ref 386)),
 ("shelter",809,(.ref 393)),
 ("MOBILITY_ENDS",840,(.ref 398)),
 ("AttackMap",877,(.ref 415)),
 ("rank_board",886,(.ref 426)),
 ("seen_stops",896,(.ref 433)),
 ("piece_reach",908,(.ref 440)),
 ("attack_map",923,(.ref 447)),
 ("attack_maps",930,(.ref 454)),
 ("area_of",942,(.ref 461)),
 ("mobility_bonus",958,(.ref 468)),
 ("mobility_score",971,(.ref 475)),
 ("RING_WEIGHTS",981,(.ref 476)),
 ("SAFE_CHECKS",990,(.ref 481)),
 ("MOST_DANGER",992,(.int 5000 991)),
 ("off_edge",1000,(.ref 488)),
 ("king_ring",1009,(.ref 495)),
 ("guarded_ring",1021,(.ref 502)),
 ("ring_attackers",1038,(.ref 509)),
 ("weak_squares",1047,(.ref 516)),
 ("check_danger",1069,(.ref 523)),
 ("flank_files",1079,(.ref 530)),
 ("flank_squares",1090,(.ref 537)),
 ("storm_count",1100,(.ref 544)),
 ("king_danger",1118,(.ref 551)),
 ("king_score",1129,(.ref 558)),
 ("Zobrist",1166,(.ref 575)),
 ("_law_weights",1176,(.ref 580)),
 ("_law_checks",1189,(.ref 587)),
 ("_law_ends",1206,(.ref 594)),
 ("_law_ways",1229,(.ref 603)),
 ("_law_jumps",1254,(.ref 612)),
 ("_law_board",1270,(.ref 619)),
 ("_law_position",1276,(.ref 624)),
 ("_law_bits",1285,(.ref 631)),
 ("_law_ray",1300,(.ref 638)),
 ("_law_hops",1315,(.ref 645)),
 ("_law_shields",1331,(.ref 652)),
 ("_law_reach",1337,(.ref 657)),
 ("_law_looks",1354,(.ref 664)),
 ("_law_area",1369,(.ref 671)),
 ("_law_cut",1377,(.ref 678)),
 ("_law_near",1389,(.ref 685)),
 ("_law_cover",1395,(.ref 690)),
 ("_law_moving",1401,(.ref 695)),
 ("_law_checking",1407,(.ref 700)),
 ("_law_ring",1413,(.ref 705)),
 ("_law_danger",1419,(.ref 710)),
 ("_law_side",1425,(.ref 715)),
 ("law",1440,(.ref 722))]
def Hk:List Value:=List.flatMap (fun p=>[iz p.1,iz 0,.ref p.2]) [(2,20),(8,27),(10,34),(23,41),(25,48),(47,55),(49,62),(52,69),(57,76),(62,83),(68,90),(76,112),(93,133),(95,140),(103,147),(114,154),(129,161),(133,168),(145,175),(162,182),(173,189),(188,196),(193,203),(198,210),(200,217),(208,224),(217,231),(232,252),(238,259),(240,266),(242,273),(245,280),(247,287),(249,294),(254,301),(268,308),(271,315),(276,322),(278,329),(283,336),(285,343),(288,350),(290,357),(294,364),(298,371),(300,378),(307,385),(314,392),(329,404),(337,425),(341,432),(348,439),(353,446),(367,453),(369,460),(375,467),(381,474),(391,487),(395,494),(398,501),(405,508),(417,515),(420,522),(445,529),(451,536),(456,543),(459,550),(475,557),(484,564),(497,618),(511,623),(519,630),(524,637),(535,644),(543,651),(556,656),(576,663),(589,670),(598,677),(600,684),(603,689),(620,694),(629,699),(651,704),(655,709),(682,714),(703,721)]
def Qn (P:Params):List DictEntry:=
 let en:=en P
 [(en "type.__subclasses__.Exception.0" 322 (iz 101)),(en "type.__subclasses__.Exception.n" 323 (iz 1))]
def glob (P:Params) (e:Nat) (nm:Value):Obj:=⟨.type "dict",none,.dict (⟨PyData.keyHash P (s "__name__"),.str (s "__name__") 165,nm⟩::(DI P).take (e-1)).toArray e,#[]⟩
def Fp (P:Params) (n e f c:Nat) (nm:Value):List Obj:=
 boot_o_0 P::boot_o_1 P::⟨.none,none,.dict ((Qn P).take c).toArray c,#[]⟩::glob P e nm::boot_o_4 P::boot_o_5 P::boot_o_6 P::boot_o_7 P::boot_o_8 P::boot_o_9 P::boot_o_10 P::
 tp []::⟨.none,none,.fields (Hk.take f).toArray,#[]⟩::⟨(.type "code"),none,(.fields #[(sv "<module>" 182),(sv "<module>" 183),(sv "/claim/cut.py" 184),(iz 1),(iz 0),(iz 0),(iz 0),(iz 0),(.ref 11),(.bool false),(iz 181),(.ref 12),.none,.none,.none,.none,(iz 185),(iz 1),(sv "/claim/cut.py" 186)]),#[]⟩::⟨(.type "frame"),none,.plain,#[(some (.ref 13)),(some (.ref 3)),(some (.ref 3)),none,(some (sv "__main__" 164)),none,(some (.ref 0))]⟩::
 (Qo P++Qp P++Qq P++Qr P++Qs P++Qt P++Qu P++Qv P++Qw P++Qx P++Lx P++Ly P).take (n-15)
def putAll:List Obj→Nat→BT→BT
 |[],_,t=>t
 |o::r,i,t=>putAll r (i+1) (t.ins i o)
def xm (P:Params) (n e f c:Nat) (nm:Value):BT:=putAll (Fp P n e f c nm) 0 .nil
def d6 (w:World) (os:OsState) (n e f c toks:Nat) (nm:Value):SharedT:=⟨xm w.params n e f c nm,n,{},#[],{},toks,os⟩
def bE:List Stmt:=behindTheImports pw
def dQ:Env:={scope:=pw.main.scope,locals:=mainNs,globals:=mainNs,cells:=[],code:=.ref 13,frame:=some 14}
def cE:Code:=.body bE dQ
def Kf:Pos:=⟨0,0,0,0⟩
def B0:List Frame:=[topFrame Kf]
def S0 (w:World) (os:OsState):SharedT:=d6 w os 15 9 0 0 187 (sv "__main__" 164)
def S1 (w:World) (os:OsState):SharedT:=d6 w os 50 22 15 0 247 (sv "chess.kinds" 229)
def S2 (w:World) (os:OsState):SharedT:=d6 w os 85 28 30 0 297 (sv "chess.errors" 295)
def S3 (w:World) (os:OsState):SharedT:=d6 w os 105 29 33 2 328 (sv "chess.geometry" 326)
def S4 (w:World) (os:OsState):SharedT:=d6 w os 107 31 33 2 352 (sv "chess.geometry" 326)
def S5 (w:World) (os:OsState):SharedT:=d6 w os 128 32 36 2 397 (sv "chess.geometry" 326)
def S6 (w:World) (os:OsState):SharedT:=d6 w os 177 39 57 2 476 (sv "chess.geometry" 326)
def S7 (w:World) (os:OsState):SharedT:=d6 w os 226 46 78 2 554 (sv "chess.sliders" 487)
def S8 (w:World) (os:OsState):SharedT:=d6 w os 226 46 78 2 556 (sv "chess.position" 554)
def S9 (w:World) (os:OsState):SharedT:=d6 w os 247 47 81 2 597 (sv "chess.position" 554)
def MF (w:World) (os:OsState):SharedT:=d6 w os 296 54 102 2 657 (sv "chess.attacks" 631)
def MG (w:World) (os:OsState):SharedT:=d6 w os 338 62 120 2 726 (sv "chess.scores" 692)
def MH (w:World) (os:OsState):SharedT:=d6 w os 387 69 141 2 794 (sv "chess.pawns" 733)
def MI (w:World) (os:OsState):SharedT:=d6 w os 399 71 144 2 841 (sv "chess.mobility" 810)
def MJ (w:World) (os:OsState):SharedT:=d6 w os 420 72 147 2 878 (sv "chess.mobility" 810)
def MK (w:World) (os:OsState):SharedT:=d6 w os 469 79 168 2 959 (sv "chess.mobility" 810)
def ML (w:World) (os:OsState):SharedT:=d6 w os 510 87 183 2 1039 (sv "chess.kings" 972)
def MN (w:World) (os:OsState):SharedT:=d6 w os 552 93 201 2 1119 (sv "chess.kings" 972)
def MO (w:World) (os:OsState):SharedT:=d6 w os 559 94 204 2 1132 (sv "chess.zobrist" 1130)
def MP (w:World) (os:OsState):SharedT:=d6 w os 580 95 207 2 1169 (sv "law_nt0457_01" 1167)
def MQ (w:World) (os:OsState):SharedT:=d6 w os 604 99 207 2 1230 (sv "law_nt0457_01" 1167)
def MR (w:World) (os:OsState):SharedT:=d6 w os 639 104 219 2 1301 (sv "law_nt0457_01" 1167)
def MT (w:World) (os:OsState):SharedT:=d6 w os 679 110 237 2 1378 (sv "law_nt0457_01" 1167)
def Jk (w:World) (os:OsState):SharedT:=d6 w os 723 118 261 2 1441 (sv "law_nt0457_01" 1167)
def sl (i n:Nat):List Stmt:=(bE.drop i).take n
theorem QF (w:World) (os:OsState):segRunT treeTable pw w 11 (some (.ref 6)) 1 241 (S0 w os) (piecesOf (sl 0 15) dQ cE ⟨0,0,0,0⟩ B0)=some (.next,(S1 w os),cE,⟨45,0,45,4⟩):=by
 rw[nH,eqB]
 kernel_rfl
theorem LD (w:World) (os:OsState):segRunT treeTable pw w 11 (some (.ref 6)) 1 182 (S1 w os) (piecesOf (sl 15 8) dQ cE ⟨45,0,45,4⟩ B0)=some (.next,(S2 w os),cE,⟨67,0,67,8⟩):=by
 rw[nH,eqB]
 kernel_rfl
theorem LG (w:World) (os:OsState):segRunT treeTable pw w 11 (some (.ref 6)) 1 238 (S2 w os) (piecesOf (sl 23 2) dQ cE ⟨67,0,67,8⟩ B0)=some (.next,(S3 w os),cE,⟨73,0,73,8⟩):=by
 rw[nH,eqB]
 kernel_rfl
theorem LH (w:World) (os:OsState):segRunT treeTable pw w 11 (some (.ref 6)) 1 67 (S3 w os) (piecesOf (sl 25 2) dQ cE ⟨73,0,73,8⟩ B0)=some (.next,(S4 w os),cE,⟨75,0,75,10⟩):=by
 rw[nH,eqB]
 kernel_rfl
theorem LI (w:World) (os:OsState):segRunT treeTable pw w 11 (some (.ref 6)) 1 239 (S4 w os) (piecesOf (sl 27 1) dQ cE ⟨75,0,75,10⟩ B0)=some (.next,(S5 w os),cE,⟨76,0,92,29⟩):=by
 rw[nH,eqB]
 kernel_rfl
theorem LJ (w:World) (os:OsState):segRunT treeTable pw w 11 (some (.ref 6)) 1 234 (S5 w os) (piecesOf (sl 28 7) dQ cE ⟨76,0,92,29⟩ B0)=some (.next,(S6 w os),cE,⟨145,0,161,36⟩):=by
 rw[nH,eqB]
 kernel_rfl
theorem LK (w:World) (os:OsState):segRunT treeTable pw w 11 (some (.ref 6)) 1 240 (S6 w os) (piecesOf (sl 35 8) dQ cE ⟨145,0,161,36⟩ B0)=some (.next,(S7 w os),cE,⟨208,0,215,54⟩):=by
 rw[nH,eqB]
 kernel_rfl
theorem LM (w:World) (os:OsState):segRunT treeTable pw w 11 (some (.ref 6)) 1 10 (S7 w os) (piecesOf (sl 43 1) dQ cE ⟨208,0,215,54⟩ B0)=some (.next,(S8 w os),cE,⟨216,0,216,8⟩):=by
 rw[nH,eqB]
 kernel_rfl
theorem LN (w:World) (os:OsState):segRunT treeTable pw w 11 (some (.ref 6)) 1 235 (S8 w os) (piecesOf (sl 44 1) dQ cE ⟨216,0,216,8⟩ B0)=some (.next,(S9 w os),cE,⟨217,0,231,25⟩):=by
 rw[nH,eqB]
 kernel_rfl
theorem LQ (w:World) (os:OsState):segRunT treeTable pw w 11 (some (.ref 6)) 1 222 (S9 w os) (piecesOf (sl 45 8) dQ cE ⟨217,0,231,25⟩ B0)=some (.next,(MF w os),cE,⟨249,0,253,37⟩):=by
 rw[nH,eqB]
 kernel_rfl
theorem LR (w:World) (os:OsState):segRunT treeTable pw w 11 (some (.ref 6)) 1 238 (MF w os) (piecesOf (sl 53 10) dQ cE ⟨249,0,253,37⟩ B0)=some (.next,(MG w os),cE,⟨283,0,284,26⟩):=by
 rw[nH,eqB]
 kernel_rfl
theorem LS (w:World) (os:OsState):segRunT treeTable pw w 11 (some (.ref 6)) 1 230 (MG w os) (piecesOf (sl 63 8) dQ cE ⟨283,0,284,26⟩ B0)=some (.next,(MH w os),cE,⟨307,0,313,16⟩):=by
 rw[nH,eqB]
 kernel_rfl
theorem LU (w:World) (os:OsState):segRunT treeTable pw w 11 (some (.ref 6)) 1 126 (MH w os) (piecesOf (sl 71 3) dQ cE ⟨307,0,313,16⟩ B0)=some (.next,(MI w os),cE,⟨328,0,328,13⟩):=by
 rw[nH,eqB]
 kernel_rfl
theorem LV (w:World) (os:OsState):segRunT treeTable pw w 11 (some (.ref 6)) 1 231 (MI w os) (piecesOf (sl 74 1) dQ cE ⟨328,0,328,13⟩ B0)=some (.next,(MJ w os),cE,⟨329,0,336,30⟩):=by
 rw[nH,eqB]
 kernel_rfl
theorem LW (w:World) (os:OsState):segRunT treeTable pw w 11 (some (.ref 6)) 1 236 (MJ w os) (piecesOf (sl 75 7) dQ cE ⟨329,0,336,30⟩ B0)=some (.next,(MK w os),cE,⟨375,0,380,29⟩):=by
 rw[nH,eqB]
 kernel_rfl
theorem LX (w:World) (os:OsState):segRunT treeTable pw w 11 (some (.ref 6)) 1 231 (MK w os) (piecesOf (sl 82 9) dQ cE ⟨375,0,380,29⟩ B0)=some (.next,(ML w os),cE,⟨405,0,416,32⟩):=by
 rw[nH,eqB]
 kernel_rfl
theorem LY (w:World) (os:OsState):segRunT treeTable pw w 11 (some (.ref 6)) 1 213 (ML w os) (piecesOf (sl 91 6) dQ cE ⟨405,0,416,32⟩ B0)=some (.next,(MN w os),cE,⟨459,0,474,17⟩):=by
 rw[nH,eqB]
 kernel_rfl
theorem LZ (w:World) (os:OsState):segRunT treeTable pw w 11 (some (.ref 6)) 1 43 (MN w os) (piecesOf (sl 97 2) dQ cE ⟨459,0,474,17⟩ B0)=some (.next,(MO w os),cE,⟨483,0,483,8⟩):=by
 rw[nH,eqB]
 kernel_rfl
theorem L2 (w:World) (os:OsState):segRunT treeTable pw w 11 (some (.ref 6)) 1 238 (MO w os) (piecesOf (sl 99 2) dQ cE ⟨483,0,483,8⟩ B0)=some (.next,(MP w os),cE,⟨491,0,491,8⟩):=by
 rw[nH,eqB]
 kernel_rfl
theorem IL (w:World) (os:OsState):segRunT treeTable pw w 11 (some (.ref 6)) 1 178 (MP w os) (piecesOf (sl 101 4) dQ cE ⟨491,0,491,8⟩ B0)=some (.next,(MQ w os),cE,⟨495,0,495,9⟩):=by
 rw[nH,eqB]
 kernel_rfl
theorem IM (w:World) (os:OsState):segRunT treeTable pw w 11 (some (.ref 6)) 1 215 (MQ w os) (piecesOf (sl 105 5) dQ cE ⟨495,0,495,9⟩ B0)=some (.next,(MR w os),cE,⟨524,0,534,14⟩):=by
 rw[nH,eqB]
 kernel_rfl
theorem IP (w:World) (os:OsState):segRunT treeTable pw w 11 (some (.ref 6)) 1 208 (MR w os) (piecesOf (sl 110 6) dQ cE ⟨524,0,534,14⟩ B0)=some (.next,(MT w os),cE,⟨598,0,599,45⟩):=by
 rw[nH,eqB]
 kernel_rfl
theorem IQ (w:World) (os:OsState):segRunT treeTable pw w 11 (some (.ref 6)) 1 228 (MT w os) (piecesOf (sl 116 8) dQ cE ⟨598,0,599,45⟩ B0)=some (.next,(Jk w os),cE,⟨703,0,714,15⟩):=by
 rw[nH,eqB]
 kernel_rfl
def H1 (P:Params):Heap:=absHeap (xm P 723 118 261 2 (.str (s "law_nt0457_01") 1167)) 723 {}
theorem L3 (w:World) (os:OsState):topGo treeTable pw w 11 (some (.ref 6)) 12 ⟨boot_heap w.params,#[],boot_drawn,boot_toks,os⟩ (topStub pw)=some ((S0 w os).abs,⟨denote treeTable cE,cE,⟨0,0,0,0⟩,B0⟩):=by
 rw[PySem.W.Fast.te15667345088766844465,PySem.W.Fast.te11892475500146522536,PySem.W.Fast.te14364793385576792824]
 kernel_rfl
theorem JZ (w:World) (os:OsState):segRun treeTable pw w 11 (some (.ref 6)) 1 1 (S0 w os).abs (blockOf bE dQ cE ⟨0,0,0,0⟩ B0)=some (.next,(S0 w os).abs,cE,⟨0,0,0,0⟩):=by
 kernel_rfl
theorem Ke (w:World) (os:OsState):topRun treeTable pw w 11 (some (.ref 6)) 2 (Jk w os).abs ⟨doneF .next,cE,⟨703,0,714,15⟩,B0⟩=some (Jk w os).abs:=by
 kernel_rfl
theorem FE:bE=(sl 0 15++(sl 15 8++(sl 23 2++(sl 25 2++(sl 27 1++(sl 28 7++(sl 35 8++(sl 43 1++(sl 44 1++(sl 45 8++(sl 53 10++(sl 63 8++(sl 71 3++(sl 74 1++(sl 75 7++(sl 82 9++(sl 91 6++(sl 97 2++(sl 99 2++(sl 101 4++(sl 105 5++(sl 110 6++(sl 116 8++[]))))))))))))))))))))))):=∅
theorem L8 (w:World) (os:OsState):topRun treeTable pw w 11 (some (.ref 6)) (12+(1+(241+(182+(238+(67+(239+(234+(240+(10+(235+(222+(238+(230+(126+(231+(236+(231+(213+(43+(238+(178+(215+(208+(228+2))))))))))))))))))))))))) ⟨boot_heap w.params,#[],boot_drawn,boot_toks,os⟩ (topStub pw)=some (Jk w os).abs:=by
 refine go_top (L3 w os) (piece_block (b:=bE) (JZ w os) ?_);rw[FE];exact(piece_app (segRun_of (QF w os)) (piece_app (segRun_of (LD w os)) (piece_app (segRun_of (LG w os)) (piece_app (segRun_of (LH w os)) (piece_app (segRun_of (LI w os)) (piece_app (segRun_of (LJ w os)) (piece_app (segRun_of (LK w os)) (piece_app (segRun_of (LM w os)) (piece_app (segRun_of (LN w os)) (piece_app (segRun_of (LQ w os)) (piece_app (segRun_of (LR w os)) (piece_app (segRun_of (LS w os)) (piece_app (segRun_of (LU w os)) (piece_app (segRun_of (LV w os)) (piece_app (segRun_of (LW w os)) (piece_app (segRun_of (LX w os)) (piece_app (segRun_of (LY w os)) (piece_app (segRun_of (LZ w os)) (piece_app (segRun_of (L2 w os)) (piece_app (segRun_of (IL w os)) (piece_app (segRun_of (IM w os)) (piece_app (segRun_of (IP w os)) (piece_app (segRun_of (IQ w os)) (Ke w os))))))))))))))))))))))))
def q0:Program:={pw with main:={pw.main with body:=[st 123]}}
theorem IH (w:World):(fencedOpening treeTable pw w 10000).map (fun s=>(s.heap,s.gens,s.drawn,s.toks))=some (boot_heap w.params,#[],boot_drawn,boot_toks):=
 boot_open ∅ ∅ (fun _=>∅) w
theorem I0 (w:World):((boot_heap w.params).isNs mainGlobals&&(#[]:Array GenState).size==0,(boot_heap w.params).objs.size,(boot_heap w.params).nsMap mainGlobals "__annotations__")=(true,11,some (.ref 6)):=∅
def loose:List Str:=[s "count_bits",s "more_than_one",s "highest",s "lowest",s "squares_of",s "WHITE",s "BLACK",s "PAWN",s "KNIGHT",s "BISHOP",s "ROOK",s "QUEEN",s "KING",s "EMPTY",s "side_of",s "kind_of",s "direction",s "between",s "line",s "ChessError",s "STEP_FILES",s "STEP_RANKS",s "Geometry",s "is_growing",s "add_masks",s "inner_squares",s "add_rays",s "add_pawns",s "add_knights",s "add_castles",s "make_geometry",s "ray_attacks",s "rook_attacks",s "bishop_attacks",s "queen_attacks",s "slider_attacks",s "piece_attacks",s "Position",s "put_piece",s "occupied",s "pieces",s "king_square",s "straight_sliders",s "slanting_sliders",s "snipers_of",s "blockers",s "own_rank",s "from_edge",s "HALF",s "WORD",s "wrap_half",s "divide",s "make_score",s "mg_of",s "pawns_of",s "shift_up",s "neighbours",s "pawn_attacks",s "nearest_rank",s "shelter_file",s "shelter",s "MOBILITY_ENDS",s "AttackMap",s "rank_board",s "seen_stops",s "piece_reach",s "attack_map",s "attack_maps",s "area_of",s "mobility_bonus",s "mobility_score",s "RING_WEIGHTS",s "SAFE_CHECKS",s "MOST_DANGER",s "off_edge",s "king_ring",s "guarded_ring",s "ring_attackers",s "weak_squares",s "check_danger",s "flank_files",s "flank_squares",s "storm_count",s "king_danger",s "king_score",s "Zobrist",s "_law_weights",s "_law_checks",s "_law_ends",s "_law_ways",s "_law_jumps",s "_law_board",s "_law_position",s "_law_bits",s "_law_ray",s "_law_hops",s "_law_shields",s "_law_reach",s "_law_looks",s "_law_area",s "_law_cut",s "_law_near",s "_law_cover",s "_law_moving",s "_law_checking",s "_law_ring",s "_law_danger",s "_law_side"]
theorem OG (w:World):staticsOk (importedModules pw.main.body) (boot_heap w.params) (H1 w.params)=true:=∅
theorem OH (w:World):namesBound pw (H1 w.params)=true:=∅
theorem OI (w:World) (os:OsState):gensDone ⟨H1 w.params,#[],{},1441,os⟩=true:=∅
theorem OJ (w:World):laidKept (boot_heap w.params) (H1 w.params)=true:=∅
theorem OK (w:World) (os:OsState):seen ((recsOf q0).map (fun x=>x.name)) (ownsOf q0) [] {heap:=H1 w.params,drawn:={},toks:=1441,os:=os}=expectedOf q0:=∅
theorem OL (w:World):(H1 w.params).bltView=bltViewBooted:=∅
theorem OM (w:World):((H1 w.params).keysOk (looseW q0 loose) ((recsOf q0).map (fun x=>x.name)) ((litsOf q0).map (fun x=>x.1)) ((clssOf q0 (looseW q0 loose)).map (fun x=>x.name)))=true:=∅
theorem J0 (w:World):((H1 w.params).accountedOkI (importedModules pw.main.body)&&(H1 w.params).isNs mainGlobals&&(H1 w.params).isNs builtinsNs&&tablesOk q0 (H1 w.params))=true:=∅
theorem ON (w:World) (os:OsState):tabsOk q0 ⟨H1 w.params,#[],{},1441,os⟩=true:=∅
theorem OO (w:World) (os:OsState):pinSeenD q0 (drecsOf q0) ⟨H1 w.params,#[],{},1441,os⟩=pinGoodD (drecsOf q0):=∅
theorem OP (w:World) (os:OsState):plainSeenE q0 (looseW q0 loose) ⟨H1 w.params,#[],{},1441,os⟩=plainGoodE q0 (looseW q0 loose):=∅
theorem OQ (w:World) (os:OsState):plainSeenD q0 loose ⟨H1 w.params,#[],{},1441,os⟩=plainGoodD q0 loose:=∅
theorem OS (w:World) (os:OsState):wideSeen q0 ⟨H1 w.params,#[],{},1441,os⟩=wideGood q0:=∅
theorem OT (w:World) (os:OsState):clsSeenW q0 loose ⟨H1 w.params,#[],{},1441,os⟩=clsGoodW q0 loose:=∅
theorem Fc (w:World) (os:OsState):openSeen q0 loose (importedModules pw.main.body) (fun _=>true) true ⟨H1 w.params,#[],{},1441,os⟩=openGood q0 loose:=by
 have h2:=J0 w;simp only[z01]at h2;unfold openSeen openGood;dsimp only;rw[OK w os,OL w,OM w,ON w os,OO w os,OP w os,OQ w os,OS w os,OT w os,h2.1.1.1,h2.1.1.2,h2.1.2,h2.2]
 rfl
theorem Fd (w:World):(fun os=>((staticsOk (importedModules pw.main.body) (boot_heap w.params) (H1 w.params)&&namesBound pw (H1 w.params)&&gensDone ⟨H1 w.params,#[],{},1441,os⟩&&laidKept (boot_heap w.params) (H1 w.params)),
 openSeen q0 loose (importedModules pw.main.body) (fun _=>true) true ⟨H1 w.params,#[],{},1441,os⟩,H1 w.params))=fun _=>(true,openGood q0 loose,H1 w.params):=by
 funext os
 rw[OG,OH,OI,OJ,Fc]
 rfl
theorem L7 (w:World) (os:OsState):topRun treeTable pw w 11 (some (.ref 6)) (12+(1+(241+(182+(238+(67+(239+(234+(240+(10+(235+(222+(238+(230+(126+(231+(236+(231+(213+(43+(238+(178+(215+(208+(228+2))))))))))))))))))))))))) ⟨boot_heap w.params,#[],boot_drawn,boot_toks,os⟩ (topStub pw)=some ⟨H1 w.params,#[],{},1441,os⟩:=(L8 w os).trans ∅
theorem Iu:LeftO pw q0 loose (fun _=>true) (fun s=>s.heap) (fun w=>H1 w.params) 10000:=by
 refine LeftO.of_pieces (H₀:=boot_heap) (H₁:=H1) (gs₀:=#[]) (gs₁:=#[]) (d₀:=boot_drawn) (d₁:={}) (k₀:=boot_toks) (k₁:=1441) (m₀:=11) (ann:=some (.ref 6)) (M:=(12+(1+(241+(182+(238+(67+(239+(234+(240+(10+(235+(222+(238+(230+(126+(231+(236+(231+(213+(43+(238+(178+(215+(208+(228+2)))))))))))))))))))))))))) ?_ ?_ ?_ ?_ ?_
 · exact IH
 · exact I0
 · exact L7
 · kernel_rfl
 · exact Fd
def says (w:World) (h:Heap):Prop:=∀b o,(H1 w.params).get? b=some o→h.get? b=some o
def sO:DefRec:=match st 123 with
 |.FunctionDef n a b _ _ _ sc _ _ p=>⟨n,a,b,sc,p⟩
 |_=>⟨s "law",⟨[],[],none,[],[],none,[]⟩,[],default,default⟩
theorem Md:PySem.Challenge.rw_nt0457_01.wellSaid=true:=by
 rw[PySem.W.Fast.te9446332074065402090];unfold PySem.W.Fast.tw9446332074065402090 PySem.W.Fast.tw17960256430627541270 PySem.W.Fast.tw2436336058641802641 PySem.W.Fast.tw12908688711261696721
 repeat' with_reducible refine look_both ?_ ?_
 · kernel_rfl
 · kernel_rfl
 · as_aux_lemma=>kernel_rfl
 · kernel_rfl
 · as_aux_lemma=>kernel_rfl
 · as_aux_lemma=>kernel_rfl
 all_goals kernel_rfl
theorem head (hw:PySem.Challenge.rw_nt0457_01.row.toRowW.promised)
 (call:WalkO q0 loose (fun _ _=>True) says PySem.Challenge.rw_nt0457_01.row.toRowW sO [] fun f vs=>PySem.call f vs):PySem.Challenge.rw_nt0457_01.Holds:=by
 refine holds_law Md fun IX=>?_;refine holds_open (q:=q0) (loose:=loose) (Xt:=fun _=>true) (XP:=fun _ _=>True) (Yf:=fun s=>s.heap) (Ya:=fun w=>H1 w.params) (YP:=says) (N:=10000) (d:=sO) (kwd:=[]) Iu ?_ ?_ ?_ ?_ ?_ ?_ ?_ ?_ ?_ IX ?_ ?_ hw call
 · intro w s e b o h;rw[e];exact h
 · intro w h h' y k b o e;exact k b o (y b o e)
 · intro _ _;trivial
 · intro _ _ _ _ _;trivial
 · kernel_rfl
 · kernel_rfl
 · kernel_rfl
 · exact fun s e=>recFacts_of ∅
 · kernel_rfl
 · kernel_rfl
 · exact⟨rfl,rfl,rfl,rfl,rfl,∅⟩
def bodyOf:Stmt→List Stmt|.FunctionDef _ _ b _ _ _ _ _ _ _=>b|_=>[]
def namesOf:Stmt→Nm|.FunctionDef _ _ _ _ _ _ sc _ _ _=>sc.names|_=>[]
abbrev Lu:Value:=.str (s "law_nt0457_01") 1167
abbrev tr (P:Params):BT:=xm P 723 118 261 2 Lu
def nT (P:Params):Array DictEntry:=(⟨PyData.keyHash P (s "__name__"),.str (s "__name__") 165,Lu⟩::(DI P).take 117).toArray
def gt (l:List Obj) (i:Nat):Obj:=(l.drop i).headD (Mine.fl [])
def KC (P:Params):Frag:=
 [(123,gt (hV P) 16),(122,gt (hV P) 15),(120,gt (hV P) 13),
  (242,gt (hW P) 16),(241,gt (hW P) 15),(239,gt (hW P) 13),
  (415,gt (f3 P) 16),(414,gt (f3 P) 15),(412,gt (f3 P) 13),
  (575,gt (jw P) 16),(574,gt (jw P) 15),(572,gt (jw P) 13)]
def dJ:Hp:=[.tup [.I (0),.I (1),.I (0),.I (-1),.I (1),.I (1),.I (-1),.I (-1)],
 .tup [.I (1),.I (0),.I (-1),.I (0),.I (1),.I (-1),.I (-1),.I (1)],
 .tup [.I (-62),.I (33),.I (-79),.I (27),.I (8)],
 .tup [.I (-47),.I (97),.I (-59),.I (88),.I (13)],
 .tup [.I (-60),.I (62),.I (-82),.I (170),.I (14)],
 .tup [.I (-29),.I (112),.I (-49),.I (204),.I (27)],
 .L [.none,.none,.ref 2,.ref 3,.ref 4,.ref 5],
 .L [.I (0),.I (0),.I (81),.I (52),.I (44),.I (10),.I (0)],
 .tup [.I (803),.I (1292)],
 .tup [.I (639),.I (974)],
 .tup [.I (1087),.I (1878)],
 .tup [.I (759),.I (1132)],
 .L [.none,.none,.ref 8,.ref 9,.ref 10,.ref 11],
 .L [.I (0),.I (0),.I (81),.I (52),.I (44),.I (10),.I (0)],
 .L [],
 .L [],
 .L [.I (0),.I (803),.I (1292)],
 .L [.I (0),.I (639),.I (974)],
 .L [.I (0),.I (1087),.I (1878)],
 .L [.I (0),.I (759),.I (1132)],
 .L [.ref 14,.ref 15,.ref 16,.ref 17,.ref 18,.ref 19],
 .L [],
 .L [],
 .L [.I (-62),.I (33),.I (8)],
 .L [.I (-47),.I (97),.I (13)],
 .L [.I (-60),.I (62),.I (14)],
 .L [.I (-29),.I (112),.I (27)],
 .L [.ref 21,.ref 22,.ref 23,.ref 24,.ref 25,.ref 26],
 .tup [.I (0),.I (1)],
 .tup [.I (1),.I (0)],
 .tup [.I (0),.I (-1)],
 .tup [.I (-1),.I (0)],
 .tup [.I (1),.I (1)],
 .tup [.I (1),.I (-1)],
 .tup [.I (-1),.I (-1)],
 .tup [.I (-1),.I (1)],
 .L [.ref 28,.ref 29,.ref 30,.ref 31,.ref 32,.ref 33,.ref 34,.ref 35],
 .tup [.I (1),.I (2)],
 .tup [.I (2),.I (1)],
 .tup [.I (2),.I (-1)],
 .tup [.I (1),.I (-2)],
 .tup [.I (-1),.I (-2)],
 .tup [.I (-2),.I (-1)],
 .tup [.I (-2),.I (1)],
 .tup [.I (-1),.I (2)],
 .L [.ref 37,.ref 38,.ref 39,.ref 40,.ref 41,.ref 42,.ref 43,.ref 44]]
def b_:Io:=[(105,105),(106,106),(394,394),(395,395),(396,396),(397,397),(398,398),(476,476),(477,477),(478,478),(479,479),(480,480),(481,481),(580,580),(581,581),(582,582),(583,583),(584,584),(585,585),(586,586),(587,587),(588,588),(589,589),(590,590),(591,591),(592,592),(593,593),(594,594),(595,595),(596,596),(597,597),(598,598),(599,599),(600,600),(601,601),(602,602),(603,603),(604,604),(605,605),(606,606),(607,607),(608,608),(609,609),(610,610),(611,611),(612,612)]
theorem eN:dJ.length=46:=rfl
theorem cQ:b_.length=46:=rfl
set_option tactic.hygienic true in
theorem tS {o o':Obj} (h:alive o=some o'):alive o=some o:=by
 unfold alive at h⊢
 split at h
 · cases h
 · rename_i q;simp[q]
structure Pg (C:Cx):Prop where
 ok:Ea C
 says:∀b o,(H1 C.w.params).get? b=some o→C.aA.get? b=some o
 K:C.K=KC C.w.params
 jd:∃l,C.jd=b_++l
section
variable {C:Cx} (P:Pg C)
include P
theorem Pg.at_ {a:Nat} {o:Obj} (lt:a<723) (g:(tr C.w.params).get a=some o) (al:alive o=some o):C.aA.get? a=some o:=P.says a o ((abs_get lt g).trans al)
theorem Pg.Hl:C.aA.get? 3=some (glob C.w.params 118 Lu):=P.at_ nofun ∅ ∅
theorem Pg.mg (x:Str):C.mg x=nsFind (nT C.w.params) x:=by
 injection C x with P
 obtain(⟨o,es,ep,h1,h2,_,h3⟩):=P.ok.g;have h1:C.aA.get? 3=some o:=h1;rw[P.Hl]at h1
 cases h1
 have:es=nT C.w.params:=by
  have:(Data.dict (nT C.w.params) 118:Data)=Data.dict es ep:=h2
  cases this;rfl
 rw[←h3 x,this]
theorem Pg.val {x:Str} {v:V} {v':Value} (e:nsFind (nT C.w.params) x=some v') (r:VR C.jd v v'):bV C x v:=⟨v',(P.mg x).trans e,r⟩
theorem Pg.ref {x:Str} {n:Nat} {a:Addr} (e:nsFind (nT C.w.params) x=some (.ref a)) (r:b_[n]? =some (a,a)):bV C x (.ref n):=by
 refine P.val e ?_;obtain⟨l,hl⟩:=P.jd;refine .ref (p:=(a,a)) ?_;rw[hl,z09 (z06.mp r).1];exact r
theorem Pg.int {x:Str} {i:Int} {t:Tok} (e:nsFind (nT C.w.params) x=some (.int i t)):bV C x (.I i):=P.val e (.I i t)
theorem Pg.gj:bV C (s "WHITE") (.I (0)):=P.int (t:=231) ∅
theorem Pg.tD:bV C (s "BLACK") (.I (1)):=P.int (t:=233) ∅
theorem Pg.fq:bV C (s "PAWN") (.I (1)):=P.int (t:=235) ∅
theorem Pg.fU:bV C (s "KNIGHT") (.I (2)):=P.int (t:=237) ∅
theorem Pg.dO:bV C (s "BISHOP") (.I (3)):=P.int (t:=239) ∅
theorem Pg.fu:bV C (s "ROOK") (.I (4)):=P.int (t:=241) ∅
theorem Pg.cB:bV C (s "QUEEN") (.I (5)):=P.int (t:=243) ∅
theorem Pg.fj:bV C (s "KING") (.I (6)):=P.int (t:=245) ∅
theorem Pg.Dr:bV C (s "EMPTY") (.I (0)):=P.int (t:=247) ∅
theorem Pg.Bv:bV C (s "HALF") (.I (32768)):=P.int (t:=696) ∅
theorem Pg.FL:bV C (s "WORD") (.I (65536)):=P.int (t:=700) ∅
theorem Pg.qq:bV C (s "MOST_DANGER") (.I (5000)):=P.int (t:=991) ∅
theorem Pg.tE:bV C (s "STEP_FILES") (.ref 0):=P.ref (a:=105) ∅ ∅
theorem Pg.tG:bV C (s "STEP_RANKS") (.ref 1):=P.ref (a:=106) ∅ ∅
theorem Pg.c6:bV C (s "MOBILITY_ENDS") (.ref 6):=P.ref (a:=398) ∅ ∅
theorem Pg.pf:bV C (s "RING_WEIGHTS") (.ref 7):=P.ref (a:=476) ∅ ∅
theorem Pg.qt:bV C (s "SAFE_CHECKS") (.ref 12):=P.ref (a:=481) ∅ ∅
theorem Pg.qu:bV C (s "_law_weights") (.ref 13):=P.ref (a:=580) ∅ ∅
theorem Pg.tH:bV C (s "_law_checks") (.ref 20):=P.ref (a:=587) ∅ ∅
theorem Pg.xn:bV C (s "_law_ends") (.ref 27):=P.ref (a:=594) ∅ ∅
theorem Pg.gk:bV C (s "_law_ways") (.ref 36):=P.ref (a:=603) ∅ ∅
theorem Pg.ma:bV C (s "_law_jumps") (.ref 45):=P.ref (a:=612) ∅ ∅
def FH (q:Str):Option Value→Bool
 |some (.str x _)=>x==q
 |_=>false
def Hi (q:Str):Data→Bool
 |.fields vs=>FH q vs[1]?
 |_=>false
def codeB (o:Option Obj) (q:Str):Bool:=match o with
 |some o=>(alive o).isSome&&Hi q o.data
 |none=>false
omit P in
theorem Bl {q:Str} {o:Option Value} (h:FH q o=true):∃t,o=some (.str q t):=by
 cases o with
 |none=>cases h
 |some x=>cases x with
  |str x t=>exact⟨t,eq_of_beq h▸rfl⟩
  |_=>exact(z22 h).elim
omit P in
theorem zY {q:Str} {d:Data} (h:Hi q d=true):∃vs,d=.fields vs∧FH q vs[1]? =true:=by
 cases d with
 |fields vs=>exact⟨vs,rfl,h⟩
 |_=>exact(z22 h).elim
theorem Pg.code {a:Nat} {q:Str} (lt:a<723) (h:codeB ((tr C.w.params).get a) q=true):C.aA.CodeRec (.ref a) q:=by
 injection C a q with P lt h
 cases g:(tr C.w.params).get a with
 |none=>rw[g]at h;cases h
 |some o=>
  rw[g]at h;have⟨al,h⟩:=Bool.and_eq_true_iff.mp h;obtain⟨o',al⟩:=Option.isSome_iff_exists.mp al;obtain⟨vs,hv,h⟩:=zY h;obtain⟨t,hx⟩:=Bl h;exact⟨a,o,vs,t,rfl,P.at_ lt g (tS al),hv,hx⟩
def NG (d:Stmt) (n:Nat):Bool:=match d with
 |.FunctionDef _ _ _ _ _ _ sc _ _ _=>!sc.isCoroutine&&!sc.isGenerator&&(match sc.kind with|.function=>true|_=>false)&&decide ((sc.names.map (·.1)).Nodup)&&decide (n≤sc.names.length)&&(sc.names.take n).all (fun p=>p.2==.local||p.2==.cell)
 |_=>false
def fd (d:Stmt) (q:String) (pm:Value) (cd:Nat):FuncData:=Hg d (s q) 3 .none pm (.ref cd) 0
abbrev bindB (d:Stmt) (q:String) (pm:Value) (cd n:Nat) (vs:List Value):Prop:=bindArgs (fd d q pm cd) ⟨vs,[]⟩=pure ((((namesOf d).take n).map (·.1)).zip vs)
omit P in
inductive JK (n:Nat):Stmt→Prop
 |mk {n1 n2 n3 n4 n5 n6} (sc:Scope) {n8 n9 Qj} (h1:sc.isCoroutine=false) (h2:sc.isGenerator=false) (h3:sc.kind=.function) (h4:(sc.names.map (·.1)).Nodup) (h5:n≤sc.names.length) (h6:(sc.names.take n).all (fun p=>p.2==.local||p.2==.cell)=true):JK n (.FunctionDef n1 n2 n3 n4 n5 n6 sc n8 n9 Qj)
omit P in
theorem HS {d:Stmt} {n:Nat} (hf:NG d n=true):JK n d:=by
 cases d with
 |FunctionDef _ _ _ _ _ _ sc _ _ _=>
  have⟨hf,h6⟩:=Bool.and_eq_true_iff.mp hf;have⟨hf,h5⟩:=Bool.and_eq_true_iff.mp hf;have⟨hf,h4⟩:=Bool.and_eq_true_iff.mp hf;have⟨hf,h3⟩:=Bool.and_eq_true_iff.mp hf;have⟨h1,h2⟩:=Bool.and_eq_true_iff.mp hf;refine⟨sc,(Bool.not_eq_true' _).mp h1,(Bool.not_eq_true' _).mp h2,?_,z03 h4,z03 h5,h6⟩
  cases q:sc.kind<;>rw[q]at h3<;>first|rfl|cases h3
 |_=>exact(z22 hf).elim
theorem Pg.fn {a cd n:Nat} {d:Stmt} {q:String} {pm:Value} (hbi:∀vs:List Value,vs.length=n→bindB d q pm cd n vs) (hf:JK n d) (hc:codeB ((tr C.w.params).get cd) (s q)=true) (l1:a<723) (l2:cd<723)
 (g:(tr C.w.params).get a=some (fo d q pm cd)):FnAt C a (namesOf d) n (bodyOf d):=by
 have hbi:∀vs:List Value,vs.length=n→bindArgs (Hg d (s q) 3 .none pm (.ref cd) 0) ⟨vs,[]⟩=pure ((((namesOf d).take n).map (·.1)).zip vs):=hbi
 cases hf with
 |mk sc h1 h2 h3 h4 h5 h6=>
  refine⟨⟨_,_,P.at_ l1 g rfl,rfl,P.code l2 hc,rfl,rfl,rfl,h1,h2,h3,rfl,rfl,hbi⟩,h4,h5,fun i x kd hi hx=>?_⟩;have:=List.all_eq_true.mp h6 (x,kd) (by rw[List.mem_take_iff_getElem];obtain⟨h,e⟩:=z06.mp hx;exact⟨i,Nat.lt_min.mpr ⟨hi,h⟩,e⟩)
  simpa using this
omit P in
theorem L0 {p:List Value→Prop} (h:p []):∀vs:List Value,vs.length=0→p vs:=fun vs e=>List.eq_nil_of_length_eq_zero e▸h
omit P in
theorem Ls {n:Nat} {p:List Value→Prop} (h:∀a,∀vs:List Value,vs.length=n→p (a::vs)):∀vs:List Value,vs.length=n+1→p vs
 |a::vs,e=>h a vs (Nat.succ.inj e)
theorem Pg.fk {a cd n:Nat} {d:Stmt} {q:String} {pm:Value} (hbi:∀vs:List Value,vs.length=n→bindB d q pm cd n vs) (h:(NG d n,codeB ((tr C.w.params).get cd) (s q),Nat.blt a 723,Nat.blt cd 723,(tr C.w.params).get a)=(true,true,true,true,some (fo d q pm cd))):FnAt C a (namesOf d) n (bodyOf d):=
 have⟨h1,h⟩:=Prod.mk.inj h;have⟨h2,h⟩:=Prod.mk.inj h;have⟨h3,h⟩:=Prod.mk.inj h;have⟨h4,h⟩:=Prod.mk.inj h
 P.fn hbi (HS h1) h2 (z23 h3) (z23 h4) h
theorem Pg.rM:FnAt C 21 (namesOf (st 1)) 1 (bodyOf (st 1)):=P.fk (cd:=20) (q:="count_bits") (pm:=p0) (Ls fun _=>L0 ∅) ∅
theorem Pg.mC:FnAt C 28 (namesOf (st 2)) 1 (bodyOf (st 2)):=P.fk (cd:=27) (q:="more_than_one") (pm:=p0) (Ls fun _=>L0 ∅) ∅
theorem Pg.yy:FnAt C 35 (namesOf (st 3)) 1 (bodyOf (st 3)):=P.fk (cd:=34) (q:="highest") (pm:=p0) (Ls fun _=>L0 ∅) ∅
theorem Pg.zV:FnAt C 42 (namesOf (st 4)) 1 (bodyOf (st 4)):=P.fk (cd:=41) (q:="lowest") (pm:=p0) (Ls fun _=>L0 ∅) ∅
theorem Pg.rW:FnAt C 49 (namesOf (st 5)) 1 (bodyOf (st 5)):=P.fk (cd:=48) (q:="squares_of") (pm:=p0) (Ls fun _=>L0 ∅) ∅
theorem Pg.yD:FnAt C 56 (namesOf (st 16)) 1 (bodyOf (st 16)):=P.fk (cd:=55) (q:="side_of") (pm:=p1) (Ls fun _=>L0 ∅) ∅
theorem Pg.yz:FnAt C 63 (namesOf (st 17)) 1 (bodyOf (st 17)):=P.fk (cd:=62) (q:="kind_of") (pm:=p1) (Ls fun _=>L0 ∅) ∅
theorem Pg.ub:FnAt C 70 (namesOf (st 19)) 3 (bodyOf (st 19)):=P.fk (cd:=69) (q:="direction") (pm:=p2) (Ls fun _=>Ls fun _=>Ls fun _=>L0 ∅) ∅
theorem Pg.yw:FnAt C 77 (namesOf (st 20)) 3 (bodyOf (st 20)):=P.fk (cd:=76) (q:="between") (pm:=p2) (Ls fun _=>Ls fun _=>Ls fun _=>L0 ∅) ∅
theorem Pg.Ey:FnAt C 84 (namesOf (st 21)) 3 (bodyOf (st 21)):=P.fk (cd:=83) (q:="line") (pm:=p2) (Ls fun _=>Ls fun _=>Ls fun _=>L0 ∅) ∅
theorem Pg.mq:FnAt C 120 (namesOf (mt 27 0)) 5 (bodyOf (mt 27 0)):=P.fk (cd:=119) (q:="Geometry.__init__") (pm:=p4) (Ls fun _=>Ls fun _=>Ls fun _=>Ls fun _=>Ls fun _=>L0 ∅) ∅
theorem Pg.rN:FnAt C 134 (namesOf (st 28)) 1 (bodyOf (st 28)):=P.fk (cd:=133) (q:="is_growing") (pm:=p4) (Ls fun _=>L0 ∅) ∅
theorem Pg.t_:FnAt C 141 (namesOf (st 29)) 1 (bodyOf (st 29)):=P.fk (cd:=140) (q:="add_masks") (pm:=p4) (Ls fun _=>L0 ∅) ∅
theorem Pg.my:FnAt C 148 (namesOf (st 30)) 2 (bodyOf (st 30)):=P.fk (cd:=147) (q:="inner_squares") (pm:=p4) (Ls fun _=>Ls fun _=>L0 ∅) ∅
theorem Pg.vV:FnAt C 155 (namesOf (st 31)) 1 (bodyOf (st 31)):=P.fk (cd:=154) (q:="add_rays") (pm:=p4) (Ls fun _=>L0 ∅) ∅
theorem Pg.ua:FnAt C 162 (namesOf (st 32)) 1 (bodyOf (st 32)):=P.fk (cd:=161) (q:="add_pawns") (pm:=p4) (Ls fun _=>L0 ∅) ∅
theorem Pg.pL:FnAt C 169 (namesOf (st 33)) 1 (bodyOf (st 33)):=P.fk (cd:=168) (q:="add_knights") (pm:=p4) (Ls fun _=>L0 ∅) ∅
theorem Pg.pK:FnAt C 176 (namesOf (st 34)) 1 (bodyOf (st 34)):=P.fk (cd:=175) (q:="add_castles") (pm:=p4) (Ls fun _=>L0 ∅) ∅
theorem Pg.mz:FnAt C 183 (namesOf (st 35)) 4 (bodyOf (st 35)):=P.fk (cd:=182) (q:="make_geometry") (pm:=p4) (Ls fun _=>Ls fun _=>Ls fun _=>Ls fun _=>L0 ∅) ∅
theorem Pg.pS:FnAt C 190 (namesOf (st 37)) 4 (bodyOf (st 37)):=P.fk (cd:=189) (q:="ray_attacks") (pm:=p5) (Ls fun _=>Ls fun _=>Ls fun _=>Ls fun _=>L0 ∅) ∅
theorem Pg.nQ:FnAt C 197 (namesOf (st 38)) 3 (bodyOf (st 38)):=P.fk (cd:=196) (q:="rook_attacks") (pm:=p5) (Ls fun _=>Ls fun _=>Ls fun _=>L0 ∅) ∅
theorem Pg.kS:FnAt C 204 (namesOf (st 39)) 3 (bodyOf (st 39)):=P.fk (cd:=203) (q:="bishop_attacks") (pm:=p5) (Ls fun _=>Ls fun _=>Ls fun _=>L0 ∅) ∅
theorem Pg.mE:FnAt C 211 (namesOf (st 40)) 3 (bodyOf (st 40)):=P.fk (cd:=210) (q:="queen_attacks") (pm:=p5) (Ls fun _=>Ls fun _=>Ls fun _=>L0 ∅) ∅
theorem Pg.kX:FnAt C 218 (namesOf (st 41)) 4 (bodyOf (st 41)):=P.fk (cd:=217) (q:="slider_attacks") (pm:=p5) (Ls fun _=>Ls fun _=>Ls fun _=>Ls fun _=>L0 ∅) ∅
theorem Pg.mD:FnAt C 225 (namesOf (st 42)) 5 (bodyOf (st 42)):=P.fk (cd:=224) (q:="piece_attacks") (pm:=p5) (Ls fun _=>Ls fun _=>Ls fun _=>Ls fun _=>Ls fun _=>L0 ∅) ∅
theorem Pg.mv:FnAt C 239 (namesOf (mt 44 0)) 3 (bodyOf (mt 44 0)):=P.fk (cd:=238) (q:="Position.__init__") (pm:=p6) (Ls fun _=>Ls fun _=>Ls fun _=>L0 ∅) ∅
theorem Pg.ui:FnAt C 253 (namesOf (st 45)) 3 (bodyOf (st 45)):=P.fk (cd:=252) (q:="put_piece") (pm:=p6) (Ls fun _=>Ls fun _=>Ls fun _=>L0 ∅) ∅
theorem Pg.wc:FnAt C 260 (namesOf (st 46)) 1 (bodyOf (st 46)):=P.fk (cd:=259) (q:="occupied") (pm:=p6) (Ls fun _=>L0 ∅) ∅
theorem Pg.zW:FnAt C 267 (namesOf (st 47)) 3 (bodyOf (st 47)):=P.fk (cd:=266) (q:="pieces") (pm:=p6) (Ls fun _=>Ls fun _=>Ls fun _=>L0 ∅) ∅
theorem Pg.pP:FnAt C 274 (namesOf (st 48)) 2 (bodyOf (st 48)):=P.fk (cd:=273) (q:="king_square") (pm:=p6) (Ls fun _=>Ls fun _=>L0 ∅) ∅
theorem Pg.i3:FnAt C 281 (namesOf (st 50)) 1 (bodyOf (st 50)):=P.fk (cd:=280) (q:="straight_sliders") (pm:=p7) (Ls fun _=>L0 ∅) ∅
theorem Pg.i1:FnAt C 288 (namesOf (st 51)) 1 (bodyOf (st 51)):=P.fk (cd:=287) (q:="slanting_sliders") (pm:=p7) (Ls fun _=>L0 ∅) ∅
theorem Pg.rV:FnAt C 295 (namesOf (st 52)) 2 (bodyOf (st 52)):=P.fk (cd:=294) (q:="snipers_of") (pm:=p7) (Ls fun _=>Ls fun _=>L0 ∅) ∅
theorem Pg.vW:FnAt C 302 (namesOf (st 53)) 2 (bodyOf (st 53)):=P.fk (cd:=301) (q:="blockers") (pm:=p7) (Ls fun _=>Ls fun _=>L0 ∅) ∅
theorem Pg.we:FnAt C 309 (namesOf (st 55)) 3 (bodyOf (st 55)):=P.fk (cd:=308) (q:="own_rank") (pm:=p8) (Ls fun _=>Ls fun _=>Ls fun _=>L0 ∅) ∅
theorem Pg.uc:FnAt C 316 (namesOf (st 56)) 2 (bodyOf (st 56)):=P.fk (cd:=315) (q:="from_edge") (pm:=p8) (Ls fun _=>Ls fun _=>L0 ∅) ∅
theorem Pg.uj:FnAt C 323 (namesOf (st 60)) 1 (bodyOf (st 60)):=P.fk (cd:=322) (q:="wrap_half") (pm:=p9) (Ls fun _=>L0 ∅) ∅
theorem Pg.zU:FnAt C 330 (namesOf (st 61)) 2 (bodyOf (st 61)):=P.fk (cd:=329) (q:="divide") (pm:=p9) (Ls fun _=>Ls fun _=>L0 ∅) ∅
theorem Pg.rR:FnAt C 337 (namesOf (st 62)) 2 (bodyOf (st 62)):=P.fk (cd:=336) (q:="make_score") (pm:=p9) (Ls fun _=>Ls fun _=>L0 ∅) ∅
theorem Pg.Cr:FnAt C 344 (namesOf (st 63)) 1 (bodyOf (st 63)):=P.fk (cd:=343) (q:="mg_of") (pm:=p9) (Ls fun _=>L0 ∅) ∅
theorem Pg.wg:FnAt C 351 (namesOf (st 65)) 2 (bodyOf (st 65)):=P.fk (cd:=350) (q:="pawns_of") (pm:=xX) (Ls fun _=>Ls fun _=>L0 ∅) ∅
theorem Pg.wh:FnAt C 358 (namesOf (st 66)) 3 (bodyOf (st 66)):=P.fk (cd:=357) (q:="shift_up") (pm:=xX) (Ls fun _=>Ls fun _=>Ls fun _=>L0 ∅) ∅
theorem Pg.rS:FnAt C 365 (namesOf (st 67)) 2 (bodyOf (st 67)):=P.fk (cd:=364) (q:="neighbours") (pm:=xX) (Ls fun _=>Ls fun _=>L0 ∅) ∅
theorem Pg.nP:FnAt C 372 (namesOf (st 68)) 3 (bodyOf (st 68)):=P.fk (cd:=371) (q:="pawn_attacks") (pm:=xX) (Ls fun _=>Ls fun _=>Ls fun _=>L0 ∅) ∅
theorem Pg.nO:FnAt C 379 (namesOf (st 69)) 4 (bodyOf (st 69)):=P.fk (cd:=378) (q:="nearest_rank") (pm:=xX) (Ls fun _=>Ls fun _=>Ls fun _=>Ls fun _=>L0 ∅) ∅
theorem Pg.nR:FnAt C 386 (namesOf (st 70)) 3 (bodyOf (st 70)):=P.fk (cd:=385) (q:="shelter_file") (pm:=xX) (Ls fun _=>Ls fun _=>Ls fun _=>L0 ∅) ∅
theorem Pg.yC:FnAt C 393 (namesOf (st 71)) 2 (bodyOf (st 71)):=P.fk (cd:=392) (q:="shelter") (pm:=xX) (Ls fun _=>Ls fun _=>L0 ∅) ∅
theorem Pg.kR:FnAt C 412 (namesOf (mt 74 0)) 6 (bodyOf (mt 74 0)):=P.fk (cd:=411) (q:="AttackMap.__init__") (pm:=tj) (Ls fun _=>Ls fun _=>Ls fun _=>Ls fun _=>Ls fun _=>Ls fun _=>L0 ∅) ∅
theorem Pg.rT:FnAt C 426 (namesOf (st 75)) 3 (bodyOf (st 75)):=P.fk (cd:=425) (q:="rank_board") (pm:=tj) (Ls fun _=>Ls fun _=>Ls fun _=>L0 ∅) ∅
theorem Pg.rU:FnAt C 433 (namesOf (st 76)) 3 (bodyOf (st 76)):=P.fk (cd:=432) (q:="seen_stops") (pm:=tj) (Ls fun _=>Ls fun _=>Ls fun _=>L0 ∅) ∅
theorem Pg.pR:FnAt C 440 (namesOf (st 77)) 5 (bodyOf (st 77)):=P.fk (cd:=439) (q:="piece_reach") (pm:=tj) (Ls fun _=>Ls fun _=>Ls fun _=>Ls fun _=>Ls fun _=>L0 ∅) ∅
theorem Pg.rL:FnAt C 447 (namesOf (st 78)) 2 (bodyOf (st 78)):=P.fk (cd:=446) (q:="attack_map") (pm:=tj) (Ls fun _=>Ls fun _=>L0 ∅) ∅
theorem Pg.pM:FnAt C 454 (namesOf (st 79)) 1 (bodyOf (st 79)):=P.fk (cd:=453) (q:="attack_maps") (pm:=tj) (Ls fun _=>L0 ∅) ∅
theorem Pg.yv:FnAt C 461 (namesOf (st 80)) 3 (bodyOf (st 80)):=P.fk (cd:=460) (q:="area_of") (pm:=tj) (Ls fun _=>Ls fun _=>Ls fun _=>L0 ∅) ∅
theorem Pg.kT:FnAt C 468 (namesOf (st 81)) 2 (bodyOf (st 81)):=P.fk (cd:=467) (q:="mobility_bonus") (pm:=tj) (Ls fun _=>Ls fun _=>L0 ∅) ∅
theorem Pg.kU:FnAt C 475 (namesOf (st 82)) 3 (bodyOf (st 82)):=P.fk (cd:=474) (q:="mobility_score") (pm:=tj) (Ls fun _=>Ls fun _=>Ls fun _=>L0 ∅) ∅
theorem Pg.wd:FnAt C 488 (namesOf (st 87)) 2 (bodyOf (st 87)):=P.fk (cd:=487) (q:="off_edge") (pm:=pE) (Ls fun _=>Ls fun _=>L0 ∅) ∅
theorem Pg.ud:FnAt C 495 (namesOf (st 88)) 2 (bodyOf (st 88)):=P.fk (cd:=494) (q:="king_ring") (pm:=pE) (Ls fun _=>Ls fun _=>L0 ∅) ∅
theorem Pg.nL:FnAt C 502 (namesOf (st 89)) 3 (bodyOf (st 89)):=P.fk (cd:=501) (q:="guarded_ring") (pm:=pE) (Ls fun _=>Ls fun _=>Ls fun _=>L0 ∅) ∅
theorem Pg.kW:FnAt C 509 (namesOf (st 90)) 4 (bodyOf (st 90)):=P.fk (cd:=508) (q:="ring_attackers") (pm:=pE) (Ls fun _=>Ls fun _=>Ls fun _=>Ls fun _=>L0 ∅) ∅
theorem Pg.nS:FnAt C 516 (namesOf (st 91)) 2 (bodyOf (st 91)):=P.fk (cd:=515) (q:="weak_squares") (pm:=pE) (Ls fun _=>Ls fun _=>L0 ∅) ∅
theorem Pg.nK:FnAt C 523 (namesOf (st 92)) 3 (bodyOf (st 92)):=P.fk (cd:=522) (q:="check_danger") (pm:=pE) (Ls fun _=>Ls fun _=>Ls fun _=>L0 ∅) ∅
theorem Pg.pN:FnAt C 530 (namesOf (st 93)) 2 (bodyOf (st 93)):=P.fk (cd:=529) (q:="flank_files") (pm:=pE) (Ls fun _=>Ls fun _=>L0 ∅) ∅
theorem Pg.mx:FnAt C 537 (namesOf (st 94)) 3 (bodyOf (st 94)):=P.fk (cd:=536) (q:="flank_squares") (pm:=pE) (Ls fun _=>Ls fun _=>Ls fun _=>L0 ∅) ∅
theorem Pg.pT:FnAt C 544 (namesOf (st 95)) 3 (bodyOf (st 95)):=P.fk (cd:=543) (q:="storm_count") (pm:=pE) (Ls fun _=>Ls fun _=>Ls fun _=>L0 ∅) ∅
theorem Pg.pO:FnAt C 551 (namesOf (st 96)) 3 (bodyOf (st 96)):=P.fk (cd:=550) (q:="king_danger") (pm:=pE) (Ls fun _=>Ls fun _=>Ls fun _=>L0 ∅) ∅
theorem Pg.rO:FnAt C 558 (namesOf (st 97)) 3 (bodyOf (st 97)):=P.fk (cd:=557) (q:="king_score") (pm:=pE) (Ls fun _=>Ls fun _=>Ls fun _=>L0 ∅) ∅
theorem Pg.nJ:FnAt C 572 (namesOf (mt 99 0)) 5 (bodyOf (mt 99 0)):=P.fk (cd:=571) (q:="Zobrist.__init__") (pm:=LC) (Ls fun _=>Ls fun _=>Ls fun _=>Ls fun _=>Ls fun _=>L0 ∅) ∅
theorem Pg.ue:FnAt C 619 (namesOf (st 106)) 3 (bodyOf (st 106)):=P.fk (cd:=618) (q:="_law_board") (pm:=gJ) (Ls fun _=>Ls fun _=>Ls fun _=>L0 ∅) ∅
theorem Pg.nN:FnAt C 624 (namesOf (st 107)) 3 (bodyOf (st 107)):=P.fk (cd:=623) (q:="_law_position") (pm:=gJ) (Ls fun _=>Ls fun _=>Ls fun _=>L0 ∅) ∅
theorem Pg.vY:FnAt C 631 (namesOf (st 108)) 1 (bodyOf (st 108)):=P.fk (cd:=630) (q:="_law_bits") (pm:=gJ) (Ls fun _=>L0 ∅) ∅
theorem Pg.yB:FnAt C 638 (namesOf (st 109)) 6 (bodyOf (st 109)):=P.fk (cd:=637) (q:="_law_ray") (pm:=gJ) (Ls fun _=>Ls fun _=>Ls fun _=>Ls fun _=>Ls fun _=>Ls fun _=>L0 ∅) ∅
theorem Pg.vZ:FnAt C 645 (namesOf (st 110)) 4 (bodyOf (st 110)):=P.fk (cd:=644) (q:="_law_hops") (pm:=gJ) (Ls fun _=>Ls fun _=>Ls fun _=>Ls fun _=>L0 ∅) ∅
theorem Pg.pQ:FnAt C 652 (namesOf (st 111)) 4 (bodyOf (st 111)):=P.fk (cd:=651) (q:="_law_shields") (pm:=gJ) (Ls fun _=>Ls fun _=>Ls fun _=>Ls fun _=>L0 ∅) ∅
theorem Pg.uh:FnAt C 657 (namesOf (st 112)) 5 (bodyOf (st 112)):=P.fk (cd:=656) (q:="_law_reach") (pm:=gJ) (Ls fun _=>Ls fun _=>Ls fun _=>Ls fun _=>Ls fun _=>L0 ∅) ∅
theorem Pg.ug:FnAt C 664 (namesOf (st 113)) 4 (bodyOf (st 113)):=P.fk (cd:=663) (q:="_law_looks") (pm:=gJ) (Ls fun _=>Ls fun _=>Ls fun _=>Ls fun _=>L0 ∅) ∅
theorem Pg.vX:FnAt C 671 (namesOf (st 114)) 6 (bodyOf (st 114)):=P.fk (cd:=670) (q:="_law_area") (pm:=gJ) (Ls fun _=>Ls fun _=>Ls fun _=>Ls fun _=>Ls fun _=>Ls fun _=>L0 ∅) ∅
theorem Pg.yA:FnAt C 678 (namesOf (st 115)) 2 (bodyOf (st 115)):=P.fk (cd:=677) (q:="_law_cut") (pm:=gJ) (Ls fun _=>Ls fun _=>L0 ∅) ∅
theorem Pg.v_:FnAt C 685 (namesOf (st 116)) 5 (bodyOf (st 116)):=P.fk (cd:=684) (q:="_law_near") (pm:=gJ) (Ls fun _=>Ls fun _=>Ls fun _=>Ls fun _=>Ls fun _=>L0 ∅) ∅
theorem Pg.uf:FnAt C 690 (namesOf (st 117)) 5 (bodyOf (st 117)):=P.fk (cd:=689) (q:="_law_cover") (pm:=gJ) (Ls fun _=>Ls fun _=>Ls fun _=>Ls fun _=>Ls fun _=>L0 ∅) ∅
theorem Pg.rQ:FnAt C 695 (namesOf (st 118)) 6 (bodyOf (st 118)):=P.fk (cd:=694) (q:="_law_moving") (pm:=gJ) (Ls fun _=>Ls fun _=>Ls fun _=>Ls fun _=>Ls fun _=>Ls fun _=>L0 ∅) ∅
theorem Pg.nM:FnAt C 700 (namesOf (st 119)) 7 (bodyOf (st 119)):=P.fk (cd:=699) (q:="_law_checking") (pm:=gJ) (Ls fun _=>Ls fun _=>Ls fun _=>Ls fun _=>Ls fun _=>Ls fun _=>Ls fun _=>L0 ∅) ∅
theorem Pg.wa:FnAt C 705 (namesOf (st 120)) 3 (bodyOf (st 120)):=P.fk (cd:=704) (q:="_law_ring") (pm:=gJ) (Ls fun _=>Ls fun _=>Ls fun _=>L0 ∅) ∅
theorem Pg.rP:FnAt C 710 (namesOf (st 121)) 9 (bodyOf (st 121)):=P.fk (cd:=709) (q:="_law_danger") (pm:=gJ) (Ls fun _=>Ls fun _=>Ls fun _=>Ls fun _=>Ls fun _=>Ls fun _=>Ls fun _=>Ls fun _=>Ls fun _=>L0 ∅) ∅
theorem Pg.wb:FnAt C 715 (namesOf (st 122)) 8 (bodyOf (st 122)):=P.fk (cd:=714) (q:="_law_side") (pm:=gJ) (Ls fun _=>Ls fun _=>Ls fun _=>Ls fun _=>Ls fun _=>Ls fun _=>Ls fun _=>Ls fun _=>L0 ∅) ∅
theorem Pg.He:FnAt C 722 (namesOf (st 123)) 1 (bodyOf (st 123)):=P.fk (cd:=721) (q:="law") (pm:=gJ) (Ls fun _=>L0 ∅) ∅
end
def AN (P:Params) (x:Str):Bool:=match nsFind (nT P) x with
 |some (.ref a)=>decide (a<723)&&(match(tr P).get a with
  |some o=>(alive o).isSome&&(match o.data with|.func _=>true|.cls _=>keepIn (KC P) (.ref a)|_=>false)
  |none=>false)
 |some _=>false
 |none=>!(x==("__name__":Str))&&(match bootBuiltins x with|some (.builtin _)=>true|some (.type _)=>true|_=>false)
theorem C1 (P:Params):calls.all (AN P)=true:=∅
set_option tactic.hygienic true in
theorem Pg.res {C:Cx} (P:Pg C):∀x,calls.contains x=true→eO C x:=by
 injection C with P
 rintro-x hx;have h:=List.all_eq_true.mp (C1 C.w.params) x (List.contains_iff_mem.mp hx);unfold AN at h;have hm:=P.mg x
 split at h
 · rename_i a e
   rw[e]at hm;simp only[z01,z00]at h;obtain(⟨lt,h⟩):=h
   split at h
   · rename_i o ho
     simp only[z01]at h;obtain(⟨h1,h2⟩):=h;obtain(⟨o',al⟩):=Option.isSome_iff_exists.mp h1;have at_:=P.at_ lt ho (tS al);refine .inl ⟨a,hm,?_⟩
     split at h2
     · rename_i fd hd;exact .inl ⟨o,fd,at_,hd⟩
     · exact .inr (by rw[P.K];exact h2)
     · cases h2
   · cases h
 · cases h
 · rename_i e
   rw[e]at hm;simp only[z01,Bool.not_eq_true',beq_eq_false_iff_ne]at h;obtain(⟨h1,h2⟩):=h
   split at h2
   · rename_i id hb;exact .inr (.inl ⟨id,hm,hb,h1⟩)
   · rename_i T hb;exact .inr (.inr ⟨T,hm,hb,h1⟩)
   · cases h2
def DO:Value→Bool|.none=>true|_=>false
def HQ:Value→Option Int|.int j _=>some j|_=>none
def y7:Value→Option Addr|.ref a=>some a|_=>none
def Ft (x:V) (v:Value):Bool:=match x with
 |.none=>DO v
 |.I i=>HQ v==some i
 |.ref n=>(y7 v).isSome&&b_[n]? ==(y7 v).map fun a=>(a,a)
 |.bool _=>false
def q4:List V→List Value→Bool
 |[],vs=>vs.isEmpty
 |x::xs,vs=>match vs with|[]=>false|v::vs=>Ft x v&&q4 xs vs
def Dc:Data→Option (Array Value)|.seq vs _=>some vs|_=>none
def Mi:Value→Option String|.type c=>some c|_=>none
def Fs (c:String) (xs:List V) (o:Obj):Bool:=Mi o.cls==some c&&(o.2.isNone&&(decide (o.4.size=0)&&(match Dc o.data with|some vs=>q4 xs vs.toList|none=>false)))
def AQ (x:O) (o:Option Obj):Bool:=match o with
 |none=>false
 |some o=>match x with
  |.L xs=>Fs "list" xs o
  |.tup xs=>Fs "tuple" xs o
  |_=>false
theorem ET {v:Value} (h:DO v=true):v=.none:=by cases v<;>first|rfl|exact(z22 h).elim
theorem HR {v:Value} {i:Int} (h:HQ v=some i):∃t,v=.int i t:=by
 cases v with
 |int j t=>cases h;exact⟨t,rfl⟩
 |_=>exact nn h
theorem IV {v:Value} {a:Addr} (h:y7 v=some a):v=.ref a:=by
 cases v with
 |ref b=>cases h;rfl
 |_=>exact nn h
theorem Mj {v:Value} {c:String} (h:Mi v=some c):v=.type c:=by
 cases v with
 |type b=>cases h;rfl
 |_=>exact nn h
theorem IY {d:Data} {vs:Array Value} (h:Dc d=some vs):∃ep,d=.seq vs ep:=by
 cases d with
 |seq us ep=>cases h;exact⟨ep,rfl⟩
 |_=>exact nn h
theorem C3 {ι:Io} {δ:Io} (e:ι=b_++δ) {x:V} {v:Value} (h:Ft x v=true):VR ι x v:=by
 cases x with
 |none=>rw[ET h];exact .none
 |bool _=>cases h
 |I i=>obtain⟨t,rfl⟩:=HR (eq_of_beq h);exact .I _ _
 |ref n=>
  have h:((y7 v).isSome&&b_[n]? ==(y7 v).map fun a=>(a,a))=true:=h
  cases q:y7 v with
  |none=>rw[q]at h;cases h
  |some a=>
   rw[q]at h;have h:b_[n]? =some (a,a):=eq_of_beq h;rw[IV q];refine .ref (p:=(a,a)) ?_;rw[e,z09 (z06.mp h).1];exact h
theorem u6 {ι:Io} {δ:Io} (e:ι=b_++δ) {xs:List V}:∀{vs:List Value},q4 xs vs=true→dS ι xs vs:=by
 induction xs with
 |nil=>intro vs h;cases vs with
  |nil=>exact .nil
  |cons _ _=>cases h
 |cons x xs ih=>intro vs h;cases vs with
  |nil=>cases h
  |cons v vs=>
   have h:(Ft x v&&q4 xs vs)=true:=h;rw[z01]at h;exact .cons (C3 e h.1) (ih h.2)
theorem DX {c:String} {xs:List V} {o:Obj} (h:Fs c xs o=true):∃vs ep,o=⟨.type c,none,.seq vs ep,#[]⟩∧q4 xs vs.toList=true:=by
 obtain⟨cl,x,d,sl⟩:=o;have h:(Mi cl==some c&&(x.isNone&&(decide (sl.size=0)&&(match Dc d with|some vs=>q4 xs vs.toList|none=>false))))=true:=h;rw[z01,z01,z01]at h;obtain⟨h1,h2,h3,h4⟩:=h
 cases q:Dc d with
 |none=>rw[q]at h4;cases h4
 |some vs=>
  rw[q]at h4;obtain⟨ep,rfl⟩:=IY q;refine⟨vs,ep,?_,h4⟩;rw[Mj (eq_of_beq h1),Option.isNone_iff_eq_none.mp h2,Array.eq_empty_of_size_eq_zero (z03 h3)]
theorem AS {a b s:Int} {o:Option Obj} (h:AQ (.range a b s) o=true):False:=by cases o<;>cases h
theorem AR {c:Addr} {fs:List (Str×V)} {o:Option Obj} (h:AQ (.inst c fs) o=true):False:=by cases o<;>cases h
theorem C2 (P:Params):(List.range 46).all (fun n=>match dJ[n]?,b_[n]? with|some o,some p=>AQ o ((tr P).get p.1)&&(p.1==p.2)&&decide (p.1<723)|_,_=>false)=true:=∅
theorem xW {P:Params} {h:Heap} (says:∀b o,(H1 P).get? b=some o→h.get? b=some o) {ι δ:Io} (e:ι=b_++δ) {o:O} {a:Addr} (lt:a<723) (hc:AQ o ((tr P).get a)=true):OR ι h (a,a) o:=by
 cases g:(tr P).get a with
 |none=>rw[g]at hc;cases hc
 |some ob=>
  rw[g]at hc
  cases o with
  |L xs=>
   obtain⟨vs,ep,rfl,hv⟩:=DX hc;exact⟨vs,⟨ep,says _ _ ((abs_get lt g).trans rfl)⟩,u6 e hv⟩
  |tup xs=>
   obtain⟨vs,ep,rfl,hv⟩:=DX hc;exact⟨vs,ep,says _ _ ((abs_get lt g).trans rfl),u6 e hv⟩
  |_=>exact(z22 hc).elim
theorem lookup_mem {α β:Type} [BEq α] [LawfulBEq α] {a:α} {b:β}:∀{l:List (α×β)},l.lookup a=some b→(a,b)∈l
 | (k,v)::l,h=>by
  rw[List.lookup_cons]at h
  cases hk:a==k with
  |true=>rw[hk]at h;have:v=b:=Option.some.inj h;subst this;rw[eq_of_beq hk];exact List.mem_cons_self ..
  |false=>rw[hk]at h;exact z14 _ (lookup_mem h)
theorem Ed (P:Params):∀p∈KC P,p.1<723∧(tr P).get p.1=some p.2∧alive p.2=some p.2:=by
 unfold KC;simp only[List.forall_mem_cons];refine⟨⟨by decide,∅,∅⟩,⟨by decide,∅,∅⟩,⟨by decide,∅,∅⟩,⟨by decide,∅,∅⟩,⟨by decide,∅,∅⟩,⟨by decide,∅,∅⟩,⟨by decide,∅,∅⟩,⟨by decide,∅,∅⟩,⟨by decide,∅,∅⟩,⟨by decide,∅,∅⟩,⟨by decide,∅,∅⟩,⟨by decide,∅,∅⟩,fun _ h=>by cases h⟩
theorem GB {P:Params} {h:Heap} (says:∀b o,(H1 P).get? b=some o→h.get? b=some o):(KC P).In h:=fun a o e=>by
 obtain⟨lt,g,al⟩:=Ed P _ (lookup_mem e);exact says _ _ ((abs_get lt g).trans al)
theorem kv (P:Params) {n:Nat} {o:O} (ho:dJ[n]? =some o):∃a,b_[n]? =some (a,a)∧a<723∧AQ o ((tr P).get a)=true:=by
 have hn:n<46:=by rw[←eN];exact(z06.mp ho).1
 have h:=List.all_eq_true.mp (C2 P) n (List.mem_range.mpr hn);rw[ho]at h;have hs:∃p,b_[n]? =some p:=⟨_,z05 (by rw[cQ];exact hn)⟩;obtain⟨⟨a,b⟩,hp⟩:=hs;rw[hp]at h;simp only[z01,beq_iff_eq,z00]at h;obtain⟨⟨h1,h2⟩,h3⟩:=h;subst h2;exact⟨a,hp,h3,h1⟩
theorem l9:b_.Pairwise fun p q=>p.1≠q.1∧p.1≠q.2∧p.2≠q.1∧p.2≠q.2:=by decide+kernel
theorem xh {p:Addr×Addr} (h:p∈b_):p.1=p.2:=by
 have:b_.all (fun p=>p.1==p.2)=true:=by decide+kernel
 exact beq_iff_eq.mp (List.all_eq_true.mp this p h)
theorem q6 {C:Cx} {h:Heap} (hh:h=C.aA) (says:∀b o,(H1 C.w.params).get? b=some o→h.get? b=some o) {δ:Io} (hst:C.jd=b_++δ) {T:Hp} (hlen:δ.length=T.length)
 (hap:(b_++δ).Pairwise fun p q=>p.1≠q.1∧p.1≠q.2∧p.2≠q.1∧p.2≠q.2) (hobj:∀(n:Nat) p o,δ[n]? =some p→T[n]? =some o→OR (b_++δ) h p o) (hex:∀p∈δ,(h.get? p.1).isSome=true∧(h.get? p.2).isSome=true):Jl C (b_++δ) (dJ++T) h:=by
 refine⟨?_,hap,fun n p hn hp=>?_,⟨[],by rw[hst,List.append_nil]⟩,fun n p o hp ho=>?_,fun p hp=>?_⟩
 · rw[z12,z12,cQ,eN,hlen]
 · have h1:=(z06.mp hp).1;have h2:C.T≤n:=hn;unfold Cx.T at h2;rw[hst]at h2;omega
 · by_cases hn:n<46
   · rw[z09 (by rw[cQ];exact hn)]at hp;rw[z09 (by rw[eN];exact hn)]at ho;obtain⟨a,ha,lt,hc⟩:=kv C.w.params ho;rw[ha]at hp;cases hp;exact xW says rfl lt hc
   · rw[z10 (by rw[cQ];omega),cQ]at hp;rw[z10 (by rw[eN];omega),eN]at ho;exact hobj _ p o hp ho
 · rw[List.mem_append]at hp;rcases hp with hp|hp
   · obtain⟨n,hn⟩:=List.getElem?_of_mem hp;have hl:=(z06.mp hn).1;obtain⟨o,ho⟩:∃o,dJ[n]? =some o:=⟨_,z05 (by rw[eN,←cQ];exact hl)⟩;obtain⟨a,ha,lt,hc⟩:=kv C.w.params ho;rw[ha]at hn;cases hn;have:∃ob,h.get? a=some ob:=by
      have hor:=xW says (ι:=b_++δ) rfl lt hc
      cases o with
      |L xs=>obtain⟨vs,⟨n,e⟩,_⟩:=hor;exact⟨_,e⟩
      |tup xs=>obtain⟨vs,ep,e,_⟩:=hor;exact⟨_,e⟩
      |range _ _ _=>exact(AS hc).elim
      |inst _ _=>exact(AR hc).elim
     obtain⟨ob,e⟩:=this;dsimp only;rw[e];exact⟨rfl,rfl⟩
   · exact hex p hp
def bO (Q:V→Hp→Prop):Fl→List (Option V)→Hp→Prop:=fun fl _ H=>match fl with|.ret v=>Q v H|.next=>Q .none H|_=>False
theorem aa.mono {C:Cx} {k:Nat} {x:Str} {vs:List V} {H:Hp} {Q Q':V→Hp→Prop} (h:aa C k x vs H Q) (hq:∀v H',Q v H'→Q' v H'):aa C k x vs H Q':=
 ⟨fun A s ι us hr B r=>wpAny_mono (h.out A s ι us hr B r) (fun _ _ p=>p.mono hq) fun _ _ x=>x⟩
theorem aa.up {C:Cx} {k k':Nat} {x:Str} {vs:List V} {H:Hp} {Q:V→Hp→Prop} (h:aa C k x vs H Q) (l:k≤k':=by first|exact z21 _|exact Nat.le_add_right _ _|exact Nat.add_le_add_left nofun _):aa C k' x vs H Q:=
 ⟨fun A s ι us hr B r=>h.out A s ι us (hr.le l) B r⟩
section
variable {C:Cx} (P:Pg C) {k:Nat} {H:Hp} {Q:V→Hp→Prop}
include P
theorem Pg.Hm {n a L:Nat} {names:Nm} {body:List Stmt} {m:MS} {args:List V} (F:FnAt C a names n body) (w:C.T≤H.length→wX C k m (args.map some++List.replicate (L-n) none) H (bO Q)) (h:(sX 60 names body,names.length,args.length)=(some m,L,n)):FC C (k+1) a args H Q:=by
 have hs:sX 60 names body=some m:=congrArg (·.1) h;have hL:names.length=L:=congrArg (·.2.1) h;have hl:args.length=n:=congrArg (·.2.2) h;refine⟨fun A s ι vs hr B r=>(FC.of F hl ?_).out A s ι vs hr B r⟩;rw[hL];exact Dk P.res 60 _ _ _ _ _ _ hs (w B.T)
theorem Pg.go {n a L:Nat} {names:Nm} {body:List Stmt} {m:MS} {args:List V} {x:String} (F:FnAt C a names n body)
 (w:C.T≤H.length→wX C k m (args.map some++List.replicate (L-n) none) H (bO Q)) (h:(sX 60 names body,names.length,args.length)=(some m,L,n)) (hx:nsFind (nT C.w.params) (s x)=some (.ref a)):aa C (k+1) (s x) args H Q:=by
 have:=(P.Hm F w h).fw;have hv:C.rv (s x)=.ref a:=by unfold Cx.rv;rw[P.mg (s x),hx];rfl
 exact⟨fun A s ι vs hr B r=>by rw[hv];exact this.out A s ι vs hr B r⟩
theorem Pg.Jq {c fI:Nat} {args:List V} {x:Str} (hx:nsFind (nT C.w.params) x=some (.ref c)) (hm:makesIn (KC C.w.params) c=true) (hi:findIn (KC C.w.params) (.ref c) "__init__"=some (some (.ref fI))) (hf:typeIn (KC C.w.params) (.ref fI)=some (.type "function"))
 (h:C.T≤H.length→FC C k fI (.ref H.length::args) (H++[.inst c []]) (fun v H'=>v=.none∧Q (.ref H.length) H')):aa C (k+1) x args H Q:=by
 have hv:C.rv x=.ref c:=by unfold Cx.rv;rw[P.mg x,hx];rfl
 exact⟨fun A s ι us hr B r=>by rw[hv];exact(FW.make (C:=C) (by rw[P.K];exact hm) (by rw[P.K];exact hi) (by rw[P.K];exact hf) (h B.T)).out A s ι us hr B r⟩
def jT:MS:=(.asg 1 (.I 0) (.Du (.bf (.V 0)) (.aug 0 .BitAnd (.B .Sub (.V 0) (.I 1)) (.aug 1 .Add (.I 1) .N)) (.ret (.V 1))))
theorem Pg.pW {a0:V} (w:C.T≤H.length→wX C k jT [some a0,none] H (bO Q)):aa C (k+1) (s "count_bits") [a0] H Q:=P.go (L:=2) P.rM w ∅ ∅
def gy:MS:=(.ret (.cmp .NotEq (.B .BitAnd (.V 0) (.B .Sub (.V 0) (.I 1))) (.I 0)))
theorem Pg.k8 {a0:V} (w:C.T≤H.length→wX C k gy [some a0] H (bO Q)):aa C (k+1) (s "more_than_one") [a0] H Q:=P.go (L:=1) P.mC w ∅ ∅
def qQ:MS:=(.bq (.aD .Eq (.V 0) (.I 0)) (.ret (.un .USub (.I 1))) .N (.asg 1 (.I 1) (.Du (.bf (.B .RShift (.V 0) (.V 1))) (.aug 1 .Mult (.I 2) .N) (.asg 2 (.I 0) (.Du (.aD .Gt (.V 1) (.I 1)) (.aug 1 .FloorDiv (.I 2) (.bq (.bf (.B .RShift (.V 0) (.V 1))) (.aug 0 .RShift (.V 1) (.aug 2 .Add (.V 1) .N)) .N .N)) (.ret (.V 2)))))))
theorem Pg.wx {a0:V} (w:C.T≤H.length→wX C k qQ [some a0,none,none] H (bO Q)):aa C (k+1) (s "highest") [a0] H Q:=P.go (L:=3) P.yy w ∅ ∅
def uU:MS:=(.ret (.K (s "highest") (.C (.B .BitAnd (.V 0) (.un .USub (.V 0))) .N)))
theorem Pg.yI {a0:V} (w:C.T≤H.length→wX C k uU [some a0,none] H (bO Q)):aa C (k+1) (s "lowest") [a0] H Q:=P.go (L:=2) P.zV w ∅ ∅
def j6:MS:=(.asg 1 (.L .N) (.asg 2 (.I 0) (.Du (.bf (.V 0)) (.Du (.iC (.bf (.B .BitAnd (.V 0) (.I 15)))) (.aug 0 .RShift (.I 4) (.aug 2 .Add (.I 4) .N)) (.bq (.bf (.B .BitAnd (.V 0) (.I 1))) (.expr (.app (.V 1) (.V 2)) .N) .N (.aug 0 .RShift (.I 1) (.aug 2 .Add (.I 1) .N)))) (.ret (.V 1)))))
theorem Pg.qf {a0:V} (w:C.T≤H.length→wX C k j6 [some a0,none,none] H (bO Q)):aa C (k+1) (s "squares_of") [a0] H Q:=P.go (L:=3) P.rW w ∅ ∅
def qX:MS:=(.ret (.B .RShift (.V 0) (.I 3)))
theorem Pg.wD {a0:V} (w:C.T≤H.length→wX C k qX [some a0] H (bO Q)):aa C (k+1) (s "side_of") [a0] H Q:=P.go (L:=1) P.yD w ∅ ∅
def qR:MS:=(.ret (.B .BitAnd (.V 0) (.I 7)))
theorem Pg.wy {a0:V} (w:C.T≤H.length→wX C k qR [some a0] H (bO Q)):aa C (k+1) (s "kind_of") [a0] H Q:=P.go (L:=1) P.yz w ∅ ∅
def lS:MS:=(.bP 3 (.K (s "range") (.C (.I 8) .N)) (.bq (.bf (.B .BitAnd (.B .RShift (.sub (.sub (.attr (.V 0) (s "rays")) (.V 3)) (.V 1)) (.V 2)) (.I 1))) (.ret (.V 3)) .N .N) (.ret (.un .USub (.I 1))))
theorem Pg.r_ {a0 a1 a2:V} (w:C.T≤H.length→wX C k lS [some a0,some a1,some a2,none,none] H (bO Q)):aa C (k+1) (s "direction") [a0,a1,a2] H Q:=P.go (L:=5) P.ub w ∅ ∅
def qP:MS:=(.asg 3 (.K (s "direction") (.C (.V 0) (.C (.V 1) (.C (.V 2) .N)))) (.bq (.aD .Lt (.V 3) (.I 0)) (.ret (.I 0)) .N (.ret (.B .BitAnd (.sub (.sub (.attr (.V 0) (s "rays")) (.V 3)) (.V 1)) (.sub (.sub (.attr (.V 0) (s "rays")) (.B .BitXor (.V 3) (.I 2))) (.V 2))))))
theorem Pg.wu {a0 a1 a2:V} (w:C.T≤H.length→wX C k qP [some a0,some a1,some a2,none,none] H (bO Q)):aa C (k+1) (s "between") [a0,a1,a2] H Q:=P.go (L:=5) P.yw w ∅ ∅
def Az:MS:=(.asg 3 (.K (s "direction") (.C (.V 0) (.C (.V 1) (.C (.V 2) .N)))) (.bq (.aD .Lt (.V 3) (.I 0)) (.ret (.I 0)) .N (.ret (.B .BitOr (.B .BitOr (.sub (.sub (.attr (.V 0) (s "rays")) (.V 3)) (.V 1)) (.sub (.sub (.attr (.V 0) (s "rays")) (.B .BitXor (.V 3) (.I 2))) (.V 1))) (.B .LShift (.I 1) (.V 1))))))
theorem Pg.Cw {a0 a1 a2:V} (w:C.T≤H.length→wX C k Az [some a0,some a1,some a2,none,none] H (bO Q)):aa C (k+1) (s "line") [a0,a1,a2] H Q:=P.go (L:=5) P.Ey w ∅ ∅
def gq:MS:=(.setattr (.V 0) (s "files") (.V 1) (.setattr (.V 0) (s "ranks") (.V 2) (.setattr (.V 0) (s "size") (.B .Mult (.V 1) (.V 2)) (.setattr (.V 0) (s "full") (.B .Sub (.B .LShift (.I 1) (.B .Mult (.V 1) (.V 2))) (.I 1)) (.setattr (.V 0) (s "has_double") (.tT (.V 3) (.cmp .GtE (.V 2) (.I 5))) (.setattr (.V 0) (s "has_castling") (.V 4) (.setattr (.V 0) (s "file_masks") (.L .N) (.setattr (.V 0) (s "rank_masks") (.L .N) (.setattr (.V 0) (s "rays") (.L .N) (.setattr (.V 0) (s "king") (.L .N) (.setattr (.V 0) (s "knight") (.L .N) (.setattr (.V 0) (s "pawn") (.L (.C (.L .N) (.C (.L .N) .N))) (.setattr (.V 0) (s "castles") (.L .N) (.setattr (.V 0) (s "rights_lost") (.L .N) .N))))))))))))))
theorem Pg.ur {a1 a2 a3 a4:V} (w:C.T≤H.length→wX C k gq [some (.ref H.length),some a1,some a2,some a3,some a4] (H++[.inst 123 []]) (bO fun v H'=>v=.none∧Q (.ref H.length) H')):aa C (k+2) (s "Geometry") [a1,a2,a3,a4] H Q:=
 P.Jq (c:=123) (fI:=120) ∅ ∅ ∅ ∅ fun hT=>P.Hm (L:=5) P.mq (fun _=>w hT) ∅
def jU:MS:=(.ret (.DY (.cmp .Gt (.sub (.gl (s "STEP_RANKS")) (.V 0)) (.I 0)) (.cmp .Eq (.V 0) (.I 1))))
theorem Pg.pX {a0:V} (w:C.T≤H.length→wX C k jU [some a0,none] H (bO Q)):aa C (k+1) (s "is_growing") [a0] H Q:=P.go (L:=2) P.rN w ∅ ∅
def lQ:MS:=(.asg 1 (.B .Sub (.B .LShift (.I 1) (.attr (.V 0) (s "files"))) (.I 1)) (.asg 2 (.I 0) (.bP 3 (.K (s "range") (.C (.attr (.V 0) (s "ranks")) .N)) (.expr (.app (.attr (.V 0) (s "rank_masks")) (.B .LShift (.V 1) (.B .Mult (.V 3) (.attr (.V 0) (s "files"))))) (.aug 2 .BitOr (.B .LShift (.I 1) (.B .Mult (.V 3) (.attr (.V 0) (s "files")))) .N)) (.bP 4 (.K (s "range") (.C (.attr (.V 0) (s "files")) .N)) (.expr (.app (.attr (.V 0) (s "file_masks")) (.B .LShift (.V 2) (.V 4))) .N) .N))))
theorem Pg.r8 {a0:V} (w:C.T≤H.length→wX C k lQ [some a0,none,none,none,none,none] H (bO Q)):aa C (k+1) (s "add_masks") [a0] H Q:=P.go (L:=6) P.t_ w ∅ ∅
def gw:MS:=(.asg 2 (.I 0) (.bq (.aD .Gt (.sub (.gl (s "STEP_FILES")) (.V 1)) (.I 0)) (.aug 2 .BitOr (.sub (.attr (.V 0) (s "file_masks")) (.B .Sub (.attr (.V 0) (s "files")) (.I 1))) .N) .N (.bq (.aD .Lt (.sub (.gl (s "STEP_FILES")) (.V 1)) (.I 0)) (.aug 2 .BitOr (.sub (.attr (.V 0) (s "file_masks")) (.I 0)) .N) .N (.bq (.aD .Gt (.sub (.gl (s "STEP_RANKS")) (.V 1)) (.I 0)) (.aug 2 .BitOr (.sub (.attr (.V 0) (s "rank_masks")) (.B .Sub (.attr (.V 0) (s "ranks")) (.I 1))) .N) .N (.bq (.aD .Lt (.sub (.gl (s "STEP_RANKS")) (.V 1)) (.I 0)) (.aug 2 .BitOr (.sub (.attr (.V 0) (s "rank_masks")) (.I 0)) .N) .N (.ret (.B .BitAnd (.attr (.V 0) (s "full")) (.un .Invert (.V 2)))))))))
theorem Pg.kZ {a0 a1:V} (w:C.T≤H.length→wX C k gw [some a0,some a1,none,none,none] H (bO Q)):aa C (k+1) (s "inner_squares") [a0,a1] H Q:=P.go (L:=5) P.my w ∅ ∅
def oD:MS:=(.setattr (.V 0) (s "king") (.B .Mult (.L (.C (.I 0) .N)) (.attr (.V 0) (s "size"))) (.bP 1 (.K (s "range") (.C (.I 8) .N)) (.asg 2 (.K (s "inner_squares") (.C (.V 0) (.C (.V 1) .N))) (.asg 3 (.B .Add (.B .Mult (.sub (.gl (s "STEP_RANKS")) (.V 1)) (.attr (.V 0) (s "files"))) (.sub (.gl (s "STEP_FILES")) (.V 1))) (.asg 4 (.B .Mult (.L (.C (.I 0) .N)) (.attr (.V 0) (s "size"))) (.asg 5 (.K (s "range") (.C (.attr (.V 0) (s "size")) .N)) (.bq (.bf (.K (s "is_growing") (.C (.V 1) .N))) (.asg 5 (.K (s "range") (.C (.B .Sub (.attr (.V 0) (s "size")) (.I 1)) (.C (.un .USub (.I 1)) (.C (.un .USub (.I 1)) .N)))) .N) .N (.bP 6 (.V 5) (.bq (.bf (.B .BitAnd (.B .RShift (.V 2) (.V 6)) (.I 1))) (.asg 7 (.B .Add (.V 6) (.V 3)) (.cN (.V 4) (.V 6) (.B .BitOr (.sub (.V 4) (.V 7)) (.B .LShift (.I 1) (.V 7))) (.cG (.attr (.V 0) (s "king")) (.V 6) .BitOr (.B .LShift (.I 1) (.V 7)) .N))) .N .N) (.expr (.app (.attr (.V 0) (s "rays")) (.V 4)) .N))))))) .N))
theorem Pg.uv {a0:V} (w:C.T≤H.length→wX C k oD [some a0,none,none,none,none,none,none,none,none,none,none,none,none] H (bO Q)):aa C (k+1) (s "add_rays") [a0] H Q:=P.go (L:=13) P.vV w ∅ ∅
def lR:MS:=(.bP 1 (.K (s "range") (.C (.attr (.V 0) (s "size")) .N)) (.expr (.app (.sub (.attr (.V 0) (s "pawn")) (.I 0)) (.B .BitAnd (.sub (.attr (.V 0) (s "king")) (.V 1)) (.B .BitOr (.sub (.sub (.attr (.V 0) (s "rays")) (.I 4)) (.V 1)) (.sub (.sub (.attr (.V 0) (s "rays")) (.I 7)) (.V 1))))) (.expr (.app (.sub (.attr (.V 0) (s "pawn")) (.I 1)) (.B .BitAnd (.sub (.attr (.V 0) (s "king")) (.V 1)) (.B .BitOr (.sub (.sub (.attr (.V 0) (s "rays")) (.I 5)) (.V 1)) (.sub (.sub (.attr (.V 0) (s "rays")) (.I 6)) (.V 1))))) .N)) .N)
theorem Pg.r9 {a0:V} (w:C.T≤H.length→wX C k lR [some a0,none,none] H (bO Q)):aa C (k+1) (s "add_pawns") [a0] H Q:=P.go (L:=3) P.ua w ∅ ∅
def iI:MS:=(.asg 1 (.attr (.V 0) (s "files")) (.asg 2 (.B .BitAnd (.attr (.V 0) (s "full")) (.un .Invert (.sub (.attr (.V 0) (s "file_masks")) (.I 0)))) (.asg 3 (.B .BitAnd (.attr (.V 0) (s "full")) (.un .Invert (.sub (.attr (.V 0) (s "file_masks")) (.B .Sub (.V 1) (.I 1))))) (.asg 4 (.B .BitAnd (.V 2) (.un .Invert (.sub (.attr (.V 0) (s "file_masks")) (.I 1)))) (.asg 5 (.B .BitAnd (.V 3) (.un .Invert (.sub (.attr (.V 0) (s "file_masks")) (.B .Sub (.V 1) (.I 2))))) (.bP 6 (.K (s "range") (.C (.attr (.V 0) (s "size")) .N)) (.asg 7 (.B .LShift (.I 1) (.V 6)) (.asg 8 (.B .BitOr (.B .BitAnd (.B .LShift (.V 7) (.I 1)) (.V 2)) (.B .BitAnd (.B .RShift (.V 7) (.I 1)) (.V 3))) (.asg 9 (.B .BitOr (.B .BitAnd (.B .LShift (.V 7) (.I 2)) (.V 4)) (.B .BitAnd (.B .RShift (.V 7) (.I 2)) (.V 5))) (.asg 10 (.B .BitOr (.B .BitOr (.B .BitOr (.B .LShift (.V 8) (.B .Mult (.I 2) (.V 1))) (.B .RShift (.V 8) (.B .Mult (.I 2) (.V 1)))) (.B .LShift (.V 9) (.V 1))) (.B .RShift (.V 9) (.V 1))) (.expr (.app (.attr (.V 0) (s "knight")) (.B .BitAnd (.V 10) (.attr (.V 0) (s "full")))) .N))))) .N))))))
theorem Pg.nY {a0:V} (w:C.T≤H.length→wX C k iI [some a0,none,none,none,none,none,none,none,none,none,none,none] H (bO Q)):aa C (k+1) (s "add_knights") [a0] H Q:=P.go (L:=12) P.pL w ∅ ∅
def iH:MS:=(.setattr (.V 0) (s "rights_lost") (.B .Mult (.L (.C (.I 0) .N)) (.attr (.V 0) (s "size"))) (.asg 1 (.B .FloorDiv (.attr (.V 0) (s "files")) (.I 2)) (.bP 2 (.K (s "range") (.C (.I 4) .N)) (.asg 3 (.B .Mult (.B .Mult (.B .RShift (.V 2) (.I 1)) (.B .Sub (.attr (.V 0) (s "ranks")) (.I 1))) (.attr (.V 0) (s "files"))) (.asg 4 (.B .Sub (.attr (.V 0) (s "files")) (.I 1)) (.asg 5 (.I 1) (.bq (.bf (.B .BitAnd (.V 2) (.I 1))) (.asg 4 (.I 0) (.asg 5 (.un .USub (.I 1)) .N)) .N (.asg 6 (.B .Add (.V 1) (.B .Mult (.I 2) (.V 5))) (.bq (.cx (.C (.bf (.attr (.V 0) (s "has_castling"))) (.C (.aD .Gt (.B .Mult (.B .Sub (.V 4) (.V 6)) (.V 5)) (.I 0)) .N))) (.expr (.app (.attr (.V 0) (s "castles")) (.tup (.C (.B .Add (.V 3) (.V 1)) (.C (.B .Add (.V 3) (.V 6)) (.C (.B .Add (.V 3) (.V 4)) (.C (.B .Sub (.B .Add (.V 3) (.V 6)) (.V 5)) .N)))))) (.cG (.attr (.V 0) (s "rights_lost")) (.B .Add (.V 3) (.V 1)) .BitOr (.B .LShift (.I 1) (.V 2)) (.cG (.attr (.V 0) (s "rights_lost")) (.B .Add (.V 3) (.V 4)) .BitOr (.B .LShift (.I 1) (.V 2)) .N))) (.expr (.app (.attr (.V 0) (s "castles")) .none) .N) .N)))))) .N)))
theorem Pg.nX {a0:V} (w:C.T≤H.length→wX C k iH [some a0,none,none,none,none,none,none,none] H (bO Q)):aa C (k+1) (s "add_castles") [a0] H Q:=P.go (L:=8) P.pK w ∅ ∅
def gx:MS:=(.bq (.vD (.C (.aD .Lt (.V 0) (.I 2)) (.C (.aD .Gt (.V 0) (.I 8)) (.C (.aD .Lt (.V 1) (.I 3)) (.C (.aD .Gt (.V 1) (.I 8)) .N))))) .raise .N (.asg 4 (.K (s "Geometry") (.C (.V 0) (.C (.V 1) (.C (.V 2) (.C (.V 3) .N))))) (.expr (.K (s "add_masks") (.C (.V 4) .N)) (.expr (.K (s "add_rays") (.C (.V 4) .N)) (.expr (.K (s "add_pawns") (.C (.V 4) .N)) (.expr (.K (s "add_knights") (.C (.V 4) .N)) (.expr (.K (s "add_castles") (.C (.V 4) .N)) (.ret (.V 4)))))))))
theorem Pg.k7 {a0 a1 a2 a3:V} (w:C.T≤H.length→wX C k gx [some a0,some a1,some a2,some a3,none,none,none,none,none,none,none,none] H (bO Q)):aa C (k+1) (s "make_geometry") [a0,a1,a2,a3] H Q:=P.go (L:=12) P.mz w ∅ ∅
def iP:MS:=(.asg 4 (.sub (.sub (.attr (.V 0) (s "rays")) (.V 1)) (.V 2)) (.asg 5 (.B .BitAnd (.V 4) (.V 3)) (.bq (.aD .Eq (.V 5) (.I 0)) (.ret (.V 4)) .N (.bq (.bf (.K (s "is_growing") (.C (.V 1) .N))) (.ret (.B .BitAnd (.V 4) (.B .BitXor (.V 5) (.B .Sub (.V 5) (.I 1))))) .N (.asg 6 (.B .RShift (.V 5) (.I 1)) (.aug 6 .BitOr (.B .RShift (.V 6) (.I 1)) (.aug 6 .BitOr (.B .RShift (.V 6) (.I 2)) (.aug 6 .BitOr (.B .RShift (.V 6) (.I 4)) (.aug 6 .BitOr (.B .RShift (.V 6) (.I 8)) (.aug 6 .BitOr (.B .RShift (.V 6) (.I 16)) (.aug 6 .BitOr (.B .RShift (.V 6) (.I 32)) (.ret (.B .BitAnd (.V 4) (.un .Invert (.V 6)))))))))))))))
theorem Pg.oh {a0 a1 a2 a3:V} (w:C.T≤H.length→wX C k iP [some a0,some a1,some a2,some a3,none,none,none,none] H (bO Q)):aa C (k+1) (s "ray_attacks") [a0,a1,a2,a3] H Q:=P.go (L:=8) P.pS w ∅ ∅
def gX:MS:=(.asg 3 (.I 0) (.bP 4 (.K (s "range") (.C (.I 4) .N)) (.aug 3 .BitOr (.K (s "ray_attacks") (.C (.V 0) (.C (.V 4) (.C (.V 1) (.C (.V 2) .N))))) .N) (.ret (.V 3))))
theorem Pg.mM {a0 a1 a2:V} (w:C.T≤H.length→wX C k gX [some a0,some a1,some a2,none,none,none,none] H (bO Q)):aa C (k+1) (s "rook_attacks") [a0,a1,a2] H Q:=P.go (L:=7) P.nQ w ∅ ∅
def fG:MS:=(.asg 3 (.I 0) (.bP 4 (.K (s "range") (.C (.I 4) (.C (.I 8) .N))) (.aug 3 .BitOr (.K (s "ray_attacks") (.C (.V 0) (.C (.V 4) (.C (.V 1) (.C (.V 2) .N))))) .N) (.ret (.V 3))))
theorem Pg.jC {a0 a1 a2:V} (w:C.T≤H.length→wX C k fG [some a0,some a1,some a2,none,none,none,none] H (bO Q)):aa C (k+1) (s "bishop_attacks") [a0,a1,a2] H Q:=P.go (L:=7) P.kS w ∅ ∅
def gA:MS:=(.ret (.B .BitOr (.K (s "rook_attacks") (.C (.V 0) (.C (.V 1) (.C (.V 2) .N)))) (.K (s "bishop_attacks") (.C (.V 0) (.C (.V 1) (.C (.V 2) .N))))))
theorem Pg.k_ {a0 a1 a2:V} (w:C.T≤H.length→wX C k gA [some a0,some a1,some a2,none,none] H (bO Q)):aa C (k+1) (s "queen_attacks") [a0,a1,a2] H Q:=P.go (L:=5) P.mE w ∅ ∅
def fL:MS:=(.bq (.aD .Eq (.V 1) (.gl (s "BISHOP"))) (.ret (.K (s "bishop_attacks") (.C (.V 0) (.C (.V 2) (.C (.V 3) .N))))) .N (.bq (.aD .Eq (.V 1) (.gl (s "ROOK"))) (.ret (.K (s "rook_attacks") (.C (.V 0) (.C (.V 2) (.C (.V 3) .N))))) .N (.bq (.aD .Eq (.V 1) (.gl (s "QUEEN"))) (.ret (.K (s "queen_attacks") (.C (.V 0) (.C (.V 2) (.C (.V 3) .N))))) .N (.ret (.I 0)))))
theorem Pg.jH {a0 a1 a2 a3:V} (w:C.T≤H.length→wX C k fL [some a0,some a1,some a2,some a3,none,none,none,none,none,none] H (bO Q)):aa C (k+1) (s "slider_attacks") [a0,a1,a2,a3] H Q:=P.go (L:=10) P.kX w ∅ ∅
def gz:MS:=(.bq (.aD .Eq (.V 2) (.gl (s "PAWN"))) (.ret (.sub (.sub (.attr (.V 0) (s "pawn")) (.V 1)) (.V 3))) .N (.bq (.aD .Eq (.V 2) (.gl (s "KNIGHT"))) (.ret (.sub (.attr (.V 0) (s "knight")) (.V 3))) .N (.bq (.aD .Eq (.V 2) (.gl (s "KING"))) (.ret (.sub (.attr (.V 0) (s "king")) (.V 3))) .N (.ret (.K (s "slider_attacks") (.C (.V 0) (.C (.V 2) (.C (.V 3) (.C (.V 4) .N)))))))))
theorem Pg.k9 {a0 a1 a2 a3 a4:V} (w:C.T≤H.length→wX C k gz [some a0,some a1,some a2,some a3,some a4,none,none,none,none] H (bO Q)):aa C (k+1) (s "piece_attacks") [a0,a1,a2,a3,a4] H Q:=P.go (L:=9) P.mD w ∅ ∅
def gr:MS:=(.setattr (.V 0) (s "geo") (.V 1) (.setattr (.V 0) (s "zob") (.V 2) (.setattr (.V 0) (s "board") (.B .Mult (.L (.C (.gl (s "EMPTY")) .N)) (.attr (.V 1) (s "size"))) (.setattr (.V 0) (s "kinds") (.B .Mult (.L (.C (.I 0) .N)) (.I 7)) (.setattr (.V 0) (s "sides") (.L (.C (.I 0) (.C (.I 0) .N))) (.setattr (.V 0) (s "side") (.gl (s "WHITE")) (.setattr (.V 0) (s "rights") (.I 0) (.setattr (.V 0) (s "ep") (.un .USub (.I 1)) (.setattr (.V 0) (s "half") (.I 0) (.setattr (.V 0) (s "full") (.I 1) (.setattr (.V 0) (s "key") (.I 0) (.setattr (.V 0) (s "history") (.L .N) .N))))))))))))
theorem Pg.uu {a1 a2:V} (w:C.T≤H.length→wX C k gr [some (.ref H.length),some a1,some a2,none,none] (H++[.inst 242 []]) (bO fun v H'=>v=.none∧Q (.ref H.length) H')):aa C (k+2) (s "Position") [a1,a2] H Q:=
 P.Jq (c:=242) (fI:=239) ∅ ∅ ∅ ∅ fun hT=>P.Hm (L:=5) P.mv (fun _=>w hT) ∅
def l4:MS:=(.asg 3 (.B .LShift (.I 1) (.V 2)) (.cN (.attr (.V 0) (s "board")) (.V 2) (.V 1) (.cG (.attr (.V 0) (s "kinds")) (.K (s "kind_of") (.C (.V 1) .N)) .BitOr (.V 3) (.cG (.attr (.V 0) (s "sides")) (.K (s "side_of") (.C (.V 1) .N)) .BitOr (.V 3) (.hO (.V 0) (s "key") .BitXor (.sub (.sub (.attr (.attr (.V 0) (s "zob")) (s "pieces")) (.V 1)) (.V 2)) .N)))))
theorem Pg.sx {a0 a1 a2:V} (w:C.T≤H.length→wX C k l4 [some a0,some a1,some a2,none,none,none] H (bO Q)):aa C (k+1) (s "put_piece") [a0,a1,a2] H Q:=P.go (L:=6) P.ui w ∅ ∅
def oM:MS:=(.ret (.B .BitOr (.sub (.attr (.V 0) (s "sides")) (.gl (s "WHITE"))) (.sub (.attr (.V 0) (s "sides")) (.gl (s "BLACK")))))
theorem Pg.uD {a0:V} (w:C.T≤H.length→wX C k oM [some a0,none,none] H (bO Q)):aa C (k+1) (s "occupied") [a0] H Q:=P.go (L:=3) P.wc w ∅ ∅
def uV:MS:=(.ret (.B .BitAnd (.sub (.attr (.V 0) (s "sides")) (.V 1)) (.sub (.attr (.V 0) (s "kinds")) (.V 2))))
theorem Pg.yJ {a0 a1 a2:V} (w:C.T≤H.length→wX C k uV [some a0,some a1,some a2] H (bO Q)):aa C (k+1) (s "pieces") [a0,a1,a2] H Q:=P.go (L:=3) P.zW w ∅ ∅
def iM:MS:=(.ret (.K (s "lowest") (.C (.B .BitAnd (.sub (.attr (.V 0) (s "sides")) (.V 1)) (.sub (.attr (.V 0) (s "kinds")) (.gl (s "KING")))) .N)))
theorem Pg.oa {a0 a1:V} (w:C.T≤H.length→wX C k iM [some a0,some a1,none,none] H (bO Q)):aa C (k+1) (s "king_square") [a0,a1] H Q:=P.go (L:=4) P.pP w ∅ ∅
def ez:MS:=(.ret (.B .BitOr (.sub (.attr (.V 0) (s "kinds")) (.gl (s "ROOK"))) (.sub (.attr (.V 0) (s "kinds")) (.gl (s "QUEEN")))))
theorem Pg.iy {a0:V} (w:C.T≤H.length→wX C k ez [some a0,none,none] H (bO Q)):aa C (k+1) (s "straight_sliders") [a0] H Q:=P.go (L:=3) P.i3 w ∅ ∅
def ew:MS:=(.ret (.B .BitOr (.sub (.attr (.V 0) (s "kinds")) (.gl (s "BISHOP"))) (.sub (.attr (.V 0) (s "kinds")) (.gl (s "QUEEN")))))
theorem Pg.iw {a0:V} (w:C.T≤H.length→wX C k ew [some a0,none,none] H (bO Q)):aa C (k+1) (s "slanting_sliders") [a0] H Q:=P.go (L:=3) P.i1 w ∅ ∅
def j5:MS:=(.asg 2 (.K (s "king_square") (.C (.V 0) (.C (.V 1) .N))) (.asg 3 (.B .BitAnd (.K (s "rook_attacks") (.C (.attr (.V 0) (s "geo")) (.C (.V 2) (.C (.I 0) .N)))) (.K (s "straight_sliders") (.C (.V 0) .N))) (.aug 3 .BitOr (.B .BitAnd (.K (s "bishop_attacks") (.C (.attr (.V 0) (s "geo")) (.C (.V 2) (.C (.I 0) .N)))) (.K (s "slanting_sliders") (.C (.V 0) .N))) (.ret (.B .BitAnd (.V 3) (.sub (.attr (.V 0) (s "sides")) (.B .Sub (.I 1) (.V 1))))))))
theorem Pg.qe {a0 a1:V} (w:C.T≤H.length→wX C k j5 [some a0,some a1,none,none,none,none,none,none,none] H (bO Q)):aa C (k+1) (s "snipers_of") [a0,a1] H Q:=P.go (L:=9) P.rV w ∅ ∅
def oE:MS:=(.asg 2 (.K (s "king_square") (.C (.V 0) (.C (.V 1) .N))) (.asg 3 (.K (s "snipers_of") (.C (.V 0) (.C (.V 1) .N))) (.asg 4 (.B .BitXor (.B .BitOr (.sub (.attr (.V 0) (s "sides")) (.gl (s "WHITE"))) (.sub (.attr (.V 0) (s "sides")) (.gl (s "BLACK")))) (.V 3)) (.asg 5 (.I 0) (.asg 6 (.I 0) (.bP 7 (.K (s "squares_of") (.C (.V 3) .N)) (.asg 8 (.B .BitAnd (.K (s "between") (.C (.attr (.V 0) (s "geo")) (.C (.V 2) (.C (.V 7) .N)))) (.V 4)) (.bq (.cx (.C (.bf (.V 8)) (.C (.iC (.bf (.K (s "more_than_one") (.C (.V 8) .N)))) .N))) (.aug 5 .BitOr (.V 8) (.bq (.bf (.B .BitAnd (.V 8) (.sub (.attr (.V 0) (s "sides")) (.V 1)))) (.aug 6 .BitOr (.B .LShift (.I 1) (.V 7)) .N) .N .N)) .N .N)) (.ret (.tup (.C (.V 5) (.C (.V 6) .N))))))))))
theorem Pg.uw {a0 a1:V} (w:C.T≤H.length→wX C k oE [some a0,some a1,none,none,none,none,none,none,none,none,none,none,none,none,none,none] H (bO Q)):aa C (k+1) (s "blockers") [a0,a1] H Q:=P.go (L:=16) P.vW w ∅ ∅
def oO:MS:=(.asg 3 (.B .FloorDiv (.V 2) (.attr (.V 0) (s "files"))) (.ret (.bq (.aD .Eq (.V 1) (.gl (s "WHITE"))) (.V 3) (.B .Sub (.B .Sub (.attr (.V 0) (s "ranks")) (.I 1)) (.V 3)))))
theorem Pg.uF {a0 a1 a2:V} (w:C.T≤H.length→wX C k oO [some a0,some a1,some a2,none,none] H (bO Q)):aa C (k+1) (s "own_rank") [a0,a1,a2] H Q:=P.go (L:=5) P.we w ∅ ∅
def lT:MS:=(.ret (.K (s "min") (.C (.V 0) (.C (.B .Sub (.B .Sub (.V 1) (.I 1)) (.V 0)) .N))))
theorem Pg.se {a0 a1:V} (w:C.T≤H.length→wX C k lT [some a0,some a1,none] H (bO Q)):aa C (k+1) (s "from_edge") [a0,a1] H Q:=P.go (L:=3) P.uc w ∅ ∅
def l7:MS:=(.ret (.B .Sub (.B .BitAnd (.B .Add (.V 0) (.gl (s "HALF"))) (.B .Sub (.gl (s "WORD")) (.I 1))) (.gl (s "HALF"))))
theorem Pg.sy {a0:V} (w:C.T≤H.length→wX C k l7 [some a0,none,none] H (bO Q)):aa C (k+1) (s "wrap_half") [a0] H Q:=P.go (L:=3) P.uj w ∅ ∅
def uS:MS:=(.asg 2 (.B .FloorDiv (.K (s "abs") (.C (.V 0) .N)) (.K (s "abs") (.C (.V 1) .N))) (.bq (.aD .NotEq (.cmp .Lt (.V 0) (.I 0)) (.cmp .Lt (.V 1) (.I 0))) (.ret (.un .USub (.V 2))) .N (.ret (.V 2))))
theorem Pg.yH {a0 a1:V} (w:C.T≤H.length→wX C k uS [some a0,some a1,none,none] H (bO Q)):aa C (k+1) (s "divide") [a0,a1] H Q:=P.go (L:=4) P.zU w ∅ ∅
def jY:MS:=(.ret (.B .Add (.B .LShift (.V 1) (.I 16)) (.V 0)))
theorem Pg.qa {a0 a1:V} (w:C.T≤H.length→wX C k jY [some a0,some a1] H (bO Q)):aa C (k+1) (s "make_score") [a0,a1] H Q:=P.go (L:=2) P.rR w ∅ ∅
def xQ:MS:=(.ret (.K (s "wrap_half") (.C (.V 0) .N)))
theorem Pg.z5 {a0:V} (w:C.T≤H.length→wX C k xQ [some a0,none] H (bO Q)):aa C (k+1) (s "mg_of") [a0] H Q:=P.go (L:=2) P.Cr w ∅ ∅
def oP:MS:=(.ret (.B .BitAnd (.sub (.attr (.V 0) (s "kinds")) (.gl (s "PAWN"))) (.sub (.attr (.V 0) (s "sides")) (.V 1))))
theorem Pg.uG {a0 a1:V} (w:C.T≤H.length→wX C k oP [some a0,some a1,none] H (bO Q)):aa C (k+1) (s "pawns_of") [a0,a1] H Q:=P.go (L:=3) P.wg w ∅ ∅
def oQ:MS:=(.bq (.aD .Eq (.V 2) (.gl (s "WHITE"))) (.ret (.B .BitAnd (.B .LShift (.V 1) (.attr (.V 0) (s "files"))) (.attr (.V 0) (s "full")))) .N (.ret (.B .RShift (.V 1) (.attr (.V 0) (s "files")))))
theorem Pg.uH {a0 a1 a2:V} (w:C.T≤H.length→wX C k oQ [some a0,some a1,some a2,none] H (bO Q)):aa C (k+1) (s "shift_up") [a0,a1,a2] H Q:=P.go (L:=4) P.wh w ∅ ∅
def jZ:MS:=(.asg 2 (.B .LShift (.B .BitAnd (.V 1) (.un .Invert (.sub (.attr (.V 0) (s "file_masks")) (.B .Sub (.attr (.V 0) (s "files")) (.I 1))))) (.I 1)) (.asg 3 (.B .RShift (.B .BitAnd (.V 1) (.un .Invert (.sub (.attr (.V 0) (s "file_masks")) (.I 0)))) (.I 1)) (.ret (.B .BitAnd (.B .BitOr (.V 2) (.V 3)) (.attr (.V 0) (s "full"))))))
theorem Pg.qb {a0 a1:V} (w:C.T≤H.length→wX C k jZ [some a0,some a1,none,none] H (bO Q)):aa C (k+1) (s "neighbours") [a0,a1] H Q:=P.go (L:=4) P.rS w ∅ ∅
def gW:MS:=(.ret (.K (s "shift_up") (.C (.V 0) (.C (.K (s "neighbours") (.C (.V 0) (.C (.V 1) .N))) (.C (.V 2) .N)))))
theorem Pg.mL {a0 a1 a2:V} (w:C.T≤H.length→wX C k gW [some a0,some a1,some a2,none,none] H (bO Q)):aa C (k+1) (s "pawn_attacks") [a0,a1,a2] H Q:=P.go (L:=5) P.nP w ∅ ∅
def gV:MS:=(.asg 4 (.I 0) (.bP 5 (.K (s "squares_of") (.C (.V 1) .N)) (.asg 6 (.K (s "own_rank") (.C (.V 0) (.C (.V 2) (.C (.V 5) .N)))) (.bq (.cx (.C (.aD .GtE (.V 6) (.V 3)) (.C (.vD (.C (.aD .Eq (.V 4) (.I 0)) (.C (.aD .Lt (.V 6) (.V 4)) .N))) .N))) (.asg 4 (.V 6) .N) .N .N)) (.ret (.V 4))))
theorem Pg.mK {a0 a1 a2 a3:V} (w:C.T≤H.length→wX C k gV [some a0,some a1,some a2,some a3,none,none,none,none,none] H (bO Q)):aa C (k+1) (s "nearest_rank") [a0,a1,a2,a3] H Q:=P.go (L:=9) P.nO w ∅ ∅
def gY:MS:=(.asg 3 (.bq (.bf (.V 0)) (.K (s "make_score") (.C (.B .Add (.B .Sub (.I 60) (.B .Mult (.I 14) (.V 0))) (.B .Mult (.I 4) (.V 2))) (.C (.I 0) .N))) (.K (s "make_score") (.C (.B .Sub (.un .USub (.I 12)) (.B .Mult (.I 5) (.V 2))) (.C (.I 0) .N)))) (.bq (.cx (.C (.bf (.V 0)) (.C (.aD .Eq (.V 1) (.B .Add (.V 0) (.I 1))) .N))) (.ret (.B .Sub (.V 3) (.K (s "make_score") (.C (.K (s "max") (.C (.I 0) (.C (.B .Sub (.I 30) (.B .Mult (.I 6) (.V 1))) .N))) (.C (.K (s "max") (.C (.I 0) (.C (.B .Sub (.I 40) (.B .Mult (.I 9) (.V 1))) .N))) .N))))) .N (.bq (.bf (.V 1)) (.ret (.B .Sub (.V 3) (.K (s "make_score") (.C (.K (s "max") (.C (.I 0) (.C (.B .Sub (.B .Sub (.I 70) (.B .Mult (.I 12) (.V 1))) (.B .Mult (.I 4) (.V 2))) .N))) (.C (.I 0) .N))))) .N (.ret (.V 3)))))
theorem Pg.mO {a0 a1 a2:V} (w:C.T≤H.length→wX C k gY [some a0,some a1,some a2,none,none,none] H (bO Q)):aa C (k+1) (s "shelter_file") [a0,a1,a2] H Q:=P.go (L:=6) P.nR w ∅ ∅
def qV:MS:=(.asg 2 (.attr (.V 0) (s "geo")) (.asg 3 (.K (s "lowest") (.C (.B .BitAnd (.sub (.attr (.V 0) (s "kinds")) (.gl (s "KING"))) (.sub (.attr (.V 0) (s "sides")) (.V 1))) .N)) (.asg 4 (.K (s "own_rank") (.C (.V 2) (.C (.V 1) (.C (.V 3) .N)))) (.asg 5 (.B .Mod (.V 3) (.attr (.V 2) (s "files"))) (.bq (.aD .Gt (.attr (.V 2) (s "files")) (.I 2)) (.asg 5 (.K (s "min") (.C (.K (s "max") (.C (.V 5) (.C (.I 1) .N))) (.C (.B .Sub (.attr (.V 2) (s "files")) (.I 2)) .N))) .N) .N (.asg 6 (.I 0) (.bP 7 (.K (s "range") (.C (.K (s "max") (.C (.B .Sub (.V 5) (.I 1)) (.C (.I 0) .N))) (.C (.B .Add (.K (s "min") (.C (.B .Add (.V 5) (.I 1)) (.C (.B .Sub (.attr (.V 2) (s "files")) (.I 1)) .N))) (.I 1)) .N))) (.asg 8 (.K (s "nearest_rank") (.C (.V 2) (.C (.B .BitAnd (.K (s "pawns_of") (.C (.V 0) (.C (.V 1) .N))) (.sub (.attr (.V 2) (s "file_masks")) (.V 7))) (.C (.V 1) (.C (.V 4) .N))))) (.asg 9 (.K (s "nearest_rank") (.C (.V 2) (.C (.B .BitAnd (.K (s "pawns_of") (.C (.V 0) (.C (.B .Sub (.I 1) (.V 1)) .N))) (.sub (.attr (.V 2) (s "file_masks")) (.V 7))) (.C (.V 1) (.C (.V 4) .N))))) (.aug 6 .Add (.K (s "shelter_file") (.C (.V 8) (.C (.V 9) (.C (.K (s "from_edge") (.C (.V 7) (.C (.attr (.V 2) (s "files")) .N))) .N)))) .N))) (.ret (.V 6)))))))))
theorem Pg.wC {a0 a1:V} (w:C.T≤H.length→wX C k qV [some a0,some a1,none,none,none,none,none,none,none,none,none,none,none,none,none,none,none,none,none,none] H (bO Q)):aa C (k+1) (s "shelter") [a0,a1] H Q:=P.go (L:=20) P.yC w ∅ ∅
def fE:MS:=(.setattr (.V 0) (s "king") (.V 1) (.setattr (.V 0) (s "by") (.V 2) (.setattr (.V 0) (s "twice") (.V 3) (.setattr (.V 0) (s "reaches") (.V 4) (.setattr (.V 0) (s "shields") (.V 5) .N)))))
theorem Pg.r7 {a1 a2 a3 a4 a5:V} (w:C.T≤H.length→wX C k fE [some (.ref H.length),some a1,some a2,some a3,some a4,some a5] (H++[.inst 415 []]) (bO fun v H'=>v=.none∧Q (.ref H.length) H')):aa C (k+2) (s "AttackMap") [a1,a2,a3,a4,a5] H Q:=
 P.Jq (c:=415) (fI:=412) ∅ ∅ ∅ ∅ fun hT=>P.Hm (L:=6) P.kR (fun _=>w hT) ∅
def j0:MS:=(.bq (.aD .Eq (.V 1) (.gl (s "WHITE"))) (.ret (.sub (.attr (.V 0) (s "rank_masks")) (.V 2))) .N (.ret (.sub (.attr (.V 0) (s "rank_masks")) (.B .Sub (.B .Sub (.attr (.V 0) (s "ranks")) (.I 1)) (.V 2)))))
theorem Pg.qc {a0 a1 a2:V} (w:C.T≤H.length→wX C k j0 [some a0,some a1,some a2,none] H (bO Q)):aa C (k+1) (s "rank_board") [a0,a1,a2] H Q:=P.go (L:=4) P.rT w ∅ ∅
def j4:MS:=(.asg 3 (.K (s "occupied") (.C (.V 0) .N)) (.bq (.vD (.C (.aD .Eq (.V 2) (.gl (s "BISHOP"))) (.C (.aD .Eq (.V 2) (.gl (s "ROOK"))) .N))) (.aug 3 .BitAnd (.un .Invert (.sub (.attr (.V 0) (s "kinds")) (.gl (s "QUEEN")))) .N) .N (.bq (.aD .Eq (.V 2) (.gl (s "ROOK"))) (.aug 3 .BitAnd (.un .Invert (.K (s "pieces") (.C (.V 0) (.C (.V 1) (.C (.gl (s "ROOK")) .N))))) .N) .N (.ret (.V 3)))))
theorem Pg.qd {a0 a1 a2:V} (w:C.T≤H.length→wX C k j4 [some a0,some a1,some a2,none,none,none,none,none,none] H (bO Q)):aa C (k+1) (s "seen_stops") [a0,a1,a2] H Q:=P.go (L:=9) P.rU w ∅ ∅
def iO:MS:=(.asg 5 (.K (s "piece_attacks") (.C (.attr (.V 0) (s "geo")) (.C (.V 1) (.C (.V 2) (.C (.V 3) (.C (.K (s "seen_stops") (.C (.V 0) (.C (.V 1) (.C (.V 2) .N)))) .N)))))) (.bq (.cx (.C (.aD .NotEq (.V 2) (.gl (s "PAWN"))) (.C (.aD .NotEq (.V 2) (.gl (s "KING"))) (.C (.bf (.B .BitAnd (.B .RShift (.V 4) (.V 3)) (.I 1))) .N)))) (.aug 5 .BitAnd (.K (s "line") (.C (.attr (.V 0) (s "geo")) (.C (.K (s "king_square") (.C (.V 0) (.C (.V 1) .N))) (.C (.V 3) .N)))) .N) .N (.ret (.V 5))))
theorem Pg.og {a0 a1 a2 a3 a4:V} (w:C.T≤H.length→wX C k iO [some a0,some a1,some a2,some a3,some a4,none,none,none,none,none,none,none] H (bO Q)):aa C (k+1) (s "piece_reach") [a0,a1,a2,a3,a4] H Q:=P.go (L:=12) P.pR w ∅ ∅
def jS:MS:=(.asg 2 (.sub (.K (s "blockers") (.C (.V 0) (.C (.V 1) .N))) (.I 0)) (.asg 3 (.B .Mult (.L (.C (.I 0) .N)) (.I 7)) (.asg 4 (.I 0) (.asg 5 (.L .N) (.bP 6 (.tup (.C (.gl (s "PAWN")) (.C (.gl (s "KNIGHT")) (.C (.gl (s "BISHOP")) (.C (.gl (s "ROOK")) (.C (.gl (s "QUEEN")) (.C (.gl (s "KING")) .N))))))) (.bP 7 (.K (s "squares_of") (.C (.K (s "pieces") (.C (.V 0) (.C (.V 1) (.C (.V 6) .N)))) .N)) (.asg 8 (.K (s "piece_reach") (.C (.V 0) (.C (.V 1) (.C (.V 6) (.C (.V 7) (.C (.V 2) .N)))))) (.aug 4 .BitOr (.B .BitAnd (.sub (.V 3) (.I 0)) (.V 8)) (.cG (.V 3) (.V 6) .BitOr (.V 8) (.cG (.V 3) (.I 0) .BitOr (.V 8) (.bq (.cx (.C (.aD .NotEq (.V 6) (.gl (s "PAWN"))) (.C (.aD .NotEq (.V 6) (.gl (s "KING"))) .N))) (.expr (.app (.V 5) (.tup (.C (.V 6) (.C (.V 8) .N)))) .N) .N .N))))) .N) (.ret (.K (s "AttackMap") (.C (.K (s "king_square") (.C (.V 0) (.C (.V 1) .N))) (.C (.V 3) (.C (.V 4) (.C (.V 5) (.C (.V 2) .N))))))))))))
theorem Pg.pV {a0 a1:V} (w:C.T≤H.length→wX C k jS [some a0,some a1,none,none,none,none,none,none,none,none,none,none,none,none,none,none,none,none,none,none,none] H (bO Q)):aa C (k+1) (s "attack_map") [a0,a1] H Q:=P.go (L:=21) P.rL w ∅ ∅
def iJ:MS:=(.ret (.L (.C (.K (s "attack_map") (.C (.V 0) (.C (.gl (s "WHITE")) .N))) (.C (.K (s "attack_map") (.C (.V 0) (.C (.gl (s "BLACK")) .N))) .N))))
theorem Pg.nZ {a0:V} (w:C.T≤H.length→wX C k iJ [some a0,none,none,none] H (bO Q)):aa C (k+1) (s "attack_maps") [a0] H Q:=P.go (L:=4) P.pM w ∅ ∅
def qO:MS:=(.asg 3 (.attr (.V 0) (s "geo")) (.asg 4 (.B .BitOr (.K (s "rank_board") (.C (.V 3) (.C (.V 1) (.C (.I 1) .N)))) (.K (s "rank_board") (.C (.V 3) (.C (.V 1) (.C (.I 2) .N))))) (.asg 5 (.B .BitAnd (.K (s "pieces") (.C (.V 0) (.C (.V 1) (.C (.gl (s "PAWN")) .N)))) (.B .BitOr (.V 4) (.K (s "shift_up") (.C (.V 3) (.C (.K (s "occupied") (.C (.V 0) .N)) (.C (.B .Sub (.I 1) (.V 1)) .N)))))) (.aug 5 .BitOr (.B .BitOr (.B .BitOr (.K (s "pieces") (.C (.V 0) (.C (.V 1) (.C (.gl (s "KING")) .N)))) (.K (s "pieces") (.C (.V 0) (.C (.V 1) (.C (.gl (s "QUEEN")) .N))))) (.V 2)) (.ret (.B .BitAnd (.B .BitAnd (.attr (.V 3) (s "full")) (.un .Invert (.V 5))) (.un .Invert (.K (s "pawn_attacks") (.C (.V 3) (.C (.K (s "pieces") (.C (.V 0) (.C (.B .Sub (.I 1) (.V 1)) (.C (.gl (s "PAWN")) .N)))) (.C (.B .Sub (.I 1) (.V 1)) .N)))))))))))
theorem Pg.wq {a0 a1 a2:V} (w:C.T≤H.length→wX C k qO [some a0,some a1,some a2,none,none,none,none,none,none,none,none,none,none,none] H (bO Q)):aa C (k+1) (s "area_of") [a0,a1,a2] H Q:=P.go (L:=14) P.yv w ∅ ∅
def fH:MS:=(.nu [2,3,4,5,6] (.sub (.gl (s "MOBILITY_ENDS")) (.V 0)) (.asg 7 (.B .Mult (.V 1) (.B .Sub (.B .Mult (.I 2) (.V 6)) (.V 1))) (.asg 8 (.B .Add (.V 2) (.B .FloorDiv (.B .Mult (.B .Sub (.V 3) (.V 2)) (.V 7)) (.B .Mult (.V 6) (.V 6)))) (.asg 9 (.B .Add (.V 4) (.B .FloorDiv (.B .Mult (.B .Sub (.V 5) (.V 4)) (.V 7)) (.B .Mult (.V 6) (.V 6)))) (.ret (.K (s "make_score") (.C (.V 8) (.C (.V 9) .N))))))))
theorem Pg.jD {a0 a1:V} (w:C.T≤H.length→wX C k fH [some a0,some a1,none,none,none,none,none,none,none,none,none,none] H (bO Q)):aa C (k+1) (s "mobility_bonus") [a0,a1] H Q:=P.go (L:=12) P.kT w ∅ ∅
def fJ:MS:=(.asg 3 (.K (s "area_of") (.C (.V 0) (.C (.V 1) (.C (.attr (.sub (.V 2) (.V 1)) (s "shields")) .N)))) (.asg 4 (.I 0) (.rY [5,6] (.attr (.sub (.V 2) (.V 1)) (s "reaches")) (.aug 4 .Add (.K (s "mobility_bonus") (.C (.V 5) (.C (.K (s "count_bits") (.C (.B .BitAnd (.V 6) (.V 3)) .N)) .N))) .N) (.ret (.V 4)))))
theorem Pg.jE {a0 a1 a2:V} (w:C.T≤H.length→wX C k fJ [some a0,some a1,some a2,none,none,none,none,none,none,none] H (bO Q)):aa C (k+1) (s "mobility_score") [a0,a1,a2] H Q:=P.go (L:=10) P.kU w ∅ ∅
def oN:MS:=(.bq (.aD .Lt (.V 1) (.I 3)) (.ret (.V 0)) .N (.ret (.K (s "min") (.C (.K (s "max") (.C (.V 0) (.C (.I 1) .N))) (.C (.B .Sub (.V 1) (.I 2)) .N)))))
theorem Pg.uE {a0 a1:V} (w:C.T≤H.length→wX C k oN [some a0,some a1,none,none] H (bO Q)):aa C (k+1) (s "off_edge") [a0,a1] H Q:=P.go (L:=4) P.wd w ∅ ∅
def lU:MS:=(.asg 2 (.B .Add (.B .Mult (.K (s "off_edge") (.C (.B .FloorDiv (.V 1) (.attr (.V 0) (s "files"))) (.C (.attr (.V 0) (s "ranks")) .N))) (.attr (.V 0) (s "files"))) (.K (s "off_edge") (.C (.B .Mod (.V 1) (.attr (.V 0) (s "files"))) (.C (.attr (.V 0) (s "files")) .N)))) (.ret (.B .BitOr (.sub (.attr (.V 0) (s "king")) (.V 2)) (.B .LShift (.I 1) (.V 2)))))
theorem Pg.sf {a0 a1:V} (w:C.T≤H.length→wX C k lU [some a0,some a1,none,none] H (bO Q)):aa C (k+1) (s "king_ring") [a0,a1] H Q:=P.go (L:=4) P.ud w ∅ ∅
def gR:MS:=(.asg 3 (.I 0) (.asg 4 (.I 0) (.bP 5 (.K (s "squares_of") (.C (.K (s "pieces") (.C (.V 0) (.C (.V 1) (.C (.gl (s "PAWN")) .N)))) .N)) (.aug 4 .BitOr (.B .BitAnd (.V 3) (.sub (.sub (.attr (.attr (.V 0) (s "geo")) (s "pawn")) (.V 1)) (.V 5))) (.aug 3 .BitOr (.sub (.sub (.attr (.attr (.V 0) (s "geo")) (s "pawn")) (.V 1)) (.V 5)) .N)) (.ret (.B .BitAnd (.K (s "king_ring") (.C (.attr (.V 0) (s "geo")) (.C (.V 2) .N))) (.un .Invert (.V 4)))))))
theorem Pg.mH {a0 a1 a2:V} (w:C.T≤H.length→wX C k gR [some a0,some a1,some a2,none,none,none,none,none,none,none] H (bO Q)):aa C (k+1) (s "guarded_ring") [a0,a1,a2] H Q:=P.go (L:=10) P.nL w ∅ ∅
def fK:MS:=(.asg 4 (.sub (.V 2) (.B .Sub (.I 1) (.V 1))) (.asg 5 (.sub (.attr (.sub (.V 2) (.V 1)) (s "by")) (.gl (s "KING"))) (.asg 6 (.K (s "count_bits") (.C (.B .BitAnd (.K (s "king_ring") (.C (.V 0) (.C (.attr (.sub (.V 2) (.V 1)) (s "king")) .N))) (.sub (.attr (.V 4) (s "by")) (.gl (s "PAWN")))) .N)) (.asg 7 (.I 0) (.asg 8 (.I 0) (.rY [9,10] (.attr (.V 4) (s "reaches")) (.bq (.bf (.B .BitAnd (.V 10) (.V 3))) (.aug 6 .Add (.I 1) (.aug 7 .Add (.sub (.gl (s "RING_WEIGHTS")) (.V 9)) (.aug 8 .Add (.K (s "count_bits") (.C (.B .BitAnd (.V 10) (.V 5)) .N)) .N))) .N .N) (.ret (.tup (.C (.V 6) (.C (.V 7) (.C (.V 8) .N)))))))))))
theorem Pg.jG {a0 a1 a2 a3:V} (w:C.T≤H.length→wX C k fK [some a0,some a1,some a2,some a3,none,none,none,none,none,none,none,none,none,none,none,none] H (bO Q)):aa C (k+1) (s "ring_attackers") [a0,a1,a2,a3] H Q:=P.go (L:=16) P.kW w ∅ ∅
def gZ:MS:=(.asg 2 (.sub (.V 1) (.V 0)) (.ret (.B .BitAnd (.B .BitAnd (.sub (.attr (.sub (.V 1) (.B .Sub (.I 1) (.V 0))) (s "by")) (.I 0)) (.un .Invert (.attr (.V 2) (s "twice")))) (.B .BitOr (.B .BitOr (.un .Invert (.sub (.attr (.V 2) (s "by")) (.I 0))) (.sub (.attr (.V 2) (s "by")) (.gl (s "KING")))) (.sub (.attr (.V 2) (s "by")) (.gl (s "QUEEN")))))))
theorem Pg.mP {a0 a1:V} (w:C.T≤H.length→wX C k gZ [some a0,some a1,none,none,none] H (bO Q)):aa C (k+1) (s "weak_squares") [a0,a1] H Q:=P.go (L:=5) P.nS w ∅ ∅
def gQ:MS:=(.asg 3 (.attr (.V 0) (s "geo")) (.asg 4 (.sub (.V 2) (.V 1)) (.asg 5 (.sub (.V 2) (.B .Sub (.I 1) (.V 1))) (.asg 6 (.attr (.V 4) (s "king")) (.asg 7 (.B .BitAnd (.K (s "occupied") (.C (.V 0) .N)) (.un .Invert (.K (s "pieces") (.C (.V 0) (.C (.V 1) (.C (.gl (s "QUEEN")) .N)))))) (.asg 8 (.K (s "rook_attacks") (.C (.V 3) (.C (.V 6) (.C (.V 7) .N)))) (.asg 9 (.K (s "bishop_attacks") (.C (.V 3) (.C (.V 6) (.C (.V 7) .N)))) (.asg 10 (.B .BitAnd (.B .BitAnd (.attr (.V 3) (s "full")) (.un .Invert (.sub (.attr (.V 0) (s "sides")) (.B .Sub (.I 1) (.V 1))))) (.B .BitOr (.un .Invert (.sub (.attr (.V 4) (s "by")) (.I 0))) (.B .BitAnd (.K (s "weak_squares") (.C (.V 1) (.C (.V 2) .N))) (.attr (.V 5) (s "twice"))))) (.asg 11 (.B .Mult (.L (.C (.I 0) .N)) (.I 7)) (.cN (.V 11) (.gl (s "KNIGHT")) (.B .BitAnd (.sub (.attr (.V 3) (s "knight")) (.V 6)) (.sub (.attr (.V 5) (s "by")) (.gl (s "KNIGHT")))) (.cN (.V 11) (.gl (s "BISHOP")) (.B .BitAnd (.V 9) (.sub (.attr (.V 5) (s "by")) (.gl (s "BISHOP")))) (.cN (.V 11) (.gl (s "ROOK")) (.B .BitAnd (.V 8) (.sub (.attr (.V 5) (s "by")) (.gl (s "ROOK")))) (.cN (.V 11) (.gl (s "QUEEN")) (.B .BitAnd (.B .BitAnd (.B .BitAnd (.B .BitAnd (.B .BitOr (.V 8) (.V 9)) (.sub (.attr (.V 5) (s "by")) (.gl (s "QUEEN")))) (.V 10)) (.un .Invert (.sub (.attr (.V 4) (s "by")) (.gl (s "QUEEN"))))) (.un .Invert (.B .BitAnd (.sub (.V 11) (.gl (s "ROOK"))) (.V 10)))) (.asg 12 (.I 0) (.asg 13 (.I 0) (.bP 14 (.tup (.C (.gl (s "KNIGHT")) (.C (.gl (s "BISHOP")) (.C (.gl (s "ROOK")) (.C (.gl (s "QUEEN")) .N))))) (.asg 15 (.B .BitAnd (.sub (.V 11) (.V 14)) (.V 10)) (.bq (.aD .Eq (.V 14) (.gl (s "BISHOP"))) (.aug 15 .BitAnd (.un .Invert (.sub (.V 11) (.gl (s "QUEEN")))) .N) .N (.bq (.bf (.V 15)) (.aug 12 .Add (.sub (.sub (.gl (s "SAFE_CHECKS")) (.V 14)) (.bq (.bf (.K (s "more_than_one") (.C (.V 15) .N))) (.I 1) (.I 0))) .N) (.aug 13 .BitOr (.sub (.V 11) (.V 14)) .N) .N))) (.ret (.tup (.C (.V 12) (.C (.V 13) .N))))))))))))))))))))
theorem Pg.mG {a0 a1 a2:V} (w:C.T≤H.length→wX C k gQ [some a0,some a1,some a2,none,none,none,none,none,none,none,none,none,none,none,none,none,none,none,none,none,none,none,none,none,none,none,none] H (bO Q)):aa C (k+1) (s "check_danger") [a0,a1,a2] H Q:=P.go (L:=27) P.nK w ∅ ∅
def iK:MS:=(.asg 2 (.I 0) (.bP 3 (.K (s "range") (.C (.attr (.V 0) (s "files")) .N)) (.bq (.aD .LtE (.K (s "abs") (.C (.B .Sub (.V 3) (.B .Mod (.V 1) (.attr (.V 0) (s "files")))) .N)) (.I 2)) (.aug 2 .BitOr (.sub (.attr (.V 0) (s "file_masks")) (.V 3)) .N) .N .N) (.ret (.V 2))))
theorem Pg.n7 {a0 a1:V} (w:C.T≤H.length→wX C k iK [some a0,some a1,none,none,none,none] H (bO Q)):aa C (k+1) (s "flank_files") [a0,a1] H Q:=P.go (L:=6) P.pN w ∅ ∅
def gu:MS:=(.asg 3 (.I 0) (.bP 4 (.K (s "range") (.C (.B .FloorDiv (.B .Mult (.attr (.V 0) (s "ranks")) (.I 5)) (.I 8)) .N)) (.aug 3 .BitOr (.K (s "rank_board") (.C (.V 0) (.C (.V 1) (.C (.V 4) .N)))) .N) (.ret (.B .BitAnd (.V 3) (.K (s "flank_files") (.C (.V 0) (.C (.V 2) .N)))))))
theorem Pg.kY {a0 a1 a2:V} (w:C.T≤H.length→wX C k gu [some a0,some a1,some a2,none,none,none,none,none] H (bO Q)):aa C (k+1) (s "flank_squares") [a0,a1,a2] H Q:=P.go (L:=8) P.mx w ∅ ∅
def iQ:MS:=(.asg 3 (.K (s "flank_squares") (.C (.V 0) (.C (.V 1) (.C (.attr (.sub (.V 2) (.V 1)) (s "king")) .N)))) (.ret (.B .Add (.K (s "count_bits") (.C (.B .BitAnd (.sub (.attr (.sub (.V 2) (.B .Sub (.I 1) (.V 1))) (s "by")) (.I 0)) (.V 3)) .N)) (.K (s "count_bits") (.C (.B .BitAnd (.attr (.sub (.V 2) (.B .Sub (.I 1) (.V 1))) (s "twice")) (.V 3)) .N)))))
theorem Pg.oj {a0 a1 a2:V} (w:C.T≤H.length→wX C k iQ [some a0,some a1,some a2,none,none,none] H (bO Q)):aa C (k+1) (s "storm_count") [a0,a1,a2] H Q:=P.go (L:=6) P.pT w ∅ ∅
def iL:MS:=(.asg 3 (.sub (.V 2) (.V 1)) (.asg 4 (.K (s "guarded_ring") (.C (.V 0) (.C (.V 1) (.C (.attr (.V 3) (s "king")) .N)))) (.nu [5,6,7] (.K (s "ring_attackers") (.C (.attr (.V 0) (s "geo")) (.C (.V 1) (.C (.V 2) (.C (.V 4) .N))))) (.nu [8,9] (.K (s "check_danger") (.C (.V 0) (.C (.V 1) (.C (.V 2) .N)))) (.asg 10 (.K (s "storm_count") (.C (.attr (.V 0) (s "geo")) (.C (.V 1) (.C (.V 2) .N)))) (.asg 11 (.B .Add (.B .Add (.B .Add (.V 8) (.B .Mult (.V 5) (.V 6))) (.B .Mult (.I 69) (.V 7))) (.I 37)) (.aug 11 .Add (.B .Add (.B .Mult (.I 183) (.K (s "count_bits") (.C (.B .BitAnd (.V 4) (.K (s "weak_squares") (.C (.V 1) (.C (.V 2) .N)))) .N))) (.B .Mult (.I 148) (.K (s "count_bits") (.C (.V 9) .N)))) (.aug 11 .Add (.B .Add (.B .Mult (.I 98) (.K (s "count_bits") (.C (.attr (.V 3) (s "shields")) .N))) (.B .FloorDiv (.B .Mult (.B .Mult (.I 3) (.V 10)) (.V 10)) (.I 8))) (.aug 11 .Add (.B .Sub (.K (s "mg_of") (.C (.K (s "mobility_score") (.C (.V 0) (.C (.B .Sub (.I 1) (.V 1)) (.C (.V 2) .N)))) .N)) (.K (s "mg_of") (.C (.K (s "mobility_score") (.C (.V 0) (.C (.V 1) (.C (.V 2) .N)))) .N))) (.aug 11 .Sub (.B .Mult (.I 4) (.K (s "count_bits") (.C (.B .BitAnd (.sub (.attr (.V 3) (s "by")) (.I 0)) (.K (s "flank_squares") (.C (.attr (.V 0) (s "geo")) (.C (.V 1) (.C (.attr (.V 3) (s "king")) .N))))) .N))) (.bq (.iC (.bf (.K (s "pieces") (.C (.V 0) (.C (.B .Sub (.I 1) (.V 1)) (.C (.gl (s "QUEEN")) .N)))))) (.aug 11 .Sub (.I 873) .N) .N (.bq (.bf (.B .BitAnd (.sub (.attr (.V 3) (s "by")) (.gl (s "KNIGHT"))) (.sub (.attr (.V 3) (s "by")) (.gl (s "KING"))))) (.aug 11 .Sub (.I 100) .N) .N (.ret (.V 11))))))))))))))
theorem Pg.n_ {a0 a1 a2:V} (w:C.T≤H.length→wX C k iL [some a0,some a1,some a2,none,none,none,none,none,none,none,none,none,none,none,none,none,none,none,none,none,none,none,none,none,none] H (bO Q)):aa C (k+1) (s "king_danger") [a0,a1,a2] H Q:=P.go (L:=25) P.pO w ∅ ∅
def jV:MS:=(.asg 3 (.K (s "shelter") (.C (.V 0) (.C (.V 1) .N))) (.asg 4 (.K (s "min") (.C (.B .Sub (.K (s "king_danger") (.C (.V 0) (.C (.V 1) (.C (.V 2) .N)))) (.K (s "divide") (.C (.B .Mult (.I 6) (.K (s "mg_of") (.C (.V 3) .N))) (.C (.I 8) .N)))) (.C (.gl (s "MOST_DANGER")) .N))) (.bq (.aD .Gt (.V 4) (.I 100)) (.aug 3 .Sub (.K (s "make_score") (.C (.B .FloorDiv (.B .Mult (.V 4) (.V 4)) (.I 4096)) (.C (.B .FloorDiv (.V 4) (.I 16)) .N))) .N) .N (.bq (.iC (.bf (.B .BitAnd (.sub (.attr (.V 0) (s "kinds")) (.gl (s "PAWN"))) (.K (s "flank_files") (.C (.attr (.V 0) (s "geo")) (.C (.attr (.sub (.V 2) (.V 1)) (s "king")) .N)))))) (.aug 3 .Sub (.K (s "make_score") (.C (.I 17) (.C (.I 95) .N))) .N) .N (.ret (.B .Sub (.V 3) (.K (s "make_score") (.C (.B .Mult (.I 8) (.K (s "storm_count") (.C (.attr (.V 0) (s "geo")) (.C (.V 1) (.C (.V 2) .N))))) (.C (.I 0) .N)))))))))
theorem Pg.pY {a0 a1 a2:V} (w:C.T≤H.length→wX C k jV [some a0,some a1,some a2,none,none,none,none,none,none,none,none,none,none,none,none] H (bO Q)):aa C (k+1) (s "king_score") [a0,a1,a2] H Q:=P.go (L:=15) P.rO w ∅ ∅
def gP:MS:=(.setattr (.V 0) (s "pieces") (.V 1) (.setattr (.V 0) (s "ep") (.V 2) (.setattr (.V 0) (s "rights") (.V 3) (.setattr (.V 0) (s "side") (.V 4) .N))))
theorem Pg.wm {a1 a2 a3 a4:V} (w:C.T≤H.length→wX C k gP [some (.ref H.length),some a1,some a2,some a3,some a4] (H++[.inst 575 []]) (bO fun v H'=>v=.none∧Q (.ref H.length) H')):aa C (k+2) (s "Zobrist") [a1,a2,a3,a4] H Q:=
 P.Jq (c:=575) (fI:=572) ∅ ∅ ∅ ∅ fun hT=>P.Hm (L:=5) P.nJ (fun _=>w hT) ∅
def lV:MS:=(.asg 3 (.B .Mult (.V 0) (.V 1)) (.asg 2 (.B .Add (.V 2) (.Gl (.L (.C (.I 0) (.C (.I 9) .N))) (.C (.K (s "len") (.C (.V 2) .N)) .N) .N)) (.asg 4 (.B .Mult (.L (.C (.I 0) .N)) (.V 3)) (.asg 5 (.B .Mod (.sub (.V 2) (.I 0)) (.V 3)) (.cN (.V 4) (.V 5) (.I 6) (.cN (.V 4) (.B .Mod (.B .Add (.B .Add (.V 5) (.I 1)) (.B .Mod (.sub (.V 2) (.I 1)) (.B .Sub (.V 3) (.I 1)))) (.V 3)) (.I 14) (.bP 6 (.Gl (.V 2) (.C (.I 2) .N) .N) (.asg 7 (.B .Mod (.V 6) (.V 3)) (.asg 8 (.B .Add (.I 1) (.B .Mod (.B .FloorDiv (.V 6) (.V 3)) (.I 5))) (.asg 9 (.DY (.cmp .Eq (.B .FloorDiv (.V 7) (.V 0)) (.I 0)) (.cmp .Eq (.B .FloorDiv (.V 7) (.V 0)) (.B .Sub (.V 1) (.I 1)))) (.bq (.cx (.C (.aD .Eq (.sub (.V 4) (.V 7)) (.I 0)) (.C (.iC (.cx (.C (.aD .Eq (.V 8) (.I 1)) (.C (.bf (.V 9)) .N)))) .N))) (.cN (.V 4) (.V 7) (.B .Add (.V 8) (.B .Mult (.B .Mod (.B .FloorDiv (.V 6) (.B .Mult (.V 3) (.I 5))) (.I 2)) (.I 8))) .N) .N .N)))) (.ret (.V 4)))))))))
theorem Pg.sj {a0 a1 a2:V} (w:C.T≤H.length→wX C k lV [some a0,some a1,some a2,none,none,none,none,none,none,none,none] H (bO Q)):aa C (k+1) (s "_law_board") [a0,a1,a2] H Q:=P.go (L:=11) P.ue w ∅ ∅
def gU:MS:=(.asg 3 (.lc [none,none,some 0] 1 (.K (s "range") (.C (.I 15) .N)) .N (.B .Mult (.L (.C (.I 0) .N)) (.attr (.V 2) (s "size")))) (.asg 4 (.K (s "Position") (.C (.V 0) (.C (.K (s "Zobrist") (.C (.V 3) (.C (.B .Mult (.L (.C (.I 0) .N)) (.attr (.V 0) (s "files"))) (.C (.B .Mult (.L (.C (.I 0) .N)) (.I 16)) (.C (.I 0) .N))))) .N))) (.bP 5 (.K (s "range") (.C (.attr (.V 0) (s "size")) .N)) (.bq (.bf (.sub (.V 1) (.V 5))) (.expr (.K (s "put_piece") (.C (.V 4) (.C (.sub (.V 1) (.V 5)) (.C (.V 5) .N)))) .N) .N .N) (.setattr (.V 4) (s "side") (.V 2) (.ret (.V 4))))))
theorem Pg.mJ {a0 a1 a2:V} (w:C.T≤H.length→wX C k gU [some a0,some a1,some a2,none,none,none,none,none,none,none] H (bO Q)):aa C (k+1) (s "_law_position") [a0,a1,a2] H Q:=P.go (L:=10) P.nN w ∅ ∅
def oG:MS:=(.asg 1 (.I 0) (.bP 2 (.V 0) (.aug 1 .BitOr (.B .LShift (.I 1) (.V 2)) .N) (.ret (.V 1))))
theorem Pg.uy {a0:V} (w:C.T≤H.length→wX C k oG [some a0,none,none] H (bO Q)):aa C (k+1) (s "_law_bits") [a0] H Q:=P.go (L:=3) P.vY w ∅ ∅
def qT:MS:=(.asg 6 (.L .N) (.asg 7 (.B .Add (.B .Mod (.V 3) (.V 0)) (.sub (.V 4) (.I 0))) (.asg 8 (.B .Add (.B .FloorDiv (.V 3) (.V 0)) (.sub (.V 4) (.I 1))) (.Du (.cx (.C (.yf .LtE .Lt (.I 0) (.V 7) (.V 0)) (.C (.yf .LtE .Lt (.I 0) (.V 8) (.V 1)) .N))) (.expr (.app (.V 6) (.B .Add (.B .Mult (.V 8) (.V 0)) (.V 7))) (.bq (.aD .NotIn (.sub (.V 2) (.B .Add (.B .Mult (.V 8) (.V 0)) (.V 7))) (.V 5)) .brk .N (.aug 7 .Add (.sub (.V 4) (.I 0)) (.aug 8 .Add (.sub (.V 4) (.I 1)) .N)))) (.ret (.V 6))))))
theorem Pg.wB {a0 a1 a2 a3 a4 a5:V} (w:C.T≤H.length→wX C k qT [some a0,some a1,some a2,some a3,some a4,some a5,none,none,none] H (bO Q)):aa C (k+1) (s "_law_ray") [a0,a1,a2,a3,a4,a5] H Q:=P.go (L:=9) P.yB w ∅ ∅
def oH:MS:=(.asg 4 (.L .N) (.rY [5,6] (.V 3) (.asg 7 (.B .Add (.B .Mod (.V 2) (.V 0)) (.V 5)) (.asg 8 (.B .Add (.B .FloorDiv (.V 2) (.V 0)) (.V 6)) (.bq (.cx (.C (.yf .LtE .Lt (.I 0) (.V 7) (.V 0)) (.C (.yf .LtE .Lt (.I 0) (.V 8) (.V 1)) .N))) (.expr (.app (.V 4) (.B .Add (.B .Mult (.V 8) (.V 0)) (.V 7))) .N) .N .N))) (.ret (.V 4))))
theorem Pg.uz {a0 a1 a2 a3:V} (w:C.T≤H.length→wX C k oH [some a0,some a1,some a2,some a3,none,none,none,none,none] H (bO Q)):aa C (k+1) (s "_law_hops") [a0,a1,a2,a3] H Q:=P.go (L:=9) P.vZ w ∅ ∅
def iN:MS:=(.asg 4 (.index (.V 2) (.B .Add (.B .Mult (.V 3) (.I 8)) (.I 6))) (.asg 5 (.L .N) (.bP 6 (.K (s "range") (.C (.I 8) .N)) (.asg 7 (.L (.C (.B .Add (.bq (.aD .Lt (.V 6) (.I 4)) (.I 4) (.I 3)) (.B .Mult (.B .Sub (.I 1) (.V 3)) (.I 8))) (.C (.B .Add (.I 5) (.B .Mult (.B .Sub (.I 1) (.V 3)) (.I 8))) .N))) (.asg 8 (.L .N) (.bP 9 (.K (s "_law_ray") (.C (.V 0) (.C (.V 1) (.C (.V 2) (.C (.V 4) (.C (.sub (.gl (s "_law_ways")) (.V 6)) (.C (.K (s "list") (.C (.K (s "range") (.C (.I 15) .N)) .N)) .N))))))) (.bq (.aD .In (.sub (.V 2) (.V 9)) (.V 7)) (.bq (.cx (.C (.aD .Eq (.K (s "len") (.C (.V 8) .N)) (.I 1)) (.C (.aD .NotIn (.sub (.V 8) (.I 0)) (.V 5)) .N))) (.expr (.app (.V 5) (.sub (.V 8) (.I 0))) .N) .N .N) (.bq (.bf (.sub (.V 2) (.V 9))) (.expr (.app (.V 8) (.V 9)) .N) .N .N) .N) .N))) (.ret (.V 5)))))
theorem Pg.oe {a0 a1 a2 a3:V} (w:C.T≤H.length→wX C k iN [some a0,some a1,some a2,some a3,none,none,none,none,none,none,none,none,none,none,none] H (bO Q)):aa C (k+1) (s "_law_shields") [a0,a1,a2,a3] H Q:=P.go (L:=15) P.pQ w ∅ ∅
def lY:MS:=(.asg 5 (.B .FloorDiv (.sub (.V 2) (.V 3)) (.I 8)) (.asg 6 (.B .Mod (.sub (.V 2) (.V 3)) (.I 8)) (.bq (.aD .Eq (.V 6) (.I 1)) (.ret (.K (s "_law_hops") (.C (.V 0) (.C (.V 1) (.C (.V 3) (.C (.L (.C (.tup (.C (.un .USub (.I 1)) (.C (.B .Sub (.I 1) (.B .Mult (.I 2) (.V 5))) .N))) (.C (.tup (.C (.I 1) (.C (.B .Sub (.I 1) (.B .Mult (.I 2) (.V 5))) .N))) .N))) .N)))))) .N (.bq (.aD .Eq (.V 6) (.I 6)) (.ret (.K (s "_law_hops") (.C (.V 0) (.C (.V 1) (.C (.V 3) (.C (.gl (s "_law_ways")) .N)))))) .N (.asg 7 (.L .N) (.bq (.aD .Eq (.V 6) (.I 2)) (.asg 7 (.K (s "_law_hops") (.C (.V 0) (.C (.V 1) (.C (.V 3) (.C (.gl (s "_law_jumps")) .N))))) .N) .N (.asg 8 (.sub (.L (.C (.L (.C (.I 0) (.C (.I 5) (.C (.I 13) .N)))) (.C (.L (.C (.I 0) (.C (.I 5) (.C (.I 13) (.C (.B .Add (.B .Mult (.V 5) (.I 8)) (.I 4)) .N))))) (.C (.L (.C (.I 0) .N)) .N)))) (.B .Sub (.K (s "max") (.C (.V 6) (.C (.I 3) .N))) (.I 3))) (.bP 9 (.K (s "range") (.C (.I 8) .N)) (.bq (.vD (.C (.aD .Eq (.V 6) (.I 5)) (.C (.cx (.C (.aD .Eq (.V 6) (.I 4)) (.C (.aD .Lt (.V 9) (.I 4)) .N))) (.C (.cx (.C (.aD .Eq (.V 6) (.I 3)) (.C (.aD .Gt (.V 9) (.I 3)) .N))) .N)))) (.aug 7 .Add (.K (s "_law_ray") (.C (.V 0) (.C (.V 1) (.C (.V 2) (.C (.V 3) (.C (.sub (.gl (s "_law_ways")) (.V 9)) (.C (.V 8) .N))))))) .N) .N .N) (.bq (.aD .In (.V 3) (.V 4)) (.asg 10 (.index (.V 2) (.B .Add (.B .Mult (.V 5) (.I 8)) (.I 6))) (.asg 11 (.B .Sub (.B .Mod (.V 3) (.V 0)) (.B .Mod (.V 10) (.V 0))) (.asg 12 (.B .Sub (.B .FloorDiv (.V 3) (.V 0)) (.B .FloorDiv (.V 10) (.V 0))) (.asg 7 (.lc [none,none,some 11,some 12,some 0,some 10] 1 (.V 7) (.aD .Eq (.B .Mult (.B .Sub (.B .Mod (.V 1) (.V 4)) (.B .Mod (.V 5) (.V 4))) (.V 3)) (.B .Mult (.B .Sub (.B .FloorDiv (.V 1) (.V 4)) (.B .FloorDiv (.V 5) (.V 4))) (.V 2))) (.V 1)) .N)))) .N (.ret (.V 7)))))))))))
theorem Pg.su {a0 a1 a2 a3 a4:V} (w:C.T≤H.length→wX C k lY [some a0,some a1,some a2,some a3,some a4,none,none,none,none,none,none,none,none,none,none,none,none,none,none] H (bO Q)):aa C (k+1) (s "_law_reach") [a0,a1,a2,a3,a4] H Q:=P.go (L:=19) P.uh w ∅ ∅
def lX:MS:=(.asg 4 (.K (s "_law_shields") (.C (.V 0) (.C (.V 1) (.C (.V 2) (.C (.V 3) .N))))) (.asg 5 (.L .N) (.asg 6 (.L (.C (.L .N) (.C (.L .N) (.C (.L .N) (.C (.L .N) (.C (.L .N) (.C (.L .N) (.C (.L .N) .N)))))))) (.asg 7 (.B .Mult (.L (.C (.I 0) .N)) (.K (s "len") (.C (.V 2) .N))) (.bP 8 (.K (s "range") (.C (.K (s "len") (.C (.V 2) .N)) .N)) (.bq (.cx (.C (.bf (.sub (.V 2) (.V 8))) (.C (.aD .Eq (.B .FloorDiv (.sub (.V 2) (.V 8)) (.I 8)) (.V 3)) .N))) (.asg 9 (.K (s "_law_reach") (.C (.V 0) (.C (.V 1) (.C (.V 2) (.C (.V 8) (.C (.V 4) .N)))))) (.expr (.app (.V 5) (.tup (.C (.B .Mod (.sub (.V 2) (.V 8)) (.I 8)) (.C (.V 9) .N)))) (.cG (.V 6) (.B .Mod (.sub (.V 2) (.V 8)) (.I 8)) .Add (.V 9) (.bP 10 (.V 9) (.cG (.V 7) (.V 10) .Add (.I 1) .N) .N)))) .N .N) (.ret (.tup (.C (.V 4) (.C (.V 5) (.C (.V 6) (.C (.V 7) .N)))))))))))
theorem Pg.sr {a0 a1 a2 a3:V} (w:C.T≤H.length→wX C k lX [some a0,some a1,some a2,some a3,none,none,none,none,none,none,none,none,none,none,none] H (bO Q)):aa C (k+1) (s "_law_looks") [a0,a1,a2,a3] H Q:=P.go (L:=15) P.ug w ∅ ∅
def oF:MS:=(.asg 6 (.L .N) (.bP 7 (.K (s "range") (.C (.K (s "len") (.C (.V 2) .N)) .N)) (.asg 8 (.bq (.aD .Eq (.V 3) (.I 0)) (.B .FloorDiv (.V 7) (.V 0)) (.B .Sub (.B .Sub (.V 1) (.I 1)) (.B .FloorDiv (.V 7) (.V 0)))) (.bq (.cx (.C (.aD .Eq (.sub (.V 2) (.V 7)) (.B .Add (.B .Mult (.V 3) (.I 8)) (.I 1))) (.C (.vD (.C (.aD .Lt (.V 8) (.I 3)) (.C (.bf (.sub (.V 2) (.B .Add (.V 7) (.B .Mult (.V 0) (.B .Sub (.I 1) (.B .Mult (.I 2) (.V 3))))))) .N))) .N))) .cont .N (.bq (.cx (.C (.aD .NotEq (.sub (.V 2) (.V 7)) (.B .Add (.B .Mult (.V 3) (.I 8)) (.I 5))) (.C (.aD .NotEq (.sub (.V 2) (.V 7)) (.B .Add (.B .Mult (.V 3) (.I 8)) (.I 6))) (.C (.aD .NotIn (.V 7) (.V 4)) (.C (.aD .NotIn (.V 7) (.V 5)) .N))))) (.expr (.app (.V 6) (.V 7)) .N) .N .N))) (.ret (.V 6))))
theorem Pg.ux {a0 a1 a2 a3 a4 a5:V} (w:C.T≤H.length→wX C k oF [some a0,some a1,some a2,some a3,some a4,some a5,none,none,none,none,none] H (bO Q)):aa C (k+1) (s "_law_area") [a0,a1,a2,a3,a4,a5] H Q:=P.go (L:=11) P.vX w ∅ ∅
def qS:MS:=(.ret (.bq (.aD .GtE (.V 0) (.I 0)) (.B .FloorDiv (.V 0) (.V 1)) (.un .USub (.B .FloorDiv (.un .USub (.V 0)) (.V 1)))))
theorem Pg.wz {a0 a1:V} (w:C.T≤H.length→wX C k qS [some a0,some a1] H (bO Q)):aa C (k+1) (s "_law_cut") [a0,a1] H Q:=P.go (L:=2) P.yA w ∅ ∅
def oI:MS:=(.asg 5 (.bq (.aD .Eq (.V 2) (.I 0)) (.B .FloorDiv (.V 4) (.V 0)) (.B .Sub (.B .Sub (.V 1) (.I 1)) (.B .FloorDiv (.V 4) (.V 0)))) (.ret (.tT (.cmp .Lt (.K (s "abs") (.C (.B .Sub (.B .Mod (.V 4) (.V 0)) (.B .Mod (.V 3) (.V 0))) .N)) (.I 3)) (.cmp .Lt (.V 5) (.B .FloorDiv (.B .Mult (.V 1) (.I 5)) (.I 8))))))
theorem Pg.uA {a0 a1 a2 a3 a4:V} (w:C.T≤H.length→wX C k oI [some a0,some a1,some a2,some a3,some a4,none,none] H (bO Q)):aa C (k+1) (s "_law_near") [a0,a1,a2,a3,a4] H Q:=P.go (L:=7) P.v_ w ∅ ∅
def lW:MS:=(.asg 5 (.lc [none,none,some 0,some 1,some 3] 1 (.K (s "range") (.C (.K (s "len") (.C (.V 2) .N)) .N)) .N (.bq (.aD .Eq (.V 4) (.I 0)) (.B .FloorDiv (.V 1) (.V 2)) (.B .Sub (.B .Sub (.V 3) (.I 1)) (.B .FloorDiv (.V 1) (.V 2))))) (.asg 6 (.K (s "min") (.C (.K (s "max") (.C (.B .Mod (.V 4) (.V 0)) (.C (.I 1) .N))) (.C (.B .Sub (.V 0) (.I 2)) .N))) (.asg 7 (.I 0) (.asg 8 (.I 0) (.bP 9 (.tup (.C (.B .Sub (.V 6) (.I 1)) (.C (.V 6) (.C (.B .Add (.V 6) (.I 1)) .N)))) (.asg 10 (.L .N) (.bP 11 (.tup (.C (.B .Add (.B .Mult (.V 3) (.I 8)) (.I 1)) (.C (.B .Sub (.I 9) (.B .Mult (.V 3) (.I 8))) .N))) (.expr (.app (.V 10) (.K (s "min") (.C (.B .Add (.lc [none,none,some 2,some 5,some 4,some 11] 1 (.K (s "range") (.C (.V 9) (.C (.K (s "len") (.C (.V 2) .N)) (.C (.V 0) .N)))) (.cx (.C (.aD .Eq (.sub (.V 2) (.V 1)) (.V 5)) (.C (.aD .GtE (.sub (.V 3) (.V 1)) (.sub (.V 3) (.V 4))) .N))) (.sub (.V 3) (.V 1))) (.L (.C (.I 99) .N))) .N))) .N) (.asg 12 (.K (s "min") (.C (.V 9) (.C (.B .Sub (.B .Sub (.V 0) (.I 1)) (.V 9)) .N))) (.aug 7 .Add (.bq (.aD .Lt (.sub (.V 10) (.I 0)) (.I 99)) (.B .Add (.B .Sub (.I 60) (.B .Mult (.I 14) (.sub (.V 10) (.I 0)))) (.B .Mult (.I 4) (.V 12))) (.B .Sub (.un .USub (.I 12)) (.B .Mult (.I 5) (.V 12)))) (.bq (.cx (.C (.aD .Lt (.sub (.V 10) (.I 0)) (.I 99)) (.C (.aD .Eq (.sub (.V 10) (.I 1)) (.B .Add (.sub (.V 10) (.I 0)) (.I 1))) .N))) (.aug 7 .Sub (.K (s "max") (.C (.I 0) (.C (.B .Sub (.I 30) (.B .Mult (.I 6) (.sub (.V 10) (.I 1)))) .N))) (.aug 8 .Sub (.K (s "max") (.C (.I 0) (.C (.B .Sub (.I 40) (.B .Mult (.I 9) (.sub (.V 10) (.I 1)))) .N))) .N)) (.bq (.aD .Lt (.sub (.V 10) (.I 1)) (.I 99)) (.aug 7 .Sub (.K (s "max") (.C (.I 0) (.C (.B .Sub (.B .Sub (.I 70) (.B .Mult (.I 12) (.sub (.V 10) (.I 1)))) (.B .Mult (.I 4) (.V 12))) .N))) .N) .N .N) .N))))) (.ret (.tup (.C (.V 7) (.C (.V 8) .N)))))))))
theorem Pg.sk {a0 a1 a2 a3 a4:V} (w:C.T≤H.length→wX C k lW [some a0,some a1,some a2,some a3,some a4,none,none,none,none,none,none,none,none,none,none,none,none] H (bO Q)):aa C (k+1) (s "_law_cover") [a0,a1,a2,a3,a4] H Q:=P.go (L:=17) P.uf w ∅ ∅
def jX:MS:=(.asg 6 (.K (s "_law_area") (.C (.V 0) (.C (.V 1) (.C (.V 2) (.C (.V 3) (.C (.sub (.V 4) (.I 0)) (.C (.sub (.sub (.V 5) (.I 2)) (.I 1)) .N))))))) (.asg 7 (.I 0) (.rY [8,9] (.sub (.V 4) (.I 1)) (.bq (.yf .LtE .LtE (.I 2) (.V 8) (.I 5)) (.nu [10,11,12] (.sub (.gl (s "_law_ends")) (.V 8)) (.asg 13 (.K (s "min") (.C (.K (s "len") (.C (.lc [none,none,some 6] 1 (.V 9) (.aD .In (.V 1) (.V 2)) (.V 1)) .N)) (.C (.V 12) .N))) (.aug 7 .Add (.B .Add (.V 10) (.B .FloorDiv (.B .Mult (.B .Sub (.V 11) (.V 10)) (.B .Sub (.B .Mult (.V 12) (.V 12)) (.B .Mult (.B .Sub (.V 12) (.V 13)) (.B .Sub (.V 12) (.V 13))))) (.B .Mult (.V 12) (.V 12)))) .N))) .N .N) (.ret (.V 7)))))
theorem Pg.p_ {a0 a1 a2 a3 a4 a5:V} (w:C.T≤H.length→wX C k jX [some a0,some a1,some a2,some a3,some a4,some a5,none,none,none,none,none,none,none,none,none,none,none,none] H (bO Q)):aa C (k+1) (s "_law_moving") [a0,a1,a2,a3,a4,a5] H Q:=P.go (L:=18) P.rQ w ∅ ∅
def gS:MS:=(.asg 7 (.index (.V 2) (.B .Add (.B .Mult (.V 3) (.I 8)) (.I 6))) (.asg 8 (.L (.C (.L .N) (.C (.L .N) (.C (.K (s "_law_hops") (.C (.V 0) (.C (.V 1) (.C (.V 7) (.C (.gl (s "_law_jumps")) .N))))) (.C (.L .N) (.C (.L .N) (.C (.L .N) (.C (.L .N) .N)))))))) (.bP 9 (.K (s "range") (.C (.I 8) .N)) (.cG (.V 8) (.bq (.aD .Lt (.V 9) (.I 4)) (.I 4) (.I 3)) .Add (.K (s "_law_ray") (.C (.V 0) (.C (.V 1) (.C (.V 2) (.C (.V 7) (.C (.sub (.gl (s "_law_ways")) (.V 9)) (.C (.L (.C (.I 0) (.C (.B .Add (.B .Mult (.V 3) (.I 8)) (.I 5)) .N))) .N))))))) .N) (.cN (.V 8) (.I 5) (.B .Add (.sub (.V 8) (.I 3)) (.sub (.V 8) (.I 4))) (.asg 8 (.lc [none,none,some 5,some 8] 1 (.K (s "range") (.C (.I 6) .N)) .N (.lc [none,none,some 2,some 1] 1 (.sub (.V 3) (.V 1)) (.aD .In (.V 1) (.sub (.sub (.V 2) (.I 2)) (.V 3))) (.V 1))) (.asg 12 (.L .N) (.bP 11 (.K (s "range") (.C (.K (s "len") (.C (.V 2) .N)) .N)) (.asg 13 (.tT (.sub (.V 2) (.V 11)) (.cmp .NotEq (.B .FloorDiv (.sub (.V 2) (.V 11)) (.I 8)) (.V 3))) (.bq (.cx (.C (.iC (.bf (.V 13))) (.C (.vD (.C (.aD .Eq (.sub (.sub (.V 4) (.I 3)) (.V 11)) (.I 0)) (.C (.cx (.C (.aD .In (.V 11) (.V 6)) (.C (.aD .Gt (.sub (.sub (.V 5) (.I 3)) (.V 11)) (.I 1)) .N))) .N))) .N))) (.expr (.app (.V 12) (.V 11)) .N) .N .N)) (.asg 14 (.lc [none,none,some 8,some 4,some 12] 1 (.sub (.V 8) (.I 5)) (.cx (.C (.aD .In (.V 1) (.V 4)) (.C (.aD .NotIn (.V 1) (.sub (.sub (.V 3) (.I 2)) (.I 5))) (.C (.aD .NotIn (.V 1) (.sub (.V 2) (.I 4))) .N)))) (.V 1)) (.asg 15 (.L (.C (.L .N) (.C (.L .N) (.C (.lc [none,none,some 12] 1 (.sub (.V 8) (.I 2)) (.aD .In (.V 1) (.V 2)) (.V 1)) (.C (.lc [none,none,some 14,some 12] 1 (.sub (.V 8) (.I 3)) (.cx (.C (.aD .In (.V 1) (.V 3)) (.C (.aD .NotIn (.V 1) (.V 2)) .N))) (.V 1)) (.C (.lc [none,none,some 12] 1 (.sub (.V 8) (.I 4)) (.aD .In (.V 1) (.V 2)) (.V 1)) (.C (.V 14) .N))))))) (.asg 16 (.I 0) (.asg 17 (.L .N) (.bP 10 (.tup (.C (.I 2) (.C (.I 3) (.C (.I 4) (.C (.I 5) .N))))) (.bq (.bf (.sub (.V 15) (.V 10))) (.aug 16 .Add (.sub (.sub (.gl (s "_law_checks")) (.V 10)) (.K (s "min") (.C (.K (s "len") (.C (.sub (.V 15) (.V 10)) .N)) (.C (.I 2) .N)))) .N) (.bq (.aD .Lt (.V 10) (.I 5)) (.aug 17 .Add (.sub (.V 8) (.V 10)) .N) .N .N) .N) (.ret (.tup (.C (.V 16) (.C (.V 17) .N))))))))))))))))
theorem Pg.mI {a0 a1 a2 a3 a4 a5 a6:V} (w:C.T≤H.length→wX C k gS [some a0,some a1,some a2,some a3,some a4,some a5,some a6,none,none,none,none,none,none,none,none,none,none,none,none,none,none,none,none,none,none,none] H (bO Q)):aa C (k+1) (s "_law_checking") [a0,a1,a2,a3,a4,a5,a6] H Q:=P.go (L:=26) P.nM w ∅ ∅
def oJ:MS:=(.asg 3 (.K (s "min") (.C (.K (s "max") (.C (.B .Mod (.V 2) (.V 0)) (.C (.I 1) .N))) (.C (.B .Sub (.V 0) (.I 2)) .N))) (.asg 4 (.K (s "min") (.C (.K (s "max") (.C (.B .FloorDiv (.V 2) (.V 0)) (.C (.I 1) .N))) (.C (.B .Sub (.V 1) (.I 2)) .N))) (.ret (.Il [none,none,none,some 3,some 0] 1 (.tup (.C (.B .Sub (.V 4) (.I 1)) (.C (.V 4) (.C (.B .Add (.V 4) (.I 1)) .N)))) 2 (.tup (.C (.B .Sub (.V 3) (.I 1)) (.C (.V 3) (.C (.B .Add (.V 3) (.I 1)) .N)))) (.B .Add (.B .Mult (.V 1) (.V 4)) (.V 2))))))
theorem Pg.uB {a0 a1 a2:V} (w:C.T≤H.length→wX C k oJ [some a0,some a1,some a2,none,none,none,none] H (bO Q)):aa C (k+1) (s "_law_ring") [a0,a1,a2] H Q:=P.go (L:=7) P.wa w ∅ ∅
def jW:MS:=(.asg 9 (.index (.V 2) (.B .Add (.B .Mult (.V 3) (.I 8)) (.I 6))) (.asg 10 (.K (s "_law_ring") (.C (.V 0) (.C (.V 1) (.C (.V 9) .N)))) (.asg 12 (.lc [none,none,some 4] 1 (.V 10) (.aD .Lt (.count (.sub (.sub (.V 2) (.I 2)) (.I 1)) (.V 1)) (.I 2)) (.V 1)) (.asg 13 (.K (s "len") (.C (.lc [none,none,some 5] 1 (.V 10) (.aD .In (.V 1) (.sub (.sub (.V 2) (.I 2)) (.I 1))) (.V 1)) .N)) (.asg 14 (.I 0) (.asg 15 (.I 0) (.rY [16,17] (.sub (.V 5) (.I 1)) (.bq (.cx (.C (.yf .LtE .LtE (.I 2) (.V 16) (.I 5)) (.C (.bf (.lc [none,none,some 12] 1 (.V 17) (.aD .In (.V 1) (.V 2)) (.V 1))) .N))) (.aug 13 .Add (.I 1) (.aug 14 .Add (.sub (.gl (s "_law_weights")) (.V 16)) (.aug 15 .Add (.K (s "len") (.C (.lc [none,none,some 4] 1 (.V 17) (.aD .In (.V 1) (.sub (.sub (.V 2) (.I 2)) (.I 6))) (.V 1)) .N)) .N))) .N .N) (.asg 18 (.I 0) (.asg 19 (.I 0) (.bP 11 (.K (s "range") (.C (.K (s "len") (.C (.V 2) .N)) .N)) (.bq (.bf (.K (s "_law_near") (.C (.V 0) (.C (.V 1) (.C (.V 3) (.C (.V 9) (.C (.V 11) .N))))))) (.aug 18 .Add (.K (s "min") (.C (.sub (.sub (.V 5) (.I 3)) (.V 11)) (.C (.I 2) .N))) (.aug 19 .Add (.K (s "min") (.C (.sub (.sub (.V 4) (.I 3)) (.V 11)) (.C (.I 1) .N))) .N)) .N .N) (.asg 20 (.B .Add (.B .Add (.B .Add (.B .Add (.V 6) (.B .Mult (.V 13) (.V 14))) (.B .Mult (.I 69) (.V 15))) (.I 37)) (.B .Mult (.I 183) (.K (s "len") (.C (.lc [none,none,some 8] 1 (.V 12) (.aD .In (.V 1) (.V 2)) (.V 1)) .N)))) (.aug 20 .Add (.B .Add (.B .Add (.B .Mult (.I 148) (.K (s "len") (.C (.lc [none,none,some 7] 1 (.K (s "range") (.C (.K (s "len") (.C (.V 2) .N)) .N)) (.aD .In (.V 1) (.V 2)) (.V 1)) .N))) (.B .Mult (.I 98) (.K (s "len") (.C (.sub (.V 4) (.I 0)) .N)))) (.B .FloorDiv (.B .Mult (.B .Mult (.I 3) (.V 18)) (.V 18)) (.I 8))) (.aug 20 .Add (.B .Sub (.K (s "_law_moving") (.C (.V 0) (.C (.V 1) (.C (.V 2) (.C (.B .Sub (.I 1) (.V 3)) (.C (.V 5) (.C (.V 4) .N))))))) (.K (s "_law_moving") (.C (.V 0) (.C (.V 1) (.C (.V 2) (.C (.V 3) (.C (.V 4) (.C (.V 5) .N)))))))) (.aug 20 .Sub (.B .Mult (.I 4) (.V 19)) (.bq (.aD .NotIn (.B .Add (.B .Mult (.B .Sub (.I 1) (.V 3)) (.I 8)) (.I 5)) (.V 2)) (.aug 20 .Sub (.I 873) .N) .N (.bq (.bf (.lc [none,none,some 4] 1 (.sub (.sub (.V 4) (.I 2)) (.I 2)) (.aD .In (.V 1) (.sub (.sub (.V 2) (.I 2)) (.I 6))) (.V 1))) (.aug 20 .Sub (.I 100) .N) .N (.ret (.tup (.C (.V 20) (.C (.V 18) .N))))))))))))))))))))
theorem Pg.pZ {a0 a1 a2 a3 a4 a5 a6 a7 a8:V} (w:C.T≤H.length→wX C k jW [some a0,some a1,some a2,some a3,some a4,some a5,some a6,some a7,some a8,none,none,none,none,none,none,none,none,none,none,none,none,none,none,none,none,none,none,none] H (bO Q)):aa C (k+1) (s "_law_danger") [a0,a1,a2,a3,a4,a5,a6,a7,a8] H Q:=P.go (L:=28) P.rP w ∅ ∅
def oK:MS:=(.asg 8 (.index (.V 2) (.B .Add (.B .Mult (.V 5) (.I 8)) (.I 6))) (.asg 9 (.L .N) (.bP 10 (.K (s "range") (.C (.K (s "len") (.C (.V 2) .N)) .N)) (.bq (.cx (.C (.bf (.sub (.sub (.V 7) (.I 3)) (.V 10))) (.C (.vD (.C (.aD .Eq (.sub (.sub (.V 6) (.I 3)) (.V 10)) (.I 0)) (.C (.cx (.C (.aD .Eq (.sub (.sub (.V 6) (.I 3)) (.V 10)) (.I 1)) (.C (.vD (.C (.aD .In (.V 10) (.sub (.sub (.V 6) (.I 2)) (.I 5))) (.C (.aD .In (.V 10) (.sub (.sub (.V 6) (.I 2)) (.I 6))) .N))) .N))) .N))) .N))) (.expr (.app (.V 9) (.V 10)) .N) .N .N) (.nu [11,12] (.K (s "_law_checking") (.C (.V 0) (.C (.V 1) (.C (.V 2) (.C (.V 5) (.C (.V 6) (.C (.V 7) (.C (.V 9) .N)))))))) (.bq (.aD .NotEq (.K (s "check_danger") (.C (.V 3) (.C (.V 5) (.C (.V 4) .N)))) (.tup (.C (.V 11) (.C (.K (s "_law_bits") (.C (.V 12) .N)) .N)))) (.ret (.bool false)) .N (.nu [13,14] (.K (s "_law_danger") (.C (.V 0) (.C (.V 1) (.C (.V 2) (.C (.V 5) (.C (.V 6) (.C (.V 7) (.C (.V 11) (.C (.V 12) (.C (.V 9) .N)))))))))) (.nu [15,16] (.K (s "_law_cover") (.C (.V 0) (.C (.V 1) (.C (.V 2) (.C (.V 5) (.C (.V 8) .N)))))) (.bq (.vD (.C (.aD .NotEq (.K (s "king_danger") (.C (.V 3) (.C (.V 5) (.C (.V 4) .N)))) (.V 13)) (.C (.aD .NotEq (.K (s "shelter") (.C (.V 3) (.C (.V 5) .N))) (.B .Add (.B .Mult (.V 16) (.I 65536)) (.V 15))) .N))) (.ret (.bool false)) .N (.asg 13 (.K (s "min") (.C (.B .Sub (.V 13) (.K (s "_law_cut") (.C (.B .Mult (.I 6) (.V 15)) (.C (.I 8) .N)))) (.C (.I 5000) .N))) (.bq (.aD .Gt (.V 13) (.I 100)) (.aug 15 .Sub (.B .FloorDiv (.B .Mult (.V 13) (.V 13)) (.I 4096)) (.aug 16 .Sub (.B .FloorDiv (.V 13) (.I 16)) .N)) .N (.bq (.iC (.bf (.lc [none,none,none,some 2,some 0,some 8] 1 (.K (s "range") (.C (.K (s "len") (.C (.V 2) .N)) .N)) (.cx (.C (.aD .Eq (.B .Mod (.sub (.V 3) (.V 1)) (.I 8)) (.I 1)) (.C (.aD .Lt (.K (s "abs") (.C (.B .Sub (.B .Mod (.V 1) (.V 4)) (.B .Mod (.V 5) (.V 4))) .N)) (.I 3)) .N))) (.V 1)))) (.aug 15 .Sub (.I 17) (.aug 16 .Sub (.I 95) .N)) .N (.ret (.cmp .Eq (.K (s "king_score") (.C (.V 3) (.C (.V 5) (.C (.V 4) .N)))) (.B .Sub (.B .Add (.B .Mult (.V 16) (.I 65536)) (.V 15)) (.B .Mult (.I 8) (.V 14))))))))))))))))
theorem Pg.uC {a0 a1 a2 a3 a4 a5 a6 a7:V} (w:C.T≤H.length→wX C k oK [some a0,some a1,some a2,some a3,some a4,some a5,some a6,some a7,none,none,none,none,none,none,none,none,none,none,none,none,none,none,none,none,none,none,none,none,none] H (bO Q)):aa C (k+1) (s "_law_side") [a0,a1,a2,a3,a4,a5,a6,a7] H Q:=P.go (L:=29) P.wb w ∅ ∅
def DV:MS:=(.asg 1 (.bq (.bf (.V 0)) (.sub (.V 0) (.I 0)) (.I 1)) (.asg 2 (.B .Add (.I 3) (.B .Mod (.V 1) (.I 6))) (.asg 3 (.B .Add (.I 3) (.B .Mod (.B .FloorDiv (.V 1) (.I 6)) (.I 4))) (.asg 4 (.K (s "_law_board") (.C (.V 2) (.C (.V 3) (.C (.Gl (.V 0) (.C (.I 1) .N) (.C (.I 10) .N)) .N)))) (.asg 5 (.K (s "_law_position") (.C (.K (s "make_geometry") (.C (.V 2) (.C (.V 3) (.C (.bool true) (.C (.bool false) .N))))) (.C (.V 4) (.C (.B .Mod (.B .FloorDiv (.V 1) (.I 24)) (.I 2)) .N)))) (.asg 6 (.K (s "attack_maps") (.C (.V 5) .N)) (.asg 7 (.L (.C (.K (s "_law_looks") (.C (.V 2) (.C (.V 3) (.C (.V 4) (.C (.I 0) .N))))) (.C (.K (s "_law_looks") (.C (.V 2) (.C (.V 3) (.C (.V 4) (.C (.I 1) .N))))) .N))) (.bP 8 (.tup (.C (.I 0) (.C (.I 1) .N))) (.bq (.iC (.bf (.K (s "_law_side") (.C (.V 2) (.C (.V 3) (.C (.V 4) (.C (.V 5) (.C (.V 6) (.C (.V 8) (.C (.sub (.V 7) (.V 8)) (.C (.sub (.V 7) (.B .Sub (.I 1) (.V 8))) .N))))))))))) (.ret (.bool false)) .N .N) (.ret (.bool true))))))))))
theorem Pg.EB {a0:V} (w:C.T≤H.length→wX C k DV [some a0,none,none,none,none,none,none,none,none,none,none,none,none,none,none] H (bO Q)):aa C (k+1) (s "law") [a0] H Q:=P.go (L:=15) P.He w ∅ ∅
end
open PySem
def tb (x:Int) (i:Nat):Bool:=if 0≤x then x.toNat.testBit i else !((Builtin.bitNot x).toNat.testBit i)
theorem bI (n i:Nat):tb (n:Int) i=n.testBit i:=by simp[tb]
theorem bL (x:Int) (i:Nat):tb (Builtin.bitNot x) i=!tb x i:=by
 unfold tb Builtin.bitNot
 by_cases h:0≤x
 · have:¬0≤-x-1:=⋯
   have e: -(-x-1)-1=x:=⋯
   rw[if_neg this,if_pos h,e]
 · have:0≤-x-1:=⋯
   rw[if_pos this,if_neg h];simp
theorem aE {x y:Int} (h:∀i,tb x i=tb y i):x=y:=by
 have big:∀(a b:Nat),∃i,a.testBit i=false∧b.testBit i=false:=fun a b=>⟨a+b,by
  constructor<;>refine Nat.testBit_lt_two_pow ?_
  · exact z24 (Nat.le_add_right a b) Nat.lt_two_pow_self
  · exact z24 (Nat.le_add_left b a) Nat.lt_two_pow_self⟩
 unfold tb at h
 by_cases hx:0≤x<;>by_cases hy:0≤y<;>simp only[hx,hy,if_true,if_false]at h
 · have:x.toNat=y.toNat:=Nat.eq_of_testBit_eq h;rw[←z28 hx,this,z28 hy]
 · obtain⟨i,h1,h2⟩:=big x.toNat (Builtin.bitNot y).toNat;have:=h i;rw[h1,h2]at this;cases this
 · obtain⟨i,h1,h2⟩:=big (Builtin.bitNot x).toNat y.toNat;have:=h i;rw[h1,h2]at this;cases this
 · have:(Builtin.bitNot x).toNat=(Builtin.bitNot y).toNat:=Nat.eq_of_testBit_eq fun i=>by simpa using h i
   unfold Builtin.bitNot at this;have px:0≤-x-1:=⋯
   have py:0≤-y-1:=⋯
   have e: -x-1= -y-1:=by rw[←z28 px,this,z28 py]
   exact Int.neg_inj.mp ((Int.sub_left_inj 1).mp e)
theorem wV:∀(a b:Nat),a&&&b=0→a|||b=a+b:=by
 intro a
 induction a using Nat.strongRecOn with
 |ind a ih=>
  intro b h
  by_cases ha:a=0
  · subst ha;simp
  have h1:(a/2)&&&(b/2)=0:=by rw[←Nat.and_div_two,h]
  have h2:=ih (a/2) ⋯ (b/2) h1;have h3:(a|||b)/2=a/2+b/2:=by rw[Nat.or_div_two,h2]
  have h4:¬(a % 2=1∧b % 2=1):=by rw[←Nat.and_mod_two_eq_one,h];decide
  have h5:(a|||b) % 2=1↔a % 2=1∨b % 2=1:=Nat.or_mod_two_eq_one;have hm:(a|||b) % 2=a % 2+b % 2:=by
   rcases Nat.mod_two_eq_zero_or_one a with x|x<;>rcases Nat.mod_two_eq_zero_or_one b with y|y<;>rw[x,y]at h5 h4⊢
   · exact(Nat.mod_two_eq_zero_or_one _).resolve_right fun e=>(h5.mp e).elim Nat.zero_ne_one Nat.zero_ne_one
   · exact h5.mpr (.inr rfl)
   · exact h5.mpr (.inl rfl)
   · exact(h4 ⟨rfl,rfl⟩).elim
  rw[←Nat.div_add_mod (a|||b) 2,h3,hm,Nat.mul_add,Nat.add_add_add_comm,Nat.div_add_mod,Nat.div_add_mod]
theorem gD (a b i:Nat):(a-(a&&&b)).testBit i=(a.testBit i&&!b.testBit i):=by
 have e:a-(a&&&b)=a^^^(a&&&b):=by
  have h1:a=(a&&&b)+(a^^^(a&&&b)):=by
   have hd:(a&&&b)&&&(a^^^(a&&&b))=0:=by
    apply Nat.eq_of_testBit_eq;intro j;cases h1:a.testBit j<;>cases h2:b.testBit j<;>simp[h1,h2]
   have:=wV _ _ hd;rw[←this]
   apply Nat.eq_of_testBit_eq;intro j;cases h1:a.testBit j<;>cases h2:b.testBit j<;>simp[h1,h2]
  omega
 rw[e];cases h1:a.testBit i<;>cases h2:b.testBit i<;>simp[h1,h2]
theorem aL (x y:Int) (i:Nat):tb (Builtin.bitAnd x y) i=(tb x i&&tb y i):=by
 by_cases hx:0≤x<;>by_cases hy:0≤y
 · rw[PyProof.Rows.bitAnd_pp hx hy,bI];simp[tb,hx,hy]
 · rw[PyProof.Rows.bitAnd_pn hx hy];have e:x-((x.toNat&&&(Builtin.bitNot y).toNat:Nat):Int)=((x.toNat-(x.toNat&&&(Builtin.bitNot y).toNat):Nat):Int):=by
    rw[Int.ofNat_sub Nat.and_le_left,z28 hx]
   rw[e,bI,gD];simp[tb,hx,hy]
 · rw[PyProof.Rows.bitAnd_np hx hy];have e:y-((y.toNat&&&(Builtin.bitNot x).toNat:Nat):Int)=((y.toNat-(y.toNat&&&(Builtin.bitNot x).toNat):Nat):Int):=by
    rw[Int.ofNat_sub Nat.and_le_left,z28 hy]
   rw[e,bI,gD];simp[tb,hx,hy,Bool.and_comm]
 · rw[PyProof.Rows.bitAnd_nn hx hy,bL,bI];simp[tb,hx,hy]
theorem bt (x y:Int) (i:Nat):tb (Builtin.bitOr x y) i=(tb x i||tb y i):=by
 unfold Builtin.bitOr;rw[bL,aL,bL,bL];simp
theorem ye (i:Nat):tb (-1) i=true:=by simp[tb,Builtin.bitNot]
theorem bU (i:Nat):tb 0 i=false:=by simp[tb]
theorem Bo (x y:Int) (i:Nat):tb (Builtin.bitXor x y) i=(tb x i^^tb y i):=by
 have e:Builtin.bitXor x y=Builtin.bitAnd (Builtin.bitOr x y) (Builtin.bitNot (Builtin.bitAnd x y)):=by
  rw[PyProof.Rows.bitAnd_not];have:Builtin.bitAnd (Builtin.bitOr x y) (Builtin.bitAnd x y)=Builtin.bitAnd x y:=aE fun i=>by
   rw[aL,bt,aL];cases tb x i<;>cases tb y i<;>rfl
  rw[this];rfl
 rw[e,aL,bt,bL,aL];cases tb x i<;>cases tb y i<;>rfl
theorem hE (x:Int) (k i:Nat):tb (x*2^k) i=(decide (k≤i)&&tb x (i-k)):=by
 have hp:(0:Int)<2^k:=Int.pow_pos nofun
 by_cases hx:0≤x
 · obtain⟨n,rfl⟩:=z15 hx;have:((n:Int)*2^k)=((n<<<k:Nat):Int):=by rw[Nat.shiftLeft_eq];push_cast;rfl
   rw[this,bI,bI,Nat.testBit_shiftLeft]
 · have EO:0≤Builtin.bitNot x:=by unfold Builtin.bitNot;omega
   obtain⟨n,hn⟩:=z15 EO;have ex:x= -(n:Int)-1:=by unfold Builtin.bitNot at hn;omega
   have hneg:¬0≤x*2^k:=by
    have:x*2^k<0:=Int.mul_neg_of_neg_of_pos ⋯ hp;omega
   have e:(Builtin.bitNot (x*2^k))=(((n<<<k)+(2^k-1):Nat):Int):=by
    unfold Builtin.bitNot;rw[Nat.shiftLeft_eq,ex];have:(1:Nat)≤2^k:=Nat.one_le_two_pow
    push_cast [Int.natCast_sub this]
    rw[Int.sub_mul,Int.neg_mul];omega
   have hb:((n<<<k)+(2^k-1)).testBit i=(if i<k then true else n.testBit (i-k)):=by
    rw[Nat.shiftLeft_eq,Nat.mul_comm,Nat.testBit_two_pow_mul_add _ (by have:(1:Nat)≤2^k:=Nat.one_le_two_pow;omega)]
    split
    · rw[Nat.testBit_two_pow_sub_one];simp;assumption
    · rfl
   have Ny:tb x (i-k)=!(n.testBit (i-k)):=by
    unfold tb;rw[if_neg hx,hn];simp
   unfold tb at Ny⊢;rw[if_neg hneg,e,z02,hb]
   by_cases hk:i<k
   · have:¬k≤i:=⋯
     simp[hk,this]
   · have:k≤i:=⋯
     simp only[hk,if_false,this,decide_true,Bool.true_and];exact Ny.symm
theorem eD (x:Int) (k i:Nat):tb (x.fdiv (2^k)) i=tb x (i+k):=by
 have hp:(0:Int)<2^k:=Int.pow_pos nofun
 by_cases hx:0≤x
 · obtain⟨n,rfl⟩:=z15 hx;have:((n:Int).fdiv (2^k))=((n>>>k:Nat):Int):=by
    rw[z16 _ ⋯,Nat.shiftRight_eq_div_pow];push_cast;rfl
   rw[this,bI,bI,Nat.testBit_shiftRight,Nat.add_comm]
 · have EO:0≤Builtin.bitNot x:=by unfold Builtin.bitNot;omega
   obtain⟨n,hn⟩:=z15 EO;have ex:x= -(n:Int)-1:=by unfold Builtin.bitNot at hn;omega
   have e:x.fdiv (2^k)=Builtin.bitNot ((n>>>k:Nat):Int):=by
    rw[z16 _ ⋯,Nat.shiftRight_eq_div_pow,ex];unfold Builtin.bitNot
    push_cast
    have h1:=Int.emod_add_mul_ediv (n:Int) (2^k);have h2:=Int.emod_nonneg (n:Int) (Int.ne_of_gt hp);have h3:=Int.emod_lt_of_pos (n:Int) hp;have: -(n:Int)-1=(2^k-1-(n:Int) % 2^k)+2^k*(-((n:Int)/2^k)-1):=by
     rw[Int.mul_sub,Int.mul_neg];omega
    rw[this,Int.add_mul_ediv_left _ _ (Int.ne_of_gt hp),Int.ediv_eq_zero_of_lt ⋯ ⋯];omega
   rw[e,bL,bI,Nat.testBit_shiftRight,Nat.add_comm];unfold tb;rw[if_neg hx,hn];simp
def bn:Nat→(Nat→Bool)→Nat
 |0,_=>0
 |n+1,p=>bn n p+if p n then 2^n else 0
theorem DA (n:Nat) (p:Nat→Bool):bn n p<2^n:=by
 induction n with
 |zero=>simp[bn]
 |succ n ih=>unfold bn;rw[Nat.pow_succ];split<;>omega
theorem Ek (n:Nat) (p:Nat→Bool) (i:Nat):(bn n p).testBit i=(decide (i<n)&&p i):=by
 induction n with
 |zero=>simp[bn]
 |succ n ih=>
  unfold bn
  split
  · rename_i h
    have e:bn n p+2^n=2^n*1+bn n p:=⋯
    rw[e,Nat.testBit_two_pow_mul_add _ (DA n p)]
    split
    · rename_i hi;rw[ih];simp[hi,Nat.lt_succ_of_lt hi]
    · rename_i hi
      by_cases hin:i=n
      · subst hin;simp[h]
      · have h1:¬i<n+1:=⋯
        have h2:(1:Nat).testBit (i-n)=false:=by
         have:1≤i-n:=⋯
         exact Nat.testBit_lt_two_pow (z19 (by decide:1<2^1) (Nat.pow_le_pow_right nofun this))
        simp[h1,h2]
  · rename_i h
    rw[Nat.add_zero,ih]
    by_cases hin:i=n
    · subst hin;simp at h;simp[h]
    · by_cases hi:i<n
      · simp[hi,Nat.lt_succ_of_lt hi]
      · have:¬i<n+1:=⋯
        simp[hi,this]
def bi (n:Nat) (p:Nat→Bool):Int:=(bn n p:Nat)
theorem aq (n:Nat) (p:Nat→Bool) (i:Nat):tb (bi n p) i=(decide (i<n)&&p i):=by unfold bi;rw[bI,Ek]
theorem bi_and (n:Nat) (f g:Nat→Bool):Builtin.bitAnd (bi n f) (bi n g)=bi n (fun u=>f u&&g u):=aE fun i=>by
 rw[aL,aq,aq,aq];cases decide (i<n)<;>simp
theorem Cc (n:Nat) (f g:Nat→Bool):Builtin.bitAnd (bi n f) (Builtin.bitNot (bi n g))=bi n (fun u=>f u&&!g u):=aE fun i=>by
 rw[aL,bL,aq,aq,aq];cases decide (i<n)<;>simp
theorem gL (n:Nat) (p:Nat→Bool):0≤bi n p:=by unfold bi;omega
theorem jv (n:Nat) (p:Nat→Bool):bi n p<2^n:=by unfold bi;have:=DA n p;exact_mod_cast this
theorem bK {n:Nat} {p q:Nat→Bool} (h:∀i,i<n→p i=q i):bi n p=bi n q:=aE fun i=>by
 rw[aq,aq];by_cases hi:i<n
 · simp[hi,h i hi]
 · simp[hi]
theorem dR (k i:Nat):tb (2^k) i=decide (i=k):=by
 have:(2:Int)^k=1*2^k:=⋯
 rw[this,hE]
 by_cases h:k≤i
 · by_cases e:i=k
   · subst e;simp[tb]
   · have:1≤i-k:=⋯
     have h2:(1:Nat).testBit (i-k)=false:=Nat.testBit_lt_two_pow (z19 (by decide:1<2^1) (Nat.pow_le_pow_right nofun this));simp[tb,e,h2]
 · have:¬i=k:=⋯
   simp[h,this]
theorem aT (n:Nat) (p:Nat→Bool):bi n p=0↔∀i,i<n→p i=false:=by
 constructor
 · intro h i hi;have:=congrArg (tb · i) h;simp only[aq,bU]at this
   simpa [hi] using this
 · intro h;exact aE fun i=>by rw[aq,bU];by_cases hi:i<n<;>simp[hi];exact h i hi
open PySem
def dX (d:Nat):Int:=[0,1,0,-1,1,1,-1,-1].getD d 0
def dY (d:Nat):Int:=[1,0,-1,0,1,-1,-1,1].getD d 0
def cy (F R:Nat) (dx dy:Int):Nat→Int→Int→List Nat
 |0,_,_=>[]
 |k+1,f,r=>if 0≤f∧f<F∧0≤r∧r<R then(r*F+f).toNat::cy F R dx dy k (f+dx) (r+dy)else[]
def bB (F R d t:Nat):List Nat:=cy F R (dX d) (dY d) 8 ((t % F:Nat)+dX d) ((t/F:Nat)+dY d)
def bD (F R t:Nat) (steps:List (Int×Int)):List Nat:=
 steps.filterMap fun p=>if 0≤((t % F:Nat):Int)+p.1∧((t % F:Nat):Int)+p.1<F∧0≤((t/F:Nat):Int)+p.2∧((t/F:Nat):Int)+p.2<R then some ((((t/F:Nat):Int)+p.2)*F+(((t % F:Nat):Int)+p.1)).toNat else none
def eK:List (Int×Int):=[(0,1),(1,0),(0,-1),(-1,0),(1,1),(1,-1),(-1,-1),(-1,1)]
def cY:List (Int×Int):=[(1,2),(2,1),(2,-1),(1,-2),(-1,-2),(-2,-1),(-2,1),(-1,2)]
def aF (side:Nat):List (Int×Int):=[(-1,1-2*side),(1,1-2*side)]
def bl (l:List Nat):Nat:=l.foldr (fun t a=>a|||2^t) 0
theorem Ej (l:List Nat) (i:Nat):(bl l).testBit i=decide (i∈l):=by
 induction l with
 |nil=>simp[bl]
 |cons t l ih=>
  have:bl (t::l)=bl l|||2^t:=rfl
  rw[this,Nat.testBit_or,ih,Nat.testBit_two_pow]
  by_cases h:t=i
  · subst h;simp
  · have h':¬i=t:=fun q=>h q.symm;simp[h,h']
theorem Dz {n:Nat} {l:List Nat} (h:∀t∈l,t<n):((bl l:Nat):Int)=bi n (fun t=>decide (t∈l)):=aE fun i=>by
 rw[bI,Ej,aq]
 by_cases hi:i∈l
 · simp[hi,h i hi]
 · simp[hi]
theorem yc {F R:Nat} {f r:Int} (h:0≤f∧f<F∧0≤r∧r<R):(r*F+f).toNat<F*R:=by
 obtain⟨h1,h2,h3,h4⟩:=h;obtain⟨a,rfl⟩:=z15 h1;obtain⟨b,rfl⟩:=z15 h3;have ha:a<F:=⋯
 have hb:b+1≤R:=⋯
 have:(b+1)*F≤R*F:=Nat.mul_le_mul_right F hb;have e:((b:Int)*F+a).toNat=b*F+a:=by
  have:(b:Int)*F+a=((b*F+a:Nat):Int):=by push_cast;rfl
  rw[this];rfl
 rw[e,Nat.mul_comm F R];rw[Nat.add_mul]at this;omega
theorem vm {F R:Nat} {dx dy:Int}:∀(k:Nat) (f r:Int),∀t∈cy F R dx dy k f r,t<F*R
 |0,_,_,t,h=>by simp[cy]at h
 |k+1,f,r,t,h=>by
  unfold cy at h
  split at h
  · rename_i hb
    rcases List.mem_cons.mp h with rfl|h
    · exact yc hb
    · exact vm k _ _ t h
  · cases h
theorem bT {F R d s t:Nat} (h:t∈bB F R d s):t<F*R:=vm _ _ _ t h
theorem xF {F R s t:Nat} {st:List (Int×Int)} (h:t∈bD F R s st):t<F*R:=by
 unfold bD at h;obtain⟨p,_,hp⟩:=List.mem_filterMap.mp h
 split at hp
 · rename_i hb
   cases hp
   exact yc hb
 · cases hp
def cP (F R d s:Nat):Int:=bi (F*R) (fun t=>decide (t∈bB F R d s))
def cu (F R s:Nat) (st:List (Int×Int)):Int:=bi (F*R) (fun t=>decide (t∈bD F R s st))
theorem kn (F R d s:Nat):cP F R d s=(bl (bB F R d s):Nat):=(Dz fun t h=>bT h).symm
theorem jJ (F R s:Nat) (st:List (Int×Int)):cu F R s st=(bl (bD F R s st):Nat):=(Dz fun t h=>xF h).symm
def kL (F:Nat):Nat→Int
 |0=>0
 |r+1=>Builtin.bitOr (kL F r) (1*2^(r*F))
def ko (F:Nat):Int:=1*2^F-1
def bY (F R f:Nat):Int:=bi (F*R) (fun t=>t % F==f)
def km (F R r:Nat):Int:=bi (F*R) (fun t=>t/F==r)
def eQ (F R:Nat):Int:=bi (F*R) (fun _=>true)
def cp (d:Nat):Bool:=decide (0<dY d)||decide (d=1)
def inner (F R d t:Nat):Bool:=decide (0≤((t % F:Nat):Int)+dX d∧((t % F:Nat):Int)+dX d<F∧0≤((t/F:Nat):Int)+dY d∧((t/F:Nat):Int)+dY d<R)
def delta (F d:Nat):Int:=dY d*F+dX d
def order (F R d:Nat):List Nat:=if cp d then(List.range (F*R)).map (F*R-1- ·)else List.range (F*R)
def g_ (F R d:Nat) (st:List Nat×List Nat) (t:Nat):List Nat×List Nat:=
 if inner F R d t then
  let goal:=((t:Int)+delta F d).toNat
  (st.1.set t (st.1.getD goal 0|||2^goal),st.2.set t (st.2.getD t 0|||2^goal))
 else st
def c_ (F R d:Nat) (kg:List Nat) (ts:List Nat):List Nat×List Nat:=ts.foldl (g_ F R d) (List.replicate (F*R) 0,kg)
def allR (F R:Nat):Nat→List (List Nat)×List Nat
 |0=>([],List.replicate (F*R) 0)
 |d+1=>match allR F R d with
  | (rs,kg)=>match c_ F R d kg (order F R d)with
   | (r,NJ)=>(rs++[r],NJ)
def sM (F R t:Nat):Int:=
 let full:=eQ F R
 let nf:=Builtin.bitAnd full (Builtin.bitNot (bY F R 0))
 let nl:=Builtin.bitAnd full (Builtin.bitNot (bY F R (F-1)))
 let Gg:=Builtin.bitAnd nf (Builtin.bitNot (bY F R 1))
 let Gj:=Builtin.bitAnd nl (Builtin.bitNot (bY F R (F-2)))
 let b:Int:=1*2^t
 let near:=Builtin.bitOr (Builtin.bitAnd (b*2^1) nf) (Builtin.bitAnd (b.fdiv (2^1)) nl)
 let far:=Builtin.bitOr (Builtin.bitAnd (b*2^2) Gg) (Builtin.bitAnd (b.fdiv (2^2)) Gj)
 Builtin.bitAnd (Builtin.bitOr (Builtin.bitOr (Builtin.bitOr (near*2^(2*F)) (near.fdiv (2^(2*F)))) (far*2^F)) (far.fdiv (2^F))) full
def iS:List (Nat×Nat):=[3,4,5,6,7,8].flatMap fun F=>[3,4,5,6].map fun R=>(F,R)
theorem fT {F R:Nat} (h1:3≤F) (h2:F≤8) (h3:3≤R) (h4:R≤6):(F,R)∈iS:=by
 have hF:F=3∨F=4∨F=5∨F=6∨F=7∨F=8:=⋯
 have hR:R=3∨R=4∨R=5∨R=6:=⋯
 rcases hF with rfl|rfl|rfl|rfl|rfl|rfl<;>rcases hR with rfl|rfl|rfl|rfl<;>decide
def AP (F R:Nat):Bool:=allR F R 8==((List.range 8).map fun d=>(List.range (F*R)).map fun t=>bl (bB F R d t),(List.range (F*R)).map fun t=>bl (bD F R t eK))
def u5 (F R:Nat):Bool:=(List.range (F*R)).all fun t=>sM F R t==((bl (bD F R t cY):Nat):Int)
def AO (F R:Nat):Bool:=(List.range (F*R)).all fun t=>
 (bl (bD F R t eK)&&&(bl (bB F R 4 t)|||bl (bB F R 7 t))==bl (bD F R t (aF 0)))&&
 (bl (bD F R t eK)&&&(bl (bB F R 5 t)|||bl (bB F R 6 t))==bl (bD F R t (aF 1)))
def xV (F R:Nat):Bool:=((List.range F).all fun f=>kL F R*2^f==bY F R f)&&((List.range R).all fun r=>ko F*2^(r*F)==km F R r)&&(1*2^(F*R)-1==eQ F R)
theorem zD:iS.all (fun p=>AP p.1 p.2)=true:=by decide+kernel
theorem vK:iS.all (fun p=>u5 p.1 p.2)=true:=by decide+kernel
theorem zC:iS.all (fun p=>AO p.1 p.2)=true:=by decide+kernel
theorem yo:iS.all (fun p=>xV p.1 p.2)=true:=by decide+kernel
theorem Qm {x:Int} (h:x≤1000000):(max 0 x).natAbs<2^64:=by
 rcases Int.le_total 0 x with q|q
 · rw[Int.max_eq_right q];omega
 · rw[Int.max_eq_left q];decide
theorem Iw {m:Nat} (h:1≤m):m+2-(m-1)=3:=by
 cases m with
 |zero=>cases h
 |succ c=>exact Nat.add_sub_cancel_left (n:=c) (m:=3)
theorem Fg {m F i:Nat} (h:1≤m) (h2:m+1<F) (hi:i<3):m-1+i<F:=by
 cases m with
 |zero=>cases h
 |succ c=>exact z24 (Nat.add_le_add_left (Nat.le_of_lt_succ hi) c) h2
theorem Qi {m:Nat} (h:1≤m):max ((m:Int)-1) 0=((m-1:Nat):Int):=by
 cases m with
 |zero=>cases h
 |succ c=>show max ((c:Int)+1-1) 0=c;rw[Int.add_sub_cancel];exact Int.max_eq_left (z25 c)
theorem Qf {m F:Nat} (h:m+1<F):min ((m:Int)+1) ((F:Int)-1)+1=((m+2:Nat):Int):=by
 rw[Int.min_eq_left ⋯];rfl
theorem Iy {f a F n:Nat} (h:f<F) (h8:F≤8) (q:Nat.ble 8 n=true):min f a≤n:=
 z20 (Nat.min_le_left ..) (z20 (Nat.le_of_lt h) (z20 h8 (z23 q)))
def cnt (n:Nat) (p:Nat→Bool):Nat:=((List.range n).filter p).length
theorem cX (n:Nat) (p:Nat→Bool):cnt (n+1) p=cnt n p+(if p n then 1 else 0):=by
 unfold cnt;rw[List.range_succ,List.filter_append,z12];cases h:p n<;>simp[h]
theorem dB {n:Nat} {p q:Nat→Bool} (h:∀i,i<n→p i=q i):cnt n p=cnt n q:=by
 unfold cnt;congr 1;exact List.filter_congr fun i hi=>h i (List.mem_range.mp hi)
theorem fa (n:Nat) (p:Nat→Bool):cnt n p≤n:=by unfold cnt;have:=z13 p (List.range n);simpa using this
theorem rI {n k:Nat} {p:Nat→Bool} (hk:k<n) (hp:p k=true):cnt n (fun i=>p i&&decide (i≠k))+1=cnt n p:=by
 induction n with
 |zero=>omega
 |succ n ih=>
  rw[cX,cX]
  by_cases e:k=n
  · subst e;have:cnt k (fun i=>p i&&decide (i≠k))=cnt k p:=dB fun i hi=>by
     have:i≠k:=⋯
     simp[this]
    rw[this];simp[hp]
  · have:=ih ⋯;have h2:(p n&&decide (n≠k))=p n:=by
     have:n≠k:=fun q=>e q.symm;simp[this]
    rw[h2];omega
theorem s7 {x:Int} (h:0<x):∃k,tb x k=true∧(∀i,i<k→tb x i=false)∧(∀i,tb (Builtin.bitAnd x (x-1)) i=(tb x i&&decide (i≠k)))∧Builtin.bitAnd x (-x)=2^k:=by
 injection x with h
 obtain(⟨n,rfl⟩):=z15 (Int.le_of_lt h);have hn:0<n:=⋯
 clear h;obtain(⟨k,m,e⟩):∃k m,n=2^k*(2*m+1):=by
  induction n using Nat.strongRecOn with
  |ind n ih=>
   by_cases h2:n % 2=1
   · exact⟨0,n/2,⋯⟩
   · obtain(⟨k,m,e⟩):=ih (n/2) ⋯ ⋯;exact⟨k+1,m,by
      have h1:n=2*(n/2):=⋯
      rw[h1,e,Nat.pow_succ,Nat.mul_comm (2^k) 2,Nat.mul_assoc]⟩
 have pw:0<2^k:=Nat.two_pow_pos k;have b1:∀i,n.testBit i=(if i<k then false else(2*m+1).testBit (i-k)):=by
  rintro-i;have:n=2^k*(2*m+1)+0:=⋯
  rw[this,Nat.testBit_two_pow_mul_add _ pw];simp
 have b2:∀i,(n-1).testBit i=(if i<k then true else(2*m).testBit (i-k)):=by
  rintro-i;have:n-1=2^k*(2*m)+(2^k-1):=by rw[e,Nat.mul_add,Nat.mul_one];exact Nat.add_sub_assoc pw _
  rw[this,Nat.testBit_two_pow_mul_add _ (Nat.sub_lt pw Nat.one_pos)]
  split
  · rename_i h;rw[Nat.testBit_two_pow_sub_one];simp[h]
  · rfl
 have odd:∀j,(2*m+1).testBit j=if j=0 then true else m.testBit (j-1):=by
  rintro-j
  cases j with
  |zero=>simp
  |succ j=>rw[Nat.testBit_succ];simp;congr 1;omega
 have evn:∀j,(2*m).testBit j=if j=0 then false else m.testBit (j-1):=by
  rintro-j
  cases j with
  |zero=>simp
  |succ j=>rw[Nat.testBit_succ];simp
 have hand:∀i,tb (Builtin.bitAnd (n:Int) ((n:Int)-1)) i=(tb (n:Int) i&&decide (i≠k)):=by
  rintro-i;have:((n:Int)-1)=((n-1:Nat):Int):=⋯
  rw[aL,this,bI,bI,b1,b2]
  by_cases hi:i<k
  · simp[hi]
  · simp only[hi,if_false];rw[odd,evn]
    by_cases hj:i=k
    · subst hj;simp
    · have:¬i-k=0:=⋯
      simp[this,hj]
 refine⟨k,?_,?_,hand,?_⟩
 · rw[bI,b1];simp[odd]
 · rintro-i hi;rw[bI,b1];simp[hi]
 · refine aE ?_;rintro-i;have:(-(n:Int))=Builtin.bitNot ((n-1:Nat):Int):=by unfold Builtin.bitNot;omega
   rw[aL,this,bL,dR,bI,bI,b1,b2]
   by_cases hi:i<k
   · have:¬i=k:=⋯
     simp[hi,this]
   · simp only[hi,if_false];rw[odd,evn]
     by_cases hj:i=k
     · subst hj;simp
     · have:¬i-k=0:=⋯
       simp[this,hj]
theorem fe {x y:Int} (h:0≤x):0≤Builtin.bitAnd x y:=by
 unfold Builtin.bitAnd
 by_cases hy:0≤y
 · simp only[h,hy,decide_true];omega
 · simp only[h,hy,decide_true,decide_false];have:=Nat.and_le_left (n:=x.toNat) (m:=(Builtin.bitNot y).toNat);omega
theorem nD (n:Nat):cnt n (tb 0)=0:=by
 unfold cnt;rw[List.length_eq_zero_iff,List.filter_eq_nil_iff];intro i _;simp[bU]
theorem nA {x:Int} {n i:Nat} (h0:0≤x) (h:x<2^n) (hi:n≤i):tb x i=false:=by
 obtain⟨m,rfl⟩:=z15 h0;have hm:m<2^n:=by exact_mod_cast h
 rw[bI];exact Nat.testBit_lt_two_pow (z19 hm (Nat.pow_le_pow_right nofun hi))
theorem fZ {x y:Int} (h:0≤x):Builtin.bitAnd x y≤x:=by
 unfold Builtin.bitAnd
 by_cases hy:0≤y
 · simp only[h,hy,decide_true];have:=Nat.and_le_left (n:=x.toNat) (m:=y.toNat);omega
 · simp only[h,hy,decide_true,decide_false];omega
section
variable {C:Cx} (P:Pg C)
include P
theorem t6 (n:Nat) (x:Int) {H:Hp} (h0:0≤x) (h1:x<2^n):aa C 1 (s "count_bits") [.I x] H (fun v H'=>v=.I (cnt n (tb x))∧H=H'):=by
 injection C n x H with P h0 h1
 refine P.pW ?_;rintro-hT;unfold jT;refine⟨fun m ρ H'=>∃y c:Int,H'=H∧ρ=[some (.I y),some (.I c)]∧0≤y∧y<2^n∧y.toNat=m∧c+cnt n (tb y)=cnt n (tb x),x.toNat,⟨x,0,rfl,rfl,h0,h1,rfl,⋯⟩,?_⟩;rintro-m ρ H' ⟨y,c,rfl,rfl,y0,y1,rfl,hc⟩;refine bk.int ⟨?_,?_⟩
 · rintro-e;have hy:0<y:=by simp at e;omega
   obtain(⟨k,t1,t2,t3,_⟩):=s7 hy;have hk:k<n:=by
    rcases Nat.lt_or_ge k n with h|h
    · exact h
    · rw[nA y0 y1 h]at t1;cases t1
   refine⟨_,rfl,BW.sub (IW.and ⟨_,rfl,IW.add ⟨_,?_,Builtin.bitAnd y (y-1),c+1,rfl,rfl,fe y0,?_,rfl,?_⟩⟩)⟩
   · have:=fZ (y:=y-1) y0;have ne:Builtin.bitAnd y (y-1)≠y:=fun q=>by have:=t3 k;rw[q,t1]at this;simp at this
     have:=fe (y:=y-1) y0;omega
   · have:=fZ (y:=y-1) y0;omega
   · have:=rI hk t1;have e2:cnt n (tb (Builtin.bitAnd y (y-1)))=cnt n (fun i=>tb y i&&decide (i≠k)):=dB fun i _=>t3 i;rw[e2];omega
 · rintro-e;have hy:y=0:=by simpa using e
   subst hy;rw[nD]at hc;exact⟨by simp at hc;rw[hc],rfl⟩
end
structure Le (H H':Hp):Prop where
 at_:∀(n:Nat) (o:O),H[n]? =some o→H'[n]? =some o
structure A3 (p0 p1 p2:Prop):Prop where
 h0:p0
 h1:p1
 h2:p2
structure A4 (p0 p1 p2 p3:Prop):Prop where
 h0:p0
 h1:p1
 h2:p2
 h3:p3
structure A5 (p0 p1 p2 p3 p4:Prop):Prop where
 h0:p0
 h1:p1
 h2:p2
 h3:p3
 h4:p4
structure A6 (p0 p1 p2 p3 p4 p5:Prop):Prop where
 h0:p0
 h1:p1
 h2:p2
 h3:p3
 h4:p4
 h5:p5
structure A7 (p0 p1 p2 p3 p4 p5 p6:Prop):Prop where
 h0:p0
 h1:p1
 h2:p2
 h3:p3
 h4:p4
 h5:p5
 h6:p6
structure A8 (p0 p1 p2 p3 p4 p5 p6 p7:Prop):Prop where
 h0:p0
 h1:p1
 h2:p2
 h3:p3
 h4:p4
 h5:p5
 h6:p6
 h7:p7
structure fW (x:V) (H:Hp) (v:V) (H':Hp):Prop where
 e:v=x
 h:H=H'
structure lE (x:V) (H:Hp) (v:V) (H':Hp):Prop where
 e:v=x
 h:Le H H'
inductive Dy (H:Hp) (o:O) (v:V) (H':Hp):Prop|mk (m:Nat) (e:v=.ref m) (l:Le H H') (g:H'[m]? =some o):Dy H o v H'
theorem Le.fQ (H:Hp):Le H H:=⟨fun _ _ e=>e⟩
theorem Le.trans {H H' eG:Hp} (a:Le H H') (b:Le H' eG):Le H eG:=⟨fun n o e=>b.at_ n o (a.at_ n o e)⟩
theorem Le.len {H H':Hp} (a:Le H H'):H.length≤H'.length:=by
 cases h:H.length with
 |zero=>omega
 |succ m=>
  have:H[m]? =some (H[m]'⋯):=z05 ⋯;have:=(z06.mp (a.at_ _ _ this)).1;omega
theorem Le.app (H:Hp) (o:O):Le H (H++[o]):=⟨fun n u e=>by rw[z09 (z06.mp e).1];exact e⟩
theorem Le.aS {H H':Hp} (a:Le H H') (o:O):Le H (H'++[o]):=a.trans (Le.app _ _)
theorem Le.set {H H':Hp} (a:Le H H') {n:Nat} (hn:H.length≤n) (o:O):Le H (H'.set n o):=⟨fun m u e=>by
 have:=(z06.mp e).1;rw[List.getElem?_set_ne ⋯];exact a.at_ m u e⟩
theorem af (H:Hp) (o:O):(H++[o])[H.length]? =some o:=by simp
theorem ai {H:Hp} {n:Nat} {o:O} (o':O) (h:H[n]? =some o):(H++[o'])[n]? =some o:=(Le.app H o').at_ n o h
theorem get_set {H:Hp} {n:Nat} {o':O} (o:O) (h:H[n]? =some o'):(H.set n o)[n]? =some o:=List.getElem?_set_self (z06.mp h).1
theorem ae {H:Hp} {n m:Nat} {o':O} (o:O) (hne:m≠n) (h:H[n]? =some o'):(H.set m o)[n]? =some o':=by rw[List.getElem?_set_ne hne];exact h
section
variable {C:Cx} {k:Nat}
theorem BW.mono {H:Hp} {op:Operator} {x y:V} {Q Q':V→Hp→Prop} (h:BW C k H op x y Q) (hq:∀v H',Q v H'→Q' v H'):BW C k H op x y Q':=
 ⟨fun A s ι a b hr B r r'=>wpAny_mono (h.out A s ι a b hr B r r') (fun _ _ p=>p.mono hq) fun _ _ x=>x⟩
theorem UW.mono {H:Hp} {op:UnaryOp} {x:V} {Q Q':V→Hp→Prop} (h:UW C k H op x Q) (hq:∀v H',Q v H'→Q' v H'):UW C k H op x Q':=
 ⟨fun A s ι a hr B r=>wpAny_mono (h.out A s ι a hr B r) (fun _ _ p=>p.mono hq) fun _ _ x=>x⟩
theorem cR.mono {H:Hp} {f:Value} {vs:List V} {Q Q':V→Hp→Prop} (h:cR C k f vs H Q) (hq:∀v H',Q v H'→Q' v H'):cR C k f vs H Q':=
 ⟨fun A s ι a hr B r=>wpAny_mono (h.out A s ι a hr B r) (fun _ _ p=>p.mono hq) fun _ _ x=>x⟩
abbrev Mon {α:Type} (W:List (Option V)→Hp→(α→Hp→Prop)→Prop):Prop:=∀ρ H (Q Q':α→Hp→Prop),W ρ H Q→(∀v H',Q v H'→Q' v H')→W ρ H Q'
abbrev vw {α:Type} (W:List (Option V)→Hp→(α→Hp→Prop)→Prop):Prop:=∀ρ H (Q:α→Hp→Prop),W ρ H Q→False
theorem nF {α:Type}:vw fun _ _ (_:α→Hp→Prop)=>False:=fun _ _ _ w=>w
theorem vw.m {α:Type} {W:List (Option V)→Hp→(α→Hp→Prop)→Prop} (h:vw W):Mon W:=fun _ _ _ _ w _=>(h _ _ _ w).elim
structure Mn (C:Cx) (k:Nat) (m:ME):Prop where
 e:Mon (wE C k m)
 p:Mon (wP C k m)
 a:Mon (wA C k m)
 t:Mon (wT C k m)
 n:Mon (qv C k m)
 o:Mon (zk C k m)
theorem Mn.E {m:ME} (e:Mon (wE C k m)) (p:vw (wP C k m)) (a:vw (wA C k m)) (t:vw (wT C k m)) (n:vw (qv C k m)) (o:vw (zk C k m)):Mn C k m:=⟨e,p.m,a.m,t.m,n.m,o.m⟩
theorem Mn.T {m:ME} (t:Mon (wT C k m)) (e:vw (wE C k m)) (p:vw (wP C k m)) (a:vw (wA C k m)) (n:vw (qv C k m)) (o:vw (zk C k m)):Mn C k m:=⟨e.m,p.m,a.m,t,n.m,o.m⟩
theorem mn (m:ME):Mn C k m:=by
 induction m with
 |V j=>
  refine .E (fun ρ H Q Q' w h=>?_) nF nF nF nF nF;replace w:(match ρ[j]? with|some (some v)=>Q v H|_=>False):=w;show(match ρ[j]? with|some (some v)=>Q' v H|_=>False)
  revert w
  cases ρ[j]? with
  |none=>exact False.elim
  |some o=>cases o with
   |none=>exact False.elim
   |some v=>exact h v H
 |gl x=>exact .E (fun ρ H Q Q' ⟨v,a,b⟩ h=>⟨v,a,h _ _ b⟩) nF nF nF nF nF
 |I i=>exact .E (fun ρ H Q Q' w h=>h _ _ w) nF nF nF nF nF
 |bool i=>exact .E (fun ρ H Q Q' w h=>h _ _ w) nF nF nF nF nF
 |none=>exact .E (fun ρ H Q Q' w h=>h _ _ w) nF nF nF nF nF
 |B op l r x y=>exact .E (fun ρ H Q Q' w h=>x.e _ _ _ _ w fun _ _ w=>y.e _ _ _ _ w fun _ _ w=>w.mono h) nF nF nF nF nF
 |un op e x=>exact .E (fun ρ H Q Q' w h=>x.e _ _ _ _ w fun _ _ w=>w.mono h) nF nF nF nF nF
 |cmp op l r x y=>exact .E (fun ρ H Q Q' w h=>x.e _ _ _ _ w fun _ _ w=>y.e _ _ _ _ w fun _ _ w=>w.mono h) nF nF nF nF nF
 |bq t b o x y z=>exact .E (fun ρ H Q Q' w h=>x.t _ _ _ _ w fun _ _ w=>⟨fun e=>y.e _ _ _ _ (w.1 e) h,fun e=>z.e _ _ _ _ (w.2 e) h⟩) nF nF nF nF nF
 |tT l r x y=>exact .E (fun ρ H Q Q' w h=>x.e _ _ _ _ w fun _ _ w=>w.mono fun _ _ w=>⟨fun e=>y.e _ _ _ _ (w.1 e) h,fun e=>h _ _ (w.2 e)⟩) nF nF nF nF nF
 |DY l r x y=>exact .E (fun ρ H Q Q' w h=>x.e _ _ _ _ w fun _ _ w=>w.mono fun _ _ w=>⟨fun e=>h _ _ (w.1 e),fun e=>y.e _ _ _ _ (w.2 e) h⟩) nF nF nF nF nF
 |sub l r x y=>exact .E (fun ρ H Q Q' w h=>x.e _ _ _ _ w fun _ _ w=>y.e _ _ _ _ w fun _ _ w=>w.mono h) nF nF nF nF nF
 |Gl o lo hi x y z=>exact .E (fun ρ H Q Q' w h=>x.e _ _ _ _ w fun _ _ w=>y.p _ _ _ _ w fun _ _ w=>z.p _ _ _ _ w fun _ _ ⟨n,xs,a,b,c,d⟩=>⟨n,xs,a,b,c,h _ _ d⟩) nF nF nF nF nF
 |attr o a x=>exact .E (fun ρ H Q Q' w h=>x.e _ _ _ _ w fun _ _ w=>w.mono h) nF nF nF nF nF
 |L es x=>exact .E (fun ρ H Q Q' w h=>x.a _ _ _ _ w fun _ _ w=>⟨w.1,h _ _ w.2⟩) nF nF nF nF nF
 |tup es x=>exact .E (fun ρ H Q Q' w h=>x.a _ _ _ _ w fun _ _ w=>⟨w.1,h _ _ w.2⟩) nF nF nF nF nF
 |K f es x=>exact .E (fun ρ H Q Q' w h=>x.a _ _ _ _ w fun _ _ w=>aa.mono w h) nF nF nF nF nF
 |app o e x y=>exact .E (fun ρ H Q Q' w h=>x.e _ _ _ _ w fun _ _ ⟨n,xs,a,b,w⟩=>⟨n,xs,a,b,y.e _ _ _ _ w fun _ _ w=>w.mono h⟩) nF nF nF nF nF
 |index o e x y=>exact .E (fun ρ H Q Q' w h=>x.e _ _ _ _ w fun _ _ ⟨n,xs,a,b,w⟩=>⟨n,xs,a,b,y.e _ _ _ _ w fun _ _ w=>w.mono h⟩) nF nF nF nF nF
 |count o e x y=>exact .E (fun ρ H Q Q' w h=>x.e _ _ _ _ w fun _ _ ⟨n,xs,a,b,w⟩=>⟨n,xs,a,b,y.e _ _ _ _ w fun _ _ w=>w.mono h⟩) nF nF nF nF nF
 |lc rn j it c e x=>exact .E (fun ρ H Q Q' w h=>x.e _ _ _ _ w fun v H₁ ⟨vs,Hc,hi,I,h0,t,d⟩=>⟨vs,Hc,hi,I,h0,t,fun aO H' hI=>⟨(d aO H' hI).1,h _ _ (d aO H' hI).2⟩⟩) nF nF nF nF nF
 |Il rn j it j' sG e x=>exact .E (fun ρ H Q Q' w h=>x.e _ _ _ _ w fun v H₁ ⟨vs,Hc,hi,I,h0,t,d⟩=>⟨vs,Hc,hi,I,h0,t,fun aO H' hI=>⟨(d aO H' hI).1,h _ _ (d aO H' hI).2⟩⟩) nF nF nF nF nF
 |N=>exact⟨vw.m nF,fun _ _ _ _ w h=>h _ _ w,fun _ _ _ _ w h=>h _ _ w,fun _ _ _ _ w h=>h _ _ w,fun _ _ _ _ w h=>h _ _ w,fun _ _ _ _ w h=>h _ _ w⟩
 |C e es x y=>exact⟨vw.m nF,fun _ _ _ _ w h=>x.e _ _ _ _ w fun _ _ ⟨i,a,b⟩=>⟨i,a,h _ _ b⟩,fun _ _ _ _ w h=>x.e _ _ _ _ w fun _ _ w=>y.a _ _ _ _ w fun _ _ w=>h _ _ w,vw.m nF,
  fun _ _ _ _ w h=>x.t _ _ _ _ w fun _ _ w=>⟨fun e=>y.n _ _ _ _ (w.1 e) h,fun e=>h _ _ (w.2 e)⟩,fun _ _ _ _ w h=>x.t _ _ _ _ w fun _ _ w=>⟨fun e=>h _ _ (w.1 e),fun e=>y.o _ _ _ _ (w.2 e) h⟩⟩
 |bf e x=>exact .T (fun ρ H Q Q' w h=>x.e _ _ _ _ w fun _ _ w=>w.mono h) nF nF nF nF nF
 |aD op l r x y=>exact .T (fun ρ H Q Q' w h=>x.e _ _ _ _ w fun _ _ w=>y.e _ _ _ _ w fun _ _ w=>w.mono fun _ _ w=>w.mono h) nF nF nF nF nF
 |yf o1 o2 l e1 e2 x y z=>exact .T (fun ρ H Q Q' w h=>x.e _ _ _ _ w fun _ _ w=>y.e _ _ _ _ w fun _ _ w=>w.mono fun _ _ w=>w.mono fun _ _ w=>⟨fun e=>z.e _ _ _ _ (w.1 e) fun _ _ w=>w.mono fun _ _ w=>w.mono h,fun e=>h _ _ (w.2 e)⟩) nF nF nF nF nF
 |iC t x=>exact .T (fun ρ H Q Q' w h=>x.t _ _ _ _ w fun _ _ w=>h _ _ w) nF nF nF nF nF
 |cx ts x=>exact .T (fun ρ H Q Q' w h=>x.n _ _ _ _ w h) nF nF nF nF nF
 |vD ts x=>exact .T (fun ρ H Q Q' w h=>x.o _ _ _ _ w h) nF nF nF nF nF
theorem bQ (m:ME) {ρ:List (Option V)} {H:Hp} {Q Q':V→Hp→Prop} (w:wE C k m ρ H Q) (h:∀v H',Q v H'→Q' v H'):wE C k m ρ H Q':=(mn m).e _ _ _ _ w h
theorem ir (m:ME) {ρ:List (Option V)} {H:Hp} {Q Q':Bool→Hp→Prop} (w:wT C k m ρ H Q) (h:∀v H',Q v H'→Q' v H'):wT C k m ρ H Q':=(mn m).t _ _ _ _ w h
end
section
variable {C:Cx} (P:Pg C) {k:Nat} {H:Hp} {Q:V→Hp→Prop}
include P
theorem Pg.N4 {x:Str} {T:String} (h1:nsFind (nT C.w.params) x=none) (h2:bootBuiltins x=some (.type T)):C.rv x=.type T:=by unfold Cx.rv;rw[P.mg,h1,h2];rfl
theorem Pg.JG {x:Str} {T:String} (h1:nsFind (nT C.w.params) x=none) (h2:bootBuiltins x=some (.builtin T)):C.rv x=.builtin T:=by unfold Cx.rv;rw[P.mg,h1,h2];rfl
theorem Pg.rF:C.rv (s "range")=.type "range":=P.N4 ∅ ∅
theorem Pg.GQ:C.rv (s "len")=.builtin "len":=P.JG ∅ ∅
theorem Pg.DE:C.rv (s "min")=.builtin "min":=P.JG ∅ ∅
theorem Pg.GR:C.rv (s "max")=.builtin "max":=P.JG ∅ ∅
theorem Pg.GP:C.rv (s "abs")=.builtin "abs":=P.JG ∅ ∅
theorem Pg.Em:C.rv (s "list")=.type "list":=P.N4 ∅ ∅
theorem Pg.len {n:Nat} {xs:List V} (h1:H[n]? =some (.L xs)) (hz:xs.length≤1000) (h:Q (.I xs.length) H):aa C k (s "len") [.ref n] H Q:=by unfold aa;rw[P.GQ];exact cR.len h1 hz h
theorem Pg.min2 {a b:Int} (h:Q (.I (min a b)) H):aa C k (s "min") [.I a,.I b] H Q:=by unfold aa;rw[P.DE];exact cR.min2 h
theorem Pg.max2 {a b:Int} (h:Q (.I (max a b)) H):aa C k (s "max") [.I a,.I b] H Q:=by unfold aa;rw[P.GR];exact cR.max2 h
theorem Pg.Fh {n:Nat} {xs:List Int} {m:Int} (h1:H[n]? =some (.L (xs.map V.I))) (hm:m∈xs) (hl:∀x∈xs,m≤x) (h:Q (.I m) H):aa C k (s "min") [.ref n] H Q:=by unfold aa;rw[P.DE];exact cR.Fh h1 hm hl h
theorem Pg.abs {a:Int} (h:Q (.I a.natAbs) H):aa C k (s "abs") [.I a] H Q:=by
 unfold aa;rw[P.GP];refine cR.abs ?_;have:(if a<0 then-a else a)=(a.natAbs:Int):=by split<;>omega
 rw[this];exact h
theorem Pg.gd {a:Int} (h:Q (.ref H.length) (H++[.range 0 a 1])):aa C k (s "range") [.I a] H Q:=by unfold aa;rw[P.rF];exact cR.gd h
theorem Pg.wZ {a b:Int} (h:Q (.ref H.length) (H++[.range a b 1])):aa C k (s "range") [.I a,.I b] H Q:=by unfold aa;rw[P.rF];exact cR.wZ h
theorem Pg.tv {a b c:Int} (hc:c≠0) (hs:c.natAbs<1073741824) (h:Q (.ref H.length) (H++[.range a b c])):aa C k (s "range") [.I a,.I b,.I c] H Q:=by unfold aa;rw[P.rF];exact cR.tv hc hs h
theorem Pg.lq {n:Nat} {a b c:Int} (h1:H[n]? =some (.range a b c)) (hs:Builtin.Range.small a b c=true) (hz:0≤Builtin.Range.rangeSize a b c∧Builtin.Range.rangeSize a b c≤1000) (h:Q (.ref H.length) (H++[.L (c8 a b c)])):aa C k (s "list") [.ref n] H Q:=by unfold aa;rw[P.Em];exact cR.lq h1 hs hz h
end
def il (xs:List Int):List V:=xs.map V.I
def nl (xs:List Nat):List V:=xs.map fun(i:Nat)=>V.I (i:Int)
theorem DN {xs:List Int} {i:Nat} {x:Int} (h:xs[i]? =some x):(il xs)[i]? =some (.I x):=by unfold il;rw[z11,h];rfl
theorem ID {xs:List Nat} {i:Nat} {x:Nat} (h:xs[i]? =some x):(nl xs)[i]? =some (.I x):=by unfold nl;rw[z11,h];rfl
theorem oT (xs:List Nat):nl xs=il (xs.map fun(i:Nat)=>(i:Int)):=by unfold nl il;rw[List.map_map];rfl
theorem aJ (xs:List Nat):(nl xs).length=xs.length:=by simp[nl]
theorem aX (xs:List Int):(il xs).length=xs.length:=by simp[il]
theorem eP {x:Int} (h1: -100000≤x) (h2:x≤100000):Builtin.Range.rangeFitsLong x=true:=by
 simp[Builtin.Range.rangeFitsLong];omega
theorem kl (a b:Nat) (ha:a≤1000) (hb:b≤1000):Builtin.Range.small (a:Int) b 1=true∧c8 (a:Int) b 1=nl ((List.range (b-a)).map (a+ ·))∧(0≤Builtin.Range.rangeSize (a:Int) b 1∧Builtin.Range.rangeSize (a:Int) b 1≤1000):=by
 have e:Builtin.Range.rangeSize (a:Int) b 1=((b-a:Nat):Int):=by
  unfold Builtin.Range.rangeSize;simp only[show(1:Int)>0 by decide,if_true,Int.ediv_one]
  split<;>omega
 refine⟨?_,?_,⋯,⋯⟩
 · unfold Builtin.Range.small;rw[e,eP ⋯ ⋯,eP ⋯ ⋯,eP ⋯ ⋯,eP ⋯ ⋯];simp only[show(1:Int)>0 by decide,if_true];rw[eP ⋯ ⋯];simp
 · unfold c8 nl;rw[e,List.map_map,z02];refine z26 fun i _=>?_;simp only[Function.comp]
   congr 1;push_cast;omega
theorem w6 (n:Nat) (hn:n≤1000):Builtin.Range.small ((n:Int)-1) (-1) (-1)=true∧c8 ((n:Int)-1) (-1) (-1)=nl ((List.range n).map (n-1- ·)):=by
 injection n with hn
 have e:Builtin.Range.rangeSize ((n:Int)-1) (-1) (-1)=(n:Int):=by
  unfold Builtin.Range.rangeSize;simp only[show ¬(-1:Int)>0 by decide,if_false,show-(-1:Int)=1 by decide,Int.ediv_one]
  split<;>omega
 refine⟨?_,?_⟩
 · unfold Builtin.Range.small;rw[e,eP ⋯ ⋯,eP ⋯ ⋯,eP ⋯ ⋯];simp only[show ¬(-1:Int)>0 by decide,if_false];rw[eP ⋯ ⋯];simp
 · unfold c8 nl;rw[e,List.map_map,z02];refine z26 ?_;rintro-i hi;have:=List.mem_range.mp hi;simp only[Function.comp]
   congr 1;omega
section
variable {C:Cx} {k:Nat} {H:Hp}
theorem xI {m a b:Nat} (h:H[m]? =some (.range (a:Int) b 1)) (ha:a≤1000) (hb:b≤1000):bF C k H (.ref m) (nl ((List.range (b-a)).map (a+ ·))) (fun _=>True):=by
 obtain⟨h1,h2,_⟩:=kl a b ha hb;rw[←h2];exact bF.range h h1
theorem sJ {m b:Nat} (h:H[m]? =some (.range 0 (b:Int) 1)) (hb:b≤1000):bF C k H (.ref m) (nl (List.range b)) (fun _=>True):=by
 have:=xI (C:=C) (k:=k) (a:=0) (by exact h) ⋯ hb
 simpa using this
theorem yO {m n:Nat} (h:H[m]? =some (.range ((n:Int)-1) (-1) (-1))) (hn:n≤1000):bF C k H (.ref m) (nl ((List.range n).map (n-1- ·))) (fun _=>True):=by
 obtain⟨h1,h2⟩:=w6 n hn;rw[←h2];exact bF.range h h1
theorem dp {xs:List Nat} {i:Nat} {x:V} (h:(nl xs)[i]? =some x):∃a,xs[i]? =some a∧x=.I (a:Int):=by
 injection xs i x with h
 unfold nl at h;rw[z11]at h
 cases q:xs[i]? with
 |none=>rw[q]at h;cases h
 |some a=>rw[q]at h;cases h;exact⟨a,rfl,rfl⟩
theorem BA {j:Nat} {e:ME} {b r:MS} {ρ:List (Option V)} {Q:Fl→List (Option V)→Hp→Prop} (P:Pg C) (n:Nat) (I:Nat→List (Option V)→Hp→Prop)
 (h0:wE C k e ρ H (fun v H₁=>v=.I n∧I 0 ρ (H₁++[.range 0 n 1]))) (hn:n≤1000)
 (turn:∀i ρ H,i<n→I i ρ H→wX C k b (ρ.set j (some (.I (i:Nat)))) H fun fl aO H'=>match fl with|.next=>I (i+1) aO H'|.cont=>I (i+1) aO H'|.brk=>wX C k r aO H' Q|.ret v=>Q (.ret v) aO H')
 (done:∀ρ H,I n ρ H→wX C k r ρ H Q):wX C k (.bP j (.K (s "range") (.C e .N)) b r) ρ H Q:=by
 injection C k H j e b r ρ Q n I with P h0 hn turn done
 refine bQ e h0 ?_;rintro-v H₁ ⟨rfl,hI⟩;refine P.gd ⟨nl (List.range n),fun _=>True,I,sJ (af _ _) hn,hI,?_,fun ρ H hI=>⟨trivial,done ρ H (by rw[aJ,List.length_range]at hI;exact hI)⟩⟩
 · rintro-i x ρ H hx hI;refine⟨trivial,?_⟩;obtain(⟨a,ha,rfl⟩):=dp hx;have hl:=(z06.mp ha).1;rw[List.length_range]at hl;rw[List.getElem?_range hl]at ha;cases ha;exact turn i ρ H hl hI
end
theorem FA {n a:Nat} (h:0<n):n-1-a<n:=z24 (Nat.sub_le _ _) (Nat.sub_lt h Nat.one_pos)
section
variable {C:Cx} {k:Nat} {ρ:List (Option V)} {H:Hp} {Q:Fl→List (Option V)→Hp→Prop}
def Nx (C:Cx) (k:Nat) (r:MS) (Q:Fl→List (Option V)→Hp→Prop):Fl→List (Option V)→Hp→Prop:=fun fl ρ H=>match fl with|.next=>wX C k r ρ H Q|fl=>Q fl ρ H
def Tn (C:Cx) (k:Nat) (r:MS) (Q:Fl→List (Option V)→Hp→Prop) (I:List (Option V)→Hp→Prop):Fl→List (Option V)→Hp→Prop:=fun fl aO H'=>match fl with|.next=>I aO H'|.cont=>I aO H'|.brk=>wX C k r aO H' Q|.ret v=>Q (.ret v) aO H'
inductive JQ (C:Cx) (k:Nat) (js:List Nat) (r:MS) (Q:Fl→List (Option V)→Hp→Prop) (ρ:List (Option V)) (v:V) (H:Hp):Prop
 |mk (n:Nat) (vs:List V) (e:v=.ref n) (h:H[n]? =some (.tup vs)) (l:vs.length=js.length) (w:wX C k r (sets ρ js vs) H Q):JQ C k js r Q ρ v H
inductive MU (C:Cx) (k:Nat) (js:List Nat) (r:MS) (Q:Fl→List (Option V)→Hp→Prop) (ρ:List (Option V)) (v:V) (H:Hp):Prop
 |mk (n:Nat) (vs:List V) (e:v=.ref n) (h:H[n]? =some (.L vs)) (l:vs.length=js.length) (w:wX C k r (sets ρ js vs) H Q):MU C k js r Q ρ v H
inductive Mw (C:Cx) (k:Nat) (b o r:MS) (Q:Fl→List (Option V)→Hp→Prop) (ρ:List (Option V)) (c:Bool) (H:Hp):Prop
 |mk (t:c=true→wX C k b ρ H (Nx C k r Q)) (f:c=false→wX C k o ρ H (Nx C k r Q)):Mw C k b o r Q ρ c H
inductive Mv (C:Cx) (k:Nat) (b r:MS) (Q:Fl→List (Option V)→Hp→Prop) (ρ:List (Option V)) (c:Bool) (H:Hp):Prop
 |mk (t:c=true→wX C k b ρ H (Nx C k r Q)) (f:c=false→wX C k r ρ H Q):Mv C k b r Q ρ c H
inductive Mx (C:Cx) (k:Nat) (b o r:MS) (Q:Fl→List (Option V)→Hp→Prop) (ρ:List (Option V)) (c:Bool) (H:Hp):Prop
 |mk (J:List (Option V)→Hp→Prop) (t:c=true→∀K:Kx,(∀aO H',J aO H'→K .next aO H')→wX C k b ρ H K) (f:c=false→∀K:Kx,(∀aO H',J aO H'→K .next aO H')→wX C k o ρ H K) (d:∀aO H',J aO H'→wX C k r aO H' Q):Mx C k b o r Q ρ c H
inductive Gw (C:Cx) (k j:Nat) (b r:MS) (Q:Fl→List (Option V)→Hp→Prop) (ρ:List (Option V)) (v:V) (H₁:Hp):Prop
 |mk (xs:List V) (Hc:Hp→Prop) (I:Nat→List (Option V)→Hp→Prop) (hi:bF C k H₁ v xs Hc) (h0:I 0 ρ H₁)
  (t:∀i x ρ H,xs[i]? =some x→I i ρ H→Hc H∧wX C k b (ρ.set j (some x)) H (Tn C k r Q (I (i+1)))) (d:∀ρ H,I xs.length ρ H→Hc H∧wX C k r ρ H Q):Gw C k j b r Q ρ v H₁
inductive Gx (C:Cx) (k j:Nat) (b r:MS) (Q:Fl→List (Option V)→Hp→Prop) (ρ:List (Option V)) (v:V) (H₁:Hp):Prop
 |mk (o:Nat) (xs:List V) (I:Nat→List (Option V)→Hp→Prop) (e:v=.ref o) (h1:H₁[o]? =some (.L xs)) (h0:I 0 ρ H₁) (hc:∀i ρ H,I i ρ H→H[o]? =some (.L xs))
  (t:∀i x ρ H,xs[i]? =some x→I i ρ H→wX C k b (ρ.set j (some x)) H (Tn C k r Q (I (i+1)))) (d:∀ρ H,I xs.length ρ H→wX C k r ρ H Q):Gx C k j b r Q ρ v H₁
inductive Gy (C:Cx) (k j:Nat) (b r:MS) (Q:Fl→List (Option V)→Hp→Prop) (ρ:List (Option V)) (v:V) (H₁:Hp):Prop
 |mk (o:Nat) (xs:List V) (I:Nat→List (Option V)→Hp→Prop) (e:v=.ref o) (h1:H₁[o]? =some (.tup xs)) (h0:I 0 ρ H₁) (hc:∀i ρ H,I i ρ H→H[o]? =some (.tup xs))
  (t:∀i x ρ H,xs[i]? =some x→I i ρ H→wX C k b (ρ.set j (some x)) H (Tn C k r Q (I (i+1)))) (d:∀ρ H,I xs.length ρ H→wX C k r ρ H Q):Gy C k j b r Q ρ v H₁
inductive Dw (C:Cx) (k:Nat) (js:List Nat) (b r:MS) (Q:Fl→List (Option V)→Hp→Prop) (ρ:List (Option V)) (v:V) (H₁:Hp):Prop
 |mk (o:Nat) (xs:List V) (I:Nat→List (Option V)→Hp→Prop) (e:v=.ref o) (h1:H₁[o]? =some (.L xs)) (h0:I 0 ρ H₁) (hc:∀i ρ H,I i ρ H→H[o]? =some (.L xs))
  (t:∀i x ρ H,xs[i]? =some x→I i ρ H→JQ C k js b (Tn C k r Q (I (i+1))) ρ x H) (d:∀ρ H,I xs.length ρ H→wX C k r ρ H Q):Dw C k js b r Q ρ v H₁
theorem au {j:Nat} {e:ME} {r:MS} (h:wE C k e ρ H (CK j ρ (wX C k r) Q)):wX C k (.asg j e r) ρ H Q:=h
theorem rf {js:List Nat} {e:ME} {r:MS} (h:wE C k e ρ H (JQ C k js r Q ρ)):wX C k (.nu js e r) ρ H Q:=by
 exact bQ e h fun v H₁ ⟨n,vs,a,b,c,d⟩=>⟨n,vs,a,.inl b,c,d⟩
theorem Jc {js:List Nat} {e:ME} {r:MS} (h:wE C k e ρ H (MU C k js r Q ρ)):wX C k (.nu js e r) ρ H Q:=by
 exact bQ e h fun v H₁ ⟨n,vs,a,b,c,d⟩=>⟨n,vs,a,.inr b,c,d⟩
theorem aY {j:Nat} {op:Operator} {e:ME} {r:MS} {u:V} (hu:ρ[j]? =some (some u)) (h:wE C k e ρ H (HY C k op u (CK j ρ (wX C k r) Q))):wX C k (.aug j op e r) ρ H Q:=⟨u,hu,h⟩
theorem dI {o i e:ME} {r:MS} (h:wE C k e ρ H fun v H₁=>wE C k o ρ H₁ fun x aB=>wE C k i ρ aB fun y bc=>iV C k bc x y v fun bN=>wX C k r ρ bN Q):wX C k (.cN o i e r) ρ H Q:=h
theorem eX {o i e:ME} {op:Operator} {r:MS} (h:wE C k o ρ H fun x H₁=>wE C k i ρ H₁ fun y aB=>cz C k aB x y fun old bc=>wE C k e ρ bc fun v bN=>IW C k bN op old v fun w fX=>iV C k fX x y w fun mj=>wX C k r ρ mj Q):wX C k (.cG o i op e r) ρ H Q:=h
theorem pk {o e:ME} {a:Str} {r:MS} (h:wE C k e ρ H fun v H₁=>wE C k o ρ H₁ fun x aB=>pB C k aB x a v fun bN=>wX C k r ρ bN Q):wX C k (.setattr o a e r) ρ H Q:=h
theorem BB {o e:ME} {a:Str} {op:Operator} {r:MS} (h:wE C k o ρ H fun x H₁=>eM C k H₁ x a fun old aB=>wE C k e ρ aB fun v bc=>IW C k bc op old v fun w bN=>pB C k bN x a w fun fX=>wX C k r ρ fX Q):wX C k (.hO o a op e r) ρ H Q:=h
theorem cC {e:ME} {r:MS} (h:wE C k e ρ H (Ib ρ (wX C k r) Q)):wX C k (.expr e r) ρ H Q:=h
theorem aM {e:ME} (h:wE C k e ρ H (Ig ρ Q)):wX C k (.ret e) ρ H Q:=h
theorem az (h:Q .next ρ H):wX C k .N ρ H Q:=h
theorem Mp (h:Q .brk ρ H):wX C k .brk ρ H Q:=h
theorem Jd (h:Q .cont ρ H):wX C k .cont ρ H Q:=h
theorem Gq {t:ME} {b o r:MS} (h:wT C k t ρ H (Mw C k b o r Q ρ)):wX C k (.bq t b o r) ρ H Q:=by
 exact ir t h fun c H₁ ⟨x,y⟩=>⟨x,y⟩
theorem nx {r:MS} (h:wX C k r ρ H Q):Nx C k r Q .next ρ H:=h
theorem bA {t:ME} {b r:MS} (h:wT C k t ρ H (Mv C k b r Q ρ)):wX C k (.bq t b .N r) ρ H Q:=by
 exact ir t h fun c H₁ ⟨x,y⟩=>⟨x,y⟩
theorem dZ {t:ME} {b o r:MS} (h:wT C k t ρ H (Mx C k b o r Q ρ)):wX C k (.bq t b o r) ρ H Q:=by
 exact Gq (ir t h fun c H₁ ⟨J,h1,h2,h3⟩=>⟨fun e=>h1 e _ h3,fun e=>h2 e _ h3⟩)
theorem BD {t:ME} {b r:MS} (I:Nat→List (Option V)→Hp→Prop) (n:Nat) (h0:I n ρ H) (h:∀n ρ H,I n ρ H→wT C k t ρ H fun c H₁=>
 (c=true→wX C k b ρ H₁ fun fl aO H'=>match fl with|.next=>∃m,m<n∧I m aO H'|.cont=>∃m,m<n∧I m aO H'|.brk=>wX C k r aO H' Q|.ret v=>Q (.ret v) aO H')∧(c=false→wX C k r ρ H₁ Q)):wX C k (.Du t b r) ρ H Q:=by
 exact⟨I,n,h0,h⟩
theorem kP {Q:V→Hp→Prop} {j:Nat} {v:V} (h:ρ[j]? =some (some v)) (q:Q v H):wE C k (.V j) ρ H Q:=by
 show(match ρ[j]? with|some (some v)=>Q v H|_=>False);rw[h];exact q
theorem Cn {i:Int} {Q:V→Hp→Prop} (q:Q (.I i) H):wE C k (.I i) ρ H Q:=q
theorem GZ {x:Str} {Q:V→Hp→Prop} (q:FP C x H Q):wE C k (.gl x) ρ H Q:=q
theorem qH {e:ME} {Q:Bool→Hp→Prop} (h:wE C k e ρ H (K' C k Q)):wT C k (.bf e) ρ H Q:=h
theorem DF {t:ME} {Q:Bool→Hp→Prop} (h:wT C k t ρ H (Ie Q)):wT C k (.iC t) ρ H Q:=h
theorem t9 {op:CmpOp} {l r:ME} {Q:Bool→Hp→Prop} (h:wE C k l ρ H (NH C k op (wE C k r ρ) Q)):wT C k (.aD op l r) ρ H Q:=h
theorem G8 {t ts:ME} {Q:Bool→Hp→Prop} (h:wT C k t ρ H (NI (qv C k ts ρ) Q)):wT C k (.cx (.C t ts)) ρ H Q:=h
theorem J_ {t ts:ME} {Q:Bool→Hp→Prop} (h:wT C k t ρ H (K_ (zk C k ts ρ) Q)):wT C k (.vD (.C t ts)) ρ H Q:=h
theorem jz {op:Operator} {l r:ME} {Q:V→Hp→Prop} (h:wE C k l ρ H (HZ C k op (wE C k r ρ) Q)):wE C k (.B op l r) ρ H Q:=h
theorem GX {o:ME} {a:Str} {Q:V→Hp→Prop} (h:wE C k o ρ H (HX C k a Q)):wE C k (.attr o a) ρ H Q:=h
theorem yu {x:Str} {es:ME} {Q:V→Hp→Prop} (h:wA C k es ρ H (H_ C k x Q)):wE C k (.K x es) ρ H Q:=h
theorem J7 {es:ME} {Q:V→Hp→Prop} (h:wA C k es ρ H (Ic Q)):wE C k (.L es) ρ H Q:=h
theorem cF {e es:ME} {Q:List V→Hp→Prop} (h:wE C k e ρ H (Ia (wA C k es ρ) Q)):wA C k (.C e es) ρ H Q:=h
theorem vL {Q:List V→Hp→Prop} (h:Q [] H):wA C k .N ρ H Q:=h
theorem BC {j:Nat} {it:ME} {b r:MS} (h:wE C k it ρ H (Gw C k j b r Q ρ)):wX C k (.bP j it b r) ρ H Q:=by
 exact bQ it h fun v H₁ ⟨xs,Hc,I,a,b,c,d⟩=>⟨xs,Hc,I,a,b,c,d⟩
theorem FO {js:List Nat} {it:ME} {b r:MS} (h:wE C k it ρ H fun v H₁=>∃(xs:List V) (Hc:Hp→Prop) (I:Nat→List (Option V)→Hp→Prop),bF C k H₁ v xs Hc∧I 0 ρ H₁∧
 (∀i x ρ H,xs[i]? =some x→I i ρ H→Hc H∧∃n vs,x=.ref n∧H[n]? =some (.tup vs)∧vs.length=js.length∧wX C k b (sets ρ js vs) H (Tn C k r Q (I (i+1))))∧(∀ρ H,I xs.length ρ H→Hc H∧wX C k r ρ H Q)):wX C k (.rY js it b r) ρ H Q:=by
 exact h
theorem Je {j:Nat} {it:ME} {b r:MS} (xs:List V) (Hc:Hp→Prop) (I:Nat→List (Option V)→Hp→Prop) (h0:wE C k it ρ H fun v H₁=>bF C k H₁ v xs Hc∧I 0 ρ H₁)
 (turn:∀i x ρ H,xs[i]? =some x→I i ρ H→Hc H∧wX C k b (ρ.set j (some x)) H (Tn C k r Q (I (i+1)))) (done:∀ρ H,I xs.length ρ H→Hc H∧wX C k r ρ H Q):wX C k (.bP j it b r) ρ H Q:=
 BC (bQ it h0 fun v H₁ ⟨a,b⟩=>⟨xs,Hc,I,a,b,turn,done⟩)
theorem md {j:Nat} {it:ME} {b r:MS} (h:wE C k it ρ H (Gx C k j b r Q ρ)):wX C k (.bP j it b r) ρ H Q:=
 BC (bQ it h fun v H₁ ⟨o,xs,I,e,h1,h0,hc,t,d⟩=>by subst e;exact⟨xs,_,I,bF.list h1,h0,fun i x ρ H hx hI=>⟨hc i ρ H hI,t i x ρ H hx hI⟩,fun ρ H hI=>⟨hc _ ρ H hI,d ρ H hI⟩⟩)
theorem zq {j:Nat} {it:ME} {b r:MS} (h:wE C k it ρ H (Gy C k j b r Q ρ)):wX C k (.bP j it b r) ρ H Q:=
 BC (bQ it h fun v H₁ ⟨o,xs,I,e,h1,h0,hc,t,d⟩=>by subst e;exact⟨xs,_,I,bF.tup h1,h0,fun i x ρ H hx hI=>⟨hc i ρ H hI,t i x ρ H hx hI⟩,fun ρ H hI=>⟨hc _ ρ H hI,d ρ H hI⟩⟩)
theorem pj {js:List Nat} {it:ME} {b r:MS} (h:wE C k it ρ H (Dw C k js b r Q ρ)):wX C k (.rY js it b r) ρ H Q:=
 FO (bQ it h fun v H₁ ⟨o,xs,I,e,h1,h0,hc,t,d⟩=>by subst e;exact⟨xs,_,I,bF.list h1,h0,fun i x ρ H hx hI=>⟨hc i ρ H hI,let⟨n,vs,e1,e2,e3,w⟩:=t i x ρ H hx hI;⟨n,vs,e1,e2,e3,w⟩⟩,fun ρ H hI=>⟨hc _ ρ H hI,d ρ H hI⟩⟩)
theorem cq {j:Nat} {e:ME} {b r:MS} (P:Pg C) (n:Nat) (I:Nat→List (Option V)→Hp→Prop) (h0:wE C k e ρ H (fun v H₁=>v=.I n∧I 0 ρ (H₁++[.range 0 n 1]))) (hn:n≤1000)
 (turn:∀i ρ H,i<n→I i ρ H→wX C k b (ρ.set j (some (.I (i:Nat)))) H (Tn C k r Q (I (i+1)))) (done:∀ρ H,I n ρ H→wX C k r ρ H Q):wX C k (.bP j (.K (s "range") (.C e .N)) b r) ρ H Q:=
 BA P n I h0 hn turn done
theorem aa.pv {f:Str} {vs:List V} {a:V} {R:V→Hp→Prop} (h:aa C k f vs H (fW (a) H)) (q:R a H):aa C k f vs H R:=aa.mono h fun _ _ h=>by obtain⟨rfl,rfl⟩:=h;exact q
theorem aa.lv {f:Str} {vs:List V} {a:V} {R:V→Hp→Prop} (h:aa C k f vs H (lE (a) H)) (q:∀H',Le H H'→R a H'):aa C k f vs H R:=aa.mono h fun _ _ h=>by obtain⟨rfl,l⟩:=h;exact q _ l
theorem Gp {x:Str} {v:V} {R:V→Hp→Prop} (h:bV C x v) (q:R v H):FP C x H R:=⟨v,h,q⟩
end
def gn (F R h kga rla:Nat):List (Str×V):=[(s "files",.I F),(s "ranks",.I R),(s "size",.I ((F:Int)*R)),(s "full",.I (1*2^(F*R)-1)),(s "has_double",.bool (decide ((5:Int)≤R))),(s "has_castling",.bool false),
 (s "file_masks",.ref (h+1)),(s "rank_masks",.ref (h+2)),(s "rays",.ref (h+3)),(s "king",.ref kga),(s "knight",.ref (h+5)),(s "pawn",.ref (h+8)),(s "castles",.ref (h+9)),(s "rights_lost",.ref rla)]
def cD (F R g kga rla:Nat) (H:Hp):Prop:=H[g]? =some (.inst 123 (gn F R g kga rla))
theorem cD.le {F R g kga rla:Nat} {H H':Hp} (h:cD F R g kga rla H) (l:Le H H'):cD F R g kga rla H':=l.at_ _ _ h
section
variable {C:Cx} (P:Pg C) {k:Nat} {H:Hp} {Q:V→Hp→Prop} {F R g kga rla:Nat}
include P
theorem Pg.ga (a:Str) {y:V} (hk:mW (KC C.w.params) 123 a=true) (hl:(gn F R g kga rla).lookup a=some y) (G:cD F R g kga rla H) (h:Q y H):eM C k H (.ref g) a Q:=
 eM.field G (by rw[P.K];exact hk) hl h
theorem Pg.a_ (G:cD F R g kga rla H) (h:Q (.I F) H):eM C k H (.ref g) (s "files") Q:=P.ga _ ∅ ∅ G h
theorem Pg.f' (G:cD F R g kga rla H) (h:Q (.I R) H):eM C k H (.ref g) (s "ranks") Q:=P.ga _ ∅ ∅ G h
theorem Pg.fc (G:cD F R g kga rla H) (h:Q (.I ((F*R:Nat):Int)) H):eM C k H (.ref g) (s "size") Q:=
 P.ga (y:=.I ((F:Int)*R)) _ ∅ ∅ G (by have:((F:Int)*R)=((F*R:Nat):Int):=(by push_cast;rfl);rw[this];exact h)
theorem Pg.gN (G:cD F R g kga rla H) (h:Q (.I (1*2^(F*R)-1)) H):eM C k H (.ref g) (s "full") Q:=P.ga _ ∅ ∅ G h
theorem Pg.Kh (G:cD F R g kga rla H) (h:Q (.bool false) H):eM C k H (.ref g) (s "has_castling") Q:=P.ga _ ∅ ∅ G h
theorem Pg.mF (G:cD F R g kga rla H) (h:Q (.ref (g+1)) H):eM C k H (.ref g) (s "file_masks") Q:=P.ga _ ∅ ∅ G h
theorem Pg.z2 (G:cD F R g kga rla H) (h:Q (.ref (g+2)) H):eM C k H (.ref g) (s "rank_masks") Q:=P.ga _ ∅ ∅ G h
theorem Pg.nU (G:cD F R g kga rla H) (h:Q (.ref (g+3)) H):eM C k H (.ref g) (s "rays") Q:=P.ga _ ∅ ∅ G h
theorem Pg.zZ (G:cD F R g kga rla H) (h:Q (.ref kga) H):eM C k H (.ref g) (s "king") Q:=P.ga _ ∅ ∅ G h
theorem Pg.EA (G:cD F R g kga rla H) (h:Q (.ref (g+5)) H):eM C k H (.ref g) (s "knight") Q:=P.ga _ ∅ ∅ G h
theorem Pg.yG (G:cD F R g kga rla H) (h:Q (.ref (g+8)) H):eM C k H (.ref g) (s "pawn") Q:=P.ga _ ∅ ∅ G h
theorem Pg.Kg (G:cD F R g kga rla H) (h:Q (.ref (g+9)) H):eM C k H (.ref g) (s "castles") Q:=P.ga _ ∅ ∅ G h
end
theorem BQ {d:Nat} (h:d<8):d=0∨d=1∨d=2∨d=3∨d=4∨d=5∨d=6∨d=7:=⋯
section
variable {C:Cx} (P:Pg C) {k:Nat} {H:Hp} {Q:V→Hp→Prop}
include P
theorem Pg.Bj (st:Le dJ H) {d:Nat} (hd:d<8) (h:Q (.I (dX d)) H):FP C (s "STEP_FILES") H (fun v H=>cz C k H v (.I d) Q):=
 ⟨_,P.tE,cz.tup (st.at_ _ _ rfl) ⋯ ⋯ (y:=.I (dX d)) (by rcases BQ hd with rfl|rfl|rfl|rfl|rfl|rfl|rfl|rfl<;>rfl) h⟩
theorem Pg.yd (st:Le dJ H) {d:Nat} (hd:d<8) (h:Q (.I (dY d)) H):FP C (s "STEP_RANKS") H (fun v H=>cz C k H v (.I d) Q):=
 ⟨_,P.tG,cz.tup (st.at_ _ _ rfl) ⋯ ⋯ (y:=.I (dY d)) (by rcases BQ hd with rfl|rfl|rfl|rfl|rfl|rfl|rfl|rfl<;>rfl) h⟩
theorem Pg.ot (st:Le dJ H) {d:Nat} (hd:d<8):aa C (k+1) (s "is_growing") [.I d] H (fW (.bool (cp d)) H):=by
 refine P.pX fun hT=>?_;unfold jU;refine P.yd st hd (CW.gt (bk.bool ⟨fun e=>?_,fun e=>CW.eq ?_⟩))
 · refine⟨?_,rfl⟩;unfold cp;rw[e];simp
 · refine⟨?_,rfl⟩;unfold cp;have e':decide ((0:Int)<dY d)=false:=e;rw[e',Bool.false_or]
   congr 1
   by_cases h:d=1
   · subst h;rfl
   · have:¬(d:Int)=1:=⋯
     simp[h,this]
end
section
variable {C:Cx} (P:Pg C) {k:Nat} {H:Hp}
theorem Eh {H L:Hp} {o:O}:(H++o::L)[H.length]? =some o:=by rw[z10 (z21 _)];simp
theorem B6 {H L:Hp} {o o':O}:(H++o::L).set H.length o'=H++o'::L:=by rw[List.set_append_right _ _ (z21 _)];simp
include P
theorem Pg.sg {L:Hp} {c:Addr} {fs:List (Str×V)} {a:Str} {z:V} {Q:Hp→Prop} (hT:C.T≤H.length) (hk:storeOk (KC C.w.params) c a=true) (hz:decide (fs.length<1000)=true) (h:Q (H++.inst c (jA a z fs)::L)):pB C k (H++.inst c fs::L) (.ref H.length) a z Q:=
 pB.field hT Eh (by rw[P.K];exact hk) (z03 hz) (by rw[B6];exact h)
theorem Pg.Dd {L:Hp} {c:Addr} {fs:List (Str×V)} {a:Str} {o:O} {Q:Hp→Prop} (hT:C.T≤H.length) (hk:storeOk (KC C.w.params) c a=true) (hz:decide (fs.length<1000)=true) (h:Q (H++.inst c (jA a (.ref (H.length+(L.length+1))) fs)::(L++[o]))):pB C k (H++.inst c fs::L++[o]) (.ref H.length) a (.ref (H++.inst c fs::L).length) Q:=by
 have e:(H++.inst c fs::L++[o])=H++.inst c fs::(L++[o]):=by simp
 have e2:(H++O.inst c fs::L).length=H.length+(L.length+1):=by simp
 rw[e,e2];exact P.sg hT hk hz h
theorem Pg.QU {L:Hp} {c:Addr} {fs:List (Str×V)} {a:Str} {Q:Hp→Prop} (hT:C.T≤H.length) (hk:storeOk (KC C.w.params) c a=true) (hz:decide (fs.length<1000)=true)
 (h:Q (H++O.inst c (jA a (.ref (H.length+(L.length+3))) fs)::(L++[O.L []]++[O.L []]++[O.L [V.ref (H.length+(L.length+1)),V.ref (H.length+(L.length+2))]]))):
 pB C k (H++O.inst c fs::L++[O.L []]++[O.L []]++[O.L [V.ref (H++O.inst c fs::L).length,V.ref (H++O.inst c fs::L++[O.L []]).length]]) (.ref H.length) a (.ref (H++O.inst c fs::L++[O.L []]++[O.L []]).length) Q:=by
 have e2:(H++O.inst c fs::L).length=H.length+(L.length+1):=by simp
 have e3:(H++O.inst c fs::L++[O.L []]).length=H.length+(L.length+2):=by simp
 have e4:(H++O.inst c fs::L++[O.L []]++[O.L []]).length=H.length+(L.length+3):=by simp
 rw[e2,e3,e4];have e:(H++O.inst c fs::L++[O.L []]++[O.L []]++[O.L [V.ref (H.length+(L.length+1)),V.ref (H.length+(L.length+2))]])=H++O.inst c fs::(L++[O.L []]++[O.L []]++[O.L [V.ref (H.length+(L.length+1)),V.ref (H.length+(L.length+2))]]):=by simp
 rw[e];exact P.sg hT hk hz h
theorem Pg.uX {F R:Nat} (hF:F≤8) (hR:R≤8):aa C (k+2) (s "Geometry") [.I F,.I R,.bool true,.bool false] H (fun v H'=>v=.ref H.length∧
 H'=H++[.inst 123 (gn F R H.length (H.length+4) (H.length+10)),.L [],.L [],.L [],.L [],.L [],.L [],.L [],.L [.ref (H.length+6),.ref (H.length+7)],.L [],.L []]):=by
 injection C k H F R with P hF hR
 have hFR:F*R≤64:=z20 (Nat.mul_le_mul hF hR) nofun;refine P.ur ?_;rintro-hT;unfold gq;refine P.sg (L:=[]) hT ∅ ∅ (P.sg hT ∅ ∅ (BW.mul (.inl ⋯) (P.sg hT ∅ ∅ ?_)));refine BW.mul (.inl ⋯) (BW.shl ⋯ (by have:(F:Int)*R=((F*R:Nat):Int):=(by push_cast;rfl);omega) nofun (BW.sub (P.sg hT ∅ ∅ ?_)));refine bk.bool ⟨?_,fun e=>by cases e⟩;rintro-_;refine CW.ge (P.sg hT ∅ ∅ (P.sg hT ∅ ∅ ?_));refine⟨by simp,P.Dd hT ∅ ∅ ⟨by simp,P.Dd hT ∅ ∅ ⟨by simp,P.Dd hT ∅ ∅ ⟨by simp,P.Dd hT ∅ ∅ ⟨by simp,P.Dd hT ∅ ∅ ?_⟩⟩⟩⟩⟩;refine⟨by simp,by simp,by simp,P.QU hT ∅ ∅ ⟨by simp,P.Dd hT ∅ ∅ ⟨by simp,P.Dd hT ∅ ∅ ⟨rfl,rfl,?_⟩⟩⟩⟩;have e1:((F:Int)*R).toNat=F*R:=by rw[←Int.natCast_mul];rfl
 rw[e1]
 kernel_rfl
end
structure dP (S:Nat→Prop) (H H':Hp):Prop where
 at_:∀(n:Nat) (o:O),¬S n→H[n]? =some o→H'[n]? =some o
theorem dP.fQ (S:Nat→Prop) (H:Hp):dP S H H:=⟨fun _ _ _ e=>e⟩
theorem dP.trans {S:Nat→Prop} {H H' eG:Hp} (a:dP S H H') (b:dP S H' eG):dP S H eG:=⟨fun n o hs e=>b.at_ n o hs (a.at_ n o hs e)⟩
theorem dP.sub {S S':Nat→Prop} {H H':Hp} (a:dP S H H') (h:∀n,S n→S' n):dP S' H H':=⟨fun n o hs e=>a.at_ n o (fun q=>hs (h n q)) e⟩
theorem Le.x {H H':Hp} (a:Le H H') (S:Nat→Prop):dP S H H':=⟨fun n o _ e=>a.at_ n o e⟩
theorem dP.set {S:Nat→Prop} {H H':Hp} (a:dP S H H') {n:Nat} (hn:S n) (o:O):dP S H (H'.set n o):=⟨fun m u hs e=>by
 rw[List.getElem?_set_ne (fun q=>hs (by rw[←q];exact hn))];exact a.at_ m u hs e⟩
theorem dP.app {S:Nat→Prop} {H H':Hp} (a:dP S H H') (o:O):dP S H (H'++[o]):=a.trans ((Le.app H' o).x S)
theorem dP.le {S:Nat→Prop} {H₀ H H':Hp} (a:dP S H H') (l:Le H₀ H) (hs:∀n,n<H₀.length→¬S n):Le H₀ H':=⟨fun n o e=>a.at_ n o (hs n (z06.mp e).1) (l.at_ n o e)⟩
theorem cD.x {F R g kga rla:Nat} {S:Nat→Prop} {H H':Hp} (h:cD F R g kga rla H) (l:dP S H H') (hs:¬S g):cD F R g kga rla H':=l.at_ _ _ hs h
section
variable {C:Cx} (P:Pg C) {k:Nat} {H:Hp} {F R g kga rla:Nat}
include P
theorem Pg.ym (Pj:1≤F) (hF:F≤8) (hR:R≤8) (hT:C.T≤g) (G:cD F R g kga rla H) (h1:H[g+1]? =some (.L [])) (h2:H[g+2]? =some (.L [])):
 aa C (k+1) (s "add_masks") [.ref g] H (fun v H'=>v=.none∧dP (fun n=>n=g+1∨n=g+2) H H'∧H'[g+1]? =some (.L (il ((List.range F).map fun f=>kL F R*2^f)))∧H'[g+2]? =some (.L (il ((List.range R).map fun r=>ko F*2^(r*F))))):=by
 injection C k H F R g kga rla with P Pj hF hR hT G h1 h2
 have hrow:ko F<2^9:=by
  have:F=1∨F=2∨F=3∨F=4∨F=5∨F=6∨F=7∨F=8:=⋯
  rcases this with rfl|rfl|rfl|rfl|rfl|rfl|rfl|rfl<;>decide
 have NB:0≤ko F:=by
  have:F=1∨F=2∨F=3∨F=4∨F=5∨F=6∨F=7∨F=8:=⋯
  rcases this with rfl|rfl|rfl|rfl|rfl|rfl|rfl|rfl<;>decide
 have mulFR:∀i,i<R→i*F≤64:=fun i hi=>z20 (Nat.mul_le_mul (Nat.le_of_lt (z19 hi hR)) hF) nofun;refine P.r8 ?_;rintro-_;unfold lQ;refine au ?_;refine P.a_ G (BW.shl ⋯ ⋯ nofun (BW.sub (au ?_)));have e0:(1*2^(F:Int).toNat-1:Int)=ko F:=rfl;rw[e0];refine cq P R (fun i ρ H'=>dP (fun n=>n=g+1∨n=g+2) H H'∧H'[g+1]? =some (.L [])∧H'[g+2]? =some (.L (il ((List.range i).map fun r=>ko F*2^(r*F))))∧
  ∃v3,ρ=[some (.ref g),some (.I (ko F)),some (.I (kL F i)),v3,none,none]) ?_ ⋯ ?_ ?_
 · exact P.f' G ⟨rfl,(Le.app H _).x _,ai _ h1,by rw[List.range_zero];exact ai _ h2,_,rfl⟩
 · rintro-i ρ H' hi ⟨lx,a1,a2,v3,rfl⟩;have G':=G.x lx ⋯;have lm:(i:Int)*F=((i*F:Nat):Int):=by push_cast;rfl
   refine cC ?_;refine P.z2 G' ⟨_,_,rfl,a2,P.a_ G' (BW.mul (.inl ⋯) (BW.shl ⋯ (by have:=mulFR i hi;omega) ⋯ (cR.append ⋯ a2 (by rw[aX];simp;omega) ⟨rfl,aY rfl ?_⟩)))⟩;refine P.a_ (G'.x (dP.set (S:=fun n=>n=g+1∨n=g+2) (dP.fQ _ _) (.inr rfl) _) ⋯) (BW.mul (.inl ⋯) (BW.shl ⋯ (by have:=mulFR i hi;omega) nofun (IW.or (az ?_))));rw[lm,z02];refine⟨lx.set (.inr rfl) _,ae _ ⋯ a1,?_,_,rfl⟩;rw[List.range_succ,List.map_append];have:il (List.map (fun r=>ko F*2^(r*F)) (List.range i)++List.map (fun r=>ko F*2^(r*F)) [i])=il (List.map (fun r=>ko F*2^(r*F)) (List.range i))++[V.I (ko F*2^(i*F))]:=by simp[il]
   rw[this];exact get_set _ a2
 · rintro-ρ H' ⟨lx,a1,a2,v3,rfl⟩;have G':=G.x lx ⋯;refine cq P F (fun i ρ eG=>dP (fun n=>n=g+1∨n=g+2) H eG∧eG[g+1]? =some (.L (il ((List.range i).map fun f=>kL F R*2^f)))∧eG[g+2]? =some (.L (il ((List.range R).map fun r=>ko F*2^(r*F))))∧
    ∃v3 v4,ρ=[some (.ref g),some (.I (ko F)),some (.I (kL F R)),v3,v4,none]) ?_ ⋯ ?_ ?_
   · exact P.a_ G' ⟨rfl,lx.app _,by rw[List.range_zero];exact ai _ a1,ai _ a2,_,_,rfl⟩
   · rintro-i ρ eG hi ⟨lx,a1,a2,v3,v4,rfl⟩;have G':=G.x lx ⋯;refine cC ?_;have hcol:(kL F R).natAbs<2^64:=by
      have h:∀F'∈List.range 9,∀R'∈List.range 9,(kL F' R').natAbs<2^64:=by decide+kernel
      exact h F (by simp;omega) R (by simp;omega)
     refine P.mF G' ⟨_,_,rfl,a1,BW.shl ⋯ ⋯ hcol (cR.append ⋯ a1 (by rw[aX];simp;omega) ⟨rfl,az ⟨lx.set (.inl rfl) _,?_,ae _ ⋯ a2,_,_,rfl⟩⟩)⟩;rw[List.range_succ,List.map_append];have:il (List.map (fun f=>kL F R*2^f) (List.range i)++List.map (fun f=>kL F R*2^f) [i])=il (List.map (fun f=>kL F R*2^f) (List.range i))++[V.I (kL F R*2^i)]:=by simp[il]
     rw[this];exact get_set _ a1
   · rintro-ρ eG ⟨lx,a1,a2,v3,v4,rfl⟩;exact az ⟨rfl,lx,a1,a2⟩
end
structure Sz (F R:Nat):Prop where
 f1:3≤F
 f2:F≤8
 r1:3≤R
 r2:R≤6
theorem Sz.mem {F R:Nat} (z:Sz F R):(F,R)∈iS:=fT z.f1 z.f2 z.r1 z.r2
theorem Sz.n {F R:Nat} (z:Sz F R):F*R≤48:=z20 (Nat.mul_le_mul z.f2 z.r2) nofun
theorem Sz.n0 {F R:Nat} (z:Sz F R):9≤F*R:=z20 nofun (Nat.mul_le_mul z.f1 z.r1)
theorem Sz.col {F R t:Nat} (z:Sz F R):t % F<F:=Nat.mod_lt _ (by have:=z.f1;omega)
theorem Sz.row {F R t:Nat} (z:Sz F R) (h:t<F*R):t/F<R:=z30 h
theorem Sz.j7 {F R:Nat} (z:Sz F R):(∀f,f<F→kL F R*2^f=bY F R f)∧(∀r,r<R→ko F*2^(r*F)=km F R r)∧(1*2^(F*R)-1:Int)=eQ F R:=by
 have h:=List.all_eq_true.mp yo (F,R) z.mem;unfold xV at h;simp only[z01,List.all_eq_true,List.mem_range,beq_iff_eq]at h;exact⟨h.1.1,h.1.2,h.2⟩
structure dK (F R g:Nat) (H:Hp):Prop where
 fm:H[g+1]? =some (.L (il ((List.range F).map (bY F R))))
 rm:H[g+2]? =some (.L (il ((List.range R).map (km F R))))
theorem dK.le {F R g:Nat} {H H':Hp} (h:dK F R g H) (l:Le H H'):dK F R g H':=⟨l.at_ _ _ h.fm,l.at_ _ _ h.rm⟩
theorem dK.x {F R g:Nat} {S:Nat→Prop} {H H':Hp} (h:dK F R g H) (l:dP S H H') (h1:¬S (g+1)) (h2:¬S (g+2)):dK F R g H':=⟨l.at_ _ _ h1 h.fm,l.at_ _ _ h2 h.rm⟩
theorem d8 {n:Nat} {f:Nat→Int} {i:Nat} (h:i<n):(il ((List.range n).map f))[i]? =some (.I (f i)):=DN (by rw[z11,List.getElem?_range h];rfl)
section
variable {C:Cx} (P:Pg C) {k:Nat} {H:Hp} {F R g kga rla:Nat}
theorem dK.file {Q:V→Hp→Prop} (M:dK F R g H) {f:Nat} {i:Int} (hf:f<F) (e:i=f) (hF:F≤1000) (h:Q (.I (bY F R f)) H):cz C k H (.ref (g+1)) (.I i) Q:=by
 subst e;exact cz.list M.fm ⋯ ⋯ (by exact d8 hf) h
theorem dK.rank {Q:V→Hp→Prop} (M:dK F R g H) {r:Nat} {i:Int} (hr:r<R) (e:i=r) (hR:R≤1000) (h:Q (.I (km F R r)) H):cz C k H (.ref (g+2)) (.I i) Q:=by
 subst e;exact cz.list M.rm ⋯ ⋯ (by exact d8 hr) h
theorem FU (d:Nat): -1≤dX d∧dX d≤1:=by
 by_cases h:d<8
 · rcases BQ h with rfl|rfl|rfl|rfl|rfl|rfl|rfl|rfl<;>decide
 · have:dX d=0:=by unfold dX;rw[List.getD_eq_getElem?_getD,List.getElem?_eq_none (by simp;omega)];rfl
   omega
theorem GW (d:Nat): -1≤dY d∧dY d≤1:=by
 by_cases h:d<8
 · rcases BQ h with rfl|rfl|rfl|rfl|rfl|rfl|rfl|rfl<;>decide
 · have:dY d=0:=by unfold dY;rw[List.getD_eq_getElem?_getD,List.getElem?_eq_none (by simp;omega)];rfl
   omega
include P
theorem Pg.qg (z:Sz F R) (st:Le dJ H) {d:Nat} (hd:d<8) (G:cD F R g kga rla H) (M:dK F R g H):
 aa C (k+1) (s "inner_squares") [.ref g,.I d] H (fW (.I (bi (F*R) (inner F R d))) H):=by
 have z':=z;obtain⟨f1,f2,r1,r2⟩:=z';refine P.kZ fun _=>?_;unfold gw;refine au ?_;refine dZ ?_;refine P.Bj st hd (CW.gt (bk.bool ⟨fun aO H'=>H'=H∧aO=[some (.ref g),some (.I d),some (.I (if 0<dX d then bY F R (F-1)else 0)),none,none],fun e K hK=>?_,fun e K hK=>?_,?_⟩))
 · refine aY rfl ?_;refine P.mF G (P.a_ G (BW.sub (M.file (f:=F-1) ⋯ ⋯ ⋯ (IW.or (az (hK _ _ ⟨rfl,?_⟩))))));have:Builtin.bitOr 0 (bY F R (F-1))=bY F R (F-1):=aE fun i=>by rw[bt,bU];rfl
   rw[if_pos (z03 e),this];rfl
 · exact az (hK _ _ ⟨rfl,by rw[if_neg (z04 e)];rfl⟩)
 rintro aO H' ⟨rfl,rfl⟩;refine dZ ?_;refine P.Bj st hd (CW.lt (bk.bool ⟨fun aO eG=>eG=H'∧aO=[some (.ref g),some (.I d),some (.I (Builtin.bitOr (if 0<dX d then bY F R (F-1)else 0) (if dX d<0 then bY F R 0 else 0))),none,none],fun e K hK=>?_,fun e K hK=>?_,?_⟩))
 · refine aY rfl ?_;refine P.mF G (M.file (f:=0) ⋯ ⋯ ⋯ (IW.or (az (hK _ _ ⟨rfl,?_⟩))));rw[if_pos (z03 e)];rfl
 · refine az (hK _ _ ⟨rfl,?_⟩);have:Builtin.bitOr (if 0<dX d then bY F R (F-1)else 0) 0=(if 0<dX d then bY F R (F-1)else 0):=aE fun i=>by rw[bt,bU,Bool.or_false]
   rw[if_neg (z04 e),this]
 rintro aO eG ⟨rfl,rfl⟩;refine dZ ?_;generalize Pf:Builtin.bitOr (if 0<dX d then bY F R (F-1)else 0) (if dX d<0 then bY F R 0 else 0)=E1;refine P.yd st hd (CW.gt (bk.bool ⟨fun aO H'=>H'=eG∧aO=[some (.ref g),some (.I d),some (.I (Builtin.bitOr E1 (if 0<dY d then km F R (R-1)else 0))),none,none],fun e K hK=>?_,fun e K hK=>?_,?_⟩))
 · refine aY rfl ?_;refine P.z2 G (P.f' G (BW.sub (M.rank (r:=R-1) ⋯ ⋯ ⋯ (IW.or (az (hK _ _ ⟨rfl,?_⟩))))));rw[if_pos (z03 e)];rfl
 · refine az (hK _ _ ⟨rfl,?_⟩);have:Builtin.bitOr E1 0=E1:=aE fun i=>by rw[bt,bU,Bool.or_false]
   rw[if_neg (z04 e),this]
 rintro aO H' ⟨rfl,rfl⟩;refine dZ ?_;generalize Ph:Builtin.bitOr E1 (if 0<dY d then km F R (R-1)else 0)=E2;refine P.yd st hd (CW.lt (bk.bool ⟨fun aO eG=>eG=H'∧aO=[some (.ref g),some (.I d),some (.I (Builtin.bitOr E2 (if dY d<0 then km F R 0 else 0))),none,none],fun e K hK=>?_,fun e K hK=>?_,?_⟩))
 · refine aY rfl ?_;refine P.z2 G (M.rank (r:=0) ⋯ ⋯ ⋯ (IW.or (az (hK _ _ ⟨rfl,?_⟩))));rw[if_pos (z03 e)];rfl
 · refine az (hK _ _ ⟨rfl,?_⟩);have:Builtin.bitOr E2 0=E2:=aE fun i=>by rw[bt,bU,Bool.or_false]
   rw[if_neg (z04 e),this]
 rintro aO eG ⟨rfl,rfl⟩;refine aM ?_;refine P.gN G (UW.inv (BW.and ⟨?_,rfl⟩))
 congr 1
 rw[z.j7.2.2,←Ph,←Pf];refine aE fun i=>?_;have hx:=FU d;have hy:=GW d;have q1:∀(c:Prop) [Decidable c] (x:Int),tb (if c then x else 0) i=(decide c&&tb x i):=fun c _ x=>by by_cases h:c<;>simp[h,bU]
 simp only[aL,bL,bt,q1];unfold eQ bY km;simp only[aq]
 by_cases hi:i<F*R
 · have c1:=z.col (t:=i);have c2:=z.row hi;unfold inner;simp only[hi,decide_true,Bool.true_and];generalize i % F=a at*;generalize i/F=b at*;rw[z07];simp only[Bool.not_eq_true',Bool.or_eq_false_iff,Bool.and_eq_false_iff,z00,decide_eq_false_iff_not,beq_eq_false_iff_ne,ne_eq];rw[and_assoc (c:=¬dY d<0∨¬b=0)];exact(and_congr (zH z.f1 hx.1 hx.2 c1) (zH z.r1 hy.1 hy.2 c2)).trans and_assoc
 · simp[hi]
end
open PySem
def cut (p:Nat→Bool):List Nat→List Nat
 |[]=>[]
 |t::ts=>t::if p t then[]else cut p ts
theorem cO {p:Nat→Bool}:∀{L:List Nat} {t:Nat},t∈cut p L→t∈L
 |u::L,t,h=>by
  unfold cut at h;rcases List.mem_cons.mp h with rfl|h
  · exact List.mem_cons_self
  · split at h
    · cases h
    · exact z14 _ (cO h)
theorem hZ {p q:Nat→Bool}:∀{L:List Nat},(∀t∈L,p t=q t)→cut p L=cut q L
 |[],_=>rfl
 |u::L,h=>by
  unfold cut;rw[h u List.mem_cons_self,hZ fun t ht=>h t (z14 _ ht)]
theorem h_ {p:Nat→Bool}:∀{L:List Nat},L.Nodup→(cut p L).Nodup
 |[],_=>List.nodup_nil
 |u::L,h=>by
  unfold cut;have:=List.nodup_cons.mp h
  split
  · simp
  · exact List.nodup_cons.mpr ⟨fun q=>this.1 (cO q),h_ this.2⟩
theorem s9 {r:Nat→Nat→Prop} (as:∀a b,r a b→¬r b a) {p:Nat→Bool}:∀{L:List Nat},L.Pairwise r→∀t,t∈cut p L↔t∈L∧∀u∈L,r u t→p u=false
 |[],_,t=>by simp[cut]
 |v::L,h,t=>by
  obtain⟨h1,h2⟩:=List.pairwise_cons.mp h;have irr:∀a,¬r a a:=fun a q=>as a a q q;have ih:=s9 as (p:=p) h2 t;unfold cut
  constructor
  · intro q;rcases List.mem_cons.mp q with rfl|q
    · refine⟨List.mem_cons_self,fun u hu hr=>?_⟩;rcases List.mem_cons.mp hu with rfl|hu
      · exact(irr _ hr).elim
      · exact(as _ _ hr (h1 u hu)).elim
    · split at q
      · cases q
      · rename_i hp
        obtain⟨q1,q2⟩:=ih.mp q;refine⟨z14 _ q1,fun u hu hr=>?_⟩;rcases List.mem_cons.mp hu with rfl|hu
        · simpa using hp
        · exact q2 u hu hr
  · rintro⟨q1,q2⟩;rcases List.mem_cons.mp q1 with rfl|q1
    · exact List.mem_cons_self
    · have:=q2 v List.mem_cons_self (h1 t q1);rw[this];refine z14 _ ?_;rw[if_neg nofun];exact ih.mpr ⟨q1,fun u hu hr=>q2 u (z14 _ hu) hr⟩
theorem lC {F R:Nat} {dx dy:Int}:∀(k:Nat) (f r:Int),(0<dy*F+dx→(∀t∈cy F R dx dy k f r,r*F+f≤(t:Int))∧(cy F R dx dy k f r).Pairwise (· < ·))∧(dy*F+dx<0→(∀t∈cy F R dx dy k f r,(t:Int)≤r*F+f)∧(cy F R dx dy k f r).Pairwise (· > ·))
 |0,f,r=>by simp[cy]
 |k+1,f,r=>by
  have ih:=lC (F:=F) (R:=R) (dx:=dx) (dy:=dy) k (f+dx) (r+dy);unfold cy
  split
  · rename_i hb
    have e:(r+dy)*F+(f+dx)=r*F+f+(dy*F+dx):=by rw[Int.add_mul];omega
    have nn:0≤r*F+f:=Int.add_nonneg (Int.mul_nonneg hb.2.2.1 ⋯) hb.1;rw[e]at ih;refine⟨fun h=>?_,fun h=>?_⟩
    · obtain⟨a,b⟩:=ih.1 h;refine⟨fun t ht=>?_,List.pairwise_cons.mpr ⟨fun t ht=>?_,b⟩⟩
      · rcases List.mem_cons.mp ht with rfl|ht
        · omega
        · have:=a t ht;omega
      · have:=a t ht;omega
    · obtain⟨a,b⟩:=ih.2 h;refine⟨fun t ht=>?_,List.pairwise_cons.mpr ⟨fun t ht=>?_,b⟩⟩
      · rcases List.mem_cons.mp ht with rfl|ht
        · omega
        · have:=a t ht;omega
      · have:=a t ht;show t<_;omega
  · simp
theorem iZ {F d:Nat} (hF:3≤F) (hd:d<8):(cp d=true→0<dY d*F+dX d)∧(cp d=false→dY d*F+dX d<0):=by
 injection F d with hF hd
 have:d=0∨d=1∨d=2∨d=3∨d=4∨d=5∨d=6∨d=7:=⋯
 rcases this with rfl|rfl|rfl|rfl|rfl|rfl|rfl|rfl<;>simp[cp,dX,dY]<;>omega
theorem w8 {F R d t:Nat} (hF:3≤F) (hd:d<8) (h:cp d=true):(bB F R d t).Pairwise (· < ·):=((lC 8 _ _).1 ((iZ hF hd).1 h)).2
theorem o7 {F R d t:Nat} (hF:3≤F) (hd:d<8) (h:cp d=false):(bB F R d t).Pairwise (· > ·):=((lC 8 _ _).2 ((iZ hF hd).2 h)).2
theorem fO {F R d t:Nat} (hF:3≤F) (hd:d<8):(bB F R d t).Nodup:=by
 cases h:cp d with
 |true=>exact(w8 hF hd h).imp fun h=>Nat.ne_of_lt h
 |false=>exact(o7 hF hd h).imp fun h=>Nat.ne_of_gt h
theorem CQ {x:Int} (h:0<x):∃k,tb x k=true∧(∀i,i<k→tb x i=false)∧∀i,tb (Builtin.bitXor x (x-1)) i=decide (i≤k):=by
 injection x with h
 obtain(⟨k,t1,t2,t3,t4⟩):=s7 h;refine⟨k,t1,t2,?_⟩;rintro-i;have hm:(-x)=Builtin.bitNot (x-1):=by unfold Builtin.bitNot;omega
 have h4:∀i,(tb x i&&!tb (x-1) i)=decide (i=k):=by
  rintro-i;rw[←dR,←t4,hm,aL,bL]
 have h3:∀i,(tb x i&&tb (x-1) i)=(tb x i&&decide (i≠k)):=fun i=>by rw[←t3,aL]
 have low:∀i,i<k→tb (x-1) i=true:=by
  have ex:∃y,x=y*2^k:=⟨x.fdiv (2^k),aE<|by
   rintro-i;rw[hE,eD]
   by_cases hi:k≤i
   · simp[hi]
   · simp[hi,t2 i ⋯]⟩
  obtain(⟨y,hy⟩):=ex;rintro-i hi;have e:x-1=Builtin.bitNot ((-y)*2^k):=by unfold Builtin.bitNot;rw[hy,Int.neg_mul];omega
  rw[e,bL,hE];have:¬k≤i:=⋯
  simp[this]
 have high:∀i,k<i→tb (x-1) i=tb x i:=by
  rintro-i hi;have a:=h4 i;have b:=h3 i;have ne:¬i=k:=⋯
  simp only[ne,decide_false,ne_eq,not_false_eq_true,decide_true,Bool.and_true]at a b
  cases hx:tb x i with
  |true=>rw[hx]at a;simpa using a
  |false=>
   have dj:Builtin.bitAnd (Builtin.bitAnd x (x-1)) (2^k-1)=0:=aE<|by
    rintro-j;have e1:(2:Int)^k-1=Builtin.bitNot ((-1)*2^k):=by unfold Builtin.bitNot;omega
    rw[aL,t3,e1,bL,hE,bU]
    by_cases hj:k≤j
    · simp[hj,ye]
    · simp[hj,t2 j ⋯]
   have sum:Builtin.bitOr (Builtin.bitAnd x (x-1)) (2^k-1)=x-1:=by
    rw[PyProof.Rows.bitOr_and,dj];have:=PyProof.Rows.bitAnd_not x (x-1);rw[←hm,t4]at this;omega
   rw[←sum,bt,t3,hx];have e1:(2:Int)^k-1=Builtin.bitNot ((-1)*2^k):=by unfold Builtin.bitNot;omega
   rw[e1,bL,hE];have:k≤i:=⋯
   simp[this,ye]
 rw[Bo];rcases Nat.lt_trichotomy i k with hi|hi|hi
 · rw[t2 i hi,low i hi];simp[Nat.le_of_lt hi]
 · subst hi;have a:=h4 i;simp only[decide_true]at a;rw[t1]at a⊢;have:tb (x-1) i=false:=by simpa using a
   rw[this];simp
 · rw[high i hi];have:¬i≤k:=⋯
   simp[this]
def jo (x y:Int) (w:Nat):Prop:=∀i,tb x i=true↔∃j,j<w∧tb y (i+j)=true
theorem jo.one (y:Int):jo y y 1:=by
 intro i
 constructor
 · intro h;exact⟨0,⋯,h⟩
 · rintro⟨j,hj,h⟩;have:j=0:=⋯
   subst this;exact h
theorem jo.step {x y:Int} {w:Nat} (h:jo x y w):jo (Builtin.bitOr x (x.fdiv (2^w))) y (w+w):=fun i=>by
 rw[bt,eD,Bool.or_eq_true,h i,h (i+w)]
 constructor
 · rintro(⟨j,hj,e⟩|⟨j,hj,e⟩)
   · exact⟨j,⋯,e⟩
   · exact⟨w+j,⋯,by rw[←Nat.add_assoc];exact e⟩
 · rintro⟨j,hj,e⟩
   by_cases hw:j<w
   · exact .inl ⟨j,hw,e⟩
   · exact .inr ⟨j-w,⋯,by rw[show i+w+(j-w)=i+j by omega];exact e⟩
def gh (F R d t:Nat) (p:Nat→Bool):Int:=bi (F*R) (fun u=>decide (u∈cut p (bB F R d t)))
theorem xd {F R d t:Nat} {p:Nat→Bool} (h:Builtin.bitAnd (cP F R d t) (bi (F*R) p)=0):cP F R d t=gh F R d t p:=by
 have np:∀u∈bB F R d t,p u=false:=fun u hu=>by
  have:=congrArg (tb · u) h;simp only[aL,bU]at this;unfold cP at this;rw[aq,aq]at this
  simpa [bT hu,hu] using this
 unfold cP gh;refine bK fun u _=>?_;have:cut p (bB F R d t)=cut (fun _=>false) (bB F R d t):=hZ np;rw[this];have all:∀L:List Nat,cut (fun _=>false) L=L:=fun L=>by
  induction L with
  |nil=>rfl
  |cons a L ih=>unfold cut;rw[ih];rfl
 rw[all]
theorem kz {F R d t:Nat} {p:Nat→Bool} (i:Nat):tb (Builtin.bitAnd (cP F R d t) (bi (F*R) p)) i=(decide (i∈bB F R d t)&&p i):=by
 unfold cP;rw[aL,aq,aq]
 by_cases h:i∈bB F R d t
 · simp[h,bT h]
 · simp[h]
theorem Bc {F R d t:Nat} {p:Nat→Bool} (hF:3≤F) (hd:d<8) (hg:cp d=true) (h:Builtin.bitAnd (cP F R d t) (bi (F*R) p)≠0):
 Builtin.bitAnd (cP F R d t) (Builtin.bitXor (Builtin.bitAnd (cP F R d t) (bi (F*R) p)) (Builtin.bitAnd (cP F R d t) (bi (F*R) p)-1))=gh F R d t p:=by
 injection F R d t p with hF hd hg h
 have pos:0<Builtin.bitAnd (cP F R d t) (bi (F*R) p):=by
  have:0≤Builtin.bitAnd (cP F R d t) (bi (F*R) p):=fe (gL _ _);omega
 obtain(⟨k,t1,t2,t3⟩):=CQ pos;rw[kz]at t1;simp only[z01,z00]at t1;refine aE ?_;rintro-i;rw[aL,t3];unfold gh cP;rw[aq,aq];have mc:=s9 (r:=fun a b=>a<b) (fun a b h=>⋯) (p:=p) (w8 (R:=R) (t:=t) hF hd hg) i
 by_cases hi:i∈bB F R d t
 · simp only[hi,bT hi,decide_true,Bool.and_self,Bool.true_and]
   congr 1
   rw[mc];refine propext ⟨?_,?_⟩
   · rintro-hk;refine⟨hi,?_⟩;rintro-u hu hlt;have:=t2 u ⋯;rw[kz]at this
     simpa [hu] using this
   · rintro-⟨_,q⟩;refine Nat.le_of_not_lt ?_;rintro-hlt;have:=q k t1.1 hlt;rw[t1.2]at this;cases this
 · have:i∉cut p (bB F R d t):=fun q=>hi (cO q);simp[hi,this]
theorem xc {F R d t:Nat} {p:Nat→Bool} {x:Int} (hn:F*R≤64) (hF:3≤F) (hd:d<8) (hg:cp d=false) (h:jo x ((Builtin.bitAnd (cP F R d t) (bi (F*R) p)).fdiv (2^1)) 64):
 Builtin.bitAnd (cP F R d t) (Builtin.bitNot x)=gh F R d t p:=by
 injection F R d t p x with hn hF hd hg h
 refine aE ?_;rintro-i;rw[aL,bL];unfold gh cP;rw[aq,aq];have mc:=s9 (r:=fun a b=>a>b) (fun a b h=>⋯) (p:=p) (o7 (R:=R) (t:=t) hF hd hg) i
 by_cases hi:i∈bB F R d t
 · simp only[hi,bT hi,decide_true,Bool.and_self,Bool.true_and];have key:tb x i=true↔∃u∈bB F R d t,i<u∧p u=true:=by
    rw[h i]
    constructor
    · rintro-⟨j,hj,e⟩;rw[eD,kz]at e;simp only[z01,z00]at e;exact⟨_,e.1,⋯,e.2⟩
    · rintro-⟨u,hu,hlt,hp⟩;have:=bT hu;refine⟨u-i-1,slt (slt (z19 this hn)),?_⟩;rw[eD,kz,show i+(u-i-1)+1=u by omega];simp[hu,hp]
   have:(!tb x i)=decide (¬∃u∈bB F R d t,i<u∧p u=true):=by
    by_cases q:tb x i=true
    · rw[q];simp only[Bool.not_true];symm;exact decide_eq_false (fun z=>z (key.mp q))
    · rw[Bool.not_eq_true]at q;rw[q];symm;exact decide_eq_true fun z=>by rw[key.mpr z]at q;cases q
   rw[this]
   congr 1
   rw[mc];refine propext ⟨?_,?_⟩
   · rintro-q;refine⟨hi,?_⟩;rintro-u hu hlt
     cases hp:p u with
     |false=>rfl
     |true=>exact(q ⟨u,hu,hlt,hp⟩).elim
   · rintro-⟨_,q⟩ ⟨u,hu,hlt,hp⟩;have:=q u hu hlt;rw[hp]at this;cases this
 · have:i∉cut p (bB F R d t):=fun q=>hi (cO q);simp[hi,this]
open PySem
theorem Bh {F:Nat} {f r:Int} (h1:0≤f) (h2:f<F) (h3:0≤r):((((r*F+f).toNat % F:Nat)):Int)=f∧((((r*F+f).toNat/F:Nat)):Int)=r:=by
 obtain⟨a,rfl⟩:=z15 h1;obtain⟨b,rfl⟩:=z15 h3;have e:((b:Int)*F+a).toNat=a+F*b:=by
  have:(b:Int)*F+a=((a+F*b:Nat):Int):=by push_cast;rw[Int.mul_comm];omega
  rw[this];rfl
 have hF:0<F:=⋯
 have ha:a<F:=⋯
 rw[e,Nat.add_mul_mod_self_left,Nat.mod_eq_of_lt ha,Nat.add_mul_div_left _ _ hF,Nat.div_eq_of_lt ha];omega
theorem jy {F R t:Nat} (h:t<F*R):((((t/F:Nat):Int))*F+((t % F:Nat):Int)).toNat=t:=by
 have:(((t/F:Nat):Int))*F+((t % F:Nat):Int)=(t:Int):=by
  have:=Nat.div_add_mod t F;have h2:((F*(t/F)+t % F:Nat):Int)=(t:Int):=by rw[this]
  push_cast at h2
  push_cast
  rw[Int.mul_comm];exact h2
 rw[this];rfl
theorem q_ {F R:Nat} {dx dy:Int}:∀(k:Nat) (f r:Int),∀t∈cy F R dx dy k f r,∃j:Int,0≤j∧((t % F:Nat):Int)=f+j*dx∧((t/F:Nat):Int)=r+j*dy
 |0,f,r,t,h=>by simp[cy]at h
 |k+1,f,r,t,h=>by
  unfold cy at h
  split at h
  · rename_i hb
    rcases List.mem_cons.mp h with rfl|h
    · have:=Bh hb.1 hb.2.1 hb.2.2.1;exact⟨0,⋯,by rw[this.1];omega,by rw[this.2];omega⟩
    · obtain⟨j,h1,h2,h3⟩:=q_ k _ _ t h;exact⟨j+1,⋯,by rw[h2,Int.add_mul];omega,by rw[h3,Int.add_mul];omega⟩
  · cases h
theorem vn {F R:Nat} {dx dy:Int}:∀(k:Nat) (f r:Int) (j:Nat),j<k→(∀i:Nat,i≤j→0≤f+i*dx∧f+i*dx<F∧0≤r+i*dy∧r+i*dy<R)→((r+j*dy)*F+(f+j*dx)).toNat∈cy F R dx dy k f r
 |0,f,r,j,h,_=>⋯
 |k+1,f,r,j,h,ob=>by
  have h0:=ob 0 ⋯;simp only[Int.natCast_zero,Int.zero_mul,Int.add_zero]at h0;unfold cy;rw[if_pos h0]
  cases j with
  |zero=>simp
  |succ j=>
   refine z14 _ ?_;have ih:=vn (F:=F) (R:=R) (dx:=dx) (dy:=dy) k (f+dx) (r+dy) j ⋯ fun i hi=>by
    have:=ob (i+1) ⋯;have e1:f+dx+i*dx=f+((i+1:Nat):Int)*dx:=by push_cast;rw[Int.add_mul];omega
    have e2:r+dy+i*dy=r+((i+1:Nat):Int)*dy:=by push_cast;rw[Int.add_mul];omega
    rw[e1,e2];exact this
   have e1:f+dx+j*dx=f+((j+1:Nat):Int)*dx:=by push_cast;rw[Int.add_mul];omega
   have e2:r+dy+j*dy=r+((j+1:Nat):Int)*dy:=by push_cast;rw[Int.add_mul];omega
   rw[e1,e2]at ih;exact ih
theorem J2 {d:Nat} (h:d<8):(dX d=0∧dY d=1)∨(dX d=1∧dY d=0)∨(dX d=0∧dY d= -1)∨(dX d= -1∧dY d=0)∨(dX d=1∧dY d=1)∨(dX d=1∧dY d= -1)∨(dX d= -1∧dY d= -1)∨(dX d= -1∧dY d=1):=by
 injection d with h
 have:d=0∨d=1∨d=2∨d=3∨d=4∨d=5∨d=6∨d=7:=⋯
 rcases this with rfl|rfl|rfl|rfl|rfl|rfl|rfl|rfl<;>decide
theorem Jm (a b:Int):a+b-a=b:=⋯
theorem MW (a b:Int):a+(b-a)=b:=⋯
theorem De {x:Int} (h: -1≤x∧x≤1):x= -1∨x=0∨x=1:=⋯
theorem A_ {k j a b:Int} (hk:1≤k) (hj:1≤j) (ha: -1≤a∧a≤1) (hb: -1≤b∧b≤1) (h:k*a=j*b):a=b:=by
 rcases De ha with rfl|rfl|rfl<;>rcases De hb with rfl|rfl|rfl<;>first|rfl|(exfalso;omega)
theorem zI {x x' F j i:Nat} {a:Int} (ha: -1≤a∧a≤1) (hx:x<F) (EO:x'<F) (e:(x':Int)=x+((j+1:Nat):Int)*a) (hi:i≤j):0≤(x:Int)+a+i*a∧(x:Int)+a+i*a<F:=by
 rcases De ha with rfl|rfl|rfl<;>omega
theorem GL {x x' F j:Nat} {a:Int} (ha: -1≤a∧a≤1) (h1:a*a=1) (hx:x<F) (EO:x'<F) (e:(x':Int)=x+((j+1:Nat):Int)*a):j<F:=by
 rcases De ha with rfl|rfl|rfl
 · omega
 · cases h1
 · omega
theorem dd:∀d,d<8→dX d*dX d=1∨dY d*dY d=1:=by decide
theorem J1:∀d,d<8→∀d',d'<8→dX d=dX d'→dY d=dY d'→d=d':=by decide+kernel
theorem u7 {a b p:Int} (h:p*p=1) (e:a*p=b*p):a=b:=by
 rw[←Int.mul_one a,←h,←Int.mul_assoc,e,Int.mul_assoc,h,Int.mul_one]
theorem Lk {u v p q:Int} (h:p*p=1∨q*q=1):u*q=v*p↔∃m,u=m*p∧v=m*q:=by
 constructor
 · intro e;rcases h with h|h
   · exact⟨u*p,by rw[Int.mul_assoc,h,Int.mul_one],by rw[Int.mul_right_comm,e,Int.mul_assoc,h,Int.mul_one]⟩
   · exact⟨v*q,by rw[Int.mul_right_comm,←e,Int.mul_assoc,h,Int.mul_one],by rw[Int.mul_assoc,h,Int.mul_one]⟩
 · rintro⟨m,rfl,rfl⟩;exact Int.mul_right_comm ..
theorem dG {F R:Nat} (z:Sz F R) {d a t:Nat} (hd:d<8) (ha:a<F*R):t∈bB F R d a↔t<F*R∧∃k:Int,1≤k∧((t % F:Nat):Int)=((a % F:Nat):Int)+k*dX d∧((t/F:Nat):Int)=((a/F:Nat):Int)+k*dY d:=by
 injection F R d a t with z hd ha
 constructor
 · rintro-h;refine⟨bT h,?_⟩;obtain(⟨j,h1,h2,h3⟩):=q_ _ _ _ t h;exact⟨j+1,⋯,by rw[h2,Int.add_mul];omega,by rw[h3,Int.add_mul];omega⟩
 · rintro-⟨ht,k,hk,h1,h2⟩;have f2:=z.f2;have r2:=z.r2;have c1:=z.col (t:=a);have c2:=z.row ha;have c3:=z.col (t:=t);have c4:=z.row ht;obtain(⟨j,rfl⟩):∃j:Nat,k=((j+1:Nat):Int):=⟨(k-1).toNat,⋯⟩;have k1:j<8:=(dd d hd).elim (fun h=>z19 (GL (FU d) h c1 c3 h1) f2) (fun h=>z19 (GL (GW d) h c2 c4 h2) (z20 r2 nofun));have k2:∀i:Nat,i≤j→0≤((a % F:Nat):Int)+dX d+i*dX d∧((a % F:Nat):Int)+dX d+i*dX d<F∧0≤((a/F:Nat):Int)+dY d+i*dY d∧((a/F:Nat):Int)+dY d+i*dY d<R:=fun i hi=>
    ⟨(zI (FU d) c1 c3 h1 hi).1,(zI (FU d) c1 c3 h1 hi).2,zI (GW d) c2 c4 h2 hi⟩
   have:=vn (F:=F) (R:=R) (dx:=dX d) (dy:=dY d) 8 _ _ j k1 k2;have e1:((a % F:Nat):Int)+dX d+j*dX d=((t % F:Nat):Int):=by rw[h1];push_cast;rw[Int.add_mul];omega
   have e2:((a/F:Nat):Int)+dY d+j*dY d=((t/F:Nat):Int):=by rw[h2];push_cast;rw[Int.add_mul];omega
   rw[e1,e2,jy ht]at this;exact this
theorem FF {F R a b:Nat} (ha:a<F*R) (hb:b<F*R) (h1:((a % F:Nat):Int)=((b % F:Nat):Int)) (h2:((a/F:Nat):Int)=((b/F:Nat):Int)):a=b:=by
 rw[←jy ha,←jy hb,h1,h2]
theorem fP {F R:Nat} (z:Sz F R) {d d' a t:Nat} (hd:d<8) (sC:d'<8) (ha:a<F*R) (h:t∈bB F R d a) (h':t∈bB F R d' a):d=d':=by
 injection F R d d' a t with z hd sC ha h h'
 obtain(⟨_,k,k1,k2,k3⟩):=(dG z hd ha).mp h;obtain(⟨_,j,j1,j2,j3⟩):=(dG z sC ha).mp h';exact J1 d hd d' sC (A_ k1 j1 (FU d) (FU d') (Int.add_left_cancel (k2.symm.trans j2))) (A_ k1 j1 (GW d) (GW d') (Int.add_left_cancel (k3.symm.trans j3)))
def C4 (d:Nat):Nat:=d^^^2
theorem te {d:Nat} (h:d<8):C4 d<8∧dX (C4 d)= -dX d∧dY (C4 d)= -dY d:=by
 injection d with h
 have h8:d=0∨d=1∨d=2∨d=3∨d=4∨d=5∨d=6∨d=7:=⋯
 rcases h8 with rfl|rfl|rfl|rfl|rfl|rfl|rfl|rfl<;>decide
def ahead (d u b:Nat):Prop:=if cp d then u<b else b<u
noncomputable instance (d u b:Nat):Decidable (ahead d u b):=by unfold ahead;infer_instance
theorem Bw {F R t:Nat} (h:t<F*R):(t:Int)=((t/F:Nat):Int)*F+((t % F:Nat):Int):=by
 have:=jy h;have nn:0≤((t/F:Nat):Int)*F+((t % F:Nat):Int):=Int.add_nonneg (Int.mul_nonneg (z25 _) (z25 _)) (z25 _);have h2:=z28 nn;rw[this]at h2;exact h2
theorem qx {F R:Nat} (z:Sz F R) {d a u b:Nat} (hd:d<8) (ha:a<F*R) (hu:u<F*R) (hb:b<F*R) {k j:Int} (k1:((u % F:Nat):Int)=((a % F:Nat):Int)+k*dX d) (k2:((u/F:Nat):Int)=((a/F:Nat):Int)+k*dY d)
 (j1:((b % F:Nat):Int)=((a % F:Nat):Int)+j*dX d) (j2:((b/F:Nat):Int)=((a/F:Nat):Int)+j*dY d):ahead d u b↔k<j:=by
 have eu:(u:Int)=((a/F:Nat):Int)*F+((a % F:Nat):Int)+k*(dY d*F+dX d):=by
  rw[Bw hu,k1,k2,Int.add_mul,Int.mul_add,Int.mul_assoc];omega
 have eb:(b:Int)=((a/F:Nat):Int)*F+((a % F:Nat):Int)+j*(dY d*F+dX d):=by
  rw[Bw hb,j1,j2,Int.add_mul,Int.mul_add,Int.mul_assoc];omega
 have sg:=iZ z.f1 hd;generalize dY d*F+dX d=D at*;generalize ((a/F:Nat):Int)*F+((a % F:Nat):Int)=A at*;have lt:((k-j)*D=k*D-j*D):=Int.sub_mul ..;unfold ahead
 cases hg:cp d with
 |true=>
  have hD:=sg.1 hg;simp only[if_true]
  constructor
  · intro h;refine Int.lt_of_not_ge fun q=>?_;have:0≤(k-j)*D:=Int.mul_nonneg ⋯ ⋯;omega
  · intro h;have:(k-j)*D<0:=Int.mul_neg_of_neg_of_pos ⋯ hD;omega
 |false=>
  have hD:=sg.2 hg;simp only[Bool.false_eq_true,if_false]
  constructor
  · intro h;refine Int.lt_of_not_ge fun q=>?_;have:(k-j)*D≤0:=Int.mul_nonpos_of_nonneg_of_nonpos ⋯ ⋯;omega
  · intro h;have:0<(k-j)*D:=Int.mul_pos_of_neg_of_neg ⋯ hD;omega
theorem tV {F R:Nat} (z:Sz F R) {d a b u:Nat} (hd:d<8) (ha:a<F*R) (hb:b∈bB F R d a):(u∈bB F R d a∧u∈bB F R (C4 d) b)↔(u∈bB F R d a∧ahead d u b):=by
 injection F R d a b u with z hd ha hb
 obtain(⟨om,j,j1,j2,j3⟩):=(dG z hd ha).mp hb;obtain(⟨o1,o2,o3⟩):=te hd
 constructor
 · rintro-⟨hu,hv⟩;refine⟨hu,?_⟩;obtain(⟨mZ,k,k1,k2,k3⟩):=(dG z hd ha).mp hu;obtain(⟨_,m,m1,m2,m3⟩):=(dG z o1 om).mp hv;rw[qx z hd ha mZ om k2 k3 j2 j3];rw[o2,j2]at m2;rw[o3,j3]at m3;rw[k2]at m2;rw[k3]at m3;clear j2 j3 k2 k3;rw[Int.mul_neg]at m2 m3;have:k=j-m:=(dd d hd).elim (fun h=>u7 h (by rw[Int.sub_mul];omega)) (fun h=>u7 h (by rw[Int.sub_mul];omega));omega
 · rintro-⟨hu,hv⟩;refine⟨hu,?_⟩;obtain(⟨mZ,k,k1,k2,k3⟩):=(dG z hd ha).mp hu;rw[qx z hd ha mZ om k2 k3 j2 j3]at hv;refine(dG z o1 om).mpr ⟨mZ,j-k,⋯,?_,?_⟩
   · rw[o2,j2,k2,Int.sub_mul,Int.mul_neg,Int.mul_neg];omega
   · rw[o3,j3,k3,Int.sub_mul,Int.mul_neg,Int.mul_neg];omega
theorem Aw {F R:Nat} (z:Sz F R) {d a b u:Nat} (hd:d<8) (ha:a<F*R) (hb:b∈bB F R d a) (hu:u<F*R):(u∈bB F R d a∨u∈bB F R (C4 d) a∨u=a)↔
 (((u % F:Nat):Int)-((a % F:Nat):Int))*(((b/F:Nat):Int)-((a/F:Nat):Int))=(((u/F:Nat):Int)-((a/F:Nat):Int))*(((b % F:Nat):Int)-((a % F:Nat):Int)):=by
 injection F R d a b u with z hd ha hb hu
 obtain(⟨om,j,j1,j2,j3⟩):=(dG z hd ha).mp hb;obtain(⟨o1,o2,o3⟩):=te hd;rw[dG z hd ha,dG z o1 ha,j2,j3,o2,o3];have ex:(u=a)↔((u % F:Nat):Int)=((a % F:Nat):Int)∧((u/F:Nat):Int)=((a/F:Nat):Int):=⟨fun h=>by rw[h];exact⟨rfl,rfl⟩,fun h=>FF hu ha h.1 h.2⟩;rw[ex];clear ex hb om j2 j3 o1 o2 o3;simp only[hu,true_and];generalize ((a % F:Nat):Int)=x at*;generalize ((a/F:Nat):Int)=y at*;generalize ((u % F:Nat):Int)=x' at*;generalize ((u/F:Nat):Int)=y' at*;have c1:(x'-x)*(y+j*dY d-y)=((x'-x)*dY d)*j:=by rw[show y+j*dY d-y=j*dY d by omega,Int.mul_assoc,Int.mul_comm j]
 have c2:(y'-y)*(x+j*dX d-x)=((y'-y)*dX d)*j:=by rw[show x+j*dX d-x=j*dX d by omega,Int.mul_assoc,Int.mul_comm j]
 rw[c1,c2,Int.mul_eq_mul_right_iff ⋯];have dk:=dd d hd;generalize dX d=p at*;generalize dY d=q at*;rw[Lk dk]
 constructor
 · rintro-(⟨k,k1,k2,k3⟩|⟨k,k1,k2,k3⟩|⟨k2,k3⟩)
   · exact⟨k,by rw[k2,Jm],by rw[k3,Jm]⟩
   · exact⟨-k,by rw[k2,Jm,Int.mul_neg,Int.neg_mul],by rw[k3,Jm,Int.mul_neg,Int.neg_mul]⟩
   · exact⟨0,by rw[k2,Int.sub_self,Int.zero_mul],by rw[k3,Int.sub_self,Int.zero_mul]⟩
 · rintro-⟨m,h1,h2⟩;have k2:x'=x+m*p:=by rw[←h1,MW]
   have k3:y'=y+m*q:=by rw[←h2,MW]
   rcases Int.lt_trichotomy m 0 with o|rfl|o
   · exact .inr (.inl ⟨-m,⋯,by rw[Int.neg_mul_neg];exact k2,by rw[Int.neg_mul_neg];exact k3⟩)
   · exact .inr (.inr ⟨by rw[k2,Int.zero_mul,Int.add_zero],by rw[k3,Int.zero_mul,Int.add_zero]⟩)
   · exact .inl ⟨m,⋯,k2,k3⟩
def cK (F R d:Nat):List Nat:=(allR F R d).2
def w7 (F R d:Nat):List Nat:=(c_ F R d (cK F R d) (order F R d)).1
theorem oz (F R d:Nat):cK F R (d+1)=(c_ F R d (cK F R d) (order F R d)).2:=rfl
theorem rB (F R:Nat):∀d i,i<d→(allR F R d).1[i]? =some (w7 F R i)∧(allR F R d).1.length=d
 |0,i,h=>⋯
 |d+1,i,h=>by
  have e:(allR F R (d+1)).1=(allR F R d).1++[w7 F R d]:=rfl;have hl:(allR F R d).1.length=d:=by
   cases d with
   |zero=>rfl
   |succ d=>exact(rB F R (d+1) 0 ⋯).2
  rw[e];refine⟨?_,by simp[hl]⟩
  by_cases hi:i<d
  · rw[z09 ⋯];exact(rB F R d i hi).1
  · have:i=d:=⋯
    subst this;rw[z10 ⋯,hl];simp
theorem Sz.IU {F R:Nat} (z:Sz F R):(∀d,d<8→w7 F R d=(List.range (F*R)).map fun t=>bl (bB F R d t))∧cK F R 8=(List.range (F*R)).map fun t=>bl (bD F R t eK):=by
 have h:=List.all_eq_true.mp zD (F,R) z.mem;unfold AP at h;have h:allR F R 8=_:=beq_iff_eq.mp h;refine⟨fun d hd=>?_,by unfold cK;rw[h]⟩;have:=(rB F R 8 d hd).1;rw[h]at this;simp only[z11,List.getElem?_range hd,Option.map_some,Option.some.injEq]at this;exact this.symm
theorem zf (F R d:Nat) (st:List Nat×List Nat) (t:Nat):(g_ F R d st t).1.length=st.1.length∧(g_ F R d st t).2.length=st.2.length:=by
 unfold g_;split
 · simp
 · simp
theorem qI (F R d:Nat) (kg:List Nat):∀ts:List Nat,(c_ F R d kg ts).1.length=F*R∧(c_ F R d kg ts).2.length=kg.length:=by
 intro ts;unfold c_;have key:∀(ts:List Nat) (st:List Nat×List Nat),(ts.foldl (g_ F R d) st).1.length=st.1.length∧(ts.foldl (g_ F R d) st).2.length=st.2.length:=by
  intro ts
  induction ts with
  |nil=>intro st;exact⟨rfl,rfl⟩
  |cons t ts ih=>intro st;rw[List.foldl_cons];have:=ih (g_ F R d st t);have h2:=zf F R d st t;exact⟨this.1.trans h2.1,this.2.trans h2.2⟩
 have:=key ts (List.replicate (F*R) 0,kg)
 simpa using this
theorem qK (F R:Nat):∀d,(cK F R d).length=F*R
 |0=>by simp[cK,allR]
 |d+1=>by rw[oz,(qI F R d _ _).2,qK F R d]
theorem i4 (F R d:Nat) (kg ts:List Nat) (t:Nat):c_ F R d kg (ts++[t])=g_ F R d (c_ F R d kg ts) t:=by unfold c_;rw[List.foldl_append];rfl
theorem AU {F R d t:Nat} (h:t∈order F R d):t<F*R:=by
 unfold order at h
 split at h
 · obtain⟨i,hi,rfl⟩:=List.mem_map.mp h;exact FA (z24 (Nat.zero_le i) (List.mem_range.mp hi))
 · exact List.mem_range.mp h
theorem Cy {F R d t:Nat} (h:inner F R d t=true):0≤(t:Int)+delta F d∧(t:Int)+delta F d<(F*R:Nat):=by
 unfold inner at h;have h:=z03 h;have e:(t:Int)+delta F d=(((t/F:Nat):Int)+dY d)*F+(((t % F:Nat):Int)+dX d):=by
  unfold delta;have:(t:Int)=(F:Int)*((t/F:Nat):Int)+((t % F:Nat):Int):=by exact_mod_cast (Nat.div_add_mod t F).symm
  rw[Int.add_mul];have h2:((t/F:Nat):Int)*F=F*((t/F:Nat):Int):=Int.mul_comm _ _;omega
 have:=yc (F:=F) (R:=R) (f:=((t % F:Nat):Int)+dX d) (r:=((t/F:Nat):Int)+dY d) h;rw[e];have nn:0≤(((t/F:Nat):Int)+dY d)*F:=Int.mul_nonneg h.2.2.1 (z25 F);have h0:=Int.add_nonneg nn h.1;exact⟨h0,(Int.toNat_lt h0).mp this⟩
theorem mV (a b:Nat):Builtin.bitOr (a:Int) (b:Int)=((a|||b:Nat):Int):=aE fun i=>by rw[bt,bI,bI,bI,Nat.testBit_or]
theorem xt (a g:Nat):Builtin.bitOr (a:Int) (1*2^g)=((a|||2^g:Nat):Int):=by
 rw[←mV];congr 1;push_cast;omega
theorem d_ (x:Int) (t:Nat):decide (Builtin.bitAnd (x.fdiv (2^t)) 1≠0)=tb x t:=by
 injection x t;have h0:tb (Builtin.bitAnd (x.fdiv (2^t)) 1) 0=tb x t:=by
  rw[aL,eD,Nat.zero_add];have:tb 1 0=true:=by decide
  rw[this,Bool.and_true]
 have h1:∀i,i≠0→tb (Builtin.bitAnd (x.fdiv (2^t)) 1) i=false:=by
  rintro-i hi;have:tb 1 i=false:=by
   have h:(1:Int)=2^0:=rfl;rw[h,dR];simp[hi]
  rw[aL,this,Bool.and_false]
 by_cases h:tb x t=true
 · rw[h];have:Builtin.bitAnd (x.fdiv (2^t)) 1≠0:=fun q=>by rw[q,bU]at h0;rw[h]at h0;cases h0
   simp[this]
 · have h:=Bool.eq_false_iff.mpr h;rw[h];have:Builtin.bitAnd (x.fdiv (2^t)) 1=0:=aE<|by
    rintro-i;rw[bU]
    by_cases hi:i=0
    · subst hi;rw[h0,h]
    · exact h1 i hi
   simp[this]
theorem xS {xs:List Nat} {i:Nat} (h:i<xs.length):(nl xs)[i]? =some (.I ((xs.getD i 0:Nat):Int)):=by
 refine ID ?_;rw[List.getD_eq_getElem?_getD,z05 h];rfl
theorem AM (xs:List Nat) (i v:Nat):(nl xs).set i (.I (v:Int))=nl (xs.set i v):=by unfold nl;rw[List.map_set]
theorem yE (F R g kga rla b:Nat):jA (s "king") (.ref b) (gn F R g kga rla)=gn F R g b rla:=∅
theorem Cu (F R g kga rla b:Nat):jA (s "rights_lost") (.ref b) (gn F R g kga rla)=gn F R g kga b:=∅
theorem qJ (F R g kga rla:Nat):(gn F R g kga rla).length=14:=rfl
section
variable {C:Cx} (P:Pg C) {k:Nat} {H:Hp} {F R g kga rla:Nat}
include P
theorem Pg.AX (z:Sz F R) {d:Nat} (hd:d<8) {kg ra m:Nat} {Q:Fl→List (Option V)→Hp→Prop} {r:MS} (hT:C.T≤kg) (Nn:C.T≤ra) (hne:kg≠ra) (Pz:kg≠g) (Kp:ra≠g) {v6 v7:Option V} (G:cD F R g kg rla H)
 (hit:∀eG,dP (fun n=>n=kg∨n=ra) H eG→bF C k eG (.ref m) (nl (order F R d)) (fun _=>True)) (hk:H[kg]? =some (.L (nl (cK F R d)))) (hr:H[ra]? =some (.L (nl (List.replicate (F*R) 0))))
 (done:∀H' v6 v7,dP (fun n=>n=kg∨n=ra) H H'→H'[kg]? =some (.L (nl (cK F R (d+1))))→H'[ra]? =some (.L (nl (w7 F R d)))→
  wX C k r [some (.ref g),some (.I d),some (.I (bi (F*R) (inner F R d))),some (.I (delta F d)),some (.ref ra),some (.ref m),v6,v7,none,none,none,none,none] H' Q):
 wX C k (.bP 6 (.V 5)
  (.bq (.bf (.B .BitAnd (.B .RShift (.V 2) (.V 6)) (.I 1)))
  (.asg 7 (.B .Add (.V 6) (.V 3))
  (.cN (.V 4) (.V 6) (.B .BitOr (.sub (.V 4) (.V 7)) (.B .LShift (.I 1) (.V 7)))
  (.cG (.attr (.V 0) (s "king")) (.V 6) .BitOr (.B .LShift (.I 1) (.V 7))
  .N)))
  .N
  .N) r) [some (.ref g),some (.I d),some (.I (bi (F*R) (inner F R d))),some (.I (delta F d)),some (.ref ra),some (.ref m),v6,v7,none,none,none,none,none] H Q:=by
 injection C k H F R g rla d kg ra m Q r v6 v7 with P z hd hT Nn hne Pz Kp G hit hk hr done
 have hn:=z.n;refine Je (nl (order F R d)) (fun _=>True) (fun i ρ H'=>dP (fun n=>n=kg∨n=ra) H H'∧H'[kg]? =some (.L (nl (c_ F R d (cK F R d) ((order F R d).take i)).2))∧H'[ra]? =some (.L (nl (c_ F R d (cK F R d) ((order F R d).take i)).1))∧
  ∃v6 v7,ρ=[some (.ref g),some (.I d),some (.I (bi (F*R) (inner F R d))),some (.I (delta F d)),some (.ref ra),some (.ref m),v6,v7,none,none,none,none,none]) ?_ ?_ ?_
 · exact⟨hit H (dP.fQ _ _),dP.fQ _ _,by simpa [c_] using hk,by simpa [c_] using hr,_,_,rfl⟩
 · rintro-i x ρ H' hx ⟨lx,k1,r1,v6,v7,rfl⟩;refine⟨trivial,?_⟩;obtain(⟨t,ht,rfl⟩):=dp hx;have htl:=AU (z08 ht);have tk:(order F R d).take (i+1)=(order F R d).take i++[t]:=by rw[List.take_add_one,ht];rfl
   obtain(⟨l1,l2⟩):=qI F R d (cK F R d) ((order F R d).take i);rw[qK]at l2;have G':=G.x lx ⋯;refine bA ?_;refine BW.shr ⋯ (BW.and (bk.int ⟨?_,?_⟩))
   · rintro-e;rw[z02,d_,aq]at e;simp only[htl,decide_true,Bool.true_and]at e;obtain(⟨g1,g2⟩):=Cy e;obtain(⟨gl,hgl⟩):=z15 g1;refine au ?_;refine BW.add ?_;rw[hgl]at g2⊢;have g2:gl<F*R:=⋯
     refine dI ?_;refine cz.list r1 ⋯ ⋯ (by rw[z02];exact xS ⋯) (BW.shl ⋯ ⋯ nofun (BW.or (iV.list Nn r1 ⋯ (by rw[aJ];omega) ⋯ ?_)));rw[z02,z02,xt,AM];refine eX ?_;have k2:=ae (o:=.L (nl ((c_ F R d (cK F R d) ((order F R d).take i)).1.set t ((c_ F R d (cK F R d) ((order F R d).take i)).1.getD gl 0|||2^gl)))) (show ra≠kg from fun q=>hne q.symm) k1;refine P.zZ (G'.x (dP.set (S:=fun n=>n=kg∨n=ra) (dP.fQ _ _) (.inr rfl) _) ⋯) (cz.list k2 ⋯ ⋯ (by rw[z02];exact xS ⋯) (BW.shl ⋯ ⋯ nofun (IW.or (iV.list hT k2 ⋯ (by rw[aJ];omega) ⋯ (az ?_)))));rw[z02,z02,xt,AM];have es:c_ F R d (cK F R d) ((order F R d).take (i+1))=((c_ F R d (cK F R d) ((order F R d).take i)).1.set t ((c_ F R d (cK F R d) ((order F R d).take i)).1.getD gl 0|||2^gl),(c_ F R d (cK F R d) ((order F R d).take i)).2.set t ((c_ F R d (cK F R d) ((order F R d).take i)).2.getD t 0|||2^gl)):=by
      rw[tk,i4];unfold g_;rw[if_pos e,hgl];rfl
     refine⟨(lx.set (.inr rfl) _).set (.inl rfl) _,?_,?_,_,_,rfl⟩
     · rw[es];exact get_set _ k2
     · rw[es];exact ae _ hne (get_set _ r1)
   · rintro-e;rw[z02,d_,aq]at e;simp only[htl,decide_true,Bool.true_and]at e;refine az ⟨lx,?_,?_,_,_,rfl⟩
     · rw[tk,i4];unfold g_;rw[e];exact k1
     · rw[tk,i4];unfold g_;rw[e];exact r1
 · rintro-ρ H' ⟨lx,k1,r1,v6,v7,rfl⟩;rw[aJ,List.take_length]at k1 r1;exact⟨trivial,done H' _ _ lx (by rw[oz];exact k1) r1⟩
end
def refs (rs:List Nat):List V:=rs.map V.ref
theorem c5 {rs:List Nat} {i m:Nat} (h:rs[i]? =some m):(refs rs)[i]? =some (.ref m):=by unfold refs;rw[z11,h];rfl
theorem ij (rs:List Nat) (m:Nat):refs rs++[V.ref m]=refs (rs++[m]):=by simp[refs]
def jn (F R d:Nat) (rs:List Nat) (lo:Nat) (H:Hp):Prop:=rs.length=d∧∀i m,rs[i]? =some m→lo≤m∧H[m]? =some (.L (nl (w7 F R i)))
theorem jn.x {F R d:Nat} {rs:List Nat} {lo:Nat} {S:Nat→Prop} {H H':Hp} (h:jn F R d rs lo H) (l:dP S H H') (hs:∀m∈rs,¬S m):jn F R d rs lo H':=⟨h.1,fun i m e=>⟨(h.2 i m e).1,l.at_ _ _ (hs m (z08 e)) (h.2 i m e).2⟩⟩
theorem jn.le {F R d:Nat} {rs:List Nat} {lo:Nat} {H H':Hp} (h:jn F R d rs lo H) (l:Le H H'):jn F R d rs lo H':=⟨h.1,fun i m e=>⟨(h.2 i m e).1,l.at_ _ _ (h.2 i m e).2⟩⟩
theorem jn.snoc {F R d:Nat} {rs:List Nat} {lo m:Nat} {H:Hp} (h:jn F R d rs lo H) (hl:lo≤m) (hm:H[m]? =some (.L (nl (w7 F R d)))):jn F R (d+1) (rs++[m]) lo H:=by
 refine⟨by simp[h.1],fun i m' e=>?_⟩
 by_cases hi:i<rs.length
 · rw[z09 hi]at e;exact h.2 i m' e
 · rw[z10 ⋯]at e;have yK:=(z06.mp e).1;simp at yK;have e0:i-rs.length=0:=⋯
   rw[e0]at e;simp at e;subst e;have:i=d:=by have:=h.1;omega
   rw[this];exact⟨hl,hm⟩
theorem jn.lt {F R d:Nat} {rs:List Nat} {lo:Nat} {H:Hp} (h:jn F R d rs lo H):∀m∈rs,lo≤m∧m<H.length:=fun m hm=>by
 obtain⟨i,e⟩:=List.getElem?_of_mem hm;obtain⟨h1,h2⟩:=h.2 i m e;exact⟨h1,(z06.mp h2).1⟩
theorem AL (n:Nat):List.replicate n (V.I 0)=nl (List.replicate n 0):=by simp[nl]
theorem aV {H:Hp} {n:Nat} {o:O} (h:H[n]? =some o):n<H.length:=(z06.mp h).1
section
variable {C:Cx} (P:Pg C) {k:Nat} {H:Hp} {F R g kga rla:Nat}
include P
theorem Pg.zA (z:Sz F R) (st:Le dJ H) (hst:dJ.length≤g) (hT:C.T≤g) (hTH:C.T≤H.length) (G:cD F R g kga rla H) (M:dK F R g H) (hr:H[g+3]? =some (.L [])):
 aa C (k+2) (s "add_rays") [.ref g] H (fun v H'=>v=.none∧dP (fun n=>n=g∨n=g+3∨H.length≤n) H H'∧∃kg rs,cD F R g kg rla H'∧H.length≤kg∧kg∉rs∧H'[kg]? =some (.L (nl (cK F R 8)))∧H'[g+3]? =some (.L (refs rs))∧jn F R 8 rs H.length H'):=by
 injection C k H F R g kga rla with P z st hst hT hTH G M hr
 have hn:=z.n;have hg:=aV G;have Ru:=aV hr;refine P.uv ?_;rintro-_;unfold oD;refine pk ?_;refine⟨by simp,P.fc (G.le (Le.app _ _)) (BW.mR (af _ _) ⋯ ⋯ ?_)⟩;rw[z02,AL];generalize hkg:(H++[O.L [V.I 0]]).length=kg;have kgl:H.length+1=kg:=by rw[←hkg];simp
 have hnew:(H++[O.L [V.I 0]]++[O.L (nl (List.replicate (F*R) 0))])[kg]? =some (.L (nl (List.replicate (F*R) 0))):=by rw[←hkg];exact af _ _
 refine pB.field hT (ai _ (ai _ G)) (by rw[P.K];kernel_rfl) (by rw[qJ];decide) ?_;rw[yE];generalize CA:(H++[O.L [V.I 0]]++[O.L (nl (List.replicate (F*R) 0))]).set g (.inst 123 (gn F R g kg rla))=H1;have Iv:dP (fun n=>n=g∨n=g+3∨H.length≤n) H H1:=by rw[←CA];exact(((dP.fQ _ _).app _).app _).set (.inl rfl) _
 have G1:cD F R g kg rla H1:=by rw[←CA];exact get_set _ (ai _ (ai _ G))
 have k1:H1[kg]? =some (.L (nl (cK F R 0))):=by rw[←CA];exact ae _ ⋯ hnew
 have l1:H1.length=H.length+2:=by rw[←CA];simp
 refine cq P 8 (fun d ρ H'=>dP (fun n=>n=g∨n=g+3∨H.length≤n) H H'∧∃rs,cD F R g kg rla H'∧kg∉rs∧H'[kg]? =some (.L (nl (cK F R d)))∧H'[g+3]? =some (.L (refs rs))∧jn F R d rs H.length H'∧
  ∃v1 v2 v3 v4 v5 v6 v7,ρ=[some (.ref g),v1,v2,v3,v4,v5,v6,v7,none,none,none,none,none]) ?_ ⋯ ?_ ?_
 · refine⟨by rfl,Iv.app _,[],G1.le (Le.app _ _),by simp,ai _ k1,ai _ ?_,⟨rfl,fun i m e=>by simp at e⟩,_,_,_,_,_,_,_,rfl⟩;rw[←CA];exact ae _ ⋯ (ai _ (ai _ hr))
 · rintro-d ρ H' hd ⟨lx,rs,G',nk,k',r',RO,v1,v2,v3,v4,v5,v6,v7,rfl⟩;have JH:Le dJ H':=lx.le st fun n hn=>⋯
   have M':dK F R g H':=by
    refine M.x lx ?_ ?_
    · have:=aV M.fm;omega
    · have:=aV M.rm;omega
   refine au ?_;refine aa.up (k:=k+1) (aa.pv (P.qg z JH hd G' M') ?_);refine au ?_;refine P.yd JH hd (P.a_ G' (BW.mul (.inr (by have:=z.f2;omega)) (P.Bj JH hd (BW.add (au ?_)))));refine⟨by simp,P.fc (G'.le (Le.app _ _)) (BW.mR (af _ _) ⋯ ⋯ (au ?_))⟩;rw[z02,AL];have G2:cD F R g kg rla (H'++[O.L [V.I 0]]++[O.L (nl (List.replicate (F*R) 0))]):=ai _ (ai _ G');refine P.fc G2 (P.gd ?_);generalize hra:(H'++[O.L [V.I 0]]).length=ra;generalize CE:(H'++[O.L [V.I 0]]++[O.L (nl (List.replicate (F*R) 0))]).length=m1;have era:ra=H'.length+1:=by rw[←hra];simp
   have Rk:m1=H'.length+2:=by rw[←CE];simp
   have BO:=aV G';have PA:=aV r';have Jv:=aV k';have QH:(H'++[O.L [V.I 0]]++[O.L (nl (List.replicate (F*R) 0))])[ra]? =some (.L (nl (List.replicate (F*R) 0))):=by rw[←hra];exact af _ _
   have NP:(H'++[O.L [V.I 0]]++[O.L (nl (List.replicate (F*R) 0))]++[O.range 0 ((F*R:Nat):Int) 1])[m1]? =some (.range 0 ((F*R:Nat):Int) 1):=by rw[←CE];exact af _ _
   have cj:Le H' (H'++[O.L [V.I 0]]++[O.L (nl (List.replicate (F*R) 0))]++[O.range 0 ((F*R:Nat):Int) 1]):=((Le.app _ _).aS _).aS _;have N3:=ai (O.range 0 ((F*R:Nat):Int) 1) QH;generalize Pk:(H'++[O.L [V.I 0]]++[O.L (nl (List.replicate (F*R) 0))]++[O.range 0 ((F*R:Nat):Int) 1])=H3 at NP cj N3;have l3:H3.length=H'.length+3:=by rw[←Pk];simp
   refine dZ ?_;refine aa.up (k:=k+1) (aa.pv (P.ot (JH.trans cj) hd) ?_);refine bk.bool ⟨fun aO H4=>Le H3 H4∧∃m v6 v7,H3.length≤m+1∧(∀eG,dP (fun n=>n=kg∨n=ra) H4 eG→bF C (k+1) eG (.ref m) (nl (order F R d)) (fun _=>True))∧
    aO=[some (.ref g),some (.I d),some (.I (bi (F*R) (inner F R d))),some (.I (delta F d)),some (.ref ra),some (.ref m),v6,v7,none,none,none,none,none],fun e K hK=>?_,fun e K hK=>?_,?_⟩
   · refine au ?_;have G3:=G'.le cj;refine P.fc G3 (BW.sub (UW.neg (UW.neg (P.tv nofun nofun (az (hK _ _ ⟨Le.app _ _,H3.length,_,_,⋯,?_,rfl⟩))))));rintro-eG Fe;have:(H3++[O.range (((F*R:Nat):Int)-1) (-1) (-1)])[H3.length]? =some (.range (((F*R:Nat):Int)-1) (-1) (-1)):=af _ _;have e2:order F R d=(List.range (F*R)).map (F*R-1- ·):=by unfold order;rw[if_pos e]
     rw[e2];exact yO (Fe.at_ _ _ ⋯ this) ⋯
   · refine az (hK _ _ ⟨Le.fQ _,m1,_,_,⋯,?_,rfl⟩);rintro-eG Fe;have e2:order F R d=List.range (F*R):=by unfold order;rw[if_neg (by rw[e];decide)]
     rw[e2];exact sJ (Fe.at_ _ _ ⋯ NP) ⋯
   · rintro-aO H4 ⟨de,m,v6,v7,hm,hit,rfl⟩;have qh:=cj.trans de;refine P.AX z hd ⋯ ⋯ ⋯ ⋯ ⋯ (G'.le qh) hit (qh.at_ _ _ k') (de.at_ _ _ N3) ?_;rintro-H5 v6 v7 xP k5 r5;have G5:=(G'.le qh).x xP ⋯;refine cC ?_;have r6:=xP.at_ _ _ ⋯ (qh.at_ _ _ r');refine P.nU G5 ⟨_,_,rfl,r6,cR.append ⋯ r6 (by simp[refs,RO.1];omega) ⟨rfl,az ?_⟩⟩;rw[ij];have ROlt:=RO.lt;have L5:=qh.len;refine⟨?_,rs++[ra],ae _ ⋯ G5,?_,ae _ ⋯ k5,get_set _ r6,?_,_,_,_,_,_,_,_,rfl⟩
     · refine dP.set ?_ (.inr (.inl rfl)) _;exact lx.trans ((qh.x _).trans (xP.sub fun n hn=>⋯))
     · simp only[List.mem_append,List.mem_singleton,not_or];exact⟨nk,⋯⟩
     · refine jn.snoc ?_ ⋯ (ae _ ⋯ r5);refine((RO.le qh).x xP ?_).x ((dP.fQ (fun n=>n=g+3) _).set rfl _) ?_
       · rintro-x hx;have:=ROlt x hx;rintro-(q|q)
         · subst q;exact nk hx
         · omega
       · rintro-x hx;have:=ROlt x hx;omega
 · rintro-ρ H' ⟨lx,rs,G',nk,k',r',RO,v1,v2,v3,v4,v5,v6,v7,rfl⟩;exact az ⟨rfl,lx,kg,rs,G',⋯,nk,k',r',RO⟩
end
def tab (n:Nat) (f:Nat→Int):O:=.L (il ((List.range n).map f))
theorem aG {C:Cx} {k:Nat} {H:Hp} {a n t:Nat} {f:Nat→Int} {i:Int} {Q:V→Hp→Prop} (h:H[a]? =some (tab n f)) (ht:t<n) (hn:n≤1000) (e:i=t) (q:Q (.I (f t)) H):cz C k H (.ref a) (.I i) Q:=by
 subst e;exact cz.list h ⋯ ⋯ (by exact d8 ht) q
theorem Sz.L6 {F R:Nat} (z:Sz F R) {d:Nat} (hd:d<8):O.L (nl (w7 F R d))=tab (F*R) (cP F R d):=by
 unfold tab;rw[z.IU.1 d hd,oT,List.map_map]
 congr 3;funext t;exact(kn F R d t).symm
theorem Sz.Ii {F R:Nat} (z:Sz F R):O.L (nl (cK F R 8))=tab (F*R) (fun t=>cu F R t eK):=by
 unfold tab;rw[z.IU.2,oT,List.map_map]
 congr 3;funext t;exact(jJ F R t eK).symm
structure nq (F R g:Nat) (rs:List Nat) (H:Hp):Prop where
 ls:H[g+3]? =some (.L (refs rs))
 len:rs.length=8
 at_:∀d m,rs[d]? =some m→H[m]? =some (tab (F*R) (cP F R d))
theorem nq.le {F R g:Nat} {rs:List Nat} {H H':Hp} (h:nq F R g rs H) (l:Le H H'):nq F R g rs H':=⟨l.at_ _ _ h.ls,h.len,fun d m e=>l.at_ _ _ (h.at_ d m e)⟩
theorem nq.x {F R g:Nat} {rs:List Nat} {S:Nat→Prop} {H H':Hp} (h:nq F R g rs H) (l:dP S H H') (h1:¬S (g+3)) (h2:∀m∈rs,¬S m):nq F R g rs H':=⟨l.at_ _ _ h1 h.ls,h.len,fun d m e=>l.at_ _ _ (h2 m (z08 e)) (h.at_ d m e)⟩
theorem nq.get {C:Cx} {k:Nat} {F R g:Nat} {rs:List Nat} {H:Hp} (h:nq F R g rs H) {d t:Nat} {i j:Int} {Q:V→Hp→Prop} (hd:d<8) (ht:t<F*R) (hn:F*R≤1000) (ei:i=d) (ej:j=t) (q:Q (.I (cP F R d t)) H):
 cz C k H (.ref (g+3)) (.I i) (fun x H₁=>cz C k H₁ x (.I j) Q):=by
 subst ei;obtain⟨m,hm⟩:∃m,rs[d]? =some m:=⟨_,z05 (by rw[h.len];exact hd)⟩;exact cz.list h.ls ⋯ ⋯ (by rw[z02];exact c5 hm) (aG (h.at_ d m hm) ht hn ej q)
theorem CI (n:Nat) (f:Nat→Int):il ((List.range n).map f)++[V.I (f n)]=il ((List.range (n+1)).map f):=by rw[List.range_succ,List.map_append];simp[il]
theorem pb {H:Hp} {a n:Nat} {f:Nat→Int} {v:Int} {o:O} (h:H[a]? =some o) (e:v=f n):(H.set a (.L (il ((List.range n).map f)++[V.I v])))[a]? =some (tab (n+1) f):=by
 subst e;rw[CI];exact get_set _ h
theorem Sz.IK {F R:Nat} (z:Sz F R) {t:Nat} (ht:t<F*R):Builtin.bitAnd (cu F R t eK) (Builtin.bitOr (cP F R 4 t) (cP F R 7 t))=cu F R t (aF 0)∧Builtin.bitAnd (cu F R t eK) (Builtin.bitOr (cP F R 5 t) (cP F R 6 t))=cu F R t (aF 1):=by
 injection F R t with z ht
 have h:=List.all_eq_true.mp zC (F,R) z.mem;unfold AO at h;have h:=List.all_eq_true.mp h t (List.mem_range.mpr ht);simp only[z01,beq_iff_eq]at h;rw[jJ,jJ,jJ,kn,kn,kn,kn,mV,mV,←h.1,←h.2]
 constructor<;>exact aE fun i=>by rw[aL,bI,bI,bI,Nat.testBit_and]
theorem Sz.EZ {F R:Nat} (z:Sz F R) {t:Nat} (ht:t<F*R):sM F R t=cu F R t cY:=by
 have h:=List.all_eq_true.mp vK (F,R) z.mem;unfold u5 at h;have h:=List.all_eq_true.mp h t (List.mem_range.mpr ht);rw[jJ];exact beq_iff_eq.mp h
section
variable {C:Cx} (P:Pg C) {k:Nat} {H:Hp} {F R g kga rla:Nat} {rs:List Nat}
include P
theorem Pg.yn (z:Sz F R) (hT:C.T≤g) (G:cD F R g kga rla H) (hk:H[kga]? =some (tab (F*R) fun t=>cu F R t eK)) (hkg:g+11≤kga) (RT:nq F R g rs H) (hrs:∀m∈rs,g+11≤m)
 (h6:H[g+6]? =some (.L [])) (h7:H[g+7]? =some (.L [])) (h8:H[g+8]? =some (.L [.ref (g+6),.ref (g+7)])):
 aa C (k+1) (s "add_pawns") [.ref g] H (fun v H'=>v=.none∧dP (fun n=>n=g+6∨n=g+7) H H'∧H'[g+6]? =some (tab (F*R) fun t=>cu F R t (aF 0))∧H'[g+7]? =some (tab (F*R) fun t=>cu F R t (aF 1))):=by
 injection C k H F R g kga rla rs with P z hT G hk hkg RT hrs h6 h7 h8
 have hn:=z.n;refine P.r9 ?_;rintro-_;unfold lR;refine cq P (F*R) (fun i ρ H'=>A4 (dP (fun n=>n=g+6∨n=g+7) H H') (H'[g+6]? =some (tab i fun t=>cu F R t (aF 0))) (H'[g+7]? =some (tab i fun t=>cu F R t (aF 1))) (∃v1,ρ=[some (.ref g),v1,none])) ?_ ⋯ ?_ ?_
 · exact P.fc G ⟨rfl,(Le.app _ _).x _,ai _ h6,ai _ h7,_,rfl⟩
 · rintro-i ρ H' hi ⟨lx,a6,a7,v1,rfl⟩;have G':=G.x lx ⋯;have k':=lx.at_ _ _ ⋯ hk;have r':=RT.x lx ⋯ fun m hm=>by have:=hrs m hm;omega
   have a8:=lx.at_ _ _ ⋯ h8;refine cC ?_;refine P.yG G' (cz.list a8 nofun nofun rfl ⟨_,_,rfl,a6,P.zZ G' (aG k' hi ⋯ rfl (P.nU G' (r'.get (d:=4) nofun hi ⋯ rfl rfl (P.nU G' (r'.get (d:=7) nofun hi ⋯ rfl rfl (BW.or (BW.and (cR.append ⋯ a6 (by rw[aX];simp;omega) ⟨rfl,cC ?_⟩))))))))⟩);have yY:dP (fun n=>n=g+6∨n=g+7) H' (H'.set (g+6) (.L (il ((List.range i).map fun t=>cu F R t (aF 0))++[V.I (Builtin.bitAnd (cu F R i eK) (Builtin.bitOr (cP F R 4 i) (cP F R 7 i)))]))):=(dP.fQ _ _).set (.inl rfl) _;have b6:=pb (f:=fun t=>cu F R t (aF 0)) a6 (z.IK hi).1;have G2:=G'.x yY ⋯;have k2:=yY.at_ _ _ ⋯ k';have r2:=r'.x yY ⋯ fun m hm=>by have:=hrs m hm;omega
   have b8:=yY.at_ _ _ ⋯ a8;have b7:=ae (m:=g+6) (.L (il ((List.range i).map fun t=>cu F R t (aF 0))++[V.I (Builtin.bitAnd (cu F R i eK) (Builtin.bitOr (cP F R 4 i) (cP F R 7 i)))])) ⋯ a7;have Ff:=lx.trans yY;generalize H'.set (g+6) (.L (il ((List.range i).map fun t=>cu F R t (aF 0))++[V.I (Builtin.bitAnd (cu F R i eK) (Builtin.bitOr (cP F R 4 i) (cP F R 7 i)))]))=H2 at*;refine P.yG G2 (cz.list b8 nofun nofun rfl ⟨_,_,rfl,b7,P.zZ G2 (aG k2 hi ⋯ rfl (P.nU G2 (r2.get (d:=5) nofun hi ⋯ rfl rfl (P.nU G2 (r2.get (d:=6) nofun hi ⋯ rfl rfl (BW.or (BW.and (cR.append ⋯ b7 (by rw[aX];simp;omega) ⟨rfl,az ?_⟩))))))))⟩);exact⟨Ff.set (.inr rfl) _,ae _ ⋯ b6,pb (f:=fun t=>cu F R t (aF 1)) b7 (z.IK hi).2,_,rfl⟩
 · rintro-ρ H' ⟨lx,a6,a7,v1,rfl⟩;exact az ⟨rfl,lx,a6,a7⟩
theorem Pg.tR (z:Sz F R) (hT:C.T≤g) (G:cD F R g kga rla H) (M:dK F R g H) (h5:H[g+5]? =some (.L [])):
 aa C (k+1) (s "add_knights") [.ref g] H (fun v H'=>v=.none∧dP (fun n=>n=g+5) H H'∧H'[g+5]? =some (tab (F*R) fun t=>cu F R t cY)):=by
 injection C k H F R g kga rla with P z hT G M h5
 have hn:=z.n;have z':=z;obtain(⟨f1,f2,r1,r2⟩):=z';refine P.nY ?_;rintro-_;unfold iI;refine au ?_;refine P.a_ G (au ?_);refine P.gN G (P.mF G (M.file (f:=0) ⋯ ⋯ ⋯ (UW.inv (BW.and (au ?_)))));refine P.gN G (P.mF G (BW.sub (M.file (f:=F-1) ⋯ ⋯ ⋯ (UW.inv (BW.and (au ?_))))));refine P.mF G (M.file (f:=1) ⋯ ⋯ ⋯ (UW.inv (BW.and (au ?_))));refine P.mF G (BW.sub (M.file (f:=F-2) ⋯ ⋯ ⋯ (UW.inv (BW.and ?_))));rw[z.j7.2.2];generalize e1:Builtin.bitAnd (eQ F R) (Builtin.bitNot (bY F R 0))=nf;generalize e2:Builtin.bitAnd (eQ F R) (Builtin.bitNot (bY F R (F-1)))=Gi;generalize e3:Builtin.bitAnd nf (Builtin.bitNot (bY F R 1))=Gg;generalize e4:Builtin.bitAnd Gi (Builtin.bitNot (bY F R (F-2)))=Gj;refine cq P (F*R) (fun i ρ H'=>A3 (dP (fun n=>n=g+5) H H') (H'[g+5]? =some (tab i fun t=>cu F R t cY)) (∃v6 v7 v8 v9 v10,ρ=[some (.ref g),some (.I F),some (.I nf),some (.I Gi),some (.I Gg),some (.I Gj),v6,v7,v8,v9,v10,none])) ?_ ⋯ ?_ ?_
 · exact P.fc G ⟨rfl,(Le.app _ _).x _,ai _ h5,_,_,_,_,_,rfl⟩
 · rintro-i ρ H' hi ⟨lx,a5,v6,v7,v8,v9,v10,rfl⟩;have G':=G.x lx ⋯;have small:∀(x:Int) (m:Nat),0≤x→x<2^m→m≤64→x.natAbs<2^64:=by
    rintro-x m h0 h1 hm;have:(2:Int)^m≤2^64:=by exact_mod_cast Nat.pow_le_pow_right nofun hm
    omega
   have nfull:0≤eQ F R:=gL _ _;have nnf:0≤nf:=by rw[←e1];exact fe nfull
   have nnl:0≤Gi:=by rw[←e2];exact fe nfull
   have Lq:0≤Gg:=by rw[←e3];exact fe nnf
   have Lr:0≤Gj:=by rw[←e4];exact fe nnl
   have fl:eQ F R<2^(F*R):=jv _ _;have up:nf≤eQ F R∧Gi≤eQ F R:=⟨by rw[←e1];exact fZ nfull,by rw[←e2];exact fZ nfull⟩;have RQ:Gg≤nf∧Gj≤Gi:=⟨by rw[←e3];exact fZ nnf,by rw[←e4];exact fZ nnl⟩;have orb:∀(x y:Int) (m:Nat),0≤x→x<2^m→0≤y→y<2^m→0≤Builtin.bitOr x y∧Builtin.bitOr x y<2^m:=by
    rintro-x y m h0 h1 h2 h3;obtain(⟨a,rfl⟩):=z15 h0;obtain(⟨b,rfl⟩):=z15 h2;rw[mV];refine⟨⋯,?_⟩;have h1:a<2^m:=by exact_mod_cast h1
    have h3:b<2^m:=by exact_mod_cast h3
    exact_mod_cast Nat.or_lt_two_pow h1 h3
   have andc:∀x y:Int,0≤y→0≤Builtin.bitAnd x y∧Builtin.bitAnd x y≤y:=fun x y h=>by rw[bitAnd_comm];exact⟨fe h,fZ h⟩
   have a1:=andc ((1*2^i:Int)*2^1) nf nnf;have a2:=andc ((1*2^i:Int).fdiv (2^1)) Gi nnl;have a3:=andc ((1*2^i:Int)*2^2) Gg Lq;have a4:=andc ((1*2^i:Int).fdiv (2^2)) Gj Lr;have near:=orb _ _ (F*R) a1.1 ⋯ a2.1 ⋯;have far:=orb _ _ (F*R) a3.1 ⋯ a4.1 ⋯;have M6:((1*2^i:Int)).natAbs<2^64:=small _ (i+1) (by have:(0:Int)<2^i:=Int.pow_pos nofun;omega) (by rw[Int.pow_succ];have:(0:Int)<2^i:=Int.pow_pos nofun;omega) ⋯;refine au ?_;refine BW.shl ⋯ ⋯ nofun (au ?_);rw[z02];refine BW.shl nofun nofun M6 (BW.and (BW.shr nofun (BW.and (BW.or (au ?_)))));refine BW.shl nofun nofun M6 (BW.and (BW.shr nofun (BW.and (BW.or (au ?_)))));refine BW.mul (.inl nofun) (BW.shl ⋯ ⋯ (small _ _ near.1 near.2 ⋯) (BW.mul (.inl nofun) (BW.shr ⋯ (BW.or (BW.shl ⋯ ⋯ (small _ _ far.1 far.2 ⋯) (BW.or (BW.shr ⋯ (BW.or (cC ?_)))))))));refine P.EA G' ⟨_,_,rfl,a5,P.gN G' (BW.and (cR.append ⋯ a5 (by rw[aX];simp;omega) ⟨rfl,az ⟨lx.set rfl _,pb (f:=fun t=>cu F R t cY) a5 ?_,_,_,_,_,_,rfl⟩⟩))⟩;rw[←z.EZ hi,z.j7.2.2];have et:(2*(F:Int)).toNat=2*F:=⋯
   rw[et,z02];unfold sM;dsimp only;rw[e1,e2,e3,e4]
   rfl
 · rintro-ρ H' ⟨lx,a5,v6,v7,v8,v9,v10,rfl⟩;exact az ⟨rfl,lx,a5⟩
end
structure B1 (F R g kg rla:Nat) (rs:List Nat) (H:Hp):Prop where
 o:cD F R g kg rla H
 m:dK F R g H
 k:H[kg]? =some (tab (F*R) fun t=>cu F R t eK)
 r:nq F R g rs H
 n:H[g+5]? =some (tab (F*R) fun t=>cu F R t cY)
 p0:H[g+6]? =some (tab (F*R) fun t=>cu F R t (aF 0))
 p1:H[g+7]? =some (tab (F*R) fun t=>cu F R t (aF 1))
 pw:H[g+8]? =some (.L [.ref (g+6),.ref (g+7)])
def kH (F R g:Nat) (H:Hp):Prop:=∃kg rla rs,B1 F R g kg rla rs H
theorem B1.le {F R g kg rla:Nat} {rs:List Nat} {H H':Hp} (h:B1 F R g kg rla rs H) (l:Le H H'):B1 F R g kg rla rs H':=
 ⟨h.o.le l,h.m.le l,l.at_ _ _ h.k,h.r.le l,l.at_ _ _ h.n,l.at_ _ _ h.p0,l.at_ _ _ h.p1,l.at_ _ _ h.pw⟩
theorem kH.le {F R g:Nat} {H H':Hp} (h:kH F R g H) (l:Le H H'):kH F R g H':=let⟨a,b,c,d⟩:=h;⟨a,b,c,d.le l⟩
section
variable {C:Cx} (P:Pg C) {k:Nat} {H:Hp} {F R g kga rla:Nat} {rs:List Nat}
include P
theorem Pg.tQ (z:Sz F R) (hT:C.T≤g) (G:cD F R g kga rla H) (h9:H[g+9]? =some (.L [])):
 aa C (k+1) (s "add_castles") [.ref g] H (fun v H'=>v=.none∧dP (fun n=>n=g∨n=g+9∨H.length≤n) H H'∧∃C',cD F R g kga C' H'):=by
 injection C k H F R g kga rla with P z hT G h9
 have hn:=z.n;have z':=z;obtain(⟨f1,f2,r1,r2⟩):=z';have hg:=aV G;have Rv:=aV h9;refine P.nX ?_;rintro-_;unfold iH;refine pk ?_;refine⟨by simp,P.fc (G.le (Le.app _ _)) (BW.mR (af _ _) ⋯ ⋯ ?_)⟩;generalize hb:(H++[O.L [V.I 0]]).length=b;refine pB.field hT (ai _ (ai _ G)) (by rw[P.K];kernel_rfl) (by rw[qJ];decide) (au ?_);rw[Cu];generalize CA:(H++[O.L [V.I 0]]++[O.L (List.replicate ((F*R:Nat):Int).toNat (V.I 0))]).set g (.inst 123 (gn F R g kga b))=H1;have Iv:dP (fun n=>n=g∨n=g+9∨H.length≤n) H H1:=by rw[←CA];exact(((dP.fQ _ _).app _).app _).set (.inl rfl) _
 have G1:cD F R g kga b H1:=by rw[←CA];exact get_set _ (ai _ (ai _ G))
 have a1:H1[g+9]? =some (.L []):=by rw[←CA];exact ae _ ⋯ (ai _ (ai _ h9))
 refine P.a_ G1 (BW.div nofun nofun ?_);refine cq P 4 (fun i ρ H'=>A4 (dP (fun n=>n=g∨n=g+9∨H.length≤n) H H') (cD F R g kga b H') (H'[g+9]? =some (.L (List.replicate i V.none))) (∃v2 v3 v4 v5 v6,ρ=[some (.ref g),some (.I ((F:Int).fdiv 2)),v2,v3,v4,v5,v6,none])) ?_ ⋯ ?_ ?_
 · exact⟨by rfl,Iv.app _,G1.le (Le.app _ _),ai _ a1,_,_,_,_,_,rfl⟩
 · rintro-i ρ H' hi ⟨lx,G',a9,v2,v3,v4,v5,v6,rfl⟩;refine au ?_;refine BW.shr nofun (P.f' G' (BW.sub (BW.mul (.inr ⋯) (P.a_ G' (BW.mul (.inr ⋯) (au ?_))))));refine P.a_ G' (BW.sub (au ?_));refine dZ ?_;refine BW.and (bk.int ⟨fun aO eG=>H'=eG∧∃v3 w4 w5,-1≤w5∧w5≤1∧aO=[some (.ref g),some (.I ((F:Int).fdiv 2)),some (.I i),v3,some (.I w4),some (.I w5),v6,none],?_,?_,?_⟩)
   · rintro-e K hK;refine au ?_;refine au ?_;exact UW.neg (az (hK _ _ ⟨rfl,_,_,_,by decide,by decide,rfl⟩))
   · rintro-e K hK;exact az (hK _ _ ⟨rfl,_,_,_,by decide,by decide,rfl⟩)
   · rintro-aO eG ⟨rfl,v3,w4,w5,hw,RB,rfl⟩;refine au ?_;refine BW.mul (.inl nofun) (BW.add (Gq ?_));refine P.Kh G' (bk.bool ⟨fun e=>(by cases e),?_⟩);rintro-_;refine⟨fun e=>(by cases e),?_⟩;rintro-_;refine cC ?_;refine P.Kg G' ⟨_,_,rfl,a9,cR.append ⋯ a9 (by simp;omega) ⟨rfl,az (nx (az ?_))⟩⟩;refine⟨lx.set (.inr (.inl rfl)) _,ae _ ⋯ G',?_,_,_,_,_,_,rfl⟩;rw[List.replicate_succ',];exact get_set _ a9
 · rintro-ρ H' ⟨lx,G',a9,v2,v3,v4,v5,v6,rfl⟩;exact az ⟨rfl,lx,b,G'⟩
theorem Pg.qj (z:Sz F R) (st:Le dJ H) (hTH:C.T≤H.length):
 aa C (k+3) (s "make_geometry") [.I F,.I R,.bool true,.bool false] H (fun v H'=>∃g,v=.ref g∧Le H H'∧kH F R g H'):=by
 injection C k H F R with P z st hTH
 have hn:=z.n;have z':=z;obtain(⟨f1,f2,r1,r2⟩):=z';have hst:=st.len;refine P.k7 ?_;rintro-_;unfold gx;refine bA ?_;refine CW.lt (bk.bool ⟨fun e=>(by simp at e;omega),?_⟩);rintro-_;refine CW.gt (bk.bool ⟨fun e=>(by simp at e;omega),?_⟩);rintro-_;refine CW.lt (bk.bool ⟨fun e=>(by simp at e;omega),?_⟩);rintro-_;refine CW.gt (bk.bool ⟨fun e=>(by simp at e;omega),?_⟩);rintro-_;refine⟨fun e=>(by cases e),?_⟩;rintro-_;refine au ?_;refine aa.mono (P.uX ⋯ ⋯) ?_;rintro-v H1 ⟨rfl,e1⟩;generalize hg:H.length=g at*;have at_:∀i o,([.inst 123 (gn F R g (g+4) (g+10)),.L [],.L [],.L [],.L [],.L [],.L [],.L [],.L [.ref (g+6),.ref (g+7)],.L [],.L []]:Hp)[i]? =some o→H1[g+i]? =some o:=by
  rintro-i o h;rw[e1,z10 ⋯,←hg,Nat.add_sub_cancel_left];rw[hg];exact h
 have bg:Le H H1:=by rw[e1];exact⟨fun n o e=>by rw[z09 (aV e)];exact e⟩
 have P5:H1.length=g+11:=by rw[e1];simp[hg]
 have G1:cD F R g (g+4) (g+10) H1:=at_ 0 _ rfl;have Gm:=st.trans bg;refine cC ?_;refine aa.up (k:=1) (l:=⋯) (aa.mono (P.ym (k:=0) ⋯ f2 ⋯ hTH G1 (at_ 1 _ rfl) (at_ 2 _ rfl)) ?_);rintro-v H2 ⟨rfl,yY,m1,m2⟩;refine⟨rfl,cC ?_⟩;have M2:dK F R g H2:=by
  refine⟨by rw[m1];congr 3;exact z26 fun f hf=>z.j7.1 f (List.mem_range.mp hf),by rw[m2];congr 3;exact z26 fun r hr=>z.j7.2.1 r (List.mem_range.mp hr)⟩
 have G2:=G1.x yY ⋯;have bJ:Le H H2:=yY.le bg fun n hn=>⋯
 have Li:g+11≤H2.length:=by have:=aV (yY.at_ _ _ ⋯ (at_ 10 _ rfl));omega
 refine aa.up (k:=2) (l:=⋯) (aa.mono (P.zA (k:=0) z (st.trans bJ) ⋯ hTH ⋯ G2 M2 (yY.at_ _ _ ⋯ (at_ 3 _ rfl))) ?_);rintro-v H3 ⟨rfl,Ff,kg,rs,G3,hkg,nk,k3,r3,RO⟩;refine⟨rfl,cC ?_⟩;have rsl:=RO.lt;have MC:nq F R g rs H3:=⟨r3,RO.1,by
  rintro-d m e;have hd:=(z06.mp e).1;rw[RO.1]at hd;rw[←z.L6 hd];exact(RO.2 d m e).2⟩
 have JB:H3[kg]? =some (tab (F*R) fun t=>cu F R t eK):=by rw[←z.Ii];exact k3
 have M3:dK F R g H3:=M2.x Ff ⋯ ⋯;have FR:∀i o,0<i→i≠1→i≠2→i≠3→i<11→([.inst 123 (gn F R g (g+4) (g+10)),.L [],.L [],.L [],.L [],.L [],.L [],.L [],.L [.ref (g+6),.ref (g+7)],.L [],.L []]:Hp)[i]? =some o→H3[g+i]? =some o:=fun i o h0 h1 h2 h3 h4 h=>
  Ff.at_ _ _ ⋯ (yY.at_ _ _ ⋯ (at_ i _ h))
 refine aa.up (k:=1) (l:=⋯) (aa.mono (P.yn (k:=0) z hTH G3 JB ⋯ MC (fun m hm=>by have:=rsl m hm;omega) (FR 6 _ nofun nofun nofun nofun nofun rfl) (FR 7 _ nofun nofun nofun nofun nofun rfl) (FR 8 _ nofun nofun nofun nofun nofun rfl)) ?_);rintro-v H4 ⟨rfl,DT,p0,p1⟩;refine⟨rfl,cC ?_⟩;have G4:=G3.x DT ⋯;have M4:=M3.x DT ⋯ ⋯;refine aa.up (k:=1) (l:=⋯) (aa.mono (P.tR (k:=0) z hTH G4 M4 (DT.at_ _ _ ⋯ (FR 5 _ nofun nofun nofun nofun nofun rfl))) ?_);rintro-v H5 ⟨rfl,xP,n5⟩;refine⟨rfl,cC ?_⟩;have G5:=G4.x xP ⋯;have M5:=M4.x xP ⋯ ⋯;have MD:=(MC.x DT ⋯ fun m hm=>by have:=rsl m hm;omega).x xP ⋯ fun m hm=>by have:=rsl m hm;omega
 refine aa.up (k:=1) (l:=⋯) (aa.mono (P.tQ (k:=0) z hTH G5 (xP.at_ _ _ ⋯ (DT.at_ _ _ ⋯ (FR 9 _ nofun nofun nofun nofun nofun rfl)))) ?_);rintro-v H6 ⟨rfl,DU,C',G6⟩;refine⟨rfl,aM ?_⟩;have k5:=xP.at_ _ _ ⋯ (DT.at_ _ _ ⋯ JB);have l5:=aV k5;have JF:∀m∈rs,m<H5.length:=by
  rintro-m hm;obtain(⟨i,e⟩):=List.getElem?_of_mem hm;exact aV (MD.at_ i m e)
 refine⟨g,rfl,?_,kg,C',rs,G6,M5.x DU ?_ ?_,DU.at_ _ _ ⋯ k5,MD.x DU ?_ ?_,DU.at_ _ _ ?_ n5,DU.at_ _ _ ?_ (xP.at_ _ _ ⋯ p0),DU.at_ _ _ ?_ (xP.at_ _ _ ⋯ p1),DU.at_ _ _ ?_ (xP.at_ _ _ ⋯ (DT.at_ _ _ ⋯ (FR 8 _ nofun nofun nofun nofun nofun rfl)))⟩
 · refine⟨?_⟩;rintro-n o e;have hl:=aV e;have:=aV G5;exact DU.at_ _ _ ⋯ (xP.at_ _ _ ⋯ (DT.at_ _ _ ⋯ (Ff.at_ _ _ ⋯ (bJ.at_ _ _ e))))
 all_goals first|(have:=aV k5;omega)|(intro m hm;have:=rsl m hm;have:=JF m hm;omega)
end
section
variable {C:Cx} {k:Nat} {ρ:List (Option V)} {H:Hp} {Q:Fl→List (Option V)→Hp→Prop}
theorem yj {j:Nat} {e e':ME} {b r:MS} (P:Pg C) (lo hi:Nat) (I:Nat→List (Option V)→Hp→Prop) (h0:wE C k e ρ H (fun v H₁=>v=.I lo∧wE C k e' ρ H₁ (fun v aB=>v=.I hi∧I 0 ρ (aB++[.range lo hi 1])))) (hlo:lo≤1000) (hn:hi≤1000)
 (turn:∀i ρ H,i<hi-lo→I i ρ H→wX C k b (ρ.set j (some (.I ((lo+i:Nat):Int)))) H (Tn C k r Q (I (i+1)))) (done:∀ρ H,I (hi-lo) ρ H→wX C k r ρ H Q):wX C k (.bP j (.K (s "range") (.C e (.C e' .N))) b r) ρ H Q:=by
 injection C k ρ H Q j e e' b r lo hi I with P h0 hlo hn turn done
 refine Je (nl ((List.range (hi-lo)).map (lo+ ·))) (fun _=>True) I ?_ (?_) (fun ρ H hI=>⟨trivial,done ρ H (by simpa [aJ] using hI)⟩)
 · refine bQ e h0 ?_;rintro-v H₁ ⟨rfl,h1⟩;refine bQ e' h1 ?_;rintro-v aB ⟨rfl,hI⟩;exact P.wZ ⟨xI (af _ _) hlo hn,hI⟩
 · rintro-i x ρ H hx hI;refine⟨trivial,?_⟩;obtain(⟨a,ha,rfl⟩):=dp hx;have hl:=(z06.mp ha).1;rw[List.length_map,List.length_range]at hl;rw[z11,List.getElem?_range hl]at ha;simp only[Option.map_some,Option.some.injEq]at ha;subst ha;exact turn i ρ H hl hI
end
theorem lD {C:Cx} {k:Nat} {ρ:List (Option V)} {H:Hp} {Q:Fl→List (Option V)→Hp→Prop} {j:Nat} {r:MS} {x y:Int} {w:Nat} {wi:Int} (hx:ρ[j]? =some (some (.I x))) (hw:wi=(w:Int)) (hs:jo x y w) (h:∀x',jo x' y (w+w)→wX C k r (ρ.set j (some (.I x'))) H Q):
 wX C k (.aug j .BitOr (.B .RShift (.V j) (.I wi)) r) ρ H Q:=by
 subst hw;refine aY hx ?_;show wE C k (.V j) ρ H _;refine kP hx ?_;exact BW.shr ⋯ (IW.or (by rw[z02];exact h _ hs.step))
def da (F R:Nat) (ds:List Nat) (p:Nat→Bool) (t u:Nat):Bool:=ds.any fun d=>decide (u∈cut p (bB F R d t))
def b5 (F R:Nat) (ds:List Nat) (p:Nat→Bool) (t:Nat):Int:=bi (F*R) (da F R ds p t)
theorem qN (F R:Nat) (p:Nat→Bool) (t:Nat):b5 F R [] p t=0:=(aT _ _).mpr fun i _=>rfl
theorem oC (F R:Nat) (ds:List Nat) (d:Nat) (p:Nat→Bool) (t:Nat):Builtin.bitOr (b5 F R ds p t) (gh F R d t p)=b5 F R (ds++[d]) p t:=aE fun i=>by
 unfold b5 gh da;rw[bt,aq,aq,aq,List.any_append]
 cases decide (i<F*R)<;>simp
theorem yV (F R:Nat) (ds es:List Nat) (p:Nat→Bool) (t:Nat):Builtin.bitOr (b5 F R ds p t) (b5 F R es p t)=b5 F R (ds++es) p t:=aE fun i=>by
 unfold b5 da;rw[bt,aq,aq,aq,List.any_append]
 cases decide (i<F*R)<;>simp
abbrev fS:List Nat:=[0,1,2,3]
abbrev fA:List Nat:=[4,5,6,7]
section
variable {C:Cx} (P:Pg C) {k:Nat} {H:Hp} {F R g:Nat} {p:Nat→Bool} {t:Nat}
include P
theorem Pg.l8 (z:Sz F R) (st:Le dJ H) (G:kH F R g H) {d:Nat} (hd:d<8) (ht:t<F*R):
 aa C (k+2) (s "ray_attacks") [.ref g,.I d,.I t,.I (bi (F*R) p)] H (fW (.I (gh F R d t p)) H):=by
 injection C k H F R g p t d with P z st G hd ht
 have hn:=z.n;obtain(⟨kg,rla,rs,G⟩):=G;refine P.oh ?_;rintro-_;unfold iP;refine au ?_;refine P.nU G.o (G.r.get hd ht ⋯ rfl rfl (au ?_));refine BW.and (bA ?_);refine CW.eq (bk.bool ⟨?_,?_⟩)
 · rintro-e;refine aM ?_;exact⟨by rw[xd (z03 e)],rfl⟩
 rintro-e;refine bA ?_;have ne:=z04 e;refine aa.up (k:=1) (l:=⋯) (aa.pv (P.ot (k:=0) st hd) ?_);refine bk.bool ⟨?_,?_⟩
 · rintro-hg;refine aM ?_;exact BW.sub (BW.xor (BW.and ⟨by rw[Bc z.f1 hd hg ne],rfl⟩))
 · rintro-hg;refine au ?_;refine BW.shr nofun ?_;refine lD rfl rfl (jo.one _) ?_;rintro-x1 s1;refine lD rfl rfl s1 ?_;rintro-x2 s2;refine lD rfl rfl s2 ?_;rintro-x3 s3;refine lD rfl rfl s3 ?_;rintro-x4 s4;refine lD rfl rfl s4 ?_;rintro-x5 s5;refine lD rfl rfl s5 ?_;rintro-x6 s6;refine aM ?_;exact UW.inv (BW.and ⟨by rw[xc ⋯ z.f1 hd hg s6],rfl⟩)
theorem Pg.d5 (z:Sz F R) (st:Le dJ H) (G:kH F R g H) (ht:t<F*R):
 aa C (k+3) (s "rook_attacks") [.ref g,.I t,.I (bi (F*R) p)] H (lE (.I (b5 F R fS p t)) H):=by
 refine P.mM fun _=>?_;unfold gX;refine au ?_;refine cq P 4 (fun i ρ H'=>Le H H'∧∃v4,ρ=[some (.ref g),some (.I t),some (.I (bi (F*R) p)),some (.I (b5 F R (List.range i) p t)),v4,none,none]) ?_ ⋯ ?_ ?_
 · exact⟨rfl,Le.app _ _,_,by rw[List.range_zero,qN];rfl⟩
 · rintro i ρ H' hi ⟨le,v4,rfl⟩;refine aY rfl ?_;refine aa.up (k:=k+2) (aa.pv (P.l8 z (st.trans le) (G.le le) ⋯ ht) ?_);exact IW.or (az ⟨le,some (.I (i:Nat)),by rw[oC,←List.range_succ];rfl⟩)
 · rintro ρ H' ⟨le,v4,rfl⟩;exact aM (by exact⟨rfl,le⟩)
theorem Pg.di (z:Sz F R) (st:Le dJ H) (G:kH F R g H) (ht:t<F*R):
 aa C (k+3) (s "bishop_attacks") [.ref g,.I t,.I (bi (F*R) p)] H (lE (.I (b5 F R fA p t)) H):=by
 injection C k H F R g p t with P z st G ht
 refine P.jC ?_;rintro-_;unfold fG;refine au ?_;refine yj P 4 8 (fun i ρ H'=>Le H H'∧∃v4,ρ=[some (.ref g),some (.I t),some (.I (bi (F*R) p)),some (.I (b5 F R ((List.range i).map (4+ ·)) p t)),v4,none,none]) ?_ ⋯ ⋯ ?_ ?_
 · exact⟨rfl,rfl,Le.app _ _,_,by rw[List.range_zero,List.map_nil,qN];rfl⟩
 · rintro-i ρ H' hi ⟨le,v4,rfl⟩;refine aY rfl ?_;refine aa.up (k:=k+2) (aa.pv (P.l8 z (st.trans le) (G.le le) ⋯ ht) ?_);exact IW.or (az ⟨le,some (.I ((4+i:Nat):Int)),by rw[oC,List.range_succ,List.map_append];rfl⟩)
 · rintro-ρ H' ⟨le,v4,rfl⟩;exact aM (by exact⟨rfl,le⟩)
theorem Pg.qm (z:Sz F R) (st:Le dJ H) (G:kH F R g H) (ht:t<F*R):
 aa C (k+4) (s "queen_attacks") [.ref g,.I t,.I (bi (F*R) p)] H (lE (.I (b5 F R (fS++fA) p t)) H):=by
 refine P.k_ fun _=>?_;unfold gA;refine aM ?_;refine aa.up (k:=k+3) (aa.lv (P.d5 z st G ht) fun H1 le=>?_);refine aa.up (k:=k+3) (aa.lv (P.di z (st.trans le) (G.le le) ht) fun H2 bJ=>?_);exact BW.or ⟨by rw[yV],le.trans bJ⟩
def dirsOf (kind:Nat):List Nat:=if kind=3 then fA else if kind=4 then fS else if kind=5 then fS++fA else[]
theorem Pg.pa (z:Sz F R) (st:Le dJ H) (G:kH F R g H) (ht:t<F*R) {kind:Nat} (hk:kind=3∨kind=4∨kind=5):
 aa C (k+5) (s "slider_attacks") [.ref g,.I kind,.I t,.I (bi (F*R) p)] H (lE (.I (b5 F R (dirsOf kind) p t)) H):=by
 refine P.jH fun _=>?_;unfold fL;refine bA ?_;refine Gp P.dO (CW.eq (bk.bool ⟨fun e=>aM ?_,fun e=>bA ?_⟩))
 · have:kind=3:=by have:=z03 e;omega
   subst this;exact aa.up (k:=k+3) (P.di z st G ht)
 have n3:=z04 e;refine Gp P.fu (CW.eq (bk.bool ⟨fun e=>aM ?_,fun e=>bA ?_⟩))
 · have:kind=4:=by have:=z03 e;omega
   subst this;exact aa.up (k:=k+3) (P.d5 z st G ht)
 have n4:=z04 e;refine Gp P.cB (CW.eq (bk.bool ⟨fun e=>aM ?_,fun e=>?_⟩))
 · have:kind=5:=by have:=z03 e;omega
   subst this;exact aa.up (k:=k+4) (P.qm z st G ht)
 · have n5:=z04 e;omega
def Ca (F R side kind t:Nat) (p:Nat→Bool):Int:=
 if kind=1 then cu F R t (aF side)else if kind=2 then cu F R t cY else if kind=6 then cu F R t eK else b5 F R (dirsOf kind) p t
theorem Pg.qk (z:Sz F R) (st:Le dJ H) (G:kH F R g H) (ht:t<F*R) {side kind:Nat} (hs:side<2) (pD:1≤kind) (tK:kind≤6):
 aa C (k+6) (s "piece_attacks") [.ref g,.I side,.I kind,.I t,.I (bi (F*R) p)] H (lE (.I (Ca F R side kind t p)) H):=by
 injection C k H F R g p t side kind with P z st G ht hs pD tK
 have hn:=z.n;have G':=G;obtain(⟨kg,rla,rs,A⟩):=G';refine P.k9 ?_;rintro-_;unfold gz;refine bA ?_;refine Gp P.fq (CW.eq (bk.bool ⟨?_,?_⟩))
 · rintro-e;refine aM ?_;have:kind=1:=by have:=z03 e;omega
   subst this;have:side=0∨side=1:=⋯
   rcases this with rfl|rfl
   · exact P.yG A.o (cz.list A.pw nofun nofun rfl (aG A.p0 ht ⋯ rfl ⟨rfl,Le.fQ _⟩))
   · exact P.yG A.o (cz.list A.pw nofun nofun rfl (aG A.p1 ht ⋯ rfl ⟨rfl,Le.fQ _⟩))
 rintro-e;refine bA ?_;have n1:=z04 e;refine Gp P.fU (CW.eq (bk.bool ⟨?_,?_⟩))
 · rintro-e;refine aM ?_;have:kind=2:=by have:=z03 e;omega
   subst this;exact P.EA A.o (aG A.n ht ⋯ rfl ⟨rfl,Le.fQ _⟩)
 rintro-e;refine bA ?_;have n2:=z04 e;refine Gp P.fj (CW.eq (bk.bool ⟨?_,?_⟩))
 · rintro-e;refine aM ?_;have:kind=6:=by have:=z03 e;omega
   subst this;exact P.zZ A.o (aG A.k ht ⋯ rfl ⟨rfl,Le.fQ _⟩)
 rintro-e;refine aM ?_;have n6:=z04 e;refine aa.up (k:=k+5) (aa.lv (P.pa z st G ht (kind:=kind) ⋯) ?_);rintro-H' le;refine⟨?_,le⟩;unfold Ca;rw[if_neg ⋯,if_neg ⋯,if_neg ⋯]
end
theorem xu {n k:Nat} {p:Nat→Bool} (hk:k<n) (h:p k=true):0<cnt n p:=by have:=rI hk h;omega
theorem kB {x:Int} {n:Nat} (h0:0≤x) (h1:x<2^n):cnt n (tb x)=0↔x=0:=by
 constructor
 · intro h;refine aE fun i=>?_;rw[bU]
   by_cases hi:i<n
   · cases q:tb x i with
     |false=>rfl
     |true=>have:=xu hi q;omega
   · exact nA h0 h1 ⋯
 · rintro rfl;exact nD n
theorem AH {x:Int} {n:Nat} (h0:0≤x) (h1:x<2^n):decide (Builtin.bitAnd x (x-1)≠0)=decide (1<cnt n (tb x)):=by
 injection x n with h0 h1
 by_cases hx:x=0
 · subst hx;rw[nD];decide
 · obtain(⟨k,t1,t2,t3,_⟩):=s7 (x:=x) ⋯;have hk:k<n:=by
    rcases Nat.lt_or_ge k n with h|h
    · exact h
    · rw[nA h0 h1 h]at t1;cases t1
   have c1:=rI hk t1;have e2:cnt n (tb (Builtin.bitAnd x (x-1)))=cnt n (fun i=>tb x i&&decide (i≠k)):=dB fun i _=>t3 i;have z:=kB (n:=n) (fe h0:0≤Builtin.bitAnd x (x-1)) (Int.lt_of_le_of_lt (fZ h0) h1);rw[e2]at z
   congr 1
   refine propext ⟨?_,?_⟩
   · rintro-h;have:¬cnt n (fun i=>tb x i&&decide (i≠k))=0:=fun q=>h (z.mp q);omega
   · rintro-h;rintro-q;have:=z.mpr q;omega
theorem kK (n:Nat) (p:Nat→Bool):cnt n (tb (bi n p))=cnt n p:=dB fun i hi=>by rw[aq];simp[hi]
section
variable {C:Cx} (P:Pg C) {k:Nat} {H:Hp}
include P
theorem Pg.cn {n:Nat} {p:Nat→Bool}:aa C (k+1) (s "count_bits") [.I (bi n p)] H (fW (.I (cnt n p)) H):=
 aa.up (k:=1) (l:=⋯) (aa.mono (t6 P n (bi n p) (gL _ _) (jv _ _)) fun v H' h=>by rw[kK]at h;exact⟨h.1,h.2⟩)
theorem Pg.iR {n:Nat} {p:Nat→Bool}:aa C (k+1) (s "more_than_one") [.I (bi n p)] H (fW (.bool (decide (1<cnt n p))) H):=by
 refine P.k8 fun _=>?_;unfold gy;refine aM ?_;exact BW.sub (BW.and (CW.ne ⟨by rw[AH (gL _ _) (jv n _),kK],rfl⟩))
theorem Pg.CD {m:Nat} (hm:m<64):aa C (k+1) (s "highest") [.I (2^m)] H (fW (.I m) H):=by
 injection C k H m with P hm
 have pw:(0:Int)<2^m:=Int.pow_pos nofun;have sh:∀(a b:Nat),((2:Int)^a).fdiv (2^b)=if b≤a then 2^(a-b)else 0:=by
  rintro-a b;refine aE ?_;rintro-i;rw[eD,dR]
  split
  · rw[dR];congr 1;apply propext;omega
  · rw[bU];simp;omega
 refine P.wx ?_;rintro-_;unfold qQ;refine bA ?_;refine CW.eq (bk.bool ⟨fun e=>absurd (z03 e) ⋯,?_⟩);rintro-_;refine au ?_;refine BD (fun q ρ H'=>H=H'∧∃j:Nat,j≤6∧q=6-j∧(∀i,i<j→(2:Nat)^i≤m)∧ρ=[some (.I (2^m)),some (.I ((2^j:Nat):Int)),none]) 6 ⟨rfl,0,⋯,rfl,fun i hi=>⋯,rfl⟩ ?_;rintro-q ρ H' ⟨rfl,j,hj,rfl,hlow,rfl⟩;refine BW.shr (z25 _) (bk.int ⟨?_,?_⟩)
 · rintro-e;rw[z02,sh]at e;have hle:2^j≤m:=by
    by_cases h:2^j≤m
    · exact h
    · rw[if_neg h]at e;cases e
   have Rw:j<6:=by
    rcases Nat.lt_or_ge j 6 with h|h
    · exact h
    · have:j=6:=⋯
      subst this;omega
   refine aY rfl ?_;refine IW.mul (.inr nofun) (az ⟨6-(j+1),⋯,rfl,j+1,⋯,rfl,?_,?_⟩)
   · rintro-i hi
     by_cases h:i=j
     · subst h;exact hle
     · exact hlow i ⋯
   · have:((2^j:Nat):Int)*2=((2^(j+1):Nat):Int):=by rw[Nat.pow_succ];push_cast;rfl
     rw[this]
     rfl
 · rintro-e;rw[z02,sh]at e;have hlt:m<2^j:=by
    by_cases h:2^j≤m
    · rw[if_pos h]at e;have:(0:Int)<2^(m-2^j):=Int.pow_pos nofun;have:=z04 e;omega
    · omega
   refine au ?_;refine BD (fun q ρ H'=>H=H'∧∃j m' sq:Nat,q=j∧j≤6∧m'<2^j∧sq+m'=m∧ρ=[some (.I (2^m')),some (.I ((2^j:Nat):Int)),some (.I sq)]) j ⟨rfl,j,m,0,rfl,hj,hlt,⋯,rfl⟩ ?_;rintro-q ρ H' ⟨rfl,j,m',sq,rfl,hj,EI,hsum,rfl⟩;refine CW.gt (bk.bool ⟨?_,?_⟩)
   · rintro-e;have h1:=z03 e;obtain(⟨i,rfl⟩):∃i,q=i+1:=by
      cases q with
      |zero=>simp at h1
      |succ i=>exact⟨i,rfl⟩
     refine aY rfl ?_;refine IW.div nofun nofun (bA ?_);have ed:(((2^(i+1):Nat):Int)).fdiv 2=((2^i:Nat):Int):=by
      rw[z16 _ nofun,Nat.pow_succ];omega
     rw[ed];refine BW.shr (z25 _) (bk.int ⟨?_,?_⟩)
     · rintro-e;rw[z02,sh]at e;have hle:2^i≤m':=by
        by_cases h:2^i≤m'
        · exact h
        · rw[if_neg h]at e;cases e
       refine aY rfl ?_;refine IW.shr (z25 _) (aY rfl ?_);rw[z02,sh,if_pos hle];refine IW.add (az (nx (az ⟨i,⋯,rfl,i,m'-2^i,sq+2^i,rfl,⋯,by rw[Nat.pow_succ]at EI;omega,⋯,?_⟩)))
       push_cast;rfl
     · rintro-e;rw[z02,sh]at e;have hlt:m'<2^i:=by
        by_cases h:2^i≤m'
        · rw[if_pos h]at e;have:(0:Int)<2^(m'-2^i):=Int.pow_pos nofun;have:=z04 e;omega
        · omega
       exact az ⟨i,⋯,rfl,i,m',sq,rfl,⋯,hlt,hsum,rfl⟩
   · rintro-e;have h1:=z04 e;have:q=0:=by
      cases q with
      |zero=>rfl
      |succ i=>
       exfalso
       have:=Nat.pow_le_pow_right (show 0<2 by decide) (show 1≤i+1 by omega);omega
     subst this;refine aM ?_;have:m'=0:=by simp at EI;exact EI
     subst this;exact⟨by congr 1;omega,rfl⟩
theorem Pg.Ay {m:Nat} (hm:m<64):aa C (k+2) (s "lowest") [.I (2^m)] H (fW (.I m) H):=by
 refine P.yI fun _=>?_;unfold uU;refine aM ?_;have e:Builtin.bitAnd (2^m) (-(2^m))=2^m:=by
  have pw:(0:Int)<2^m:=Int.pow_pos nofun;obtain⟨k,t1,t2,t3,t4⟩:=s7 pw;rw[t4];rw[dR]at t1;rw[z03 t1]
 exact UW.neg (BW.and (by rw[e];exact aa.up (k:=k+1) (P.CD hm)))
omit P in
theorem zJ {n m:Nat} {p:Nat→Bool} (hm:m<n) (h:∀i,i<n→(p i=true↔i=m)):bi n p=2^m:=aE fun i=>by
 rw[aq,dR]
 by_cases hi:i<n
 · simp only[hi,decide_true,Bool.true_and];rw[z07,h i hi];simp
 · have:¬i=m:=⋯
   simp[hi,this]
def dc (n:Nat) (p:Nat→Bool):List Nat:=(List.range n).filter p
omit P in
theorem Bi {n q:Nat} {p:Nat→Bool} (hq:q<n):dc n (fun i=>p i&&decide (i<q+1))=if p q then dc n (fun i=>p i&&decide (i<q))++[q]else dc n (fun i=>p i&&decide (i<q)):=by
 injection n q p with hq
 unfold dc;have gen:∀m,((List.range n).filter fun i=>p i&&decide (i<m))=((List.range (min n m)).filter p):=by
  rintro-m;have:List.range n=List.range (min n m)++(List.range (n-min n m)).map (min n m+ ·):=by rw[←List.range_add];congr 1;omega
  rw[this,List.filter_append];have h2:((List.range (n-min n m)).map (min n m+ ·)).filter (fun i=>p i&&decide (i<m))=[]:=by
   rw[List.filter_eq_nil_iff];rintro-i hi;obtain(⟨j,hj,rfl⟩):=List.mem_map.mp hi;have:=List.mem_range.mp hj;simp;intro _;omega
  rw[h2,List.append_nil];exact List.filter_congr fun i hi=>by
   have:=List.mem_range.mp hi;have:i<m:=⋯
   simp[this]
 rw[gen,gen,Nat.min_eq_right ⋯,Nat.min_eq_right ⋯,List.range_succ,List.filter_append]
 cases h:p q<;>simp[h]
omit P in
theorem vj {n q q':Nat} {p:Nat→Bool} (hle:q≤q') (h:∀i,q≤i→i<q'→i<n→p i=false):dc n (fun i=>p i&&decide (i<q'))=dc n (fun i=>p i&&decide (i<q)):=by
 unfold dc;refine List.filter_congr fun i hi=>?_;have:=List.mem_range.mp hi
 by_cases h1:i<q
 · have:i<q':=⋯
   simp[h1,this]
 · by_cases h2:i<q'
   · simp[h i ⋯ h2 this]
   · simp[h1,h2]
def QZ (n:Nat) (p:Nat→Bool) (H:Hp):Nat→List (Option V)→Hp→Prop:=fun m ρ H'=>Le H H'∧∃(x:Int) (q:Nat),0≤x∧m=x.toNat∧(∀i,tb x i=(decide (q+i<n)&&p (q+i)))∧H'[H.length]? =some (.L (nl (dc n (fun i=>p i&&decide (i<q)))))∧ρ=[some (.I x),some (.ref H.length),some (.I q)]
theorem Pg.gi {n:Nat} {p:Nat→Bool} (hn:n≤64):aa C (k+1) (s "squares_of") [.I (bi n p)] H (fun v H'=>∃o,v=.ref o∧Le H H'∧H.length≤o∧H'[o]? =some (.L (nl (dc n p)))):=by
 injection C k H n p with P hn
 refine P.qf ?_;rintro-hT;unfold j6;refine au ?_;refine⟨by simp,au ?_⟩;have fifteen:∀x:Int,Builtin.bitAnd x 15=0→∀i,i<4→tb x i=false:=by
  rintro-x h i hi;have:=congrArg (tb · i) h;simp only[aL,bU]at this;have Pb:tb 15 i=true:=by
   have:i=0∨i=1∨i=2∨i=3:=⋯
   rcases this with rfl|rfl|rfl|rfl<;>decide
  rw[Pb,Bool.and_true]at this;exact this
 refine BD (QZ n p H) (bi n p).toNat ⟨Le.app _ _,bi n p,0,gL _ _,rfl,fun i=>by rw[aq];simp,?_,rfl⟩ ?_
 · have:dc n (fun i=>p i&&decide (i<0))=[]:=by unfold dc;rw[List.filter_eq_nil_iff];intro i _;simp
   rw[this];exact af _ _
 rintro-m ρ H' ⟨le,x,q,x0,rfl,hx,ho,rfl⟩;refine bk.int ⟨?_,?_⟩
 · rintro-e;have xne:=z03 e;have xb:x.toNat<2^64:=by
    have:x<2^64:=by
     refine Int.lt_of_not_ge ?_;rintro-h;obtain(⟨m,rfl⟩):=z15 x0;have h':2^64≤m:=by exact_mod_cast h
     obtain(⟨i,hi,hb⟩):=Nat.exists_ge_and_testBit_of_ge_two_pow h';have:=hx i;rw[bI,hb]at this;have:q+i<n:=by
      by_cases h:q+i<n
      · exact h
      · simp[h]at this
     omega
    omega
   refine BD (fun m' ρ eG=>H'=eG∧∃(y:Int) (r:Nat),0<y∧m'=y.toNat∧y.toNat≤x.toNat∧q≤r∧(∀i,tb y i=(decide (r+i<n)&&p (r+i)))∧(∀i,q≤i→i<r→i<n→p i=false)∧ρ=[some (.I y),some (.ref H.length),some (.I r)]) x.toNat
    ⟨rfl,x,q,⋯,rfl,⋯,⋯,hx,fun i h1 h2=>⋯,rfl⟩ ?_
   rintro-m' ρ eG ⟨rfl,y,r,y0,rfl,yx,qr,hy,hz,rfl⟩;refine BW.and (bk.int ⟨?_,?_⟩)
   · rintro-e;have Ep:Builtin.bitAnd y 15=0:=by simpa using e
     have f:=fifteen y Ep;refine aY rfl ?_;refine IW.shr nofun (aY rfl ?_);have J3:y.fdiv (2^(4:Int).toNat)=y/16:=by rw[z16 _ nofun];rfl
     have RU:y=y/16*16:=by
      have:y=(y.fdiv (2^4))*2^4:=aE<|by
       rintro-i;rw[hE,eD]
       by_cases h:4≤i
       · simp[h]
       · simp[h,f i ⋯]
      rw[z16 _ nofun]at this;exact this
     refine IW.add (az ⟨(y/16).toNat,⋯,rfl,y/16,r+4,⋯,rfl,⋯,⋯,?_,?_,?_⟩)
     · rintro-i;have:tb (y.fdiv (2^4)) i=tb y (i+4):=eD y 4 i;rw[z16 _ nofun]at this;have h2:tb (y/16) i=tb y (i+4):=this;rw[h2,hy,show r+(i+4)=r+4+i by omega]
     · rintro-i h1 h2 h3
       by_cases h:i<r
       · exact hz i h1 h h3
       · have:=f (i-r) ⋯;rw[hy,show r+(i-r)=i by omega]at this
         simpa [h3] using this
     · rw[J3];push_cast;rfl
   · rintro-e;have sm:y/2<y:=⋯
     have e2:y.fdiv (2^(1:Int).toNat)=y/2:=by rw[z16 _ nofun];rfl
     have t0:decide (Builtin.bitAnd y 1≠0)=tb y 0:=by
      have:=d_ y 0
      simpa using this
     have hrn:tb y 0=true→r<n:=by
      rintro-h;rw[hy]at h
      by_cases q:r<n
      · exact q
      · simp[q]at h
     have sh:∀i,tb (y/2) i=(decide (r+1+i<n)&&p (r+1+i)):=by
      rintro-i;have:tb (y.fdiv (2^1)) i=tb y (i+1):=eD y 1 i;rw[z16 _ nofun]at this;have h2:tb (y/2) i=tb y (i+1):=this;rw[h2,hy,show r+(i+1)=r+1+i by omega]
     have same:=vj (n:=n) (p:=p) qr hz;refine bA ?_;refine BW.and (bk.int ⟨?_,?_⟩)
     · rintro-e;rw[t0]at e;have rn:=hrn e;have pr:p r=true:=by rw[hy]at e;simpa [rn] using e
       refine cC ?_;refine⟨_,_,rfl,ho,cR.append hT ho (by rw[aJ];unfold dc;have:=z13 (fun i=>p i&&decide (i<q)) (List.range n);simp at this;omega) ⟨rfl,az (nx (aY rfl ?_))⟩⟩;refine IW.shr nofun (aY rfl ?_);refine IW.add (az ⟨(y/2).toNat,⋯,le.set (z21 _) _,y/2,r+1,⋯,rfl,sh,?_,?_⟩)
       · rw[Bi rn,if_pos pr,same];have:nl (dc n (fun i=>p i&&decide (i<q))++[r])=nl (dc n (fun i=>p i&&decide (i<q)))++[V.I r]:=by simp[nl]
         rw[this];exact get_set _ ho
       · rw[e2];push_cast;rfl
     · rintro-e;rw[t0]at e;refine aY rfl ?_;refine IW.shr nofun (aY rfl ?_);refine IW.add (az ⟨(y/2).toNat,⋯,le,y/2,r+1,⋯,rfl,sh,?_,?_⟩)
       · have:dc n (fun i=>p i&&decide (i<r+1))=dc n (fun i=>p i&&decide (i<q)):=by
          refine vj ⋯ ?_;rintro-i h1 h2 h3
          by_cases h:i<r
          · exact hz i h1 h h3
          · have:i=r:=⋯
            subst this;rw[hy]at e
            simpa [h3] using e
         rw[this];exact ho
       · rw[e2];push_cast;rfl
 · rintro-e;have xz:x=0:=by simpa using e
   subst xz;refine aM ?_;refine⟨_,rfl,le,z21 _,?_⟩;rw[ho]
   congr 3
   unfold dc;refine List.filter_congr ?_;rintro-i hi;have hi:=List.mem_range.mp hi
   by_cases h:i<q
   · simp[h]
   · have:=hx (i-q);rw[bU,show q+(i-q)=i by omega]at this;simp[hi]at this;simp[this]
end
section
variable {C:Cx} (P:Pg C) {k:Nat} {H:Hp} {F R g:Nat}
include P
theorem Pg.direction (z:Sz F R) (G:kH F R g H) {d a b:Nat} (hd:d<8) (ha:a<F*R) (hb:b∈bB F R d a):
 aa C (k+1) (s "direction") [.ref g,.I a,.I b] H (lE (.I d) H):=by
 injection C k H F R g d a b with P z G hd ha hb
 have hn:=z.n;have hbl:=bT hb;refine P.r_ ?_;rintro-_;unfold lS;refine cq P 8 (fun i ρ H'=>A3 (Le H H') (i≤d) (∃v3,ρ=[some (.ref g),some (.I a),some (.I b),v3,none])) ?_ ⋯ ?_ ?_
 · exact⟨by rfl,Le.app _ _,⋯,_,rfl⟩
 · rintro-i ρ H' hi ⟨le,hid,v3,rfl⟩;obtain(⟨kg,rla,rs,G'⟩):=G.le le;refine bA ?_;refine P.nU G'.o (G'.r.get hi ha ⋯ rfl rfl (BW.shr ⋯ (BW.and (bk.int ⟨?_,?_⟩))))
   · rintro-e;rw[z02,d_]at e;unfold cP at e;rw[aq]at e;simp only[hbl,decide_true,Bool.true_and,z00]at e;have:=fP z hd hi ha hb e;subst this;refine aM ?_;exact⟨rfl,le⟩
   · rintro-e;rw[z02,d_]at e;unfold cP at e;rw[aq]at e;simp only[hbl,decide_true,Bool.true_and,decide_eq_false_iff_not]at e;have:i≠d:=by rintro rfl;exact e hb
     exact az ⟨le,⋯,_,rfl⟩
 · rintro-ρ H' ⟨le,hid,_⟩;omega
def ju (F R d a b:Nat):Int:=bi (F*R) (fun u=>decide (u∈bB F R d a)&&decide (ahead d u b))
theorem Pg.between (z:Sz F R) (G:kH F R g H) {d a b:Nat} (hd:d<8) (ha:a<F*R) (hb:b∈bB F R d a):
 aa C (k+2) (s "between") [.ref g,.I a,.I b] H (lE (.I (ju F R d a b)) H):=by
 have hn:=z.n;have hbl:=bT hb;refine P.wu fun _=>?_;unfold qP;refine au ?_;refine aa.up (k:=k+1) (aa.lv (P.direction z G hd ha hb) fun H' le=>?_);obtain⟨kg,rla,rs,G'⟩:=G.le le;refine bA ?_;refine CW.lt (bk.bool ⟨fun e=>absurd (z03 e) ⋯,fun _=>aM ?_⟩);have ex:Builtin.bitXor (d:Int) 2=((C4 d:Nat):Int):=by rcases BQ hd with rfl|rfl|rfl|rfl|rfl|rfl|rfl|rfl<;>decide
 refine P.nU G'.o (G'.r.get hd ha ⋯ rfl rfl (P.nU G'.o (BW.xor (G'.r.get (d:=C4 d) (te hd).1 hbl ⋯ ex rfl (BW.and ⟨?_,le⟩)))))
 congr 1
 refine aE fun i=>?_;unfold ju cP;rw[aL,aq,aq,aq]
 by_cases hi:i<F*R
 · simp only[hi,decide_true,Bool.true_and];rw[z07];simp only[z01,z00];exact tV z hd ha hb
 · simp[hi]
def xw (F a b u:Nat):Bool:=decide ((((u % F:Nat):Int)-((a % F:Nat):Int))*(((b/F:Nat):Int)-((a/F:Nat):Int))=(((u/F:Nat):Int)-((a/F:Nat):Int))*(((b % F:Nat):Int)-((a % F:Nat):Int)))
theorem Pg.line (z:Sz F R) (G:kH F R g H) {d a b:Nat} (hd:d<8) (ha:a<F*R) (hb:b∈bB F R d a):
 aa C (k+2) (s "line") [.ref g,.I a,.I b] H (lE (.I (bi (F*R) (xw F a b))) H):=by
 injection C k H F R g d a b with P z G hd ha hb
 have hn:=z.n;have hbl:=bT hb;refine P.Cw ?_;rintro-_;unfold Az;refine au ?_;refine aa.up (k:=k+1) (aa.lv (P.direction z G hd ha hb) ?_);rintro-H' le;obtain(⟨kg,rla,rs,G'⟩):=G.le le;refine bA ?_;refine CW.lt (bk.bool ⟨fun e=>absurd (z03 e) ⋯,?_⟩);rintro-_;refine aM ?_;have ex:Builtin.bitXor (d:Int) 2=((C4 d:Nat):Int):=by rcases BQ hd with rfl|rfl|rfl|rfl|rfl|rfl|rfl|rfl<;>decide
 refine P.nU G'.o (G'.r.get hd ha ⋯ rfl rfl (P.nU G'.o (BW.xor (G'.r.get (d:=C4 d) (te hd).1 ha ⋯ ex rfl (BW.or (BW.shl ⋯ ⋯ nofun (BW.or ⟨?_,le⟩)))))))
 congr 1
 refine aE ?_;rintro-i;unfold cP;have e1:(1:Int)*2^(a:Int).toNat=2^a:=by rw[z02];omega
 rw[e1,bt,bt,aq,aq,aq,dR]
 by_cases hi:i<F*R
 · simp only[hi,decide_true,Bool.true_and];rw[z07];unfold xw;simp only[Bool.or_eq_true,z00];rw[or_assoc];exact Aw z hd ha hb hi
 · have:¬i=a:=⋯
   simp[hi,this]
end
def kb (pc:Nat→Int) (k:Nat) (t:Nat):Bool:=decide (pc t≠0)&&decide (pc t % 8=k)
def sb (pc:Nat→Int) (sd:Nat) (t:Nat):Bool:=decide (pc t≠0)&&decide (pc t/8=sd)
def cS (pc:Nat→Int) (sd k:Nat) (t:Nat):Bool:=decide (pc t=8*sd+k)
def gB (pc:Nat→Int) (t:Nat):Bool:=decide (pc t≠0)
theorem ya {pc:Nat→Int} {sd k:Nat} (pD:1≤k) (tK:k≤6) (t:Nat):(sb pc sd t&&kb pc k t)=cS pc sd k t:=by
 unfold sb kb cS;rw[z07];simp only[z01,z00];exact AV pD (z29 tK)
def fz (n:Nat) (pc:Nat→Int):Prop:=∀t,t<n→pc t=0∨(1≤pc t∧pc t≤6)∨(9≤pc t∧pc t≤14)
def bW (n:Nat) (pc:Nat→Int) (sd ks:Nat):Prop:=ks<n∧∀t,t<n→(pc t=8*sd+6↔t=ks)
def ki (g zo bo ka sa hi:Nat) (sd key:Int):List (Str×V):=[(s "geo",.ref g),(s "zob",.ref zo),(s "board",.ref bo),(s "kinds",.ref ka),(s "sides",.ref sa),(s "side",.I sd),(s "rights",.I 0),(s "ep",.I (-1)),(s "half",.I 0),(s "full",.I 1),(s "key",.I key),(s "history",.ref hi)]
structure B4 (p g ka sa:Nat) (H:Hp):Prop where
 o:∃zo bo hi sd key,H[p]? =some (.inst 242 (ki g zo bo ka sa hi sd key))
structure B3 (F R p g ka sa:Nat) (pc:Nat→Int) (H:Hp):Prop where
 o:B4 p g ka sa H
 k:H[ka]? =some (tab 7 fun k=>bi (F*R) (kb pc k))
 s:H[sa]? =some (tab 2 fun sd=>bi (F*R) (sb pc sd))
 g:kH F R g H
def ct (F R p g:Nat) (pc:Nat→Int) (H:Hp):Prop:=∃ka sa,B3 F R p g ka sa pc H
theorem B3.le {F R p g ka sa:Nat} {pc:Nat→Int} {H H':Hp} (h:B3 F R p g ka sa pc H) (l:Le H H'):B3 F R p g ka sa pc H':=
 ⟨let⟨a,b,c,d,e,f⟩:=h.o.o;⟨a,b,c,d,e,l.at_ _ _ f⟩,l.at_ _ _ h.k,l.at_ _ _ h.s,h.g.le l⟩
theorem ct.le {F R p g:Nat} {pc:Nat→Int} {H H':Hp} (h:ct F R p g pc H) (l:Le H H'):ct F R p g pc H':=let⟨a,b,c⟩:=h;⟨a,b,c.le l⟩
section
variable {C:Cx} (P:Pg C) {k:Nat} {H:Hp} {Q:V→Hp→Prop} {F R p g ka sa:Nat} {pc:Nat→Int}
include P
theorem Pg.dT (G:B4 p g ka sa H) (h:Q (.ref g) H):eM C k H (.ref p) (s "geo") Q:=by
 obtain⟨zo,bo,hi,sd,key,ho⟩:=G.o;exact eM.field ho (by rw[P.K];kernel_rfl) ∅ h
theorem Pg.dH (G:B4 p g ka sa H) (h:Q (.ref ka) H):eM C k H (.ref p) (s "kinds") Q:=by
 obtain⟨zo,bo,hi,sd,key,ho⟩:=G.o;exact eM.field ho (by rw[P.K];kernel_rfl) ∅ h
theorem Pg.dq (G:B4 p g ka sa H) (h:Q (.ref sa) H):eM C k H (.ref p) (s "sides") Q:=by
 obtain⟨zo,bo,hi,sd,key,ho⟩:=G.o;exact eM.field ho (by rw[P.K];kernel_rfl) ∅ h
theorem Pg.oU (M:fz (F*R) pc) (A:ct F R p g pc H):aa C (k+1) (s "occupied") [.ref p] H (fW (.I (bi (F*R) (gB pc))) H):=by
 obtain⟨ka,sa,A⟩:=A;refine P.uD fun _=>?_;unfold oM;refine aM ?_;refine P.dq A.o ⟨_,P.gj,aG A.s (t:=0) nofun nofun rfl (P.dq A.o ⟨_,P.tD,aG A.s (t:=1) nofun nofun rfl (BW.or ⟨?_,rfl⟩)⟩)⟩
 congr 1
 refine aE fun i=>?_;rw[bt,aq,aq,aq]
 by_cases hi:i<F*R
 · simp only[hi,decide_true,Bool.true_and];unfold sb gB;have:=M i hi;rw[z07];simp only[Bool.or_eq_true,z01,z00];exact IS this
 · simp[hi]
theorem Pg.pieces (A:ct F R p g pc H) {sd kd:Nat} (hs:sd<2) (pD:1≤kd) (tK:kd≤6):aa C (k+1) (s "pieces") [.ref p,.I sd,.I kd] H (fW (.I (bi (F*R) (cS pc sd kd))) H):=by
 obtain⟨ka,sa,A⟩:=A;refine P.yJ fun _=>?_;unfold uV;refine aM ?_;refine P.dq A.o (aG A.s hs nofun rfl (P.dH A.o (aG A.k (t:=kd) ⋯ nofun rfl (BW.and ⟨?_,rfl⟩))))
 congr 1
 refine aE fun i=>?_;rw[aL,aq,aq,aq,←ya pD tK]
 cases decide (i<F*R)<;>simp
theorem Pg.eT (z:Sz F R) (A:ct F R p g pc H) {sd ks:Nat} (hs:sd<2) (K:bW (F*R) pc sd ks):aa C (k+3) (s "king_square") [.ref p,.I sd] H (fW (.I ks) H):=by
 have hn:=z.n;obtain⟨ka,sa,A⟩:=A;refine P.oa fun _=>?_;unfold iM;refine aM ?_;refine P.dq A.o (aG A.s hs nofun rfl (P.dH A.o ⟨_,P.fj,aG A.k (t:=6) ⋯ nofun rfl (BW.and ?_)⟩));have e:Builtin.bitAnd (bi (F*R) (sb pc sd)) (bi (F*R) (kb pc 6))=2^ks:=by
  rw[←zJ (n:=F*R) (p:=cS pc sd 6) K.1 (fun i hi=>by unfold cS;rw[z00];exact K.2 i hi)];refine aE fun i=>?_;rw[aL,aq,aq,aq,←ya nofun nofun]
  cases decide (i<F*R)<;>simp
 rw[e];exact aa.up (k:=k+2) (P.Ay (by have:=K.1;omega))
theorem Pg.Bm (A:ct F R p g pc H):aa C (k+1) (s "straight_sliders") [.ref p] H (fW (.I (bi (F*R) (fun t=>kb pc 4 t||kb pc 5 t))) H):=by
 obtain⟨ka,sa,A⟩:=A;refine P.iy fun _=>?_;unfold ez;refine aM ?_;refine P.dH A.o ⟨_,P.fu,aG A.k (t:=4) ⋯ nofun rfl (P.dH A.o ⟨_,P.cB,aG A.k (t:=5) ⋯ nofun rfl (BW.or ⟨?_,rfl⟩)⟩)⟩
 congr 1
 exact aE fun i=>by rw[bt,aq,aq,aq];cases decide (i<F*R)<;>simp
theorem Pg.Bb (A:ct F R p g pc H):aa C (k+1) (s "slanting_sliders") [.ref p] H (fW (.I (bi (F*R) (fun t=>kb pc 3 t||kb pc 5 t))) H):=by
 obtain⟨ka,sa,A⟩:=A;refine P.iw fun _=>?_;unfold ew;refine aM ?_;refine P.dH A.o ⟨_,P.dO,aG A.k (t:=3) ⋯ nofun rfl (P.dH A.o ⟨_,P.cB,aG A.k (t:=5) ⋯ nofun rfl (BW.or ⟨?_,rfl⟩)⟩)⟩
 congr 1
 exact aE fun i=>by rw[bt,aq,aq,aq];cases decide (i<F*R)<;>simp
def pG (F R:Nat) (pc:Nat→Int) (sd ks t:Nat):Bool:=
 ((da F R fS (fun _=>false) ks t&&(kb pc 4 t||kb pc 5 t))||(da F R fA (fun _=>false) ks t&&(kb pc 3 t||kb pc 5 t)))&&sb pc (1-sd) t
omit P in
theorem GO (n:Nat):(0:Int)=bi n (fun _=>false):=((aT _ _).mpr fun _ _=>rfl).symm
theorem Pg.xe (z:Sz F R) (st:Le dJ H) (A:ct F R p g pc H) {sd ks:Nat} (hs:sd<2) (K:bW (F*R) pc sd ks):aa C (k+4) (s "snipers_of") [.ref p,.I sd] H (lE (.I (bi (F*R) (pG F R pc sd ks))) H):=by
 injection C k H F R p g pc sd ks with P z st A hs K
 have A0:=A;obtain(⟨ka,sa,A⟩):=A;refine P.qe ?_;rintro-_;unfold j5;refine au ?_;refine aa.up (k:=k+3) (aa.pv (P.eT z A0 hs K) ?_);refine au ?_;refine P.dT A.o ?_;rw[GO (F*R)];refine aa.up (k:=k+3) (aa.lv (P.d5 z st A.g K.1) ?_);rintro-H1 bg;refine aa.up (k:=k+1) (aa.pv (P.Bm (A0.le bg)) ?_);refine BW.and (aY rfl ?_);refine P.dT (A.le bg).o ?_;refine aa.up (k:=k+3) (aa.lv (P.di z (st.trans bg) (A.g.le bg) K.1) ?_);rintro-H2 bJ;have le:=bg.trans bJ;refine aa.up (k:=k+1) (aa.pv (P.Bb (A0.le le)) ?_);refine BW.and (IW.or (aM ?_));refine P.dq (A.le le).o (BW.sub (aG (A.le le).s (t:=1-sd) ⋯ nofun ⋯ (BW.and ⟨?_,le⟩)))
 congr 1
 refine aE ?_;rintro-i;unfold b5;rw[aL,bt,aL,aL,aq,aq,aq,aq,aq,aq];unfold pG
 cases decide (i<F*R)<;>simp
end
def ib (F R ks t u:Nat):Bool:=(List.range 8).any fun d=>decide (t∈bB F R d ks)&&(decide (u∈bB F R d ks)&&decide (ahead d u t))
theorem jP {F R:Nat} (z:Sz F R) {d ks t u:Nat} (hd:d<8) (hk:ks<F*R) (h:t∈bB F R d ks):ib F R ks t u=(decide (u∈bB F R d ks)&&decide (ahead d u t)):=by
 injection F R d ks t u with z hd hk h
 unfold ib;rw[z07,List.any_eq_true]
 constructor
 · rintro-⟨d',sC,h'⟩;simp only[z01,z00]at h';have:=fP z hd (List.mem_range.mp sC) hk h h'.1;subst this;simp only[z01,z00];exact h'.2
 · rintro-h';exact⟨d,List.mem_range.mpr hd,by simp only[h,decide_true,Bool.true_and];exact h'⟩
def ze (F R:Nat) (pc:Nat→Int) (sd ks t:Nat):Bool:=gB pc t&&!pG F R pc sd ks t
def gG (F R:Nat) (pc:Nat→Int) (sd ks t u:Nat):Bool:=ib F R ks t u&&ze F R pc sd ks u
def lg (F R:Nat) (pc:Nat→Int) (sd ks t u:Nat):Bool:=decide (cnt (F*R) (gG F R pc sd ks t)=1)&&gG F R pc sd ks t u
def pF (F R:Nat) (pc:Nat→Int) (sd ks u:Nat):Bool:=(dc (F*R) (pG F R pc sd ks)).any fun t=>lg F R pc sd ks t u
theorem Be {F R:Nat} {pc:Nat→Int} {sd ks t:Nat} (h:pG F R pc sd ks t=true):∃d,d<8∧t∈bB F R d ks:=by
 unfold pG da at h;simp only[z01,Bool.or_eq_true,List.any_eq_true,z00]at h;rcases h.1 with⟨⟨d,hd,h'⟩,_⟩|⟨⟨d,hd,h'⟩,_⟩
 · exact⟨d,by simp at hd;omega,cO h'⟩
 · exact⟨d,by simp at hd;omega,cO h'⟩
theorem FD {F R:Nat} {pc:Nat→Int} {sd ks t:Nat} (h:pG F R pc sd ks t=true):gB pc t=true:=by
 unfold pG sb at h;simp only[z01]at h;exact h.2.1
section
variable {C:Cx} (P:Pg C) {k:Nat} {H:Hp} {F R p g:Nat} {pc:Nat→Int}
include P
theorem Pg.zK (z:Sz F R) (st:Le dJ H) (M:fz (F*R) pc) (A:ct F R p g pc H) {sd ks:Nat} (hs:sd<2) (K:bW (F*R) pc sd ks):
 aa C (k+5) (s "blockers") [.ref p,.I sd] H (fun v H'=>∃m pn,v=.ref m∧Le H H'∧H'[m]? =some (.tup [.I (bi (F*R) (pF F R pc sd ks)),.I pn])):=by
 injection C k H F R p g pc sd ks with P z st M A hs K
 have hn:=z.n;have A0:=A;obtain(⟨ka,sa,A⟩):=A;refine P.uw ?_;rintro-hT;unfold oE;refine au ?_;refine aa.up (k:=k+3) (aa.pv (P.eT z A0 hs K) ?_);refine au ?_;refine aa.up (k:=k+4) (aa.lv (P.xe z st A0 hs K) ?_);rintro-H1 bg;have A1:=A.le bg;refine au ?_;refine P.dq A1.o ⟨_,P.gj,aG A1.s (t:=0) nofun nofun rfl (P.dq A1.o ⟨_,P.tD,aG A1.s (t:=1) nofun nofun rfl (BW.or (BW.xor (au ?_)))⟩)⟩;have est:Builtin.bitXor (Builtin.bitOr (bi (F*R) (sb pc 0)) (bi (F*R) (sb pc 1))) (bi (F*R) (pG F R pc sd ks))=bi (F*R) (ze F R pc sd ks):=aE<|by
  rintro-i;rw[Bo,bt,aq,aq,aq,aq]
  by_cases hi:i<F*R
  · simp only[hi,decide_true,Bool.true_and];have ho:(sb pc 0 i||sb pc 1 i)=gB pc i:=by
     unfold sb gB;have:=M i hi;rw[z07];simp only[Bool.or_eq_true,z01,z00];exact IS this
    rw[ho];unfold ze
    cases h:pG F R pc sd ks i with
    |true=>rw[FD h];rfl
    |false=>simp
  · simp[hi]
 rw[est];refine au ?_;refine md ?_;refine aa.up (k:=k+1) (aa.mono (P.gi ⋯) ?_);rintro-_ H2 ⟨o,rfl,bJ,ol,ho⟩;refine⟨o,nl (dc (F*R) (pG F R pc sd ks)),(fun i ρ H'=>Le H2 H'∧∃v7 v8 pn,ρ=[some (.ref p),some (.I sd),some (.I ks),some (.I (bi (F*R) (pG F R pc sd ks))),some (.I (bi (F*R) (ze F R pc sd ks))),
  some (.I (bi (F*R) (fun u=>((dc (F*R) (pG F R pc sd ks)).take i).any fun t=>lg F R pc sd ks t u))),some (.I pn),v7,v8,none,none,none,none,none,none,none]),rfl,ho,⟨Le.fQ _,none,none,0,?_⟩,fun i ρ H' hI=>hI.1.at_ _ _ ho,?_,?_⟩
 · have:bi (F*R) (fun u=>(([]:List Nat)).any fun t=>lg F R pc sd ks t u)=0:=(aT _ _).mpr fun _ _=>rfl;rw[List.take_zero,this]
   rfl
 · rintro-i x ρ H' hx ⟨le,v7,v8,pn,rfl⟩;obtain(⟨t,ht,rfl⟩):=dp hx;have htm:=z08 ht;have htn:t<F*R:=List.mem_range.mp (List.mem_filter.mp htm).1;have hts:pG F R pc sd ks t=true:=(List.mem_filter.mp htm).2;obtain(⟨d,hd,hray⟩):=Be hts;have tk:(dc (F*R) (pG F R pc sd ks)).take (i+1)=(dc (F*R) (pG F R pc sd ks)).take i++[t]:=by rw[List.take_add_one,ht];rfl
   have yT:=(bg.trans bJ).trans le;refine au ?_;refine P.dT (A.le yT).o ?_;refine aa.up (k:=k+2) (aa.lv (P.between z (A.g.le yT) hd K.1 hray) ?_);rintro-H4 de;refine BW.and ?_;have ein:Builtin.bitAnd (ju F R d ks t) (bi (F*R) (ze F R pc sd ks))=bi (F*R) (gG F R pc sd ks t):=aE<|by
    rintro-i;unfold ju gG;rw[aL,aq,aq,aq,jP z hd K.1 hray]
    cases decide (i<F*R)<;>simp
   rw[ein];have c0:=kB (x:=bi (F*R) (gG F R pc sd ks t)) (n:=F*R) (gL _ _) (jv _ _);rw[kK]at c0;have skip:decide (cnt (F*R) (gG F R pc sd ks t)=1)=false→bi (F*R) (fun u=>((dc (F*R) (pG F R pc sd ks)).take (i+1)).any fun t=>lg F R pc sd ks t u)=bi (F*R) (fun u=>((dc (F*R) (pG F R pc sd ks)).take i).any fun t=>lg F R pc sd ks t u):=by
    rintro-h;refine bK ?_;rintro-u _;rw[tk,List.any_append];have:lg F R pc sd ks t u=false:=by unfold lg;rw[h];rfl
    simp[this]
   refine bA ?_;refine G8 (qH (kP rfl (bk.int ⟨?_,?_⟩)))
   · rintro-e;have ne:=z03 e;refine aa.up (k:=k+1) (aa.pv P.iR ?_);refine bk.bool ⟨?_,?_⟩
     · rintro-e;refine⟨?_,fun e=>(by cases e)⟩;rintro-_;have nm:¬1<cnt (F*R) (gG F R pc sd ks t):=by simpa using e
       have c1:cnt (F*R) (gG F R pc sd ks t)=1:=by
        have:cnt (F*R) (gG F R pc sd ks t)≠0:=fun q=>ne (c0.mp q);omega
       have step:Builtin.bitOr (bi (F*R) (fun u=>((dc (F*R) (pG F R pc sd ks)).take i).any fun t=>lg F R pc sd ks t u)) (bi (F*R) (gG F R pc sd ks t))=bi (F*R) (fun u=>((dc (F*R) (pG F R pc sd ks)).take (i+1)).any fun t=>lg F R pc sd ks t u):=aE<|by
        rintro-u;rw[bt,aq,aq,aq,tk,List.any_append];have:lg F R pc sd ks t u=gG F R pc sd ks t u:=by unfold lg;rw[c1];simp
        simp only[List.any_cons,List.any_nil,Bool.or_false,this]
        cases decide (u<F*R)<;>simp
       refine aY rfl ?_;refine IW.or (bA ?_);rw[step];refine P.dq ((A.le yT).le de).o (aG ((A.le yT).le de).s hs nofun rfl (BW.and (bk.int ⟨?_,?_⟩)))
       · rintro-_;refine aY rfl ?_;exact BW.shl ⋯ ⋯ nofun (IW.or (az (nx (az (nx (az ⟨le.trans de,_,_,_,rfl⟩))))))
       · rintro-_;refine az (nx (az ?_));exact⟨le.trans de,_,_,_,rfl⟩
     · rintro-e;refine⟨fun e=>(by cases e),?_⟩;rintro-_;refine az ⟨le.trans de,some (.I (t:Nat)),some (.I (bi (F*R) (gG F R pc sd ks t))),pn,?_⟩;have mm:1<cnt (F*R) (gG F R pc sd ks t):=by simpa using e
       rw[skip (by simp;omega)];rfl
   · rintro-e;refine⟨fun e=>(by cases e),?_⟩;rintro-_;refine az ⟨le.trans de,some (.I (t:Nat)),some (.I (bi (F*R) (gG F R pc sd ks t))),pn,?_⟩;have e0:bi (F*R) (gG F R pc sd ks t)=0:=by simpa using e
     have:=c0.mpr e0;rw[skip (by simp;omega)];rfl
 · rintro-ρ H' ⟨le,v7,v8,pn,rfl⟩;refine aM ?_;rw[aJ,List.take_length];exact⟨by simp,_,pn,rfl,((bg.trans bJ).trans le).aS _,af _ _⟩
end
theorem dN (a b:Nat):(a:Int).fdiv b=((a/b:Nat):Int):=by rw[z16 _ ⋯];push_cast;rfl
theorem cJ (a b:Nat):(a:Int).fmod b=((a % b:Nat):Int):=by rw[Int.fmod_eq_emod_of_nonneg _ ⋯];push_cast;rfl
def hg (F R sd t:Nat):Nat:=if sd=0 then t/F else R-1-t/F
def sc (mg eg:Int):Int:=eg*65536+mg
def t7 (a:Int):Int:=if 0≤a then a/8 else-((-a)/8)
section
variable {C:Cx} (P:Pg C) {k:Nat} {H:Hp} {F R g:Nat}
include P
theorem Pg.u9 (z:Sz F R) (G:kH F R g H) {sd t:Nat} (hs:sd<2) (ht:t<F*R):aa C (k+1) (s "own_rank") [.ref g,.I sd,.I t] H (fW (.I (hg F R sd t)) H):=by
 obtain⟨kg,rla,rs,G⟩:=G;have z':=z;obtain⟨f1,f2,r1,r2⟩:=z';have c:=z.row ht;refine P.uF fun _=>?_;unfold oO;refine au ?_;refine P.a_ G.o (BW.div ⋯ ⋯ (aM ?_));rw[dN];refine⟨_,P.gj,CW.eq (bk.bool ⟨fun e=>?_,fun e=>?_⟩)⟩
 · have:sd=0:=by have:=z03 e;omega
   subst this;exact⟨rfl,rfl⟩
 · have:¬sd=0:=by have:=z04 e;omega
   refine P.f' G.o (BW.sub (BW.sub ⟨?_,rfl⟩));unfold hg;rw[if_neg this]
   congr 1
   generalize t/F=a at*;omega
theorem Pg.yF {n m:Nat} (h:n<m):aa C (k+1) (s "from_edge") [.I n,.I m] H (fW (.I ((min n (m-1-n):Nat):Int)) H):=by
 refine P.se fun _=>?_;unfold lT;refine aM ?_;refine BW.sub (BW.sub (P.min2 ⟨?_,rfl⟩))
 congr 1;exact qG (by assumption)
theorem Pg.cL {mg eg:Int} (h:eg.natAbs<2^64):aa C (k+1) (s "make_score") [.I mg,.I eg] H (fW (.I (sc mg eg)) H):=by
 refine P.qa fun _=>?_;unfold jY;refine aM ?_;exact BW.shl nofun nofun h (BW.add ⟨by unfold sc;rfl,rfl⟩)
theorem Pg.mg_of {mg eg:Int} (h1: -32768≤mg) (h2:mg<32768):aa C (k+2) (s "mg_of") [.I (sc mg eg)] H (fW (.I mg) H):=by
 refine P.z5 fun _=>?_;unfold xQ;refine aM ?_;refine aa.up (k:=k+1) (P.sy fun _=>?_);unfold l7;refine aM ?_;refine⟨_,P.Bv,BW.add ⟨_,P.FL,BW.sub (BW.and ⟨_,P.Bv,BW.sub ⟨?_,rfl⟩⟩)⟩⟩;have:Builtin.bitAnd (sc mg eg+32768) (65536-1)=(sc mg eg+32768) % 65536:=kbt_mask _ 16;rw[this];unfold sc
 congr 1;omega
theorem Pg.Ck {a:Int}:aa C (k+1) (s "divide") [.I a,.I 8] H (fW (.I (t7 a)) H):=by
 refine P.yH fun _=>?_;unfold uS;refine au ?_;refine P.abs (P.abs (BW.div nofun nofun (bA ?_)));have e:((a.natAbs:Int)).fdiv ((8:Int).natAbs:Int)=(a.natAbs:Int)/8:=by rw[z16 _ nofun];rfl
 rw[e];refine CW.lt (CW.lt (CW.Ql (bk.bool ⟨fun e=>aM ?_,fun e=>aM ?_⟩)))
 · refine UW.neg ⟨?_,rfl⟩;simp at e;unfold t7;rw[if_neg ⋯]
   congr 2;omega
 · refine⟨?_,rfl⟩;simp at e;unfold t7;rw[if_pos ⋯]
   congr 1;omega
end
def vC (F R sd:Nat) (p:Nat→Bool) (t:Nat):Bool:=if sd=0 then decide (F≤t)&&p (t-F)else decide (t+F<F*R)&&p (t+F)
def BS (F R:Nat) (p:Nat→Bool) (t:Nat):Bool:=(decide (1≤t)&&(p (t-1)&&!decide ((t-1) % F=F-1)))||(decide (t+1<F*R)&&(p (t+1)&&!decide ((t+1) % F=0)))
section
variable {C:Cx} (P:Pg C) {k:Nat} {H:Hp} {F R p g:Nat} {pc:Nat→Int}
include P
theorem Pg.u_ (A:ct F R p g pc H) {sd:Nat} (hs:sd<2):aa C (k+1) (s "pawns_of") [.ref p,.I sd] H (fW (.I (bi (F*R) (cS pc sd 1))) H):=by
 obtain⟨ka,sa,A⟩:=A;refine P.uG fun _=>?_;unfold oP;refine aM ?_;refine P.dH A.o ⟨_,P.fq,aG A.k (t:=1) ⋯ nofun rfl (P.dq A.o (aG A.s hs nofun rfl (BW.and ⟨?_,rfl⟩)))⟩
 congr 1
 refine aE fun i=>?_;rw[aL,aq,aq,aq,←ya nofun nofun,Bool.and_comm (sb pc sd i)]
 cases decide (i<F*R)<;>simp
theorem Pg.vg (z:Sz F R) (G:kH F R g H) {sd:Nat} (hs:sd<2) {q:Nat→Bool}:aa C (k+1) (s "shift_up") [.ref g,.I (bi (F*R) q),.I sd] H (fW (.I (bi (F*R) (vC F R sd q))) H):=by
 injection C k H F R g sd q with P z G hs
 have hn:=z.n;have z':=z;obtain(⟨f1,f2,r1,r2⟩):=z';obtain(⟨kg,rla,rs,G⟩):=G;have sm:(bi (F*R) q).natAbs<2^64:=by
  have h1:=gL (F*R) q;have h2:=jv (F*R) q;have:(2:Int)^(F*R)≤2^64:=by exact_mod_cast Nat.pow_le_pow_right nofun ⋯
  omega
 refine P.uH ?_;rintro-_;unfold oQ;refine bA ?_;refine⟨_,P.gj,CW.eq (bk.bool ⟨?_,?_⟩)⟩
 · rintro-e;refine aM ?_;have:sd=0:=by have:=z03 e;omega
   subst this;refine P.a_ G.o (BW.shl ⋯ ⋯ sm (P.gN G.o (BW.and ⟨?_,rfl⟩)));rw[z.j7.2.2]
   congr 1
   refine aE ?_;rintro-i;unfold eQ vC;rw[aL,z02,hE,aq,aq,aq,if_pos rfl]
   by_cases hi:i<F*R
   · have:i-F<F*R:=slt (by assumption);simp[hi,this]
   · simp[hi]
 · rintro-e;refine aM ?_;have:¬sd=0:=by have:=z04 e;omega
   refine P.a_ G.o (BW.shr ⋯ ⟨?_,rfl⟩)
   congr 1
   refine aE ?_;rintro-i;unfold vC;rw[z02,eD,aq,aq,if_neg this]
   by_cases hi:i+F<F*R
   · have:i<F*R:=⋯
     simp[hi,this]
   · simp[hi]
theorem Pg.wQ (z:Sz F R) (G:kH F R g H) {q:Nat→Bool}:aa C (k+1) (s "neighbours") [.ref g,.I (bi (F*R) q)] H (fW (.I (bi (F*R) (BS F R q))) H):=by
 injection C k H F R g q with P z G
 have hn:=z.n;have z':=z;obtain(⟨f1,f2,r1,r2⟩):=z';obtain(⟨kg,rla,rs,G⟩):=G;have sm:∀m,(Builtin.bitAnd (bi (F*R) q) m).natAbs<2^64:=by
  rintro-m;have h1:=gL (F*R) q;have h2:=jv (F*R) q;have h3:=fe (y:=m) h1;have h4:=fZ (y:=m) h1;have:(2:Int)^(F*R)≤2^64:=by exact_mod_cast Nat.pow_le_pow_right nofun ⋯
  omega
 refine P.qb ?_;rintro-_;unfold jZ;refine au ?_;refine P.mF G.o (P.a_ G.o (BW.sub (G.m.file (f:=F-1) ⋯ ⋯ ⋯ (UW.inv (BW.and (BW.shl nofun nofun (sm _) (au ?_)))))));refine P.mF G.o (G.m.file (f:=0) ⋯ ⋯ ⋯ (UW.inv (BW.and (BW.shr nofun (aM ?_)))));refine BW.or (P.gN G.o (BW.and ⟨?_,rfl⟩));rw[z.j7.2.2]
 congr 1
 refine aE ?_;rintro-i;have e1:(1:Int).toNat=1:=rfl;unfold eQ BS bY;rw[e1,aL,bt,hE,eD,aL,aL,bL,bL,aq,aq,aq,aq,aq,aq]
 by_cases hi:i<F*R
 · have:i-1<F*R:=slt (by assumption)
   by_cases h2:i+1<F*R<;>simp[hi,this,h2,bne,BEq.beq]
 · simp[hi]
theorem Pg.tn (z:Sz F R) (G:kH F R g H) {sd:Nat} (hs:sd<2) {q:Nat→Bool}:aa C (k+2) (s "pawn_attacks") [.ref g,.I (bi (F*R) q),.I sd] H (fW (.I (bi (F*R) (vC F R sd (BS F R q)))) H):=by
 refine P.mL fun _=>?_;unfold gW;refine aM ?_;refine aa.up (k:=k+1) (aa.pv (P.wQ z G) ?_);exact aa.up (k:=k+1) (P.vg z G hs)
end
def vB (h:Nat→Nat) (first a t:Nat):Nat:=if first≤h t∧(a=0∨h t<a)then h t else a
def nr (n:Nat) (p:Nat→Bool) (h:Nat→Nat) (first:Nat):Nat:=(dc n p).foldl (vB h first) 0
def kr (o f e:Nat):Int:=
 (if o≠0 then(60-14*o+4*e:Int)else-12-5*e)-(if o≠0∧f=o+1 then sc (max 0 (30-6*f)) (max 0 (40-9*f))else if f≠0 then max 0 (70-12*f-4*e)else 0)
section
variable {C:Cx} (P:Pg C) {k:Nat} {H:Hp} {F R p g:Nat} {pc:Nat→Int}
include P
theorem Pg.j8 (z:Sz F R) (G:kH F R g H) {sd first:Nat} (hs:sd<2) {q:Nat→Bool}:aa C (k+2) (s "nearest_rank") [.ref g,.I (bi (F*R) q),.I sd,.I first] H (lE (.I (nr (F*R) q (hg F R sd) first)) H):=by
 injection C k H F R g sd first q with P z G hs
 have hn:=z.n;refine P.mK ?_;rintro-_;unfold gV;refine au ?_;refine md ?_;refine aa.up (k:=k+1) (aa.mono (P.gi ⋯) ?_);rintro-_ H2 ⟨o,rfl,bJ,ol,ho⟩;refine⟨o,nl (dc (F*R) q),(fun i ρ H'=>Le H2 H'∧∃v5 v6,ρ=[some (.ref g),some (.I (bi (F*R) q)),some (.I sd),some (.I first),some (.I (((dc (F*R) q).take i).foldl (vB (hg F R sd) first) 0:Nat)),v5,v6,none,none]),rfl,ho,⟨Le.fQ _,_,_,rfl⟩,fun i ρ H' hI=>hI.1.at_ _ _ ho,?_,?_⟩
 · rintro-i x ρ H' hx ⟨le,v5,v6,rfl⟩;obtain(⟨t,ht,rfl⟩):=dp hx;have htn:t<F*R:=List.mem_range.mp (List.mem_filter.mp (z08 ht)).1;have tk:(dc (F*R) q).take (i+1)=(dc (F*R) q).take i++[t]:=by rw[List.take_add_one,ht];rfl
   have es:((dc (F*R) q).take (i+1)).foldl (vB (hg F R sd) first) 0=vB (hg F R sd) first (((dc (F*R) q).take i).foldl (vB (hg F R sd) first) 0) t:=by rw[tk,List.foldl_append];rfl
   generalize ((dc (F*R) q).take i).foldl (vB (hg F R sd) first) 0=a at*;refine au ?_;refine aa.up (k:=k+1) (aa.pv (P.u9 z (G.le (bJ.trans le)) hs htn) ?_);refine bA ?_;have no:¬(first≤hg F R sd t∧(a=0∨hg F R sd t<a))→(fun i ρ H'=>Le H2 H'∧∃v5 v6,ρ=[some (.ref g),some (.I (bi (F*R) q)),some (.I sd),some (.I first),some (.I (((dc (F*R) q).take i).foldl (vB (hg F R sd) first) 0:Nat)),v5,v6,none,none]) (i+1)
    [some (.ref g),some (.I (bi (F*R) q)),some (.I sd),some (.I first),some (V.I a),some (.I (t:Nat)),some (.I (hg F R sd t)),none,none] H':=fun h=>⟨le,_,_,by rw[es];unfold vB;rw[if_neg h]⟩
   have yes:(first≤hg F R sd t∧(a=0∨hg F R sd t<a))→wX C (k+1) (.asg 4 (.V 6) .N) [some (.ref g),some (.I (bi (F*R) q)),some (.I sd),some (.I first),some (V.I a),some (.I (t:Nat)),some (.I (hg F R sd t)),none,none] H' (Nx C (k+1) .N (Tn C (k+1) (.ret (.V 4)) (bO (lE (.I (nr (F*R) q (hg F R sd) first)) H)) fun ρ H'=>Le H2 H'∧∃v5 v6,ρ=[some (.ref g),some (.I (bi (F*R) q)),some (.I sd),some (.I first),some (.I (((dc (F*R) q).take (i+1)).foldl (vB (hg F R sd) first) 0:Nat)),v5,v6,none,none])):=by
    rintro-h;refine au ?_;exact kP rfl<|az (nx (az ⟨le,_,_,by rw[es];unfold vB;rw[if_pos h];rfl⟩))
   refine CW.ge (bk.bool ⟨fun e=>CW.eq (bk.bool ⟨fun e2=>⟨fun _=>⟨fun _=>yes ?_,fun e=>(by cases e)⟩,fun e=>(by cases e)⟩,fun e2=>CW.lt (bk.bool ⟨fun e3=>⟨fun _=>⟨fun _=>yes ?_,fun e=>(by cases e)⟩,fun e=>(by cases e)⟩,fun e3=>⟨fun e=>(by cases e),fun _=>⟨fun e=>(by cases e),fun _=>az (no ?_)⟩⟩⟩)⟩),fun e=>⟨fun e=>(by cases e),fun _=>az (no ?_)⟩⟩)
   all_goals simp at*;omega
 · rintro-ρ H' ⟨le,v5,v6,rfl⟩;refine aM ?_;rw[aJ,List.take_length];exact⟨rfl,bJ.trans le⟩
theorem Pg.tB {o f e:Nat} (ho:o≤1000) (hf:f≤1000) (he:e≤1000):aa C (k+2) (s "shelter_file") [.I o,.I f,.I e] H (fW (.I (kr o f e)) H):=by
 injection C k H o f e with P ho hf he
 refine P.mO ?_;rintro-_;unfold gY;refine au ?_;have base:∀b:Int,b=(if o≠0 then(60-14*o+4*e:Int)else-12-5*e)→wX C (k+1) (.bq (.cx (.C (.bf (.V 0)) (.C (.aD .Eq (.V 1) (.B .Add (.V 0) (.I 1))) .N)))
  (.ret (.B .Sub (.V 3) (.K (s "make_score") (.C (.K (s "max") (.C (.I 0) (.C (.B .Sub (.I 30) (.B .Mult (.I 6) (.V 1))) .N))) (.C (.K (s "max") (.C (.I 0) (.C (.B .Sub (.I 40) (.B .Mult (.I 9) (.V 1))) .N))) .N)))))
  .N
  (.bq (.bf (.V 1))
  (.ret (.B .Sub (.V 3) (.K (s "make_score") (.C (.K (s "max") (.C (.I 0) (.C (.B .Sub (.B .Sub (.I 70) (.B .Mult (.I 12) (.V 1))) (.B .Mult (.I 4) (.V 2))) .N))) (.C (.I 0) .N)))))
  .N
  (.ret (.V 3)))) [some (.I o),some (.I f),some (.I e),some (.I (sc b 0)),none,none] H (bO (fW (.I (kr o f e)) H)):=by
  rintro-b hb;refine bA ?_;have Hh:¬(o≠0∧f=o+1)→wX C (k+1) (.bq (.bf (.V 1))
   (.ret (.B .Sub (.V 3) (.K (s "make_score") (.C (.K (s "max") (.C (.I 0) (.C (.B .Sub (.B .Sub (.I 70) (.B .Mult (.I 12) (.V 1))) (.B .Mult (.I 4) (.V 2))) .N))) (.C (.I 0) .N)))))
   .N
   (.ret (.V 3))) [some (.I o),some (.I f),some (.I e),some (.I (sc b 0)),none,none] H (bO (fW (.I (kr o f e)) H)):=by
   rintro-hn;refine bA ?_;refine bk.int ⟨?_,?_⟩
   · rintro-e;refine aM ?_;refine BW.mul (.inl nofun) (BW.sub (BW.mul (.inl nofun) (BW.sub (P.max2 ?_))));refine aa.pv (P.cL nofun) ?_;refine BW.sub ⟨?_,rfl⟩;have Jt:f≠0:=by simp at e;exact e
     unfold kr;rw[if_neg hn,if_pos Jt,←hb];unfold sc;congr 1;omega
   · rintro-e;refine aM ?_;refine⟨?_,rfl⟩;have Jt:¬f≠0:=by simp at e;simp[e]
     unfold kr;rw[if_neg hn,if_neg Jt,←hb];unfold sc;congr 1;omega
  refine bk.int ⟨fun e1=>BW.add (CW.eq (bk.bool ⟨fun e2=>⟨fun _=>aM ?_,fun e=>(by cases e)⟩,fun e2=>⟨fun e=>(by cases e),fun _=>Hh ?_⟩⟩)),fun e1=>⟨fun e=>(by cases e),fun _=>Hh ?_⟩⟩
  · refine BW.mul (.inl nofun) (BW.sub (P.max2 (BW.mul (.inl nofun) (BW.sub (P.max2 ?_)))));refine aa.pv (P.cL (Qm ⋯)) ?_;refine BW.sub ⟨?_,rfl⟩;have h:o≠0∧f=o+1:=by simp at e1 e2;omega
    unfold kr;rw[if_pos h,←hb];unfold sc;congr 1;omega
  · simp at e1 e2;omega
  · simp at e1;omega
 refine bk.int ⟨?_,?_⟩
 · rintro-e;refine BW.mul (.inl nofun) (BW.sub (BW.mul (.inl nofun) (BW.add ?_)));refine aa.pv (P.cL nofun) ?_;exact base _ (by rw[if_pos (by simpa using e)])
 · rintro-e;refine UW.neg (BW.mul (.inl nofun) (BW.sub ?_));refine aa.pv (P.cL nofun) ?_;exact base _ (by rw[if_neg (by simpa using e)])
end
theorem J9 {C:Cx} {k:Nat} {ρ:List (Option V)} {H:Hp} {t ts:ME} {Q:Bool→Hp→Prop} (h:wT C k t ρ H (K_ (zk C k ts ρ) Q)):zk C k (.C t ts) ρ H Q:=h
theorem J8 {C:Cx} {k:Nat} {ρ:List (Option V)} {H:Hp} {Q:Bool→Hp→Prop} (h:Q false H):zk C k .N ρ H Q:=h
theorem Fm {h:Nat→Nat} {first a t b:Nat} (ha:a≤b) (ht:h t≤b):vB h first a t≤b:=by unfold vB;split<;>omega
theorem xU {n b:Nat} {p:Nat→Bool} {h:Nat→Nat} {first:Nat} (hb:∀t,t<n→h t≤b):nr n p h first≤b:=by
 unfold nr;have key:∀(l:List Nat) (a:Nat),(∀t∈l,t<n)→a≤b→l.foldl (vB h first) a≤b:=by
  intro l
  induction l with
  |nil=>intro a _ ha;exact ha
  |cons t l ih=>intro a hl ha;exact ih _ (fun x hx=>hl x (z14 _ hx)) (Fm ha (hb t (hl t List.mem_cons_self)))
 exact key _ 0 (fun t ht=>List.mem_range.mp (List.mem_filter.mp ht).1) ⋯
theorem xE {F R:Nat} (z:Sz F R) {sd t:Nat} (ht:t<F*R):hg F R sd t<R:=by
 have:=z.row ht;have:=z.r1;unfold hg;generalize t/F=a at*
 split
 · assumption
 · exact FA (z19 nofun z.r1)
def pC (F:Nat) (pc:Nat→Int) (sd f t:Nat):Bool:=cS pc sd 1 t&&(t % F==f)
def Ba (F R:Nat) (pc:Nat→Int) (sd first f:Nat):Int:=
 kr (nr (F*R) (pC F pc sd f) (hg F R sd) first) (nr (F*R) (pC F pc (1-sd) f) (hg F R sd) first) (min f (F-1-f))
def ck (F ks:Nat):Nat:=min (max (ks % F) 1) (F-2)
def gg (F R:Nat) (pc:Nat→Int) (sd ks:Nat):Int:=((List.range 3).map fun i=>Ba F R pc sd (hg F R sd ks) (ck F ks-1+i)).sum
section
variable {C:Cx} (P:Pg C) {k:Nat} {H:Hp} {F R p g:Nat} {pc:Nat→Int}
include P
theorem Pg.gg (z:Sz F R) (A:ct F R p g pc H) {sd ks:Nat} (hs:sd<2) (K:bW (F*R) pc sd ks):aa C (k+3) (s "shelter") [.ref p,.I sd] H (lE (.I (Mine.gg F R pc sd ks)) H):=by
 injection C k H F R p g pc sd ks with P z A hs K
 have hn:=z.n;have z':=z;obtain(⟨f1,f2,r1,r2⟩):=z';have A0:=A;obtain(⟨ka,sa,A⟩):=A;refine P.wC ?_;rintro-_;unfold qV;refine au ?_;refine P.dT A.o (au ?_);refine P.dH A.o ⟨_,P.fj,aG A.k (t:=6) ⋯ nofun rfl (P.dq A.o (aG A.s hs nofun rfl (BW.and ?_)))⟩;have e:Builtin.bitAnd (bi (F*R) (kb pc 6)) (bi (F*R) (sb pc sd))=2^ks:=by
  rw[←zJ (n:=F*R) (p:=cS pc sd 6) K.1 (fun i hi=>by unfold cS;rw[z00];exact K.2 i hi)];refine aE ?_;rintro-i;rw[aL,aq,aq,aq,←ya nofun nofun,Bool.and_comm (sb pc sd i)]
  cases decide (i<F*R)<;>simp
 rw[e];refine aa.up (k:=k+2) (aa.pv (P.Ay (by have:=K.1;omega)) ?_);refine au ?_;refine aa.up (k:=k+1) (aa.pv (P.u9 z A.g hs K.1) ?_);have GG:=A.g;obtain(⟨kg,rla,rs,G⟩):=GG;refine au ?_;refine P.a_ G.o (BW.mod ⋯ (dZ ?_));rw[cJ];refine P.a_ G.o (CW.gt (bk.bool ⟨fun aO H'=>H=H'∧aO=[some (.ref p),some (.I sd),some (.ref g),some (.I ks),some (.I (hg F R sd ks)),some (.I (ck F ks)),none,none,none,none,none,none,none,none,none,none,none,none,none,none],?_,fun e=>absurd (z04 e) ⋯,?_⟩))
 · rintro-e K hK;refine au ?_;refine P.max2 (P.a_ G.o (BW.sub (P.min2 (az (hK _ _ ⟨rfl,?_⟩)))));have:min (max ((ks % F:Nat):Int) 1) ((F:Int)-2)=((ck F ks:Nat):Int):=by unfold ck;exact g6 z.f1
   rw[this]
   rfl
 rintro-aO H' ⟨rfl,rfl⟩;obtain(⟨CE,CF⟩):1≤ck F ks∧ck F ks+1<F:=g7 z.f1;refine au ?_;have DJ:ck F ks+2≤1000:=z20 CF (z20 z.f2 nofun);refine yj P (ck F ks-1) (ck F ks+2) (fun i ρ H'=>Le H H'∧∃v7 v8 v9,ρ=[some (.ref p),some (.I sd),some (.ref g),some (.I ks),some (.I (hg F R sd ks)),some (.I (ck F ks)),some (.I (((List.range i).map fun i=>Ba F R pc sd (hg F R sd ks) (ck F ks-1+i)).sum)),v7,v8,v9,none,none,none,none,none,none,none,none,none,none]) ?_ (z20 (Nat.sub_le _ _) (z20 (Nat.le_add_right _ 2) DJ)) DJ ?_ ?_
 · exact BW.sub (P.max2 ⟨by congr 1;exact Qi CE,BW.add (P.a_ G.o (BW.sub (P.min2 (BW.add ⟨by congr 1;exact Qf CF,Le.app _ _,none,none,none,rfl⟩))))⟩)
 · rintro-i ρ H' hi ⟨le,v7,v8,v9,rfl⟩;generalize hf:ck F ks-1+i=f;have fF:f<F:=hf▸Fg CE CF (Iw CE▸hi);have A1:=A0.le le;have GG:=A.g.le le;have fp:∀BU,Builtin.bitAnd (bi (F*R) (cS pc BU 1)) (bY F R f)=bi (F*R) (pC F pc BU f):=fun BU=>aE<|by
    rintro-i;unfold bY pC;rw[aL,aq,aq,aq]
    cases decide (i<F*R)<;>simp
   refine au ?_;refine aa.up (k:=k+1) (aa.pv (P.u_ A1 hs) ?_);obtain(⟨NJ,C',y9,G1⟩):=A.g.le le;refine P.mF G1.o (G1.m.file (f:=f) fF rfl ⋯ (BW.and ?_));rw[fp];refine aa.up (k:=k+2) (aa.lv (P.j8 z GG hs) ?_);rintro-H2 bJ;refine au ?_;refine BW.sub ?_;have e1:(1:Int)-(sd:Int)=((1-sd:Nat):Int):=⋯
   rw[e1];refine aa.up (k:=k+1) (aa.pv (P.u_ (A1.le bJ) (sd:=1-sd) ⋯) ?_);have G2:=G1.le bJ;refine P.mF G2.o (G2.m.file (f:=f) fF rfl ⋯ (BW.and ?_));rw[fp];refine aa.up (k:=k+2) (aa.lv (P.j8 z (GG.le bJ) hs) ?_);rintro-H3 cj;have G3:=G2.le cj;refine aY rfl ?_;refine P.a_ G3.o (aa.up (k:=k+1) (aa.pv (P.yF fF) ?_));have bd:∀t,t<F*R→hg F R sd t≤1000:=fun t ht=>by have:=xE z (sd:=sd) ht;omega
   refine aa.up (k:=k+2) (aa.pv (P.tB (xU bd) (xU bd) (Iy fF z.f2 rfl)) ?_);refine IW.add (az ⟨(le.trans bJ).trans cj,some (.I (f:Nat)),some (.I (nr (F*R) (pC F pc sd f) (hg F R sd) (hg F R sd ks):Nat)),some (.I (nr (F*R) (pC F pc (1-sd) f) (hg F R sd) (hg F R sd ks):Nat)),?_⟩);rw[List.range_succ,List.map_append,List.sum_append];simp only[List.map_cons,List.map_nil,List.sum_cons,List.sum_nil,Int.add_zero];rw[hf]
   rfl
 · rintro-ρ H' ⟨le,v7,v8,v9,rfl⟩;have e3:ck F ks+2-(ck F ks-1)=3:=Iw CE;refine aM ?_;rw[e3];exact⟨rfl,le⟩
end
def x8 (F R sd r t:Nat):Bool:=if sd=0 then t/F==r else t/F==R-1-r
def gC (pc:Nat→Int) (sd kd t:Nat):Bool:=gB pc t&&!((decide (kd=3)||decide (kd=4))&&kb pc 5 t)&&!(decide (kd=4)&&cS pc sd 4 t)
def ny (F R sd kd t:Nat) (p:Nat→Bool) (u:Nat):Bool:=
 if kd=1 then decide (u∈bD F R t (aF sd))else if kd=2 then decide (u∈bD F R t cY)else if kd=6 then decide (u∈bD F R t eK)else da F R (dirsOf kd) p t u
theorem Cb (F R sd kd t:Nat) (p:Nat→Bool):Ca F R sd kd t p=bi (F*R) (ny F R sd kd t p):=by
 unfold Ca ny
 split
 · rfl
 · split
   · rfl
   · split<;>rfl
def fh (F R:Nat) (pc:Nat→Int) (sd ks:Nat) (q:Nat×Nat) (u:Nat):Bool:=
 ny F R sd q.1 q.2 (gC pc sd q.1) u&&(!(decide (q.1≠1)&&(decide (q.1≠6)&&pF F R pc sd ks q.2))||xw F ks q.2 u)
theorem Fy {F R:Nat} {pc:Nat→Int} {sd ks u:Nat} (h:pF F R pc sd ks u=true):∃d,d<8∧u∈bB F R d ks:=by
 unfold pF at h;obtain⟨t,_,ht⟩:=List.any_eq_true.mp h;unfold lg gG ib at ht;simp only[z01,List.any_eq_true,z00,List.mem_range]at ht;obtain⟨d,hd,_,h2,_⟩:=ht.2.1;exact⟨d,hd,h2⟩
section
variable {C:Cx} (P:Pg C) {k:Nat} {H:Hp} {F R p g:Nat} {pc:Nat→Int}
include P
theorem Pg.jc (z:Sz F R) (G:kH F R g H) {sd r:Nat} (hs:sd<2) (hr:r<R):aa C (k+1) (s "rank_board") [.ref g,.I sd,.I r] H (fW (.I (bi (F*R) (x8 F R sd r))) H):=by
 obtain⟨kg,rla,rs,G⟩:=G;have z':=z;obtain⟨f1,f2,r1,r2⟩:=z';refine P.qc fun _=>?_;unfold j0;refine bA ?_;refine⟨_,P.gj,CW.eq (bk.bool ⟨fun e=>aM ?_,fun e=>aM ?_⟩)⟩
 · have:sd=0:=by have:=z03 e;omega
   subst this;exact P.z2 G.o (G.m.rank (r:=r) hr rfl ⋯ ⟨rfl,rfl⟩)
 · have:¬sd=0:=by have:=z04 e;omega
   refine P.z2 G.o (P.f' G.o (BW.sub (BW.sub (G.m.rank (r:=R-1-r) (FA (z19 nofun z.r1)) ⋯ ⋯ ⟨?_,rfl⟩))));unfold km x8;simp only[this,if_false]
theorem Pg.w_ (M:fz (F*R) pc) (A:ct F R p g pc H) {sd kd:Nat} (hs:sd<2):aa C (k+2) (s "seen_stops") [.ref p,.I sd,.I kd] H (fW (.I (bi (F*R) (gC pc sd kd))) H):=by
 injection C k H F R p g pc sd kd with P M A hs
 have A0:=A;obtain(⟨ka,sa,A⟩):=A;refine P.qd ?_;rintro-_;unfold j4;refine au ?_;refine aa.up (k:=k+1) (aa.pv (P.oU M A0) ?_);refine dZ ?_;have j1:(kd=3∨kd=4)→∀K:Kx,(∀aO H',(H=H'∧aO=[some (.ref p),some (.I sd),some (.I kd),some (.I (bi (F*R) fun t=>gB pc t&&!((decide (kd=3)||decide (kd=4))&&kb pc 5 t))),none,none,none,none,none])→K .next aO H')→wX C (k+1) (.aug 3 .BitAnd (.un .Invert (.sub (.attr (.V 0) (s "kinds")) (.gl (s "QUEEN")))) .N) [some (.ref p),some (.I sd),some (.I kd),some (.I (bi (F*R) (gB pc))),none,none,none,none,none] H K:=by
  rintro-hk K hK;refine aY rfl ?_;refine P.dH A.o ⟨_,P.cB,aG A.k (t:=5) ⋯ nofun rfl (UW.inv (IW.and (az (hK _ _ ⟨rfl,?_⟩))))⟩;have:(decide (kd=3)||decide (kd=4))=true:=by simpa using hk
  have e:Builtin.bitAnd (bi (F*R) (gB pc)) (Builtin.bitNot (bi (F*R) (kb pc 5)))=bi (F*R) (fun t=>gB pc t&&!((decide (kd=3)||decide (kd=4))&&kb pc 5 t)):=by
   refine aE ?_;rintro-i;rw[aL,bL,aq,aq,aq,this]
   cases decide (i<F*R)<;>simp
  rw[e]
  rfl
 have j2:¬(kd=3∨kd=4)→bi (F*R) (gB pc)=bi (F*R) (fun t=>gB pc t&&!((decide (kd=3)||decide (kd=4))&&kb pc 5 t)):=fun hk=>bK<|by
  rintro-i _;have:(decide (kd=3)||decide (kd=4))=false:=by simpa using hk
  rw[this];simp
 have last:∀aO H',(H=H'∧aO=[some (.ref p),some (.I sd),some (.I kd),some (.I (bi (F*R) fun t=>gB pc t&&!((decide (kd=3)||decide (kd=4))&&kb pc 5 t))),none,none,none,none,none])→wX C (k+1) (.bq (.aD .Eq (.V 2) (.gl (s "ROOK")))
  (.aug 3 .BitAnd (.un .Invert (.K (s "pieces") (.C (.V 0) (.C (.V 1) (.C (.gl (s "ROOK")) .N)))))
  .N)
  .N
  (.ret (.V 3))) aO H' (bO (fW (.I (bi (F*R) (gC pc sd kd))) H)):=by
  rintro-aO H' ⟨rfl,rfl⟩;refine bA ?_;refine⟨_,P.fu,CW.eq (bk.bool ⟨?_,?_⟩)⟩
  · rintro-e;refine aY rfl ?_;have hk:kd=4:=by have:=z03 e;omega
    refine⟨_,P.fu,aa.pv (P.pieces A0 hs (kd:=4) nofun nofun) ?_⟩;refine UW.inv (IW.and (az (nx (aM ?_))));refine⟨?_,rfl⟩
    congr 1
    refine aE ?_;rintro-i;unfold gC;rw[aL,bL,aq,aq,aq,hk]
    cases decide (i<F*R)<;>simp
  · rintro-e;refine aM ?_;have hk:¬kd=4:=by have:=z04 e;omega
    refine⟨?_,rfl⟩
    congr 1
    refine bK ?_;rintro-i _;unfold gC;simp[hk]
 refine J_ (t9 (kP rfl (GZ ⟨_,P.dO,CW.eq (bk.bool ⟨fun e=>⟨_,fun _=>j1 ?_,fun e=>(by cases e),last⟩,fun e=>J9 (t9 (kP rfl (GZ ⟨_,P.fu,CW.eq (bk.bool ⟨fun e2=>⟨_,fun _=>j1 ?_,fun e=>(by cases e),last⟩,fun e2=>J8 ⟨_,fun e=>(by cases e),fun _ K hK=>az (hK _ _ ⟨rfl,?_⟩),last⟩⟩)⟩)))⟩)⟩)))
 · have:=z03 e;omega
 · have:=z03 e2;omega
 · rw[j2 (by have:=z04 e;have:=z04 e2;omega)];rfl
theorem Pg.va (z:Sz F R) (st:Le dJ H) (M:fz (F*R) pc) (A:ct F R p g pc H) {sd ks kd t:Nat} (hs:sd<2) (K:bW (F*R) pc sd ks) (pD:1≤kd) (tK:kd≤6) (ht:t<F*R):
 aa C (k+7) (s "piece_reach") [.ref p,.I sd,.I kd,.I t,.I (bi (F*R) (pF F R pc sd ks))] H (lE (.I (bi (F*R) (fh F R pc sd ks (kd,t)))) H):=by
 injection C k H F R p g pc sd ks kd t with P z st M A hs K pD tK ht
 have hn:=z.n;have A0:=A;obtain(⟨ka,sa,A⟩):=A;refine P.og ?_;rintro-_;unfold iO;refine au ?_;refine P.dT A.o ?_;refine aa.up (k:=k+2) (aa.pv (P.w_ M A0 hs) ?_);refine aa.up (k:=k+6) (aa.lv (P.qk z st A.g ht hs pD tK) ?_);rintro-H1 bg;rw[Cb];have plain:(decide (kd≠1)&&(decide (kd≠6)&&pF F R pc sd ks t))=false→wX C (k+6) (.ret (.V 5)) [some (.ref p),some (.I sd),some (.I kd),some (.I t),some (.I (bi (F*R) (pF F R pc sd ks))),some (.I (bi (F*R) (ny F R sd kd t (gC pc sd kd)))),none,none,none,none,none,none] H1 (bO (lE (.I (bi (F*R) (fh F R pc sd ks (kd,t)))) H)):=by
  rintro-h;refine aM ?_;refine⟨?_,bg⟩
  congr 1
  refine bK ?_;rintro-i _;unfold fh;rw[h];simp
 refine bA ?_;refine⟨_,P.fq,CW.ne (bk.bool ⟨fun e1=>⟨_,P.fj,CW.ne (bk.bool ⟨fun e2=>BW.shr ⋯ (BW.and (bk.int ⟨fun e3=>⟨fun _=>aY rfl ?_,fun e=>(by cases e)⟩,fun e3=>⟨fun e=>(by cases e),fun _=>plain ?_⟩⟩)),fun e2=>⟨fun e=>(by cases e),fun _=>plain ?_⟩⟩)⟩,fun e1=>⟨fun e=>(by cases e),fun _=>plain ?_⟩⟩)⟩
 · rw[z02,d_,aq]at e3;simp only[ht,decide_true,Bool.true_and]at e3;obtain(⟨d,hd,hr⟩):=Fy e3;refine P.dT (A.le bg).o ?_;refine aa.up (k:=k+3) (aa.pv (P.eT z (A0.le bg) hs K) ?_);refine aa.up (k:=k+2) (aa.lv (P.line z (A.g.le bg) hd K.1 hr) ?_);rintro-H2 bJ;refine IW.and (az (nx (aM ?_)));refine⟨?_,bg.trans bJ⟩
   congr 1
   refine aE ?_;rintro-i;have h1:kd≠1:=by simp at e1;omega
   have h6:kd≠6:=by simp at e2;omega
   unfold fh;rw[aL,aq,aq,aq];simp only[h1,h6,e3,ne_eq,not_false_eq_true,decide_true,Bool.and_self,Bool.not_true,Bool.false_or]
   cases decide (i<F*R)<;>simp
 · rw[z02,d_,aq]at e3;simp only[ht,decide_true,Bool.true_and]at e3;rw[e3];simp
 · have h6:kd=6:=by simp at e2;omega
   simp[h6]
 · have h1:kd=1:=by simp at e1;omega
   simp[h1]
end
section
variable (F R:Nat) (pc:Nat→Int) (sd ks:Nat)
def jh (L:List (Nat×Nat)) (kd u:Nat):Bool:=L.any fun q=>(decide (kd=0)||decide (q.1=kd))&&fh F R pc sd ks q u
def yi (L:List (Nat×Nat)) (u:Nat):Bool:=decide (2≤(L.filter fun q=>fh F R pc sd ks q u).length)
def gp (q:Nat×Nat):Bool:=decide (q.1≠1)&&decide (q.1≠6)
def nt (rs:List Nat) (qs:List (Nat×Nat)) (H:Hp):Prop:=rs.length=qs.length∧∀(i:Nat) q,qs[i]? =some q→∃m,rs[i]? =some m∧H[m]? =some (.tup [.I (q.1:Nat),.I (bi (F*R) (fh F R pc sd ks q))])
def dw (kd:Nat):List (Nat×Nat):=(dc (F*R) (cS pc sd kd)).map fun t=>(kd,t)
def bM:Nat→List (Nat×Nat)
 |0=>[]
 |k+1=>bM k++dw F R pc sd (k+1)
end
section
variable {F R:Nat} {pc:Nat→Int} {sd ks:Nat}
theorem qY (F R:Nat) (pc:Nat→Int) (sd kd:Nat):(dw F R pc sd kd).length≤F*R:=by
 unfold dw dc;have:=z13 (cS pc sd kd) (List.range (F*R));simpa using this
theorem lu (F R:Nat) (pc:Nat→Int) (sd:Nat):∀i,(bM F R pc sd i).length≤i*(F*R)
 |0=>by simp[bM]
 |i+1=>by
  have:=lu F R pc sd i;have h2:=qY F R pc sd (i+1);unfold bM;rw[z12,Nat.add_mul,Nat.one_mul];omega
theorem nt.le {rs:List Nat} {qs:List (Nat×Nat)} {H H':Hp} (h:nt F R pc sd ks rs qs H) (l:Le H H'):nt F R pc sd ks rs qs H':=⟨h.1,fun i q e=>let⟨m,a,b⟩:=h.2 i q e;⟨m,a,l.at_ _ _ b⟩⟩
theorem nt.set {rs:List Nat} {qs:List (Nat×Nat)} {H:Hp} {a:Nat} {xs:List V} (h:nt F R pc sd ks rs qs H) (hl:H[a]? =some (.L xs)) (o:O):nt F R pc sd ks rs qs (H.set a o):=⟨h.1,fun i q e=>by
 obtain⟨m,e1,e2⟩:=h.2 i q e;have:a≠m:=by rintro rfl;rw[hl]at e2;cases e2
 exact⟨m,e1,ae _ this e2⟩⟩
theorem nt.snoc {rs:List Nat} {qs:List (Nat×Nat)} {H:Hp} {m:Nat} {q:Nat×Nat} (h:nt F R pc sd ks rs qs H) (hm:H[m]? =some (.tup [.I (q.1:Nat),.I (bi (F*R) (fh F R pc sd ks q))])):nt F R pc sd ks (rs++[m]) (qs++[q]) H:=by
 injection F R pc sd ks rs qs H m q with h hm
 refine⟨by simp[h.1],?_⟩;rintro-i q' e
 by_cases hi:i<qs.length
 · rw[z09 hi]at e;obtain(⟨m',a,b⟩):=h.2 i q' e;exact⟨m',by rw[z09 ((z06.mp a).1)];exact a,b⟩
 · rw[z10 ⋯]at e;have h1:=(z06.mp e).1;simp at h1;have e0:i-qs.length=0:=⋯
   rw[e0]at e;simp at e;subst e;have:=h.1;exact⟨m,by rw[z10 ⋯,show i-rs.length=0 by omega];simp,hm⟩
theorem Bt (L:List (Nat×Nat)) (q:Nat×Nat) (u:Nat):yi F R pc sd ks (L++[q]) u=(yi F R pc sd ks L u||(jh F R pc sd ks L 0 u&&fh F R pc sd ks q u)):=by
 injection F R pc sd ks L q u;have h1:jh F R pc sd ks L 0 u=decide (1≤(L.filter fun q=>fh F R pc sd ks q u).length):=by
  unfold jh;rw[z07,List.any_eq_true,z00]
  constructor
  · rintro-⟨x,hx,h⟩;have:x∈L.filter fun q=>fh F R pc sd ks q u:=List.mem_filter.mpr ⟨hx,by simpa using h⟩;exact List.length_pos_of_mem this
  · rintro-h;obtain(⟨x,hx⟩):=List.exists_mem_of_length_pos h;exact⟨x,(List.mem_filter.mp hx).1,by simpa using (List.mem_filter.mp hx).2⟩
 rw[h1];unfold yi;rw[List.filter_append,z12]
 cases h:fh F R pc sd ks q u<;>simp[h]<;>omega
theorem nC (L:List (Nat×Nat)) (q:Nat×Nat) (kd u:Nat):jh F R pc sd ks (L++[q]) kd u=(jh F R pc sd ks L kd u||((decide (kd=0)||decide (q.1=kd))&&fh F R pc sd ks q u)):=by
 unfold jh;rw[List.any_append];simp
theorem Bn {f g:Nat→Int} {kd:Nat} {a b:Int} (h1:1≤kd) (h2:kd<7) (ha:a=g kd) (hb:b=g 0) (hf:∀i,i<7→i≠kd→i≠0→f i=g i):((il ((List.range 7).map f)).set kd (.I a)).set 0 (.I b)=il ((List.range 7).map g):=by
 injection f g kd a b with h1 h2 ha hb hf
 refine List.ext_getElem? ?_;rintro-i
 by_cases hi:i<7
 · rw[d8 hi,List.getElem?_set]
   by_cases h0:0=i
   · subst h0;simp[aX,hb]
   · rw[if_neg h0,List.getElem?_set]
     by_cases h3:kd=i
     · subst h3;simp[aX,ha,hi]
     · rw[if_neg h3,d8 hi,hf i hi ⋯ ⋯]
 · rw[List.getElem?_eq_none (by simp[aX];omega),List.getElem?_eq_none (by simp[aX];omega)]
end
def AB (ks by_ rl:Nat) (tw sh:Int):List (Str×V):=[(s "king",.I ks),(s "by",.ref by_),(s "twice",.I tw),(s "reaches",.ref rl),(s "shields",.I sh)]
structure nj (F R:Nat) (pc:Nat→Int) (sd ks m by_ rl:Nat) (rs:List Nat) (H:Hp):Prop where
 o:H[m]? =some (.inst 415 (AB ks by_ rl (bi (F*R) (yi F R pc sd ks (bM F R pc sd 6))) (bi (F*R) (pF F R pc sd ks))))
 b:H[by_]? =some (tab 7 fun kd=>bi (F*R) (jh F R pc sd ks (bM F R pc sd 6) kd))
 r:H[rl]? =some (.L (refs rs))
 t:nt F R pc sd ks rs ((bM F R pc sd 6).filter gp) H
def tP (F R:Nat) (pc:Nat→Int) (sd ks m:Nat) (H:Hp):Prop:=∃by_ rl rs,nj F R pc sd ks m by_ rl rs H
theorem tP.le {F R:Nat} {pc:Nat→Int} {sd ks m:Nat} {H H':Hp} (h:tP F R pc sd ks m H) (l:Le H H'):tP F R pc sd ks m H':=let⟨a,b,c,d⟩:=h;⟨a,b,c,l.at_ _ _ d.o,l.at_ _ _ d.b,l.at_ _ _ d.r,d.t.le l⟩
section
variable {C:Cx} (P:Pg C) {k:Nat} {H:Hp} {F R p g:Nat} {pc:Nat→Int}
include P
theorem Pg.s_ {a b c d e:V}:aa C (k+2) (s "AttackMap") [a,b,c,d,e] H (fun v H'=>v=.ref H.length∧H'=H++[.inst 415 [(s "king",a),(s "by",b),(s "twice",c),(s "reaches",d),(s "shields",e)]]):=by
 refine P.r7 fun hT=>?_;unfold fE;refine P.sg (L:=[]) hT ∅ ∅ (P.sg hT ∅ ∅ (P.sg hT ∅ ∅ (P.sg hT ∅ ∅ (P.sg hT ∅ ∅ ⟨rfl,rfl,?_⟩))))
 kernel_rfl
def zF (F R:Nat) (pc:Nat→Int) (sd ks ab ar:Nat) (H:Hp):List (Nat×Nat)→Hp→Prop:=fun L H'=>Le H H'∧H'[ab]? =some (tab 7 fun kd=>bi (F*R) (jh F R pc sd ks L kd))∧∃rs,H'[ar]? =some (.L (refs rs))∧nt F R pc sd ks rs (L.filter gp) H'
def GK (F R:Nat) (pc:Nat→Int) (sd ks p ab ar:Nat):List (Nat×Nat)→List (Option V)→Prop:=fun L ρ=>∃v6 v7 v8,ρ=[some (.ref p),some (.I sd),some (.I (bi (F*R) (pF F R pc sd ks))),some (.ref ab),some (.I (bi (F*R) (yi F R pc sd ks L))),some (.ref ar),v6,v7,v8,none,none,none,none,none,none,none,none,none,none,none,none]
theorem Pg.nz (z:Sz F R) (st:Le dJ H) (M:fz (F*R) pc) (A:ct F R p g pc H) {sd ks:Nat} (hs:sd<2) (K:bW (F*R) pc sd ks):
 aa C (k+8) (s "attack_map") [.ref p,.I sd] H (fun v H'=>∃m,v=.ref m∧Le H H'∧tP F R pc sd ks m H'):=by
 injection C k H F R p g pc sd ks with P z st M A hs K
 have hn:=z.n;refine P.pV ?_;rintro-hT;unfold jS;refine au ?_;refine aa.up (k:=k+5) (aa.mono (P.zK z st M A hs K) ?_);rintro-_ H1 ⟨mt,pn,rfl,bg,h1⟩;refine cz.tup h1 nofun nofun rfl (au ?_);refine⟨by simp,BW.mR (af _ _) nofun nofun (au ?_)⟩;generalize hab:(H1++[O.L [V.I 0]]).length=ab;have F8:(H1++[O.L [V.I 0]]++[O.L (List.replicate (7:Int).toNat (V.I 0))])[ab]? =some (tab 7 fun kd=>bi (F*R) (jh F R pc sd ks [] kd)):=by
  have:tab 7 (fun kd=>bi (F*R) (jh F R pc sd ks [] kd))=O.L (List.replicate (7:Int).toNat (V.I 0)):=by
   have z0:∀kd,bi (F*R) (jh F R pc sd ks [] kd)=0:=fun kd=>(aT _ _).mpr fun _ _=>rfl;unfold tab;simp only[z0]
   rfl
  rw[this,←hab];exact af _ _
 have bJ:Le H (H1++[O.L [V.I 0]]++[O.L (List.replicate (7:Int).toNat (V.I 0))]):=(bg.aS _).aS _;have abl:H1.length<ab:=by rw[←hab];simp
 have P4:=bg.len;generalize (H1++[O.L [V.I 0]]++[O.L (List.replicate (7:Int).toNat (V.I 0))])=H2 at*;refine au ?_;refine⟨by simp,?_⟩;generalize har:H2.length=ar;have abr:ab<ar:=by rw[←har];exact aV F8
 have KN:(H2++[O.L []])[ar]? =some (.L (refs [])):=by rw[←har];exact af _ _
 have DK:=ai (O.L []) F8;have cj:Le H (H2++[O.L []]):=bJ.aS _;generalize (H2++[O.L []])=H3 at*;refine zq ?_;refine⟨_,P.fq,_,P.fU,_,P.dO,_,P.fu,_,P.cB,_,P.fj,by simp,?_⟩;have Rh:=aV KN;refine⟨_,_,(fun i ρ H'=>A3 ((zF F R pc sd ks ab ar H) (bM F R pc sd i) H') (H'[H3.length]? =some (.tup [.I 1,.I 2,.I 3,.I 4,.I 5,.I 6])) ((GK F R pc sd ks p ab ar) (bM F R pc sd i) ρ)),rfl,af _ _,⟨⟨cj.aS _,ai _ DK,[],ai _ KN,⟨rfl,fun i q e=>by simp[bM]at e⟩⟩,af _ _,none,none,none,?_⟩,fun i ρ H' hI=>hI.2,?_,?_⟩
 · have:bi (F*R) (yi F R pc sd ks (bM F R pc sd 0))=0:=(aT _ _).mpr fun _ _=>rfl;rw[this]
   rfl
 · rintro-i x ρ H' hx ⟨⟨le,hb,rs,hr,ht⟩,hot,v6,v7,v8,rfl⟩;have hi:i<6:=(z06.mp hx).1;have ex:x=.I ((i+1:Nat):Int):=by
    have:i=0∨i=1∨i=2∨i=3∨i=4∨i=5:=⋯
    rcases this with rfl|rfl|rfl|rfl|rfl|rfl<;>(cases hx;rfl)
   subst ex;refine md ?_;refine aa.up (k:=k+1) (aa.pv (P.pieces (A.le le) hs (kd:=i+1) ⋯ ⋯) ?_);refine aa.up (k:=k+1) (aa.mono (P.gi ⋯) ?_);rintro-_ H4 ⟨o,rfl,de,ol,ho⟩;have hrl:=aV hr;have hbl:=aV hb;refine⟨o,nl (dc (F*R) (cS pc sd (i+1))),(fun j ρ H'=>(zF F R pc sd ks ab ar H) (bM F R pc sd i++(dw F R pc sd (i+1)).take j) H'∧H'[H3.length]? =some (.tup [.I 1,.I 2,.I 3,.I 4,.I 5,.I 6])∧H'[o]? =some (.L (nl (dc (F*R) (cS pc sd (i+1)))))∧
    ∃v7 v8,ρ=[some (.ref p),some (.I sd),some (.I (bi (F*R) (pF F R pc sd ks))),some (.ref ab),some (.I (bi (F*R) (yi F R pc sd ks (bM F R pc sd i++(dw F R pc sd (i+1)).take j)))),some (.ref ar),some (.I ((i+1:Nat):Int)),v7,v8,none,none,none,none,none,none,none,none,none,none,none,none]),rfl,ho,?_,fun j ρ H' hI=>hI.2.2.1,?_,?_⟩
   · try dsimp only
     rw[List.take_zero,List.append_nil];exact⟨⟨le.trans de,de.at_ _ _ hb,rs,de.at_ _ _ hr,ht.le de⟩,de.at_ _ _ hot,ho,_,_,rfl⟩
   · rintro-j x ρ H5 hx ⟨⟨eJ,Hq,JF,PM,PO⟩,KJ,PF,v7,v8,rfl⟩;obtain(⟨t,htj,rfl⟩):=dp hx;have htn:t<F*R:=List.mem_range.mp (List.mem_filter.mp (z08 htj)).1;have tk:(dw F R pc sd (i+1)).take (j+1)=(dw F R pc sd (i+1)).take j++[(i+1,t)]:=by
      unfold dw;rw[List.take_add_one,z11,htj];rfl
     rw[tk,←List.append_assoc];have hL:(bM F R pc sd i++(dw F R pc sd (i+1)).take j).length≤1000:=by
      have:=lu F R pc sd i;have h2:=qY F R pc sd (i+1);have h3:i*(F*R)≤5*48:=Nat.mul_le_mul ⋯ hn;simp only[z12,List.length_take];omega
     generalize (bM F R pc sd i++(dw F R pc sd (i+1)).take j)=L at*;refine au ?_;refine aa.lv (P.va z (st.trans eJ) M (A.le eJ) hs K (kd:=i+1) (t:=t) ⋯ ⋯ htn) ?_;rintro-H6 jO;have CB:=jO.at_ _ _ Hq;refine aY rfl ?_;refine aG CB (t:=0) nofun nofun rfl (BW.and (IW.or (eX ?_)));have etw:Builtin.bitOr (bi (F*R) (yi F R pc sd ks L)) (Builtin.bitAnd (bi (F*R) (jh F R pc sd ks L 0)) (bi (F*R) (fh F R pc sd ks (i+1,t))))=bi (F*R) (yi F R pc sd ks (L++[(i+1,t)])):=aE<|by
      rintro-u;rw[bt,aL,aq,aq,aq,aq,Bt]
      cases decide (u<F*R)<;>simp
     rw[etw];refine aG CB (t:=i+1) ⋯ nofun rfl (IW.or (iV.list ⋯ CB ⋯ (by rw[aX];simp;omega) ⋯ (eX ?_)));have Nt:=get_set (.L ((il ((List.range 7).map fun kd=>bi (F*R) (jh F R pc sd ks L kd))).set ((i+1:Nat):Int).toNat (.I (Builtin.bitOr (bi (F*R) (jh F R pc sd ks L (i+1))) (bi (F*R) (fh F R pc sd ks (i+1,t))))))) CB;refine cz.list Nt nofun nofun (y:=.I (bi (F*R) (jh F R pc sd ks L 0))) ?_ (IW.or (iV.list ⋯ Nt nofun (by simp[aX]) nofun ?_))
     · have:((i+1:Nat):Int).toNat≠(0:Int).toNat:=by rw[z02];simp
       rw[List.getElem?_set_ne this];exact d8 nofun
     rw[List.set_set];have eby:((il ((List.range 7).map fun kd=>bi (F*R) (jh F R pc sd ks L kd))).set ((i+1:Nat):Int).toNat (.I (Builtin.bitOr (bi (F*R) (jh F R pc sd ks L (i+1))) (bi (F*R) (fh F R pc sd ks (i+1,t)))))).set (0:Int).toNat (.I (Builtin.bitOr (bi (F*R) (jh F R pc sd ks L 0)) (bi (F*R) (fh F R pc sd ks (i+1,t)))))
      =il ((List.range 7).map fun kd=>bi (F*R) (jh F R pc sd ks (L++[(i+1,t)]) kd)):=by
      refine Bn (kd:=i+1) ⋯ ⋯ ?_ ?_ ?_
      · refine aE ?_;rintro-u;rw[bt,aq,aq,aq,nC]
        cases decide (u<F*R)<;>simp
      · refine aE ?_;rintro-u;rw[bt,aq,aq,aq,nC]
        cases decide (u<F*R)<;>simp
      · rintro-kd h1 h2 h3;refine bK ?_;rintro-u _;have:¬i+1=kd:=fun q=>h2 q.symm;rw[nC];simp[h3,this]
     rw[eby];have BN:=get_set (.L (il ((List.range 7).map fun kd=>bi (F*R) (jh F R pc sd ks (L++[(i+1,t)]) kd)))) CB;have Ga:=ae (m:=ab) (.L (il ((List.range 7).map fun kd=>bi (F*R) (jh F R pc sd ks (L++[(i+1,t)]) kd)))) ⋯ (jO.at_ _ _ PM);have KQ:=(PO.le jO).set CB (.L (il ((List.range 7).map fun kd=>bi (F*R) (jh F R pc sd ks (L++[(i+1,t)]) kd))));have CG:=ae (m:=ab) (.L (il ((List.range 7).map fun kd=>bi (F*R) (jh F R pc sd ks (L++[(i+1,t)]) kd)))) ⋯ (jO.at_ _ _ KJ);have EJ:=ae (m:=ab) (.L (il ((List.range 7).map fun kd=>bi (F*R) (jh F R pc sd ks (L++[(i+1,t)]) kd)))) ⋯ (jO.at_ _ _ PF);have lP:Le H (H6.set ab (.L (il ((List.range 7).map fun kd=>bi (F*R) (jh F R pc sd ks (L++[(i+1,t)]) kd))))):=(eJ.trans jO).set ⋯ _;generalize H6.set ab (.L (il ((List.range 7).map fun kd=>bi (F*R) (jh F R pc sd ks (L++[(i+1,t)]) kd))))=H8 at*;have nokeep:gp (i+1,t)=false→(zF F R pc sd ks ab ar H) (L++[(i+1,t)]) H8:=fun h=>⟨lP,BN,JF,Ga,by rw[List.filter_append];simp only[List.filter_cons,h,List.filter_nil];simpa using KQ⟩;refine bA ?_;refine⟨_,P.fq,CW.ne (bk.bool ⟨fun e1=>⟨_,P.fj,CW.ne (bk.bool ⟨fun e2=>⟨fun _=>cC ?_,fun e=>(by cases e)⟩,fun e2=>⟨fun e=>(by cases e),fun _=>az ?_⟩⟩)⟩,fun e1=>⟨fun e=>(by cases e),fun _=>az ?_⟩⟩)⟩
     · refine⟨_,_,rfl,Ga,by simp,cR.append ⋯ (ai _ Ga) (by have:=KQ.1;have:=z13 gp L;simp[refs];omega) ⟨rfl,az (nx (az ?_))⟩⟩;have hk:gp (i+1,t)=true:=by
        unfold gp;simp at e1 e2;simp;omega
       have PN:=aV Ga;have Pq:=aV BN;have NA:=aV CG;have PG:=aV EJ;refine⟨⟨(lP.aS _).set ⋯ _,ae _ ⋯ (ai _ BN),JF++[H8.length],?_,?_⟩,ae _ ⋯ (ai _ CG),ae _ ⋯ (ai _ EJ),_,_,rfl⟩
       · rw[←ij];exact get_set _ (ai _ Ga)
       · rw[List.filter_append];have:[(i+1,t)].filter gp=[(i+1,t)]:=by simp[hk]
         rw[this];exact(((KQ.le (Le.app _ _)).snoc (af _ _)).set (ai _ Ga) _)
     · have h6:i+1=6:=by simp at e2;omega
       exact⟨nokeep (by unfold gp;simp[h6]),CG,EJ,_,_,rfl⟩
     · have h1:i+1=1:=by simp at e1;omega
       exact⟨nokeep (by unfold gp;simp[h1]),CG,EJ,_,_,rfl⟩
   · rintro-ρ H' ⟨hI,KI,HC,v7,v8,rfl⟩;have e:bM F R pc sd i++(dw F R pc sd (i+1)).take (nl (dc (F*R) (cS pc sd (i+1)))).length=bM F R pc sd (i+1):=by
      rw[aJ,List.take_of_length_le (by unfold dw;simp)];rfl
     rw[e]at hI⊢;exact az ⟨hI,KI,_,_,_,rfl⟩
 · rintro-ρ H' ⟨⟨le,hb,rs,hr,ht⟩,hot,v6,v7,v8,rfl⟩;refine aM ?_;refine aa.up (k:=k+3) (aa.pv (P.eT z (A.le le) hs K) ?_);refine aa.up (k:=k+2) (aa.mono P.s_ ?_);rintro-_ _ ⟨rfl,rfl⟩;exact⟨_,rfl,le.aS _,ab,ar,rs,af _ _,ai _ hb,ai _ hr,ht.le (Le.app _ _)⟩
end
def dh (F R:Nat) (pc:Nat→Int) (kq:Nat→Nat) (ml:Nat) (H:Hp):Prop:=∃m:Nat→Nat,H[ml]? =some (.L [.ref (m 0),.ref (m 1)])∧∀sd,sd<2→tP F R pc sd (kq sd) (m sd) H
theorem dh.le {F R:Nat} {pc:Nat→Int} {kq:Nat→Nat} {ml:Nat} {H H':Hp} (h:dh F R pc kq ml H) (l:Le H H'):dh F R pc kq ml H':=let⟨m,a,b⟩:=h;⟨m,l.at_ _ _ a,fun sd hs=>(b sd hs).le l⟩
section
variable (F R:Nat) (pc:Nat→Int) (kq:Nat→Nat) (sd:Nat)
def BY (kd u:Nat):Bool:=jh F R pc sd (kq sd) (bM F R pc sd 6) kd u
def vJ (u:Nat):Bool:=yi F R pc sd (kq sd) (bM F R pc sd 6) u
def SH (u:Nat):Bool:=pF F R pc sd (kq sd) u
def RC (q:Nat×Nat) (u:Nat):Bool:=fh F R pc sd (kq sd) q u
def RS:List (Nat×Nat):=(bM F R pc sd 6).filter gp
def yp (t:Nat):Bool:=!((cS pc sd 1 t&&((x8 F R sd 1 t||x8 F R sd 2 t)||vC F R (1-sd) (gB pc) t))||((cS pc sd 6 t||cS pc sd 5 t)||SH F R pc kq sd t))&&!vC F R (1-sd) (BS F R (cS pc (1-sd) 1)) t
end
def d3 (kd:Nat):Int×Int×Int×Int×Int:=if kd=2 then(-62,33,-79,27,8)else if kd=3 then(-47,97,-59,88,13)else if kd=4 then(-60,62,-82,170,14)else(-29,112,-49,204,27)
def xR (kd:Nat) (c:Int):Int:=(d3 kd).1+(((d3 kd).2.1-(d3 kd).1)*(c*(2*(d3 kd).2.2.2.2-c))).fdiv ((d3 kd).2.2.2.2*(d3 kd).2.2.2.2)
def GY (kd:Nat) (c:Int):Int:=(d3 kd).2.2.1+(((d3 kd).2.2.2.1-(d3 kd).2.2.1)*(c*(2*(d3 kd).2.2.2.2-c))).fdiv ((d3 kd).2.2.2.2*(d3 kd).2.2.2.2)
section
variable (F R:Nat) (pc:Nat→Int) (kq:Nat→Nat) (sd:Nat)
def i_ (q:Nat×Nat):Nat:=cnt (F*R) (fun u=>RC F R pc kq sd q u&&yp F R pc kq sd u)
def dn:Int:=((RS F R pc sd).map fun q=>xR q.1 (i_ F R pc kq sd q)).sum
def Iz:Int:=((RS F R pc sd).map fun q=>GY q.1 (i_ F R pc kq sd q)).sum
end
theorem xj {α:Type} (f g:α→Int):∀l:List α,(l.map fun q=>sc (f q) (g q)).sum=sc (l.map f).sum (l.map g).sum
 |[]=>by simp[sc]
 |x::l=>by simp only[List.map_cons,List.sum_cons,xj f g l];unfold sc;omega
section
variable {C:Cx} (P:Pg C) {k:Nat} {H:Hp} {Q:V→Hp→Prop} {F R p g:Nat} {pc:Nat→Int} {kq:Nat→Nat} {ml:Nat}
include P
theorem Pg.uT (a:Str) {y:V} {ks m by_ rl:Nat} {tw sh:Int} (ho:H[m]? =some (.inst 415 (AB ks by_ rl tw sh))) (hk:mW (KC C.w.params) 415 a=true) (hl:(AB ks by_ rl tw sh).lookup a=some y) (h:Q y H):eM C k H (.ref m) a Q:=
 eM.field ho (by rw[P.K];exact hk) hl h
omit P in
theorem dh.get (M:dh F R pc kq ml H) {sd:Nat} {i:Int} (hs:sd<2) (e:i=sd) (h:∀m by_ rl rs,nj F R pc sd (kq sd) m by_ rl rs H→Q (.ref m) H):cz C k H (.ref ml) (.I i) Q:=by
 subst e;obtain⟨m,h1,h2⟩:=M;obtain⟨by_,rl,rs,A⟩:=h2 sd hs;refine cz.list h1 ⋯ ⋯ (y:=.ref (m sd)) ?_ (h _ _ _ _ A);have:sd=0∨sd=1:=⋯
 rcases this with rfl|rfl<;>rfl
theorem Pg.lr {sd ks m by_ rl:Nat} {rs:List Nat} (A:nj F R pc sd ks m by_ rl rs H) (h:Q (.I ks) H):eM C k H (.ref m) (s "king") Q:=P.uT _ A.o ∅ ∅ h
theorem Pg.s8 {sd ks m by_ rl:Nat} {rs:List Nat} (A:nj F R pc sd ks m by_ rl rs H) (h:Q (.I (bi (F*R) (yi F R pc sd ks (bM F R pc sd 6)))) H):eM C k H (.ref m) (s "twice") Q:=P.uT _ A.o ∅ ∅ h
theorem Pg.qW {sd ks m by_ rl:Nat} {rs:List Nat} (A:nj F R pc sd ks m by_ rl rs H) (h:Q (.I (bi (F*R) (pF F R pc sd ks))) H):eM C k H (.ref m) (s "shields") Q:=P.uT _ A.o ∅ ∅ h
theorem Pg.iA {sd ks m by_ rl:Nat} {rs:List Nat} (A:nj F R pc sd ks m by_ rl rs H) (h:Q (.ref by_) H):eM C k H (.ref m) (s "by") Q:=P.uT _ A.o ∅ ∅ h
theorem Pg.qU {sd ks m by_ rl:Nat} {rs:List Nat} (A:nj F R pc sd ks m by_ rl rs H) (h:Q (.ref rl) H):eM C k H (.ref m) (s "reaches") Q:=P.uT _ A.o ∅ ∅ h
theorem Pg.tU (z:Sz F R) (st:Le dJ H) (M:fz (F*R) pc) (A:ct F R p g pc H) (K:∀sd,sd<2→bW (F*R) pc sd (kq sd)):
 aa C (k+9) (s "attack_maps") [.ref p] H (fun v H'=>∃ml,v=.ref ml∧Le H H'∧dh F R pc kq ml H'):=by
 injection C k H F R p g pc kq with P z st M A K
 refine P.nZ ?_;rintro-_;unfold iJ;refine aM ?_;refine⟨_,P.gj,aa.mono (P.nz z st M A (sd:=0) nofun (K 0 nofun)) ?_⟩;rintro-_ H1 ⟨m0,rfl,bg,M0⟩;refine⟨_,P.tD,aa.mono (P.nz z (st.trans bg) M (A.le bg) (sd:=1) nofun (K 1 nofun)) ?_⟩;rintro-_ H2 ⟨m1,rfl,bJ,M1⟩;refine⟨by simp,_,rfl,(bg.trans bJ).aS _,fun i=>if i=0 then m0 else m1,af _ _,?_⟩;rintro-sd hs;have:sd=0∨sd=1:=⋯
 rcases this with rfl|rfl
 · exact(M0.le bJ).le (Le.app _ _)
 · exact M1.le (Le.app _ _)
theorem Pg.B7 (z:Sz F R) (M:fz (F*R) pc) (A:ct F R p g pc H) {sd:Nat} (hs:sd<2):
 aa C (k+3) (s "area_of") [.ref p,.I sd,.I (bi (F*R) (SH F R pc kq sd))] H (fW (.I (bi (F*R) (yp F R pc kq sd))) H):=by
 injection C k H F R p g pc kq sd with P z M A hs
 have z':=z;obtain(⟨f1,f2,r1,r2⟩):=z';have A0:=A;obtain(⟨ka,sa,A⟩):=A;have lh:1-sd<2:=⋯
 have e1:(1:Int)-(sd:Int)=((1-sd:Nat):Int):=⋯
 refine P.wq ?_;rintro-_;unfold qO;refine au ?_;refine P.dT A.o (au ?_);refine aa.up (k:=k+1) (aa.pv (P.jc z A.g hs (r:=1) ⋯) ?_);refine aa.up (k:=k+1) (aa.pv (P.jc z A.g hs (r:=2) ⋯) ?_);refine BW.or (au ?_);refine⟨_,P.fq,aa.up (k:=k+1) (aa.pv (P.pieces A0 hs (kd:=1) nofun nofun) ?_)⟩;refine aa.up (k:=k+1) (aa.pv (P.oU M A0) ?_);refine BW.sub ?_;rw[e1];refine aa.up (k:=k+1) (aa.pv (P.vg z A.g lh) ?_);refine BW.or (BW.and (aY rfl ?_));refine⟨_,P.fj,aa.up (k:=k+1) (aa.pv (P.pieces A0 hs (kd:=6) nofun nofun) ?_)⟩;refine⟨_,P.cB,aa.up (k:=k+1) (aa.pv (P.pieces A0 hs (kd:=5) nofun nofun) ?_)⟩;refine BW.or (BW.or (IW.or (aM ?_)));have GG:=A.g;obtain(⟨kg,rla,rs,G⟩):=GG;refine P.gN G.o (UW.inv (BW.and (BW.sub ?_)));rw[e1];refine⟨_,P.fq,aa.up (k:=k+1) (aa.pv (P.pieces A0 lh (kd:=1) nofun nofun) ?_)⟩;refine BW.sub ?_;rw[e1];refine aa.up (k:=k+2) (aa.pv (P.tn z A.g lh) ?_);refine UW.inv (BW.and ⟨?_,rfl⟩);rw[z.j7.2.2]
 congr 1
 refine aE ?_;rintro-i;unfold eQ yp;simp only[aL,bL,bt,aq]
 cases decide (i<F*R)<;>simp
theorem Pg.oR (st:Le dJ H) {kd c:Nat} (pD:2≤kd) (tK:kd≤5) (hc:c≤1000):aa C (k+2) (s "mobility_bonus") [.I kd,.I c] H (fW (.I (sc (xR kd c) (GY kd c))) H):=by
 injection C k H kd c with P st pD tK hc
 refine P.jD ?_;rintro-_;unfold fH;refine rf ?_;have fin:∀(a b c' d m:Int),d3 kd=(a,b,c',d,m)→0<m→m<100→a.natAbs<1000→b.natAbs<1000→c'.natAbs<1000→d.natAbs<1000→wX C (k+1) (.asg 7 (.B .Mult (.V 1) (.B .Sub (.B .Mult (.I 2) (.V 6)) (.V 1)))
  (.asg 8 (.B .Add (.V 2) (.B .FloorDiv (.B .Mult (.B .Sub (.V 3) (.V 2)) (.V 7)) (.B .Mult (.V 6) (.V 6))))
  (.asg 9 (.B .Add (.V 4) (.B .FloorDiv (.B .Mult (.B .Sub (.V 5) (.V 4)) (.V 7)) (.B .Mult (.V 6) (.V 6))))
  (.ret (.K (s "make_score") (.C (.V 8) (.C (.V 9) .N))))))) [some (.I kd),some (.I c),some (.I a),some (.I b),some (.I c'),some (.I d),some (.I m),none,none,none,none,none] H (bO (fW (.I (sc (xR kd c) (GY kd c))) H)):=by
  rintro-a b c' d m hm m0 m1 ha hb F_ hd;have mm:0<m*m:=Int.mul_pos m0 m0;have RK:m*m≤100*100:=Int.mul_le_mul ⋯ ⋯ ⋯ ⋯;have mN:m.natAbs<100:=⋯
  have NQ:m.natAbs<2^64:=Nat.lt_trans mN nofun;have Fi:(m*m).natAbs<1073741824:=by rw[Int.natAbs_mul];exact z19 (Nat.mul_lt_mul'' mN mN) nofun
  refine au ?_;refine BW.mul (.inl nofun) (BW.sub (BW.mul (.inl (NT hc rfl)) (au ?_)));refine BW.sub (BW.mul (.inl (NU hb ha rfl)) (BW.mul (.inl NQ) (BW.div (Int.ne_of_gt mm) Fi (BW.add (au ?_)))));refine BW.sub (BW.mul (.inl (NU hd F_ rfl)) (BW.mul (.inl NQ) (BW.div (Int.ne_of_gt mm) Fi (BW.add (aM ?_)))));refine aa.mono (P.cL ?_) ?_
  ·
   have hbnd:((c:Int)*(2*m-c)).natAbs≤1000*1200:=by
    rw[Int.natAbs_mul];exact Nat.mul_le_mul ⋯ ⋯
   have h2:((d-c')*((c:Int)*(2*m-c))).natAbs≤2000*(1000*1200):=by
    rw[Int.natAbs_mul];exact Nat.mul_le_mul (z20 (Int.natAbs_sub_le ..) (Nat.add_le_add (Nat.le_of_lt hd) (Nat.le_of_lt F_))) hbnd
   generalize (d-c')*((c:Int)*(2*m-c))=x at*;generalize m*m=y at*;have h6:(x.fdiv y).natAbs<2000*(1000*1200)+1073741824:=z24 (Cs mm) (Nat.add_lt_add_of_le_of_lt h2 Fi);exact Qk F_ h6 rfl
  · rintro-_ _ ⟨rfl,rfl⟩;refine⟨?_,rfl⟩;unfold xR GY;rw[hm]
 have:kd=2∨kd=3∨kd=4∨kd=5:=⋯
 rcases this with rfl|rfl|rfl|rfl
 · exact⟨_,P.c6,cz.list (st.at_ _ _ rfl) nofun nofun rfl ⟨_,_,rfl,st.at_ _ _ rfl,rfl,fin _ _ _ _ _ rfl nofun nofun nofun nofun nofun nofun⟩⟩
 · exact⟨_,P.c6,cz.list (st.at_ _ _ rfl) nofun nofun rfl ⟨_,_,rfl,st.at_ _ _ rfl,rfl,fin _ _ _ _ _ rfl nofun nofun nofun nofun nofun nofun⟩⟩
 · exact⟨_,P.c6,cz.list (st.at_ _ _ rfl) nofun nofun rfl ⟨_,_,rfl,st.at_ _ _ rfl,rfl,fin _ _ _ _ _ rfl nofun nofun nofun nofun nofun nofun⟩⟩
 · exact⟨_,P.c6,cz.list (st.at_ _ _ rfl) nofun nofun rfl ⟨_,_,rfl,st.at_ _ _ rfl,rfl,fin _ _ _ _ _ rfl nofun nofun nofun nofun nofun nofun⟩⟩
omit P in
theorem mU {F R:Nat} {pc:Nat→Int} {sd:Nat} {q:Nat×Nat} (h:q∈RS F R pc sd):2≤q.1∧q.1≤5∧q.2<F*R∧cS pc sd q.1 q.2=true:=by
 obtain⟨h1,h2⟩:=List.mem_filter.mp h;have key:∀i,q∈bM F R pc sd i→1≤q.1∧q.1≤i∧q.2<F*R∧cS pc sd q.1 q.2=true:=by
  intro i
  induction i with
  |zero=>intro h;simp[bM]at h
  |succ i ih=>
   intro h;rcases List.mem_append.mp h with h|h
   · have:=ih h;exact⟨this.1,⋯,this.2.2⟩
   · unfold dw at h;obtain⟨t,ht,rfl⟩:=List.mem_map.mp h;obtain⟨a,b⟩:=List.mem_filter.mp ht;exact⟨by simp,by simp,List.mem_range.mp a,b⟩
 have:=key 6 h1;unfold gp at h2;simp at h2;exact⟨⋯,⋯,this.2.2⟩
theorem Pg.g8 (z:Sz F R) (st:Le dJ H) (M:fz (F*R) pc) (A:ct F R p g pc H) (MM:dh F R pc kq ml H) {sd:Nat} (hs:sd<2):
 aa C (k+4) (s "mobility_score") [.ref p,.I sd,.ref ml] H (fW (.I (sc (dn F R pc kq sd) (Iz F R pc kq sd))) H):=by
 injection C k H F R p g pc kq ml sd with P z st M A MM hs
 have hn:=z.n;refine P.jE ?_;rintro-_;unfold fJ;refine au ?_;refine MM.get hs rfl ?_;rintro-m by_ rl rs B;refine P.qW B ?_;refine aa.up (k:=k+3) (aa.pv (P.B7 (kq:=kq) z M A hs) ?_);refine au ?_;refine pj ?_;refine MM.get hs rfl ?_;rintro-m by_ rl rs B;refine P.qU B ?_;refine⟨rl,refs rs,(fun i ρ H'=>H=H'∧∃v5 v6,ρ=[some (.ref p),some (.I sd),some (.ref ml),some (.I (bi (F*R) (yp F R pc kq sd))),some (.I (((RS F R pc sd).take i).map fun q=>sc (xR q.1 (i_ F R pc kq sd q)) (GY q.1 (i_ F R pc kq sd q))).sum),v5,v6,none,none,none]),rfl,B.r,⟨rfl,none,none,rfl⟩,fun i ρ H' hI=>by rw[←hI.1];exact B.r,?_,?_⟩
 · rintro-i x ρ H' hx ⟨rfl,v5,v6,rfl⟩;have hi:i<rs.length:=by have:=(z06.mp hx).1;simpa [refs] using this
   have hq:i<(RS F R pc sd).length:=by have:=B.t.1;unfold RS;omega
   obtain(⟨q,DM⟩):∃q,(RS F R pc sd)[i]? =some q:=⟨_,z05 hq⟩;obtain(⟨m',EI,ht⟩):=B.t.2 i q DM;have ex:x=.ref m':=by rw[c5 EI]at hx;cases hx;rfl
   subst ex;obtain(⟨k1,k2,k3,k4⟩):=mU (z08 DM);refine⟨m',_,rfl,ht,rfl,aY rfl ?_⟩;refine BW.and ?_;have e:Builtin.bitAnd (bi (F*R) (fh F R pc sd (kq sd) q)) (bi (F*R) (yp F R pc kq sd))=bi (F*R) (fun u=>RC F R pc kq sd q u&&yp F R pc kq sd u):=bi_and ..;rw[e];refine aa.up (k:=k+1) (aa.pv P.cn ?_);refine aa.up (k:=k+2) (aa.pv (P.oR st k1 k2 (by have:=fa (F*R) (fun u=>RC F R pc kq sd q u&&yp F R pc kq sd u);omega)) ?_);refine IW.add (az ⟨rfl,some (.I (q.1:Nat)),some (.I (bi (F*R) (fh F R pc sd (kq sd) q))),?_⟩);rw[List.take_add_one,DM,List.map_append,List.sum_append];simp only[Option.toList,List.map_cons,List.map_nil,List.sum_cons,List.sum_nil,Int.add_zero]
   rfl
 · rintro-ρ H' ⟨rfl,v5,v6,rfl⟩;refine aM ?_;refine⟨?_,rfl⟩;have hl:(refs rs).length=(RS F R pc sd).length:=by have:=B.t.1;unfold RS;simpa [refs] using this
   rw[hl,List.take_length,xj]
   rfl
end
def bS (n c:Nat):Nat:=min (max n 1) (c-2)
def g' (F R ks:Nat):Nat:=bS (ks/F) R*F+bS (ks % F) F
def fR (F R ks u:Nat):Bool:=decide (u∈bD F R (g' F R ks) eK)||decide (u=g' F R ks)
def tq (F R:Nat) (pc:Nat→Int) (sd u:Nat):Bool:=decide (2≤((dc (F*R) (cS pc sd 1)).filter fun t=>decide (u∈bD F R t (aF sd))).length)
def mY (F R:Nat) (pc:Nat→Int) (sd ks u:Nat):Bool:=fR F R ks u&&!tq F R pc sd u
theorem AZ {F R ks:Nat} (z:Sz F R):g' F R ks<F*R:=by
 have h1:bS (ks/F) R+1≤R:=Nat.le_of_lt (g7 z.r1).2;have h2:bS (ks % F) F<F:=Nat.lt_of_succ_lt (g7 z.f1).2;have h3:=Nat.mul_le_mul_right F h1;unfold g';rw[Nat.add_mul,Nat.one_mul]at h3;rw[Nat.mul_comm F R];generalize bS (ks/F) R*F=a at*;omega
section
variable {C:Cx} (P:Pg C) {k:Nat} {H:Hp} {F R p g:Nat} {pc:Nat→Int}
include P
theorem Pg.u4 {n c:Nat} (hc:3≤c):aa C (k+1) (s "off_edge") [.I n,.I c] H (fW (.I (bS n c)) H):=by
 refine P.uE fun _=>?_;unfold oN;refine bA ?_;refine CW.lt (bk.bool ⟨fun e=>absurd (z03 e) ⋯,fun _=>aM ?_⟩);refine P.max2 (BW.sub (P.min2 ⟨?_,rfl⟩));unfold bS;congr 1;exact g6 hc
theorem Pg.qL (z:Sz F R) (G:kH F R g H) {ks:Nat} (hk:ks<F*R):aa C (k+2) (s "king_ring") [.ref g,.I ks] H (fW (.I (bi (F*R) (fR F R ks))) H):=by
 injection C k H F R g ks with P z G hk
 have hn:=z.n;have z':=z;obtain(⟨f1,f2,r1,r2⟩):=z';obtain(⟨kg,rla,rs,G⟩):=G;have cl:=AZ (ks:=ks) z;refine P.sf ?_;rintro-_;unfold lU;refine au ?_;refine P.a_ G.o (BW.div ⋯ ⋯ (P.f' G.o ?_));rw[dN];refine aa.pv (P.u4 r1) ?_;refine P.a_ G.o (BW.mul (.inr ⋯) (P.a_ G.o (BW.mod ⋯ (P.a_ G.o ?_))));rw[cJ];refine aa.pv (P.u4 f1) ?_;refine BW.add (aM ?_);have ec:((bS (ks/F) R:Nat):Int)*F+((bS (ks % F) F:Nat):Int)=((g' F R ks:Nat):Int):=by unfold g';push_cast;rfl
 rw[ec];refine P.zZ G.o (aG G.k cl ⋯ rfl (BW.shl ⋯ ⋯ nofun (BW.or ⟨?_,rfl⟩)))
 congr 1
 refine aE ?_;rintro-i;have e1:(1:Int)*2^((g' F R ks:Nat):Int).toNat=2^(g' F R ks):=by rw[z02];omega
 unfold cu fR;rw[e1,bt,aq,aq,dR]
 by_cases hi:i<F*R
 · simp[hi]
 · have:¬i=g' F R ks:=⋯
   simp[hi,this]
def xD (F R:Nat) (pc:Nat→Int) (sd:Nat):Nat→Nat→Nat:=fun i u=>(((dc (F*R) (cS pc sd 1)).take i).filter fun t=>decide (u∈bD F R t (aF sd))).length
theorem Pg.sz (z:Sz F R) (A:ct F R p g pc H) {sd ks:Nat} (hs:sd<2) (hk:ks<F*R):aa C (k+3) (s "guarded_ring") [.ref p,.I sd,.I ks] H (lE (.I (bi (F*R) (mY F R pc sd ks))) H):=by
 injection C k H F R p g pc sd ks with P z A hs hk
 have hn:=z.n;have A0:=A;obtain(⟨ka,sa,A⟩):=A;refine P.mH ?_;rintro-_;unfold gR;refine au ?_;refine au ?_;refine md ?_;refine yu (cF (yu (cF (kP rfl (cF (kP rfl (cF (GZ ⟨_,P.fq,vL (aa.up (k:=k+1) (aa.pv (P.pieces A0 hs (kd:=1) nofun nofun) (vL ?_)))⟩))))))));refine aa.up (k:=k+1) (aa.mono (P.gi ⋯) ?_);rintro-_ H2 ⟨o,rfl,bJ,ol,ho⟩;have Rj:∀u,(xD F R pc sd) 0 u=0:=fun u=>rfl;refine⟨o,nl (dc (F*R) (cS pc sd 1)),(fun i ρ H'=>H2=H'∧∃v5,ρ=[some (.ref p),some (.I sd),some (.I ks),some (.I (bi (F*R) fun u=>decide (1≤(xD F R pc sd) i u))),some (.I (bi (F*R) fun u=>decide (2≤(xD F R pc sd) i u))),v5,none,none,none,none]),rfl,ho,⟨rfl,none,?_⟩,fun i ρ H' hI=>by rw[←hI.1];exact ho,?_,?_⟩
 · have e1:bi (F*R) (fun u=>decide (1≤(xD F R pc sd) 0 u))=0:=(aT _ _).mpr fun _ _=>rfl;have e2:bi (F*R) (fun u=>decide (2≤(xD F R pc sd) 0 u))=0:=(aT _ _).mpr fun _ _=>rfl;rw[e1,e2];rfl
 · rintro-i x ρ H' hx ⟨rfl,v5,rfl⟩;obtain(⟨t,ht,rfl⟩):=dp hx;have htn:t<F*R:=List.mem_range.mp (List.mem_filter.mp (z08 ht)).1;have step:∀u,(xD F R pc sd) (i+1) u=(xD F R pc sd) i u+(if u∈bD F R t (aF sd)then 1 else 0):=by
    rintro-u;show(((dc (F*R) (cS pc sd 1)).take (i+1)).filter _).length=_;rw[List.take_add_one,ht];simp only[Option.toList,List.filter_append,z12,List.filter_cons,List.filter_nil]
    by_cases h:u∈bD F R t (aF sd)<;>simp[h,xD]
   have A2:=A.le bJ;have GG:=A2.g;obtain(⟨kg,rla,rs,G⟩):=GG;have pw:∀{Q:V→Hp→Prop},Q (.I (cu F R t (aF sd))) H2→cz C (k+2) H2 (.ref (g+8)) (.I sd) (fun x H₁=>cz C (k+2) H₁ x (.I t) Q):=by
    rintro-Q q;have:sd=0∨sd=1:=⋯
    rcases this with rfl|rfl
    · exact cz.list G.pw nofun nofun rfl (aG G.p0 htn ⋯ rfl q)
    · exact cz.list G.pw nofun nofun rfl (aG G.p1 htn ⋯ rfl q)
   refine aY rfl ?_;refine P.dT A2.o (P.yG G.o (pw (BW.and (IW.or (aY rfl ?_)))));refine P.dT A2.o (P.yG G.o (pw (IW.or (az ⟨rfl,some (.I (t:Nat)),?_⟩))));have e1:Builtin.bitOr (bi (F*R) fun u=>decide (1≤(xD F R pc sd) i u)) (cu F R t (aF sd))=bi (F*R) (fun u=>decide (1≤(xD F R pc sd) (i+1) u)):=aE<|by
    rintro-u;unfold cu;rw[bt,aq,aq,aq,step]
    by_cases h:u∈bD F R t (aF sd)
    · simp only[h,decide_true,Bool.and_true,if_true]
      cases decide (u<F*R)
      · simp
      · simp only[Bool.true_and];rw[z07];simp only[Bool.or_eq_true,z01,z00,or_true,and_true,true_iff];omega
    · simp[h]
   have e2:Builtin.bitOr (bi (F*R) fun u=>decide (2≤(xD F R pc sd) i u)) (Builtin.bitAnd (bi (F*R) fun u=>decide (1≤(xD F R pc sd) i u)) (cu F R t (aF sd)))=bi (F*R) (fun u=>decide (2≤(xD F R pc sd) (i+1) u)):=aE<|by
    rintro-u;unfold cu;rw[bt,aL,aq,aq,aq,aq,step]
    by_cases h:u∈bD F R t (aF sd)
    · simp only[h,decide_true,Bool.and_true,if_true]
      cases decide (u<F*R)
      · simp
      · simp only[Bool.true_and];rw[z07];simp only[Bool.or_eq_true,z01,z00,or_true,and_true,true_iff];omega
    · simp[h]
   rw[e1,e2]
   rfl
 · rintro-ρ H' ⟨rfl,v5,rfl⟩;refine aM ?_;refine P.dT (A.le bJ).o ?_;refine aa.pv (P.qL z (A.g.le bJ) hk) ?_;refine UW.inv (BW.and ⟨?_,bJ⟩)
   congr 1
   refine aE ?_;rintro-u;have:(xD F R pc sd) (nl (dc (F*R) (cS pc sd 1))).length u=((dc (F*R) (cS pc sd 1)).filter fun t=>decide (u∈bD F R t (aF sd))).length:=by
    show(((dc (F*R) (cS pc sd 1)).take _).filter _).length=_;rw[aJ,List.take_length]
   rw[aL,bL,aq,aq,aq];unfold mY tq;rw[this]
   cases decide (u<F*R)<;>simp
end
section
variable (F R:Nat) (pc:Nat→Int) (kq:Nat→Nat) (sd:Nat)
def inR (q:Nat×Nat):Bool:=decide (0<cnt (F*R) (fun u=>RC F R pc kq (1-sd) q u&&mY F R pc sd (kq sd) u))
def Gk (kd:Nat):Int:=[0,0,81,52,44,10,0].getD kd 0
def zv:Nat:=cnt (F*R) (fun u=>fR F R (kq sd) u&&BY F R pc kq (1-sd) 1 u)+((RS F R pc (1-sd)).filter (inR F R pc kq sd)).length
def D1:Int:=(((RS F R pc (1-sd)).filter (inR F R pc kq sd)).map fun q=>Gk q.1).sum
def D0:Int:=(((RS F R pc (1-sd)).filter (inR F R pc kq sd)).map fun q=>(cnt (F*R) (fun u=>RC F R pc kq (1-sd) q u&&BY F R pc kq sd 6 u):Int)).sum
def kG (u:Nat):Bool:=(BY F R pc kq (1-sd) 0 u&&!vJ F R pc kq sd u)&&((!BY F R pc kq sd 0 u||BY F R pc kq sd 6 u)||BY F R pc kq sd 5 u)
end
theorem cV {C:Cx} {k:Nat} {H:Hp} {F R:Nat} {pc:Nat→Int} {kq:Nat→Nat} {sd m by_ rl:Nat} {rs:List Nat} {Q:V→Hp→Prop} (A:nj F R pc sd (kq sd) m by_ rl rs H) {kd:Nat} {i:Int} (hk:kd<7) (e:i=kd) (q:Q (.I (bi (F*R) (BY F R pc kq sd kd))) H):cz C k H (.ref by_) (.I i) Q:=
 aG A.b hk nofun e q
section
variable {C:Cx} (P:Pg C) {k:Nat} {H:Hp} {F R p g:Nat} {pc:Nat→Int} {kq:Nat→Nat} {ml:Nat}
include P
def Fv (F R:Nat) (pc:Nat→Int) (kq:Nat→Nat) (sd:Nat):Nat→List (Nat×Nat):=fun i=>((RS F R pc (1-sd)).take i).filter (inR F R pc kq sd)
theorem Pg.o9 (z:Sz F R) (st:Le dJ H) (G:kH F R g H) (MM:dh F R pc kq ml H) {sd:Nat} (hs:sd<2) (hk:∀i,kq i<F*R):
 aa C (k+3) (s "ring_attackers") [.ref g,.I sd,.ref ml,.I (bi (F*R) (mY F R pc sd (kq sd)))] H (Dy H (.tup [.I (zv F R pc kq sd),.I (D1 F R pc kq sd),.I (D0 F R pc kq sd)])):=by
 injection C k H F R g pc kq ml sd with P z st G MM hs hk
 have hn:=z.n;have e1:(1:Int)-(sd:Int)=((1-sd:Nat):Int):=⋯
 refine P.jG ?_;rintro-_;unfold fK;refine au ?_;refine BW.sub (MM.get (sd:=1-sd) ⋯ e1 ?_);rintro-me be re rse E;refine au ?_;refine MM.get hs rfl ?_;rintro-mo bo ro rso O;refine P.iA O ⟨_,P.fj,cV O nofun rfl (au ?_)⟩;refine MM.get hs rfl ?_;rintro-RL Ri RN QN O';refine P.lr O' ?_;refine aa.pv (P.qL z G (hk sd)) ?_;refine P.iA E ⟨_,P.fq,cV E nofun rfl (BW.and ?_)⟩;have e2:Builtin.bitAnd (bi (F*R) (fR F R (kq sd))) (bi (F*R) (BY F R pc kq (1-sd) 1))=bi (F*R) (fun u=>fR F R (kq sd) u&&BY F R pc kq (1-sd) 1 u):=bi_and ..;rw[e2];refine aa.up (k:=k+1) (aa.pv P.cn ?_);refine au ?_;refine au ?_;refine pj ?_;refine P.qU E ?_;refine⟨re,refs rse,(fun i ρ H'=>H=H'∧∃v9 v10,ρ=[some (.ref g),some (.I sd),some (.ref ml),some (.I (bi (F*R) (mY F R pc sd (kq sd)))),some (.ref me),some (.I (bi (F*R) (BY F R pc kq sd 6))),some (.I ((cnt (F*R) (fun u=>fR F R (kq sd) u&&BY F R pc kq (1-sd) 1 u)+((Fv F R pc kq sd) i).length:Nat):Int)),
  some (.I (((Fv F R pc kq sd) i).map fun q=>Gk q.1).sum),some (.I (((Fv F R pc kq sd) i).map fun q=>(cnt (F*R) (fun u=>RC F R pc kq (1-sd) q u&&BY F R pc kq sd 6 u):Int)).sum),v9,v10,none,none,none,none,none]),rfl,E.r,⟨rfl,none,none,rfl⟩,fun i ρ H' hI=>by rw[←hI.1];exact E.r,?_,?_⟩
 · rintro-i x ρ H' hx ⟨rfl,v9,v10,rfl⟩;have hi:i<rse.length:=by have:=(z06.mp hx).1;simpa [refs] using this
   have hq:i<(RS F R pc (1-sd)).length:=by have:=E.t.1;unfold RS;omega
   obtain(⟨q,DM⟩):∃q,(RS F R pc (1-sd))[i]? =some q:=⟨_,z05 hq⟩;obtain(⟨m',EI,ht⟩):=E.t.2 i q DM;have ex:x=.ref m':=by rw[c5 EI]at hx;cases hx;rfl
   subst ex;obtain(⟨k1,k2,k3,k4⟩):=mU (z08 DM);have Ts:(Fv F R pc kq sd) (i+1)=(Fv F R pc kq sd) i++(if inR F R pc kq sd q then[q]else[]):=by
    show((RS F R pc (1-sd)).take (i+1)).filter _=_;rw[List.take_add_one,DM,List.filter_append]
    cases h:inR F R pc kq sd q<;>simp[Fv,h]
   refine⟨m',_,rfl,ht,rfl,bA (qH (jz (kP rfl (kP rfl ?_))))⟩;have e3:Builtin.bitAnd (bi (F*R) (fh F R pc (1-sd) (kq (1-sd)) q)) (bi (F*R) (mY F R pc sd (kq sd)))=bi (F*R) (fun u=>RC F R pc kq (1-sd) q u&&mY F R pc sd (kq sd) u):=bi_and ..;have c0:=kB (x:=bi (F*R) (fun u=>RC F R pc kq (1-sd) q u&&mY F R pc sd (kq sd) u)) (n:=F*R) (gL _ _) (jv _ _);rw[kK]at c0;refine BW.and ?_;rw[e3];refine bk.int ⟨?_,?_⟩
   · rintro-e;have hin:inR F R pc kq sd q=true:=by
      unfold inR;have:cnt (F*R) (fun u=>RC F R pc kq (1-sd) q u&&mY F R pc sd (kq sd) u)≠0:=fun z=>by rw[c0.mp z]at e;cases e
      simp;omega
     rw[if_pos hin]at Ts;refine aY rfl ?_;refine IW.add (aY rfl ?_);have hw:([.I 0,.I 0,.I 81,.I 52,.I 44,.I 10,.I 0]:List V)[q.1]? =some (.I (Gk q.1)):=by
      have:q.1=2∨q.1=3∨q.1=4∨q.1=5:=⋯
      rcases this with h|h|h|h<;>rw[h]<;>rfl
     refine⟨_,P.pf,cz.list (st.at_ _ _ rfl) ⋯ ⋯ (by rw[z02];exact hw) (IW.add (aY rfl ?_))⟩;have e4:Builtin.bitAnd (bi (F*R) (fh F R pc (1-sd) (kq (1-sd)) q)) (bi (F*R) (BY F R pc kq sd 6))=bi (F*R) (fun u=>RC F R pc kq (1-sd) q u&&BY F R pc kq sd 6 u):=bi_and ..;refine BW.and ?_;rw[e4];refine aa.up (k:=k+1) (aa.pv P.cn ?_);refine IW.add (az (nx (az ⟨rfl,some (.I (q.1:Nat)),some (.I (bi (F*R) (fh F R pc (1-sd) (kq (1-sd)) q))),?_⟩)));rw[Ts,z12,List.map_append,List.map_append,List.sum_append,List.sum_append];simp only[List.map_cons,List.map_nil,List.sum_cons,List.sum_nil,Int.add_zero,List.length_cons,List.length_nil]
     congr 7
   · rintro-e;have hin:inR F R pc kq sd q=false:=by
      unfold inR;have:=c0.mpr (by simpa using e);simp;omega
     rw[hin]at Ts;refine az ⟨rfl,some (.I (q.1:Nat)),some (.I (bi (F*R) (fh F R pc (1-sd) (kq (1-sd)) q))),?_⟩;rw[Ts];simp[sets]
 · rintro-ρ H' ⟨rfl,v9,v10,rfl⟩;refine aM ?_;refine⟨by simp,_,rfl,Le.app _ _,?_⟩;have hl:(refs rse).length=(RS F R pc (1-sd)).length:=by have:=E.t.1;unfold RS;simpa [refs] using this
   have:(Fv F R pc kq sd) (refs rse).length=(RS F R pc (1-sd)).filter (inR F R pc kq sd):=by
    show((RS F R pc (1-sd)).take _).filter _=_;rw[hl,List.take_length]
   rw[this];exact af _ _
theorem Pg.kC (MM:dh F R pc kq ml H) {sd:Nat} (hs:sd<2):aa C (k+1) (s "weak_squares") [.I sd,.ref ml] H (fW (.I (bi (F*R) (kG F R pc kq sd))) H):=by
 have e1:(1:Int)-(sd:Int)=((1-sd:Nat):Int):=⋯
 refine P.mP fun _=>?_;unfold gZ;refine au ?_;refine MM.get hs rfl fun mo bo ro rso O=>aM ?_;refine BW.sub (MM.get (sd:=1-sd) ⋯ e1 fun me be re rse E=>P.iA E (cV E (kd:=0) nofun rfl (P.s8 O (UW.inv (BW.and (P.iA O (cV O (kd:=0) nofun rfl (UW.inv (P.iA O ⟨_,P.fj,cV O nofun rfl (BW.or (P.iA O ⟨_,P.cB,cV O nofun rfl (BW.or (BW.and ⟨?_,rfl⟩))⟩))⟩)))))))))
 congr 1
 refine aE fun u=>?_;unfold kG vJ;simp only[aL,bL,bt,aq]
 cases decide (u<F*R)<;>simp
end
theorem nj.le {F R:Nat} {pc:Nat→Int} {sd ks m by_ rl:Nat} {rs:List Nat} {H H':Hp} (d:nj F R pc sd ks m by_ rl rs H) (l:Le H H'):nj F R pc sd ks m by_ rl rs H':=⟨l.at_ _ _ d.o,l.at_ _ _ d.b,l.at_ _ _ d.r,d.t.le l⟩
def FT (kd:Nat):Int×Int:=if kd=2 then(803,1292)else if kd=3 then(639,974)else if kd=4 then(1087,1878)else(759,1132)
def rG (kd c:Nat):Int:=if c=0 then 0 else if 1<c then(FT kd).2 else(FT kd).1
def dr (pc:Nat→Int) (sd t:Nat):Bool:=gB pc t&&!cS pc sd 5 t
section
variable (F R:Nat) (pc:Nat→Int) (kq:Nat→Nat) (sd:Nat)
def C9 (u:Nat):Bool:=da F R fS (dr pc sd) (kq sd) u
def DC (u:Nat):Bool:=da F R fA (dr pc sd) (kq sd) u
def bR (u:Nat):Bool:=!sb pc (1-sd) u&&(!BY F R pc kq sd 0 u||(kG F R pc kq sd u&&vJ F R pc kq (1-sd) u))
def cm (kd u:Nat):Bool:=
 if kd=2 then decide (u∈bD F R (kq sd) cY)&&BY F R pc kq (1-sd) 2 u
 else if kd=3 then DC F R pc kq sd u&&BY F R pc kq (1-sd) 3 u
 else if kd=4 then C9 F R pc kq sd u&&BY F R pc kq (1-sd) 4 u
 else if kd=5 then((((C9 F R pc kq sd u||DC F R pc kq sd u)&&BY F R pc kq (1-sd) 5 u)&&bR F R pc kq sd u)&&!BY F R pc kq sd 5 u)&&!((C9 F R pc kq sd u&&BY F R pc kq (1-sd) 4 u)&&bR F R pc kq sd u)
 else false
def jI (kd u:Nat):Bool:=(cm F R pc kq sd kd u&&bR F R pc kq sd u)&&!(decide (kd=3)&&cm F R pc kq sd 5 u)
def nV (kd:Nat):Nat:=cnt (F*R) (jI F R pc kq sd kd)
def iX (l:List Nat):Int:=(l.map fun kd=>rG kd (nV F R pc kq sd kd)).sum
def iD (l:List Nat) (u:Nat):Bool:=l.any fun kd=>decide (nV F R pc kq sd kd=0)&&cm F R pc kq sd kd u
end
section
variable {C:Cx} (P:Pg C) {k:Nat} {H:Hp} {F R p g:Nat} {pc:Nat→Int} {kq:Nat→Nat} {ml:Nat}
include P
theorem Pg.jx (z:Sz F R) (st:Le dJ H) (M:fz (F*R) pc) (A:ct F R p g pc H) (MM:dh F R pc kq ml H) {sd:Nat} (hs:sd<2) (hk:∀i,kq i<F*R):
 aa C (k+4) (s "check_danger") [.ref p,.I sd,.ref ml] H (Dy H (.tup [.I (iX F R pc kq sd [2,3,4,5]),.I (bi (F*R) (iD F R pc kq sd [2,3,4,5]))])):=by
 injection C k H F R p g pc kq ml sd with P z st M A MM hs hk
 have hn:=z.n;have lh:1-sd<2:=⋯
 have e1:(1:Int)-(sd:Int)=((1-sd:Nat):Int):=⋯
 have A0:=A;obtain(⟨ka,sa,A⟩):=A;refine P.mG ?_;rintro-hT;unfold gQ;refine au ?_;refine P.dT A.o (au ?_);refine MM.get hs rfl ?_;rintro-mo bo ro rso OW;refine au ?_;refine BW.sub (MM.get (sd:=1-sd) ⋯ e1 ?_);rintro-me be re rse E;refine au ?_;refine P.lr OW (au ?_);refine aa.up (k:=k+1) (aa.pv (P.oU M A0) ?_);refine⟨_,P.cB,aa.up (k:=k+1) (aa.pv (P.pieces A0 hs (kd:=5) nofun nofun) ?_)⟩;have e2:Builtin.bitAnd (bi (F*R) (gB pc)) (Builtin.bitNot (bi (F*R) (cS pc sd 5)))=bi (F*R) (dr pc sd):=Cc ..;refine UW.inv (BW.and ?_);rw[e2];refine au ?_;refine aa.lv (P.d5 z st A.g (hk sd)) ?_;rintro-H1 bg;refine au ?_;refine aa.lv (P.di z (st.trans bg) (A.g.le bg) (hk sd)) ?_;rintro-H2 Iq;have bJ:Le H H2:=bg.trans Iq;clear bg Iq;replace st:=st.trans bJ;replace A:=A.le bJ;replace MM:=MM.le bJ;replace OW:=OW.le bJ;replace E:=E.le bJ;have GG:=A.g;obtain(⟨kg,rla,rs,G⟩):=GG;refine au ?_;refine P.gN G.o (P.dq A.o (BW.sub (aG A.s (t:=1-sd) lh nofun e1 (UW.inv (BW.and (P.iA OW (cV OW (kd:=0) nofun rfl (UW.inv ?_))))))));refine aa.up (k:=k+1) (aa.pv (P.kC MM hs) ?_);refine P.s8 E (BW.and (BW.or (BW.and ?_)));have e3:Builtin.bitAnd (Builtin.bitAnd (1*2^(F*R)-1) (Builtin.bitNot (bi (F*R) (sb pc (1-sd))))) (Builtin.bitOr (Builtin.bitNot (bi (F*R) (BY F R pc kq sd 0))) (Builtin.bitAnd (bi (F*R) (kG F R pc kq sd)) (bi (F*R) (yi F R pc (1-sd) (kq (1-sd)) (bM F R pc (1-sd) 6)))))
  =bi (F*R) (bR F R pc kq sd):=by
  rw[z.j7.2.2];refine aE ?_;rintro-u;unfold eQ bR vJ;simp only[aL,bL,bt,aq]
  cases decide (u<F*R)<;>simp
 rw[e3];refine au ?_;dsimp only[List.set];refine jz (J7 (cF (Cn (vL ⟨by decide,Cn (BW.mR (af _ _) nofun nofun ?_)⟩))));generalize hag:(H2++[O.L [V.I 0]]).length=ag;have F8:(H2++[O.L [V.I 0]]++[O.L (List.replicate (7:Int).toNat (V.I 0))])[ag]? =some (.L [.I 0,.I 0,.I 0,.I 0,.I 0,.I 0,.I 0]):=by
  rw[←hag];exact af _ _
 have cj:Le H2 (H2++[O.L [V.I 0]]++[O.L (List.replicate (7:Int).toNat (V.I 0))]):=(Le.app _ _).aS _;have agl:H2.length<ag:=by rw[←hag];simp
 have Nu:=bJ.len;generalize (H2++[O.L [V.I 0]]++[O.L (List.replicate (7:Int).toNat (V.I 0))])=H3 at*;have A3:=A.le cj;have G3:=G.le cj;have O3:=OW.le cj;have E3:=E.le cj;refine dI ?_;refine P.EA G3.o (aG G3.n (hk sd) ⋯ rfl (P.iA E3 ⟨_,P.fU,cV E3 (kd:=2) nofun rfl (BW.and ⟨_,P.fU,iV.list ⋯ F8 nofun nofun nofun ?_⟩)⟩));have g2:Builtin.bitAnd (cu F R (kq sd) cY) (bi (F*R) (BY F R pc kq (1-sd) 2))=bi (F*R) (cm F R pc kq sd 2):=bi_and ..;rw[g2];have DK:=get_set (.L (List.set [.I 0,.I 0,.I 0,.I 0,.I 0,.I 0,.I 0] (2:Int).toNat (.I (bi (F*R) (cm F R pc kq sd 2))))) F8;have de:Le H2 (H3.set ag (.L (List.set [.I 0,.I 0,.I 0,.I 0,.I 0,.I 0,.I 0] (2:Int).toNat (.I (bi (F*R) (cm F R pc kq sd 2)))))):=cj.set ⋯ _
 change (H3.set ag _)[ag]? =some (.L [.I 0,.I 0,.I (bi (F*R) (cm F R pc kq sd 2)),.I 0,.I 0,.I 0,.I 0])at DK
 generalize (H3.set ag (.L (List.set [.I 0,.I 0,.I 0,.I 0,.I 0,.I 0,.I 0] (2:Int).toNat (.I (bi (F*R) (cm F R pc kq sd 2))))))=H4 at*;have E4:=E.le de;refine dI ?_;refine P.iA E4 ⟨_,P.dO,cV E4 (kd:=3) nofun rfl (BW.and ⟨_,P.dO,iV.list ⋯ DK nofun (by simp) nofun ?_⟩)⟩;have g3:Builtin.bitAnd (b5 F R fA (dr pc sd) (kq sd)) (bi (F*R) (BY F R pc kq (1-sd) 3))=bi (F*R) (cm F R pc kq sd 3):=bi_and ..;rw[g3];have z7:=get_set (.L (List.set [.I 0,.I 0,.I (bi (F*R) (cm F R pc kq sd 2)),.I 0,.I 0,.I 0,.I 0] (3:Int).toNat (.I (bi (F*R) (cm F R pc kq sd 3))))) DK;have eJ:Le H2 (H4.set ag (.L (List.set [.I 0,.I 0,.I (bi (F*R) (cm F R pc kq sd 2)),.I 0,.I 0,.I 0,.I 0] (3:Int).toNat (.I (bi (F*R) (cm F R pc kq sd 3)))))):=de.set ⋯ _
 change (H4.set ag _)[ag]? =some (.L [.I 0,.I 0,.I (bi (F*R) (cm F R pc kq sd 2)),.I (bi (F*R) (cm F R pc kq sd 3)),.I 0,.I 0,.I 0])at z7
 generalize (H4.set ag (.L (List.set [.I 0,.I 0,.I (bi (F*R) (cm F R pc kq sd 2)),.I 0,.I 0,.I 0,.I 0] (3:Int).toNat (.I (bi (F*R) (cm F R pc kq sd 3))))))=H5 at*;have E5:=E.le eJ;refine dI ?_;refine P.iA E5 ⟨_,P.fu,cV E5 (kd:=4) nofun rfl (BW.and ⟨_,P.fu,iV.list ⋯ z7 nofun (by simp) nofun ?_⟩)⟩;have g4:Builtin.bitAnd (b5 F R fS (dr pc sd) (kq sd)) (bi (F*R) (BY F R pc kq (1-sd) 4))=bi (F*R) (cm F R pc kq sd 4):=bi_and ..;rw[g4];have z8:=get_set (.L (List.set [.I 0,.I 0,.I (bi (F*R) (cm F R pc kq sd 2)),.I (bi (F*R) (cm F R pc kq sd 3)),.I 0,.I 0,.I 0] (4:Int).toNat (.I (bi (F*R) (cm F R pc kq sd 4))))) z7;have jO:Le H2 (H5.set ag (.L (List.set [.I 0,.I 0,.I (bi (F*R) (cm F R pc kq sd 2)),.I (bi (F*R) (cm F R pc kq sd 3)),.I 0,.I 0,.I 0] (4:Int).toNat (.I (bi (F*R) (cm F R pc kq sd 4)))))):=eJ.set ⋯ _
 change (H5.set ag _)[ag]? =some (.L [.I 0,.I 0,.I (bi (F*R) (cm F R pc kq sd 2)),.I (bi (F*R) (cm F R pc kq sd 3)),.I (bi (F*R) (cm F R pc kq sd 4)),.I 0,.I 0])at z8
 generalize (H5.set ag (.L (List.set [.I 0,.I 0,.I (bi (F*R) (cm F R pc kq sd 2)),.I (bi (F*R) (cm F R pc kq sd 3)),.I 0,.I 0,.I 0] (4:Int).toNat (.I (bi (F*R) (cm F R pc kq sd 4))))))=H6 at*;have E6:=E.le jO;have O6:=OW.le jO;refine dI ?_;refine BW.or (P.iA E6 ⟨_,P.cB,cV E6 (kd:=5) nofun rfl (BW.and (BW.and (P.iA O6 ⟨_,P.cB,cV O6 (kd:=5) nofun rfl (UW.inv (BW.and ⟨_,P.fu,cz.list z8 nofun nofun rfl (BW.and (UW.inv (BW.and ⟨_,P.cB,iV.list ⋯ z8 nofun (by simp) nofun ?_⟩)))⟩))⟩)))⟩);have g5:Builtin.bitAnd (Builtin.bitAnd (Builtin.bitAnd (Builtin.bitAnd (Builtin.bitOr (b5 F R fS (dr pc sd) (kq sd)) (b5 F R fA (dr pc sd) (kq sd))) (bi (F*R) (BY F R pc kq (1-sd) 5))) (bi (F*R) (bR F R pc kq sd))) (Builtin.bitNot (bi (F*R) (BY F R pc kq sd 5)))) (Builtin.bitNot (Builtin.bitAnd (bi (F*R) (cm F R pc kq sd 4)) (bi (F*R) (bR F R pc kq sd))))
  =bi (F*R) (cm F R pc kq sd 5):=aE<|by
  rintro-u;unfold b5 cm C9 DC;simp only[aL,bt,bL,aq];cases decide (u<F*R)<;>simp
 rw[g5];have F9:=get_set (.L (List.set [.I 0,.I 0,.I (bi (F*R) (cm F R pc kq sd 2)),.I (bi (F*R) (cm F R pc kq sd 3)),.I (bi (F*R) (cm F R pc kq sd 4)),.I 0,.I 0] (5:Int).toNat (.I (bi (F*R) (cm F R pc kq sd 5))))) z8;have Fb:Le H2 (H6.set ag (.L (List.set [.I 0,.I 0,.I (bi (F*R) (cm F R pc kq sd 2)),.I (bi (F*R) (cm F R pc kq sd 3)),.I (bi (F*R) (cm F R pc kq sd 4)),.I 0,.I 0] (5:Int).toNat (.I (bi (F*R) (cm F R pc kq sd 5)))))):=jO.set ⋯ _;have Hq:(H6.set ag (.L (List.set [.I 0,.I 0,.I (bi (F*R) (cm F R pc kq sd 2)),.I (bi (F*R) (cm F R pc kq sd 3)),.I (bi (F*R) (cm F R pc kq sd 4)),.I 0,.I 0] (5:Int).toNat (.I (bi (F*R) (cm F R pc kq sd 5))))))[ag]? =some (tab 7 fun kd=>bi (F*R) (cm F R pc kq sd kd)):=by
  rw[F9];have f0:bi (F*R) (cm F R pc kq sd 0)=0:=(aT _ _).mpr fun _ _=>rfl;have f1:bi (F*R) (cm F R pc kq sd 1)=0:=(aT _ _).mpr fun _ _=>rfl;have f6:bi (F*R) (cm F R pc kq sd 6)=0:=(aT _ _).mpr fun _ _=>rfl;show some (O.L [.I 0,.I 0,.I (bi (F*R) (cm F R pc kq sd 2)),.I (bi (F*R) (cm F R pc kq sd 3)),.I (bi (F*R) (cm F R pc kq sd 4)),.I (bi (F*R) (cm F R pc kq sd 5)),.I 0])=some (O.L [.I (bi (F*R) (cm F R pc kq sd 0)),.I (bi (F*R) (cm F R pc kq sd 1)),.I (bi (F*R) (cm F R pc kq sd 2)),.I (bi (F*R) (cm F R pc kq sd 3)),.I (bi (F*R) (cm F R pc kq sd 4)),.I (bi (F*R) (cm F R pc kq sd 5)),.I (bi (F*R) (cm F R pc kq sd 6))]);rw[f0,f1,f6]
 clear F9 F8 DK z7 z8;generalize (H6.set ag (.L (List.set [.I 0,.I 0,.I (bi (F*R) (cm F R pc kq sd 2)),.I (bi (F*R) (cm F R pc kq sd 3)),.I (bi (F*R) (cm F R pc kq sd 4)),.I 0,.I 0] (5:Int).toNat (.I (bi (F*R) (cm F R pc kq sd 5))))))=H7 at*;clear cj de eJ jO A3 G3 O3 E3 E4 E5 E6 O6 g2 g3 g4 g5;refine au ?_;refine au ?_;refine zq ?_;refine⟨_,P.fU,_,P.dO,_,P.fu,_,P.cB,by simp,?_⟩;refine⟨_,_,(fun i ρ H'=>H7++[.tup [.I 2,.I 3,.I 4,.I 5]]=H'∧∃BV I7,ρ=[some (.ref p),some (.I sd),some (.ref ml),some (.ref g),some (.ref mo),some (.ref me),some (.I (kq sd)),some (.I (bi (F*R) (dr pc sd))),some (.I (b5 F R fS (dr pc sd) (kq sd))),some (.I (b5 F R fA (dr pc sd) (kq sd))),some (.I (bi (F*R) (bR F R pc kq sd))),some (.ref ag),some (.I (iX F R pc kq sd (([2,3,4,5]).take i))),some (.I (bi (F*R) (iD F R pc kq sd (([2,3,4,5]).take i)))),BV,I7,none,none,none,none,none,none,none,none,none,none,none]),rfl,af _ _,⟨rfl,none,none,?_⟩,fun i ρ H' hI=>by rw[←hI.1];exact af _ _,?_,?_⟩
 · have:bi (F*R) (iD F R pc kq sd (([2,3,4,5]).take 0))=0:=(aT _ _).mpr fun _ _=>rfl;rw[this];rfl
 · rintro-i x ρ H' hx ⟨rfl,BV,I7,rfl⟩;have hi:i<4:=(z06.mp hx).1;obtain(⟨kd,i5,ex,hL⟩):∃kd,(2≤kd∧kd≤5)∧x=.I ((kd:Nat):Int)∧([2,3,4,5]).take (i+1)=([2,3,4,5]).take i++[kd]:=by
    refine⟨i+2,⋯,?_,?_⟩
    · have:i=0∨i=1∨i=2∨i=3:=⋯
      rcases this with rfl|rfl|rfl|rfl<;>(cases hx;rfl)
    · have:i=0∨i=1∨i=2∨i=3:=⋯
      rcases this with rfl|rfl|rfl|rfl<;>rfl
   subst ex;rw[hL];have dD:iX F R pc kq sd (([2,3,4,5]).take i++[kd])=iX F R pc kq sd (([2,3,4,5]).take i)+rG kd (nV F R pc kq sd kd):=by
    unfold iX;rw[List.map_append,List.sum_append];simp
   have dU:∀u,iD F R pc kq sd (([2,3,4,5]).take i++[kd]) u=(iD F R pc kq sd (([2,3,4,5]).take i) u||(decide (nV F R pc kq sd kd=0)&&cm F R pc kq sd kd u)):=by
    rintro-u;unfold iD;rw[List.any_append];simp
   generalize ([2,3,4,5]).take i=l at*;have N_:Le dJ (H7++[O.tup [.I 2,.I 3,.I 4,.I 5]]):=(st.trans Fb).aS _;have BN:=ai (O.tup [.I 2,.I 3,.I 4,.I 5]) Hq;generalize (H7++[O.tup [.I 2,.I 3,.I 4,.I 5]])=H8 at*;refine au ?_;refine aG BN (t:=kd) ⋯ nofun rfl (BW.and (dZ ?_));dsimp only[List.set];have rest:∀aO H',(H8=H'∧aO=[some (.ref p),some (.I sd),some (.ref ml),some (.ref g),some (.ref mo),some (.ref me),some (.I (kq sd)),some (.I (bi (F*R) (dr pc sd))),some (.I (b5 F R fS (dr pc sd) (kq sd))),some (.I (b5 F R fA (dr pc sd) (kq sd))),some (.I (bi (F*R) (bR F R pc kq sd))),some (.ref ag),some (.I (iX F R pc kq sd l)),some (.I (bi (F*R) (iD F R pc kq sd l))),some (.I (kd:Nat)),some (.I (bi (F*R) (jI F R pc kq sd kd))),none,none,none,none,none,none,none,none,none,none,none])→
    wX C (k+3) (.bq (.bf (.V 15)) (.aug 12 .Add (.sub (.sub (.gl (s "SAFE_CHECKS")) (.V 14)) (.bq (.bf (.K (s "more_than_one") (.C (.V 15) .N))) (.I 1) (.I 0))) .N) (.aug 13 .BitOr (.sub (.V 11) (.V 14)) .N) .N) aO H' (Tn C (k+3) (.ret (.tup (.C (.V 12) (.C (.V 13) .N)))) (bO (Dy H (.tup [.I (iX F R pc kq sd [2,3,4,5]),.I (bi (F*R) (iD F R pc kq sd [2,3,4,5]))]))) (fun ρ H'=>H8=H'∧∃BV I7,ρ=[some (.ref p),some (.I sd),some (.ref ml),some (.ref g),some (.ref mo),some (.ref me),some (.I (kq sd)),some (.I (bi (F*R) (dr pc sd))),some (.I (b5 F R fS (dr pc sd) (kq sd))),some (.I (b5 F R fA (dr pc sd) (kq sd))),some (.I (bi (F*R) (bR F R pc kq sd))),some (.ref ag),some (.I (iX F R pc kq sd (l++[kd]))),some (.I (bi (F*R) (iD F R pc kq sd (l++[kd])))),BV,I7,none,none,none,none,none,none,none,none,none,none,none])):=by
    rintro-aO H' ⟨rfl,rfl⟩;have c0:=kB (x:=bi (F*R) (jI F R pc kq sd kd)) (n:=F*R) (gL _ _) (jv _ _);rw[kK]at c0;refine Gq ?_;refine bk.int ⟨?_,?_⟩
    · rintro-e;have hne:nV F R pc kq sd kd≠0:=by
       rintro-q;have:=c0.mp q;simp[this]at e
      refine aY rfl ?_;refine⟨_,P.qt,cz.list (N_.at_ 12 _ rfl) ⋯ ⋯ (y:=.ref (6+kd)) ?_ ?_⟩
      · rw[z02];have:kd=2∨kd=3∨kd=4∨kd=5:=⋯
        rcases this with rfl|rfl|rfl|rfl<;>rfl
      have ht:H8[6+kd]? =some (.tup [.I (FT kd).1,.I (FT kd).2]):=N_.at_ _ _ (by
       have:kd=2∨kd=3∨kd=4∨kd=5:=⋯
       rcases this with rfl|rfl|rfl|rfl<;>rfl)
      refine aa.up (k:=k+1) (aa.pv P.iR ?_);refine bk.bool ⟨?_,?_⟩
      · rintro-e;have h1:1<nV F R pc kq sd kd:=z03 e;refine cz.tup ht nofun nofun rfl (IW.add (az ⟨rfl,some (.I (kd:Nat)),some (.I (bi (F*R) (jI F R pc kq sd kd))),?_⟩));rw[dD];have:bi (F*R) (iD F R pc kq sd (l++[kd]))=bi (F*R) (iD F R pc kq sd l):=bK fun u _=>by rw[dU];simp[hne]
        rw[this];unfold rG;rw[if_neg hne,if_pos h1]
        rfl
      · rintro-e;have h1:¬1<nV F R pc kq sd kd:=z04 e;refine cz.tup ht nofun nofun rfl (IW.add (az ⟨rfl,some (.I (kd:Nat)),some (.I (bi (F*R) (jI F R pc kq sd kd))),?_⟩));rw[dD];have:bi (F*R) (iD F R pc kq sd (l++[kd]))=bi (F*R) (iD F R pc kq sd l):=bK fun u _=>by rw[dU];simp[hne]
        rw[this];unfold rG;rw[if_neg hne,if_neg h1]
        rfl
    · rintro-e;have he:nV F R pc kq sd kd=0:=c0.mpr (by simpa using e);refine aY rfl ?_;refine aG BN (t:=kd) ⋯ nofun rfl (IW.or (az ⟨rfl,some (.I (kd:Nat)),some (.I (bi (F*R) (jI F R pc kq sd kd))),?_⟩));rw[dD];have e7:Builtin.bitOr (bi (F*R) (iD F R pc kq sd l)) (bi (F*R) (cm F R pc kq sd kd))=bi (F*R) (iD F R pc kq sd (l++[kd])):=aE<|by
       rintro-u;rw[bt,aq,aq,aq,dU];simp only[he];cases decide (u<F*R)<;>simp
      rw[e7];unfold rG;rw[if_pos he,Int.add_zero]
      rfl
   have e8:Builtin.bitAnd (bi (F*R) (cm F R pc kq sd kd)) (bi (F*R) (bR F R pc kq sd))=bi (F*R) (fun u=>cm F R pc kq sd kd u&&bR F R pc kq sd u):=bi_and ..;rw[e8];refine t9 (kP rfl (GZ ⟨_,P.dO,CW.eq (bk.bool ⟨_,?_,?_,rest⟩)⟩))
   · rintro-e K hK;have h3:kd=3:=by have:=z03 e;omega
     refine aY rfl ?_;refine⟨_,P.cB,aG BN (t:=5) ⋯ nofun rfl (UW.inv (IW.and (az (hK _ _ ⟨rfl,?_⟩))))⟩;have e9:Builtin.bitAnd (bi (F*R) fun u=>cm F R pc kq sd kd u&&bR F R pc kq sd u) (Builtin.bitNot (bi (F*R) (cm F R pc kq sd 5)))=bi (F*R) (jI F R pc kq sd kd):=aE<|by
      rintro-u;unfold jI;rw[aL,bL,aq,aq,aq];simp only[h3];cases decide (u<F*R)<;>simp
     rw[e9]
     rfl
   · rintro-e K hK;have h3:¬kd=3:=by have:=z04 e;omega
     refine az (hK _ _ ⟨rfl,?_⟩);have e9:(bi (F*R) fun u=>cm F R pc kq sd kd u&&bR F R pc kq sd u)=bi (F*R) (jI F R pc kq sd kd):=bK<|by
      rintro-u _;unfold jI;simp[h3]
     rw[e9]
 · rintro-ρ H' ⟨rfl,BV,I7,rfl⟩;refine aM ?_;exact⟨by simp,_,rfl,((bJ.trans Fb).aS _).aS _,af _ _⟩
end
def rX (F ks u:Nat):Bool:=decide ((((u % F:Nat):Int)-((ks % F:Nat):Int)).natAbs≤2)
def kF (F R sd ks u:Nat):Bool:=decide (hg F R sd u<R*5/8)&&rX F ks u
section
variable (F R:Nat) (pc:Nat→Int) (kq:Nat→Nat) (sd:Nat)
def eB:Nat:=cnt (F*R) (fun u=>BY F R pc kq (1-sd) 0 u&&kF F R sd (kq sd) u)+cnt (F*R) (fun u=>vJ F R pc kq (1-sd) u&&kF F R sd (kq sd) u)
def FV:Int:=iX F R pc kq sd [2,3,4,5]+(zv F R pc kq sd:Int)*D1 F R pc kq sd+69*D0 F R pc kq sd+37
def FX:Int:=183*(cnt (F*R) (fun u=>mY F R pc sd (kq sd) u&&kG F R pc kq sd u):Int)+148*(cnt (F*R) (iD F R pc kq sd [2,3,4,5]):Int)
def FY:Int:=98*(cnt (F*R) (SH F R pc kq sd):Int)+(3*(eB F R pc kq sd:Int)*(eB F R pc kq sd:Int)).fdiv 8
def FZ:Int:=dn F R pc kq (1-sd)-dn F R pc kq sd
def F0:Int:=4*(cnt (F*R) (fun u=>BY F R pc kq sd 0 u&&kF F R sd (kq sd) u):Int)
def CX:Bool:=decide (bi (F*R) (cS pc (1-sd) 5)=0)
def Gh:Bool:=decide (bi (F*R) (fun u=>BY F R pc kq sd 2 u&&BY F R pc kq sd 6 u)≠0)
def Cj:Int:=FV F R pc kq sd+FX F R pc kq sd+FY F R pc kq sd+FZ F R pc kq sd-F0 F R pc kq sd-(if CX F R pc sd then 873 else 0)-(if Gh F R pc kq sd then 100 else 0)
def y2:Bool:=decide (bi (F*R) (fun u=>kb pc 1 u&&rX F (kq sd) u)=0)
def vz (a:Int):Int:=min (Cj F R pc kq sd-t7 (6*a)) 5000
def La (a b:Int):Int:=sc a b-(if 100<vz F R pc kq sd a then sc ((vz F R pc kq sd a*vz F R pc kq sd a).fdiv 4096) ((vz F R pc kq sd a).fdiv 16)else 0)-(if y2 F R pc kq sd then sc 17 95 else 0)-sc (8*(eB F R pc kq sd:Int)) 0
end
theorem zz (F R:Nat) (pc:Nat→Int) (sd:Nat):(RS F R pc sd).length≤6*(F*R):=by
 unfold RS;exact z20 (z13 _ _) (lu F R pc sd 6)
section
variable {C:Cx} (P:Pg C) {k:Nat} {H:Hp} {F R p g:Nat} {pc:Nat→Int} {kq:Nat→Nat} {ml:Nat}
include P
theorem Pg.lL (z:Sz F R) (G:kH F R g H) {ks:Nat} (hk:ks<F*R):aa C (k+1) (s "flank_files") [.ref g,.I ks] H (lE (.I (bi (F*R) (rX F ks))) H):=by
 injection C k H F R g ks with P z G hk
 have hn:=z.n;have z':=z;obtain(⟨f1,f2,r1,r2⟩):=z';refine P.n7 ?_;rintro-_;unfold iK;refine au ?_;refine cq P F (fun i ρ H'=>Le H H'∧∃v3,ρ=[some (.ref g),some (.I ks),some (.I (bi (F*R) fun u=>decide (u % F<i)&&rX F ks u)),v3,none,none]) ?_ ⋯ ?_ ?_
 · obtain(⟨kg,rla,rs,G⟩):=G;refine P.a_ G.o ⟨rfl,Le.app _ _,none,?_⟩;have:(bi (F*R) fun u=>decide (u % F<0)&&rX F ks u)=0:=(aT _ _).mpr fun u _=>by simp
   rw[this]
   rfl
 · rintro-i ρ H' hi ⟨le,v3,rfl⟩;obtain(⟨kg,rla,rs,G⟩):=G.le le;refine bA (t9 (yu (cF (jz (kP rfl (jz (kP rfl (GX (kP rfl ?_)))))))));refine P.a_ G.o (BW.mod ⋯ ?_);rw[cJ];refine BW.sub (P.abs (CW.le (bk.bool ⟨?_,?_⟩)))
   · rintro-e;refine aY rfl ?_;refine P.mF G.o (G.m.file (f:=i) hi rfl ⋯ (IW.or (az ⟨le,some (.I (i:Nat)),?_⟩)));have h2:(((i:Nat):Int)-((ks % F:Nat):Int)).natAbs≤2:=by have:=z03 e;omega
     have:Builtin.bitOr (bi (F*R) fun u=>decide (u % F<i)&&rX F ks u) (bY F R i)=(bi (F*R) fun u=>decide (u % F<i+1)&&rX F ks u):=aE<|by
      rintro-u;unfold bY;rw[bt,aq,aq,aq]
      by_cases h:u % F=i
      · have h3:rX F ks u=true:=by unfold rX;rw[h];exact decide_eq_true h2
        simp[h,h3]
      · have h4:decide (u % F<i+1)=decide (u % F<i):=by rw[z07];simp;omega
        rw[h4];have h5:(u % F==i)=false:=by simpa using h
        rw[h5];simp
     rw[this]
     rfl
   · rintro-e;refine az ⟨le,some (.I (i:Nat)),?_⟩;have h2:¬(((i:Nat):Int)-((ks % F:Nat):Int)).natAbs≤2:=by have:=z04 e;omega
     have:(bi (F*R) fun u=>decide (u % F<i)&&rX F ks u)=(bi (F*R) fun u=>decide (u % F<i+1)&&rX F ks u):=bK<|by
      rintro-u _
      by_cases h:u % F=i
      · have h3:rX F ks u=false:=by unfold rX;rw[h];exact decide_eq_false h2
        simp[h3]
      · have h4:decide (u % F<i+1)=decide (u % F<i):=by rw[z07];simp;omega
        rw[h4]
     rw[this];rfl
 · rintro-ρ H' ⟨le,v3,rfl⟩;refine aM ?_;refine⟨?_,le⟩
   congr 1
   refine bK ?_;rintro-u hu;have:u % F<F:=Nat.mod_lt _ ⋯;simp[this]
theorem Pg.iF (z:Sz F R) (G:kH F R g H) {sd ks:Nat} (hs:sd<2) (hk:ks<F*R):aa C (k+2) (s "flank_squares") [.ref g,.I sd,.I ks] H (lE (.I (bi (F*R) (kF F R sd ks))) H):=by
 injection C k H F R g sd ks with P z G hs hk
 have hn:=z.n;have z':=z;obtain(⟨f1,f2,r1,r2⟩):=z';refine P.kY ?_;rintro-_;unfold gu;refine au ?_;refine cq P (R*5/8) (fun i ρ H'=>Le H H'∧∃v4,ρ=[some (.ref g),some (.I sd),some (.I ks),some (.I (bi (F*R) fun u=>decide (hg F R sd u<i))),v4,none,none,none]) ?_ ⋯ ?_ ?_
 · obtain(⟨kg,rla,rs,G⟩):=G;refine P.f' G.o (BW.mul (.inr nofun) (BW.div nofun nofun ⟨?_,Le.app _ _,none,?_⟩))
   · have:((R:Int)*5)=((R*5:Nat):Int):=by push_cast;rfl
     rw[this];exact congrArg V.I (dN _ 8)
   · have:(bi (F*R) fun u=>decide (hg F R sd u<0))=0:=(aT _ _).mpr fun u _=>by simp
     rw[this]
     rfl
 · rintro-i ρ H' hi ⟨le,v4,rfl⟩;refine aY rfl ?_;refine aa.pv (P.jc z (G.le le) hs (r:=i) ⋯) ?_;refine IW.or (az ⟨le,some (.I (i:Nat)),?_⟩);have:Builtin.bitOr (bi (F*R) fun u=>decide (hg F R sd u<i)) (bi (F*R) (x8 F R sd i))=(bi (F*R) fun u=>decide (hg F R sd u<i+1)):=aE<|by
    rintro-u;rw[bt,aq,aq,aq]
    by_cases hu:u<F*R
    · have:x8 F R sd i u=decide (hg F R sd u=i):=by
       have hr:u/F<R:=z30 hu;unfold x8 hg
       by_cases h:sd=0
       · simp only[h,if_true];rw[z07];simp
       · simp only[h,if_false];rw[z07];simp;exact xi (z31 hr) ⋯
      rw[this];simp only[hu,decide_true,Bool.true_and];rw[z07];simp;omega
    · simp[hu]
   rw[this]
   rfl
 · rintro-ρ H' ⟨le,v4,rfl⟩;refine aM ?_;refine aa.lv (P.lL z (G.le le) hk) ?_;rintro-eG bJ;refine BW.and ⟨?_,le.trans bJ⟩
   congr 1
   refine aE ?_;rintro-u;unfold kF;rw[aL,aq,aq,aq];cases decide (u<F*R)<;>simp
theorem Pg.l_ (z:Sz F R) (G:kH F R g H) (MM:dh F R pc kq ml H) {sd:Nat} (hs:sd<2) (hk:∀i,kq i<F*R):aa C (k+3) (s "storm_count") [.ref g,.I sd,.ref ml] H (lE (.I (eB F R pc kq sd)) H):=by
 injection C k H F R g pc kq ml sd with P z G MM hs hk
 have e1:(1:Int)-(sd:Int)=((1-sd:Nat):Int):=⋯
 refine P.oj ?_;rintro-_;unfold iQ;refine au ?_;refine MM.get hs rfl ?_;rintro-mo bo ro rso OW;refine P.lr OW ?_;refine aa.lv (P.iF z G hs (hk sd)) ?_;rintro-H1 bg;refine aM ?_;refine BW.sub ((MM.le bg).get (sd:=1-sd) ⋯ e1 ?_);rintro-me be re rse E;refine P.iA E (cV E (kd:=0) nofun rfl (BW.and ?_));have g1:Builtin.bitAnd (bi (F*R) (BY F R pc kq (1-sd) 0)) (bi (F*R) (kF F R sd (kq sd)))=bi (F*R) (fun u=>BY F R pc kq (1-sd) 0 u&&kF F R sd (kq sd) u):=bi_and ..;rw[g1];refine aa.up (k:=k+1) (aa.pv P.cn ?_);refine BW.sub ((MM.le bg).get (sd:=1-sd) ⋯ e1 ?_);rintro-me be re rse E;refine P.s8 E (BW.and ?_);have g2:Builtin.bitAnd (bi (F*R) (yi F R pc (1-sd) (kq (1-sd)) (bM F R pc (1-sd) 6))) (bi (F*R) (kF F R sd (kq sd)))=bi (F*R) (fun u=>vJ F R pc kq (1-sd) u&&kF F R sd (kq sd) u):=bi_and ..;rw[g2];refine aa.up (k:=k+1) (aa.pv P.cn ?_);refine BW.add ⟨?_,bg⟩;unfold eB;push_cast;rfl
theorem Pg.lN (z:Sz F R) (st:Le dJ H) (M:fz (F*R) pc) (A:ct F R p g pc H) (MM:dh F R pc kq ml H) {sd:Nat} (hs:sd<2) (hk:∀i,kq i<F*R) (hm:∀i,-32768≤dn F R pc kq i∧dn F R pc kq i<32768):
 aa C (k+5) (s "king_danger") [.ref p,.I sd,.ref ml] H (lE (.I (Cj F R pc kq sd)) H):=by
 injection C k H F R p g pc kq ml sd with P z st M A MM hs hk hm
 have hn:=z.n;have lh:1-sd<2:=⋯
 have e1:(1:Int)-(sd:Int)=((1-sd:Nat):Int):=⋯
 refine P.n_ ?_;rintro-_;unfold iL;refine au ?_;refine MM.get hs rfl ?_;rintro-mo bo ro rso OW;refine au ?_;refine P.lr OW ?_;refine aa.up (k:=k+3) (aa.lv (P.sz z A hs (hk sd)) ?_);rintro-H1 bg;refine rf ?_;obtain(⟨ka,sa,AA⟩):=A.le bg;refine P.dT AA.o ?_;refine aa.up (k:=k+3) (aa.mono (P.o9 z (st.trans bg) AA.g (MM.le bg) hs hk) ?_);rintro-_ H2 ⟨m2,rfl,bJ,CF⟩;refine⟨m2,_,rfl,CF,rfl,?_⟩;have DP:=bg.trans bJ;refine rf ?_;refine aa.mono (P.jx z (st.trans DP) M (A.le DP) (MM.le DP) hs hk) ?_;rintro-_ H3 ⟨m3,rfl,cj,Hx⟩;refine⟨m3,_,rfl,Hx,rfl,?_⟩;have JC:=DP.trans cj;refine au ?_;obtain(⟨RE,RP,A3⟩):=A.le JC;dsimp only[List.set,sets];refine yu (cF (GX (kP rfl (P.dT A3.o (cF (kP rfl (cF (kP rfl (vL ?_)))))))));refine aa.up (k:=k+3) (aa.lv (P.l_ z A3.g (MM.le JC) hs hk) ?_);rintro-H4 de;have le:=JC.trans de;clear bg bJ cj de DP JC CF Hx AA A3;replace st:=st.trans le;replace A:=A.le le;replace MM:=MM.le le;replace OW:=OW.le le;obtain(⟨ka,sa,AA⟩):=A;have A:ct F R p g pc H4:=⟨ka,sa,AA⟩;have rl:=zz F R pc (1-sd);have rc:zv F R pc kq sd≤1000:=by
  unfold zv;have h1:=fa (F*R) (fun u=>fR F R (kq sd) u&&BY F R pc kq (1-sd) 1 u);have h2:=z13 (inR F R pc kq sd) (RS F R pc (1-sd));omega
 have N':eB F R pc kq sd≤1000:=by
  unfold eB;have h1:=fa (F*R) (fun u=>BY F R pc kq (1-sd) 0 u&&kF F R sd (kq sd) u);have h2:=fa (F*R) (fun u=>vJ F R pc kq (1-sd) u&&kF F R sd (kq sd) u);omega
 refine au ?_;refine BW.mul (.inl ⋯) (BW.add (BW.mul (.inl nofun) (BW.add (BW.add (aY rfl ?_)))));refine aa.up (k:=k+1) (aa.pv (P.kC MM hs) ?_);have g1:Builtin.bitAnd (bi (F*R) (mY F R pc sd (kq sd))) (bi (F*R) (kG F R pc kq sd))=bi (F*R) (fun u=>mY F R pc sd (kq sd) u&&kG F R pc kq sd u):=bi_and ..;refine BW.and ?_;rw[g1];refine aa.up (k:=k+1) (aa.pv P.cn ?_);refine BW.mul (.inl nofun) ?_;refine aa.up (k:=k+1) (aa.pv P.cn ?_);refine BW.mul (.inl nofun) (BW.add (IW.add (aY rfl ?_)));refine P.qW OW ?_;refine aa.up (k:=k+1) (aa.pv P.cn ?_);refine BW.mul (.inl nofun) (BW.mul (.inl nofun) (BW.mul (.inr ⋯) (BW.div nofun nofun (BW.add (IW.add (aY rfl ?_))))));refine BW.sub ?_;rw[e1];refine aa.pv (P.g8 z st M A MM lh) ?_;refine aa.up (k:=k+2) (aa.pv (P.mg_of (hm _).1 (hm _).2) ?_);refine aa.pv (P.g8 z st M A MM hs) ?_;refine aa.up (k:=k+2) (aa.pv (P.mg_of (hm _).1 (hm _).2) ?_);refine BW.sub (IW.add (aY rfl ?_));refine P.iA OW (cV OW (kd:=0) nofun rfl (P.dT AA.o (P.lr OW ?_)));refine aa.up (k:=k+2) (aa.lv (P.iF z AA.g hs (hk sd)) ?_);rintro-H5 eJ;have g2:Builtin.bitAnd (bi (F*R) (BY F R pc kq sd 0)) (bi (F*R) (kF F R sd (kq sd)))=bi (F*R) (fun u=>BY F R pc kq sd 0 u&&kF F R sd (kq sd) u):=bi_and ..;refine BW.and ?_;rw[g2];refine aa.up (k:=k+1) (aa.pv P.cn ?_);refine BW.mul (.inl nofun) (IW.sub ?_);have ev:iX F R pc kq sd [2,3,4,5]+(zv F R pc kq sd:Int)*D1 F R pc kq sd+69*D0 F R pc kq sd+37+(183*(cnt (F*R) (fun u=>mY F R pc sd (kq sd) u&&kG F R pc kq sd u):Int)+148*(cnt (F*R) (iD F R pc kq sd [2,3,4,5]):Int))
  +(98*(cnt (F*R) (pF F R pc sd (kq sd)):Int)+(3*(eB F R pc kq sd:Int)*(eB F R pc kq sd:Int)).fdiv 8)+(dn F R pc kq (1-sd)-dn F R pc kq sd)-4*(cnt (F*R) (fun u=>BY F R pc kq sd 0 u&&kF F R sd (kq sd) u):Int)
  =FV F R pc kq sd+FX F R pc kq sd+FY F R pc kq sd+FZ F R pc kq sd-F0 F R pc kq sd:=rfl
 rw[ev];replace A:=A.le eJ;replace OW:=OW.le eJ;replace le:=le.trans eJ;generalize hX:FV F R pc kq sd+FX F R pc kq sd+FY F R pc kq sd+FZ F R pc kq sd-F0 F R pc kq sd=X;refine dZ ?_;dsimp only[List.set,sets];refine(DF (qH (yu (cF (kP rfl (cF (jz (Cn (kP rfl (BW.sub ?_))))))))));rw[e1];refine cF (GZ ⟨_,P.cB,vL (aa.up (k:=k+1) (aa.pv (P.pieces A lh (kd:=5) nofun nofun) ?_))⟩);refine bk.int ⟨(fun aO H'=>H5=H'∧aO=[some (.ref p),some (.I sd),some (.ref ml),some (.ref mo),some (.I (bi (F*R) (mY F R pc sd (kq sd)))),some (.I (zv F R pc kq sd)),some (.I (D1 F R pc kq sd)),some (.I (D0 F R pc kq sd)),some (.I (iX F R pc kq sd [2,3,4,5])),some (.I (bi (F*R) (iD F R pc kq sd [2,3,4,5]))),some (.I (eB F R pc kq sd)),some (.I (X-(if CX F R pc sd then 873 else 0))),none,none,none,none,none,none,none,none,none,none,none,none,none]),?_,?_,?_⟩
 · rintro-e K hK;have:CX F R pc sd=true:=by unfold CX;simpa using e
   refine aY rfl ?_;refine IW.sub (az (hK _ _ ⟨rfl,?_⟩));rw[if_pos this]
   rfl
 · rintro-e K hK;have:¬CX F R pc sd=true:=by unfold CX;simpa using e
   refine az (hK _ _ ⟨rfl,?_⟩);rw[if_neg this,Int.sub_zero]
 · rintro-_ _ ⟨rfl,rfl⟩;refine bA ?_;have g3:Builtin.bitAnd (bi (F*R) (BY F R pc kq sd 2)) (bi (F*R) (BY F R pc kq sd 6))=bi (F*R) (fun u=>BY F R pc kq sd 2 u&&BY F R pc kq sd 6 u):=bi_and ..;refine P.iA OW ⟨_,P.fU,cV OW (kd:=2) nofun rfl (P.iA OW ⟨_,P.fj,cV OW (kd:=6) nofun rfl (BW.and ?_)⟩)⟩;rw[g3];refine bk.int ⟨?_,?_⟩
   · rintro-e;have:Gh F R pc kq sd=true:=e;refine aY rfl ?_;refine IW.sub (az (nx (aM ?_)));refine⟨?_,le⟩;unfold Cj;rw[hX,if_pos this]
   · rintro-e;have:¬Gh F R pc kq sd=true:=by unfold Gh;rw[e];decide
     refine aM ?_;refine⟨?_,le⟩;unfold Cj;rw[hX,if_neg this,Int.sub_zero]
theorem Pg.oA (z:Sz F R) (st:Le dJ H) (M:fz (F*R) pc) (A:ct F R p g pc H) (MM:dh F R pc kq ml H) {sd:Nat} (hs:sd<2) (hk:∀i,i<2→bW (F*R) pc i (kq i)) (hkn:∀i,kq i<F*R) (hm:∀i,-32768≤dn F R pc kq i∧dn F R pc kq i<32768)
 {a b:Int} (hsh:Mine.gg F R pc sd (kq sd)=sc a b) (Js: -32768≤a) (Nr:a<32768):
 aa C (k+6) (s "king_score") [.ref p,.I sd,.ref ml] H (lE (.I (La F R pc kq sd a b)) H):=by
 injection C k H F R p g pc kq ml sd a b with P z st M A MM hs hk hkn hm hsh Js Nr
 have hn:=z.n;refine P.pY ?_;rintro-_;unfold jV;refine au ?_;refine aa.up (k:=k+3) (aa.lv (P.gg z A hs (hk sd hs)) ?_);rintro-H1 bg;rw[hsh];refine au ?_;refine aa.lv (P.lN z (st.trans bg) M (A.le bg) (MM.le bg) hs hkn hm) ?_;rintro-H2 bJ;refine aa.up (k:=k+2) (aa.pv (P.mg_of Js Nr) ?_);refine BW.mul (.inl nofun) ?_;refine aa.up (k:=k+1) (aa.pv P.Ck ?_);refine BW.sub ⟨_,P.qq,P.min2 ?_⟩;have em:min (Cj F R pc kq sd-t7 (6*a)) 5000=vz F R pc kq sd a:=rfl;rw[em];have hle:vz F R pc kq sd a≤5000:=by unfold vz;omega
 have le:=bg.trans bJ;generalize hd:vz F R pc kq sd a=d at*;refine dZ ?_;dsimp only[List.set,sets];refine(t9 (kP rfl (Cn ?_)));refine CW.gt (bk.bool ⟨(fun aO H'=>H2=H'∧aO=[some (.ref p),some (.I sd),some (.ref ml),some (.I (sc a b-(if 100<d then sc ((d*d).fdiv 4096) (d.fdiv 16)else 0))),some (.I d),none,none,none,none,none,none,none,none,none,none]),?_,?_,?_⟩)
 · rintro-e K hK;have h1:100<d:=z03 e;refine aY rfl ?_;refine BW.mul (.inl ⋯) (BW.div nofun nofun (BW.div nofun nofun ?_));refine aa.up (k:=k+1) (aa.mono (P.cL ?_) ?_)
   · rw[z16 _ nofun];omega
   rintro-_ _ ⟨rfl,rfl⟩;refine IW.sub (az (hK _ _ ⟨rfl,?_⟩));rw[if_pos h1]
   rfl
 · rintro-e K hK;have h1:¬100<d:=z04 e;refine az (hK _ _ ⟨rfl,?_⟩);rw[if_neg h1,Int.sub_zero]
 · rintro-_ _ ⟨rfl,rfl⟩;generalize hX:sc a b-(if 100<d then sc ((d*d).fdiv 4096) (d.fdiv 16)else 0)=X;replace MM:=MM.le le;replace A:=A.le le;obtain(⟨ka,sa,AA⟩):=A;refine dZ ?_;refine P.dH AA.o ⟨_,P.fq,aG AA.k (t:=1) ⋯ nofun rfl (P.dT AA.o (MM.get hs rfl ?_))⟩;rintro-mo bo ro rso OW;refine P.lr OW ?_;refine aa.up (k:=k+1) (aa.lv (P.lL z AA.g (hkn sd)) ?_);rintro-H3 cj;have g3:Builtin.bitAnd (bi (F*R) (kb pc 1)) (bi (F*R) (rX F (kq sd)))=bi (F*R) (fun u=>kb pc 1 u&&rX F (kq sd) u):=bi_and ..;refine BW.and ?_;rw[g3];replace MM:=MM.le cj;replace AA:=AA.le cj;replace le:=le.trans cj;refine bk.int ⟨(fun aO H'=>H3=H'∧aO=[some (.ref p),some (.I sd),some (.ref ml),some (.I (X-(if y2 F R pc kq sd then sc 17 95 else 0))),some (.I d),none,none,none,none,none,none,none,none,none,none]),?_,?_,?_⟩
   · rintro-e K hK;have:y2 F R pc kq sd=true:=by unfold y2;simpa using e
     refine aY rfl ?_;refine aa.up (k:=k+1) (aa.pv (P.cL nofun) ?_);refine IW.sub (az (hK _ _ ⟨rfl,?_⟩));rw[if_pos this]
     rfl
   · rintro-e K hK;have:¬y2 F R pc kq sd=true:=by unfold y2;simpa using e
     refine az (hK _ _ ⟨rfl,?_⟩);rw[if_neg this,Int.sub_zero]
   · rintro-_ _ ⟨rfl,rfl⟩;refine aM ?_;refine P.dT AA.o ?_;refine aa.up (k:=k+3) (aa.lv (P.l_ z AA.g MM hs hkn) ?_);rintro-H4 de;refine BW.mul (.inl nofun) ?_;refine aa.up (k:=k+1) (aa.pv (P.cL nofun) ?_);refine BW.sub ⟨?_,le.trans de⟩;unfold La;rw[hd,hX]
end
def Src (C:Cx) (k:Nat) (H:Hp) (v:V) (ls:List Nat):Prop:=∃Hc,bF C k H v (nl ls) Hc∧∀o,Hc (H++[o])
section
variable {C:Cx} {k:Nat} {H:Hp} {Q:V→Hp→Prop} {ρ:List (Option V)}
theorem Src.list {n:Nat} {ls:List Nat} (h:H[n]? =some (.L (nl ls))):Src C k H (.ref n) ls:=⟨_,bF.list h,fun o=>ai o h⟩
theorem Src.range {m n:Nat} (h:H[m]? =some (.range 0 (n:Int) 1)) (hn:n≤1000):Src C k H (.ref m) (List.range n):=⟨_,sJ h hn,fun _=>trivial⟩
inductive Mz (C:Cx) (k:Nat) (rn:List (Option Nat)) (j:Nat) (cond elt:ME) (ρ:List (Option V)) (Q:V→Hp→Prop) (v:V) (H₁:Hp):Prop
 |mk (ls:List Nat) (c:Nat→Bool) (w:Nat→Int) (s:Src C k H₁ v ls) (hl:ls.length≤1000) (hT:C.T≤H₁.length)
  (hc:∀u∈ls,∀H',Le H₁ H'→wT C k cond ((aW rn ρ).set j (some (.I (u:Nat)))) H' (fun b aB=>H'=aB∧b=c u))
  (he:∀u∈ls,c u=true→∀H',Le H₁ H'→wE C k elt ((aW rn ρ).set j (some (.I (u:Nat)))) H' (fun y aB=>H'=aB∧y=.I (w u)))
  (q:Q (.ref H₁.length) (H₁++[.L (il ((ls.filter c).map w))])):Mz C k rn j cond elt ρ Q v H₁
inductive MA (C:Cx) (k:Nat) (rn:List (Option Nat)) (j:Nat) (cond:ME) (ρ:List (Option V)) (Q:V→Hp→Prop) (v:V) (H₁:Hp):Prop
 |mk (ls:List Nat) (c:Nat→Bool) (s:Src C k H₁ v ls) (hl:ls.length≤1000) (hT:C.T≤H₁.length)
  (hc:∀u∈ls,∀H',Le H₁ H'→wT C k cond ((aW rn ρ).set j (some (.I (u:Nat)))) H' (fun b aB=>H'=aB∧b=c u))
  (q:Q (.ref H₁.length) (H₁++[.L (nl (ls.filter c))])):MA C k rn j cond ρ Q v H₁
theorem J6 {rn:List (Option Nat)} {j:Nat} {it cond elt:ME} (h:wE C k it ρ H (Mz C k rn j cond elt ρ Q)):wE C k (.lc rn j it cond elt) ρ H Q:=by
 injection C k H Q ρ rn j it cond elt with h
 refine bQ it h ?_;rintro-v H₁ ⟨ls,c,w,⟨Hc,it,hc⟩,hl,hT,hcond,helt,q⟩;have e0:∀(x:List (Option V)) v v',(x.set j v).set j v'=x.set j v':=fun x v v'=>List.set_set _;refine⟨nl ls,Hc,it,fun i aO H'=>(∀v,aO.set j (some v)=(aW rn ρ).set j (some v))∧H'=H₁++[.L (il (((ls.take i).filter c).map w))],⟨fun _=>rfl,rfl⟩,?_,?_⟩
 · rintro-i v aO H' hv ⟨hr,rfl⟩;obtain(⟨u,hu,rfl⟩):=dp hv;have hm:=z08 hu;have hle:Le H₁ (H₁++[O.L (il (((ls.take i).filter c).map w))]):=Le.app _ _;refine⟨hc _,?_⟩;rw[hr];refine ir cond (hcond u hm _ hle) ?_;rintro-b _ ⟨rfl,rfl⟩;have tk:((ls.take (i+1)).filter c).map w=((ls.take i).filter c).map w++(if c u then[w u]else[]):=by
    rw[List.take_add_one,hu]
    cases hcu:c u<;>simp[hcu]
   refine⟨?_,?_⟩
   · rintro-e;refine bQ elt (helt u hm e _ hle) ?_;rintro-_ _ ⟨rfl,rfl⟩;refine⟨_,af _ _,?_,fun v=>e0 _ _ _,?_⟩
     · rw[aX,List.length_map];exact z20 (z13 _ _) (z20 (by simp;omega) hl)
     · rw[List.set_append_right _ _ (z21 _),tk,if_pos e];simp[il]
   · rintro-e;refine⟨fun v=>e0 _ _ _,?_⟩;rw[tk,e];simp
 · rintro-aO H' ⟨_,rfl⟩;refine⟨hc _,?_⟩;rw[aJ,List.take_length];exact q
theorem BL {rn:List (Option Nat)} {j:Nat} {it cond:ME} (hj:j<rn.length) (h:wE C k it ρ H (MA C k rn j cond ρ Q)):wE C k (.lc rn j it cond (.V j)) ρ H Q:=by
 refine J6 (bQ it h ?_);rintro v H₁ ⟨ls,c,a,b,hT,d,q⟩;refine⟨ls,c,fun u=>(u:Int),a,b,hT,d,fun u hu e H' l=>?_,by rw[oT]at q;exact q⟩;have:((aW rn ρ).set j (some (V.I (u:Nat))))[j]? =some (some (V.I (u:Nat))):=List.getElem?_set_self (by unfold aW;rw[List.length_map];exact hj);exact kP this ⟨rfl,rfl⟩
end
def Mm (n:Nat) (ls:List Nat) (B:Nat→Bool):Prop:=∀u,u∈ls↔u<n∧B u=true
def Rp (n:Nat) (ls:List Nat) (B:Nat→Bool):Prop:=ls.Nodup∧Mm n ls B
section
variable {n:Nat} {ls NN:List Nat} {B B':Nat→Bool}
theorem Mm.mem (h:Mm n ls B) {u:Nat} (hu:u<n):decide (u∈ls)=B u:=by rw[z07,z00,h u];simp[hu]
theorem Mm.filter (h:Mm n ls B) (c:Nat→Bool):Mm n (ls.filter c) (fun u=>B u&&c u):=fun u=>by rw[List.mem_filter,h u,z01];exact⟨fun⟨⟨a,b⟩,c⟩=>⟨a,b,c⟩,fun⟨a,b,c⟩=>⟨⟨a,b⟩,c⟩⟩
theorem Mm.app (h:Mm n ls B) (h':Mm n NN B'):Mm n (ls++NN) (fun u=>B u||B' u):=fun u=>by rw[List.mem_append,h u,h' u,Bool.or_eq_true];exact⟨fun h=>h.elim (fun⟨a,b⟩=>⟨a,.inl b⟩) (fun⟨a,b⟩=>⟨a,.inr b⟩),fun⟨a,b⟩=>b.elim (fun b=>.inl ⟨a,b⟩) (fun b=>.inr ⟨a,b⟩)⟩
theorem Mm.congr (h:Mm n ls B) (e:∀u,u<n→B u=B' u):Mm n ls B':=fun u=>by rw[h u];exact⟨fun⟨a,b⟩=>⟨a,(e u a)▸b⟩,fun⟨a,b⟩=>⟨a,(e u a).symm▸b⟩⟩
theorem Mm.nil:Mm n [] (fun _=>false):=fun u=>by simp
theorem Mm.empty (h:Mm n ls B):ls.isEmpty=decide (cnt n B=0):=by
 rw[z07,List.isEmpty_iff,z00];unfold cnt;rw[List.length_eq_zero_iff,List.filter_eq_nil_iff]
 constructor
 · rintro rfl u hu e;have:=(h u).mpr ⟨List.mem_range.mp hu,e⟩
   cases this
 · intro e;refine List.eq_nil_iff_forall_not_mem.mpr fun u hu=>?_;have:=(h u).mp hu;exact e u (List.mem_range.mpr this.1) this.2
theorem Rp.filter (h:Rp n ls B) (c:Nat→Bool):Rp n (ls.filter c) (fun u=>B u&&c u):=⟨h.1.filter _,h.2.filter c⟩
theorem Rp.congr (h:Rp n ls B) (e:∀u,u<n→B u=B' u):Rp n ls B':=⟨h.1,h.2.congr e⟩
theorem Rp.len (h:Rp n ls B):ls.length=cnt n B:=by
 unfold cnt;refine List.Perm.length_eq ?_;refine(List.perm_ext_iff_of_nodup h.1 (List.nodup_range.filter _)).mpr fun u=>?_;rw[h.2 u,List.mem_filter,List.mem_range]
theorem Rp.nil:Rp n [] (fun _=>false):=⟨List.nodup_nil,Mm.nil⟩
theorem Rp.range (B:Nat→Bool):Rp n ((List.range n).filter B) B:=⟨List.nodup_range.filter _,fun u=>by rw[List.mem_filter,List.mem_range]⟩
theorem Rp.le (h:Rp n ls B):ls.length≤n:=by rw[h.len];exact fa n B
end
section
variable {C:Cx} (P:Pg C) {k:Nat} {H:Hp} {F R:Nat}
include P
theorem Pg.Ak {n o:Nat} {ls:List Nat} {B:Nat→Bool} (hn:n≤64) (m:Mm n ls B) (ho:H[o]? =some (.L (nl ls))):aa C (k+1) (s "_law_bits") [.ref o] H (fW (.I (bi n B)) H):=by
 injection C k H n o ls B with P hn m ho
 refine P.uy ?_;rintro-_;unfold oG;refine au ?_;refine md ?_;refine⟨o,nl ls,(fun i ρ H'=>H=H'∧∃v2,ρ=[some (.ref o),some (.I (bi n fun u=>decide (u∈ls.take i))),v2]),rfl,ho,⟨rfl,none,?_⟩,fun i ρ H' hI=>by rw[←hI.1];exact ho,?_,?_⟩
 · have:(bi n fun u=>decide (u∈ls.take 0))=0:=(aT _ _).mpr fun u _=>by simp
   rw[this]
   rfl
 · rintro-i x ρ H' hx ⟨rfl,v2,rfl⟩;obtain(⟨t,ht,rfl⟩):=dp hx;have htn:=((m t).mp (z08 ht)).1;refine aY rfl ?_;refine BW.shl ⋯ ⋯ nofun (IW.or (az ⟨rfl,some (.I (t:Nat)),?_⟩));have e1:(1:Int)*2^((t:Nat):Int).toNat=2^t:=by rw[z02];omega
   have:Builtin.bitOr (bi n fun u=>decide (u∈ls.take i)) (1*2^((t:Nat):Int).toNat)=bi n (fun u=>decide (u∈ls.take (i+1))):=aE<|by
    rintro-u;rw[e1,bt,aq,aq,dR,List.take_add_one,ht]
    by_cases h:u=t
    · subst h;simp[htn]
    · simp[h]
   rw[this]
   rfl
 · rintro-ρ H' ⟨rfl,v2,rfl⟩;refine aM ?_;refine⟨?_,rfl⟩;rw[aJ,List.take_length]
   congr 1
   refine bK fun u hu=>m.mem hu
end
def Val (C:Cx) (k:Nat) (e:ME) (ρ:List (Option V)) (H:Hp) (v:V):Prop:=wE C k e ρ H (fun w H'=>H=H'∧w=v)
def aU (C:Cx) (k:Nat) (e:ME) (ρ:List (Option V)) (H:Hp) (b:Bool):Prop:=wT C k e ρ H (fun c H'=>H=H'∧c=b)
def bb (C:Cx) (k:Nat) (e:ME) (ρ:List (Option V)) (H:Hp) (b:Bool):Prop:=qv C k e ρ H (fun c H'=>H=H'∧c=b)
def eI (C:Cx) (k:Nat) (e:ME) (ρ:List (Option V)) (H:Hp) (b:Bool):Prop:=zk C k e ρ H (fun c H'=>H=H'∧c=b)
section
variable {C:Cx} {k:Nat} {H:Hp} {ρ:List (Option V)} {e l r t ts:ME} {a b:Int} {c d:Bool} {v:V}
theorem Val.use {Q:V→Hp→Prop} (h:Val C k e ρ H v) (q:Q v H):wE C k e ρ H Q:=bQ e h (by rintro _ _ ⟨rfl,rfl⟩;exact q)
theorem aU.use {Q:Bool→Hp→Prop} (h:aU C k t ρ H c) (q:Q c H):wT C k t ρ H Q:=ir t h (by rintro _ _ ⟨rfl,rfl⟩;exact q)
theorem Val.nm {j:Nat} (h:ρ[j]? =some (some v)):Val C k (.V j) ρ H v:=kP h ⟨rfl,rfl⟩
theorem Val.int:Val C k (.I a) ρ H (.I a):=⟨rfl,rfl⟩
theorem Val.add (x:Val C k l ρ H (.I a)) (y:Val C k r ρ H (.I b)):Val C k (.B .Add l r) ρ H (.I (a+b)):=by
 show wE C k l ρ H _;exact x.use (y.use (BW.add ⟨rfl,rfl⟩))
theorem Val.sub (x:Val C k l ρ H (.I a)) (y:Val C k r ρ H (.I b)):Val C k (.B .Sub l r) ρ H (.I (a-b)):=by
 show wE C k l ρ H _;exact x.use (y.use (BW.sub ⟨rfl,rfl⟩))
theorem Val.mul (h:a.natAbs<2^64∨b.natAbs<2^64) (x:Val C k l ρ H (.I a)) (y:Val C k r ρ H (.I b)):Val C k (.B .Mult l r) ρ H (.I (a*b)):=by
 show wE C k l ρ H _;exact x.use (y.use (BW.mul h ⟨rfl,rfl⟩))
theorem Val.div (h:b≠0) (h2:b.natAbs<1073741824) (x:Val C k l ρ H (.I a)) (y:Val C k r ρ H (.I b)):Val C k (.B .FloorDiv l r) ρ H (.I (a.fdiv b)):=by
 show wE C k l ρ H _;exact x.use (y.use (BW.div h h2 ⟨rfl,rfl⟩))
theorem Val.mod (h:b≠0) (x:Val C k l ρ H (.I a)) (y:Val C k r ρ H (.I b)):Val C k (.B .Mod l r) ρ H (.I (a.fmod b)):=by
 show wE C k l ρ H _;exact x.use (y.use (BW.mod h ⟨rfl,rfl⟩))
theorem Val.vP {t F:Nat} (h:0<F) (h2:F<1073741824) (x:Val C k l ρ H (.I (t:Nat))) (y:Val C k r ρ H (.I (F:Nat))):Val C k (.B .FloorDiv l r) ρ H (.I ((t/F:Nat):Int)):=by
 have:=Val.div ⋯ ⋯ x y;rw[dN]at this;exact this
theorem Val.u0 {t F:Nat} (h:0<F) (x:Val C k l ρ H (.I (t:Nat))) (y:Val C k r ρ H (.I (F:Nat))):Val C k (.B .Mod l r) ρ H (.I ((t % F:Nat):Int)):=by
 have:=Val.mod ⋯ x y;rw[cJ]at this;exact this
theorem Val.neg (x:Val C k l ρ H (.I a)):Val C k (.un .USub l) ρ H (.I (-a)):=by
 show wE C k l ρ H _;exact x.use (UW.neg ⟨rfl,rfl⟩)
theorem Val.bq {b o:ME} {x y:V} (h:aU C k t ρ H c) (h1:c=true→Val C k b ρ H x) (h2:c=false→Val C k o ρ H y):Val C k (.bq t b o) ρ H (if c then x else y):=by
 show wT C k t ρ H _;refine h.use ⟨fun e=>?_,fun e=>?_⟩
 · subst e;exact h1 rfl
 · subst e;exact h2 rfl
theorem Val.tab {n u bo:Nat} {f:Nat→Int} (h:H[bo]? =some (tab n f)) (hu:u<n) (hn:n≤1000) (x:Val C k l ρ H (.ref bo)) (y:Val C k r ρ H (.I a)) (e:a=u):Val C k (.sub l r) ρ H (.I (f u)):=by
 show wE C k l ρ H _;exact x.use (y.use (aG h hu hn e ⟨rfl,rfl⟩))
theorem Val.at {i o:Nat} {xs:List V} (h:H[o]? =some (.L xs)) (hi:xs[i]? =some v) (hn:xs.length≤1000) (x:Val C k l ρ H (.ref o)) (y:Val C k r ρ H (.I a)) (e:a=i):Val C k (.sub l r) ρ H v:=by
 have:=(z06.mp hi).1;show wE C k l ρ H _;exact x.use (y.use (cz.list h ⋯ ⋯ (by rw[e,z02];exact hi) ⟨rfl,rfl⟩))
theorem Val.yh {i o:Nat} {xs:List V} (h:H[o]? =some (.tup xs)) (hi:xs[i]? =some v) (hn:xs.length≤1000) (x:Val C k l ρ H (.ref o)) (y:Val C k r ρ H (.I a)) (e:a=i):Val C k (.sub l r) ρ H v:=by
 have:=(z06.mp hi).1;show wE C k l ρ H _;exact x.use (y.use (cz.tup h ⋯ ⋯ (by rw[e,z02];exact hi) ⟨rfl,rfl⟩))
theorem Val.abs (P:Pg C) (x:Val C k l ρ H (.I a)):Val C k (.K (s "abs") (.C l .N)) ρ H (.I (a.natAbs:Nat)):=by
 show wE C k l ρ H _;exact x.use (P.abs ⟨rfl,rfl⟩)
theorem Val.min (P:Pg C) (x:Val C k l ρ H (.I a)) (y:Val C k r ρ H (.I b)):Val C k (.K (s "min") (.C l (.C r .N))) ρ H (.I (min a b)):=by
 show wE C k l ρ H _;exact x.use (y.use (P.min2 ⟨rfl,rfl⟩))
theorem Val.max (P:Pg C) (x:Val C k l ρ H (.I a)) (y:Val C k r ρ H (.I b)):Val C k (.K (s "max") (.C l (.C r .N))) ρ H (.I (max a b)):=by
 show wE C k l ρ H _;exact x.use (y.use (P.max2 ⟨rfl,rfl⟩))
theorem Val.len (P:Pg C) {o:Nat} {xs:List V} (h:H[o]? =some (.L xs)) (hz:xs.length≤1000) (x:Val C k l ρ H (.ref o)):Val C k (.K (s "len") (.C l .N)) ρ H (.I (xs.length:Nat)):=by
 show wE C k l ρ H _;exact x.use (P.len h hz ⟨rfl,rfl⟩)
theorem Val.to (h:Val C k e ρ H (.I a)) (q:a=b):Val C k e ρ H (.I b):=q▸h
theorem aU.to (h:aU C k e ρ H c) (q:c=d):aU C k e ρ H d:=q▸h
theorem aU.Oa:aU C k .N ρ H true:=⟨rfl,rfl⟩
theorem aU.val (x:Val C k l ρ H (.I a)):aU C k (.bf l) ρ H (decide (a≠0)):=by
 show wE C k l ρ H _;exact x.use (bk.int ⟨rfl,rfl⟩)
theorem aU.I' (x:Val C k l ρ H (.bool c)):aU C k (.bf l) ρ H c:=by
 show wE C k l ρ H _;exact x.use (bk.bool ⟨rfl,rfl⟩)
theorem aU.I_ {o:Nat} {xs:List V} (h:H[o]? =some (.L xs)) (hz:xs.length≤1000) (x:Val C k l ρ H (.ref o)):aU C k (.bf l) ρ H (!xs.isEmpty):=by
 show wE C k l ρ H _;exact x.use (bk.list h hz ⟨rfl,rfl⟩)
theorem aU.eq (x:Val C k l ρ H (.I a)) (y:Val C k r ρ H (.I b)):aU C k (.aD .Eq l r) ρ H (decide (a=b)):=by
 show wE C k l ρ H _;exact x.use (y.use (CW.eq (bk.bool ⟨rfl,rfl⟩)))
theorem aU.ne (x:Val C k l ρ H (.I a)) (y:Val C k r ρ H (.I b)):aU C k (.aD .NotEq l r) ρ H (decide (a≠b)):=by
 show wE C k l ρ H _;exact x.use (y.use (CW.ne (bk.bool ⟨rfl,rfl⟩)))
theorem aU.lt (x:Val C k l ρ H (.I a)) (y:Val C k r ρ H (.I b)):aU C k (.aD .Lt l r) ρ H (decide (a<b)):=by
 show wE C k l ρ H _;exact x.use (y.use (CW.lt (bk.bool ⟨rfl,rfl⟩)))
theorem aU.gt (x:Val C k l ρ H (.I a)) (y:Val C k r ρ H (.I b)):aU C k (.aD .Gt l r) ρ H (decide (b<a)):=by
 show wE C k l ρ H _;exact x.use (y.use (CW.gt (bk.bool ⟨rfl,rfl⟩)))
theorem aU.ge (x:Val C k l ρ H (.I a)) (y:Val C k r ρ H (.I b)):aU C k (.aD .GtE l r) ρ H (decide (b≤a)):=by
 show wE C k l ρ H _;exact x.use (y.use (CW.ge (bk.bool ⟨rfl,rfl⟩)))
theorem aU.NF {o:Nat} {xs:List Int} (h:H[o]? =some (.L (il xs))) (x:Val C k l ρ H (.I a)) (y:Val C k r ρ H (.ref o)):aU C k (.aD .In l r) ρ H (decide (a∈xs)):=by
 show wE C k l ρ H _;exact x.use (y.use (CW.Lk h (bk.bool ⟨rfl,rfl⟩)))
theorem aU.IB {o:Nat} {xs:List Int} (h:H[o]? =some (.L (il xs))) (x:Val C k l ρ H (.I a)) (y:Val C k r ρ H (.ref o)):aU C k (.aD .NotIn l r) ρ H (decide (a∉xs)):=by
 show wE C k l ρ H _;exact x.use (y.use (CW.Ax h (bk.bool ⟨rfl,rfl⟩)))
theorem aU.PT {o u:Nat} {ls:List Nat} (h:H[o]? =some (.L (nl ls))) (x:Val C k l ρ H (.I (u:Nat))) (y:Val C k r ρ H (.ref o)):aU C k (.aD .In l r) ρ H (decide (u∈ls)):=by
 rw[oT]at h;refine(aU.NF h x y).to ?_;rw[z07];simp only[z00,List.mem_map];exact⟨fun⟨w,a,b⟩=>by
  have:w=u:=⋯
  subst this;exact a,fun h=>⟨u,h,rfl⟩⟩
theorem aU.IC {o u:Nat} {ls:List Nat} (h:H[o]? =some (.L (nl ls))) (x:Val C k l ρ H (.I (u:Nat))) (y:Val C k r ρ H (.ref o)):aU C k (.aD .NotIn l r) ρ H (!decide (u∈ls)):=by
 rw[oT]at h;refine(aU.IB h x y).to ?_;rw[z07];simp only[z00,List.mem_map,Bool.not_eq_true',decide_eq_false_iff_not];refine not_congr ⟨fun⟨w,a,b⟩=>?_,fun h=>⟨u,h,rfl⟩⟩;have:w=u:=⋯
 subst this;exact a
theorem aU.vy {n o u:Nat} {ls:List Nat} {B:Nat→Bool} (m:Mm n ls B) (hu:u<n) (h:H[o]? =some (.L (nl ls))) (x:Val C k l ρ H (.I (u:Nat))) (y:Val C k r ρ H (.ref o)):aU C k (.aD .In l r) ρ H (B u):=(aU.PT h x y).to (m.mem hu)
theorem aU.AK {n o u:Nat} {ls:List Nat} {B:Nat→Bool} (m:Mm n ls B) (hu:u<n) (h:H[o]? =some (.L (nl ls))) (x:Val C k l ρ H (.I (u:Nat))) (y:Val C k r ρ H (.ref o)):aU C k (.aD .NotIn l r) ρ H (!B u):=(aU.IC h x y).to (by rw[m.mem hu])
theorem aU.not (x:aU C k t ρ H c):aU C k (.iC t) ρ H (!c):=by show wT C k t ρ H _;exact x.use ⟨rfl,rfl⟩
theorem aU.and (x:bb C k ts ρ H c):aU C k (.cx ts) ρ H c:=x
theorem aU.or (x:eI C k ts ρ H c):aU C k (.vD ts) ρ H c:=x
theorem bb.nil:bb C k .N ρ H true:=⟨rfl,rfl⟩
theorem eI.nil:eI C k .N ρ H false:=⟨rfl,rfl⟩
theorem bb.cons (x:aU C k t ρ H c) (y:c=true→bb C k ts ρ H d):bb C k (.C t ts) ρ H (c&&d):=by
 show wT C k t ρ H _;refine x.use ⟨fun e=>?_,fun e=>?_⟩
 · subst e;exact y rfl
 · subst e;exact⟨rfl,rfl⟩
theorem eI.cons (x:aU C k t ρ H c) (y:c=false→eI C k ts ρ H d):eI C k (.C t ts) ρ H (c||d):=by
 show wT C k t ρ H _;refine x.use ⟨fun e=>?_,fun e=>?_⟩
 · subst e;exact⟨rfl,rfl⟩
 · subst e;exact y rfl
theorem aU.GU {e1 e2:ME} {x:Int} (h1:Val C k l ρ H (.I a)) (h2:Val C k e1 ρ H (.I x)) (h3:Val C k e2 ρ H (.I b)):aU C k (.yf .LtE .LtE l e1 e2) ρ H (decide (a≤x∧x≤b)):=by
 injection C k H ρ l a b e1 e2 x with h1 h2 h3
 show wE C k l ρ H _;refine h1.use (h2.use (CW.le (bk.bool ⟨?_,?_⟩)))
 · rintro-e;refine h3.use (CW.le (bk.bool ⟨rfl,?_⟩));rw[z07];simp only[z00]at*;exact⟨fun h=>⟨e,h⟩,fun h=>h.2⟩
 · rintro-e;refine⟨rfl,?_⟩;have:=z04 e;exact(decide_eq_false fun h=>this h.1).symm
theorem aU.GV {e1 e2:ME} {x:Int} (h1:Val C k l ρ H (.I a)) (h2:Val C k e1 ρ H (.I x)) (h3:Val C k e2 ρ H (.I b)):aU C k (.yf .LtE .Lt l e1 e2) ρ H (decide (a≤x)&&decide (x<b)):=by
 show wE C k l ρ H _;refine h1.use (h2.use (CW.le (bk.bool ⟨fun e=>h3.use (CW.lt (bk.bool ⟨rfl,?_⟩)),fun e=>⟨rfl,?_⟩⟩)))
 · rw[e];rfl
 · rw[e];rfl
end
section
variable {C:Cx} {k:Nat} {H:Hp} {ρ:List (Option V)}
theorem Cm {o e:ME} {Q:V→Hp→Prop} {n:Nat} {xs:List V} (ho:Val C k o ρ H (.ref n)) (hl:H[n]? =some (.L xs)) (h:wE C k e ρ H fun v aB=>cR C k (.builtin "list.append") [.ref n,v] aB Q):wE C k (.app o e) ρ H Q:=by
 exact ho.use ⟨n,xs,rfl,hl,h⟩
theorem J5 {o e:ME} {Q:V→Hp→Prop} {n:Nat} {xs:List V} (ho:Val C k o ρ H (.ref n)) (hl:H[n]? =some (.L xs)) (h:wE C k e ρ H fun v aB=>cR C k (.builtin "list.index") [.ref n,v] aB Q):wE C k (.index o e) ρ H Q:=by
 exact ho.use ⟨n,xs,rfl,hl,h⟩
theorem kO {Q:V→Hp→Prop} (q:Q (.ref H.length) (H++[.L []])):wE C k (.L .N) ρ H Q:=⟨by decide,q⟩
theorem Ja {jf jr jF jR:Nat} {f r F R:Int} {Q:Bool→Hp→Prop} (h1:ρ[jf]? =some (some (.I f))) (h2:ρ[jF]? =some (some (.I F))) (h3:ρ[jr]? =some (some (.I r))) (h4:ρ[jR]? =some (some (.I R)))
 (q:Q (decide (0≤f∧f<F∧0≤r∧r<R)) H):wT C k (.cx (.C (.yf .LtE .Lt (.I 0) (.V jf) (.V jF)) (.C (.yf .LtE .Lt (.I 0) (.V jr) (.V jR)) .N))) ρ H Q:=by
 refine((aU.and (bb.cons (aU.GV Val.int (Val.nm h1) (Val.nm h2)) fun _=>bb.cons (aU.GV Val.int (Val.nm h3) (Val.nm h4)) fun _=>bb.nil)).to ?_).use q;rw[Bool.and_true,Bool.decide_and,Bool.decide_and,Bool.decide_and,Bool.and_assoc]
end
def fY (so:Nat) (st:List (Int×Int)) (H:Hp):Prop:=∃rs:List Nat,H[so]? =some (.L (refs rs))∧rs.length=st.length∧∀(i:Nat) p,st[i]? =some p→∃m,rs[i]? =some m∧H[m]? =some (.tup [.I p.1,.I p.2])
theorem fY.le {so:Nat} {st:List (Int×Int)} {H H':Hp} (h:fY so st H) (l:Le H H'):fY so st H':=let⟨rs,a,b,c⟩:=h;⟨rs,l.at_ _ _ a,b,fun i p e=>let⟨m,x,y⟩:=c i p e;⟨m,x,l.at_ _ _ y⟩⟩
theorem Ds {H:Hp} (st:Le dJ H):fY 36 eK H:=⟨[28,29,30,31,32,33,34,35],st.at_ _ _ rfl,rfl,fun i p e=>by
 have hi:i<8:=(z06.mp e).1;have:=BQ hi;rcases this with rfl|rfl|rfl|rfl|rfl|rfl|rfl|rfl<;>(cases e;exact⟨_,rfl,st.at_ _ _ rfl⟩)⟩
theorem uM {H:Hp} (st:Le dJ H):fY 45 cY H:=⟨[37,38,39,40,41,42,43,44],st.at_ _ _ rfl,rfl,fun i p e=>by
 have hi:i<8:=(z06.mp e).1;have:=BQ hi;rcases this with rfl|rfl|rfl|rfl|rfl|rfl|rfl|rfl<;>(cases e;exact⟨_,rfl,st.at_ _ _ rfl⟩)⟩
theorem xp {H:Hp} (st:Le dJ H) {d:Nat} (hd:d<8):H[36]? =some (.L (refs [28,29,30,31,32,33,34,35]))∧(refs [28,29,30,31,32,33,34,35])[d]? =some (.ref (28+d))∧H[28+d]? =some (.tup [.I (dX d),.I (dY d)]):=by
 injection H d with st hd
 refine⟨st.at_ _ _ rfl,?_,?_⟩
 · rcases BQ hd with rfl|rfl|rfl|rfl|rfl|rfl|rfl|rfl<;>rfl
 · rcases BQ hd with rfl|rfl|rfl|rfl|rfl|rfl|rfl|rfl<;>exact st.at_ _ _ rfl
section
variable {C:Cx} (P:Pg C) {k:Nat} {H:Hp} {F R:Nat} {pc:Nat→Int}
include P
theorem Pg.sU (z:Sz F R) {bo w th d t:Nat} {thr:List Int} (hb:H[bo]? =some (tab (F*R) pc)) (hd:d<8) (ht:t<F*R) (hw:H[w]? =some (.tup [.I (dX d),.I (dY d)])) (hth:H[th]? =some (.L (il thr))):
 aa C (k+1) (s "_law_ray") [.I F,.I R,.ref bo,.I t,.ref w,.ref th] H (fun v H'=>v=.ref H.length∧H'=H++[.L (nl (cut (fun u=>decide (pc u∉thr)) (bB F R d t)))]):=by
 injection C k H F R pc bo w th d t thr with P z hb hd ht hw hth
 have hn:=z.n;have z':=z;obtain(⟨f1,f2,r1,r2⟩):=z';have tf:t % F<F:=Nat.mod_lt _ ⋯;have tr:t/F<R:=z30 ht;refine P.wB ?_;rintro-hT;unfold qT;refine au ?_;refine⟨by simp,au ?_⟩;have bg:Le H (H++[O.L []]):=Le.app _ _;refine BW.mod ⋯ (cz.tup (bg.at_ _ _ hw) nofun nofun rfl (BW.add ?_));rw[cJ];refine au ?_;refine BW.div ⋯ ⋯ (cz.tup (bg.at_ _ _ hw) nofun nofun rfl (BW.add ?_));rw[dN];refine BD (fun n ρ H'=>∃acc f r,H'=H++[.L (nl acc)]∧n≤8∧f=((t % F:Nat):Int)+((9-n:Nat):Int)*dX d∧r=((t/F:Nat):Int)+((9-n:Nat):Int)*dY d∧acc.length+n=8∧acc++cut (fun u=>decide (pc u∉thr)) (cy F R (dX d) (dY d) n f r)=cut (fun u=>decide (pc u∉thr)) (bB F R d t)∧ρ=[some (.I F),some (.I R),some (.ref bo),some (.I t),some (.ref w),some (.ref th),some (.ref H.length),some (.I f),some (.I r)]) 8 ?_ ?_
 · refine⟨[],_,_,rfl,⋯,?_,?_,rfl,rfl,rfl⟩<;>simp
 · rintro-n ρ H' ⟨acc,f,r,rfl,Rx,ef,er,hlen,hcut,rfl⟩;refine Ja rfl rfl rfl rfl ⟨?_,?_⟩
   · rintro-e;have hin:=z03 e;have n1:∃m,n=m+1:=by
      cases n with
      |zero=>
       exfalso
       have e9:((9-0:Nat):Int)=9:=rfl;rw[e9]at ef er;clear hcut hlen;generalize t % F=tm at*;generalize t/F=td at*;rcases J2 hd with⟨a,b⟩|⟨a,b⟩|⟨a,b⟩|⟨a,b⟩|⟨a,b⟩|⟨a,b⟩|⟨a,b⟩|⟨a,b⟩<;>rw[a]at ef<;>rw[b]at er<;>omega
      |succ m=>exact⟨m,rfl⟩
     obtain(⟨m,rfl⟩):=n1;have hu:(r*F+f).toNat<F*R:=yc hin;have hun:(((r*F+f).toNat:Nat):Int)=r*F+f:=by
      exact z28 (Int.add_nonneg (Int.mul_nonneg hin.2.2.1 (z25 F)) hin.1)
     generalize hU:(r*F+f).toNat=u at*;have wl:cy F R (dX d) (dY d) (m+1) f r=u::cy F R (dX d) (dY d) m (f+dX d) (r+dY d):=by
      rw[cy,if_pos hin,hU]
     rw[wl]at hcut;have hl:=af H (.L (nl acc));refine cC ?_;refine⟨_,_,rfl,hl,BW.mul (.inr ⋯) (BW.add (cR.append hT hl (by rw[aJ];omega) ⟨rfl,?_⟩))⟩;have eset:(H++[O.L (nl acc)]).set H.length (.L (nl acc++[V.I (r*F+f)]))=H++[.L (nl (acc++[u]))]:=by
      rw[List.set_append_right _ _ (z21 _),←hun];simp[nl]
     rw[eset];have bJ:Le H (H++[O.L (nl (acc++[u]))]):=Le.app _ _;refine bA ?_;refine BW.mul (.inr ⋯) (BW.add (aG (bJ.at_ _ _ hb) hu ⋯ hun.symm (CW.Ax (bJ.at_ _ _ hth) (bk.bool ⟨?_,?_⟩))))
     · rintro-e2;refine Mp (aM ?_);refine⟨rfl,?_⟩;have hp:decide (pc u∉thr)=true:=e2;have:cut (fun u=>decide (pc u∉thr)) (u::cy F R (dX d) (dY d) m (f+dX d) (r+dY d))=[u]:=by rw[cut,if_pos hp]
       rw[this]at hcut;rw[←hcut]
     · rintro-e2;refine aY rfl ?_;have hp:decide (pc u∉thr)=false:=e2;have:cut (fun u=>decide (pc u∉thr)) (u::cy F R (dX d) (dY d) m (f+dX d) (r+dY d))=u::cut (fun u=>decide (pc u∉thr)) (cy F R (dX d) (dY d) m (f+dX d) (r+dY d)):=by rw[cut,hp];rfl
       rw[this]at hcut;refine cz.tup (bJ.at_ _ _ hw) nofun nofun rfl (IW.add (aY rfl ?_));refine cz.tup (bJ.at_ _ _ hw) nofun nofun rfl (IW.add (az ⟨m,⋯,acc++[u],_,_,rfl,⋯,?_,?_,by simp;omega,by rw[List.append_assoc];exact hcut,rfl⟩))
       · rw[ef];have:((9-m:Nat):Int)=((9-(m+1):Nat):Int)+1:=⋯
         rw[this,Int.add_mul];omega
       · rw[er];have:((9-m:Nat):Int)=((9-(m+1):Nat):Int)+1:=⋯
         rw[this,Int.add_mul];omega
   · rintro-e;have hout:=z04 e;have wl:cy F R (dX d) (dY d) n f r=[]:=by
      cases n with
      |zero=>rfl
      |succ m=>rw[cy,if_neg hout]
     rw[wl]at hcut;refine aM ?_;refine⟨rfl,?_⟩;have:cut (fun u=>decide (pc u∉thr)) []=[]:=rfl;rw[this,List.append_nil]at hcut;rw[hcut]
theorem Pg.jL (z:Sz F R) {so t:Nat} {st:List (Int×Int)} (hl:st.length≤100) (ht:t<F*R) (S:fY so st H):
 aa C (k+1) (s "_law_hops") [.I F,.I R,.I t,.ref so] H (fun v H'=>v=.ref H.length∧H'=H++[.L (nl (bD F R t st))]):=by
 injection C k H F R so t st with P z hl ht S
 have hn:=z.n;have z':=z;obtain(⟨f1,f2,r1,r2⟩):=z';refine P.uz ?_;rintro-hT;unfold oH;refine au ?_;refine⟨by simp,pj ?_⟩;obtain(⟨rs,hs,hr,hp⟩):=S;refine⟨so,refs rs,(fun i ρ H'=>H'=H++[.L (nl (bD F R t (st.take i)))]∧∃v5 v6 v7 v8,ρ=[some (.I F),some (.I R),some (.I t),some (.ref so),some (.ref H.length),v5,v6,v7,v8]),rfl,ai _ hs,⟨rfl,none,none,none,none,rfl⟩,fun i ρ H' hI=>by rw[hI.1];exact ai _ hs,?_,?_⟩
 · rintro-i x ρ H' hx ⟨rfl,v5,v6,v7,v8,rfl⟩;have hi:i<rs.length:=by have:=(z06.mp hx).1;simpa [refs] using this
   obtain(⟨q,hq⟩):∃q,st[i]? =some q:=⟨_,z05 ⋯⟩;obtain(⟨m,hm,hmt⟩):=hp i q hq;have ex:x=.ref m:=by rw[c5 hm]at hx;cases hx;rfl
   subst ex;have hlen:(bD F R t (st.take i)).length≤100:=by
    unfold bD;exact z20 (List.length_filterMap_le _ _) (by simp;omega)
   have hops_s:bD F R t (st.take (i+1))=bD F R t (st.take i)++(if 0≤((t % F:Nat):Int)+q.1∧((t % F:Nat):Int)+q.1<F∧0≤((t/F:Nat):Int)+q.2∧((t/F:Nat):Int)+q.2<R then[((((t/F:Nat):Int)+q.2)*F+(((t % F:Nat):Int)+q.1)).toNat]else[]):=by
    unfold bD;rw[List.take_add_one,hq,List.filterMap_append]
    congr 1
    simp only[Option.toList,List.filterMap_cons,List.filterMap_nil]
    split<;>simp_all
   refine⟨m,_,rfl,ai _ hmt,rfl,au ?_⟩;refine BW.mod ⋯ (BW.add ?_);rw[cJ];refine au ?_;refine BW.div ⋯ (NT z.f2 rfl) (BW.add ?_);rw[dN];refine bA (Ja rfl rfl rfl rfl ⟨?_,?_⟩)
   · rintro-e;have hin:=z03 e;rw[if_pos hin]at hops_s;have hun:(((((((t/F:Nat):Int)+q.2)*F+(((t % F:Nat):Int)+q.1)).toNat:Nat)):Int)=(((t/F:Nat):Int)+q.2)*F+(((t % F:Nat):Int)+q.1):=by
      have:0≤(((t/F:Nat):Int)+q.2)*F:=Int.mul_nonneg hin.2.2.1 (z25 F);exact z28 (Int.add_nonneg this hin.1)
     have hl:=af H (.L (nl (bD F R t (st.take i))));refine cC ?_;refine⟨_,_,rfl,hl,BW.mul (.inr ⋯) (BW.add (cR.append hT hl (by rw[aJ];omega) ⟨rfl,az (nx (az ⟨?_,_,_,_,_,rfl⟩))⟩))⟩;rw[List.set_append_right _ _ (z21 _),hops_s,←hun];simp[nl]
   · rintro-e;have hin:=z04 e;rw[if_neg hin,List.append_nil]at hops_s;refine az ⟨by rw[hops_s],_,_,_,_,rfl⟩
 · rintro-ρ H' ⟨rfl,v5,v6,v7,v8,rfl⟩;refine aM ?_;refine⟨rfl,?_⟩;have:(refs rs).length=st.length:=by simp[refs,hr]
   rw[this,List.take_length]
end
def wU (F R f r:Nat):Bool:=
 let ls:=[r-1,r,r+1].flatMap fun b=>[f-1,f,f+1].map fun a=>b*F+a
 decide ls.Nodup&&(ls.all fun u=>decide (u<F*R))&&(List.range (F*R)).all fun u=>decide (u∈ls)==(decide (u∈bD F R (r*F+f) eK)||decide (u=r*F+f))
theorem zE:iS.all (fun p=>(List.range p.1).all fun f=>(List.range p.2).all fun r=>decide (f=0)||decide (p.1≤f+1)||decide (r=0)||decide (p.2≤r+1)||wU p.1 p.2 f r)=true:=by decide+kernel
def ve (F R ks:Nat):List Nat:=[bS (ks/F) R-1,bS (ks/F) R,bS (ks/F) R+1].flatMap fun b=>[bS (ks % F) F-1,bS (ks % F) F,bS (ks % F) F+1].map fun a=>b*F+a
theorem A9 {F R:Nat} (z:Sz F R) (ks:Nat):Rp (F*R) (ve F R ks) (fR F R ks):=by
 injection F R ks with z
 obtain⟨f1,f2,r1,r2⟩:=z;have h:=List.all_eq_true.mp zE _ (fT f1 f2 r1 r2);have a1:1≤bS (ks % F) F∧bS (ks % F) F+1<F:=g7 f1;have a2:1≤bS (ks/F) R∧bS (ks/F) R+1<R:=g7 r1;have h2:=List.all_eq_true.mp (List.all_eq_true.mp h (bS (ks % F) F) (List.mem_range.mpr ⋯)) (bS (ks/F) R) (List.mem_range.mpr ⋯);have h3:wU F R (bS (ks % F) F) (bS (ks/F) R)=true:=by
  have g1:decide (bS (ks % F) F=0)=false:=decide_eq_false ⋯;have g2:decide (F≤bS (ks % F) F+1)=false:=decide_eq_false ⋯;have g3:decide (bS (ks/F) R=0)=false:=decide_eq_false ⋯;have g4:decide (R≤bS (ks/F) R+1)=false:=decide_eq_false ⋯;dsimp only at h2;rw[g1,g2,g3,g4]at h2
  simpa using h2
 unfold wU at h3;simp only[z01]at h3;obtain⟨⟨h4,h5⟩,h6⟩:=h3;refine⟨z03 h4,?_⟩;rintro-u;have lt:u∈ve F R ks→u<F*R:=fun hu=>z03 (List.all_eq_true.mp h5 u hu)
 constructor
 · rintro-hu;refine⟨lt hu,?_⟩;have:=List.all_eq_true.mp h6 u (List.mem_range.mpr (lt hu));rw[beq_iff_eq]at this;unfold fR g';rw[←this];exact decide_eq_true hu
 · rintro-⟨hu,hb⟩;have:=List.all_eq_true.mp h6 u (List.mem_range.mpr hu);rw[beq_iff_eq]at this;unfold fR g' at hb;rw[←this]at hb;exact z03 hb
section
variable {C:Cx} (P:Pg C) {k:Nat} {H:Hp} {F R:Nat} {pc:Nat→Int}
include P
theorem Pg.Al {a:Int}:aa C (k+1) (s "_law_cut") [.I a,.I 8] H (fW (.I (t7 a)) H):=by
 refine P.wz fun _=>?_;unfold qS;refine aM ?_;refine(Val.bq (aU.ge (Val.nm rfl) Val.int) (fun _=>Val.div nofun nofun (Val.nm rfl) (Val.nm rfl)) (fun _=>Val.neg (Val.div nofun nofun (Val.neg (Val.nm rfl)) (Val.nm rfl)))).use ⟨?_,rfl⟩;unfold t7
 by_cases h:0≤a
 · rw[if_pos h,if_pos (decide_eq_true h),z16 _ nofun]
 · rw[if_neg h,if_neg (by simpa using h),z16 _ nofun]
omit P in
theorem Kq {C:Cx} {k:Nat} {H:Hp} {ρ:List (Option V)} {es et eF eR:ME} {F R sd t:Nat} (z:Sz F R) (ht:t<F*R) (hs:Val C k es ρ H (.I (sd:Nat))) (h1:Val C k et ρ H (.I (t:Nat))) (h2:Val C k eF ρ H (.I (F:Nat))) (h3:Val C k eR ρ H (.I (R:Nat))):
 Val C k (.bq (.aD .Eq es (.I 0)) (.B .FloorDiv et eF) (.B .Sub (.B .Sub eR (.I 1)) (.B .FloorDiv et eF))) ρ H (.I (hg F R sd t:Nat)):=by
 obtain⟨f1,f2,r1,r2⟩:=z;have tr:t/F<R:=z30 ht;have:=Val.bq (aU.eq hs (Val.int (a:=0))) (fun _=>Val.vP ⋯ ⋯ h1 h2) (fun _=>Val.sub (Val.sub h3 (Val.int (a:=1))) (Val.vP ⋯ ⋯ h1 h2));have e:(if decide ((sd:Int)=0)=true then V.I ((t/F:Nat):Int)else V.I ((R:Int)-1-((t/F:Nat):Int)))=.I (hg F R sd t:Nat):=by
  unfold hg
  by_cases h:sd=0
  · simp[h]
  · have:¬(sd:Int)=0:=⋯
    simp only[this,h,decide_false,if_false];rw[if_neg nofun]
    congr 1
    generalize t/F=x at*;omega
 rw[e]at this;exact this
theorem Pg.An (z:Sz F R) {sd ks t:Nat} (ht:t<F*R):aa C (k+1) (s "_law_near") [.I F,.I R,.I sd,.I ks,.I t] H (fW (.bool (kF F R sd ks t)) H):=by
 injection C k H F R sd ks t with P z ht
 have z':=z;obtain(⟨f1,f2,r1,r2⟩):=z';refine P.uA ?_;rintro-_;unfold oI;refine au ((Kq z ht (Val.nm rfl) (Val.nm rfl) (Val.nm rfl) (Val.nm rfl)).use (aM ?_));refine BW.mod ⋯ (BW.mod ⋯ (BW.sub (P.abs (CW.lt (bk.bool ⟨?_,?_⟩)))))
 · rintro-e;rw[cJ,cJ]at e;have h:=z03 e;have:(R:Int)*5=((R*5:Nat):Int):=by push_cast;rfl
   refine BW.mul (.inr nofun) (BW.div nofun nofun (CW.lt ⟨?_,rfl⟩));rw[this];have e5:((R*5:Nat):Int).fdiv 8=((R*5/8:Nat):Int):=dN _ 8;rw[e5];unfold kF rX;have h2:decide ((((t % F:Nat):Int)-((ks % F:Nat):Int)).natAbs≤2)=true:=decide_eq_true ⋯;rw[h2,Bool.and_true]
   congr 1
   rw[z07];simp only[z00];omega
 · rintro-e;refine⟨?_,rfl⟩;rw[e];rw[cJ,cJ]at e;have h:=z04 e;unfold kF rX;have h2:decide ((((t % F:Nat):Int)-((ks % F:Nat):Int)).natAbs≤2)=false:=decide_eq_false ⋯;rw[h2,Bool.and_false]
end
theorem ic {F R:Nat} {pc:Nat→Int} {sd:Nat} {q:Nat×Nat}:∀i,q∈bM F R pc sd i↔1≤q.1∧q.1≤i∧q.2<F*R∧cS pc sd q.1 q.2=true
 |0=>by simp[bM];omega
 |i+1=>by
  unfold bM;rw[List.mem_append,ic i];have h2:q∈dw F R pc sd (i+1)↔q.1=i+1∧q.2<F*R∧cS pc sd q.1 q.2=true:=by
   unfold dw dc;rw[List.mem_map]
   constructor
   · rintro⟨t,ht,rfl⟩;rw[List.mem_filter,List.mem_range]at ht;exact⟨rfl,ht.1,ht.2⟩
   · rintro⟨h1,h2,h3⟩;refine⟨q.2,?_,?_⟩
     · rw[List.mem_filter,List.mem_range];rw[h1]at h3;exact⟨h2,h3⟩
     · rw[←h1]
  rw[h2]
  constructor
  · rintro(⟨a,b,c⟩|⟨a,b⟩)
    · exact⟨a,⋯,c⟩
    · exact⟨⋯,⋯,b⟩
  · rintro⟨a,b,c⟩
    by_cases h:q.1=i+1
    · exact .inr ⟨h,c⟩
    · exact .inl ⟨a,⋯,c⟩
theorem D_ {F R:Nat} {pc:Nat→Int} {kq:Nat→Nat} {sd kd u:Nat} (h1:1≤kd) (h6:kd≤6):BY F R pc kq sd kd u=true↔∃t,t<F*R∧cS pc sd kd t=true∧RC F R pc kq sd (kd,t) u=true:=by
 injection F R pc kq sd kd u with h1 h6
 unfold BY jh RC;rw[List.any_eq_true]
 constructor
 · rintro-⟨q,hq,hb⟩;rw[ic]at hq;simp only[z01,Bool.or_eq_true,z00]at hb;have:q.1=kd:=⋯
   obtain⟨q1,q2⟩:=q;dsimp only at this;subst this;exact⟨q2,hq.2.2.1,hq.2.2.2,hb.2⟩
 · rintro-⟨t,ht,hp,hr⟩;refine⟨(kd,t),(ic 6).mpr ⟨h1,h6,ht,hp⟩,?_⟩;simp[hr]
def LA (F R:Nat):Bool:=(List.range (F*R)).all fun t=>(List.range (F*R)).all fun u=>[0,1].all fun sd=>vC F R sd (BS F R (fun x=>decide (x=t))) u==decide (u∈bD F R t (aF sd))
theorem Ef:iS.all (fun p=>LA p.1 p.2)=true:=by decide+kernel
theorem Fu {F R:Nat} (z:Sz F R) {sd t u:Nat} (hs:sd<2) (ht:t<F*R) (hu:u<F*R):vC F R sd (BS F R (fun x=>decide (x=t))) u=decide (u∈bD F R t (aF sd)):=by
 obtain⟨f1,f2,r1,r2⟩:=z;have h:=List.all_eq_true.mp Ef _ (fT f1 f2 r1 r2);have hm:sd∈[0,1]:=by
  have:sd=0∨sd=1:=⋯
  rcases this with rfl|rfl<;>simp
 have h2:=List.all_eq_true.mp (List.all_eq_true.mp (List.all_eq_true.mp h t (List.mem_range.mpr ht)) u (List.mem_range.mpr hu)) sd hm;exact beq_iff_eq.mp h2
theorem Fx {F R sd:Nat} {p:Nat→Bool} {u:Nat} (z:Sz F R) (hu:u<F*R):vC F R sd (BS F R p) u=true↔∃t,t<F*R∧p t=true∧vC F R sd (BS F R (fun x=>decide (x=t))) u=true:=by
 injection F R sd p u with z hu
 obtain⟨f1,f2,r1,r2⟩:=z;unfold vC BS
 by_cases h:sd=0
 · simp only[h,if_true,z01,Bool.or_eq_true,z00]
   constructor
   · rintro-⟨a,⟨b,c,d⟩|⟨b,c,d⟩⟩
     · exact⟨_,by first|exact slt (slt hu)|exact slt (by assumption)|omega,c,a,.inl ⟨b,rfl,d⟩⟩
     · exact⟨_,by first|exact slt (slt hu)|exact slt (by assumption)|omega,c,a,.inr ⟨b,rfl,d⟩⟩
   · rintro-⟨t,ht,hp,a,⟨b,c,d⟩|⟨b,c,d⟩⟩
     · exact⟨a,.inl ⟨b,c▸hp,d⟩⟩
     · exact⟨a,.inr ⟨b,c▸hp,d⟩⟩
 · simp only[h,if_false,z01,Bool.or_eq_true,z00]
   constructor
   · rintro-⟨a,⟨b,c,d⟩|⟨b,c,d⟩⟩
     · exact⟨_,by first|exact slt (slt hu)|exact slt (by assumption)|omega,c,a,.inl ⟨b,rfl,d⟩⟩
     · exact⟨_,b,c,a,.inr ⟨b,rfl,d⟩⟩
   · rintro-⟨t,ht,hp,a,⟨b,c,d⟩|⟨b,c,d⟩⟩
     · exact⟨a,.inl ⟨b,c▸hp,d⟩⟩
     · exact⟨a,.inr ⟨b,c▸hp,d⟩⟩
theorem BX {F R:Nat} (z:Sz F R) {pc:Nat→Int} {kq:Nat→Nat} {sd u:Nat} (hs:sd<2) (hu:u<F*R):vC F R sd (BS F R (cS pc sd 1)) u=BY F R pc kq sd 1 u:=by
 rw[z07,Fx z hu,D_ nofun nofun];refine exists_congr fun t=>and_congr_right fun ht=>and_congr_right fun hp=>?_;rw[Fu z hs ht hu];unfold RC fh ny;simp
def jk (F R:Nat) (pc:Nat→Int):Prop:=∀t,t<F*R→pc t % 8=1→1≤t/F∧t/F+1<R
def fwd (F sd t:Nat):Nat:=if sd=0 then t+F else t-F
def vx (F R:Nat) (pc:Nat→Int) (sd:Nat) (S B:Nat→Bool) (t:Nat):Bool:=!(cS pc sd 1 t&&(decide (hg F R sd t<3)||gB pc (fwd F sd t)))&&(!cS pc sd 5 t&&(!cS pc sd 6 t&&(!S t&&!B t)))
theorem wj {F R:Nat} (z:Sz F R) {pc:Nat→Int} (no:jk F R pc) {sd t:Nat} (hs:sd<2) (ht:t<F*R) (h:cS pc sd 1 t=true):fwd F sd t<F*R∧(sd=1→F≤t):=by
 have hp:pc t=8*sd+1:=z03 h;have h8:pc t % 8=1:=⋯
 obtain⟨a,b⟩:=no t ht h8;obtain⟨f1,f2,r1,r2⟩:=z;have d:=Nat.div_add_mod t F;have m:t % F<F:=Nat.mod_lt _ ⋯;have e1:F*1≤F*(t/F):=Nat.mul_le_mul_left F a;have e2:F*(t/F+1+1)≤F*R:=Nat.mul_le_mul_left F b;rw[Nat.mul_add,Nat.mul_add]at e2;generalize F*(t/F)=x at*;unfold fwd;refine⟨?_,fun _=>⋯⟩
 split
 · omega
 · exact slt ht
theorem Ei {F R:Nat} (z:Sz F R) {pc:Nat→Int} {kq:Nat→Nat} (no:jk F R pc) {sd t:Nat} (hs:sd<2) (ht:t<F*R):vx F R pc sd (SH F R pc kq sd) (BY F R pc kq (1-sd) 1) t=yp F R pc kq sd t:=by
 injection F R pc kq sd t with z no hs ht
 have e:(cS pc sd 1 t&&(decide (hg F R sd t<3)||gB pc (fwd F sd t)))=(cS pc sd 1 t&&((x8 F R sd 1 t||x8 F R sd 2 t)||vC F R (1-sd) (gB pc) t)):=by
  cases h:cS pc sd 1 t with
  |false=>rfl
  |true=>
   simp only[Bool.true_and];obtain(⟨f1,f2⟩):=wj z no hs ht h;have hp:pc t=8*sd+1:=z03 h;obtain(⟨a,b⟩):=no t ht ⋯;have e1:decide (hg F R sd t<3)=(x8 F R sd 1 t||x8 F R sd 2 t):=by
    unfold hg x8;rw[z07]
    by_cases EM:sd=0
    · simp only[EM,if_true,z00,Bool.or_eq_true,beq_iff_eq];exact NO a
    · have l:t/F≤R-1:=z31 (Nat.lt_of_succ_lt b);simp only[EM,if_false,z00,Bool.or_eq_true,beq_iff_eq];have r2:2≤R-1:=z31 z.r1;have r1:1≤R-1:=Nat.le_of_lt r2;rw[xi l r1,xi l r2];exact NO (Nat.sub_pos_of_lt (Nat.lt_sub_of_add_lt b))
   have e2:gB pc (fwd F sd t)=vC F R (1-sd) (gB pc) t:=by
    unfold vC fwd;unfold fwd at f1;have:sd=0∨sd=1:=⋯
    rcases this with rfl|rfl
    · simp only[if_true]at f1⊢;simp[f1]
    · simp[f2 rfl]
   rw[e1,e2]
 unfold vx yp;rw[e,BX (kq:=kq) z ⋯ ht]
 cases(cS pc sd 1 t&&((x8 F R sd 1 t||x8 F R sd 2 t)||vC F R (1-sd) (gB pc) t))<;>cases cS pc sd 5 t<;>cases cS pc sd 6 t<;>cases SH F R pc kq sd t<;>rfl
section
variable {C:Cx} (P:Pg C) {k:Nat} {H:Hp} {F R:Nat} {pc:Nat→Int}
include P
theorem Val.sY {l:ME} {ρ:List (Option V)} {n o:Nat} {f:Nat→Int} (h:H[o]? =some (Mine.tab n f)) (hz:n≤1000) (x:Val C k l ρ H (.ref o)):Val C k (.K (s "len") (.C l .N)) ρ H (.I (n:Nat)):=by
 have e:(il ((List.range n).map f)).length=n:=by rw[aX];simp
 have:=Val.len P h (by rw[e];exact hz) x;rw[e]at this;exact this
def Ai (F f:Nat):Nat→List Nat:=fun b=>[f-1,f,f+1].map fun a=>b*F+a
theorem Pg.Ao (z:Sz F R) {ks:Nat} (hk:ks<F*R):aa C (k+1) (s "_law_ring") [.I F,.I R,.I ks] H (Dy H (.L (nl (ve F R ks)))):=by
 injection C k H F R ks with P z hk
 have z':=z;obtain(⟨f1,f2,r1,r2⟩):=z';have a1:1≤bS (ks % F) F∧bS (ks % F) F+1<F:=g7 f1;have a2:1≤bS (ks/F) R∧bS (ks/F) R+1<R:=g7 r1;refine P.uB ?_;rintro-hT;unfold oJ;refine au (((Val.min P (Val.max P (Val.u0 (t:=ks) (F:=F) ⋯ (Val.nm rfl) (Val.nm rfl)) (Val.int (a:=1))) (Val.sub (Val.nm rfl) (Val.int (a:=2)))).to (b:=(bS (ks % F) F:Nat)) (by unfold bS;exact g6 f1)).use ?_);refine au (((Val.min P (Val.max P (Val.vP (t:=ks) (F:=F) ⋯ ⋯ (Val.nm rfl) (Val.nm rfl)) (Val.int (a:=1))) (Val.sub (Val.nm rfl) (Val.int (a:=2)))).to (b:=(bS (ks/F) R:Nat)) (by unfold bS;exact g6 r1)).use ?_);have er:ve F R ks=[bS (ks/F) R-1,bS (ks/F) R,bS (ks/F) R+1].flatMap fun b=>[bS (ks % F) F-1,bS (ks % F) F,bS (ks % F) F+1].map fun a=>b*F+a:=rfl;rw[er];generalize bS (ks % F) F=f at*;generalize bS (ks/F) R=r at*;refine aM ?_;show wE C _ (.tup _) _ _ _;refine BW.sub (BW.add ⟨by simp,?_⟩);have t1:[V.I ((r:Nat)-1:Int),V.I (r:Nat),V.I ((r:Nat)+1:Int)]=nl [r-1,r,r+1]:=by
  have q1:((r:Nat):Int)-1=((r-1:Nat):Int):=⋯
  rw[q1];simp[nl]
 have t2:[V.I ((f:Nat)-1:Int),V.I (f:Nat),V.I ((f:Nat)+1:Int)]=nl [f-1,f,f+1]:=by
  have q1:((f:Nat):Int)-1=((f-1:Nat):Int):=⋯
  rw[q1];simp[nl]
 rw[t1];have hH:∀(x:Hp),x=H++[O.tup (nl [r-1,r,r+1])]→Le H x:=fun x e=>by rw[e];exact Le.app _ _
 have lH:=hH _ rfl;have hget:=af H (O.tup (nl [r-1,r,r+1]));generalize (H++[O.tup (nl [r-1,r,r+1])])=H1 at*;have rowlen:∀l:List Nat,(l.flatMap (Ai F f)).length=3*l.length:=by
  rintro-l
  induction l with
  |nil=>rfl
  |cons x l ih=>rw[List.flatMap_cons,z12,ih];simp[Ai];omega
 refine⟨nl [r-1,r,r+1],_,bF.tup hget,fun i aO H'=>(∃v1 v2,aO=[none,v1,v2,some (.I (f:Nat)),some (.I F)])∧Le H1 H'∧H'[H1.length]? =some (.L (nl (([r-1,r,r+1].take i).flatMap (Ai F f)))),⟨⟨_,_,rfl⟩,Le.app _ _,af _ _⟩,?_,?_⟩
 · rintro-i v aO H' hv ⟨⟨v1,v2,rfl⟩,bg,DL⟩;obtain(⟨b,hb,rfl⟩):=dp hv;have hbm:=z08 hb;have hbl:b≤100:=by simp at hbm;omega
   have tk:[r-1,r,r+1].take (i+1)=[r-1,r,r+1].take i++[b]:=by rw[List.take_add_one,hb];rfl
   have tl:([r-1,r,r+1].take i).length≤3:=by simp;omega
   have fl:([r-1,r,r+1].take (i+1)).flatMap (Ai F f)=([r-1,r,r+1].take i).flatMap (Ai F f)++(Ai F f) b:=by rw[tk,List.flatMap_append];simp
   dsimp only;rw[fl];have pl:=rowlen ([r-1,r,r+1].take i);generalize ([r-1,r,r+1].take i).flatMap (Ai F f)=part at*;refine⟨bg.at_ _ _ hget,nl [f-1,f,f+1],(fun h=>h[H'.length]? =some (.tup (nl [f-1,f,f+1]))),(fun i' cT bc=>A4 ((∃v2,cT=[none,some (.I (b:Nat)),v2,some (.I (f:Nat)),some (.I F)])) (Le H1 bc) (bc[H1.length]? =some (.L (nl (part++((Ai F f) b).take i')))) (bc[H'.length]? =some (.tup (nl [f-1,f,f+1])))),?_,?_,?_⟩
   · dsimp only[List.set];refine BW.sub (BW.add ⟨by simp,?_⟩);rw[t2];exact⟨bF.tup (af _ _),⟨_,rfl⟩,bg.aS _,by simpa using ai _ DL,af _ _⟩
   · rintro-i' v cT bc hv ⟨⟨v2,rfl⟩,cj,Jw,Jz⟩;obtain(⟨a,ha,rfl⟩):=dp hv;have har:((Ai F f) b)[i']? =some (b*F+a):=by show(List.map _ _)[i']? =_;rw[z11,ha];rfl
     refine⟨Jz,?_⟩;dsimp only[List.set];refine BW.mul (.inl ⋯) (BW.add ⟨_,Jw,?_,⟨_,rfl⟩,?_,?_,?_⟩)
     · rw[aJ,z12];have:(((Ai F f) b).take i').length≤3:=by simp[Ai];omega
       omega
     · exact cj.set (z21 _) _
     · rw[get_set _ Jw,List.take_add_one,har];simp[nl]
     · have:H1.length≠H'.length:=by have:=aV DL;omega
       exact ae _ this Jz
   · rintro-cT bc ⟨⟨v2,rfl⟩,cj,Jw,Jz⟩;refine⟨Jz,⟨_,_,rfl⟩,cj,?_⟩;exact Jw
 · rintro-aO H' ⟨⟨v1,v2,rfl⟩,bg,DL⟩;exact⟨bg.at_ _ _ hget,_,rfl,lH.trans bg,DL⟩
theorem Pg.Aj (z:Sz F R) (no:jk F R pc) {bo so ho sd:Nat} {S B:Nat→Bool} {sl hl:List Nat} (hs:sd<2) (hb:H[bo]? =some (tab (F*R) pc)) (hS:H[so]? =some (.L (nl sl))) (mS:Mm (F*R) sl S) (hB:H[ho]? =some (.L (nl hl))) (mB:Mm (F*R) hl B):
 aa C (k+1) (s "_law_area") [.I F,.I R,.ref bo,.I sd,.ref so,.ref ho] H (Dy H (.L (nl ((List.range (F*R)).filter (vx F R pc sd S B))))):=by
 injection C k H F R pc bo so ho sd S B sl hl with P z no hs hb hS mS hB mB
 have hn:=z.n;refine P.ux ?_;rintro-hT;unfold oF;refine au (kO ?_);refine(cq P (F*R) (fun i ρ H'=>A3 (Le H H') (H'[H.length]? =some (.L (nl ((List.range i).filter (vx F R pc sd S B))))) (∃v7 v8,ρ=[some (.I F),some (.I R),some (.ref bo),some (.I sd),some (.ref so),some (.ref ho),some (.ref H.length),v7,v8,none,none])) ?_ ⋯ ?_ ?_)
 · exact(Val.sY P (ai _ hb) ⋯ (Val.nm rfl)).use ⟨rfl,(Le.app _ _).aS _,ai _ (af _ _),_,_,rfl⟩
 · rintro-i ρ H' hi ⟨le,EG,v7,v8,rfl⟩;have om:=le.at_ _ _ hb;have hlen:((List.range i).filter (vx F R pc sd S B)).length≤100:=by have:=z13 (vx F R pc sd S B) (List.range i);simp at this;omega
   have gH:(List.range (i+1)).filter (vx F R pc sd S B)=(List.range i).filter (vx F R pc sd S B)++(if vx F R pc sd S B i then[i]else[]):=by
    rw[List.range_succ,List.filter_append]
    cases h:vx F R pc sd S B i<;>simp[h]
   refine au ((Kq z hi (Val.nm rfl) (Val.nm rfl) (Val.nm rfl) (Val.nm rfl)).use ?_);dsimp only[List.set];have p8:∀(c:Int),decide (pc i=(sd:Int)*8+c)=decide (pc i=8*(sd:Int)+c):=fun c=>by rw[Int.mul_comm]
   refine bA ?_;refine(aU.and (bb.cons ((aU.eq (Val.tab om hi ⋯ (Val.nm rfl) (Val.nm rfl) rfl) (Val.add (Val.mul (.inr nofun) (Val.nm rfl) (Val.int (a:=8))) (Val.int (a:=1)))).to (d:=cS pc sd 1 i) (p8 1)) fun e=>bb.cons (aU.or (eI.cons ((aU.lt (Val.nm rfl) (Val.int (a:=3))).to (d:=decide (hg F R sd i<3)) ?_) fun _=>eI.cons (aU.val (Val.tab (u:=fwd F sd i) om (wj z no hs hi e).1 ⋯ (Val.nm rfl) (Val.add (Val.nm rfl) (Val.mul (.inl (by have:=z.f2;omega)) (Val.nm rfl) (Val.sub (Val.int (a:=1)) (Val.mul (.inl nofun) (Val.int (a:=2)) (Val.nm rfl))))) ?_)) fun _=>eI.nil)) fun _=>bb.nil)).use ⟨fun e=>Jd ?_,fun e=>bA ?_⟩
   · rw[z07,z00,z00];omega
   · have h1:=(wj z no hs hi e).2;unfold fwd;have:sd=0∨sd=1:=⋯
     rcases this with rfl|rfl
     · simp
     · have:=h1 rfl;simp;omega
   · have:vx F R pc sd S B i=false:=by
      unfold vx;simp only[Bool.or_false,Bool.and_true]at e;have:(cS pc sd 1 i&&(decide (hg F R sd i<3)||gB pc (fwd F sd i)))=true:=e;rw[this];rfl
     rw[this]at gH;exact⟨le,by rw[gH];simpa using EG,_,_,rfl⟩
   · have e':(cS pc sd 1 i&&(decide (hg F R sd i<3)||gB pc (fwd F sd i)))=false:=by
      simp only[Bool.or_false,Bool.and_true]at e;exact e
     have ea:vx F R pc sd S B i=(!cS pc sd 5 i&&(!cS pc sd 6 i&&(!S i&&!B i))):=by unfold vx;rw[e'];rfl
     have n8:∀(c:Nat),decide (pc i≠(sd:Int)*8+(c:Int))=!cS pc sd c i:=fun c=>by unfold cS;rw[Int.mul_comm];simp
     refine(aU.and (bb.cons ((aU.ne (Val.tab om hi ⋯ (Val.nm rfl) (Val.nm rfl) rfl) (Val.add (Val.mul (.inr nofun) (Val.nm rfl) (Val.int (a:=8))) (Val.int (a:=5)))).to (d:=!cS pc sd 5 i) (n8 5)) fun _=>bb.cons ((aU.ne (Val.tab om hi ⋯ (Val.nm rfl) (Val.nm rfl) rfl) (Val.add (Val.mul (.inr nofun) (Val.nm rfl) (Val.int (a:=8))) (Val.int (a:=6)))).to (d:=!cS pc sd 6 i) (n8 6)) fun _=>bb.cons (aU.AK mS hi (le.at_ _ _ hS) (Val.nm rfl) (Val.nm rfl)) fun _=>bb.cons (aU.AK mB hi (le.at_ _ _ hB) (Val.nm rfl) (Val.nm rfl)) fun _=>bb.nil)).use ⟨?_,?_⟩
     · rintro-e;rw[Bool.and_true,←ea]at e;rw[e]at gH;refine cC (Cm (Val.nm rfl) EG ((Val.nm rfl).use ?_));refine(cR.append hT EG (by rw[aJ];omega) ⟨rfl,az (nx (az ⟨le.set (z21 _) _,?_,_,_,rfl⟩))⟩);rw[get_set _ EG,gH];simp[nl]
     · rintro-e;rw[Bool.and_true,←ea]at e;rw[e]at gH;refine az ⟨le,by rw[gH];simpa using EG,_,_,rfl⟩
 · rintro-ρ H' ⟨le,EG,v7,v8,rfl⟩;exact aM (kP rfl ⟨_,rfl,le,EG⟩)
end
theorem ie {n:Nat} {ls:List Nat} (h:ls.Nodup) (hl:∀u∈ls,u<n):ls.length≤n:=by
 have:Rp n ls (fun u=>decide (u∈ls)):=⟨h,fun u=>by rw[z00];exact⟨fun m=>⟨hl u m,m⟩,fun m=>m.2⟩⟩;exact this.le
theorem d7 {p:Nat→Bool}:∀{L:List Nat},(∀t∈L,p t=false)→cut p L=L
 |[],_=>rfl
 |t::L,h=>by
  unfold cut;rw[h t (List.mem_cons_self ..)];simp only[Bool.false_eq_true,if_false];rw[d7 fun u hu=>h u (z14 _ hu)]
theorem y6 {F R:Nat} (z:Sz F R) {d ks:Nat} (hd:d<8):(bB F R d ks).Pairwise (ahead d):=by
 unfold ahead
 cases h:cp d with
 |true=>simpa using w8 z.f1 hd h
 |false=>simpa using o7 z.f1 hd h
theorem xk {F R:Nat} (z:Sz F R) {d ks j t u:Nat} (hd:d<8) (hj:(bB F R d ks)[j]? =some t):u∈(bB F R d ks).take j↔u∈bB F R d ks∧ahead d u t:=by
 injection F R d ks j t u with z hd hj
 have pw:=List.pairwise_iff_getElem.mp (y6 z (ks:=ks) hd);obtain(⟨hjl,ej⟩):=z06.mp hj;rw[List.mem_take_iff_getElem]
 constructor
 · rintro-⟨i,hi,e⟩;have hil:i<(bB F R d ks).length:=⋯
   have:=pw i j hil hjl ⋯;rw[e,ej]at this;exact⟨e▸List.getElem_mem _,this⟩
 · rintro-⟨hu,ha⟩;obtain(⟨i,hi,e⟩):=z27 hu;have:i<j:=by
    apply Classical.byContradiction
    rintro-hn
    by_cases hij:i=j
    · subst hij;rw[ej]at e;subst e;unfold ahead at ha
      split at ha<;>omega
    · have:=pw j i hjl hi ⋯;rw[e,ej]at this;unfold ahead at ha this
      split at ha<;>simp_all<;>omega
   exact⟨i,⋯,e⟩
def D2 (pc:Nat→Int) (sd d t:Nat):Bool:=decide (pc t=(if d<4 then 4 else 3)+(1-(sd:Int))*8)||decide (pc t=5+(1-(sd:Int))*8)
def gH (pc:Nat→Int) (sd d t:Nat):Bool:=!D2 pc sd d t&&decide (pc t≠0)
theorem ng {F R:Nat} (z:Sz F R) {pc:Nat→Int} {sd ks d t:Nat} (hs:sd<2) (hk:ks<F*R) (hd:d<8) (ht:t∈bB F R d ks):pG F R pc sd ks t=D2 pc sd d t:=by
 injection F R pc sd ks d t with z hs hk hd ht
 have l1:da F R fS (fun _=>false) ks t=decide (d<4):=by
  unfold da;rw[z07,List.any_eq_true,z00]
  constructor
  · rintro-⟨d',sC,h⟩;have h:=z03 h;rw[d7 fun _ _=>rfl]at h;have h8:d'<4:=by simp at sC;omega
    have:=fP z hd ⋯ hk ht h;omega
  · rintro-h;refine⟨d,by simp;omega,?_⟩;rw[d7 fun _ _=>rfl];exact decide_eq_true ht
 have l2:da F R fA (fun _=>false) ks t=decide (4≤d):=by
  unfold da;rw[z07,List.any_eq_true,z00]
  constructor
  · rintro-⟨d',sC,h⟩;have h:=z03 h;rw[d7 fun _ _=>rfl]at h;have h8:4≤d'∧d'<8:=by simp at sC;omega
    have:=fP z hd ⋯ hk ht h;omega
  · rintro-h;refine⟨d,by simp;omega,?_⟩;rw[d7 fun _ _=>rfl];exact decide_eq_true ht
 unfold pG;rw[l1,l2];unfold D2 kb sb;have e1:((1-sd:Nat):Int)=1-(sd:Int):=⋯
 rw[←e1];rw[z07];simp only[z01,Bool.or_eq_true,z00]
 by_cases h4:d<4
 · simp only[h4,if_true,true_and,Nat.not_le.mpr h4,false_and,or_false];rw[or_and_right];exact or_congr (C6 nofun nofun) (C6 nofun nofun)
 · simp only[h4,if_false,false_and,false_or,Nat.not_lt.mp h4,true_and];rw[or_and_right];exact or_congr (C6 nofun nofun) (C6 nofun nofun)
def Ez (F R:Nat) (pc:Nat→Int) (sd ks d u:Nat):Prop:=∃j t,(bB F R d ks)[j]? =some t∧D2 pc sd d t=true∧((bB F R d ks).take j).filter (gH pc sd d)=[u]
theorem Af {F R:Nat} (z:Sz F R) {pc:Nat→Int} {sd ks d j t:Nat} (hs:sd<2) (hk:ks<F*R) (hd:d<8) (hj:(bB F R d ks)[j]? =some t):Rp (F*R) (((bB F R d ks).take j).filter (gH pc sd d)) (gG F R pc sd ks t):=by
 injection F R pc sd ks d j t with z hs hk hd hj
 have ht:=z08 hj;refine⟨((fO z.f1 hd).sublist (List.take_sublist _ _)).filter _,?_⟩;rintro-u;rw[List.mem_filter,xk z hd hj];unfold gG ze;rw[jP z hd hk ht]
 constructor
 · rintro-⟨⟨a,b⟩,c⟩;refine⟨bT a,?_⟩;rw[ng z hs hk hd a];unfold gH at c;unfold gB;simp only[z01,z00]at c⊢;exact⟨⟨a,b⟩,c.2,c.1⟩
 · rintro-⟨a,b⟩;simp only[z01,z00]at b;obtain⟨⟨b1,b2⟩,b3,b4⟩:=b;rw[ng z hs hk hd b1]at b4;refine⟨⟨b1,b2⟩,?_⟩;unfold gH;unfold gB at b3;simp only[z01];exact⟨b4,b3⟩
theorem Df {F R:Nat} (z:Sz F R) {pc:Nat→Int} {sd ks u:Nat} (hs:sd<2) (hk:ks<F*R):(∃d,d<8∧Ez F R pc sd ks d u)↔u<F*R∧pF F R pc sd ks u=true:=by
 injection F R pc sd ks u with z hs hk
 unfold pF lg;rw[List.any_eq_true]
 constructor
 · rintro-⟨d,hd,j,t,hj,hsn,hf⟩;have r:=Af (pc:=pc) z hs hk hd hj;have ht:=z08 hj;have hu:=(r.2 u).mp (by rw[hf];simp);refine⟨hu.1,t,?_,?_⟩
   · unfold dc;rw[List.mem_filter,List.mem_range,ng z hs hk hd ht];exact⟨bT ht,hsn⟩
   · rw[z01,z00,←r.len,hf];exact⟨rfl,hu.2⟩
 · rintro-⟨hun,t,ht,h⟩;unfold dc at ht;rw[List.mem_filter,List.mem_range]at ht;obtain(⟨d,hd,hr⟩):=Be ht.2;obtain(⟨j,hj⟩):=List.getElem?_of_mem hr;have r:=Af (pc:=pc) z hs hk hd hj;rw[z01,z00,←r.len]at h;refine⟨d,hd,j,t,hj,by rw[←ng z hs hk hd hr];exact ht.2,?_⟩;have hu:=(r.2 u).mpr ⟨hun,h.2⟩;obtain(⟨x,hx⟩):=List.length_eq_one_iff.mp h.1;rw[hx]at hu⊢;simp at hu;rw[hu]
theorem Ae {n:Nat} {pc:Nat→Int} {sd ks:Nat} (K:bW n pc sd ks) {z:Int} (e:z=8*sd+6):z∈(List.range n).map pc∧((List.range n).map pc).idxOf z=ks:=by
 have hm:z∈(List.range n).map pc:=List.mem_map.mpr ⟨ks,List.mem_range.mpr K.1,by rw[e];exact(K.2 ks K.1).mpr rfl⟩;refine⟨hm,?_⟩;have hl:=List.idxOf_lt_length_iff.mpr hm;have hg:=List.getElem_idxOf hl;have Nu:((List.range n).map pc).idxOf z<n:=by simpa using hl
 have:((List.range n).map pc)[((List.range n).map pc).idxOf z]=pc (((List.range n).map pc).idxOf z):=by rw[List.getElem_map,List.getElem_range]
 rw[this,e]at hg;rw[←e]at hg;rw[e]at hg;have:=(K.2 _ Nu).mp (by rw[e];exact hg);exact this
section
variable {C:Cx} {k:Nat} {H:Hp} {ρ:List (Option V)} {e e1 e2 t b o:ME} {v w:V} {c:Bool} {x y:Int}
theorem Val.ES (h:aU C k t ρ H c) (h1:c=true→Val C k b ρ H (.I x)) (h2:c=false→Val C k o ρ H (.I y)):Val C k (.bq t b o) ρ H (.I (if c then x else y)):=by
 have:=Val.bq h h1 h2
 cases c<;>exact this
theorem vQ {Q:V→Hp→Prop} (h1:Val C k e1 ρ H v) (q:Q (.ref H.length) (H++[.L [v]])):wE C k (.L (.C e1 .N)) ρ H Q:=by
 exact h1.use ⟨by simp,q⟩
theorem Et {Q:V→Hp→Prop} (h1:Val C k e1 ρ H v) (h2:Val C k e2 ρ H w) (q:Q (.ref H.length) (H++[.L [v,w]])):wE C k (.L (.C e1 (.C e2 .N))) ρ H Q:=by
 exact h1.use (h2.use ⟨by simp,q⟩)
end
theorem nG {C:Cx} {k n:Nat} {H:Hp} {ρ:List (Option V)} {Q:V→Hp→Prop} {jb j bo sd ks:Nat} {pc:Nat→Int} (K:bW n pc sd ks) (hn:n≤1000) (hb:H[bo]? =some (tab n pc)) (h1:ρ[jb]? =some (some (.ref bo))) (h2:ρ[j]? =some (some (.I (sd:Nat))))
 (q:Q (.I (ks:Nat)) H):wE C k (.index (.V jb) (.B .Add (.B .Mult (.V j) (.I 8)) (.I 6))) ρ H Q:=by
 obtain⟨a,b⟩:=Ae K (z:=(sd:Int)*8+6) ⋯;refine J5 (Val.nm h1) hb ((Val.add (Val.mul (.inr nofun) (Val.nm h2) (Val.int (a:=8))) (Val.int (a:=6))).use (cR.index hb a (by simp;omega) ?_));rw[b];exact q
section
variable {C:Cx} (P:Pg C) {k:Nat} {H:Hp} {F R:Nat} {pc:Nat→Int}
include P
def Lo (F R:Nat):List Nat→(Nat→Prop)→Prop:=fun ls G=>ls.Nodup∧ls.length≤F*R∧(∀u∈ls,u<F*R)∧∀u,u∈ls↔G u
def Gf (F R:Nat) (pc:Nat→Int) (sd ks d:Nat):Nat→Nat→Prop:=fun i u=>(∃d',d'<d∧Ez F R pc sd ks d' u)∨∃j t,j<i∧(bB F R d ks)[j]? =some t∧D2 pc sd d t=true∧((bB F R d ks).take j).filter (gH pc sd d)=[u]
theorem Pg.uN (z:Sz F R) (st:Le dJ H) (M:fz (F*R) pc) {bo sd ks:Nat} (hs:sd<2) (K:bW (F*R) pc sd ks) (hb:H[bo]? =some (tab (F*R) pc)):
 aa C (k+2) (s "_law_shields") [.I F,.I R,.ref bo,.I sd] H (fun v H'=>∃o ls,v=.ref o∧Le H H'∧H'[o]? =some (.L (nl ls))∧Rp (F*R) ls (pF F R pc sd ks)):=by
 injection C k H F R pc bo sd ks with P z st M hs K hb
 have hn:=z.n;refine P.oe ?_;rintro-hT;unfold iN;refine au (nG K ⋯ hb rfl rfl (au ?_));refine⟨by simp,?_⟩;refine cq P 8 (fun d ρ H'=>A3 (Le H H') ((∃ls,H'[H.length]? =some (.L (nl ls))∧(Lo F R) ls (fun u=>∃d',d'<d∧Ez F R pc sd ks d' u))) (∃v6 v7 v8 v9,ρ=[some (.I F),some (.I R),some (.ref bo),some (.I sd),some (.I ks),some (.ref H.length),v6,v7,v8,v9,none,none,none,none,none])) ?_ nofun ?_ ?_
 · exact⟨rfl,(Le.app _ _).aS _,⟨[],ai _ (af _ _),List.nodup_nil,by simp,by simp,fun u=>by simp⟩,_,_,_,_,rfl⟩
 · rintro-d ρ H1 hd ⟨bg,⟨Qb,Ko,Jp⟩,v6,v7,v8,v9,rfl⟩;have hA:=aV Ko;have ed:(if decide ((d:Int)<4)=true then(4:Int)else 3)=if d<4 then 4 else 3:=by
    by_cases h:d<4
    · have:decide ((d:Int)<4)=true:=decide_eq_true ⋯;rw[if_pos this,if_pos h]
    · have:¬decide ((d:Int)<4)=true:=by rw[z00];omega
      rw[if_neg this,if_neg h]
   refine au (Et ((Val.add (Val.ES (aU.lt (Val.nm rfl) (Val.int (a:=4))) (fun _=>Val.int (a:=4)) (fun _=>Val.int (a:=3))) (Val.mul (.inr nofun) (Val.sub (Val.int (a:=1)) (Val.nm rfl)) (Val.int (a:=8)))).to (b:=(if d<4 then 4 else 3)+(1-(sd:Int))*8) (by rw[ed])) (Val.add (Val.int (a:=5)) (Val.mul (.inr nofun) (Val.sub (Val.int (a:=1)) (Val.nm rfl)) (Val.int (a:=8)))) ?_)
   change wX _ _ _ _ (H1++[.L (il [(if d<4 then 4 else 3)+(1-(sd:Int))*8,5+(1-(sd:Int))*8])]) _
   have hS:=af H1 (.L (il [(if d<4 then 4 else 3)+(1-(sd:Int))*8,5+(1-(sd:Int))*8]));have bJ:Le H1 (H1++[.L (il [(if d<4 then 4 else 3)+(1-(sd:Int))*8,5+(1-(sd:Int))*8])]):=Le.app _ _;have Li:(H1++[O.L (il [(if d<4 then 4 else 3)+(1-(sd:Int))*8,5+(1-(sd:Int))*8])]).length=H1.length+1:=by simp
   generalize (H1++[O.L (il [(if d<4 then 4 else 3)+(1-(sd:Int))*8,5+(1-(sd:Int))*8])])=H2 at*;refine au ?_;refine⟨by simp,md ?_⟩;have cj:Le H2 (H2++[O.L []]):=Le.app _ _;have hB:=af H2 (.L []);have P6:(H2++[O.L []]).length=H2.length+1:=by simp
   generalize (H2++[O.L []])=H3 at*;have sW:Le H1 H3:=bJ.trans cj;obtain(⟨w1,w2,w3⟩):=xp (st.trans (bg.trans sW)) hd;refine⟨_,P.gk,cz.list w1 ⋯ ⋯ (by rw[z02];exact w2) (P.gd (P.lq (af _ _) (kl 0 15 nofun nofun).1 (kl 0 15 nofun nofun).2.2 ?_))⟩;have eR:c8 0 15 1=il ((List.range 15).map fun(i:Nat)=>(i:Int)):=by
    have:=(kl 0 15 nofun nofun).2.1;rw[←oT];have h2:(List.range (15-0)).map (0+ ·)=List.range 15:=by decide
    rw[h2]at this;exact this
   rw[eR];have de:Le H3 (H3++[O.range 0 15 1]++[O.L (il ((List.range 15).map fun(i:Nat)=>(i:Int)))]):=(Le.app _ _).aS _;have hth:=af (H3++[O.range 0 15 1]) (.L (il ((List.range 15).map fun(i:Nat)=>(i:Int))));generalize (H3++[O.range 0 15 1]).length=th at*;generalize (H3++[O.range 0 15 1]++[O.L (il ((List.range 15).map fun(i:Nat)=>(i:Int)))])=H4 at*;have wM:=sW.trans de;refine aa.up (k:=k+1) (aa.mono (P.sU z ((bg.trans wM).at_ _ _ hb) hd K.1 (de.at_ _ _ w3) hth) ?_);rintro-_ _ ⟨rfl,rfl⟩;have ec:cut (fun u=>decide (pc u∉(List.range 15).map fun(i:Nat)=>(i:Int))) (bB F R d ks)=bB F R d ks:=d7<|by
    rintro-u hu;have:=M u (bT hu);obtain⟨n,e,l,_⟩:=L4 this;exact decide_eq_false fun h=>h (List.mem_map.mpr ⟨n,List.mem_range.mpr l,e.symm⟩)
   rw[ec];have hray:=af H4 (.L (nl (bB F R d ks)));have eJ:Le H4 (H4++[O.L (nl (bB F R d ks))]):=Le.app _ _;have P1:=de.len;have Lj:(H4++[O.L (nl (bB F R d ks))]).length=H4.length+1:=by simp
   generalize (H4++[O.L (nl (bB F R d ks))])=H5 at*;have Pm:=(cj.trans (de.trans eJ)).at_ _ _ hS;have Pe:=(de.trans eJ).at_ _ _ hB;have As:=wM.trans eJ;have Py:=As.at_ _ _ Ko;have RF:=bg.len;clear hS hB hth w1 w2 w3 Ko;refine⟨H4.length,nl (bB F R d ks),(fun i ρ H'=>A6 (Le H H') (H'[H1.length]? =some (.L (il [(if d<4 then 4 else 3)+(1-(sd:Int))*8,5+(1-(sd:Int))*8]))) (H'[H4.length]? =some (.L (nl (bB F R d ks)))) (H'[H2.length]? =some (.L (nl (((bB F R d ks).take i).filter (gH pc sd d))))) ((∃ls,H'[H.length]? =some (.L (nl ls))∧(Lo F R) ls ((Gf F R pc sd ks d) i))) (∃v9,ρ=[some (.I F),some (.I R),some (.ref bo),some (.I sd),some (.I ks),some (.ref H.length),some (.I (d:Nat)),some (.ref H1.length),some (.ref H2.length),v9,none,none,none,none,none])),rfl,hray,⟨bg.trans As,Pm,hray,Pe,⟨Qb,Py,Jp.1,Jp.2.1,Jp.2.2.1,fun u=>by rw[Jp.2.2.2 u];exact⟨fun h=>.inl h,fun h=>h.elim id fun⟨j,t,h,_⟩=>absurd h ⋯⟩⟩,_,rfl⟩,fun i ρ H' hI=>hI.3,?_,?_⟩
   · rintro-i x ρ H' hx ⟨le,hS,hR,hB,⟨ls,hf,fn⟩,v9,rfl⟩;obtain(⟨t,ht,rfl⟩):=dp hx;have htm:=z08 ht;have htn:t<F*R:=bT htm;have om:=le.at_ _ _ hb;have lenL:(bB F R d ks).length≤100:=by
      have r:=fO (t:=ks) (R:=R) z.f1 hd;have:(bB F R d ks).length≤F*R:=ie r fun u hu=>bT hu;omega
     have lenB:(((bB F R d ks).take i).filter (gH pc sd d)).length≤100:=z20 (z13 _ _) (by simp;omega);have ze:((bB F R d ks).take (i+1)).filter (gH pc sd d)=((bB F R d ks).take i).filter (gH pc sd d)++(if gH pc sd d t then[t]else[]):=by
      rw[List.take_add_one,ht,List.filter_append]
      cases h:gH pc sd d t<;>simp[h]
     have Gs:∀u,(Gf F R pc sd ks d) (i+1) u↔(Gf F R pc sd ks d) i u∨(D2 pc sd d t=true∧((bB F R d ks).take i).filter (gH pc sd d)=[u]):=by
      rintro-u
      constructor
      · rintro-(h|⟨j,t',hj,a,b,c⟩)
        · exact .inl (.inl h)
        · by_cases h:j=i
          · subst h;rw[ht]at a;cases a;exact .inr ⟨b,c⟩
          · exact .inl (.inr ⟨j,t',⋯,a,b,c⟩)
      · rintro-((h|⟨j,t',hj,a,b,c⟩)|⟨b,c⟩)
        · exact .inl h
        · exact .inr ⟨j,t',⋯,a,b,c⟩
        · exact .inr ⟨i,t,⋯,ht,b,c⟩
     have esn:decide (pc t∈[(if d<4 then 4 else 3)+(1-(sd:Int))*8,5+(1-(sd:Int))*8])=D2 pc sd d t:=by
      unfold D2;rw[z07];simp
     refine Gq ((aU.NF hS (Val.tab om htn ⋯ (Val.nm rfl) (Val.nm rfl) rfl) (Val.nm rfl)).use ⟨?_,?_⟩)
     · rintro-e;rw[esn]at e;have est:gH pc sd d t=false:=by unfold gH;rw[e];rfl
       rw[est]at ze;have FG:((bB F R d ks).take (i+1)).filter (gH pc sd d)=((bB F R d ks).take i).filter (gH pc sd d):=by rw[ze];simp
       refine bA ?_;have c1:=aU.eq (C:=C) (k:=k+1) (ρ:=[some (.I F),some (.I R),some (.ref bo),some (.I sd),some (.I ks),some (.ref H.length),some (.I (d:Nat)),some (.ref H1.length),some (.ref H2.length),some (.I (t:Nat)),none,none,none,none,none]) (Val.len P hB (by rw[aJ];omega) (Val.nm (j:=8) rfl)) (Val.int (a:=1))
       by_cases h1:(((bB F R d ks).take i).filter (gH pc sd d)).length=1
       · obtain(⟨u,hu⟩):=List.length_eq_one_iff.mp h1;have hun:u<F*R:=by
          have:u∈((bB F R d ks).take i).filter (gH pc sd d):=by rw[hu];simp
          exact bT (List.mem_of_mem_take (List.mem_filter.mp this).1)
         refine(aU.and (bb.cons c1 fun _=>bb.cons (aU.IC (u:=u) hf (Val.at (i:=0) hB (by rw[hu];rfl) (by rw[aJ];omega) (Val.nm rfl) Val.int rfl) (Val.nm rfl)) fun _=>bb.nil)).use ⟨?_,?_⟩
         · rintro-e2;have hnm:u∉ls:=by
            rw[aJ,h1]at e2
            simpa using e2
           refine cC ?_;refine⟨_,_,rfl,hf,cz.list hB nofun nofun (by rw[hu];rfl) (cR.append hT hf (by rw[aJ];have:=fn.2.1;omega) ⟨rfl,az (nx (az (nx (az ⟨le.set (z21 _) _,?_,?_,?_,⟨ls++[u],?_,?_⟩,_,rfl⟩))))⟩)⟩
           · exact ae _ ⋯ hS
           · exact ae _ ⋯ hR
           · rw[FG];exact ae _ ⋯ hB
           · rw[get_set _ hf];simp[nl]
           · have nd:(ls++[u]).Nodup:=by
              rw[List.nodup_append];exact⟨fn.1,by simp,fun a ha b om e=>by simp at om;subst om;subst e;exact hnm ha⟩
             have ltn:∀x∈ls++[u],x<F*R:=by
              rintro-x hx;rw[List.mem_append]at hx;rcases hx with hx|hx
              · exact fn.2.2.1 x hx
              · simp at hx;subst hx;exact hun
             refine⟨nd,?_,ltn,?_⟩
             · exact ie nd ltn
             · rintro-x;rw[Gs,List.mem_append,fn.2.2.2 x,hu];simp only[List.mem_singleton,List.cons.injEq,and_true,e,true_and];exact or_congr_right ⟨fun h=>h.symm,fun h=>h.symm⟩
         · rintro-e2;have hm:u∈ls:=by
            rw[aJ,h1]at e2
            simpa using e2
           refine az (nx (az ⟨le,hS,hR,by rw[FG];exact hB,⟨ls,hf,fn.1,fn.2.1,fn.2.2.1,?_⟩,_,rfl⟩));rintro-x;rw[Gs,fn.2.2.2 x,hu];refine⟨fun h=>.inl h,?_⟩;rintro-h;refine h.elim id ?_;rintro-h;have:u=x:=by simpa using h.2
           subst this;exact(fn.2.2.2 u).mp hm
       · have OF:=c1.to (d:=false) (by rw[aJ];exact decide_eq_false ⋯);refine(aU.and (bb.cons (d:=true) OF fun h=>by cases h)).use ⟨fun e2=>(by cases e2),?_⟩;rintro-e2;refine az (nx (az ⟨le,hS,hR,by rw[FG];exact hB,⟨ls,hf,fn.1,fn.2.1,fn.2.2.1,?_⟩,_,rfl⟩));rintro-x;rw[Gs,fn.2.2.2 x];refine⟨fun h=>.inl h,?_⟩;rintro-h;refine h.elim id ?_;rintro-h;rw[h.2]at h1;exact absurd rfl h1
     · rintro-e;rw[esn]at e;have est:gH pc sd d t=decide (pc t≠0):=by unfold gH;rw[e];rfl
       have Om:∀u,(Gf F R pc sd ks d) (i+1) u↔(Gf F R pc sd ks d) i u:=fun u=>by rw[Gs];simp[e]
       have M9:(Lo F R) ls ((Gf F R pc sd ks d) (i+1)):=⟨fn.1,fn.2.1,fn.2.2.1,fun u=>by rw[Om];exact fn.2.2.2 u⟩;refine bA ((aU.val (Val.tab om htn ⋯ (Val.nm rfl) (Val.nm rfl) rfl)).use ⟨?_,?_⟩)
       · rintro-e2;rw[est,e2]at ze;refine cC ?_;refine⟨_,_,rfl,hB,cR.append ⋯ hB (by rw[aJ];omega) ⟨rfl,az (nx (az (nx (az ⟨le.set ⋯ _,?_,?_,?_,⟨ls,?_,M9⟩,_,rfl⟩))))⟩⟩
         · exact ae _ ⋯ hS
         · exact ae _ ⋯ hR
         · rw[get_set _ hB,ze];simp[nl]
         · exact ae _ ⋯ hf
       · rintro-e2;rw[est,e2]at ze;refine az (nx (az ⟨le,hS,hR,by rw[ze];simpa using hB,⟨ls,hf,M9⟩,_,rfl⟩))
   · rintro-ρ H' ⟨le,hS,hR,hB,⟨ls,hf,fn⟩,v9,rfl⟩;refine az ⟨le,⟨ls,hf,fn.1,fn.2.1,fn.2.2.1,?_⟩,_,_,_,_,rfl⟩;rintro-u;rw[fn.2.2.2 u,aJ]
     constructor
     · rintro-(⟨d',h1,h2⟩|⟨j,t,h1,h2,h3,h4⟩)
       · exact⟨d',⋯,h2⟩
       · exact⟨d,⋯,j,t,h2,h3,h4⟩
     · rintro-⟨d',h1,h2⟩
       by_cases h:d'=d
       · subst h;obtain(⟨j,t,a,b,c⟩):=h2;exact .inr ⟨j,t,(z06.mp a).1,a,b,c⟩
       · exact .inl ⟨d',⋯,h2⟩
 · rintro-ρ H' ⟨le,⟨ls,hf,fn⟩,v6,v7,v8,v9,rfl⟩;refine aM ?_;exact⟨_,ls,rfl,le,hf,fn.1,fun u=>(fn.2.2.2 u).trans (Df z hs K.1)⟩
end
theorem q9 {a b:Nat} (ha:a<100) (hb:b<100):((a:Int)-(b:Int)).natAbs<2^64:=⋯
def Fq (F R:Nat):Bool:=(List.range (F*R)).all fun t=>decide (bD F R t eK).Nodup&&decide (bD F R t cY).Nodup&&decide (bD F R t (aF 0)).Nodup&&decide (bD F R t (aF 1)).Nodup
theorem zB:iS.all (fun p=>Fq p.1 p.2)=true:=by decide+kernel
theorem dE {F R:Nat} (z:Sz F R) {t:Nat} (ht:t<F*R):(bD F R t eK).Nodup∧(bD F R t cY).Nodup∧∀sd,sd<2→(bD F R t (aF sd)).Nodup:=by
 injection F R t with z ht
 obtain⟨f1,f2,r1,r2⟩:=z;have h:=List.all_eq_true.mp (List.all_eq_true.mp zB _ (fT f1 f2 r1 r2)) t (List.mem_range.mpr ht);simp only[z01,z00]at h;refine⟨h.1.1.1,h.1.1.2,?_⟩;rintro-sd hs;have:sd=0∨sd=1:=⋯
 rcases this with rfl|rfl
 · exact h.1.2
 · exact h.2
theorem ia {F R:Nat} {t:Nat} {st:List (Int×Int)} (h:(bD F R t st).Nodup):Rp (F*R) (bD F R t st) (fun u=>decide (u∈bD F R t st)):=⟨h,fun u=>by rw[z00];exact⟨fun m=>⟨xF m,m⟩,fun m=>m.2⟩⟩
def dW (F R:Nat) (b:Nat→Bool) (p:Nat→Bool) (t i:Nat):List Nat:=(List.range i).flatMap fun d=>if b d then cut p (bB F R d t)else[]
theorem dF (F R:Nat) (b p:Nat→Bool) (t i:Nat):dW F R b p t (i+1)=dW F R b p t i++(if b i then cut p (bB F R i t)else[]):=by
 unfold dW;rw[List.range_succ,List.flatMap_append];simp
theorem gf {F R:Nat} (z:Sz F R) {b p:Nat→Bool} {t:Nat} (ht:t<F*R):∀i,i≤8→Rp (F*R) (dW F R b p t i) (fun u=>(List.range i).any fun d=>b d&&decide (u∈cut p (bB F R d t)))
 |0,_=>⟨List.nodup_nil,fun u=>by simp[dW]⟩
 |i+1,hi=>by
  have ih:=gf z (b:=b) (p:=p) ht i ⋯;rw[dF];have mem:∀u,u∈(if b i then cut p (bB F R i t)else[])↔b i=true∧u∈cut p (bB F R i t):=fun u=>by cases h:b i<;>simp
  refine⟨?_,fun u=>?_⟩
  · rw[List.nodup_append];refine⟨ih.1,?_,fun x hx y hy e=>?_⟩
    · cases h:b i
      · simp
      · simp only[if_true];exact h_ (fO z.f1 ⋯)
    · subst e;obtain⟨hxn,EP⟩:=(ih.2 x).mp hx;obtain⟨d,hd,h2⟩:=List.any_eq_true.mp EP;rw[z01,z00]at h2;have sC:=List.mem_range.mp hd;have:=fP z ⋯ ⋯ ht (cO h2.2) (cO ((mem x).mp hy).2);omega
  · rw[List.mem_append,ih.2 u,mem,List.range_succ];dsimp only;rw[List.any_append];simp only[List.any_cons,List.any_nil,Bool.or_false,Bool.or_eq_true,z01,z00]
    constructor
    · rintro(⟨a,b⟩|h)
      · exact⟨a,.inl b⟩
      · exact⟨bT (cO h.2),.inr h⟩
    · rintro⟨a,b|h⟩
      · exact .inl ⟨a,b⟩
      · exact .inr h
def f7 (kd d:Nat):Bool:=decide (kd=5)||((decide (kd=4)&&decide (d<4))||(decide (kd=3)&&decide (3<d)))
def lA (sd kd:Nat):List Int:=if kd=4 then[0,5,13,(sd:Int)*8+4]else if kd=5 then[0]else[0,5,13]
def d9 (F R kd t:Nat):List Nat:=if kd=2 then bD F R t cY else[]
theorem Bp {n:Nat} {pc:Nat→Int} (M:fz n pc) {sd kd u:Nat} (hs:sd<2) (hk:kd=3∨kd=4∨kd=5) (hu:u<n):decide (pc u∉lA sd kd)=gC pc sd kd u:=by
 injection n pc sd kd u with M hs hk hu
 have:=M u hu;unfold lA gC gB kb cS;rw[z07];rcases hk with rfl|rfl|rfl
 · simp;exact fun _=>IT this
 · simp;rw[←IT this,Int.mul_comm,and_assoc,and_assoc]
 · simp
theorem o8 {F R:Nat} (z:Sz F R) {pc:Nat→Int} (M:fz (F*R) pc) {sd kd t:Nat} (hs:sd<2) (h1:2≤kd) (h2:kd≤5) (ht:t<F*R):Rp (F*R) (d9 F R kd t++dW F R (f7 kd) (fun u=>decide (pc u∉lA sd kd)) t 8) (ny F R sd kd t (gC pc sd kd)):=by
 injection F R pc sd kd t with z M hs h1 h2 ht
 by_cases tK:kd=2
 · subst tK;have:dW F R (f7 2) (fun u=>decide (pc u∉lA sd 2)) t 8=[]:=by unfold dW f7;simp
   rw[this,List.append_nil];exact(ia (dE z ht).2.1).congr fun u hu=>rfl
 · have hk:kd=3∨kd=4∨kd=5:=⋯
   have hb:d9 F R kd t=[]:=if_neg tK;rw[hb,List.nil_append];refine(gf z ht 8 nofun).congr ?_;rintro-u hu;have e:∀d,cut (fun u=>decide (pc u∉lA sd kd)) (bB F R d t)=cut (gC pc sd kd) (bB F R d t):=fun d=>hZ fun x hx=>Bp M hs hk (bT hx);simp only[e];unfold ny;rw[if_neg ⋯,if_neg tK,if_neg ⋯];unfold da;rcases hk with rfl|rfl|rfl<;>simp[dirsOf,f7,List.range,List.range.loop]
section
variable {C:Cx} (P:Pg C) {k:Nat} {H:Hp} {F R:Nat} {pc:Nat→Int}
include P
def E8 (pc:Nat→Int) (sd kd:Nat):Nat→Bool:=fun u=>decide (pc u∉lA sd kd)
theorem Pg.yS (z:Sz F R) (st:Le dJ H) (M:fz (F*R) pc) {bo so sd kd ks t:Nat} {sl:List Nat} (hs:sd<2) (h1:1≤kd) (h6:kd≤6) (ht:t<F*R) (hp:pc t=8*sd+kd) (K:bW (F*R) pc sd ks) (hb:H[bo]? =some (tab (F*R) pc))
 (hS:H[so]? =some (.L (nl sl))) (mS:Mm (F*R) sl (pF F R pc sd ks)):
 aa C (k+2) (s "_law_reach") [.I F,.I R,.ref bo,.I t,.ref so] H (fun v H'=>∃o ls,v=.ref o∧Le H H'∧H.length≤o∧H'[o]? =some (.L (nl ls))∧Rp (F*R) ls (fh F R pc sd ks (kd,t))):=by
 injection C k H F R pc bo so sd kd ks t sl with P z st M hs h1 h6 ht hp K hb hS mS
 have hn:=z.n;have z':=z;obtain(⟨f1,f2,r1,r2⟩):=z';refine P.su ?_;rintro-hT;unfold lY;have e5:(pc t).fdiv 8=sd:=by rw[hp,z16 _ nofun];omega
 have e6:(pc t).fmod 8=kd:=by rw[hp,Int.fmod_eq_emod_of_nonneg _ nofun];omega
 refine au ((Val.div nofun nofun (Val.tab hb ht ⋯ (Val.nm rfl) (Val.nm rfl) rfl) (Val.int (a:=8))).use ?_);rw[e5];refine au ((Val.mod nofun (Val.tab hb ht ⋯ (Val.nm rfl) (Val.nm rfl) rfl) (Val.int (a:=8))).use ?_);rw[e6];have nosh:kd=1∨kd=6→∀u,fh F R pc sd ks (kd,t) u=ny F R sd kd t (gC pc sd kd) u:=by
  rintro-h u;unfold fh;rcases h with rfl|rfl<;>simp
 refine bA ((aU.eq (Val.nm rfl) (Val.int (a:=1))).use ⟨fun e=>aM ?_,fun e=>bA ((aU.eq (Val.nm rfl) (Val.int (a:=6))).use ⟨fun e'=>aM ?_,fun e'=>au ?_⟩)⟩)
 · have hk:kd=1:=by have:=z03 e;omega
   subst hk;refine UW.neg (BW.mul (.inl nofun) (BW.sub ⟨by simp,BW.mul (.inl nofun) (BW.sub ⟨by simp,by simp,?_⟩)⟩));have S:fY (H++[O.tup [V.I (-1),V.I (1-2*(sd:Int))]]++[O.tup [V.I 1,V.I (1-2*(sd:Int))]]).length (aF sd) (H++[O.tup [V.I (-1),V.I (1-2*(sd:Int))]]++[O.tup [V.I 1,V.I (1-2*(sd:Int))]]++[O.L [V.ref H.length,V.ref (H++[O.tup [V.I (-1),V.I (1-2*(sd:Int))]]).length]]):=by
    refine⟨[H.length,(H++[O.tup [V.I (-1),V.I (1-2*(sd:Int))]]).length],af _ _,rfl,?_⟩;rintro-i p e;have hi:i<2:=(z06.mp e).1;have:i=0∨i=1:=⋯
    rcases this with rfl|rfl
    · cases e;exact⟨_,rfl,ai _ (ai _ (af _ _))⟩
    · cases e;exact⟨_,rfl,ai _ (af _ _)⟩
   have le:Le H (H++[O.tup [V.I (-1),V.I (1-2*(sd:Int))]]++[O.tup [V.I 1,V.I (1-2*(sd:Int))]]++[O.L [V.ref H.length,V.ref (H++[O.tup [V.I (-1),V.I (1-2*(sd:Int))]]).length]]):=((Le.app _ _).aS _).aS _;refine aa.up (k:=k+1) (aa.mono (P.jL z (by simp[aF]) ht S) ?_);rintro-_ _ ⟨rfl,rfl⟩;refine⟨_,_,rfl,le.aS _,le.len,af _ _,((ia ((dE z ht).2.2 sd hs)).congr ?_)⟩;rintro-u hu;rw[nosh (.inl rfl)];rfl
 · have hk:kd=6:=by have:=z03 e';omega
   subst hk;refine⟨_,P.gk,?_⟩;refine aa.up (k:=k+1) (aa.mono (P.jL z (by simp[eK]) ht (Ds st)) ?_);rintro-_ _ ⟨rfl,rfl⟩;refine⟨_,_,rfl,Le.app _ _,z21 _,af _ _,((ia (dE z ht).1).congr ?_)⟩;rintro-u hu;rw[nosh (.inr rfl)];rfl
 · have k1:2≤kd:=by have:=z04 e;omega
   have k5:kd≤5:=by have:=z04 e';omega
   refine⟨by simp,dZ ((aU.eq (Val.nm rfl) (Val.int (a:=2))).use ⟨(fun aO H'=>∃A,Le H H'∧H.length≤A∧H'[A]? =some (.L (nl (d9 F R kd t)))∧aO=[some (.I F),some (.I R),some (.ref bo),some (.I t),some (.ref so),some (.I sd),some (.I kd),some (.ref A),none,none,none,none,none,none,none,none,none,none,none]),?_,?_,?_⟩)⟩
   · rintro-e2 K hK;refine au ?_;have hk:kd=2:=by have:=z03 e2;omega
     refine⟨_,P.ma,?_⟩;refine aa.up (k:=k+1) (aa.mono (P.jL z (by simp[cY]) ht (uM (st.trans (Le.app _ _)))) ?_);rintro-_ _ ⟨rfl,rfl⟩;refine az (hK _ _ ⟨_,(Le.app _ _).aS _,by simp,?_,rfl⟩);have:d9 F R kd t=bD F R t cY:=if_pos hk;rw[this];exact af _ _
   · rintro-e2 K hK;refine az (hK _ _ ⟨H.length,Le.app _ _,z21 _,?_,rfl⟩);have hk:¬kd=2:=by have:=z04 e2;omega
     have:d9 F R kd t=[]:=if_neg hk;rw[this];exact af _ _
   · rintro-aO H1 ⟨A,bg,hA,Ni,rfl⟩;have hAl:=aV Ni;refine au ?_;refine⟨by simp,BW.mul (.inr nofun) (BW.add ⟨by simp,by simp,by simp,P.max2 (BW.sub ?_)⟩)⟩;have pick:∃(X:Nat) (ls:List V) (H2:Hp),H1.length≤X∧ls[(max (kd:Int) 3-3).toNat]? =some (.ref X)∧Le H1 H2∧H2[X]? =some (.L (il (lA sd kd)))∧H1++[O.L [V.I 0,V.I 5,V.I 13]]++[O.L [V.I 0,V.I 5,V.I 13,V.I ((sd:Int)*8+4)]]++[O.L [V.I 0]]++[O.L [V.ref H1.length,V.ref (H1++[O.L [V.I 0,V.I 5,V.I 13]]).length,V.ref (H1++[O.L [V.I 0,V.I 5,V.I 13]]++[O.L [V.I 0,V.I 5,V.I 13,V.I ((sd:Int)*8+4)]]).length]]=H2∧H2[(H1++[O.L [V.I 0,V.I 5,V.I 13]]++[O.L [V.I 0,V.I 5,V.I 13,V.I ((sd:Int)*8+4)]]++[O.L [V.I 0]]).length]? =some (.L ls):=by
      have hk:(max (kd:Int) 3-3).toNat=0∧(kd≠4∧kd≠5)∨(max (kd:Int) 3-3).toNat=1∧kd=4∨(max (kd:Int) 3-3).toNat=2∧kd=5:=by
       have PX:kd=2∨kd=3∨kd=4∨kd=5:=⋯
       rcases PX with rfl|rfl|rfl|rfl<;>decide
      rcases hk with⟨h,h4,h5⟩|⟨h,rfl⟩|⟨h,rfl⟩
      · refine⟨_,_,_,?_,by rw[h];rfl,((((Le.app _ _).aS _).aS _).aS _),?_,rfl,af _ _⟩
        · simp
        rw[show lA sd kd=[0,5,13] by unfold lA;rw[if_neg h4,if_neg h5]];exact ai _ (ai _ (ai _ (af _ _)))
      · refine⟨_,_,_,?_,by rw[h];rfl,((((Le.app _ _).aS _).aS _).aS _),?_,rfl,af _ _⟩
        · simp
        exact ai _ (ai _ (af _ _))
      · refine⟨_,_,_,?_,by rw[h];rfl,((((Le.app _ _).aS _).aS _).aS _),?_,rfl,af _ _⟩
        · simp
        exact ai _ (af _ _)
     obtain(⟨X,ls,H2,hXl,hls,bJ,hX,eH,hL⟩):=pick;rw[eH];refine cz.list hL ⋯ ⋯ hls ?_;have Lh:=bg.trans bJ;have Pd:=bJ.at_ _ _ Ni;clear eH hL hls;refine cq P 8 (fun i ρ H'=>A5 (Le H H') (H'[A]? =some (.L (nl (d9 F R kd t++dW F R (f7 kd) (E8 pc sd kd) t i)))) (H'[X]? =some (.L (il (lA sd kd)))) (A≠X) (∃v9,ρ=[some (.I F),some (.I R),some (.ref bo),some (.I t),some (.ref so),some (.I sd),some (.I kd),some (.ref A),some (.ref X),v9,none,none,none,none,none,none,none,none,none])) ?_ nofun ?_ ?_
     · have hAX:A≠X:=⋯
       exact⟨rfl,Lh.aS _,by simpa [dW] using ai _ Pd,ai _ hX,hAX,_,rfl⟩
     · rintro-i ρ H3 hi ⟨cj,F4,Jr,hAX,v9,rfl⟩;have hlen:(d9 F R kd t++dW F R (f7 kd) (E8 pc sd kd) t i).length≤100:=by
        rw[z12];have a1:=(gf z (b:=f7 kd) (p:=E8 pc sd kd) ht i ⋯).le;have a2:(d9 F R kd t).length≤F*R:=by
         unfold d9;split
         · exact(ia (dE z ht).2.1).le
         · simp
        omega
       have c1:=aU.or (C:=C) (k:=k+1) (H:=H3) (ρ:=[some (.I F),some (.I R),some (.ref bo),some (.I t),some (.ref so),some (.I sd),some (.I kd),some (.ref A),some (.ref X),some (.I (i:Nat)),none,none,none,none,none,none,none,none,none]) (eI.cons (aU.eq (Val.nm (j:=6) rfl) (Val.int (a:=5))) fun _=>eI.cons (aU.and (bb.cons (aU.eq (Val.nm (j:=6) rfl) (Val.int (a:=4))) fun _=>bb.cons (aU.lt (Val.nm (j:=9) rfl) (Val.int (a:=4))) fun _=>bb.nil)) fun _=>eI.cons (aU.and (bb.cons (aU.eq (Val.nm (j:=6) rfl) (Val.int (a:=3))) fun _=>bb.cons (aU.gt (Val.nm (j:=9) rfl) (Val.int (a:=3))) fun _=>bb.nil)) fun _=>eI.nil);have c2:=c1.to (d:=f7 kd i) (by
        unfold f7;rw[z07];simp only[Bool.or_eq_true,z01,z00,Bool.and_true,Bool.or_false];exact or_congr (Int.ofNat_inj (n:=5)) (or_congr (and_congr (Int.ofNat_inj (n:=4)) (Int.ofNat_lt (m:=4))) (and_congr (Int.ofNat_inj (n:=3)) (Int.ofNat_lt (n:=3)))))
       refine bA (c2.use ⟨?_,?_⟩)
       · rintro-e3;refine aY rfl ?_;obtain(⟨w1,w2,w3⟩):=xp (st.trans cj) hi;refine⟨_,P.gk,cz.list w1 ⋯ ⋯ (by rw[z02];exact w2) ?_⟩;refine aa.up (k:=k+1) (aa.mono (P.sU z (cj.at_ _ _ hb) hi ht w3 Jr) ?_);rintro-_ _ ⟨rfl,rfl⟩;have rl:(cut (E8 pc sd kd) (bB F R i t)).length≤F*R:=ie (h_ (fO z.f1 hi)) fun u hu=>bT (cO hu);refine IW.CP ⋯ (ai _ F4) (af _ _) (by rw[aJ,aJ];have:(cut (fun u=>decide (pc u∉lA sd kd)) (bB F R i t)).length≤F*R:=rl;omega) (az (nx (az ⟨(cj.aS _).set ⋯ _,?_,?_,hAX,_,rfl⟩)))
         · rw[get_set _ (ai _ F4),dF,if_pos e3];unfold E8;simp[nl]
         · exact ae _ hAX (ai _ Jr)
       · rintro-e3;refine az ⟨cj,?_,Jr,hAX,_,rfl⟩;rw[dF,e3];simpa using F4
     · rintro-ρ H3 ⟨cj,F4,Jr,hAX,v9,rfl⟩;have rp:=o8 z M hs k1 k5 ht;rw[show(fun u=>decide (pc u∉lA sd kd))=E8 pc sd kd from rfl]at rp;have rl:=rp.le;generalize (d9 F R kd t++dW F R (f7 kd) (E8 pc sd kd) t 8)=ls at*;refine bA ((aU.vy mS ht (cj.at_ _ _ hS) (Val.nm rfl) (Val.nm rfl)).use ⟨?_,?_⟩)
       · rintro-e3;refine au (nG K ⋯ (cj.at_ _ _ hb) rfl rfl ?_);have tF:∀x:Nat,x<F*R→x/F<R:=fun x hx=>z30 hx;refine au ((Val.sub (Val.u0 ⋯ (Val.nm rfl) (Val.nm rfl)) (Val.u0 ⋯ (Val.nm rfl) (Val.nm rfl))).use ?_);refine au ((Val.sub (Val.vP ⋯ ⋯ (Val.nm rfl) (Val.nm rfl)) (Val.vP ⋯ ⋯ (Val.nm rfl) (Val.nm rfl))).use ?_);refine au (BL nofun ?_);refine(Val.nm rfl).use ⟨ls,xw F ks t,Src.list F4,⋯,by have:=cj.len;omega,?_,az (nx (aM ?_))⟩
         · rintro-u hu H' fC;dsimp only[aW,List.map,List.set];have b1:∀x:Nat,x<F*R→(((x/F:Nat):Int)-((ks/F:Nat):Int)).natAbs<2^64:=fun x hx=>q9 (z19 (tF x hx) ⋯) (z19 (tF ks K.1) ⋯);have b2:∀x:Nat,(((x % F:Nat):Int)-((ks % F:Nat):Int)).natAbs<2^64:=fun x=>q9 (z19 (Nat.mod_lt x (show F>0 by omega)) ⋯) (z19 (Nat.mod_lt ks (show F>0 by omega)) ⋯);exact(aU.eq (Val.mul (.inr (b1 t ht)) (Val.sub (Val.u0 ⋯ (Val.nm rfl) (Val.nm rfl)) (Val.u0 ⋯ (Val.nm rfl) (Val.nm rfl))) (Val.nm rfl)) (Val.mul (.inr (b2 t)) (Val.sub (Val.vP ⋯ ⋯ (Val.nm rfl) (Val.nm rfl)) (Val.vP ⋯ ⋯ (Val.nm rfl) (Val.nm rfl))) (Val.nm rfl)))
         · refine⟨_,_,rfl,cj.aS _,cj.len,af _ _,(rp.filter _).congr ?_⟩;rintro-u hu;unfold fh;have n1:kd≠1:=⋯
           have n6:kd≠6:=⋯
           simp[n1,n6,e3]
       · rintro-e3;refine aM ?_;refine⟨_,_,rfl,cj,hA,F4,rp.congr ?_⟩;rintro-u hu;unfold fh;simp[e3]
end
theorem vM (H T:Hp) (i:Nat):(H++T)[H.length+i]? =T[i]? :=by rw[z10 ⋯];congr 1;omega
theorem kA {n x:Nat} {f g:Nat→Int} {y:Int} (hx:x<n) (h1:g x=y) (h2:∀i,i<n→i≠x→f i=g i):(il ((List.range n).map f)).set x (.I y)=il ((List.range n).map g):=by
 apply List.ext_getElem?
 intro i;rw[List.getElem?_set];unfold il;simp only[z11,List.length_map,List.length_range]
 by_cases hi:i<n
 · rw[List.getElem?_range hi]
   by_cases hix:x=i
   · subst hix;simp[hx,h1]
   · rw[if_neg hix];simp[h2 i hi (Ne.symm hix)]
 · have:¬x=i:=⋯
   rw[if_neg this,List.getElem?_eq_none (by simp;omega)];rfl
section
variable (F R:Nat) (pc:Nat→Int) (sd ks:Nat)
def aI (i:Nat):List (Nat×Nat):=((List.range i).filter (sb pc sd)).map fun t=>((pc t % 8).toNat,t)
def tm (L:List (Nat×Nat)) (u:Nat):Nat:=(L.filter fun q=>fh F R pc sd ks q u).length
def tk (kd:Nat) (L:List (Nat×Nat)) (u:Nat):Nat:=(L.filter fun q=>decide (q.1=kd)&&fh F R pc sd ks q u).length
def pI (lo:Nat) (rs:List Nat) (L:List (Nat×Nat)) (H:Hp):Prop:=rs.length=L.length∧∀(i:Nat) q,L[i]? =some q→∃m ri li,rs[i]? =some m∧lo≤m∧lo≤ri∧H[m]? =some (.tup [.I (q.1:Nat),.ref ri])∧H[ri]? =some (.L (nl li))∧Rp (F*R) li (fh F R pc sd ks q)
structure jj (so re bl ti b0 lo:Nat) (sl rs:List Nat) (L:List (Nat×Nat)) (H:Hp):Prop where
 ord:so<re∧re<b0∧b0+7≤bl∧bl<ti∧ti<lo
 sh:H[so]? =some (.L (nl sl))
 shr:Rp (F*R) sl (pF F R pc sd ks)
 re:H[re]? =some (.L (refs rs))
 rr:pI F R pc sd ks lo rs L H
 bl:H[bl]? =some (.L (refs ((List.range 7).map (b0+ ·))))
 bs:∀kd,kd<7→∃l,H[b0+kd]? =some (.L (nl l))∧l.length≤L.length*(F*R)∧(∀u∈l,u<F*R)∧∀u,u<F*R→l.count u=tk F R pc sd ks kd L u
structure fx (so re bl ti b0 lo:Nat) (sl rs:List Nat) (L:List (Nat×Nat)) (H:Hp):Prop extends jj F R pc sd ks so re bl ti b0 lo sl rs L H where
 ti:H[ti]? =some (tab (F*R) fun u=>(tm F R pc sd ks L u:Nat))
end
section
variable {F R:Nat} {pc:Nat→Int} {sd ks:Nat}
theorem pI.le {lo:Nat} {rs:List Nat} {L:List (Nat×Nat)} {H H':Hp} (h:pI F R pc sd ks lo rs L H) (l:Le H H'):pI F R pc sd ks lo rs L H':=⟨h.1,fun i q e=>let⟨m,ri,li,a,b,c,d,f,g⟩:=h.2 i q e;⟨m,ri,li,a,b,c,l.at_ _ _ d,l.at_ _ _ f,g⟩⟩
theorem pI.set {lo x:Nat} {rs:List Nat} {L:List (Nat×Nat)} {H:Hp} (h:pI F R pc sd ks lo rs L H) (hx:x<lo) (o:O):pI F R pc sd ks lo rs L (H.set x o):=⟨h.1,fun i q e=>let⟨m,ri,li,a,b,c,d,f,g⟩:=h.2 i q e;⟨m,ri,li,a,b,c,ae _ ⋯ d,ae _ ⋯ f,g⟩⟩
theorem jj.le {so re bl ti b0 lo:Nat} {sl rs:List Nat} {L:List (Nat×Nat)} {H H':Hp} (h:jj F R pc sd ks so re bl ti b0 lo sl rs L H) (l:Le H H'):jj F R pc sd ks so re bl ti b0 lo sl rs L H':=
 ⟨h.ord,l.at_ _ _ h.sh,h.shr,l.at_ _ _ h.re,h.rr.le l,l.at_ _ _ h.bl,fun kd hk=>let⟨x,a,b⟩:=h.bs kd hk;⟨x,l.at_ _ _ a,b⟩⟩
theorem jj.FI {so re bl ti b0 lo:Nat} {sl rs:List Nat} {L:List (Nat×Nat)} {H:Hp} (h:jj F R pc sd ks so re bl ti b0 lo sl rs L H) (o:O):jj F R pc sd ks so re bl ti b0 lo sl rs L (H.set ti o):=
 have q:=h.ord
 ⟨h.ord,ae _ ⋯ h.sh,h.shr,ae _ ⋯ h.re,h.rr.set q.2.2.2.2 o,ae _ ⋯ h.bl,fun kd hk=>let⟨x,a,b⟩:=h.bs kd hk;⟨x,ae _ ⋯ a,b⟩⟩
theorem set_same {α:Type} {xs:List α} {i:Nat} {v:α} (h:xs[i]? =some v):xs.set i v=xs:=by
 apply List.ext_getElem?
 intro j;rw[List.getElem?_set]
 by_cases hij:i=j
 · subst hij;rw[if_pos rfl,h,if_pos (z06.mp h).1]
 · rw[if_neg hij]
theorem fx.le {so re bl ti b0 lo:Nat} {sl rs:List Nat} {L:List (Nat×Nat)} {H H':Hp} (h:fx F R pc sd ks so re bl ti b0 lo sl rs L H) (l:Le H H'):fx F R pc sd ks so re bl ti b0 lo sl rs L H':=
 ⟨h.tojj.le l,l.at_ _ _ h.ti⟩
theorem pI.snoc {lo m ri:Nat} {rs li:List Nat} {L:List (Nat×Nat)} {H:Hp} {q:Nat×Nat} (h:pI F R pc sd ks lo rs L H) (hm:H[m]? =some (.tup [.I (q.1:Nat),.ref ri])) (hr:H[ri]? =some (.L (nl li))) (rp:Rp (F*R) li (fh F R pc sd ks q)) (h1:lo≤m) (h2:lo≤ri):pI F R pc sd ks lo (rs++[m]) (L++[q]) H:=by
 injection F R pc sd ks lo m ri rs li L H q with h hm hr rp h1 h2
 refine⟨by simp[h.1],?_⟩;rintro-i q' e
 by_cases hi:i<L.length
 · rw[z09 hi]at e;obtain(⟨m',QK,P',a,b⟩):=h.2 i q' e;exact⟨m',QK,P',by rw[z09 (by have:=h.1;omega)];exact a,b⟩
 · have hl:=(z06.mp e).1;simp at hl;have:i=L.length:=⋯
   subst this;rw[z10 (z21 _)]at e;simp at e;subst e;exact⟨m,ri,li,by rw[←h.1];simp,h1,h2,hm,hr,rp⟩
theorem lO (i:Nat):aI pc sd (i+1)=aI pc sd i++(if sb pc sd i then[((pc i % 8).toNat,i)]else[]):=by
 unfold aI;rw[List.range_succ,List.filter_append,List.map_append]
 cases h:sb pc sd i<;>simp[h]
theorem i9 (i:Nat):(aI pc sd i).length=cnt i (sb pc sd):=by unfold aI cnt;simp
theorem zN {i n:Nat} (h:i≤n) (p:Nat→Bool):cnt i p≤cnt n p:=by
 induction h with
 |refl=>exact z21 _
 |step _ ih=>rw[cX];omega
theorem Dm (L:List (Nat×Nat)) (q:Nat×Nat) (u:Nat):tm F R pc sd ks (L++[q]) u=tm F R pc sd ks L u+if fh F R pc sd ks q u then 1 else 0:=by
 unfold tm;rw[List.filter_append,z12];congr 1
 cases h:fh F R pc sd ks q u<;>simp[h]
theorem yg (kd:Nat) (L:List (Nat×Nat)) (q:Nat×Nat) (u:Nat):tk F R pc sd ks kd (L++[q]) u=tk F R pc sd ks kd L u+if q.1=kd∧fh F R pc sd ks q u=true then 1 else 0:=by
 unfold tk;rw[List.filter_append,z12];congr 1
 by_cases h:q.1=kd<;>cases h':fh F R pc sd ks q u<;>simp[h,h']
theorem Rp.count {n:Nat} {ls:List Nat} {B:Nat→Bool} (h:Rp n ls B) {u:Nat} (hu:u<n):ls.count u=if B u=true then 1 else 0:=by
 rw[h.1.count];have:=h.2 u
 by_cases hb:B u=true
 · rw[if_pos hb,if_pos (this.mpr ⟨hu,hb⟩)]
 · rw[if_neg hb,if_neg fun m=>hb (this.mp m).2]
end
section
variable {C:Cx} (P:Pg C) {k:Nat} {H:Hp} {F R:Nat} {pc:Nat→Int}
include P
theorem Pg.qM (z:Sz F R) (st:Le dJ H) (M:fz (F*R) pc) {bo sd ks:Nat} (hs:sd<2) (K:bW (F*R) pc sd ks) (f9:cnt (F*R) (sb pc sd)≤16) (hb:H[bo]? =some (tab (F*R) pc)):
 aa C (k+3) (s "_law_looks") [.I F,.I R,.ref bo,.I sd] H (fun v H'=>∃m so re bl ti b0 lo sl rs,v=.ref m∧Le H H'∧H'[m]? =some (.tup [.ref so,.ref re,.ref bl,.ref ti])∧fx F R pc sd ks so re bl ti b0 lo sl rs (aI pc sd (F*R)) H'):=by
 injection C k H F R pc bo sd ks with P z st M hs K f9 hb
 have hn:=z.n;refine P.sr ?_;rintro-hT;unfold lX;refine au ?_;refine aa.mono (P.uN z st M hs K hb) ?_;rintro-_ H1 ⟨so,sl,rfl,bg,hso,rps⟩;have P0:=bg.len;refine au ?_;refine⟨by simp,au ?_⟩;refine⟨by simp,by simp,by simp,by simp,by simp,by simp,by simp,by simp,?_⟩;simp only[List.append_assoc,List.cons_append,List.nil_append,z12,List.length_cons,List.length_nil];have F7:Le H1 (H1++[O.L [],.L [],.L [],.L [],.L [],.L [],.L [],.L [],.L [V.ref (H1.length+(0+1)),.ref (H1.length+(0+1+1)),.ref (H1.length+(0+1+1+1)),.ref (H1.length+(0+1+1+1+1)),.ref (H1.length+(0+1+1+1+1+1)),.ref (H1.length+(0+1+1+1+1+1+1)),.ref (H1.length+(0+1+1+1+1+1+1+1))]]):=⟨fun n u e=>by rw[z09 (z06.mp e).1];exact e⟩;have g0:=vM H1 [O.L [],.L [],.L [],.L [],.L [],.L [],.L [],.L [],.L [V.ref (H1.length+(0+1)),.ref (H1.length+(0+1+1)),.ref (H1.length+(0+1+1+1)),.ref (H1.length+(0+1+1+1+1)),.ref (H1.length+(0+1+1+1+1+1)),.ref (H1.length+(0+1+1+1+1+1+1)),.ref (H1.length+(0+1+1+1+1+1+1+1))]];have gl:(H1++[O.L [],.L [],.L [],.L [],.L [],.L [],.L [],.L [],.L [V.ref (H1.length+(0+1)),.ref (H1.length+(0+1+1)),.ref (H1.length+(0+1+1+1)),.ref (H1.length+(0+1+1+1+1)),.ref (H1.length+(0+1+1+1+1+1)),.ref (H1.length+(0+1+1+1+1+1+1)),.ref (H1.length+(0+1+1+1+1+1+1+1))]]).length=H1.length+9:=by simp
 generalize (H1++[O.L [],.L [],.L [],.L [],.L [],.L [],.L [],.L [],.L [V.ref (H1.length+(0+1)),.ref (H1.length+(0+1+1)),.ref (H1.length+(0+1+1+1)),.ref (H1.length+(0+1+1+1+1)),.ref (H1.length+(0+1+1+1+1+1)),.ref (H1.length+(0+1+1+1+1+1+1)),.ref (H1.length+(0+1+1+1+1+1+1+1))]])=H2 at*;have DP:=F7.len;have hre:H2[H1.length]? =some (.L []):=g0 0;have hbl:H2[H1.length+8]? =some (.L (refs ((List.range 7).map (H1.length+1+ ·)))):=g0 8;have hbs:∀kd,kd<7→H2[H1.length+1+kd]? =some (.L []):=by
  rintro-kd hk;have:kd=0∨kd=1∨kd=2∨kd=3∨kd=4∨kd=5∨kd=6:=⋯
  rcases this with rfl|rfl|rfl|rfl|rfl|rfl|rfl
  · exact g0 1
  · exact g0 2
  · exact g0 3
  · exact g0 4
  · exact g0 5
  · exact g0 6
  · exact g0 7
 clear g0
 change wX C (k+2) _ [some (V.I F),some (V.I R),some (V.ref bo),some (V.I sd),some (V.ref so),some (V.ref H1.length),some (V.ref (H1.length+8)),none,none,none,none,none,none,none,none] H2 _
 have bJ:=bg.trans F7;refine au ?_;refine⟨by simp,P.len (ai _ (bJ.at_ _ _ hb)) (by rw[aX];simp;omega) (BW.mR (af _ _) (by rw[aX];simp;omega) ⋯ ?_)⟩;have e0:O.L (List.replicate (((il ((List.range (F*R)).map pc)).length:Nat):Int).toNat (V.I 0))=tab (F*R) (fun u=>(tm F R pc sd ks [] u:Nat)):=by
  unfold tab
  congr 1
  rw[aX,z02,List.length_map,List.length_range]
  apply List.ext_getElem?
  rintro-i;unfold il;rw[z11,z11]
  by_cases hi:i<F*R
  · rw[List.getElem?_range hi,List.getElem?_replicate,if_pos hi];rfl
  · rw[List.getElem?_replicate,if_neg hi,List.getElem?_eq_none (by simp;omega)];rfl
 rw[e0];have yU:Le H2 (H2++[O.L [V.I 0]]++[tab (F*R) (fun u=>(tm F R pc sd ks [] u:Nat))]):=(Le.app _ _).aS _;have hti:=af (H2++[O.L [V.I 0]]) (tab (F*R) (fun u=>(tm F R pc sd ks [] u:Nat)));have E7:(H2++[O.L [V.I 0]]).length=H1.length+10:=by simp[gl]
 have l3:(H2++[O.L [V.I 0]]++[tab (F*R) (fun u=>(tm F R pc sd ks [] u:Nat))]).length=H1.length+11:=by simp[gl]
 rw[E7]at hti;rw[E7];generalize (H2++[O.L [V.I 0]]++[tab (F*R) (fun u=>(tm F R pc sd ks [] u:Nat))])=H3 at*;have cj:=bJ.trans yU;have hsoL:so<H1.length:=aV hso;have LO:fx F R pc sd ks so H1.length (H1.length+8) (H1.length+10) (H1.length+1) (H1.length+11) sl [] [] H3:=
  ⟨⟨⟨hsoL,⋯,⋯,⋯,⋯⟩,yU.at_ _ _ (F7.at_ _ _ hso),rps,yU.at_ _ _ hre,⟨rfl,fun i q e=>by simp at e⟩,yU.at_ _ _ hbl,fun kd hk=>⟨[],yU.at_ _ _ (hbs kd hk),by simp,by simp,fun u hu=>rfl⟩⟩,hti⟩
 have hre:H.length≤H1.length:=P0;generalize H1.length+8=bl at*;generalize H1.length+10=ti at*;generalize H1.length+1=b0 at*;generalize H1.length+11=lo at*;generalize H1.length=re at*;clear hbl hbs F7 gl DP hso hti e0 bg bJ yU;refine cq P (F*R) (fun i ρ H'=>A4 (Le H H') (lo≤H'.length) ((∃rs,fx F R pc sd ks so re bl ti b0 lo sl rs (aI pc sd i) H')) (∃v8 v9 v10,ρ=[some (.I F),some (.I R),some (.ref bo),some (.I sd),some (.ref so),some (.ref re),some (.ref bl),some (.ref ti),v8,v9,v10,none,none,none,none])) ?_ ⋯ ?_ ?_
 · exact(Val.sY P (cj.at_ _ _ hb) ⋯ (Val.nm rfl)).use ⟨rfl,cj.aS _,by simp;omega,⟨[],LO.le (Le.app _ _)⟩,_,_,_,rfl⟩
 · rintro-t ρ H4 ht ⟨de,Hu,⟨rs,LO⟩,v8,v9,v10,rfl⟩;have F9:=de.at_ _ _ hb;have esb:(decide (pc t≠0)&&(decide ((pc t).fdiv 8=(sd:Int))&&true))=sb pc sd t:=by
    unfold sb;rw[Bool.and_true,z16 _ nofun]
   refine bA ((aU.and (bb.cons (aU.val (Val.tab F9 ht ⋯ (Val.nm rfl) (Val.nm rfl) rfl)) fun _=>bb.cons (aU.eq (Val.div nofun nofun (Val.tab F9 ht ⋯ (Val.nm rfl) (Val.nm rfl) rfl) (Val.int (a:=8))) (Val.nm rfl)) fun _=>bb.nil)).use ?_);rw[esb];refine⟨?_,?_⟩
   · rintro-e;have hm:=M t ht;have hsb:pc t≠0∧pc t/8=sd:=by unfold sb at e;simpa using e
     obtain(⟨kd,i5,pD,Ht⟩):∃kd:Nat,pc t=8*sd+kd∧1≤kd∧kd≤6:=DZ hm hsb.1 hsb.2;have hq:aI pc sd (t+1)=aI pc sd t++[(kd,t)]:=by
      rw[lO,if_pos e];rw[oY i5 (z29 Ht)];rfl
     have hmod:(pc t).fmod 8=kd:=by rw[Int.fmod_eq_emod_of_nonneg _ nofun];exact oY i5 (z29 Ht)
     have hL:(aI pc sd t).length<16:=by
      have h1:=i9 (pc:=pc) (sd:=sd) (t+1);rw[hq]at h1;have h2:=zN (show t+1≤F*R from ht) (sb pc sd);simp at h1;omega
     clear esb e hm hsb;rw[hq];generalize aI pc sd t=L at*;refine au ?_;refine aa.mono (P.yS z (st.trans de) M hs pD Ht ht i5 K F9 LO.sh LO.shr.2) ?_;rintro-_ H5 ⟨o,li,rfl,eJ,hol,ho,rp⟩;replace LO:=LO.le eJ;have PD:=eJ.len;have fD:=de.trans eJ;obtain(⟨o1,o2,o3,o4,o5⟩):=LO.ord;have Hq:=fD.at_ _ _ hb;refine cC ?_;refine⟨re,_,rfl,LO.re,aG Hq ht ⋯ rfl (BW.mod nofun ⟨by simp,?_⟩)⟩;rw[hmod];replace LO:=LO.le (Le.app H5 (.tup [.I (kd:Nat),.ref o]));have mQ:Le H (H5++[.tup [.I (kd:Nat),.ref o]]):=fD.aS _;have Hy:=af H5 (.tup [.I (kd:Nat),.ref o]);have KH:=ai (.tup [.I (kd:Nat),.ref o]) ho;have P7:(H5++[O.tup [.I (kd:Nat),.ref o]]).length=H5.length+1:=by simp
     generalize (H5++[O.tup [.I (kd:Nat),.ref o]])=H6 at*;have hrl:rs.length<16:=by rw[LO.rr.1];exact hL
     refine cR.append ⋯ LO.re (by simp[refs];omega) ⟨rfl,?_⟩;have EL:=get_set (.L (refs rs++[V.ref H5.length])) LO.re;rw[ij]at EL⊢;have lp:Le H (H6.set re (.L (refs (rs++[H5.length])))):=mQ.set hre _;have Nw:=ae (m:=re) (.L (refs (rs++[H5.length]))) ⋯ Hy;have Jx:=ae (m:=re) (.L (refs (rs++[H5.length]))) ⋯ KH;have HL:=ae (m:=re) (.L (refs (rs++[H5.length]))) ⋯ LO.sh;have EC:=ae (m:=re) (.L (refs (rs++[H5.length]))) ⋯ LO.bl;have HN:=ae (m:=re) (.L (refs (rs++[H5.length]))) ⋯ LO.ti;have HK:=(LO.rr.set (x:=re) ⋯ (.L (refs (rs++[H5.length])))).snoc (q:=(kd,t)) Nw Jx rp ⋯ ⋯;have ED:∀zu,zu<7→∃l,(H6.set re (.L (refs (rs++[H5.length]))))[b0+zu]? =some (.L (nl l))∧l.length≤L.length*(F*R)∧(∀u∈l,u<F*R)∧∀u,u<F*R→l.count u=tk F R pc sd ks zu L u:=fun zu Jv=>let⟨l,a,b⟩:=LO.bs zu Jv;⟨l,ae _ ⋯ a,b⟩
     have P8:(H6.set re (.L (refs (rs++[H5.length])))).length=H6.length:=by simp
     generalize H6.set re (.L (refs (rs++[H5.length])))=H7 at*;refine eX ?_;refine aG (lp.at_ _ _ hb) ht ⋯ rfl (BW.mod nofun ?_);rw[hmod];have hat:(refs ((List.range 7).map (b0+ ·)))[kd]? =some (.ref (b0+kd)):=c5 (by rw[z11,List.getElem?_range ⋯];rfl);obtain(⟨l,hl,hll,hln,hlc⟩):=ED kd ⋯;have hlin:li.length≤F*R:=rp.le;have hLm:L.length*(F*R)≤16*48:=Nat.mul_le_mul ⋯ hn;refine cz.list EC ⋯ ⋯ (by rw[z02];exact hat) (IW.CP ⋯ hl Jx (by rw[aJ,aJ];omega) ?_);have enl:nl l++nl li=nl (l++li):=by simp[nl]
     rw[enl];have CC:=ae (m:=b0+kd) (.L (nl (l++li))) ⋯ EC;refine iV.list ⋯ CC ⋯ (by simp[refs];omega) ⋯ ?_;rw[z02,set_same hat];have same:∀(h:Hp) (o:O),h[bl]? =some o→h.set bl o=h:=fun h o e=>set_same e;rw[same _ _ CC];have jN:Le H (H7.set (b0+kd) (.L (nl (l++li)))):=lp.set ⋯ _;have LP:jj F R pc sd ks so re bl ti b0 lo sl (rs++[H5.length]) (L++[(kd,t)]) (H7.set (b0+kd) (.L (nl (l++li)))):=by
      refine⟨⟨o1,o2,o3,o4,o5⟩,ae _ ⋯ HL,LO.shr,ae _ ⋯ EL,HK.set ⋯ _,CC,?_⟩;rintro-zu Jv
      by_cases hkk:zu=kd
      · subst hkk;refine⟨l++li,get_set _ hl,?_,?_,?_⟩
        · rw[z12,z12,Nat.add_mul];simp;omega
        · rintro-u hu;rw[List.mem_append]at hu;exact hu.elim (hln u) fun h=>((rp.2 u).mp h).1
        · rintro-u hu;rw[List.count_append,hlc u hu,yg,rp.count hu];simp
      · obtain(⟨l',a,b,c,d⟩):=ED zu Jv;refine⟨l',ae _ ⋯ a,?_,c,?_⟩
        · rw[z12,Nat.add_mul];omega
        · rintro-u hu;rw[d u hu,yg];have:¬kd=zu:=fun e=>hkk e.symm;simp[this]
     have KR:=ae (m:=b0+kd) (.L (nl (l++li))) ⋯ HN;have EJ:=ae (m:=b0+kd) (.L (nl (l++li))) ⋯ Jx;have P9:(H7.set (b0+kd) (.L (nl (l++li)))).length=H7.length:=by simp
     generalize (H7.set (b0+kd) (.L (nl (l++li))))=H8 at*;clear CC ED hl HN EC HL Nw EL Hy KH HK Jx;refine md ?_;refine⟨o,nl li,(fun j ρ H'=>A6 (Le H H') (lo≤H'.length) (jj F R pc sd ks so re bl ti b0 lo sl (rs++[H5.length]) (L++[(kd,t)]) H') (H'[ti]? =some (tab (F*R) fun u=>((tm F R pc sd ks L u+(li.take j).count u:Nat):Int))) (H'[o]? =some (.L (nl li))) (∃v10,ρ=[some (.I F),some (.I R),some (.ref bo),some (.I sd),some (.ref so),some (.ref re),some (.ref bl),some (.ref ti),some (.I (t:Nat)),some (.ref o),v10,none,none,none,none])),rfl,EJ,⟨jN,⋯,LP,?_,EJ,_,rfl⟩,fun j ρ H' hI=>hI.5,?_,?_⟩
     · simpa using KR
     · rintro-j x ρ H9 hx ⟨Av,EH,JN,yN,Nz,v10,rfl⟩;obtain(⟨u,hu,rfl⟩):=dp hx;have hun:u<F*R:=((rp.2 u).mp (z08 hu)).1;refine eX ?_;have RA:=aV yN;refine aG yN hun ⋯ rfl (IW.add (iV.list ⋯ yN ⋯ (by rw[aX];simp;omega) ⋯ (az ⟨Av.set ⋯ _,by simpa using EH,JN.FI _,?_,ae _ ⋯ Nz,_,rfl⟩)));rw[get_set _ yN,z02];unfold tab
       congr 2
       refine kA hun ?_ ?_
       · rw[List.take_add_one,hu,List.count_append];simp;omega
       · rintro-i hi hne;rw[List.take_add_one,hu,List.count_append];have:List.count i (some u).toList=0:=by simp[Ne.symm hne]
         rw[this];simp
     · rintro-ρ H9 ⟨Av,EH,JN,yN,Nz,v10,rfl⟩;refine az (nx (az ⟨Av,EH,⟨_,JN,?_⟩,_,_,_,rfl⟩));rw[yN];unfold tab
       congr 3
       refine z26 ?_;rintro-u hu;rw[aJ,List.take_length,rp.count (List.mem_range.mp hu),Dm]
   · rintro-e;have hq:aI pc sd (t+1)=aI pc sd t:=by rw[lO,e];simp
     refine az ⟨de,Hu,⟨rs,by rw[hq];exact LO⟩,_,_,_,rfl⟩
 · rintro-ρ H4 ⟨de,Hu,⟨rs,LO⟩,v8,v9,v10,rfl⟩;refine aM ?_;exact⟨by simp,_,so,re,bl,ti,b0,lo,sl,rs,rfl,de.aS _,af _ _,LO.le (Le.app _ _)⟩
end
theorem oV {α:Type} (f:α→Int) {l l':List α} (h:l.Perm l'):(l.map f).sum=(l'.map f).sum:=by
 induction h with
 |nil=>rfl
 |cons x _ ih=>simp[ih]
 |swap x y l=>simp;omega
 |trans _ _ a b=>exact a.trans b
section
variable {F R:Nat} {pc:Nat→Int} {sd:Nat}
theorem uW (kd:Nat):(dw F R pc sd kd).Nodup:=by
 unfold dw dc;exact(List.nodup_range.filter _).map _ fun a b h e=>h (Prod.mk.inj e).2
theorem qZ:∀i,(bM F R pc sd i).Nodup
 |0=>List.nodup_nil
 |i+1=>by
  unfold bM;rw[List.nodup_append];refine⟨qZ i,uW _,fun a ha b hb e=>?_⟩;subst e;have h1:=(ic i).mp ha;unfold dw at hb;obtain⟨t,_,rfl⟩:=List.mem_map.mp hb;have:=h1.2.1;dsimp only at this;omega
theorem jK (n:Nat):(aI pc sd n).Nodup:=by
 unfold aI;exact(List.nodup_range.filter _).map _ fun a b h e=>h (Prod.mk.inj e).2
theorem gb {n:Nat} (M:fz n pc) (hs:sd<2) {q:Nat×Nat}:q∈aI pc sd n↔1≤q.1∧q.1≤6∧q.2<n∧cS pc sd q.1 q.2=true:=by
 injection pc sd n q with M hs
 unfold aI;rw[List.mem_map]
 constructor
 · rintro-⟨t,ht,rfl⟩;rw[List.mem_filter,List.mem_range]at ht;have hm:=M t ht.1;have hsb:pc t≠0∧pc t/8=sd:=by have:=ht.2;unfold sb at this;simpa using this
   unfold cS;rw[z00];dsimp only;obtain(⟨kd,e,h1,h6⟩):=DZ hm hsb.1 hsb.2;rw[oY e (z29 h6)];exact⟨h1,h6,ht.1,e⟩
 · rintro-⟨h1,h6,ht,hp⟩;unfold cS at hp;rw[z00]at hp;refine⟨q.2,?_,?_⟩
   · rw[List.mem_filter,List.mem_range];refine⟨ht,?_⟩;unfold sb;rw[z01,z00,z00];exact⟨xY hp h1,ja hp (z29 h6)⟩
   · obtain⟨a,b⟩:=q;dsimp only at*;have:(pc b % 8).toNat=a:=by rw[oY hp (z29 h6)];rfl
     rw[this]
theorem jM (M:fz (F*R) pc) (hs:sd<2):(aI pc sd (F*R)).Perm (bM F R pc sd 6):=
 (List.perm_ext_iff_of_nodup (jK _) (qZ _)).mpr fun q=>by rw[gb M hs,ic]
theorem rA (M:fz (F*R) pc) (hs:sd<2):((aI pc sd (F*R)).filter fun q=>decide (2≤q.1∧q.1≤5)).Perm (RS F R pc sd):=by
 have:(RS F R pc sd)=(bM F R pc sd 6).filter fun q=>decide (2≤q.1∧q.1≤5):=by
  unfold RS;refine List.filter_congr fun q hq=>?_;have:=(ic 6).mp hq;unfold gp;rw[z07];simp only[z01,z00];omega
 rw[this];exact(jM M hs).filter _
variable {kq:Nat→Nat}
theorem xl (M:fz (F*R) pc) (hs:sd<2) (u:Nat):decide (2≤tm F R pc sd (kq sd) (aI pc sd (F*R)) u)=vJ F R pc kq sd u:=by
 unfold vJ yi tm;rw[((jM (F:=F) (R:=R) M hs).filter _).length_eq]
theorem pd (M:fz (F*R) pc) (hs:sd<2) (u:Nat):decide (1≤tm F R pc sd (kq sd) (aI pc sd (F*R)) u)=BY F R pc kq sd 0 u:=by
 unfold BY jh tm;rw[((jM (F:=F) (R:=R) M hs).filter _).length_eq,z07,z00,List.any_eq_true]
 constructor
 · intro h;obtain⟨q,hq⟩:=List.exists_mem_of_length_pos h;rw[List.mem_filter]at hq;exact⟨q,hq.1,by simpa using hq.2⟩
 · rintro⟨q,hq,h⟩;exact List.length_pos_of_mem (List.mem_filter.mpr ⟨hq,by simpa using h⟩)
theorem D3 (M:fz (F*R) pc) (hs:sd<2) {kd:Nat} (h1:1≤kd) (u:Nat):decide (1≤tk F R pc sd (kq sd) kd (aI pc sd (F*R)) u)=BY F R pc kq sd kd u:=by
 unfold BY jh tk;rw[((jM (F:=F) (R:=R) M hs).filter _).length_eq,z07,z00,List.any_eq_true];have h0:decide (kd=0)=false:=decide_eq_false ⋯
 constructor
 · intro h;obtain⟨q,hq⟩:=List.exists_mem_of_length_pos h;rw[List.mem_filter]at hq;exact⟨q,hq.1,by rw[h0,Bool.false_or];exact hq.2⟩
 · rintro⟨q,hq,h⟩;rw[h0,Bool.false_or]at h;exact List.length_pos_of_mem (List.mem_filter.mpr ⟨hq,h⟩)
theorem I4 (M:fz (F*R) pc) (hs:sd<2) (u:Nat):decide (2≤tk F R pc sd (kq sd) 1 (aI pc sd (F*R)) u)=tq F R pc sd u:=by
 injection F R pc sd kq u with M hs
 unfold tk tq;have e:((aI pc sd (F*R)).filter fun q=>decide (q.1=1)&&fh F R pc sd (kq sd) q u).length=((dc (F*R) (cS pc sd 1)).filter fun t=>decide (u∈bD F R t (aF sd))).length:=by
  have p:((aI pc sd (F*R)).filter fun q=>decide (q.1=1)&&fh F R pc sd (kq sd) q u).Perm (((dc (F*R) (cS pc sd 1)).filter fun t=>decide (u∈bD F R t (aF sd))).map fun t=>(1,t)):=by
   refine(List.perm_ext_iff_of_nodup ((jK _).filter _) ?_).mpr ?_
   · exact((List.nodup_range.filter _).filter _).map _ fun a b h e=>h (Prod.mk.inj e).2
   · rintro-q;rw[List.mem_filter,gb M hs,List.mem_map]
     constructor
     · rintro-⟨⟨a,b,c,d⟩,h⟩;rw[z01,z00]at h;obtain⟨q1,q2⟩:=q;dsimp only at*;obtain(⟨rfl,h⟩):=h;refine⟨q2,List.mem_filter.mpr ⟨List.mem_filter.mpr ⟨List.mem_range.mpr c,d⟩,?_⟩,rfl⟩;unfold fh ny at h
       simpa using h
     · rintro-⟨t,ht,rfl⟩;rw[List.mem_filter]at ht;obtain(⟨h1,h2⟩):=ht;unfold dc at h1;rw[List.mem_filter,List.mem_range]at h1;refine⟨⟨by simp,by simp,h1.1,h1.2⟩,?_⟩;unfold fh ny
       simpa using h2
  rw[p.length_eq,List.length_map]
 rw[e]
end
def IG (F R:Nat):Bool:=(List.range (F*R)).all fun t=>decide (((List.range 8).map fun d=>if d<4 then 0 else(bB F R d t).length).sum≤13)&&decide (((List.range 8).map fun d=>if d<4 then(bB F R d t).length else 0).sum≤14)&&decide (((List.range 8).map fun d=>(bB F R d t).length).sum≤27)
theorem B5:iS.all (fun p=>IG p.1 p.2)=true:=by decide+kernel
def bG (kd:Nat):Nat:=if kd=2 then 8 else if kd=3 then 13 else if kd=4 then 14 else 27
theorem xy {p:Nat→Bool}:∀L:List Nat,(cut p L).length≤L.length
 |[]=>z21 _
 |t::L=>by
  unfold cut;have:=xy (p:=p) L
  split<;>simp<;>omega
theorem vc {F R:Nat} {b p:Nat→Bool} {t:Nat}:∀i,(dW F R b p t i).length≤((List.range i).map fun d=>if b d then(bB F R d t).length else 0).sum
 |0=>by simp[dW]
 |i+1=>by
  rw[dF,List.range_succ,List.map_append,List.sum_append,z12];have:=vc (b:=b) (p:=p) (F:=F) (R:=R) (t:=t) i;have h2:=xy (p:=p) (bB F R i t)
  cases h:b i<;>simp[h]<;>omega
theorem zG {F R:Nat} (z:Sz F R) {pc:Nat→Int} (M:fz (F*R) pc) {sd kd t:Nat} (hs:sd<2) (h1:2≤kd) (h2:kd≤5) (ht:t<F*R):cnt (F*R) (ny F R sd kd t (gC pc sd kd))≤bG kd:=by
 injection F R pc sd kd t with z M hs h1 h2 ht
 rw[←(o8 z M hs h1 h2 ht).len,z12];have hr:=vc (F:=F) (R:=R) (b:=f7 kd) (p:=fun u=>decide (pc u∉lA sd kd)) (t:=t) 8;obtain⟨f1,f2,r1,r2⟩:=z;have h:=List.all_eq_true.mp (List.all_eq_true.mp B5 _ (fT f1 f2 r1 r2)) t (List.mem_range.mpr ht);simp only[z01,z00]at h;have hk:kd=2∨kd=3∨kd=4∨kd=5:=⋯
 rcases hk with rfl|rfl|rfl|rfl
 · have e1:(d9 F R 2 t).length≤8:=by
    unfold d9 bD;exact z20 (List.length_filterMap_le _ _) (by simp[cY])
   have e2:((List.range 8).map fun d=>if f7 2 d=true then(bB F R d t).length else 0).sum=0:=by simp[f7,List.range,List.range.loop]
   unfold bG;simp only[if_true];omega
 · have e1:(d9 F R 3 t).length=0:=rfl;have e2:((List.range 8).map fun d=>if f7 3 d=true then(bB F R d t).length else 0)=((List.range 8).map fun d=>if d<4 then 0 else(bB F R d t).length):=by simp[f7,List.range,List.range.loop]
   rw[e2]at hr;have:bG 3=13:=rfl;omega
 · have e1:(d9 F R 4 t).length=0:=rfl;have e2:((List.range 8).map fun d=>if f7 4 d=true then(bB F R d t).length else 0)=((List.range 8).map fun d=>if d<4 then(bB F R d t).length else 0):=by simp[f7,List.range,List.range.loop]
   rw[e2]at hr;have:bG 4=14:=rfl;omega
 · have e1:(d9 F R 5 t).length=0:=rfl;have e2:((List.range 8).map fun d=>if f7 5 d=true then(bB F R d t).length else 0)=((List.range 8).map fun d=>(bB F R d t).length):=by simp[f7,List.range,List.range.loop]
   rw[e2]at hr;have:bG 5=27:=rfl;omega
theorem qz {n:Nat} {p q:Nat→Bool} (h:∀u,u<n→p u=true→q u=true):cnt n p≤cnt n q:=by
 induction n with
 |zero=>simp[cnt]
 |succ n ih=>
  have i2:=ih fun u hu=>h u ⋯;rw[cX,cX]
  cases hp:p n
  · simp;omega
  · have:=h n ⋯ hp;simp[this];omega
theorem uZ {F R:Nat} (z:Sz F R) {pc:Nat→Int} (M:fz (F*R) pc) {kq:Nat→Nat} {sd:Nat} (hs:sd<2) {q:Nat×Nat} (h1:2≤q.1) (h2:q.1≤5) (ht:q.2<F*R):i_ F R pc kq sd q≤bG q.1:=by
 refine z20 (qz fun u hu h=>?_) (zG z M hs h1 h2 ht);rw[z01]at h;have:=h.1;unfold RC fh at this;rw[z01]at this;exact this.1
def m7 (low high:Int) (most n:Nat):Int:=low+((high-low)*((most:Int)*most-((most:Int)-(min n most:Nat))*((most:Int)-(min n most:Nat)))).fdiv ((most:Int)*most)
theorem Aq {kd n:Nat} (h1:2≤kd) (h2:kd≤5) (hn:n≤bG kd):m7 (d3 kd).1 (d3 kd).2.1 (bG kd) n=xR kd n:=by
 injection kd n with h1 h2 hn
 unfold m7 xR;have e:((d3 kd).2.2.2.2:Int)=bG kd:=by
  have hk:kd=2∨kd=3∨kd=4∨kd=5:=⋯
  rcases hk with rfl|rfl|rfl|rfl<;>rfl
 rw[e,Nat.min_eq_left hn];generalize (bG kd:Int)=m;have:m*m-(m-n)*(m-n)=(n:Int)*(2*m-n):=by
  rw[Int.sub_mul,Int.mul_sub,Int.mul_sub,Int.mul_sub];have:(n:Int)*(2*m)=m*n+m*n:=by rw[Int.mul_comm (n:Int),Int.mul_assoc,Int.two_mul]
  rw[this,Int.mul_comm (n:Int) m];omega
 rw[this]
theorem AD {kd n:Nat} (h1:2≤kd) (h2:kd≤5) (hn:n≤bG kd): -200≤xR kd n∧xR kd n≤200:=by
 have hk:kd=2∨kd=3∨kd=4∨kd=5:=⋯
 have all:∀kd,(kd=2∨kd=3∨kd=4∨kd=5)→∀n,n<28→n≤bG kd→-200≤xR kd n∧xR kd n≤200:=by
  intro kd hk;rcases hk with rfl|rfl|rfl|rfl<;>decide
 refine all kd hk n ?_ hn;have:bG kd≤27:=by unfold bG;split<;>(try split)<;>(try split)<;>omega
 omega
def dg (F R:Nat) (pc:Nat→Int) (sd ks m:Nat) (H:Hp):Prop:=∃so re bl ti b0 lo sl rs,H[m]? =some (.tup [.ref so,.ref re,.ref bl,.ref ti])∧fx F R pc sd ks so re bl ti b0 lo sl rs (aI pc sd (F*R)) H
theorem dg.le {F R:Nat} {pc:Nat→Int} {sd ks m:Nat} {H H':Hp} (h:dg F R pc sd ks m H) (l:Le H H'):dg F R pc sd ks m H':=let⟨a,b,c,d,e,f,g,i,j,k⟩:=h;⟨a,b,c,d,e,f,g,i,l.at_ _ _ j,k.le l⟩
section
variable {C:Cx} {k:Nat} {H:Hp} {ρ:List (Option V)} {e e1 e2:ME} {x:Str} {Q:V→Hp→Prop}
theorem kN (h:wE C k e ρ H fun v H₁=>aa C k x [v] H₁ Q):wE C k (.K x (.C e .N)) ρ H Q:=by exact h
theorem Er (h:wE C k e1 ρ H fun v H₁=>wE C k e2 ρ H₁ fun w aB=>aa C k x [v,w] aB Q):wE C k (.K x (.C e1 (.C e2 .N))) ρ H Q:=by exact h
variable {F R:Nat} {pc:Nat→Int} {sd ks so re bl ti b0 lo m:Nat} {sl rs:List Nat} {L:List (Nat×Nat)}
theorem fx.Cd {j kd:Nat} {a:Int} (LO:fx F R pc sd ks so re bl ti b0 lo sl rs L H) (hm:H[m]? =some (.tup [.ref so,.ref re,.ref bl,.ref ti])) (hk:kd<7) (hj:ρ[j]? =some (some (.ref m))) (he:Val C k e ρ H (.I a)) (ea:a=kd):Val C k (.sub (.sub (.V j) (.I 2)) e) ρ H (.ref (b0+kd)):=
 Val.at LO.bl (i:=kd) (c5 (by rw[z11,List.getElem?_range hk];rfl)) (by simp[refs]) (Val.yh hm (i:=2) rfl (by simp) (Val.nm hj) Val.int rfl) he ea
theorem fx.Gn {j u:Nat} {a:Int} (LO:fx F R pc sd ks so re bl ti b0 lo sl rs L H) (hm:H[m]? =some (.tup [.ref so,.ref re,.ref bl,.ref ti])) (hu:u<F*R) (hn:F*R≤1000) (hj:ρ[j]? =some (some (.ref m))) (he:Val C k e ρ H (.I a)) (ea:a=u):Val C k (.sub (.sub (.V j) (.I 3)) e) ρ H (.I (tm F R pc sd ks L u:Nat)):=
 Val.tab (u:=u) (f:=fun u=>((tm F R pc sd ks L u:Nat):Int)) LO.ti hu hn (Val.yh hm (i:=3) rfl (by simp) (Val.nm hj) Val.int rfl) he ea
theorem fx.mm {kq:Nat→Nat} (z:Sz F R) (M:fz (F*R) pc) (hs:sd<2) (f9:cnt (F*R) (sb pc sd)≤16) (LO:fx F R pc sd (kq sd) so re bl ti b0 lo sl rs (aI pc sd (F*R)) H) {kd:Nat} (h1:1≤kd) (h6:kd≤6):
 ∃l,H[b0+kd]? =some (.L (nl l))∧l.length≤800∧Mm (F*R) l (BY F R pc kq sd kd)∧∀u,u<F*R→l.count u=tk F R pc sd (kq sd) kd (aI pc sd (F*R)) u:=by
 obtain⟨l,a,b,c,d⟩:=LO.bs kd ⋯;rw[i9]at b;have hn:=z.n;have:cnt (F*R) (sb pc sd)*(F*R)≤16*48:=Nat.mul_le_mul f9 hn;refine⟨l,a,⋯,fun u=>?_,d⟩
 constructor
 · intro hu;have hun:=c u hu;refine⟨hun,?_⟩;rw[←D3 M hs h1,←d u hun,z00];exact List.count_pos_iff.mpr hu
 · rintro⟨hu,hb⟩;rw[←D3 M hs h1,←d u hu,z00]at hb;exact List.count_pos_iff.mp hb
end
def G7 (kd:Nat):List V:=[.I (d3 kd).1,.I (d3 kd).2.1,.I (bG kd:Nat)]
theorem Cp {H:Hp} (st:Le dJ H) {kd:Nat} (h1:2≤kd) (h2:kd≤5):H[27]? =some (.L (refs [21,22,23,24,25,26]))∧(refs [21,22,23,24,25,26])[kd]? =some (.ref (21+kd))∧H[21+kd]? =some (.L (G7 kd)):=by
 have hk:kd=2∨kd=3∨kd=4∨kd=5:=⋯
 refine⟨st.at_ _ _ rfl,?_,?_⟩
 · rcases hk with rfl|rfl|rfl|rfl<;>rfl
 · rcases hk with rfl|rfl|rfl|rfl<;>exact st.at_ _ _ rfl
section
variable {C:Cx} (P:Pg C) {k:Nat} {H:Hp} {F R:Nat} {pc:Nat→Int} {kq:Nat→Nat}
include P
def Ge (F R:Nat) (pc:Nat→Int) (kq:Nat→Nat) (sd:Nat):Nat×Nat→Int:=fun q=>xR q.1 (i_ F R pc kq sd q)
def Lm (F R:Nat) (pc:Nat→Int) (kq:Nat→Nat) (sd:Nat):Nat→Int:=fun i=>((((aI pc sd (F*R)).take i).filter fun q=>decide (2≤q.1∧q.1≤5)).map (Ge F R pc kq sd)).sum
theorem Pg.oB (z:Sz F R) (st:Le dJ H) (M:fz (F*R) pc) (no:jk F R pc) {bo sd mo mf:Nat} (hs:sd<2) (f9:∀i,cnt (F*R) (sb pc i)≤16) (hb:H[bo]? =some (tab (F*R) pc)) (own:dg F R pc sd (kq sd) mo H) (foe:dg F R pc (1-sd) (kq (1-sd)) mf H):
 aa C (k+2) (s "_law_moving") [.I F,.I R,.ref bo,.I sd,.ref mo,.ref mf] H (lE (.I (dn F R pc kq sd)) H):=by
 injection C k H F R pc kq bo sd mo mf with P z st M no hs f9 hb own foe
 have hn:=z.n;have lh:1-sd<2:=⋯
 refine P.p_ ?_;rintro-hT;unfold jX;obtain(⟨so,re,bl,ti,b0,lo,sl,rs,hmo,LO⟩):=own;obtain(⟨Mf,JE,JY,Mg,JX,Ln,Me,y9,hmf,LF⟩):=foe;obtain(⟨l1,DL,_,Lp,_⟩):=LF.mm z M lh (f9 _) (kd:=1) nofun nofun;refine au ?_;refine cz.tup hmo nofun nofun rfl (cz.tup hmf nofun nofun rfl (cz.list LF.bl nofun nofun rfl ?_));refine aa.mono (P.Aj z no hs hb LO.sh LO.shr.2 DL Lp) ?_;rintro-_ H1 ⟨ao,rfl,bg,hao⟩;have mA:Mm (F*R) ((List.range (F*R)).filter (vx F R pc sd (pF F R pc sd (kq sd)) (BY F R pc kq (1-sd) 1))) (yp F R pc kq sd):=(Rp.range _).2.congr fun u hu=>Ei z no hs hu;generalize ((List.range (F*R)).filter (vx F R pc sd (pF F R pc sd (kq sd)) (BY F R pc kq (1-sd) 1)))=al at*;have KA:=bg.at_ _ _ hmo;replace LO:=LO.le bg;clear LF hmf DL Lp;refine au ?_;refine pj ?_;refine cz.tup KA nofun nofun rfl ?_;refine⟨re,refs rs,(fun i ρ H'=>Le H1 H'∧∃v8 v9 v10 v11 Dq pe,ρ=[some (.I F),some (.I R),some (.ref bo),some (.I sd),some (.ref mo),some (.ref mf),some (.ref ao),some (.I ((Lm F R pc kq sd) i)),v8,v9,v10,v11,Dq,pe,none,none,none,none]),rfl,LO.re,⟨Le.fQ _,_,_,_,_,_,_,rfl⟩,fun i ρ H' hI=>hI.1.at_ _ _ LO.re,?_,?_⟩
 · rintro-i x ρ H2 hx ⟨bJ,v8,v9,v10,v11,Dq,pe,rfl⟩;have hi:i<rs.length:=by have:=(z06.mp hx).1;simpa [refs] using this
   obtain(⟨q,hq⟩):∃q,(aI pc sd (F*R))[i]? =some q:=⟨_,z05 (by have h2:rs.length=(aI pc sd (F*R)).length:=LO.rr.1;omega)⟩;obtain(⟨m,ri,li,hm,_,_,hmt,hri,rp⟩):=LO.rr.2 i q hq;have ex:x=.ref m:=by rw[c5 hm]at hx;cases hx;rfl
   subst ex;have Ss:(Lm F R pc kq sd) (i+1)=(Lm F R pc kq sd) i+(if decide (2≤q.1∧q.1≤5)=true then(Ge F R pc kq sd) q else 0):=by
    show((((aI pc sd (F*R)).take (i+1)).filter fun q=>decide (2≤q.1∧q.1≤5)).map (Ge F R pc kq sd)).sum=_;rw[List.take_add_one,hq,List.filter_append,List.map_append,List.sum_append]
    congr 1
    by_cases h:2≤q.1∧q.1≤5<;>simp[h]
   have hqm:=(gb M hs).mp (z08 hq);have KO:=bJ.at_ _ _ hri;have Km:=bJ.at_ _ _ hao;refine⟨m,_,rfl,bJ.at_ _ _ hmt,rfl,bA ?_⟩;dsimp only[List.set,sets];refine(aU.GU (Val.int (a:=2)) (Val.nm rfl) (Val.int (a:=5))).use ⟨?_,?_⟩
   · rintro-e;have hk:2≤q.1∧q.1≤5:=by have:=z03 e;omega
     rw[if_pos (decide_eq_true hk)]at Ss;obtain(⟨w1,w2,w3⟩):=Cp ((st.trans bg).trans bJ) hk.1 hk.2;refine Jc ?_;refine⟨_,P.xn,cz.list w1 ⋯ ⋯ (by rw[z02];exact w2) ⟨_,_,rfl,w3,rfl,?_⟩⟩;dsimp only[List.set,sets,G7];have hC:i_ F R pc kq sd q≤bG q.1:=uZ z M hs hk.1 hk.2 hqm.2.2.1;have rpf:=rp.filter (yp F R pc kq sd);have hlen:(li.filter (yp F R pc kq sd)).length=i_ F R pc kq sd q:=rpf.len;have hlin:=rp.le;refine au (Er (kN (BL nofun ((Val.nm rfl).use ⟨li,yp F R pc kq sd,Src.list KO,⋯,by have:=bg.len;have:=bJ.len;omega,?_,?_⟩))))
     · rintro-u hu H' fC;dsimp only[aW,List.map,List.set];exact aU.vy mA ((rp.2 u).mp hu).1 (fC.at_ _ _ Km) (Val.nm rfl) (Val.nm rfl)
     · refine P.len (af _ _) (by rw[aJ,hlen];have:=bG q.1;have:bG q.1≤27:=(by unfold bG;split<;>(try split)<;>(try split)<;>omega);omega) ?_;rw[aJ,hlen];refine(Val.nm rfl).use (P.min2 ?_);have RI:bG q.1≤27:=by unfold bG;split<;>(try split)<;>(try split)<;>omega
       have m0:0<bG q.1:=by unfold bG;split<;>(try split)<;>(try split)<;>omega
       have emin:min ((i_ F R pc kq sd q:Nat):Int) (bG q.1:Nat)=((min (i_ F R pc kq sd q) (bG q.1):Nat):Int):=⋯
       rw[emin];have hmin:min (i_ F R pc kq sd q) (bG q.1)≤bG q.1:=Nat.min_le_right _ _;have ht:(Ge F R pc kq sd) q=m7 (d3 q.1).1 (d3 q.1).2.1 (bG q.1) (i_ F R pc kq sd q):=(Aq hk.1 hk.2 hC).symm;unfold m7 at ht;have DK:((d3 q.1).2.1-(d3 q.1).1).natAbs<2^64:=by
        have:q.1=2∨q.1=3∨q.1=4∨q.1=5:=⋯
        rcases this with h|h|h|h<;>rw[h]<;>decide
       generalize hnn:min (i_ F R pc kq sd q) (bG q.1)=nn at*;have RJ:0<(bG q.1:Int)*(bG q.1:Int):=Int.mul_pos ⋯ ⋯;have Lp:(bG q.1:Int)*(bG q.1:Int)≤27*27:=Int.mul_le_mul ⋯ ⋯ ⋯ ⋯;refine aY rfl ((Val.add (Val.nm rfl) (Val.div ⋯ ⋯ (Val.mul (.inl DK) (Val.sub (Val.nm rfl) (Val.nm rfl)) (Val.sub (Val.mul (.inl ⋯) (Val.nm rfl) (Val.nm rfl)) (Val.mul (.inl ⋯) (Val.sub (Val.nm rfl) (Val.nm rfl)) (Val.sub (Val.nm rfl) (Val.nm rfl))))) (Val.mul (.inl ⋯) (Val.nm rfl) (Val.nm rfl)))).use ?_);rw[←ht];refine IW.add (az (nx (az ⟨bJ.aS _,some (.I (q.1:Nat)),some (.ref ri),some (.I (d3 q.1).1),some (.I (d3 q.1).2.1),some (.I (bG q.1:Nat)),some (.I (nn:Nat)),?_⟩)));rw[Ss]
       rfl
   · rintro-e;have hk:¬(2≤q.1∧q.1≤5):=by have:=z04 e;omega
     rw[if_neg (by simpa using hk),Int.add_zero]at Ss;refine az ⟨bJ,some (.I (q.1:Nat)),some (.ref ri),v10,v11,Dq,pe,?_⟩;rw[Ss]
 · rintro-ρ H2 ⟨bJ,v8,v9,v10,v11,Dq,pe,rfl⟩;refine aM ?_;refine⟨?_,bg.trans bJ⟩;have hl:(refs rs).length=(aI pc sd (F*R)).length:=by simp[refs];exact LO.rr.1
   rw[hl];show V.I ((((aI pc sd (F*R)).take (aI pc sd (F*R)).length).filter fun q=>decide (2≤q.1∧q.1≤5)).map (Ge F R pc kq sd)).sum=_;rw[List.take_length];unfold dn;rw[oV (Ge F R pc kq sd) (rA M hs)];rfl
end
theorem yZ {F R:Nat} (z:Sz F R) {pc:Nat→Int} {kq:Nat→Nat} (M:fz (F*R) pc) {sd:Nat} (hs:sd<2) (f9:cnt (F*R) (sb pc sd)≤16): -32768≤dn F R pc kq sd∧dn F R pc kq sd<32768:=by
 injection F R pc kq sd with z M hs f9
 have hb:∀l:List (Nat×Nat),(∀q∈l,q∈RS F R pc sd)→-(200*(l.length:Int))≤(l.map fun q=>xR q.1 (i_ F R pc kq sd q)).sum∧(l.map fun q=>xR q.1 (i_ F R pc kq sd q)).sum≤200*l.length:=by
  rintro-l
  induction l with
  |nil=>intro _;simp
  |cons q l ih=>
   rintro-h;have i2:=ih fun x hx=>h x (z14 _ hx);obtain(⟨k1,k2,k3,k4⟩):=mU (h q (List.mem_cons_self ..));have:=AD k1 k2 (uZ (kq:=kq) z M hs k1 k2 k3);simp only[List.map_cons,List.sum_cons,List.length_cons]
   push_cast
   omega
 have hl:(RS F R pc sd).length≤16:=by
  rw[←(rA (F:=F) (R:=R) M hs).length_eq];have h1:=z13 (fun q:Nat×Nat=>decide (2≤q.1∧q.1≤5)) (aI pc sd (F*R));rw[i9]at h1;omega
 have:=hb _ fun _ h=>h;unfold dn;omega
def JO (h:Nat→Nat) (first:Nat) (S:List Nat) (a:Nat):Prop:=(a=0∧∀t∈S,¬first≤h t)∨(a≠0∧(∃t∈S,first≤h t∧h t=a)∧∀t∈S,first≤h t→a≤h t)
theorem xT {h:Nat→Nat} {first:Nat}:∀(L S:List Nat) (a:Nat),(∀t∈L,1≤h t)→JO h first S a→JO h first (S++L) (L.foldl (vB h first) a)
 |[],S,a,_,hI=>by simpa using hI
 |t::L,S,a,hp,hI=>by
  have:=xT (first:=first) L (S++[t]) (vB h first a t) (fun u hu=>hp u (z14 _ hu)) ?_
  · rw[List.append_assoc]at this;exact this
  · have h1:=hp t (List.mem_cons_self ..);unfold vB;rcases hI with⟨rfl,hn⟩|⟨ha,⟨u,hu,PR⟩,hmin⟩
    · by_cases hf:first≤h t
      · rw[if_pos ⟨hf,.inl rfl⟩];refine .inr ⟨⋯,⟨t,by simp,hf,rfl⟩,fun x hx hfx=>?_⟩;rw[List.mem_append]at hx;rcases hx with hx|hx
        · exact absurd hfx (hn x hx)
        · simp at hx;subst hx;exact z21 _
      · rw[if_neg fun q=>hf q.1];refine .inl ⟨rfl,fun x hx=>?_⟩;rw[List.mem_append]at hx;rcases hx with hx|hx
        · exact hn x hx
        · simp at hx;subst hx;exact hf
    · by_cases hf:first≤h t∧(a=0∨h t<a)
      · rw[if_pos hf];refine .inr ⟨⋯,⟨t,by simp,hf.1,rfl⟩,fun x hx hfx=>?_⟩;rw[List.mem_append]at hx;rcases hx with hx|hx
        · have:=hmin x hx hfx;have:=hf.2;omega
        · simp at hx;subst hx;exact z21 _
      · rw[if_neg hf];refine .inr ⟨ha,⟨u,by simp[hu],PR⟩,fun x hx hfx=>?_⟩;rw[List.mem_append]at hx;rcases hx with hx|hx
        · exact hmin x hx hfx
        · simp at hx;subst hx
          apply Classical.byContradiction
          intro hc;exact hf ⟨hfx,.inr ⋯⟩
theorem CY {n:Nat} {p:Nat→Bool} {h:Nat→Nat} {first:Nat} (hp:∀t,t<n→p t=true→1≤h t):JO h first (dc n p) (nr n p h first):=by
 have:=xT (h:=h) (first:=first) (dc n p) [] 0 (fun t ht=>by unfold dc at ht;rw[List.mem_filter,List.mem_range]at ht;exact hp t ht.1 ht.2) (.inl ⟨rfl,by simp⟩);unfold nr
 simpa using this
def lf (a:Nat):Int:=if a=0 then 99 else a
def ky (F R f:Nat):List Nat:=(List.range R).map fun i=>f+F*i
theorem ip {F R f:Nat} (hf:f<F) {t:Nat}:t∈ky F R f↔t<F*R∧t % F=f:=by
 unfold ky;rw[List.mem_map]
 constructor
 · rintro⟨i,hi,rfl⟩;have hi:=List.mem_range.mp hi;have h1:F*(i+1)≤F*R:=Nat.mul_le_mul_left F hi;rw[Nat.mul_add]at h1;refine⟨⋯,?_⟩;rw[Nat.add_mul_mod_self_left,Nat.mod_eq_of_lt hf]
 · rintro⟨h1,h2⟩;refine⟨t/F,List.mem_range.mpr (z30 h1),?_⟩;have:=Nat.div_add_mod t F;omega
theorem oZ {F R f:Nat} (z:Sz F R) (hf:f<F):Builtin.Range.small (f:Int) ((F*R:Nat):Int) F=true∧c8 (f:Int) ((F*R:Nat):Int) F=nl (ky F R f):=by
 injection F R f with z hf
 obtain⟨f1,f2,r1,r2⟩:=z;have hn:F*R≤8*6:=Nat.mul_le_mul f2 r2;have e:Builtin.Range.rangeSize (f:Int) ((F*R:Nat):Int) F=(R:Int):=by
  unfold Builtin.Range.rangeSize;have h1:F*(R-1)+F=F*R:=by
   have:F*(R-1)+F*1=F*R:=by rw[←Nat.mul_add];congr 1;omega
   omega
  have h0:(F:Int)>0:=⋯
  rw[if_pos h0,if_pos ⋯];have h2:((F*R:Nat):Int)-f-1=(F:Int)*((R-1:Nat):Int)+(F-1-f):=by
   rw[←h1];push_cast;omega
  have h3:(((F*R:Nat):Int)-f-1)/(F:Int)=((R-1:Nat):Int):=by
   rw[h2,Int.add_comm,Int.add_mul_ediv_left _ _ ⋯,Int.ediv_eq_zero_of_lt ⋯ ⋯];omega
  rw[h3];omega
 refine⟨?_,?_⟩
 · unfold Builtin.Range.small;rw[e,eP ⋯ ⋯,eP ⋯ ⋯,eP ⋯ ⋯,eP ⋯ ⋯];simp only[show(F:Int)>0 by omega,if_true];rw[eP ⋯ ⋯];simp
 · unfold c8 nl ky;rw[e,List.map_map,z02];refine z26 ?_;rintro-i _;simp only[Function.comp]
   congr 1
theorem Src.step {C:Cx} {k:Nat} {H:Hp} {F R f m:Nat} (z:Sz F R) (hf:f<F) (h:H[m]? =some (.range (f:Int) ((F*R:Nat):Int) F)):Src C k H (.ref m) (ky F R f):=
 ⟨_,by rw[←(oZ z hf).2];exact bF.range h (oZ z hf).1,fun _=>trivial⟩
def gm (o f e:Nat):Int:=(if o≠0 then(60:Int)-14*(o:Int)+4*(e:Int)else(-12:Int)-5*(e:Int))-(if o≠0∧f=o+1 then max (0:Int) ((30:Int)-6*(f:Int))else if f≠0 then max (0:Int) ((70:Int)-12*(f:Int)-4*(e:Int))else(0:Int))
def lI (o f:Nat):Int:= -(if o≠0∧f=o+1 then max (0:Int) ((40:Int)-9*(f:Int))else(0:Int))
theorem A' (o f e:Nat):kr o f e=sc (gm o f e) (lI o f):=by
 injection o f e;unfold kr sc gm lI
 by_cases h1:o≠0
 · by_cases h2:f=o+1
   · simp only[h1,h2,ne_eq,not_false_eq_true,and_self,if_true];omega
   · by_cases h3:f≠0
     · simp only[h1,h2,h3,ne_eq,not_false_eq_true,and_false,if_true,if_false];omega
     · simp only[h1,h2,h3,ne_eq,not_false_eq_true,and_false,if_true,if_false];omega
 · by_cases h3:f≠0
   · simp only[h1,h3,ne_eq,false_and,if_true,if_false];omega
   · simp only[h1,h3,ne_eq,false_and,if_true,if_false];omega
section
variable (F R:Nat) (pc:Nat→Int) (sd ks:Nat)
def tc (f:Nat):Nat:=nr (F*R) (pC F pc sd f) (hg F R sd) (hg F R sd ks)
def ta (f:Nat):Nat:=nr (F*R) (pC F pc (1-sd) f) (hg F R sd) (hg F R sd ks)
def zM (f:Nat):Int:=gm (tc F R pc sd ks f) (ta F R pc sd ks f) (min f (F-1-f))
def DD (f:Nat):Int:=lI (tc F R pc sd ks f) (ta F R pc sd ks f)
def vO:Int:=((List.range 3).map fun i=>zM F R pc sd ks (ck F ks-1+i)).sum
def Cg:Int:=((List.range 3).map fun i=>DD F R pc sd ks (ck F ks-1+i)).sum
end
theorem xa (F R:Nat) (pc:Nat→Int) (sd ks:Nat):gg F R pc sd ks=sc (vO F R pc sd ks) (Cg F R pc sd ks):=by
 unfold gg vO Cg;rw[←xj]
 congr 1
 refine z26 fun i _=>?_;unfold Ba zM DD;rw[A'];rfl
theorem Ci:∀a,a<7→∀b,b<7→∀e,e<9→-1000≤gm a b e∧gm a b e≤1000:=by decide+kernel
theorem yr {F R:Nat} (z:Sz F R) (pc:Nat→Int) (sd ks:Nat): -32768≤vO F R pc sd ks∧vO F R pc sd ks<32768:=by
 have hr:∀p,nr (F*R) p (hg F R sd) (hg F R sd ks)≤6:=fun p=>xU fun t ht=>by have:=xE z (sd:=sd) ht;have:=z.r2;omega
 have hc:∀f,-1000≤zM F R pc sd ks f∧zM F R pc sd ks f≤1000:=fun f=>by
  unfold zM tc ta;have h1:=hr (pC F pc sd f);have h2:=hr (pC F pc (1-sd) f);have h3:min f (F-1-f)≤8:=z20 (Nat.min_le_right ..) (z20 (z20 (Nat.sub_le ..) (Nat.sub_le ..)) z.f2);generalize nr (F*R) (pC F pc sd f) (hg F R sd) (hg F R sd ks)=a at*;generalize nr (F*R) (pC F pc (1-sd) f) (hg F R sd) (hg F R sd ks)=b at*;generalize min f (F-1-f)=e at*;exact Ci a (Nat.lt_succ_of_le h1) b (Nat.lt_succ_of_le h2) e (Nat.lt_succ_of_le h3)
 unfold vO;simp only[List.range,List.range.loop,List.map_cons,List.map_nil,List.sum_cons,List.sum_nil];have a:=hc (ck F ks-1+0);have b:=hc (ck F ks-1+1);have c:=hc (ck F ks-1+2);omega
section
variable {C:Cx} {k:Nat} {H:Hp} {ρ:List (Option V)} {e l r o:ME} {Q:V→Hp→Prop}
theorem Es {e1 e2 e3:ME} {x:Str} (h:wE C k e1 ρ H fun u H₁=>wE C k e2 ρ H₁ fun v aB=>wE C k e3 ρ aB fun w bc=>aa C k x [u,v,w] bc Q):wE C k (.K x (.C e1 (.C e2 (.C e3 .N)))) ρ H Q:=by exact h
end
def lK (F R:Nat) (pc:Nat→Int) (sd ks f:Nat) (pw:Int):List Int:=((ky F R f).filter fun t=>decide (pc t=pw)&&decide ((hg F R sd ks:Int)≤hg F R sd t)).map fun t=>(hg F R sd t:Int)
theorem zX {F R:Nat} (z:Sz F R) {pc:Nat→Int} (no:jk F R pc) {sd si ks f:Nat} (hs:sd<2) (hsi:si<2) (hf:f<F):
 lf (nr (F*R) (pC F pc si f) (hg F R sd) (hg F R sd ks))∈lK F R pc sd ks f (8*si+1)++[99]∧∀x∈lK F R pc sd ks f (8*si+1)++[99],lf (nr (F*R) (pC F pc si f) (hg F R sd) (hg F R sd ks))≤x:=by
 injection F R pc sd si ks f with z no hs hsi hf
 have hp:∀t,t<F*R→pC F pc si f t=true→1≤hg F R sd t:=by
  rintro-t ht h;unfold pC cS at h;rw[z01,z00]at h;obtain(⟨a,b⟩):=no t ht ⋯;unfold hg;split<;>omega
 have sp:=CY (first:=hg F R sd ks) hp;have small:∀t,t<F*R→hg F R sd t<99:=fun t ht=>by have:=xE z (sd:=sd) ht;have:=z.r2;omega
 have memF:∀x:Int,x∈lK F R pc sd ks f (8*si+1)↔∃t∈dc (F*R) (pC F pc si f),hg F R sd ks≤hg F R sd t∧(hg F R sd t:Int)=x:=by
  rintro-x;unfold lK dc;rw[List.mem_map]
  constructor
  · rintro-⟨t,ht,rfl⟩;rw[List.mem_filter,ip hf,z01,z00,z00]at ht;refine⟨t,List.mem_filter.mpr ⟨List.mem_range.mpr ht.1.1,?_⟩,⋯,rfl⟩;unfold pC cS;rw[z01,z00,beq_iff_eq];exact⟨ht.2.1,ht.1.2⟩
  · rintro-⟨t,ht,h1,rfl⟩;rw[List.mem_filter,List.mem_range]at ht;unfold pC cS at ht;rw[z01,z00,beq_iff_eq]at ht;refine⟨t,List.mem_filter.mpr ⟨(ip hf).mpr ⟨ht.1,ht.2.2⟩,?_⟩,rfl⟩;rw[z01,z00,z00];exact⟨ht.2.1,⋯⟩
 have tl:∀t∈dc (F*R) (pC F pc si f),t<F*R:=fun t ht=>by unfold dc at ht;rw[List.mem_filter,List.mem_range]at ht;exact ht.1
 generalize nr (F*R) (pC F pc si f) (hg F R sd) (hg F R sd ks)=a at*;unfold lf;rcases sp with⟨rfl,hn⟩|⟨ha,⟨t,ht,h1,h2⟩,hmin⟩
 · rw[if_pos rfl];refine⟨by simp,?_⟩;rintro-x hx;rw[List.mem_append]at hx;rcases hx with hx|hx
   · obtain(⟨t,ht,h1,_⟩):=(memF x).mp hx;exact absurd h1 (hn t ht)
   · simp at hx;omega
 · rw[if_neg ha];refine⟨List.mem_append_left _ ((memF _).mpr ⟨t,ht,h1,by rw[h2]⟩),?_⟩;rintro-x hx;rw[List.mem_append]at hx;rcases hx with hx|hx
   · obtain(⟨u,hu,h3,h4⟩):=(memF x).mp hx;have:=hmin u hu h3;omega
   · have:=small t (tl t ht);simp at hx;omega
section
variable {C:Cx} (P:Pg C) {k:Nat} {H:Hp} {F R:Nat} {pc:Nat→Int} {kq:Nat→Nat}
include P
def Ij (F R:Nat) (pc:Nat→Int) (sd ks f:Nat):List Int:=[lf (tc F R pc sd ks f),lf (ta F R pc sd ks f)]
theorem Pg.yR (z:Sz F R) (no:jk F R pc) {bo sd ks:Nat} (hs:sd<2) (hk:ks<F*R) (hb:H[bo]? =some (tab (F*R) pc)):
 aa C (k+1) (s "_law_cover") [.I F,.I R,.ref bo,.I sd,.I ks] H (Dy H (.tup [.I (vO F R pc sd ks),.I (Cg F R pc sd ks)])):=by
 injection C k H F R pc bo sd ks with P z no hs hk hb
 have hn:=z.n;have z':=z;obtain(⟨f1,f2,r1,r2⟩):=z';have Qd:1≤ck F ks∧ck F ks+1<F:=g7 f1;refine P.sk ?_;rintro-hT;unfold lW;refine au (J6 (kN ((Val.sY P hb ⋯ (Val.nm rfl)).use (P.gd ⟨List.range (F*R),fun _=>true,fun u=>(hg F R sd u:Int),Src.range (af _ _) ⋯,by simp;omega,by simp;omega,?_,?_,?_⟩))))
 · rintro-u hu H' fC;exact aU.Oa
 · rintro-u hu _ H' fC;dsimp only[aW,List.map,List.set];exact Kq z (List.mem_range.mp hu) (Val.nm rfl) (Val.nm rfl) (Val.nm rfl) (Val.nm rfl)
 have eh:O.L (il (((List.range (F*R)).filter fun _=>true).map fun u=>(hg F R sd u:Int)))=tab (F*R) (fun u=>(hg F R sd u:Int)):=by
  rw[List.filter_eq_self.mpr (fun _ _=>rfl)];rfl
 rw[eh];have bg:Le H (H++[O.range 0 ((F*R:Nat):Int) 1]++[tab (F*R) fun u=>(hg F R sd u:Int)]):=(Le.app _ _).aS _;have hht:=af (H++[O.range 0 ((F*R:Nat):Int) 1]) (tab (F*R) fun u=>(hg F R sd u:Int));generalize (H++[O.range 0 ((F*R:Nat):Int) 1]++[tab (F*R) fun u=>(hg F R sd u:Int)])=H1 at*;generalize (H++[O.range 0 ((F*R:Nat):Int) 1]).length=ho at*;refine au (((Val.min P (Val.max P (Val.u0 (t:=ks) (F:=F) ⋯ (Val.nm rfl) (Val.nm rfl)) (Val.int (a:=1))) (Val.sub (Val.nm rfl) (Val.int (a:=2)))).to (b:=(ck F ks:Nat)) (by unfold ck;exact g6 f1)).use ?_);refine au (Val.int.use (au (Val.int.use ?_)));refine zq ?_;refine BW.sub (BW.add ⟨by simp,?_⟩);have l1:=bg.len;refine⟨H1.length,_,(fun i ρ H'=>A3 (Le H1 H') (H'[H1.length]? =some (.tup [.I ((ck F ks:Nat)-1:Int),.I (ck F ks:Nat),.I ((ck F ks:Nat)+1:Int)])) (∃v9 v10 v11 Dq,ρ=[some (.I F),some (.I R),some (.ref bo),some (.I sd),some (.I ks),some (.ref ho),some (.I (ck F ks:Nat)),some (.I ((List.range i).map fun i=>zM F R pc sd ks (ck F ks-1+i)).sum),some (.I ((List.range i).map fun i=>DD F R pc sd ks (ck F ks-1+i)).sum),v9,v10,v11,Dq,none,none,none,none])),rfl,af _ _,⟨Le.app _ _,af _ _,_,_,_,_,rfl⟩,fun i ρ H' hI=>hI.2,?_,?_⟩
 · rintro-i x ρ H2 hx ⟨bJ,hot,v9,v10,v11,Dq,rfl⟩;have hi:i<3:=(z06.mp hx).1;obtain(⟨f,hf,ex,hfF⟩):∃f,f=ck F ks-1+i∧x=.I ((f:Nat):Int)∧f<F:=by
    refine⟨_,rfl,?_,⋯⟩;have:i=0∨i=1∨i=2:=⋯
    rcases this with rfl|rfl|rfl
    · have EP:(some (V.I ((ck F ks:Nat)-1:Int)))=some x:=hx
      cases EP;congr 1;omega
    · have EP:(some (V.I ((ck F ks:Nat):Int)))=some x:=hx
      cases EP;congr 1;omega
    · have EP:(some (V.I ((ck F ks:Nat)+1:Int)))=some x:=hx
      cases EP;congr 1;omega
   subst ex;have s1:((List.range (i+1)).map fun i=>zM F R pc sd ks (ck F ks-1+i)).sum=((List.range i).map fun i=>zM F R pc sd ks (ck F ks-1+i)).sum+zM F R pc sd ks f:=by
    rw[List.range_succ,List.map_append,List.sum_append];simp[hf]
   have s2:((List.range (i+1)).map fun i=>DD F R pc sd ks (ck F ks-1+i)).sum=((List.range i).map fun i=>DD F R pc sd ks (ck F ks-1+i)).sum+DD F R pc sd ks f:=by
    rw[List.range_succ,List.map_append,List.sum_append];simp[hf]
   rw[s1,s2];generalize ((List.range i).map fun i=>zM F R pc sd ks (ck F ks-1+i)).sum=A at*;generalize ((List.range i).map fun i=>DD F R pc sd ks (ck F ks-1+i)).sum=B at*;have z7:=(bg.trans bJ).at_ _ _ hb;have Kt:=bJ.at_ _ _ hht;have l2:=bJ.len;refine au ?_;refine⟨by simp,zq ?_⟩;refine BW.mul (.inr nofun) (BW.add (BW.mul (.inr nofun) (BW.sub ⟨by simp,?_⟩)));have RH:=aV hot;refine⟨(H2++[O.L []]).length,_,(fun j ρ H'=>A4 (Le H2 H') (H'[H2.length]? =some (.L (il ((Ij F R pc sd ks f).take j)))) (H'[(H2++[O.L []]).length]? =some (.tup [.I ((sd:Int)*8+1),.I (9-(sd:Int)*8)])) (∃v11,ρ=[some (.I F),some (.I R),some (.ref bo),some (.I sd),some (.I ks),some (.ref ho),some (.I (ck F ks:Nat)),some (.I A),some (.I B),some (.I (f:Nat)),some (.ref H2.length),v11,Dq,none,none,none,none])),rfl,af _ _,⟨(Le.app _ _).aS _,ai _ (af _ _),af _ _,_,rfl⟩,fun j ρ H' hI=>hI.3,?_,?_⟩
   · rintro-j x ρ H3 hx ⟨cj,hfl,hpt,Dp,rfl⟩;have hj:j<2:=(z06.mp hx).1;obtain(⟨si,hsi,ex,hfd⟩):∃si:Nat,si<2∧x=.I (8*(si:Int)+1)∧(Ij F R pc sd ks f)[j]? =some (lf (nr (F*R) (pC F pc si f) (hg F R sd) (hg F R sd ks))):=by
      have:j=0∨j=1:=⋯
      rcases this with rfl|rfl
      · cases hx;exact⟨sd,hs,by congr 1;omega,rfl⟩
      · cases hx;exact⟨1-sd,⋯,by congr 1;omega,rfl⟩
     subst ex;have z8:=cj.at_ _ _ z7;have Hs:=cj.at_ _ _ Kt;obtain(⟨O9,O_⟩):=zX (ks:=ks) z no hs hsi hfF;have l3:=cj.len;refine cC (Cm (Val.nm rfl) hfl (kN (jz (J6 (Es ((Val.nm rfl).use ((Val.sY P z8 ⋯ (Val.nm rfl)).use ((Val.nm rfl).use ?_))))))));refine P.tv ⋯ ⋯ ⟨ky F R f,fun t=>decide (pc t=8*(si:Int)+1)&&decide ((hg F R sd ks:Int)≤hg F R sd t),fun t=>(hg F R sd t:Int),Src.step z hfF (af _ _),by simp[ky];omega,by simp;omega,?_,?_,?_⟩
     · rintro-u hu H' fC;dsimp only[aW,List.map,List.set];have hun:=((ip hfF).mp hu).1;have om:=fC.at_ _ _ (ai (.range (f:Int) ((F*R:Nat):Int) F) z8);have Ju:=fC.at_ _ _ (ai (.range (f:Int) ((F*R:Nat):Int) F) Hs);exact(aU.and (bb.cons (aU.eq (Val.tab om hun ⋯ (Val.nm rfl) (Val.nm rfl) rfl) (Val.nm rfl)) fun _=>bb.cons (aU.ge (Val.tab (u:=u) (f:=fun u=>(hg F R sd u:Int)) Ju hun ⋯ (Val.nm rfl) (Val.nm rfl) rfl) (Val.tab (u:=ks) (f:=fun u=>(hg F R sd u:Int)) Ju hk ⋯ (Val.nm rfl) (Val.nm rfl) rfl)) fun _=>bb.nil)).to (by rw[Bool.and_true])
     · rintro-u hu _ H' fC;dsimp only[aW,List.map,List.set];have hun:=((ip hfF).mp hu).1;have Ju:=fC.at_ _ _ (ai (.range (f:Int) ((F*R:Nat):Int) F) Hs);exact Val.tab (u:=u) (f:=fun u=>(hg F R sd u:Int)) Ju hun ⋯ (Val.nm rfl) (Val.nm rfl) rfl
     · have zP:(lK F R pc sd ks f (8*(si:Int)+1)).length≤10:=by
        unfold lK;rw[List.length_map];exact z20 (z13 _ _) (by simp[ky];omega)
       change wE C k _ _ (H3++[O.range (f:Int) ((F*R:Nat):Int) F]++[O.L (il (lK F R pc sd ks f (8*(si:Int)+1)))]) _
       generalize lK F R pc sd ks f (8*(si:Int)+1)=fl at*;refine vQ Val.int (BW.E9 (ai _ (af _ _)) (af _ _) (by rw[aX];simp;omega) ?_);have eil:il fl++[V.I 99]=il (fl++[99]):=by simp[il]
       rw[eil];refine P.Fh (af _ _) O9 O_ ?_;refine cR.append ⋯ (ai _ (ai _ (ai _ (ai _ hfl)))) (by rw[aX];simp;omega) ⟨rfl,az ⟨?_,?_,?_,_,rfl⟩⟩
       · exact((((cj.aS _).aS _).aS _).aS _).set (z21 _) _
       · rw[get_set _ (ai _ (ai _ (ai _ (ai _ hfl)))),List.take_add_one,hfd];simp[il]
       · exact ae _ (by simp) (ai _ (ai _ (ai _ (ai _ hpt))))
   · rintro-ρ H3 ⟨cj,hfl,hpt,Dp,rfl⟩;replace hfl:H3[H2.length]? =some (.L [.I (lf (tc F R pc sd ks f)),.I (lf (ta F R pc sd ks f))]):=hfl;have sW:=bJ.trans cj;have EK:=cj.at_ _ _ hot;refine au (((Val.min P (Val.nm rfl) (Val.sub (Val.sub (Val.nm rfl) (Val.int (a:=1))) (Val.nm rfl))).to (b:=(min f (F-1-f):Nat)) (qG hfF)).use ?_);have nb:∀p,nr (F*R) p (hg F R sd) (hg F R sd ks)≤6:=fun p=>xU fun t ht=>by have:=xE z (sd:=sd) ht;omega
     have KH:tc F R pc sd ks f≤6:=nb _;have Rt:ta F R pc sd ks f≤6:=nb _;have Pu:zM F R pc sd ks f=gm (tc F R pc sd ks f) (ta F R pc sd ks f) (min f (F-1-f)):=rfl;have Pw:DD F R pc sd ks f=lI (tc F R pc sd ks f) (ta F R pc sd ks f):=rfl;rw[Pu,Pw];have he:min f (F-1-f)≤10:=Iy hfF f2 rfl;generalize tc F R pc sd ks f=a at*;generalize ta F R pc sd ks f=b at*;generalize min f (F-1-f)=e at*;have la:(lf a).natAbs<100:=by unfold lf;split<;>omega
     have lb:(lf b).natAbs<100:=by unfold lf;split<;>omega
     have l0:∀{ρ:List (Option V)},ρ[10]? =some (some (.ref H2.length))→Val C k (.sub (.V 10) (.I 0)) ρ H3 (.I (lf a)):=fun h=>Val.at hfl (i:=0) rfl (by simp) (Val.nm h) Val.int rfl;have l1:∀{ρ:List (Option V)},ρ[10]? =some (some (.ref H2.length))→Val C k (.sub (.V 10) (.I 1)) ρ H3 (.I (lf b)):=fun h=>Val.at hfl (i:=1) rfl (by simp) (Val.nm h) Val.int rfl;refine aY rfl ((Val.ES (aU.lt (l0 rfl) (Val.int (a:=99))) (fun _=>Val.add (Val.sub (Val.int (a:=60)) (Val.mul (.inl nofun) (Val.int (a:=14)) (l0 rfl))) (Val.mul (.inl nofun) (Val.int (a:=4)) (Val.nm rfl))) (fun _=>Val.sub (Val.neg (Val.int (a:=12))) (Val.mul (.inl nofun) (Val.int (a:=5)) (Val.nm rfl)))).use (IW.add ?_));dsimp only[List.set];have ea:decide (lf a<99)=decide (a≠0):=by unfold lf;rw[z07,z00,z00];split<;>omega
     have eb:decide (lf b<99)=decide (b≠0):=by unfold lf;rw[z07,z00,z00];split<;>omega
     have eab:(decide (lf a<99)&&(decide (lf b=lf a+1)&&true))=decide (a≠0∧b=a+1):=by
      unfold lf;rw[z07];simp only[Bool.and_true,z01,z00]
      split<;>split<;>omega
     rw[ea];refine Gq (((aU.and (bb.cons (aU.lt (l0 rfl) (Val.int (a:=99))) fun _=>bb.cons (aU.eq (l1 rfl) (Val.add (l0 rfl) (Val.int (a:=1)))) fun _=>bb.nil)).to eab).use ⟨?_,?_⟩)
     · rintro-e1;have h1:=z03 e1;have Ld:lf b=b:=by unfold lf;rw[if_neg ⋯]
       have Lc:lf a=a:=by unfold lf;rw[if_neg ⋯]
       rw[Ld]at l1;refine aY rfl ((Val.max P (Val.int (a:=0)) (Val.sub (Val.int (a:=30)) (Val.mul (.inl nofun) (Val.int (a:=6)) (l1 rfl)))).use (IW.sub ?_));refine aY rfl ((Val.max P (Val.int (a:=0)) (Val.sub (Val.int (a:=40)) (Val.mul (.inl nofun) (Val.int (a:=9)) (l1 rfl)))).use (IW.sub ?_));refine az (nx (az ⟨sW,EK,some (.I (f:Nat)),some (.ref H2.length),Dp,some (.I (e:Nat)),?_⟩));dsimp only[List.set];have q1:A+(if decide (a≠0)=true then(60:Int)-14*(a:Int)+4*(e:Int)else-12-5*(e:Int))-max 0 (30-6*(b:Int))=A+gm a b e:=by
        unfold gm;rw[if_pos h1,if_pos h1.1,if_pos (decide_eq_true h1.1)];omega
       have q2:B-max 0 (40-9*(b:Int))=B+lI a b:=by
        unfold lI;rw[if_pos h1];omega
       rw[Lc,q1,q2]
     · rintro-e1;have h1:=z04 e1;have q2:B=B+lI a b:=by unfold lI;rw[if_neg h1];omega
       have qA:(if decide (a≠0)=true then(60:Int)-14*lf a+4*(e:Int)else-12-5*(e:Int))=(if a≠0 then(60:Int)-14*(a:Int)+4*(e:Int)else-12-5*(e:Int)):=by
        by_cases h:a≠0
        · rw[if_pos h,if_pos (decide_eq_true h)];have Lc:lf a=a:=by unfold lf;rw[if_neg h]
          rw[Lc]
        · rw[if_neg h,if_neg (by simpa using h)]
       refine bA (((aU.lt (l1 rfl) (Val.int (a:=99))).to eb).use ⟨?_,?_⟩)
       · rintro-e2;have h2:=z03 e2;have Ld:lf b=b:=by unfold lf;rw[if_neg h2]
         rw[Ld]at l1;refine aY rfl ((Val.max P (Val.int (a:=0)) (Val.sub (Val.sub (Val.int (a:=70)) (Val.mul (.inl nofun) (Val.int (a:=12)) (l1 rfl))) (Val.mul (.inl nofun) (Val.int (a:=4)) (Val.nm rfl)))).use (IW.sub ?_));refine az (nx (nx (az ⟨sW,EK,some (.I (f:Nat)),some (.ref H2.length),Dp,some (.I (e:Nat)),?_⟩)));dsimp only[List.set];have q1:A+(if a≠0 then(60:Int)-14*(a:Int)+4*(e:Int)else-12-5*(e:Int))-max 0 (70-12*(b:Int)-4*(e:Int))=A+gm a b e:=by
          unfold gm;rw[if_neg h1,if_pos h2];omega
         rw[qA,q1,←q2]
       · rintro-e2;have h2:=z04 e2;refine az (nx (az ⟨sW,EK,some (.I (f:Nat)),some (.ref H2.length),Dp,some (.I (e:Nat)),?_⟩));have q1:A+(if a≠0 then(60:Int)-14*(a:Int)+4*(e:Int)else-12-5*(e:Int))=A+gm a b e:=by
          unfold gm;rw[if_neg h1,if_neg h2];omega
         rw[qA,q1,←q2]
         rfl
 · rintro-ρ H2 ⟨bJ,hot,v9,v10,v11,Dq,rfl⟩;refine aM ?_;exact⟨by simp,_,rfl,(bg.trans bJ).aS _,af _ _⟩
end
theorem G0 {C:Cx} {k:Nat} {H:Hp} {Q:V→Hp→Prop} {ρ:List (Option V)} (P:Pg C) {rn:List (Option Nat)} {j:Nat} {e elt:ME} (n:Nat) (hn:n≤1000) (h:wE C k e ρ H fun v H₀=>v=.I (n:Nat)∧C.T≤H₀.length∧∃g:Nat→O,
 (∀u,u<n→∀H',Le H₀ H'→wE C k elt ((aW rn ρ).set j (some (.I (u:Nat)))) H' (fun y aB=>∃o,y=.ref o∧Le H' aB∧H'.length≤o∧aB[o]? =some (g u)))∧
 ∀H' A rs,Le H₀ H'→H₀.length≤A→H'[A]? =some (.L (refs rs))→rs.length=n→(∀i,i<n→∃r,rs[i]? =some r∧A<r∧H'[r]? =some (g i))→Q (.ref A) H'):wE C k (.lc rn j (.K (s "range") (.C e .N)) .N elt) ρ H Q:=by
 injection C k H Q ρ rn j e elt n with P hn h
 refine bQ e h ?_;rintro-_ H₀ ⟨rfl,hT,g,he,q⟩;refine P.gd ?_;have NL:Le H₀ (H₀++[O.range 0 ((n:Nat):Int) 1]):=Le.app _ _;have DL:(H₀++[O.range 0 ((n:Nat):Int) 1]).length=H₀.length+1:=by simp
 have hrg:=af H₀ (O.range 0 ((n:Nat):Int) 1);generalize (H₀++[O.range 0 ((n:Nat):Int) 1])=H₁ at*;have e0:∀(x:List (Option V)) v v',(x.set j v).set j v'=x.set j v':=fun x v v'=>List.set_set _;refine⟨nl (List.range n),fun _=>True,sJ hrg hn,fun i aO H'=>i≤n∧(∀v,aO.set j (some v)=(aW rn ρ).set j (some v))∧Le H₁ H'∧∃rs,H'[H₁.length]? =some (.L (refs rs))∧rs.length=i∧∀i',i'<i→∃r,rs[i']? =some r∧H₁.length<r∧H'[r]? =some (g i'),⟨Nat.zero_le _,fun _=>rfl,Le.app _ _,[],af _ _,rfl,fun i' h=>absurd h ⋯⟩,?_,?_⟩
 · rintro-i v aO H' hv ⟨hin,hr,bg,rs,hls,hlen,hrs⟩;obtain(⟨u,hu,rfl⟩):=dp hv;have hi:i<n:=by have:=(z06.mp hu).1;simpa using this
   rw[List.getElem?_range hi]at hu;cases hu;refine⟨trivial,?_⟩;rw[hr];have hw:wT C k .N ((aW rn ρ).set j (some (.I (i:Nat)))) H' (fun b aB=>H'=aB∧b=true):=aU.Oa;refine ir .N hw ?_;rintro-b _ ⟨rfl,rfl⟩;refine⟨?_,fun h=>by cases h⟩;rintro-_;refine bQ elt (he i hi _ (NL.trans bg)) ?_;rintro-_ aB ⟨o,rfl,bJ,hol,ho⟩;have hlt:=aV hls;have Hv:=bJ.at_ _ _ hls;refine⟨_,Hv,by simp[refs];omega,⋯,fun v=>e0 _ _ _,(bg.trans bJ).set (z21 _) _,rs++[o],?_,by simp[hlen],?_⟩
   · rw[get_set _ Hv,ij]
   · rintro-i' yK
     by_cases hh:i'<i
     · obtain(⟨r,a,b,c⟩):=hrs i' hh;exact⟨r,by rw[z09 ⋯];exact a,b,ae _ ⋯ (bJ.at_ _ _ c)⟩
     · have:i'=i:=⋯
       subst this;refine⟨o,by rw[z10 ⋯,hlen];simp,⋯,ae _ ⋯ ho⟩
 · rintro-aO H' ⟨_,_,bg,rs,hls,hlen,hrs⟩;rw[aJ,List.length_range]at hlen hrs;refine⟨trivial,q H' H₁.length rs (NL.trans bg) ⋯ hls hlen hrs⟩
theorem yX {F R:Nat} (p:Nat→Bool) (ks u:Nat):((List.range 8).any fun d=>decide (d<4)&&decide (u∈cut p (bB F R d ks)))=da F R fS p ks u:=by
 unfold da;simp[List.range,List.range.loop]
theorem yW {F R:Nat} (p:Nat→Bool) (ks u:Nat):((List.range 8).any fun d=>(!decide (d<4))&&decide (u∈cut p (bB F R d ks)))=da F R fA p ks u:=by
 unfold da;simp[List.range,List.range.loop]
def Ce (kd:Nat):List V:=[.I 0,.I (FT kd).1,.I (FT kd).2]
theorem Eo {H:Hp} (st:Le dJ H) {kd:Nat} (h1:2≤kd) (h2:kd≤5):H[20]? =some (.L (refs [14,15,16,17,18,19]))∧(refs [14,15,16,17,18,19])[kd]? =some (.ref (14+kd))∧H[14+kd]? =some (.L (Ce kd)):=by
 have hk:kd=2∨kd=3∨kd=4∨kd=5:=⋯
 refine⟨st.at_ _ _ rfl,?_,?_⟩
 · rcases hk with rfl|rfl|rfl|rfl<;>rfl
 · rcases hk with rfl|rfl|rfl|rfl<;>exact st.at_ _ _ rfl
section
variable (F R:Nat) (pc:Nat→Int) (kq:Nat→Nat) (sd:Nat)
def El (kd u:Nat):Bool:=if kd=2 then decide (u∈bD F R (kq sd) cY)else if kd=3 then DC F R pc kq sd u else if kd=4 then C9 F R pc kq sd u else if kd=5 then DC F R pc kq sd u||C9 F R pc kq sd u else false
def BM (kd u:Nat):Bool:=El F R pc kq sd kd u&&BY F R pc kq (1-sd) kd u
def C7 (u:Nat):Bool:=BM F R pc kq sd 5 u&&(bR F R pc kq sd u&&(!BY F R pc kq sd 5 u&&!BM F R pc kq sd 4 u))
def DH (kd u:Nat):Bool:=if kd=5 then C7 F R pc kq sd u else if kd=3 then BM F R pc kq sd 3 u&&(bR F R pc kq sd u&&!C7 F R pc kq sd u)else BM F R pc kq sd kd u&&bR F R pc kq sd u
variable {F R:Nat} {pc:Nat→Int} {kq:Nat→Nat} {sd:Nat}
theorem wk {kd:Nat} (h1:2≤kd) (h2:kd≤4) (u:Nat):BM F R pc kq sd kd u=cm F R pc kq sd kd u:=by
 have hk:kd=2∨kd=3∨kd=4:=⋯
 rcases hk with rfl|rfl|rfl<;>rfl
theorem tu (u:Nat):C7 F R pc kq sd u=cm F R pc kq sd 5 u:=by
 injection F R pc kq sd u;unfold C7 BM cm El;simp only[show ¬(5=2) by decide,show ¬(5=3) by decide,show ¬(5=4) by decide,show ¬(4=2) by decide,show ¬(4=3) by decide,if_true,if_false]
 cases C9 F R pc kq sd u<;>cases DC F R pc kq sd u<;>cases BY F R pc kq (1-sd) 5 u<;>cases bR F R pc kq sd u<;>cases BY F R pc kq sd 5 u<;>cases BY F R pc kq (1-sd) 4 u<;>rfl
theorem xC {kd:Nat} (h1:2≤kd) (h2:kd≤5) (u:Nat):DH F R pc kq sd kd u=jI F R pc kq sd kd u:=by
 injection F R pc kq sd kd u with h1 h2
 unfold DH jI
 by_cases h5:kd=5
 · subst h5;rw[if_pos rfl,tu];have:cm F R pc kq sd 5 u=true→bR F R pc kq sd u=true:=by
    rintro-h;rw[←tu]at h;unfold C7 at h;simp only[z01]at h;exact h.2.1
   cases hg:cm F R pc kq sd 5 u with
   |false=>rfl
   |true=>rw[this hg];rfl
 · rw[if_neg h5]
   by_cases h3:kd=3
   · subst h3;rw[if_pos rfl,wk nofun nofun,tu]
     cases cm F R pc kq sd 3 u<;>cases bR F R pc kq sd u<;>simp
   · rw[if_neg h3,wk h1 ⋯];simp[h3]
theorem z4 (h:nV F R pc kq sd 5=0) {u:Nat} (hu:u<F*R):cm F R pc kq sd 5 u=false:=by
 cases hg:cm F R pc kq sd 5 u with
 |false=>rfl
 |true=>
  have:jI F R pc kq sd 5 u=true:=by rw[←xC nofun nofun];unfold DH;rw[if_pos rfl,tu];exact hg
  have:=xu (p:=jI F R pc kq sd 5) hu this;unfold nV at h;omega
end
theorem Bq {n:Nat} {pc:Nat→Int} (M:fz n pc) {sd u:Nat} (hu:u<n):decide (pc u∉[0,(sd:Int)*8+5])=dr pc sd u:=by
 unfold dr gB cS;rw[z07];simp;omega
def uq (F R:Nat) (pc:Nat→Int) (sd ks d kd:Nat):List Nat:=if kd=2 then bD F R ks cY else if kd=3 then dW F R (fun d=>!decide (d<4)) (fun u=>decide (pc u∉[0,(sd:Int)*8+5])) ks d else if kd=4 then dW F R (fun d=>decide (d<4)) (fun u=>decide (pc u∉[0,(sd:Int)*8+5])) ks d else[]
theorem z3 (F R:Nat) (pc:Nat→Int) (sd ks d kd:Nat):uq F R pc sd ks (d+1) kd=uq F R pc sd ks d kd++(if kd=(if d<4 then 4 else 3)then cut (fun u=>decide (pc u∉[0,(sd:Int)*8+5])) (bB F R d ks)else[]):=by
 injection F R pc sd ks d kd;unfold uq
 by_cases h2:kd=2
 · have:¬kd=(if d<4 then 4 else 3):=by split<;>omega
   rw[if_pos h2,if_pos h2,if_neg this,List.append_nil]
 · rw[if_neg h2,if_neg h2]
   by_cases h3:kd=3
   · rw[if_pos h3,if_pos h3,dF]
     by_cases hd:d<4<;>simp[hd,h3]
   · rw[if_neg h3,if_neg h3]
     by_cases h4:kd=4
     · rw[if_pos h4,if_pos h4,dF]
       by_cases hd:d<4<;>simp[hd,h4]
     · have:¬kd=(if d<4 then 4 else 3):=by split<;>omega
       rw[if_neg h4,if_neg h4,if_neg this,List.append_nil]
theorem vk {F R:Nat} {pc:Nat→Int} (M:fz (F*R) pc) (sd d t:Nat):cut (fun u=>decide (pc u∉[0,(sd:Int)*8+5])) (bB F R d t)=cut (dr pc sd) (bB F R d t):=hZ fun x hx=>Bq M (bT hx)
theorem nW {F R:Nat} (z:Sz F R) {pc:Nat→Int} (M:fz (F*R) pc) {kq:Nat→Nat} {sd kd:Nat} (hk:kq sd<F*R) (h5:kd≠5):Rp (F*R) (uq F R pc sd (kq sd) 8 kd) (El F R pc kq sd kd):=by
 injection F R pc kq sd kd with z M hk h5
 unfold uq El
 by_cases h2:kd=2
 · rw[if_pos h2];exact(ia (dE z hk).2.1).congr fun u hu=>by rw[if_pos h2]
 · rw[if_neg h2]
   by_cases h3:kd=3
   · rw[if_pos h3];refine(gf z hk 8 nofun).congr ?_;rintro-u hu;rw[if_neg h2,if_pos h3];simp only[vk M];exact yW _ _ _
   · rw[if_neg h3]
     by_cases h4:kd=4
     · rw[if_pos h4];refine(gf z hk 8 nofun).congr ?_;rintro-u hu;rw[if_neg h2,if_neg h3,if_pos h4];simp only[vk M];exact yX _ _ _
     · rw[if_neg h4];refine Rp.nil.congr ?_;rintro-u hu;rw[if_neg h2,if_neg h3,if_neg h4,if_neg h5]
theorem Cv {F R:Nat} (z:Sz F R) {pc:Nat→Int} (M:fz (F*R) pc) {kq:Nat→Nat} {sd:Nat} (hk:kq sd<F*R):Rp (F*R) (uq F R pc sd (kq sd) 8 3++uq F R pc sd (kq sd) 8 4) (El F R pc kq sd 5):=by
 have r3:=nW (kd:=3) z M hk nofun;have r4:=nW (kd:=4) z M hk nofun;refine⟨?_,r3.2.app r4.2⟩;rw[List.nodup_append];refine⟨r3.1,r4.1,fun x hx y hy e=>?_⟩;subst e;have h3:=((r3.2 x).mp hx).2;have h4:=((r4.2 x).mp hy).2;have Nd:DC F R pc kq sd x=true:=h3;have Nf:C9 F R pc kq sd x=true:=h4;unfold DC da at Nd;unfold C9 da at Nf;obtain⟨d,hd,e1⟩:=List.any_eq_true.mp Nd;obtain⟨d',sC,e2⟩:=List.any_eq_true.mp Nf;have a1:4≤d∧d<8:=by simp at hd;omega
 have a2:d'<4:=by simp at sC;omega
 have:=fP z a1.2 ⋯ hk (cO (z03 e1)) (cO (z03 e2));omega
section
variable {C:Cx} (P:Pg C) {k:Nat} {H:Hp} {F R:Nat} {pc:Nat→Int} {kq:Nat→Nat}
include P
def sN (H:Hp):List Nat:=(List.range 7).map (H.length+ ·)
theorem Pg.yq (z:Sz F R) (st:Le dJ H) (M:fz (F*R) pc) {bo sd:Nat} (hs:sd<2) (K:bW (F*R) pc sd (kq sd)) (hb:H[bo]? =some (tab (F*R) pc)) (hT:C.T≤H.length) {x4 x5 x6:Option V} {r:MS} {Q:Fl→List (Option V)→Hp→Prop}
 (h:∀H1 G v9 (B:Nat→List Nat) rs,Le H H1→H1[G]? =some (.L (refs rs))→H.length≤G→rs.length=7→(∀kd,kd<7→∃r,rs[kd]? =some r∧H1[r]? =some (.L (nl (B kd))))→(∀kd,kd<7→Rp (F*R) (B kd) (El F R pc kq sd kd))→
  wX C (k+1) r [some (.I F),some (.I R),some (.ref bo),some (.I sd),x4,x5,x6,some (.I (kq sd)),some (.ref G),v9,none,none,none,none,none,none,none,none,none,none,none,none,none,none,none,none] H1 Q):
 wX C (k+1) (.asg 7 (.index (.V 2) (.B .Add (.B .Mult (.V 3) (.I 8)) (.I 6))) (.asg 8 (.L (.C (.L .N) (.C (.L .N) (.C (.K (s "_law_hops") (.C (.V 0) (.C (.V 1) (.C (.V 7) (.C (.gl (s "_law_jumps")) .N))))) (.C (.L .N) (.C (.L .N) (.C (.L .N) (.C (.L .N) .N)))))))) (.bP 9 (.K (s "range") (.C (.I 8) .N)) (.cG (.V 8) (.bq (.aD .Lt (.V 9) (.I 4)) (.I 4) (.I 3)) .Add (.K (s "_law_ray") (.C (.V 0) (.C (.V 1) (.C (.V 2) (.C (.V 7) (.C (.sub (.gl (s "_law_ways")) (.V 9)) (.C (.L (.C (.I 0) (.C (.B .Add (.B .Mult (.V 3) (.I 8)) (.I 5)) .N))) .N))))))) .N) (.cN (.V 8) (.I 5) (.B .Add (.sub (.V 8) (.I 3)) (.sub (.V 8) (.I 4))) r)))) [some (.I F),some (.I R),some (.ref bo),some (.I sd),x4,x5,x6,none,none,none,none,none,none,none,none,none,none,none,none,none,none,none,none,none,none,none] H Q:=by
 injection C k H F R pc kq bo sd x4 x5 x6 r Q with P z st M hs K hb hT h
 have hn:=z.n;have hk:=K.1;refine au (nG K ⋯ hb rfl rfl (au ?_));refine⟨by simp,by simp,_,P.ma,?_⟩;have JI:Le dJ (H++[O.L []]++[O.L []]):=(st.aS _).aS _;refine aa.mono (P.jL z (by simp[cY]) hk (uM JI)) ?_;rintro-_ _ ⟨rfl,rfl⟩;refine⟨by simp,by simp,by simp,by simp,by simp,?_⟩;simp only[List.append_assoc,List.cons_append,List.nil_append,z12,List.length_cons,List.length_nil];have leT:∀T:Hp,Le H (H++T):=fun T=>⟨fun n u e=>by rw[z09 (z06.mp e).1];exact e⟩;have gT:=fun T:Hp=>vM H T;have hl:∀T:Hp,(H++T).length=H.length+T.length:=fun T=>z12;generalize z6:([O.L [],O.L [],O.L (nl (bD F R (kq sd) cY)),O.L [],O.L [],O.L [],O.L [],O.L [V.ref H.length,V.ref (H.length+(0+1)),V.ref (H.length+(0+1+(0+1))),V.ref (H.length+(0+1+(0+1+(0+1)))),V.ref (H.length+(0+1+(0+1+(0+1+(0+1))))),V.ref (H.length+(0+1+(0+1+(0+1+(0+1+(0+1)))))),V.ref (H.length+(0+1+(0+1+(0+1+(0+1+(0+1+(0+1)))))))]]:Hp)=T1;have hG:(H++T1)[H.length+7]? =some (.L (refs ((List.range 7).map (H.length+ ·)))):=by rw[gT,←z6];rfl
 have hL:∀kd,kd<7→(H++T1)[H.length+kd]? =some (.L (nl (uq F R pc sd (kq sd) 0 kd))):=by
  rintro-kd hk;have:kd=0∨kd=1∨kd=2∨kd=3∨kd=4∨kd=5∨kd=6:=⋯
  rw[gT,←z6];rcases this with rfl|rfl|rfl|rfl|rfl|rfl|rfl<;>rfl
 have bg:=leT T1;have l1:(H++T1).length=H.length+8:=by rw[hl,←z6];rfl
 change wX C (k+1) _ [some (V.I F),some (V.I R),some (V.ref bo),some (V.I sd),x4,x5,x6,some (V.I (kq sd)),some (V.ref (H.length+7)),none,none,none,none,none,none,none,none,none,none,none,none,none,none,none,none,none] (H++T1) Q
 generalize (H++T1)=H1 at*;clear leT gT hl z6 JI;have rsat:∀kd,kd<7→(refs (sN H))[kd]? =some (.ref (H.length+kd)):=fun kd h=>c5 (by show((List.range 7).map (H.length+ ·))[kd]? =_;rw[z11,List.getElem?_range h];rfl);refine cq P 8 (fun d ρ H'=>A5 (Le H H') (H.length+8≤H'.length) (H'[H.length+7]? =some (.L (refs (sN H)))) ((∀kd,kd<7→H'[H.length+kd]? =some (.L (nl (uq F R pc sd (kq sd) d kd))))) (∃v9,ρ=[some (V.I F),some (V.I R),some (V.ref bo),some (V.I sd),x4,x5,x6,some (V.I (kq sd)),some (V.ref (H.length+7)),v9,none,none,none,none,none,none,none,none,none,none,none,none,none,none,none,none])) ?_ nofun ?_ ?_
 · exact⟨rfl,bg.aS _,by simp;omega,ai _ hG,fun kd h=>ai _ (hL kd h),_,rfl⟩
 · rintro-d ρ H2 hd ⟨bJ,hlen,F5,F6,v9,rfl⟩;have hsel:(if d<4 then 4 else 3)=4∨(if d<4 then 4 else 3)=3:=by split<;>simp
   have esel:((if decide ((d:Int)<4)=true then(4:Int)else 3))=(((if d<4 then 4 else 3:Nat)):Int):=by
    by_cases h:d<4
    · rw[if_pos h,if_pos (decide_eq_true ⋯)];rfl
    · rw[if_neg h,if_neg (by rw[z00];omega)];rfl
   have hsuc:=z3 F R pc sd (kq sd) d;generalize (if d<4 then 4 else 3:Nat)=sel at*;have Aa:sel<7:=⋯
   refine eX ((Val.nm rfl).use (((Val.ES (aU.lt (Val.nm rfl) (Val.int (a:=4))) (fun _=>Val.int (a:=4)) (fun _=>Val.int (a:=3))).to esel).use ?_));refine cz.list F5 ⋯ ⋯ (by rw[z02];exact rsat sel Aa) ?_;obtain(⟨w1,w2,w3⟩):=xp (st.trans bJ) hd;refine⟨_,P.gk,cz.list w1 ⋯ ⋯ (by rw[z02];exact w2) (BW.mul (.inr nofun) (BW.add ⟨by simp,?_⟩))⟩;have hth:(H2++[O.L [V.I 0,V.I ((sd:Int)*8+5)]])[H2.length]? =some (.L (il [0,(sd:Int)*8+5])):=af _ _;refine aa.mono (P.sU z (ai _ (bJ.at_ _ _ hb)) hd hk (ai _ w3) hth) ?_;rintro-_ _ ⟨rfl,rfl⟩;have rl:(cut (fun u=>decide (pc u∉[0,(sd:Int)*8+5])) (bB F R d (kq sd))).length≤F*R:=ie (h_ (fO z.f1 hd)) fun u hu=>bT (cO hu);have gll:(uq F R pc sd (kq sd) d sel).length≤100:=by
    unfold uq;have a1:=(gf z (b:=fun d=>!decide (d<4)) (p:=fun u=>decide (pc u∉[0,(sd:Int)*8+5])) hk d ⋯).le;have a2:=(gf z (b:=fun d=>decide (d<4)) (p:=fun u=>decide (pc u∉[0,(sd:Int)*8+5])) hk d ⋯).le;have a3:=(ia (R:=R) (F:=F) (dE z hk).2.1).le
    split
    · omega
    · split
      · omega
      · split
        · omega
        · simp
   have hLs:=ai (O.L (nl (cut (fun u=>decide (pc u∉[0,(sd:Int)*8+5])) (bB F R d (kq sd))))) (ai (O.L [V.I 0,V.I ((sd:Int)*8+5)]) (F6 sel Aa));refine IW.CP ⋯ hLs (af _ _) (by rw[aJ,aJ];omega) ?_;have hGs:=ae (m:=H.length+sel) (O.L (nl (uq F R pc sd (kq sd) d sel)++nl (cut (fun u=>decide (pc u∉[0,(sd:Int)*8+5])) (bB F R d (kq sd))))) ⋯ (ai (O.L (nl (cut (fun u=>decide (pc u∉[0,(sd:Int)*8+5])) (bB F R d (kq sd))))) (ai (O.L [V.I 0,V.I ((sd:Int)*8+5)]) F5));refine iV.list ⋯ hGs ⋯ (by simp[refs,sN];omega) ⋯ ?_;rw[z02,set_same (rsat sel Aa),set_same hGs];refine az ⟨((bJ.aS _).aS _).set ⋯ _,by simp;omega,hGs,?_,_,rfl⟩;rintro-kd i5;rw[hsuc kd]
   by_cases KP:kd=sel
   · subst KP;rw[get_set _ hLs,if_pos rfl];simp[nl]
   · rw[if_neg KP,List.append_nil];exact ae _ ⋯ (ai _ (ai _ (F6 kd i5)))
 · rintro-ρ H2 ⟨bJ,hlen,F5,F6,v9,rfl⟩;have r3:=nW (kd:=3) z M hk nofun;have r4:=nW (kd:=4) z M hk nofun;have a3:=r3.le;have a4:=r4.le;refine dI ?_;refine cz.list F5 nofun nofun (rsat 3 nofun) (cz.list F5 nofun nofun (rsat 4 nofun) (BW.E9 (F6 3 nofun) (F6 4 nofun) (by rw[aJ,aJ];omega) ?_));have Nl:=ai (O.L (nl (uq F R pc sd (kq sd) 8 3)++nl (uq F R pc sd (kq sd) 8 4))) F5;refine iV.list ⋯ Nl nofun (by simp[refs,sN]) nofun ?_;have e5:(refs (sN H)).set (5:Int).toNat (.ref H2.length)=refs ((sN H).set 5 H2.length):=by
    simp[refs,List.map_set]
   rw[e5];refine h _ (H.length+7) v9 (fun kd=>if kd=5 then uq F R pc sd (kq sd) 8 3++uq F R pc sd (kq sd) 8 4 else uq F R pc sd (kq sd) 8 kd) ((sN H).set 5 H2.length) ((bJ.aS _).set ⋯ _) (get_set _ Nl) ⋯ (by simp[sN]) (?_) (?_)
   · rintro-kd i5
     by_cases h5:kd=5
     · subst h5;refine⟨H2.length,by simp[sN],?_⟩;rw[if_pos rfl];refine ae _ ⋯ ?_;rw[af];simp[nl]
     · refine⟨H.length+kd,?_,?_⟩
       · rw[List.getElem?_set_ne (Ne.symm h5)];show((List.range 7).map (H.length+ ·))[kd]? =_;rw[z11,List.getElem?_range i5];rfl
       · rw[if_neg h5];exact ae _ ⋯ (ai _ (F6 kd i5))
   · rintro-kd i5
     by_cases h5:kd=5
     · subst h5;rw[if_pos rfl];exact Cv z M hk
     · rw[if_neg h5];exact nW z M hk h5
end
section
variable {C:Cx} {k:Nat} {H:Hp} {ρ:List (Option V)} {e es:ME}
theorem Eu {Q:V→Hp→Prop} (h:wA C k es ρ H fun vs H₁=>vs.length≤1000∧Q (.ref H₁.length) (H₁++[.L vs])):wE C k (.L es) ρ H Q:=by exact h
end
section
variable {C:Cx} (P:Pg C) {k:Nat} {H:Hp} {F R:Nat} {pc:Nat→Int} {kq:Nat→Nat}
include P
def vA (F R:Nat) (pc:Nat→Int) (kq:Nat→Nat) (sd:Nat) (B:Nat→List Nat):Nat→List Nat:=fun kd=>(B kd).filter (BY F R pc kq (1-sd) kd)
theorem Pg.sQ (z:Sz F R) (st:Le dJ H) (M:fz (F*R) pc) {bo sd mo mf wo:Nat} {wl:List Nat} (hs:sd<2) (K:bW (F*R) pc sd (kq sd)) (f9:∀i,cnt (F*R) (sb pc i)≤16) (hb:H[bo]? =some (tab (F*R) pc)) (own:dg F R pc sd (kq sd) mo H) (foe:dg F R pc (1-sd) (kq (1-sd)) mf H)
 (hw:H[wo]? =some (.L (nl wl))) (mw:Mm (F*R) wl (kG F R pc kq sd)):
 aa C (k+2) (s "_law_checking") [.I F,.I R,.ref bo,.I sd,.ref mo,.ref mf,.ref wo] H (fun v H'=>∃m uo ul,v=.ref m∧Le H H'∧H'[m]? =some (.tup [.I (iX F R pc kq sd [2,3,4,5]),.ref uo])∧H'[uo]? =some (.L (nl ul))∧Mm (F*R) ul (iD F R pc kq sd [2,3,4,5])):=by
 injection C k H F R pc kq bo sd mo mf wo wl with P z st M hs K f9 hb own foe hw mw
 have hn:=z.n;have lh:1-sd<2:=⋯
 obtain(⟨so,re,bl,ti,b0,lo,sl,rs,hmo,LO⟩):=own;obtain(⟨Mf,JE,JY,Mg,JX,Ln,Me,y9,hmf,LF⟩):=foe;refine P.mI ?_;rintro-hT;unfold gS;refine P.yq z st M hs K hb hT ?_;rintro-H1 G v9 B rg bg hG hGl hrl hBs hBr;have z6:C.T≤H1.length:=by have:=bg.len;omega
 have JL:=LF.le bg;have Hz:=bg.at_ _ _ hmf;refine au (G0 P 6 nofun (Val.int.use ⟨rfl,z6,fun kd=>.L (nl ((vA F R pc kq sd B) kd)),?_,?_⟩))
 · rintro-kd i5 H' fC;dsimp only[aW,List.map,List.set];obtain(⟨r,hr,hrB⟩):=hBs kd ⋯;refine BL nofun ?_;refine(Val.at (i:=kd) (fC.at_ _ _ hG) (c5 hr) (by simp[refs];omega) (Val.nm rfl) (Val.nm rfl) rfl).use ⟨B kd,BY F R pc kq (1-sd) kd,Src.list (fC.at_ _ _ hrB),by have:=(hBr kd ⋯).le;omega,by have:=fC.len;omega,?_,_,rfl,Le.app _ _,z21 _,af _ _⟩;rintro-u hu eG sV;dsimp only[aW,List.map,List.set];have hub:=((hBr kd ⋯).2 u).mp hu
   by_cases h0:kd=0
   · subst h0;exact absurd hub.2 (by unfold El;simp)
   · obtain(⟨l,hl,_,mm,_⟩):=JL.mm z M lh (f9 _) (kd:=kd) ⋯ ⋯;have l2:=fC.trans sV;exact aU.vy mm hub.1 (l2.at_ _ _ hl) (Val.nm rfl) ((JL.le l2).Cd (l2.at_ _ _ Hz) ⋯ rfl (Val.nm rfl) rfl)
 rintro-H2 A r2 bJ hAl hA Rz hD;have Cz:∀kd,kd<6→Rp (F*R) ((vA F R pc kq sd B) kd) (BM F R pc kq sd kd):=fun kd h=>(hBr kd ⋯).filter _;have gc:=bg.trans bJ;have JM:=LO.le gc;have Ot:=LF.le gc;have HB:=gc.at_ _ _ hmo;have Kz:=gc.at_ _ _ hmf;have z7:=gc.at_ _ _ hb;have PS:=gc.at_ _ _ hw;have F7:C.T≤H2.length:=by have:=gc.len;omega
 have JI:=st.trans gc;clear hBs hBr hG JL Hz LO LF hmo hmf hb hw;have Dv:∀{kd:Nat} {j:Nat} {ρ:List (Option V)} {H':Hp} {e:ME} {a:Int},kd<6→Le H2 H'→ρ[j]? =some (some (.ref A))→Val C (k+1) e ρ H' (.I a)→a=kd→∃r,Val C (k+1) (.sub (.V j) e) ρ H' (.ref r)∧H'[r]? =some (.L (nl ((vA F R pc kq sd B) kd))):=fun {kd j ρ H' e a} i5 fC hj he ea=>by
  obtain(⟨r,hr,_,hrD⟩):=hD kd i5;exact⟨r,Val.at (i:=kd) (fC.at_ _ _ hA) (c5 hr) (by simp[refs];omega) (Val.nm hj) he ea,fC.at_ _ _ hrD⟩
 refine au (kO ?_);refine cq P (F*R) (fun i ρ H'=>A3 (Le H2 H') (H'[H2.length]? =some (.L (nl ((List.range i).filter (bR F R pc kq sd))))) (∃v11 pe,ρ=[some (.I F),some (.I R),some (.ref bo),some (.I sd),some (.ref mo),some (.ref mf),some (.ref wo),some (.I (kq sd)),some (.ref A),v9,none,v11,some (.ref H2.length),pe,none,none,none,none,none,none,none,none,none,none,none,none])) ?_ ⋯ ?_ ?_
 · exact(Val.sY P (ai _ z7) ⋯ (Val.nm rfl)).use ⟨rfl,(Le.app _ _).aS _,ai _ (af _ _),_,_,rfl⟩
 · rintro-t ρ H3 ht ⟨cj,hl,v11,pe,rfl⟩;have z8:=cj.at_ _ _ z7;have gH:(List.range (t+1)).filter (bR F R pc kq sd)=(List.range t).filter (bR F R pc kq sd)++(if bR F R pc kq sd t then[t]else[]):=by
    rw[List.range_succ,List.filter_append]
    cases h:bR F R pc kq sd t<;>simp[h]
   have hlen:((List.range t).filter (bR F R pc kq sd)).length≤100:=by have:=z13 (bR F R pc kq sd) (List.range t);simp at this;omega
   have rest:∀pe:V,(∀ρ:List (Option V),ρ[13]? =some (some pe)→aU C (k+1) (.bf (.V 13)) ρ H3 (sb pc (1-sd) t))→∀K:Kx,(∀ρ H',(Le H2 H'∧H'[H2.length]? =some (.L (nl ((List.range (t+1)).filter (bR F R pc kq sd))))∧∃v11 pe,ρ=[some (.I F),some (.I R),some (.ref bo),some (.I sd),some (.ref mo),some (.ref mf),some (.ref wo),some (.I (kq sd)),some (.ref A),v9,none,v11,some (.ref H2.length),pe,none,none,none,none,none,none,none,none,none,none,none,none])→K .next ρ H')→wX C (k+1) (.bq (.cx (.C (.iC (.bf (.V 13))) (.C (.vD (.C (.aD .Eq (.sub (.sub (.V 4) (.I 3)) (.V 11)) (.I 0)) (.C (.cx (.C (.aD .In (.V 11) (.V 6)) (.C (.aD .Gt (.sub (.sub (.V 5) (.I 3)) (.V 11)) (.I 1)) .N))) .N))) .N))) (.expr (.app (.V 12) (.V 11)) .N) .N .N) [some (.I F),some (.I R),some (.ref bo),some (.I sd),some (.ref mo),some (.ref mf),some (.ref wo),some (.I (kq sd)),some (.ref A),v9,none,some (.I (t:Nat)),some (.ref H2.length),some pe,none,none,none,none,none,none,none,none,none,none,none,none] H3 K:=by
    rintro-pe Pa K hK;have c0:decide (((tm F R pc sd (kq sd) (aI pc sd (F*R)) t:Nat):Int)=0)=!BY F R pc kq sd 0 t:=by
     rw[←pd M hs];rw[z07];simp
    have c1:decide ((1:Int)<((tm F R pc (1-sd) (kq (1-sd)) (aI pc (1-sd) (F*R)) t:Nat):Int))=vJ F R pc kq (1-sd) t:=by
     rw[←xl M lh];rw[z07];simp only[z00];omega
    have c:=aU.and (bb.cons (aU.not (Pa [some (.I F),some (.I R),some (.ref bo),some (.I sd),some (.ref mo),some (.ref mf),some (.ref wo),some (.I (kq sd)),some (.ref A),v9,none,some (.I (t:Nat)),some (.ref H2.length),some pe,none,none,none,none,none,none,none,none,none,none,none,none] rfl)) fun _=>bb.cons (aU.or (eI.cons ((aU.eq ((JM.le cj).Gn (j:=4) (cj.at_ _ _ HB) ht ⋯ rfl (Val.nm (j:=11) rfl) rfl) (Val.int (a:=0))).to c0) fun _=>eI.cons (aU.and (bb.cons (aU.vy mw ht (cj.at_ _ _ PS) (Val.nm (j:=11) rfl) (Val.nm (j:=6) rfl)) fun _=>bb.cons ((aU.gt ((Ot.le cj).Gn (j:=5) (cj.at_ _ _ Kz) ht ⋯ rfl (Val.nm (j:=11) rfl) rfl) (Val.int (a:=1))).to c1) fun _=>bb.nil)) fun _=>eI.nil)) fun _=>bb.nil);have c':=c.to (d:=bR F R pc kq sd t) (by unfold bR;simp);refine bA (c'.use ⟨?_,?_⟩)
    · rintro-e;rw[e]at gH;refine cC (Cm (Val.nm rfl) hl ((Val.nm rfl).use (cR.append F7 hl (by rw[aJ];omega) ⟨rfl,az (nx (az (hK _ _ ⟨cj.set (z21 _) _,?_,_,_,rfl⟩)))⟩)));rw[get_set _ hl,gH];simp[nl]
    · rintro-e;rw[e]at gH;refine az (hK _ _ ⟨cj,?_,_,_,rfl⟩);rw[gH];simpa using hl
   refine au ?_;refine aG z8 ht ⋯ rfl (bk.int ⟨?_,?_⟩)
   · rintro-e;refine aG z8 ht ⋯ rfl (BW.div nofun nofun (CW.ne ?_));refine rest _ (?_) _ (fun _ _ ⟨a,b,c⟩=>⟨a,b,c⟩);rintro-ρ h;refine(aU.I' (Val.nm h)).to ?_;have hm:=M t ht;unfold sb;rw[z16 _ nofun,z07];have hne:=z03 e;obtain(⟨BU,kd,KP,h1,h6,e⟩):=vb hm hne;rw[ja e (z29 h6)];clear e h1 h6 hm;simp only[z01,z00];exact⟨fun q=>⟨hne,⋯⟩,fun⟨_,q⟩=>⋯⟩
   · rintro-e;refine rest _ (?_) _ (fun _ _ ⟨a,b,c⟩=>⟨a,b,c⟩);rintro-ρ h;refine(aU.val (Val.nm h)).to ?_;rw[e];have hne:=z04 e;unfold sb;have:decide (pc t≠0)=false:=e;rw[this];rfl
 · rintro-ρ H3 ⟨cj,hS,v11,pe,rfl⟩;have mS:Mm (F*R) ((List.range (F*R)).filter (bR F R pc kq sd)) (bR F R pc kq sd):=(Rp.range _).2;generalize ((List.range (F*R)).filter (bR F R pc kq sd))=sfl at*;obtain(⟨l5,PC,_,Qe,_⟩):=JM.mm z M hs (f9 _) (kd:=5) nofun nofun;have Pn:C.T≤H3.length:=by have:=cj.len;omega
   have dle:∀kd,kd<6→((vA F R pc kq sd B) kd).length≤48:=fun kd h=>by have:=(Cz kd h).le;omega
   obtain(⟨r5,v5,h5⟩):=Dv (kd:=5) (j:=8) (e:=.I 5) (a:=5) (ρ:=[some (.I F),some (.I R),some (.ref bo),some (.I sd),some (.ref mo),some (.ref mf),some (.ref wo),some (.I (kq sd)),some (.ref A),v9,none,v11,some (.ref H2.length),pe,none,none,none,none,none,none,none,none,none,none,none,none]) nofun cj rfl Val.int rfl;refine au (BL nofun (v5.use ⟨(vA F R pc kq sd B) 5,fun u=>bR F R pc kq sd u&&(!BY F R pc kq sd 5 u&&!BM F R pc kq sd 4 u),Src.list h5,by have:=dle 5 nofun;omega,Pn,?_,?_⟩))
   · rintro-u hu H' fC;dsimp only[aW,List.map,List.set];have hun:=((Cz 5 nofun).2 u).mp hu;have E7:=cj.trans fC;obtain(⟨r4,v4,h4⟩):=Dv (kd:=4) (j:=2) (e:=.I 4) (a:=4) (ρ:=[none,some (.I (u:Nat)),some (.ref A),some (.ref mo),some (.ref H2.length)]) nofun E7 rfl Val.int rfl;exact(aU.and (bb.cons (aU.vy mS hun.1 (fC.at_ _ _ hS) (Val.nm rfl) (Val.nm rfl)) fun _=>bb.cons (aU.AK Qe hun.1 (E7.at_ _ _ PC) (Val.nm rfl) ((JM.le E7).Cd (E7.at_ _ _ HB) nofun rfl (Val.int (a:=5)) rfl)) fun _=>bb.cons (aU.AK (Cz 4 nofun).2 hun.1 h4 (Val.nm rfl) v4) fun _=>bb.nil)).to (by rw[Bool.and_true])
   have rq:Rp (F*R) (((vA F R pc kq sd B) 5).filter fun u=>bR F R pc kq sd u&&(!BY F R pc kq sd 5 u&&!BM F R pc kq sd 4 u)) (C7 F R pc kq sd):=(Cz 5 nofun).filter _;generalize (((vA F R pc kq sd B) 5).filter fun u=>bR F R pc kq sd u&&(!BY F R pc kq sd 5 u&&!BM F R pc kq sd 4 u))=ql at*;have de:Le H3 (H3++[O.L (nl ql)]):=Le.app _ _;have KL:=af H3 (O.L (nl ql));generalize (H3++[O.L (nl ql)])=H4 at*;have hql:H3.length<H4.length:=aV KL;generalize H3.length=qo at*;refine au (Eu (cF (kO (cF (kO (cF ?_))))));have eJ:Le H4 (H4++[O.L []]++[O.L []]):=(Le.app _ _).aS _;have Rn:=ai (O.L []) (af H4 (O.L []));have Pc:=af (H4++[O.L []]) (O.L []);have Lj:(H4++[O.L []]++[O.L []]).length=H4.length+2:=by simp
   have DQ:(H4++[O.L []]).length=H4.length+1:=by simp
   rw[DQ]at Pc;rw[DQ];generalize (H4++[O.L []]++[O.L []])=H5 at*;have wN:=de.trans eJ;have It:=cj.trans wN;have Nq:C.T≤H5.length:=⋯
   have step:∀{kd:Nat} {H':Hp} {BV:Option V} (rn:List (Option Nat)) (cond:ME) (c:Nat→Bool) {Q:V→Hp→Prop},kd<6→Le H5 H'→1<rn.length→(∀u,u<F*R→∀eG,Le H' eG→aU C (k+1) cond ((aW rn [some (.I F),some (.I R),some (.ref bo),some (.I sd),some (.ref mo),some (.ref mf),some (.ref wo),some (.I (kq sd)),some (.ref A),v9,none,v11,some (.ref H2.length),pe,BV,none,none,none,none,none,none,none,none,none,none,none]).set 1 (some (.I (u:Nat)))) eG (c u))→
    Q (.ref H'.length) (H'++[.L (nl (((vA F R pc kq sd B) kd).filter c))])→wE C (k+1) (.lc rn 1 (.sub (.V 8) (.I (kd:Nat))) cond (.V 1)) [some (.I F),some (.I R),some (.ref bo),some (.I sd),some (.ref mo),some (.ref mf),some (.ref wo),some (.I (kq sd)),some (.ref A),v9,none,v11,some (.ref H2.length),pe,BV,none,none,none,none,none,none,none,none,none,none,none] H' Q:=fun {kd H' BV} rn cond c Q i5 fC hrn hc q=>by
    obtain(⟨r,v,h⟩):=Dv (kd:=kd) (j:=8) (e:=.I (kd:Nat)) (a:=(kd:Nat)) (ρ:=[some (.I F),some (.I R),some (.ref bo),some (.I sd),some (.ref mo),some (.ref mf),some (.ref wo),some (.I (kq sd)),some (.ref A),v9,none,v11,some (.ref H2.length),pe,BV,none,none,none,none,none,none,none,none,none,none,none]) i5 (It.trans fC) rfl Val.int rfl;refine BL hrn (v.use ⟨(vA F R pc kq sd B) kd,c,Src.list h,by have:=dle kd i5;omega,by have:=fC.len;omega,fun u hu eG sV=>hc u (((Cz kd i5).2 u).mp hu).1 eG sV,q⟩)
   refine step (kd:=2) [none,none,some 12] _ (bR F R pc kq sd) nofun (Le.fQ _) nofun (?_) ?_
   · rintro-u hu eG sV;dsimp only[aW,List.map,List.set];exact aU.vy mS hu ((wN.trans sV).at_ _ _ hS) (Val.nm rfl) (Val.nm rfl)
   refine cF (step (kd:=3) [none,none,some 14,some 12] _ (fun u=>bR F R pc kq sd u&&!C7 F R pc kq sd u) nofun (Le.app _ _) nofun (?_) ?_)
   · rintro-u hu eG sV;dsimp only[aW,List.map,List.set];have l6:Le H5 eG:=(Le.app _ _).trans sV;exact(aU.and (bb.cons (aU.vy mS hu ((wN.trans l6).at_ _ _ hS) (Val.nm rfl) (Val.nm rfl)) fun _=>bb.cons (aU.AK rq.2 hu ((eJ.trans l6).at_ _ _ KL) (Val.nm rfl) (Val.nm rfl)) fun _=>bb.nil)).to (by rw[Bool.and_true])
   refine cF (step (kd:=4) [none,none,some 12] _ (bR F R pc kq sd) nofun ((Le.app _ _).aS _) nofun (?_) ?_)
   · rintro-u hu eG sV;dsimp only[aW,List.map,List.set];have l6:Le H5 eG:=((Le.app _ _).aS _).trans sV;exact aU.vy mS hu ((wN.trans l6).at_ _ _ hS) (Val.nm rfl) (Val.nm rfl)
   refine cF ((Val.nm rfl).use (vL ⟨by simp,?_⟩));have N0:Rp (F*R) (((vA F R pc kq sd B) 2).filter (bR F R pc kq sd)) (DH F R pc kq sd 2):=(Cz 2 nofun).filter _;have N1:Rp (F*R) (((vA F R pc kq sd B) 3).filter fun u=>bR F R pc kq sd u&&!C7 F R pc kq sd u) (DH F R pc kq sd 3):=(Cz 3 nofun).filter _;have N2:Rp (F*R) (((vA F R pc kq sd B) 4).filter (bR F R pc kq sd)) (DH F R pc kq sd 4):=(Cz 4 nofun).filter _;generalize ((vA F R pc kq sd B) 2).filter (bR F R pc kq sd)=g2 at*;generalize (((vA F R pc kq sd B) 3).filter fun u=>bR F R pc kq sd u&&!C7 F R pc kq sd u)=g3 at*;generalize ((vA F R pc kq sd B) 4).filter (bR F R pc kq sd)=g4 at*;have jO:Le H5 (H5++[O.L (nl g2)]++[O.L (nl g3)]++[O.L (nl g4)]):=((Le.app _ _).aS _).aS _;have Ng:=ai (O.L (nl g4)) (ai (O.L (nl g3)) (af H5 (O.L (nl g2))));have Nh:=ai (O.L (nl g4)) (af (H5++[O.L (nl g2)]) (O.L (nl g3)));have Kj:=af (H5++[O.L (nl g2)]++[O.L (nl g3)]) (O.L (nl g4));generalize (H5++[O.L (nl g2)]++[O.L (nl g3)]).length=a4 at*;generalize (H5++[O.L (nl g2)]).length=a3 at*;generalize (H5++[O.L (nl g2)]++[O.L (nl g3)]++[O.L (nl g4)])=H6 at*;have hgood:∀kd,2≤kd→kd≤5→∃r l,[V.ref H4.length,V.ref (H4.length+1),V.ref H5.length,V.ref a3,V.ref a4,V.ref qo][kd]? =some (.ref r)∧H6[r]? =some (.L (nl l))∧Rp (F*R) l (DH F R pc kq sd kd):=by
    rintro-kd h1 h2;have:kd=2∨kd=3∨kd=4∨kd=5:=⋯
    rcases this with rfl|rfl|rfl|rfl
    · exact⟨_,_,rfl,Ng,N0⟩
    · exact⟨_,_,rfl,Nh,N1⟩
    · exact⟨_,_,rfl,Kj,N2⟩
    · exact⟨_,_,rfl,(eJ.trans jO).at_ _ _ KL,rq⟩
   clear Ng Nh Kj N0 N1 N2 step;have hgl:=af H6 (O.L [V.ref H4.length,V.ref (H4.length+1),V.ref H5.length,V.ref a3,V.ref a4,V.ref qo]);have Fb:Le H6 (H6++[O.L [V.ref H4.length,V.ref (H4.length+1),V.ref H5.length,V.ref a3,V.ref a4,V.ref qo]]):=Le.app _ _;have hgz:[V.ref H4.length,V.ref (H4.length+1),V.ref H5.length,V.ref a3,V.ref a4,V.ref qo].length=6:=rfl
   change wX C (k+1) _ (List.set _ 15 (some (.ref H6.length))) _ _
   generalize [V.ref H4.length,V.ref (H4.length+1),V.ref H5.length,V.ref a3,V.ref a4,V.ref qo]=gl at*;generalize (H6++[O.L gl])=H7 at*;generalize H6.length=go at*;refine au (Val.int.use ?_);refine au (kO ?_);dsimp only[List.set];have CO:=It.trans (jO.trans Fb);have Rq:C.T≤H7.length:=by have:=CO.len;omega
   refine zq ?_;refine⟨by simp,(H7++[O.L []]).length,_,(fun i ρ H'=>A4 (Le H7 H') (H'[(H7++[O.L []]).length]? =some (.tup [.I 2,.I 3,.I 4,.I 5])) ((∃ul,H'[H7.length]? =some (.L (nl ul))∧ul.length≤48*i∧Mm (F*R) ul (iD F R pc kq sd (([2,3,4,5]).take i)))) (∃v10,ρ=[some (.I F),some (.I R),some (.ref bo),some (.I sd),some (.ref mo),some (.ref mf),some (.ref wo),some (.I (kq sd)),some (.ref A),v9,v10,v11,some (.ref H2.length),pe,some (.ref qo),some (.ref go),some (.I (iX F R pc kq sd (([2,3,4,5]).take i))),some (.ref H7.length),none,none,none,none,none,none,none,none])),rfl,af _ _,⟨(Le.app _ _).aS _,af _ _,⟨[],ai _ (af _ _),by simp,Mm.nil⟩,_,rfl⟩,fun i ρ H' hI=>hI.2,?_,?_⟩
   · rintro-i x ρ H8 hx ⟨lP,htp,⟨ul,hul,hull,mul⟩,v10,rfl⟩;have hi:i<4:=(z06.mp hx).1;obtain(⟨kd,pD,tK,hki,ex,hL⟩):∃kd,2≤kd∧kd≤5∧kd=i+2∧x=.I ((kd:Nat):Int)∧([2,3,4,5]).take (i+1)=([2,3,4,5]).take i++[kd]:=by
      refine⟨i+2,⋯,⋯,rfl,?_,?_⟩
      · have:i=0∨i=1∨i=2∨i=3:=⋯
        rcases this with rfl|rfl|rfl|rfl<;>(cases hx;rfl)
      · have:i=0∨i=1∨i=2∨i=3:=⋯
        rcases this with rfl|rfl|rfl|rfl<;>rfl
     subst ex;rw[hL];have dD:iX F R pc kq sd (([2,3,4,5]).take i++[kd])=iX F R pc kq sd (([2,3,4,5]).take i)+rG kd (nV F R pc kq sd kd):=by
      unfold iX;rw[List.map_append,List.sum_append];simp
     have dU:∀u,iD F R pc kq sd (([2,3,4,5]).take i++[kd]) u=(iD F R pc kq sd (([2,3,4,5]).take i) u||(decide (nV F R pc kq sd kd=0)&&cm F R pc kq sd kd u)):=by
      rintro-u;unfold iD;rw[List.any_append];simp
     generalize ([2,3,4,5]).take i=l at*;obtain(⟨r,gdl,hr,hrl,rg⟩):=hgood kd pD tK;have Ky:=Fb.trans lP;have hcn:cnt (F*R) (DH F R pc kq sd kd)=nV F R pc kq sd kd:=by unfold nV;exact dB fun u hu=>xC pD tK u
     have hlen:gdl.length=nV F R pc kq sd kd:=rg.len.trans hcn;have hle:=rg.le;have gv:∀{ρ:List (Option V)},ρ[15]? =some (some (.ref go))→ρ[10]? =some (some (.I (kd:Nat)))→Val C (k+1) (.sub (.V 15) (.V 10)) ρ H8 (.ref r):=fun h1 h2=>Val.at (i:=kd) (lP.at_ _ _ hgl) hr ⋯ (Val.nm h1) (Val.nm h2) rfl;have HJ:=Ky.at_ _ _ hrl;refine Gq ((aU.I_ HJ (by rw[aJ];omega) (gv rfl rfl)).use ⟨?_,?_⟩)
     · rintro-e;have hne:nV F R pc kq sd kd≠0:=by
        rintro-h;rw[←hlen]at h;rw[List.length_eq_zero_iff.mp h]at e;simp[nl]at e
       obtain(⟨w1,w2,w3⟩):=Eo (JI.trans (CO.trans lP)) pD tK;have emin:min ((gdl.length:Nat):Int) 2=((min (nV F R pc kq sd kd) 2:Nat):Int):=by rw[hlen,Fj];rfl
       have echk:(Ce kd)[min (nV F R pc kq sd kd) 2]? =some (.I (rG kd (nV F R pc kq sd kd))):=by
        unfold rG Ce;rw[if_neg hne]
        by_cases h1:1<nV F R pc kq sd kd
        · rw[if_pos h1,Nat.min_eq_right h1];rfl
        · have:nV F R pc kq sd kd=1:=⋯
          rw[if_neg h1,this];rfl
       have lenV:=Val.len (k:=k+1) P HJ (by rw[aJ];omega) (gv (ρ:=[some (.I F),some (.I R),some (.ref bo),some (.I sd),some (.ref mo),some (.ref mf),some (.ref wo),some (.I (kq sd)),some (.ref A),v9,some (.I (kd:Nat)),v11,some (.ref H2.length),pe,some (.ref qo),some (.ref go),some (.I (iX F R pc kq sd l)),some (.ref H7.length),none,none,none,none,none,none,none,none]) rfl rfl);rw[aJ]at lenV;have minV:=(Val.min P lenV (Val.int (a:=2))).to emin;refine aY rfl ?_;have first:∀Q:V→Hp→Prop,Q (.ref (14+kd)) H8→wE C (k+1) (.sub (.gl (s "_law_checks")) (.V 10)) [some (.I F),some (.I R),some (.ref bo),some (.I sd),some (.ref mo),some (.ref mf),some (.ref wo),some (.I (kq sd)),some (.ref A),v9,some (.I (kd:Nat)),v11,some (.ref H2.length),pe,some (.ref qo),some (.ref go),some (.I (iX F R pc kq sd l)),some (.ref H7.length),none,none,none,none,none,none,none,none] H8 Q:=by
        rintro-Q q;exact⟨_,P.tH,cz.list w1 ⋯ ⋯ (by rw[z02];exact w2) q⟩
       refine(Val.at (i:=min (nV F R pc kq sd kd) 2) w3 echk (by simp[Ce]) (first _ ⟨rfl,rfl⟩) minV rfl).use (IW.add (az (nx (az ⟨lP,htp,⟨ul,hul,⋯,mul.congr ?_⟩,some (.I (kd:Nat)),?_⟩))))
       · rintro-u hu;rw[dU];simp[hne]
       · rw[dD];rfl
     · rintro-e;have he:nV F R pc kq sd kd=0:=by
        rw[←hlen]
        cases gdl with
        |nil=>rfl
        |cons a b=>simp[nl]at e
       have OX:iX F R pc kq sd (l++[kd])=iX F R pc kq sd l:=by rw[dD];unfold rG;rw[if_pos he,Int.add_zero]
       rw[OX];refine bA ((aU.lt (Val.nm rfl) (Val.int (a:=5))).use ⟨?_,?_⟩)
       · rintro-e2;have k4:kd≤4:=by have:=z03 e2;omega
         obtain(⟨rd,vd,hd⟩):=Dv (kd:=kd) (j:=8) (e:=.V 10) (a:=(kd:Nat)) (ρ:=[some (.I F),some (.I R),some (.ref bo),some (.I sd),some (.ref mo),some (.ref mf),some (.ref wo),some (.I (kq sd)),some (.ref A),v9,some (.I (kd:Nat)),v11,some (.ref H2.length),pe,some (.ref qo),some (.ref go),some (.I (iX F R pc kq sd l)),some (.ref H7.length),none,none,none,none,none,none,none,none]) ⋯ (CO.trans lP) rfl (Val.nm rfl) rfl;have rD:=Cz kd ⋯;have rDl:=rD.le;refine aY rfl (vd.use (IW.CP ⋯ hul hd (by rw[aJ,aJ];omega) (az (nx (nx (az ⟨lP.set (z21 _) _,ae _ (by simp) htp,⟨ul++(vA F R pc kq sd B) kd,?_,by rw[z12];omega,(mul.app rD.2).congr ?_⟩,some (.I (kd:Nat)),rfl⟩))))))
         · rw[get_set _ hul];simp[nl]
         · rintro-u hu;rw[dU,wk pD k4];simp[he]
       · rintro-e2;have k5:kd=5:=by have:=z04 e2;omega
         subst k5;refine az (nx (az ⟨lP,htp,⟨ul,hul,⋯,mul.congr ?_⟩,some (.I ((5:Nat):Int)),rfl⟩));rintro-u hu;rw[dU,z4 he hu];simp
   · rintro-ρ H8 ⟨lP,htp,⟨ul,hul,hull,mul⟩,v10,rfl⟩;refine aM ?_;exact⟨by simp,_,H7.length,ul,rfl,((gc.trans CO).trans lP).aS _,af _ _,ai _ hul,mul⟩
end
theorem count_cast (u:Nat):∀xs:List Nat,(xs.map fun(i:Nat)=>(i:Int)).count (u:Int)=xs.count u
 |[]=>rfl
 |x::xs=>by
  rw[List.map_cons,List.count_cons,List.count_cons,count_cast u xs]
  congr 1
  by_cases h:x=u
  · simp[h]
  · have:¬(x:Int)=u:=⋯
    simp[h,this]
section
variable {C:Cx} {k:Nat} {H:Hp} {ρ:List (Option V)} {e l r t:ME} {c:Bool}
theorem Val.count {o u:Nat} {xs:List Nat} (h:H[o]? =some (.L (nl xs))) (x:Val C k l ρ H (.ref o)) (y:Val C k r ρ H (.I (u:Nat))):Val C k (.count l r) ρ H (.I (xs.count u:Nat)):=by
 unfold Val;show wE _ _ _ _ _ _;refine x.use ⟨o,_,rfl,h,y.use (cR.count (xs:=xs.map fun(i:Nat)=>(i:Int)) (by rw[h,oT];rfl) ⟨rfl,?_⟩)⟩;rw[count_cast]
theorem JV {Q:Bool→Hp→Prop} (h:aU C k t ρ H c) (h1:c=true→wE C k e ρ H fun v aB=>bk C k aB v Q) (h2:c=false→Q false H):wT C k (.cx (.C t (.C (.bf e) .N))) ρ H Q:=by
 refine h.use ⟨fun ec=>bQ e (h1 ec) fun v aB w=>bk.mono w fun b bc q=>⟨fun eb=>?_,fun eb=>?_⟩,fun ec=>h2 ec⟩
 · subst eb;exact q
 · subst eb;exact q
inductive MB (C:Cx) (k:Nat) (rn:List (Option Nat)) (j:Nat) (cond:ME) (ρ:List (Option V)) (Q:V→Hp→Prop) (v:V) (H₁:Hp):Prop
 |mk (ls:List Nat) (c:Nat→Bool) (s:Src C k H₁ v ls) (hl:ls.length≤1000) (hT:C.T≤H₁.length)
  (hc:∀u∈ls,∀H',Le H₁ H'→wT C k cond ((aW rn ρ).set j (some (.I (u:Nat)))) H' (fun b aB=>H'=aB∧b=c u))
  (q:Q (.I ((ls.filter c).length:Nat)) (H₁++[.L (nl (ls.filter c))])):MB C k rn j cond ρ Q v H₁
theorem zP (P:Pg C) {rn:List (Option Nat)} {j:Nat} {it cond:ME} {Q:V→Hp→Prop} (hj:j<rn.length) (h:wE C k it ρ H (MB C k rn j cond ρ Q)):wE C k (.K (s "len") (.C (.lc rn j it cond (.V j)) .N)) ρ H Q:=by
 refine kN (BL hj (bQ it h ?_));rintro v H₁ ⟨ls,c,a,b,hT,d,q⟩;refine⟨ls,c,a,b,hT,d,P.len (af _ _) ?_ ?_⟩
 · rw[aJ];exact z20 (z13 _ _) b
 · rw[aJ];exact q
end
section
variable (F R:Nat) (pc:Nat→Int) (kq:Nat→Nat) (sd:Nat)
def xO (q:Nat×Nat):Bool:=decide (2≤q.1∧q.1≤5)&&inR F R pc kq sd q
variable {F R:Nat} {pc:Nat→Int} {kq:Nat→Nat} {sd:Nat}
theorem CR (M:fz (F*R) pc) (lh:1-sd<2):((aI pc (1-sd) (F*R)).filter (xO F R pc kq sd)).Perm ((RS F R pc (1-sd)).filter (inR F R pc kq sd)):=by
 have:(aI pc (1-sd) (F*R)).filter (xO F R pc kq sd)=((aI pc (1-sd) (F*R)).filter fun q=>decide (2≤q.1∧q.1≤5)).filter (inR F R pc kq sd):=by
  rw[List.filter_filter];refine List.filter_congr fun q _=>?_;unfold xO;rw[Bool.and_comm]
 rw[this];exact(rA M lh).filter _
def Bk (i:Nat):Nat:=cnt i (fun u=>BY F R pc kq (1-sd) 0 u&&kF F R sd (kq sd) u)+cnt i (fun u=>vJ F R pc kq (1-sd) u&&kF F R sd (kq sd) u)
def sD (i:Nat):Nat:=cnt i (fun u=>BY F R pc kq sd 0 u&&kF F R sd (kq sd) u)
end
theorem AF (t:Nat) (a b:Bool) (ha:a=decide (1≤t)) (hb:b=decide (2≤t)):min ((t:Nat):Int) 2=(if a then 1 else 0)+(if b then 1 else 0):=by
 subst ha;subst hb
 by_cases h1:1≤t
 · by_cases h2:2≤t
   · simp only[h1,h2,decide_true,if_true];omega
   · simp only[h1,h2,decide_true,decide_false,if_true,Bool.false_eq_true,if_false];omega
 · have h2:¬2≤t:=⋯
   simp only[h1,h2,decide_false,Bool.false_eq_true,if_false];omega
theorem AE (t:Nat) (a:Bool) (ha:a=decide (1≤t)):min ((t:Nat):Int) 1=(if a then 1 else 0):=by
 subst ha
 by_cases h1:1≤t
 · simp only[h1,decide_true,if_true];omega
 · simp only[h1,decide_false,Bool.false_eq_true,if_false];omega
theorem xr {n:Nat} {p:Nat→Bool}:bi n p=0↔cnt n p=0:=by
 rw[←kB (gL n p) (jv n p),kK]
section
variable {C:Cx} (P:Pg C) {k:Nat} {H:Hp} {F R:Nat} {pc:Nat→Int} {kq:Nat→Nat}
include P
def xK (F R:Nat) (pc:Nat→Int) (kq:Nat→Nat) (sd:Nat):Nat→List (Nat×Nat):=fun i=>((aI pc (1-sd) (F*R)).take i).filter (xO F R pc kq sd)
def NK (F R:Nat) (pc:Nat→Int) (kq:Nat→Nat) (sd:Nat):Nat×Nat→Int:=fun q=>(cnt (F*R) (fun u=>RC F R pc kq (1-sd) q u&&BY F R pc kq sd 6 u):Int)
theorem Pg.wK (z:Sz F R) (st:Le dJ H) (M:fz (F*R) pc) (no:jk F R pc) {bo sd mo mf wo uo:Nat} {wl ul:List Nat} (hs:sd<2) (K:bW (F*R) pc sd (kq sd)) (f9:∀i,cnt (F*R) (sb pc i)≤16) (hb:H[bo]? =some (tab (F*R) pc)) (own:dg F R pc sd (kq sd) mo H) (foe:dg F R pc (1-sd) (kq (1-sd)) mf H)
 (hw:H[wo]? =some (.L (nl wl))) (mw:Mm (F*R) wl (kG F R pc kq sd)) (hu:H[uo]? =some (.L (nl ul))) (mu:Mm (F*R) ul (iD F R pc kq sd [2,3,4,5])):
 aa C (k+3) (s "_law_danger") [.I F,.I R,.ref bo,.I sd,.ref mo,.ref mf,.I (iX F R pc kq sd [2,3,4,5]),.ref uo,.ref wo] H (Dy H (.tup [.I (Cj F R pc kq sd),.I (eB F R pc kq sd)])):=by
 injection C k H F R pc kq bo sd mo mf wo uo wl ul with P z st M no hs K f9 hb own foe hw mw hu mu
 have hn:=z.n;have lh:1-sd<2:=⋯
 have ownL:=own;have foeL:=foe;obtain(⟨so,re,bl,ti,b0,lo,sl,rs,hmo,LO⟩):=own;obtain(⟨Mf,JE,JY,Mg,JX,Ln,Me,y9,hmf,LF⟩):=foe;obtain(⟨p1,PI,_,_,OU⟩):=LO.mm z M hs (f9 _) (kd:=1) nofun nofun;obtain(⟨q1,PL,_,Qh,_⟩):=LF.mm z M lh (f9 _) (kd:=1) nofun nofun;obtain(⟨p6,Jy,Qa,JD,_⟩):=LO.mm z M hs (f9 _) (kd:=6) nofun nofun;obtain(⟨p2,PJ,RG,NS,_⟩):=LO.mm z M hs (f9 _) (kd:=2) nofun nofun;refine P.pZ ?_;rintro-hT;unfold jW;refine au (nG K ⋯ hb rfl rfl (au ?_));refine aa.up (k:=k+1) (aa.mono (P.Ao z K.1) ?_);rintro-_ H1 ⟨ro,rfl,bg,hro⟩;have rr:=A9 z (kq sd);have hrl:=rr.le;generalize ve F R (kq sd)=rl at*;have z6:C.T≤H1.length:=by have:=bg.len;omega
 refine au (BL nofun ((Val.nm rfl).use ⟨rl,fun u=>!tq F R pc sd u,Src.list hro,⋯,z6,?_,?_⟩))
 · rintro-u mZ H' fC;dsimp only[aW,List.map,List.set];have hun:=((rr.2 u).mp mZ).1;have l2:=bg.trans fC;refine(aU.lt (Val.count (u:=u) (l2.at_ _ _ PI) ((LO.le l2).Cd (l2.at_ _ _ hmo) nofun rfl (Val.int (a:=1)) rfl) (Val.nm rfl)) (Val.int (a:=2))).to ?_;rw[OU u hun,←I4 (F:=F) (R:=R) (kq:=kq) M hs,z07];simp;omega
 have rg:Rp (F*R) (rl.filter fun u=>!tq F R pc sd u) (mY F R pc sd (kq sd)):=rr.filter _;have bJ:Le H1 (H1++[O.L (nl (rl.filter fun u=>!tq F R pc sd u))]):=Le.app _ _;have hgo:=af H1 (O.L (nl (rl.filter fun u=>!tq F R pc sd u)));generalize (rl.filter fun u=>!tq F R pc sd u)=gl at*;generalize (H1++[O.L (nl gl)])=H2 at*;generalize H1.length=go at*;have gc:=bg.trans bJ;have hgll:=rg.le;refine au (zP P nofun ((Val.nm rfl).use ⟨rl,BY F R pc kq (1-sd) 1,Src.list (bJ.at_ _ _ hro),⋯,by have:=gc.len;omega,?_,?_⟩))
 · rintro-u mZ H' fC;dsimp only[aW,List.map,List.set];have hun:=((rr.2 u).mp mZ).1;have l2:=gc.trans fC;exact aU.vy Qh hun (l2.at_ _ _ PL) (Val.nm rfl) ((LF.le l2).Cd (l2.at_ _ _ hmf) nofun rfl (Val.int (a:=1)) rfl)
 rw[(rr.filter (BY F R pc kq (1-sd) 1)).len];have wL:Le H (H2++[O.L (nl (rl.filter (BY F R pc kq (1-sd) 1)))]):=gc.aS _;have EE:=ai (O.L (nl (rl.filter (BY F R pc kq (1-sd) 1)))) hgo;generalize (H2++[O.L (nl (rl.filter (BY F R pc kq (1-sd) 1)))])=H3 at*;refine au (Val.int.use (au (Val.int.use ?_)));dsimp only[List.set];generalize Pt:cnt (F*R) (fun u=>fR F R (kq sd) u&&BY F R pc kq (1-sd) 1 u)=c0;have HA:=wL.at_ _ _ hmf;have FQ:=LF.le wL;refine pj ((Val.yh HA (i:=1) rfl (by simp) (Val.nm rfl) Val.int rfl).use ⟨JE,refs y9,(fun i ρ H'=>Le H3 H'∧∃I8 I9,ρ=[some (.I F),some (.I R),some (.ref bo),some (.I sd),some (.ref mo),some (.ref mf),some (.I (iX F R pc kq sd [2,3,4,5])),some (.ref uo),some (.ref wo),some (.I (kq sd)),some (.ref ro),none,some (.ref go),some (.I ((c0+((xK F R pc kq sd) i).length:Nat):Int)),some (.I (((xK F R pc kq sd) i).map fun q=>Gk q.1).sum),some (.I (((xK F R pc kq sd) i).map (NK F R pc kq sd)).sum),I8,I9,none,none,none,none,none,none,none,none,none,none]),rfl,FQ.re,⟨Le.fQ _,none,none,rfl⟩,fun i ρ H' hI=>hI.1.at_ _ _ FQ.re,?_,?_⟩)
 · rintro-i x ρ H4 hx ⟨de,I8,I9,rfl⟩;have hi:i<y9.length:=by have:=(z06.mp hx).1;simpa [refs] using this
   obtain(⟨q,hq⟩):∃q,(aI pc (1-sd) (F*R))[i]? =some q:=⟨_,z05 (by have h2:y9.length=(aI pc (1-sd) (F*R)).length:=FQ.rr.1;omega)⟩;obtain(⟨m,ri,li,hm,_,_,hmt,hri,rp⟩):=FQ.rr.2 i q hq;have ex:x=.ref m:=by rw[c5 hm]at hx;cases hx;rfl
   subst ex;have Ts:(xK F R pc kq sd) (i+1)=(xK F R pc kq sd) i++(if xO F R pc kq sd q then[q]else[]):=by
    show((aI pc (1-sd) (F*R)).take (i+1)).filter _=_;rw[List.take_add_one,hq,List.filter_append]
    cases h:xO F R pc kq sd q<;>simp[xK,h]
   have hqm:=(gb M lh).mp (z08 hq);have ll:=wL.trans de;have HI:=de.at_ _ _ hri;have hlin:=rp.le;have Np:C.T≤H4.length:=by have:=ll.len;omega
   refine⟨m,_,rfl,de.at_ _ _ hmt,rfl,bA ?_⟩;dsimp only[List.set,sets];have rpg:=rp.filter (mY F R pc sd (kq sd));have sameT:xO F R pc kq sd q=false→(xK F R pc kq sd) (i+1)=(xK F R pc kq sd) i:=fun h=>by rw[Ts,h];simp
   refine JV (aU.GU (Val.int (a:=2)) (Val.nm rfl) (Val.int (a:=5))) (fun e=>BL nofun ((Val.nm rfl).use ⟨li,mY F R pc sd (kq sd),Src.list HI,⋯,Np,fun u mZ H' fC=>?_,?_⟩)) fun e=>⟨fun h=>(by cases h),fun _=>?_⟩
   · dsimp only[aW,List.map,List.set];exact aU.vy rg.2 ((rp.2 u).mp mZ).1 ((de.trans fC).at_ _ _ EE) (Val.nm rfl) (Val.nm rfl)
   · have hk:2≤q.1∧q.1≤5:=by have:=z03 e;omega
     have hemp:(!(nl (li.filter (mY F R pc sd (kq sd)))).isEmpty)=inR F R pc kq sd q:=by
      have h1:=rpg.2.empty;have h2:(nl (li.filter (mY F R pc sd (kq sd)))).isEmpty=(li.filter (mY F R pc sd (kq sd))).isEmpty:=by cases li.filter (mY F R pc sd (kq sd))<;>rfl
      rw[h2,h1];unfold inR RC;rw[z07];simp;omega
     refine bk.list (af _ _) (by rw[aJ];exact z20 (z13 _ _) ⋯) ?_;rw[hemp];have eJ:Le H4 (H4++[O.L (nl (li.filter (mY F R pc sd (kq sd))))]):=Le.app _ _;generalize (H4++[O.L (nl (li.filter (mY F R pc sd (kq sd))))])=H5 at*;have fD:=ll.trans eJ;have wN:=de.trans eJ;refine⟨?_,?_⟩
     · rintro-e2;have hl:xO F R pc kq sd q=true:=by unfold xO;rw[e2,decide_eq_true hk];rfl
       rw[if_pos hl]at Ts;refine aY rfl (Val.int.use (IW.add ?_));refine aY rfl ?_;have KU:H5[13]? =some (.L [.I 0,.I 0,.I 81,.I 52,.I 44,.I 10,.I 0]):=(st.trans fD).at_ _ _ rfl;have hwq:([.I 0,.I 0,.I 81,.I 52,.I 44,.I 10,.I 0]:List V)[q.1]? =some (.I (Gk q.1)):=by
        have:q.1=2∨q.1=3∨q.1=4∨q.1=5:=⋯
        rcases this with h|h|h|h<;>rw[h]<;>rfl
       refine⟨_,P.qu,cz.list KU ⋯ ⋯ (by rw[z02];exact hwq) (IW.add (aY rfl (zP P nofun ((Val.nm rfl).use ⟨li,BY F R pc kq sd 6,Src.list (eJ.at_ _ _ HI),⋯,by have:=eJ.len;omega,?_,?_⟩))))⟩
       · rintro-u mZ H' fC;dsimp only[aW,List.map,List.set];have l6:=fD.trans fC;exact aU.vy JD ((rp.2 u).mp mZ).1 (l6.at_ _ _ Jy) (Val.nm rfl) ((LO.le l6).Cd (l6.at_ _ _ hmo) nofun rfl (Val.int (a:=6)) rfl)
       · rw[(rp.filter (BY F R pc kq sd 6)).len];refine IW.add (az (nx (az ⟨wN.aS _,some (.I (q.1:Nat)),some (.ref ri),?_⟩)));rw[Ts,z12,List.map_append,List.map_append,List.sum_append,List.sum_append];simp only[List.map_cons,List.map_nil,List.sum_cons,List.sum_nil,Int.add_zero,List.length_cons,List.length_nil];have e9:((c0+((xK F R pc kq sd) i).length:Nat):Int)+1=((c0+(((xK F R pc kq sd) i).length+(0+1)):Nat):Int):=⋯
         rw[e9]
         rfl
     · rintro-e2;have hl:xO F R pc kq sd q=false:=by unfold xO;rw[e2];simp
       refine az ⟨wN,some (.I (q.1:Nat)),some (.ref ri),?_⟩;rw[sameT hl]
   · have hl:xO F R pc kq sd q=false:=by
      have:¬(2≤q.1∧q.1≤5):=by have:=z04 e;omega
      unfold xO;rw[decide_eq_false this];rfl
     refine az ⟨de,some (.I (q.1:Nat)),some (.ref ri),?_⟩;rw[sameT hl]
 · rintro-ρ H4 ⟨de,I8,I9,rfl⟩;have hlenT:(refs y9).length=(aI pc (1-sd) (F*R)).length:=by simp[refs];exact FQ.rr.1
   have hTl:(xK F R pc kq sd) (refs y9).length=(aI pc (1-sd) (F*R)).filter (xO F R pc kq sd):=by
    show((aI pc (1-sd) (F*R)).take (refs y9).length).filter _=_;rw[hlenT,List.take_length]
   have pm:=CR (kq:=kq) (F:=F) (R:=R) (sd:=sd) M lh;have eC:(c0+((xK F R pc kq sd) (refs y9).length).length:Nat)=zv F R pc kq sd:=by rw[hTl,pm.length_eq,←Pt];rfl
   have eW:(((xK F R pc kq sd) (refs y9).length).map fun q=>Gk q.1).sum=D1 F R pc kq sd:=by rw[hTl,oV _ pm];rfl
   have eH:(((xK F R pc kq sd) (refs y9).length).map (NK F R pc kq sd)).sum=D0 F R pc kq sd:=by rw[hTl,oV _ pm];rfl
   rw[eC,eW,eH];have ll:=wL.trans de;have Kr:=de.at_ _ _ EE;clear HA FQ EE wL gc hro hgo bg bJ eC eW eH hTl hlenT;have Np:C.T≤H4.length:=by have:=ll.len;omega
   have rc:zv F R pc kq sd≤1000:=by
    unfold zv;have h1:=fa (F*R) (fun u=>fR F R (kq sd) u&&BY F R pc kq (1-sd) 1 u);have h2:=z13 (inR F R pc kq sd) (RS F R pc (1-sd));have h3:=zz F R pc (1-sd);omega
   refine au (Val.int.use (au (Val.int.use ?_)));refine cq P (F*R) (fun i ρ H'=>Le H4 H'∧∃v11,ρ=[some (.I F),some (.I R),some (.ref bo),some (.I sd),some (.ref mo),some (.ref mf),some (.I (iX F R pc kq sd [2,3,4,5])),some (.ref uo),some (.ref wo),some (.I (kq sd)),some (.ref ro),v11,some (.ref go),some (.I (zv F R pc kq sd:Nat)),some (.I (D1 F R pc kq sd)),some (.I (D0 F R pc kq sd)),I8,I9,some (.I (Bk (F:=F) (R:=R) (pc:=pc) (kq:=kq) (sd:=sd) i:Nat)),some (.I (sD (F:=F) (R:=R) (pc:=pc) (kq:=kq) (sd:=sd) i:Nat)),none,none,none,none,none,none,none,none]) ?_ ⋯ ?_ ?_
   · exact(Val.sY P (ll.at_ _ _ hb) ⋯ (Val.nm rfl)).use ⟨rfl,Le.app _ _,none,rfl⟩
   · rintro-t ρ H5 ht ⟨eJ,v11,rfl⟩;have fD:=ll.trans eJ;have sS:((Bk (F:=F) (R:=R) (pc:=pc) (kq:=kq) (sd:=sd) (t+1):Nat):Int)=(Bk (F:=F) (R:=R) (pc:=pc) (kq:=kq) (sd:=sd) t:Nat)+((if BY F R pc kq (1-sd) 0 t&&kF F R sd (kq sd) t then 1 else 0)+(if vJ F R pc kq (1-sd) t&&kF F R sd (kq sd) t then 1 else 0)):=by
      unfold Bk;rw[cX,cX];push_cast;split<;>split<;>omega
     have sH:((sD (F:=F) (R:=R) (pc:=pc) (kq:=kq) (sd:=sd) (t+1):Nat):Int)=(sD (F:=F) (R:=R) (pc:=pc) (kq:=kq) (sd:=sd) t:Nat)+(if BY F R pc kq sd 0 t&&kF F R sd (kq sd) t then 1 else 0):=by
      unfold sD;rw[cX];push_cast;split<;>omega
     refine bA (qH (yu (cF (kP rfl (cF (kP rfl (cF (kP rfl (cF (kP rfl (cF (kP rfl (vL ?_)))))))))))));refine aa.up (k:=k+1) (aa.pv (P.An z ht) ?_);refine bk.bool ⟨?_,?_⟩
     · rintro-e;rw[e,Bool.and_true,Bool.and_true]at sS;rw[e,Bool.and_true]at sH;refine aY rfl ((Val.min P ((LF.le fD).Gn (j:=5) (u:=t) (fD.at_ _ _ hmf) ht ⋯ rfl (Val.nm rfl) rfl) (Val.int (a:=2))).use (IW.add ?_));rw[AF _ (BY F R pc kq (1-sd) 0 t) (vJ F R pc kq (1-sd) t) (pd M lh t).symm (xl M lh t).symm,←sS];refine aY rfl ((Val.min P ((LO.le fD).Gn (j:=4) (u:=t) (fD.at_ _ _ hmo) ht ⋯ rfl (Val.nm rfl) rfl) (Val.int (a:=1))).use (IW.add ?_));rw[AE _ (BY F R pc kq sd 0 t) (pd M hs t).symm,←sH];exact az (nx (az ⟨eJ,some (.I (t:Nat)),rfl⟩))
     · rintro-e;rw[e]at sS sH;simp only[Bool.and_false,Bool.false_eq_true,if_false,Int.add_zero]at sS sH;refine az ⟨eJ,some (.I (t:Nat)),?_⟩;rw[sS,sH];rfl
   · rintro-ρ H5 ⟨eJ,v11,rfl⟩;have eS:Bk (F:=F) (R:=R) (pc:=pc) (kq:=kq) (sd:=sd) (F*R)=eB F R pc kq sd:=rfl;have eHl:((sD (F:=F) (R:=R) (pc:=pc) (kq:=kq) (sd:=sd) (F*R):Nat):Int)*1=((sD (F:=F) (R:=R) (pc:=pc) (kq:=kq) (sd:=sd) (F*R):Nat):Int):=Int.mul_one _;rw[eS];have fD:=ll.trans eJ;have Ks:=eJ.at_ _ _ Kr;have Nq:C.T≤H5.length:=by have:=fD.len;omega
     have N':eB F R pc kq sd≤1000:=by
      unfold eB;have h1:=fa (F*R) (fun u=>BY F R pc kq (1-sd) 0 u&&kF F R sd (kq sd) u);have h2:=fa (F*R) (fun u=>vJ F R pc kq (1-sd) u&&kF F R sd (kq sd) u);omega
     refine au (jz ((Val.add (Val.add (Val.add (Val.nm rfl) (Val.mul (.inl ⋯) (Val.nm rfl) (Val.nm rfl))) (Val.mul (.inl nofun) (Val.int (a:=69)) (Val.nm rfl))) (Val.int (a:=37))).use (jz (Val.int.use (zP P nofun ((Val.nm rfl).use ⟨gl,kG F R pc kq sd,Src.list Ks,⋯,Nq,?_,BW.mul (.inl nofun) (BW.add ?_)⟩))))))
     · rintro-u mZ H' fC;dsimp only[aW,List.map,List.set];exact aU.vy mw ((rg.2 u).mp mZ).1 ((fD.trans fC).at_ _ _ hw) (Val.nm rfl) (Val.nm rfl)
     rw[(rg.filter (kG F R pc kq sd)).len];have jO:Le H5 (H5++[O.L (nl (gl.filter (kG F R pc kq sd)))]):=Le.app _ _;generalize (H5++[O.L (nl (gl.filter (kG F R pc kq sd)))])=H6 at*;have mQ:=fD.trans jO;have Ro:C.T≤H6.length:=by have:=mQ.len;omega
     have Rg:=fun(H':Hp) (l:Le H6 H')=>LO.le (mQ.trans l);refine aY rfl (jz (jz (jz (Val.int.use (zP P nofun (kN ((Val.sY P (mQ.at_ _ _ hb) ⋯ (Val.nm rfl)).use (P.gd ⟨List.range (F*R),iD F R pc kq sd [2,3,4,5],Src.range (af _ _) ⋯,by simp;omega,by simp;omega,?_,BW.mul (.inl nofun) (jz (Val.int.use ?_))⟩))))))))
     · rintro-u mZ H' fC;dsimp only[aW,List.map,List.set];exact aU.vy mu (List.mem_range.mp mZ) ((mQ.trans ((Le.app _ _).trans fC)).at_ _ _ hu) (Val.nm rfl) (Val.nm rfl)
     have eU:((List.range (F*R)).filter (iD F R pc kq sd [2,3,4,5])).length=cnt (F*R) (iD F R pc kq sd [2,3,4,5]):=rfl;rw[eU];have Au:Le H6 (H6++[O.range 0 ((F*R:Nat):Int) 1]++[O.L (nl ((List.range (F*R)).filter (iD F R pc kq sd [2,3,4,5])))]):=(Le.app _ _).aS _;generalize (H6++[O.range 0 ((F*R:Nat):Int) 1]++[O.L (nl ((List.range (F*R)).filter (iD F R pc kq sd [2,3,4,5])))])=H7 at*;have lp:=mQ.trans Au;have hsl:=LO.shr.len;have hsll:=LO.shr.le;refine(Val.len P (lp.at_ _ _ LO.sh) (by rw[aJ];omega) (Val.yh (lp.at_ _ _ hmo) (i:=0) rfl (by simp) (Val.nm rfl) Val.int rfl)).use (BW.mul (.inl nofun) (BW.add ((Val.div nofun nofun (Val.mul (.inr ⋯) (Val.mul (.inl nofun) (Val.int (a:=3)) (Val.nm rfl)) (Val.nm rfl)) (Val.int (a:=8))).use (BW.add (IW.add ?_)))));rw[aJ,hsl];refine aY rfl ?_;refine BW.sub ?_;have e1:(1:Int)-(sd:Int)=((1-sd:Nat):Int):=⋯
     rw[e1];have e2:1-(1-sd)=sd:=⋯
     refine aa.lv (P.oB (kq:=kq) z (st.trans lp) M no lh f9 (lp.at_ _ _ hb) (foeL.le lp) (by rw[e2];exact ownL.le lp)) ?_;rintro-H8 lP;have jN:=lp.trans lP;refine aa.lv (P.oB (kq:=kq) z (st.trans jN) M no hs f9 (jN.at_ _ _ hb) (ownL.le jN) (foeL.le jN)) ?_;rintro-H9 Av;have uO:=jN.trans Av;refine BW.sub (IW.add (aY rfl ((Val.mul (.inl nofun) (Val.int (a:=4)) (Val.nm rfl)).use (IW.sub ?_))));dsimp only[List.set];have ev:iX F R pc kq sd [2,3,4,5]+(zv F R pc kq sd:Int)*D1 F R pc kq sd+69*D0 F R pc kq sd+37+183*(cnt (F*R) (fun u=>mY F R pc sd (kq sd) u&&kG F R pc kq sd u):Int)
      +(148*(cnt (F*R) (iD F R pc kq sd [2,3,4,5]):Int)+98*(cnt (F*R) (pF F R pc sd (kq sd)):Int)+(3*(eB F R pc kq sd:Int)*(eB F R pc kq sd:Int)).fdiv 8)+(dn F R pc kq (1-sd)-dn F R pc kq sd)-4*(sD (F:=F) (R:=R) (pc:=pc) (kq:=kq) (sd:=sd) (F*R):Int)
      =FV F R pc kq sd+FX F R pc kq sd+FY F R pc kq sd+FZ F R pc kq sd-F0 F R pc kq sd:=by
      have a1:cnt (F*R) (SH F R pc kq sd)=cnt (F*R) (pF F R pc sd (kq sd)):=rfl;have a2:sD (F:=F) (R:=R) (pc:=pc) (kq:=kq) (sd:=sd) (F*R)=cnt (F*R) (fun u=>BY F R pc kq sd 0 u&&kF F R sd (kq sd) u):=rfl;unfold FV FX FY FZ F0;rw[a1,a2];omega
     rw[ev];generalize hX:FV F R pc kq sd+FX F R pc kq sd+FY F R pc kq sd+FZ F R pc kq sd-F0 F R pc kq sd=X;have Pr:=uO.at_ _ _ hb;have hxs:H9[bo]? =some (.L (il ((List.range (F*R)).map pc))):=Pr;have enq:decide ((1-(sd:Int))*8+5∉(List.range (F*R)).map pc)=CX F R pc sd:=by
      unfold CX;rw[z07,z00,z00,aT,List.mem_map]
      constructor
      · rintro-h u mZ;unfold cS;refine decide_eq_false fun e=>h ⟨u,List.mem_range.mpr mZ,⋯⟩
      · rintro-h ⟨u,mZ,e⟩;have:=h u (List.mem_range.mp mZ);unfold cS at this;have:=z04 this;omega
     refine dZ (((aU.IB hxs (Val.add (Val.mul (.inr nofun) (Val.sub (Val.int (a:=1)) (Val.nm rfl)) (Val.int (a:=8))) (Val.int (a:=5))) (Val.nm rfl)).to enq).use ⟨(fun aO H'=>H9=H'∧aO=[some (.I F),some (.I R),some (.ref bo),some (.I sd),some (.ref mo),some (.ref mf),some (.I (iX F R pc kq sd [2,3,4,5])),some (.ref uo),some (.ref wo),some (.I (kq sd)),some (.ref ro),v11,some (.ref go),some (.I (zv F R pc kq sd:Nat)),some (.I (D1 F R pc kq sd)),some (.I (D0 F R pc kq sd)),I8,I9,some (.I (eB F R pc kq sd:Nat)),some (.I (sD (F:=F) (R:=R) (pc:=pc) (kq:=kq) (sd:=sd) (F*R):Nat)),some (.I (X-(if CX F R pc sd then 873 else 0))),none,none,none,none,none,none,none]),?_,?_,?_⟩)
     · rintro-e K hK;refine aY rfl (Val.int.use (IW.sub (az (hK _ _ ⟨rfl,?_⟩))));rw[if_pos e];rfl
     · rintro-e K hK;refine az (hK _ _ ⟨rfl,?_⟩);rw[e,if_neg nofun,Int.sub_zero]
       rfl
     · rintro-_ _ ⟨rfl,rfl⟩;have Po:C.T≤H9.length:=by have:=uO.len;omega
       refine bA (qH (BL nofun (((LO.le uO).Cd (kd:=2) (j:=4) (uO.at_ _ _ hmo) nofun rfl (Val.int (a:=2)) rfl).use ⟨p2,BY F R pc kq sd 6,Src.list (uO.at_ _ _ PJ),⋯,Po,?_,?_⟩)))
       · rintro-u mZ H' fC;dsimp only[aW,List.map,List.set];have Lb:=uO.trans fC;exact aU.vy JD ((NS u).mp mZ).1 (Lb.at_ _ _ Jy) (Val.nm rfl) ((LO.le Lb).Cd (Lb.at_ _ _ hmo) nofun rfl (Val.int (a:=6)) rfl)
       · have hemp:(!(nl (p2.filter (BY F R pc kq sd 6))).isEmpty)=Gh F R pc kq sd:=by
          have h1:=(NS.filter (BY F R pc kq sd 6)).empty;have h2:(nl (p2.filter (BY F R pc kq sd 6))).isEmpty=(p2.filter (BY F R pc kq sd 6)).isEmpty:=by cases p2.filter (BY F R pc kq sd 6)<;>rfl
          rw[h2,h1];unfold Gh;rw[z07];simp only[Bool.not_eq_true',decide_eq_false_iff_not,z00,ne_eq,xr]
         refine bk.list (af _ _) (by rw[aJ];exact z20 (z13 _ _) ⋯) ?_;rw[hemp];refine⟨?_,?_⟩
         · rintro-e;refine aY rfl (Val.int.use (IW.sub (az (nx (aM ?_)))));refine⟨by simp,_,rfl,(uO.aS _).aS _,?_⟩;rw[af];unfold Cj;rw[hX,e];rfl
         · rintro-e;refine aM ?_;refine⟨by simp,_,rfl,(uO.aS _).aS _,?_⟩;rw[af];unfold Cj;rw[hX,e,if_neg (c:=false=true) nofun,Int.sub_zero]
end
theorem CT {F R:Nat} (z:Sz F R) {pc:Nat→Int} {kq:Nat→Nat} (M:fz (F*R) pc) (f9:∀i,cnt (F*R) (sb pc i)≤16) (i:Nat): -32768≤dn F R pc kq i∧dn F R pc kq i<32768:=by
 injection F R pc kq i with z M f9
 by_cases hi:i<2
 · exact yZ z M hi (f9 i)
 · have:RS F R pc i=[]:=by
    refine List.eq_nil_iff_forall_not_mem.mpr ?_;rintro-q hq;obtain(⟨a,b,c,d⟩):=mU hq;have:=M q.2 c;unfold cS at d;have d:=z03 d;have h0:=xY d (z20 nofun a);obtain(⟨s',k',h1,h2,h3,e⟩):=vb this h0;have:(i:Int)=s':=(ja d ⋯).symm.trans (ja e ⋯);exact hi (Int.ofNat.inj this▸h1)
   unfold dn;rw[this];simp
theorem Dt {F R:Nat} {pc:Nat→Int} {kq:Nat→Nat} {sd u:Nat} (M:fz (F*R) pc) (hs:sd<2):(decide (((tm F R pc (1-sd) (kq (1-sd)) (aI pc (1-sd) (F*R)) u:Nat):Int)≠0)&&(decide (((tm F R pc sd (kq sd) (aI pc sd (F*R)) u:Nat):Int)=0)||(decide (((tm F R pc sd (kq sd) (aI pc sd (F*R)) u:Nat):Int)=1)&&(BY F R pc kq sd 5 u||BY F R pc kq sd 6 u))))=kG F R pc kq sd u:=by
 injection F R pc kq sd u with M hs
 unfold kG;rw[←pd M hs,←pd M (show 1-sd<2 by omega),←xl M hs];generalize tm F R pc (1-sd) (kq (1-sd)) (aI pc (1-sd) (F*R)) u=a;generalize tm F R pc sd (kq sd) (aI pc sd (F*R)) u=b;have h1:decide ((a:Int)≠0)=decide (1≤a):=by rw[z07];simp only[z00];omega
 rw[h1]
 by_cases b0:b=0
 · subst b0;simp
 · by_cases b1:b=1
   · subst b1;cases BY F R pc kq sd 5 u<;>cases BY F R pc kq sd 6 u<;>simp
   · have e1:decide ((b:Int)=0)=false:=decide_eq_false ⋯;have e2:decide ((b:Int)=1)=false:=decide_eq_false ⋯;have e3:decide (2≤b)=true:=decide_eq_true ⋯;rw[e1,e2,e3];simp
section
variable {C:Cx} (P:Pg C) {k:Nat} {H:Hp} {F R p g ml:Nat} {pc:Nat→Int} {kq:Nat→Nat}
include P
def Ag (a d:Int):Int:=a-(if 100<d then(d*d).fdiv 4096 else 0)
def Ah (b d:Int):Int:=b-(if 100<d then d.fdiv 16 else 0)
def CN (F:Nat) (pc:Nat→Int) (kq:Nat→Nat) (sd:Nat):Nat→Bool:=fun u=>decide ((pc u).fmod 8=1)&&(decide (((((u % F:Nat):Int)-((kq sd % F:Nat):Int)).natAbs:Int)<3)&&true)
theorem Pg.Ap (z:Sz F R) (st:Le dJ H) (M:fz (F*R) pc) (no:jk F R pc) (A:ct F R p g pc H) (MM:dh F R pc kq ml H) {bo sd mo mf:Nat} (hs:sd<2) (K:∀i,i<2→bW (F*R) pc i (kq i)) (hkn:∀i,kq i<F*R) (f9:∀i,cnt (F*R) (sb pc i)≤16) (hb:H[bo]? =some (tab (F*R) pc)) (own:dg F R pc sd (kq sd) mo H) (foe:dg F R pc (1-sd) (kq (1-sd)) mf H):
 aa C (k+7) (s "_law_side") [.I F,.I R,.ref bo,.ref p,.ref ml,.I sd,.ref mo,.ref mf] H (lE (.bool true) H):=by
 injection C k H F R p g ml pc kq bo sd mo mf with P z st M no A MM hs K hkn f9 hb own foe
 have hn:=z.n;have lh:1-sd<2:=⋯
 have hm:=CT (kq:=kq) z M f9;have ownL:=own;have foeL:=foe;obtain(⟨so,re,bl,ti,b0,lo,sl,rs,hmo,LO⟩):=own;obtain(⟨Mf,JE,JY,Mg,JX,Ln,Me,y9,hmf,LF⟩):=foe;obtain(⟨p5,PK,_,Qg,_⟩):=LO.mm z M hs (f9 _) (kd:=5) nofun nofun;obtain(⟨p6,Jy,Qa,JD,_⟩):=LO.mm z M hs (f9 _) (kd:=6) nofun nofun;refine P.uC ?_;rintro-hT;unfold oK;refine au (nG (K sd hs) ⋯ hb rfl rfl (au (kO ?_)));refine cq P (F*R) (fun i ρ H'=>A3 (Le H H') (H'[H.length]? =some (.L (nl ((List.range i).filter (kG F R pc kq sd))))) (∃v10,ρ=[some (.I F),some (.I R),some (.ref bo),some (.ref p),some (.ref ml),some (.I sd),some (.ref mo),some (.ref mf),some (.I (kq sd)),some (.ref H.length),v10,none,none,none,none,none,none,none,none,none,none,none,none,none,none,none,none,none,none])) ?_ ⋯ ?_ ?_
 · exact(Val.sY P (ai _ hb) ⋯ (Val.nm rfl)).use ⟨rfl,(Le.app _ _).aS _,ai _ (af _ _),none,rfl⟩
 · rintro-t ρ H1 ht ⟨bg,hl,v10,rfl⟩;have gH:(List.range (t+1)).filter (kG F R pc kq sd)=(List.range t).filter (kG F R pc kq sd)++(if kG F R pc kq sd t then[t]else[]):=by
    rw[List.range_succ,List.filter_append]
    cases h:kG F R pc kq sd t<;>simp[h]
   have hlen:((List.range t).filter (kG F R pc kq sd)).length≤100:=by have:=z13 (kG F R pc kq sd) (List.range t);simp at this;omega
   have tF:=(LF.le bg).Gn (C:=C) (k:=k+6) (j:=7) (u:=t) (ρ:=[some (.I F),some (.I R),some (.ref bo),some (.ref p),some (.ref ml),some (.I sd),some (.ref mo),some (.ref mf),some (.I (kq sd)),some (.ref H.length),some (.I (t:Nat)),none,none,none,none,none,none,none,none,none,none,none,none,none,none,none,none,none,none]) (bg.at_ _ _ hmf) ht ⋯ rfl (Val.nm (j:=10) rfl) rfl;have tO:=(LO.le bg).Gn (C:=C) (k:=k+6) (j:=6) (u:=t) (ρ:=[some (.I F),some (.I R),some (.ref bo),some (.ref p),some (.ref ml),some (.I sd),some (.ref mo),some (.ref mf),some (.I (kq sd)),some (.ref H.length),some (.I (t:Nat)),none,none,none,none,none,none,none,none,none,none,none,none,none,none,none,none,none,none]) (bg.at_ _ _ hmo) ht ⋯ rfl (Val.nm (j:=10) rfl) rfl;have c:=aU.and (bb.cons (aU.val tF) fun _=>bb.cons (aU.or (eI.cons (aU.eq tO (Val.int (a:=0))) fun _=>eI.cons (aU.and (bb.cons (aU.eq tO (Val.int (a:=1))) fun _=>bb.cons (aU.or (eI.cons (aU.vy Qg ht (bg.at_ _ _ PK) (Val.nm (j:=10) rfl) ((LO.le bg).Cd (j:=6) (bg.at_ _ _ hmo) nofun rfl (Val.int (a:=5)) rfl)) fun _=>eI.cons (aU.vy JD ht (bg.at_ _ _ Jy) (Val.nm (j:=10) rfl) ((LO.le bg).Cd (j:=6) (bg.at_ _ _ hmo) nofun rfl (Val.int (a:=6)) rfl)) fun _=>eI.nil)) fun _=>bb.nil)) fun _=>eI.nil)) fun _=>bb.nil);have c':=c.to (d:=kG F R pc kq sd t) (by rw[←Dt M hs];simp only[Bool.and_true,Bool.or_false]);refine bA (c'.use ⟨?_,?_⟩)
   · rintro-e;rw[e]at gH;refine cC (Cm (Val.nm rfl) hl ((Val.nm rfl).use (cR.append hT hl (by rw[aJ];omega) ⟨rfl,az (nx (az ⟨bg.set (z21 _) _,?_,some (.I (t:Nat)),rfl⟩))⟩)));rw[get_set _ hl,gH];simp[nl]
   · rintro-e;rw[e]at gH;refine az ⟨bg,?_,some (.I (t:Nat)),rfl⟩;rw[gH];simpa using hl
 · rintro-ρ H1 ⟨bg,hw,v10,rfl⟩;have mw:Mm (F*R) ((List.range (F*R)).filter (kG F R pc kq sd)) (kG F R pc kq sd):=(Rp.range _).2;generalize ((List.range (F*R)).filter (kG F R pc kq sd))=wl at*;refine rf ?_;refine aa.up (k:=k+2) (aa.mono (P.sQ z (st.trans bg) M hs (K sd hs) f9 (bg.at_ _ _ hb) (ownL.le bg) (foeL.le bg) hw mw) ?_);rintro-_ H2 ⟨m2,uo,ul,rfl,bJ,CF,huo,mu⟩;have gc:=bg.trans bJ;refine⟨m2,_,rfl,CF,rfl,?_⟩;refine bA ?_;refine aa.up (k:=k+4) (aa.mono (P.jx z (st.trans gc) M (A.le gc) (MM.le gc) hs hkn) ?_);rintro-_ H3 ⟨m3,rfl,cj,Hx⟩;have wL:=gc.trans cj;refine aa.up (k:=k+1) (aa.pv (P.Ak (n:=F*R) ⋯ mu (cj.at_ _ _ huo)) ?_);refine⟨by simp,CW.I5 (ai _ Hx) (af _ _) (bk.bool ⟨?_,?_⟩)⟩
   · rintro-e;simp at e
   rintro-_;have qh:Le H3 (H3++[O.tup [V.I (iX F R pc kq sd [2,3,4,5]),V.I (bi (F*R) (iD F R pc kq sd [2,3,4,5]))]]):=Le.app _ _;generalize (H3++[O.tup [V.I (iX F R pc kq sd [2,3,4,5]),V.I (bi (F*R) (iD F R pc kq sd [2,3,4,5]))]])=H4 at*;have ll:=wL.trans qh;have Ir:=cj.trans qh;refine rf ?_;refine aa.up (k:=k+3) (aa.mono (P.wK z (st.trans ll) M no hs (K sd hs) f9 (ll.at_ _ _ hb) (ownL.le ll) (foeL.le ll) ((bJ.trans Ir).at_ _ _ hw) mw (Ir.at_ _ _ huo) mu) ?_);rintro-_ H5 ⟨m5,rfl,eJ,Nv⟩;have fD:=ll.trans eJ;refine⟨m5,_,rfl,Nv,rfl,?_⟩;refine rf ?_;refine aa.up (k:=k+1) (aa.mono (P.yR z no hs (hkn sd) (fD.at_ _ _ hb)) ?_);rintro-_ H6 ⟨m6,rfl,jO,Hy⟩;have mQ:=fD.trans jO;refine⟨m6,_,rfl,Hy,rfl,?_⟩;dsimp only[List.set,sets];have cs:=yr z pc sd (kq sd);have hsh:=xa F R pc sd (kq sd);generalize vO F R pc sd (kq sd)=a at*;generalize Cg F R pc sd (kq sd)=b at*;clear Hy Nv Hx CF huo mu;refine bA ?_;refine aa.up (k:=k+5) (aa.lv (P.lN z (st.trans mQ) M (A.le mQ) (MM.le mQ) hs hkn hm) ?_);rintro-H7 Fb;have lp:=mQ.trans Fb;refine CW.ne (bk.bool ⟨fun e=>by simp at e,?_⟩);rintro-_;refine aa.up (k:=k+3) (aa.lv (P.gg z (A.le lp) hs (K sd hs)) ?_);rintro-H8 lP;have jN:=lp.trans lP;refine BW.mul (.inr nofun) (BW.add (CW.ne (bk.bool ⟨?_,?_⟩)))
   · rintro-e;rw[hsh]at e;unfold sc at e;simp at e
   rintro-_;refine⟨fun e=>(by cases e),?_⟩;rintro-_;refine au ?_;refine BW.mul (.inl nofun) ?_;refine aa.up (k:=k+1) (aa.pv P.Al ?_);refine BW.sub (P.min2 ?_);have em:min (Cj F R pc kq sd-t7 (6*a)) 5000=vz F R pc kq sd a:=rfl;rw[em];have hle:vz F R pc kq sd a≤5000:=by unfold vz;omega
   have hks:La F R pc kq sd a b=sc a b-(if 100<vz F R pc kq sd a then sc ((vz F R pc kq sd a*vz F R pc kq sd a).fdiv 4096) ((vz F R pc kq sd a).fdiv 16)else 0)-(if y2 F R pc kq sd then sc 17 95 else 0)-sc (8*(eB F R pc kq sd:Int)) 0:=rfl;have N':eB F R pc kq sd≤1000:=by
    unfold eB;have h1:=fa (F*R) (fun u=>BY F R pc kq (1-sd) 0 u&&kF F R sd (kq sd) u);have h2:=fa (F*R) (fun u=>vJ F R pc kq (1-sd) u&&kF F R sd (kq sd) u);omega
   have sco:=P.oA (k:=k) (H:=H8) z (st.trans jN) M (A.le jN) (MM.le jN) hs K hkn hm hsh cs.1 cs.2;rw[hks]at sco;generalize vz F R pc kq sd a=d at*;refine dZ ((aU.gt (Val.nm rfl) (Val.int (a:=100))).use ⟨(fun aO H'=>H8=H'∧aO=[some (.I F),some (.I R),some (.ref bo),some (.ref p),some (.ref ml),some (.I sd),some (.ref mo),some (.ref mf),some (.I (kq sd)),some (.ref H.length),v10,some (.I (iX F R pc kq sd [2,3,4,5])),some (.ref uo),some (.I d),some (.I (eB F R pc kq sd:Nat)),some (.I (Ag a d)),some (.I (Ah b d)),none,none,none,none,none,none,none,none,none,none,none,none]),?_,?_,?_⟩)
   · rintro-e K hK;have h1:100<d:=z03 e;refine aY rfl ((Val.div nofun nofun (Val.mul (.inl ⋯) (Val.nm rfl) (Val.nm rfl)) (Val.int (a:=4096))).use (IW.sub ?_));refine aY rfl ((Val.div nofun nofun (Val.nm rfl) (Val.int (a:=16))).use (IW.sub (az (hK _ _ ⟨rfl,?_⟩))));have q1:(Ag a d)=a-(d*d).fdiv 4096:=by show a-(if 100<d then _ else _)=_;rw[if_pos h1]
     have q2:(Ah b d)=b-d.fdiv 16:=by show b-(if 100<d then _ else _)=_;rw[if_pos h1]
     rw[q1,q2];rfl
   · rintro-e K hK;have h1:¬100<d:=z04 e;refine az (hK _ _ ⟨rfl,?_⟩);have q1:(Ag a d)=a:=by show a-(if 100<d then _ else _)=_;rw[if_neg h1,Int.sub_zero]
     have q2:(Ah b d)=b:=by show b-(if 100<d then _ else _)=_;rw[if_neg h1,Int.sub_zero]
     rw[q1,q2]
     rfl
   · rintro-_ _ ⟨rfl,rfl⟩;have hsc:sc a b-(if 100<d then sc ((d*d).fdiv 4096) (d.fdiv 16)else 0)=sc (Ag a d) (Ah b d):=by
      show _=sc (a-(if 100<d then(d*d).fdiv 4096 else 0)) (b-(if 100<d then d.fdiv 16 else 0));unfold sc
      split<;>omega
     rw[hsc]at sco;generalize (Ag a d)=mg at*;generalize (Ah b d)=eg at*;have BN:=jN.at_ _ _ hb;have Rr:C.T≤H8.length:=by have:=jN.len;omega
     have hnp:∀H':Hp,True:=fun _=>trivial;have hcnt:decide (cnt (F*R) (CN F pc kq sd)=0)=y2 F R pc kq sd:=by
      unfold y2;rw[z07,z00,z00,xr];have:cnt (F*R) (CN F pc kq sd)=cnt (F*R) (fun u=>kb pc 1 u&&rX F (kq sd) u):=dB<|by
       rintro-u hu;show(decide ((pc u).fmod 8=1)&&(decide (((((u % F:Nat):Int)-((kq sd % F:Nat):Int)).natAbs:Int)<3)&&true))=_;unfold kb rX;rw[Int.fmod_eq_emod_of_nonneg _ nofun,z07];simp only[z01,Bool.and_true,z00];generalize ((((u % F:Nat):Int)-((kq sd % F:Nat):Int)).natAbs)=x;omega
      rw[this]
     have fF:0<F:=by have:=z.f1;omega
     have rp:=Rp.range (n:=F*R) (CN F pc kq sd);have hx:∀(l:List Nat),(!(nl l).isEmpty)=!l.isEmpty:=fun l=>by cases l<;>rfl
     have test:∀(Q:Bool→Hp→Prop),(∀H',Le H8 H'→Q (y2 F R pc kq sd) H')→wT C (k+6) (.iC (.bf (.lc [none,none,none,some 2,some 0,some 8] 1 (.K (s "range") (.C (.K (s "len") (.C (.V 2) .N)) .N)) (.cx (.C (.aD .Eq (.B .Mod (.sub (.V 3) (.V 1)) (.I 8)) (.I 1)) (.C (.aD .Lt (.K (s "abs") (.C (.B .Sub (.B .Mod (.V 1) (.V 4)) (.B .Mod (.V 5) (.V 4))) .N)) (.I 3)) .N))) (.V 1)))) [some (.I F),some (.I R),some (.ref bo),some (.ref p),some (.ref ml),some (.I sd),some (.ref mo),some (.ref mf),some (.I (kq sd)),some (.ref H.length),v10,some (.I (iX F R pc kq sd [2,3,4,5])),some (.ref uo),some (.I d),some (.I (eB F R pc kq sd:Nat)),some (.I mg),some (.I eg),none,none,none,none,none,none,none,none,none,none,none,none] H8 Q:=by
      rintro-Q q;refine DF (qH (BL nofun (kN ((Val.sY P BN ⋯ (Val.nm rfl)).use (P.gd ⟨List.range (F*R),(CN F pc kq sd),Src.range (af _ _) ⋯,by simp;omega,by simp;omega,?_,?_⟩)))))
      · rintro-u mZ H' fC;dsimp only[aW,List.map,List.set];have hun:=List.mem_range.mp mZ;have om:=fC.at_ _ _ (ai (O.range 0 ((F*R:Nat):Int) 1) BN);exact aU.and (bb.cons (aU.eq (Val.mod nofun (Val.tab om hun ⋯ (Val.nm rfl) (Val.nm rfl) rfl) (Val.int (a:=8))) (Val.int (a:=1))) fun _=>bb.cons (aU.lt (Val.abs P (Val.sub (Val.u0 fF (Val.nm rfl) (Val.nm rfl)) (Val.u0 fF (Val.nm rfl) (Val.nm rfl)))) (Val.int (a:=3))) fun _=>bb.nil)
      · refine bk.list (af _ _) (by rw[aJ];have:=rp.le;omega) ?_;rw[hx,rp.2.empty,hcnt];show Q (! !y2 F R pc kq sd) _;rw[Bool.not_not];exact q _ ((Le.app _ _).aS _)
     refine dZ (test _ ?_);rintro-H9 Av;refine⟨(fun aO H'=>Le H8 H'∧aO=[some (.I F),some (.I R),some (.ref bo),some (.ref p),some (.ref ml),some (.I sd),some (.ref mo),some (.ref mf),some (.I (kq sd)),some (.ref H.length),v10,some (.I (iX F R pc kq sd [2,3,4,5])),some (.ref uo),some (.I d),some (.I (eB F R pc kq sd:Nat)),some (.I (mg-(if y2 F R pc kq sd then 17 else 0))),some (.I (eg-(if y2 F R pc kq sd then 95 else 0))),none,none,none,none,none,none,none,none,none,none,none,none]),?_,?_,?_⟩
     · rintro-e K hK;refine aY rfl (Val.int.use (IW.sub ?_));refine aY rfl (Val.int.use (IW.sub (az (hK _ _ ⟨Av,?_⟩))));rw[e];rfl
     · rintro-e K hK;refine az (hK _ _ ⟨Av,?_⟩);rw[e,if_neg nofun,if_neg nofun,Int.sub_zero,Int.sub_zero]
     · rintro-_ Oo ⟨Lf,rfl⟩;have xM:=jN.trans Lf;have sco:=P.oA (k:=k) (H:=Oo) z (st.trans xM) M (A.le xM) (MM.le xM) hs K hkn hm hsh cs.1 cs.2;refine aM ?_;refine aa.lv sco ?_;rintro-Rf Lg;refine BW.mul (.inr nofun) (BW.add (BW.mul (.inl nofun) (BW.sub (CW.eq ⟨?_,xM.trans Lg⟩))))
       congr 1
       refine decide_eq_true ?_;rw[hks,hsc];unfold sc
       split<;>omega
end
def br (pc:Nat→Int) (x:Nat) (v:Int) (u:Nat):Int:=if u=x then v else pc u
theorem tC {n x:Nat} {pc:Nat→Int} {v:Int} (hx:x<n):(il ((List.range n).map pc)).set x (.I v)=il ((List.range n).map (br pc x v)):=
 kA hx (by unfold br;rw[if_pos rfl]) fun i _ h=>by unfold br;rw[if_neg h]
theorem rJ {n x:Nat} {p q:Nat→Bool} (h:∀u,u≠x→p u=q u):cnt n p≤cnt n q+1:=by
 induction n with
 |zero=>simp[cnt]
 |succ n ih=>
  rw[cX,cX]
  by_cases hx:n=x
  · subst hx;have:cnt n p=cnt n q:=dB fun u hu=>h u ⋯;rw[this];split<;>split<;>omega
  · rw[h n hx];omega
structure Bd (F R:Nat) (pc:Nat→Int) (k0 k1 c:Nat):Prop where
 m:fz (F*R) pc
 no:jk F R pc
 k0:bW (F*R) pc 0 k0
 k1:bW (F*R) pc 1 k1
 f9:cnt (F*R) (gB pc)≤c
theorem Bd.put {F R:Nat} {pc:Nat→Int} {k0 k1 c x:Nat} {kd cl:Int} (b:Bd F R pc k0 k1 c) (hx:x<F*R) (h0:pc x=0) (hk:1≤kd∧kd≤5) (hc:cl=0∨cl=8) (hp:kd=1→1≤x/F∧x/F+1<R):Bd F R (br pc x (kd+cl)) k0 k1 (c+1):=by
 have KD:k0≠x:=fun e=>by have:=(b.k0.2 k0 b.k0.1).mpr rfl;rw[e,h0]at this;omega
 have KG:k1≠x:=fun e=>by have:=(b.k1.2 k1 b.k1.1).mpr rfl;rw[e,h0]at this;omega
 refine⟨fun t ht=>?_,fun t ht h8=>?_,⟨b.k0.1,fun t ht=>?_⟩,⟨b.k1.1,fun t ht=>?_⟩,?_⟩
 · unfold br;split
   · rcases hc with rfl|rfl
     · exact .inr (.inl ⋯)
     · exact .inr (.inr ⋯)
   · exact b.m t ht
 · unfold br at h8
   split at h8
   · rename_i e;subst e;exact hp ⋯
   · exact b.no t ht h8
 · unfold br;split
   · rename_i e;subst e
     exact⟨fun h=>⋯,fun h=>absurd h.symm KD⟩
   · exact b.k0.2 t ht
 · unfold br;split
   · rename_i e;subst e
     exact⟨fun h=>⋯,fun h=>absurd h.symm KG⟩
   · exact b.k1.2 t ht
 · refine z20 (rJ (q:=gB pc) (x:=x) fun u hu=>?_) (Nat.add_le_add_right b.f9 1);unfold gB br;rw[if_neg hu]
theorem Bd.zero {F R k0 k1:Nat} (h0:k0<F*R) (h1:k1<F*R) (hne:k0≠k1):Bd F R (br (br (fun _=>0) k0 6) k1 14) k0 k1 2:=by
 have v:∀t,br (br (fun _=>0) k0 6) k1 14 t=if t=k1 then 14 else if t=k0 then 6 else 0:=fun t=>rfl
 refine⟨fun t ht=>?_,fun t ht h8=>?_,⟨h0,fun t ht=>?_⟩,⟨h1,fun t ht=>?_⟩,?_⟩
 · rw[v];split
   · omega
   · split<;>omega
 · rw[v]at h8
   split at h8
   · omega
   · split at h8<;>omega
 · rw[v];split
   · rename_i e;subst e;exact⟨fun h=>⋯,fun h=>absurd h.symm hne⟩
   · split
     · rename_i e;subst e;exact⟨fun _=>rfl,fun _=>by decide⟩
     · rename_i e;exact⟨fun h=>⋯,fun h=>absurd h e⟩
 · rw[v];split
   · rename_i e;subst e;exact⟨fun _=>rfl,fun _=>by decide⟩
   · rename_i e
     split
     · exact⟨fun h=>⋯,fun h=>absurd h e⟩
     · exact⟨fun h=>⋯,fun h=>absurd h e⟩
 · refine z20 (rJ (q:=gB (br (fun _=>0) k0 6)) (x:=k1) fun u hu=>by unfold gB br;rw[if_neg hu]) ?_;have h2:cnt (F*R) (gB (br (fun _=>0) k0 6))≤cnt (F*R) (fun _=>false)+1:=rJ (x:=k0) fun u hu=>by unfold gB br;rw[if_neg hu];rfl
   have h3:cnt (F*R) (fun _=>false)=0:=by unfold cnt;simp
   omega
theorem oW (xs:List Int) (lo hi:Option Int):∃ys,q5 (il xs) lo hi=il ys∧ys.length≤((sliceBounds lo hi none xs.length).2.1-(sliceBounds lo hi none xs.length).1).toNat:=by
 injection xs lo hi;refine⟨(sliceRange (sliceBounds lo hi none xs.length).1 (sliceBounds lo hi none xs.length).2.1 (sliceBounds lo hi none xs.length).2.2).filterMap (xs[·]?),?_,?_⟩
 · unfold q5 il;rw[List.length_map,List.map_filterMap]
   congr 1
   funext i
   rw[z11]
 · refine z20 (List.length_filterMap_le _ _) ?_;have e3:(sliceBounds lo hi none xs.length).2.2=1:=rfl;rw[e3];unfold sliceRange;rw[List.length_map,List.length_range];simp only[show(1:Int)>0 by decide,if_true]
   split<;>omega
theorem HW {n k0 r:Nat} (hk:k0<n) (hr:r<n-1):∃k1:Nat,k1<n∧((k0:Int)+1+(r:Nat)).fmod (n:Int)=(k1:Nat)∧k0≠k1:=by
 rw[show(k0:Int)+1+(r:Nat)=((k0+1+r:Nat):Int) from rfl,cJ];refine⟨_,Nat.mod_lt _ (z24 (Nat.zero_le _) hk),rfl,?_⟩
 by_cases h:k0+1+r<n
 · rw[Nat.mod_eq_of_lt h];exact Nat.ne_of_lt (z19 (Nat.lt_succ_self k0) (Nat.le_add_right _ _))
 · obtain⟨c,hc⟩:=Nat.exists_eq_add_of_le (Nat.not_lt.mp h);have:c<k0:=⋯
   rw[hc,Nat.add_mod_left,Nat.mod_eq_of_lt (Nat.lt_trans this hk)];exact Nat.ne_of_gt this
theorem eV {x:Int} {n:Nat} (hn:0<n):∃w:Nat,w<n∧x.fmod n=(w:Nat):=by
 have h1:=Int.emod_nonneg x (show(n:Int)≠0 by omega);have h2:=Int.emod_lt_of_pos x (show(0:Int)<n by omega);refine⟨(x % n).toNat,⋯,?_⟩;rw[Int.fmod_eq_emod_of_nonneg _ ⋯];omega
section
variable {C:Cx} (P:Pg C) {k:Nat} {H:Hp} {F R:Nat}
include P
theorem Pg.yQ (z:Sz F R) {no:Nat} {xs:List Int} (hx:xs.length≤9) (hl:H[no]? =some (.L (il xs))):aa C (k+1) (s "_law_board") [.I F,.I R,.ref no] H (fun v H'=>∃o pc k0 k1,v=.ref o∧Le H H'∧H'[o]? =some (tab (F*R) pc)∧Bd F R pc k0 k1 16):=by
 injection C k H F R no xs with P z hx hl
 have hn:=z.n;have z':=z;obtain(⟨f1,f2,r1,r2⟩):=z';have Ry:9≤F*R:=Nat.mul_le_mul f1 r1;refine P.sj ?_;rintro-hT;unfold lV;refine au ((Val.mul (.inl ⋯) (Val.nm rfl) (Val.nm rfl)).use ?_);have em:(F:Int)*R=((F*R:Nat):Int):=by push_cast;rfl
 rw[em];refine au ?_;refine⟨by simp,P.len (ai _ hl) (by rw[aX];omega) ⟨_,rfl,_,_,rfl,af _ _,by simp,?_⟩⟩;obtain(⟨tl,etl,htl⟩):=oW [0,9] (some ((il xs).length:Nat)) none;have F1:q5 [V.I 0,V.I 9] (some ((il xs).length:Nat)) none=il tl:=etl;have PQ:tl.length≤2∧2≤xs.length+tl.length:=by
  rw[aX]at F1 htl;refine⟨?_,?_⟩
  · unfold sliceBounds at htl;simp only[Option.getD_none,show(1:Int)>0 by decide,if_true,List.length_cons,List.length_nil]at htl;exact z20 htl (Int.toNat_le.mpr (Int.sub_le_self _ (Int.le_max_left ..)))
  · by_cases h0:xs.length=0
    · rw[h0]at F1;have:[V.I 0,V.I 9]=il tl:=F1;have:=congrArg List.length this;rw[aX]at this;simp at this;omega
    · by_cases h1:xs.length=1
      · rw[h1]at F1;have:[V.I 9]=il tl:=F1;have:=congrArg List.length this;rw[aX]at this;simp at this;omega
      · omega
 rw[F1];refine BW.E9 (ai _ (ai _ hl)) (af _ _) (by rw[aX,aX];omega) ?_;have eil:il xs++il tl=il (xs++tl):=by simp[il]
 rw[eil];have bg:Le H (H++[O.L [V.I 0,V.I 9]]++[O.L (il tl)]++[O.L (il (xs++tl))]):=((Le.app _ _).aS _).aS _;have hns:=af (H++[O.L [V.I 0,V.I 9]]++[O.L (il tl)]) (O.L (il (xs++tl)));generalize hlns:xs++tl=ns at*;have hnl:2≤ns.length∧ns.length≤11:=by rw[←hlns,z12];omega
 generalize (H++[O.L [V.I 0,V.I 9]]++[O.L (il tl)]++[O.L (il ns)])=H1 at*;generalize (H++[O.L [V.I 0,V.I 9]]++[O.L (il tl)]).length=nn at*;have z6:C.T≤H1.length:=by have:=bg.len;omega
 refine au (jz (vQ Val.int ((Val.nm rfl).use (BW.mR (af _ _) ⋯ ⋯ ?_))));have e0:O.L (List.replicate ((F*R:Nat):Int).toNat (V.I 0))=tab (F*R) (fun _=>0):=by
  unfold tab
  congr 1
  rw[z02]
  apply List.ext_getElem?
  rintro-i;unfold il;rw[z11,z11]
  by_cases hi:i<F*R
  · rw[List.getElem?_range hi,List.getElem?_replicate,if_pos hi];rfl
  · rw[List.getElem?_replicate,if_neg hi,List.getElem?_eq_none (by simp;omega)];rfl
 rw[e0];have bJ:Le H1 (H1++[O.L [V.I 0]]++[tab (F*R) (fun _=>0)]):=(Le.app _ _).aS _;have hB:=af (H1++[O.L [V.I 0]]) (tab (F*R) (fun _=>0));have hBl:(H1++[O.L [V.I 0]]).length=H1.length+1:=by simp
 generalize (H1++[O.L [V.I 0]]++[tab (F*R) (fun _=>0)])=H2 at*;generalize (H1++[O.L [V.I 0]]).length=B at*;obtain(⟨a0,Pp⟩):∃a,ns[0]? =some a:=⟨_,z05 ⋯⟩;obtain(⟨a1,Js⟩):∃a,ns[1]? =some a:=⟨_,z05 ⋯⟩;have nsV:∀{ρ:List (Option V)} {H':Hp} {i:Nat} {a:Int} {e:ME} {b:Int},Le H1 H'→ns[i]? =some a→ρ[2]? =some (some (.ref nn))→Val C k e ρ H' (.I b)→b=i→Val C k (.sub (.V 2) e) ρ H' (.I a):=fun le h h2 he eb=>Val.at (le.at_ _ _ hns) (DN h) (by rw[aX];omega) (Val.nm h2) he eb;obtain(⟨k0,Ku,O0⟩):=eV (x:=a0) (show 0<F*R by omega);refine au ((Val.mod ⋯ (nsV bJ Pp rfl Val.int rfl) (Val.nm rfl)).use ?_);rw[O0];dsimp only[List.set];refine dI (Val.int.use ((Val.nm rfl).use ((Val.nm rfl).use (iV.list ⋯ hB ⋯ (by rw[aX];simp;omega) ⋯ ?_))));rw[z02,tC Ku];have Nj:=get_set (.L (il ((List.range (F*R)).map (br (fun _=>0) k0 6)))) hB;have cj:Le H1 (H2.set B (.L (il ((List.range (F*R)).map (br (fun _=>0) k0 6))))):=bJ.set ⋯ _;generalize (H2.set B (.L (il ((List.range (F*R)).map (br (fun _=>0) k0 6)))))=H3 at*;obtain(⟨r,hr,er⟩):=eV (x:=a1) (n:=F*R-1) ⋯;have O4:((F*R:Nat):Int)-1=((F*R-1:Nat):Int):=⋯
 obtain(⟨k1,pD,O1,hne⟩):=HW (n:=F*R) Ku hr;refine dI (Val.int.use ((Val.nm rfl).use ((Val.mod ⋯ (Val.add (Val.add (Val.nm rfl) (Val.int (a:=1))) ((Val.mod ⋯ (nsV cj Js rfl Val.int rfl) (Val.sub (Val.nm rfl) (Val.int (a:=1)))).to (b:=(r:Nat)) (by rw[O4,er]))) (Val.nm rfl)).use ?_)));rw[O1];refine iV.list ⋯ Nj ⋯ (by rw[aX];simp;omega) ⋯ ?_;rw[z02,tC pD];have Nk:=get_set (.L (il ((List.range (F*R)).map (br (br (fun _=>0) k0 6) k1 14)))) Nj;have de:Le H1 (H3.set B (.L (il ((List.range (F*R)).map (br (br (fun _=>0) k0 6) k1 14))))):=cj.set ⋯ _;generalize (H3.set B (.L (il ((List.range (F*R)).map (br (br (fun _=>0) k0 6) k1 14)))))=H4 at*;have bz:=Bd.zero (R:=R) (F:=F) Ku pD hne;obtain(⟨ys,eys,hys⟩):=oW ns (some 2) none;have hysl:ys.length≤11:=by
  unfold sliceBounds at hys;simp only[Option.getD_none,show(1:Int)>0 by decide,if_true]at hys;exact z20 (z20 hys (Int.toNat_le.mpr (Int.sub_le_self _ (Int.le_max_left ..)))) hnl.2
 refine md ?_;refine⟨_,rfl,nn,_,rfl,de.at_ _ _ hns,by rw[aX];omega,?_⟩;rw[eys];have hBlt:=aV Nk;refine⟨H4.length,il ys,(fun i ρ H'=>A4 (Le H1 H') (H'[H4.length]? =some (.L (il ys))) ((∃pc,H'[B]? =some (tab (F*R) pc)∧Bd F R pc k0 k1 (2+i))) (∃v6 v7 v8 v9,ρ=[some (.I F),some (.I R),some (.ref nn),some (.I (F*R:Nat)),some (.ref B),some (.I (k0:Nat)),v6,v7,v8,v9,none])),rfl,af _ _,⟨de.aS _,af _ _,⟨_,ai _ Nk,bz⟩,none,none,none,none,rfl⟩,fun i ρ H' hI=>hI.2,?_,?_⟩
 · rintro-i x ρ H5 Gb ⟨eJ,hyl,⟨pc,hpc,bd⟩,v6,v7,v8,v9,rfl⟩;obtain(⟨x,rfl⟩):∃a,x=V.I a:=by
    unfold il at Gb;rw[z11]at Gb
    cases q:ys[i]? with
    |none=>rw[q]at Gb;cases Gb
    |some a=>rw[q]at Gb;cases Gb;exact⟨a,rfl⟩
   obtain(⟨sq,hsq,esq⟩):=eV (x:=x) (show 0<F*R by omega);obtain(⟨kd,i5,ekd⟩):=eV (x:=x.fdiv ((F*R:Nat):Int)) (show 0<5 by decide);obtain(⟨cl,hcl,ecl⟩):=eV (x:=x.fdiv (((F*R:Nat):Int)*5)) (show 0<2 by decide);refine au ((Val.mod ⋯ (Val.nm rfl) (Val.nm rfl)).use ?_);rw[esq];refine au ((Val.add (Val.int (a:=1)) ((Val.mod nofun (Val.div ⋯ ⋯ (Val.nm rfl) (Val.nm rfl)) (Val.int (a:=5))).to (b:=(kd:Nat)) ekd)).use ?_);refine au ?_;have sqd:((sq:Int)).fdiv (F:Int)=((sq/F:Nat):Int):=dN _ _;have hor:∀Q:V→Hp→Prop,Q (.bool (decide (sq/F=0∨sq/F=R-1))) H5→wE C k (.DY (.cmp .Eq (.B .FloorDiv (.V 7) (.V 0)) (.I 0)) (.cmp .Eq (.B .FloorDiv (.V 7) (.V 0)) (.B .Sub (.V 1) (.I 1)))) [some (.I F),some (.I R),some (.ref nn),some (.I (F*R:Nat)),some (.ref B),some (.I (k0:Nat)),some (.I x),some (.I (sq:Nat)),some (.I (1+(kd:Nat))),v9,none] H5 Q:=by
    rintro-Q q;refine BW.div ⋯ ⋯ (CW.eq (bk.bool ⟨?_,?_⟩))
    · rintro-e;rw[e];rw[sqd]at e;have h:=z03 e;have:decide (sq/F=0∨sq/F=R-1)=true:=decide_eq_true (.inl ⋯);rw[this]at q;exact q
    · rintro-e;rw[sqd]at e;have h:=z04 e;refine BW.div ⋯ ⋯ (BW.sub (CW.eq ?_));rw[sqd];have:decide (((sq/F:Nat):Int)=(R:Int)-1)=decide (sq/F=0∨sq/F=R-1):=by
       rw[z07,z00,z00];generalize sq/F=y at*;omega
      rw[this];exact q
   refine hor _ ?_;dsimp only[List.set];have pcV:=Val.tab (C:=C) (k:=k) (ρ:=[some (.I F),some (.I R),some (.ref nn),some (.I (F*R:Nat)),some (.ref B),some (.I (k0:Nat)),some (.I x),some (.I (sq:Nat)),some (.I (1+(kd:Nat))),some (.bool (decide (sq/F=0∨sq/F=R-1))),none]) hpc hsq ⋯ (Val.nm (j:=4) rfl) (Val.nm (j:=7) rfl) rfl;have c:=aU.and (bb.cons (aU.eq pcV (Val.int (a:=0))) fun _=>bb.cons (aU.not (aU.and (bb.cons (aU.eq (Val.nm (j:=8) rfl) (Val.int (a:=1))) fun _=>bb.cons (aU.I' (Val.nm (j:=9) rfl)) fun _=>bb.nil))) fun _=>bb.nil);refine bA (c.use ⟨?_,?_⟩)
   · rintro-e;simp only[Bool.and_true,z01,z00,Bool.not_eq_true',Bool.and_eq_false_iff,decide_eq_false_iff_not]at e;refine dI ((Val.add (Val.nm rfl) (Val.mul (.inr nofun) ((Val.mod nofun (Val.div ⋯ ⋯ (Val.nm rfl) (Val.mul (.inr nofun) (Val.nm rfl) (Val.int (a:=5)))) (Val.int (a:=2))).to (b:=(cl:Nat)) ecl) (Val.int (a:=8)))).use ((Val.nm rfl).use ((Val.nm rfl).use (iV.list ⋯ hpc ⋯ (by rw[aX];simp;omega) ⋯ (az (nx (az ⟨eJ.set ⋯ _,ae _ ⋯ hyl,⟨br pc sq ((1+(kd:Int))+(cl:Int)*8),?_,?_⟩,_,_,_,_,rfl⟩)))))))
     · rw[get_set _ hpc,z02,tC hsq];rfl
     · have hr:=z30 hsq;refine bd.put hsq e.1 ⋯ ⋯ ?_;rintro-h;rcases e.2 with h2|h2
       · exact absurd h h2
       · generalize sq/F=y at*;omega
   · rintro-e;refine az ⟨eJ,hyl,⟨pc,hpc,bd.m,bd.no,bd.k0,bd.k1,by have:=bd.f9;omega⟩,_,_,_,_,rfl⟩
 · rintro-ρ H5 ⟨eJ,hyl,⟨pc,hpc,bd⟩,v6,v7,v8,v9,rfl⟩;refine aM ?_;exact⟨B,pc,k0,k1,rfl,bg.trans eJ,hpc,bd.m,bd.no,bd.k0,bd.k1,by have:=bd.f9;rw[aX]at this;omega⟩
end
section
variable {C:Cx} (P:Pg C) {k:Nat} {H:Hp}
include P
theorem Pg.IZ {L:Hp} {c:Addr} {fs:List (Str×V)} {a:Str} {t o:O} {Q:Hp→Prop} (hT:C.T≤H.length) (hk:storeOk (KC C.w.params) c a=true) (hz:decide (fs.length<1000)=true) (h:Q (H++.inst c (jA a (.ref (H.length+(L.length+2))) fs)::(L++[t,o]))):pB C k (H++.inst c fs::L++[t]++[o]) (.ref H.length) a (.ref (H++.inst c fs::L++[t]).length) Q:=by
 have e:(H++.inst c fs::L++[t]++[o])=H++.inst c fs::(L++[t,o]):=by simp
 have e2:(H++O.inst c fs::L++[t]).length=H.length+(L.length+2):=by simp
 rw[e,e2];exact P.sg hT hk hz h
theorem Pg.wO {a b c d:V}:aa C (k+2) (s "Zobrist") [a,b,c,d] H (fun v H'=>v=.ref H.length∧H'=H++[.inst 575 [(s "pieces",a),(s "ep",b),(s "rights",c),(s "side",d)]]):=by
 refine P.wm fun hT=>?_;unfold gP;refine P.sg (L:=[]) hT ∅ ∅ (P.sg hT ∅ ∅ (P.sg hT ∅ ∅ (P.sg hT ∅ ∅ ⟨rfl,rfl,?_⟩)))
 kernel_rfl
theorem Pg.uY {F R g zo:Nat} (z:Sz F R) (G:kH F R g H):aa C (k+2) (s "Position") [.ref g,.ref zo] H (fun v H'=>v=.ref H.length∧
 H'=H++[.inst 242 (ki g zo (H.length+2) (H.length+4) (H.length+5) (H.length+6) 0 0),.L [.I 0],.L (List.replicate (F*R) (.I 0)),.L [.I 0],.L (List.replicate 7 (.I 0)),.L [.I 0,.I 0],.L []]):=by
 injection C k H F R g zo with P z G
 have hn:=z.n;obtain(⟨kg,rla,rs,G⟩):=G;have leT:∀T:Hp,Le H (H++T):=fun T=>⟨fun n u e=>by rw[z09 (z06.mp e).1];exact e⟩;refine P.uu ?_;rintro-hT;unfold gr;refine P.sg (L:=[]) hT ∅ ∅ (P.sg hT ∅ ∅ ⟨_,P.Dr,by simp,?_⟩);refine P.fc (F:=F) (R:=R) (kga:=kg) (rla:=rla) (G.o.le ((leT _).aS _)) (BW.mR (af _ _) ⋯ ⋯ (P.IZ hT ∅ ∅ ⟨by simp,BW.mR (af _ _) nofun nofun (P.IZ hT ∅ ∅ ⟨by simp,P.Dd hT ∅ ∅ ⟨_,P.gj,P.sg hT ∅ ∅ (P.sg hT ∅ ∅ (UW.neg (P.sg hT ∅ ∅ (P.sg hT ∅ ∅ (P.sg hT ∅ ∅ (P.sg hT ∅ ∅ ⟨by simp,P.Dd hT ∅ ∅ ⟨rfl,rfl,?_⟩⟩))))))⟩⟩)⟩));rw[z02]
 kernel_rfl
theorem Pg.Dg {v:Int} {sd kd:Nat} (h:v=8*sd+kd) (hs:sd<2) (hk:kd≤7):aa C (k+1) (s "side_of") [.I v] H (fW (.I sd) H):=by
 refine P.wD fun _=>?_;unfold qX;refine aM ?_;refine BW.shr nofun ⟨?_,rfl⟩;have:(2:Int)^(3:Int).toNat=8:=rfl;rw[this,z16 _ nofun]
 congr 1;omega
theorem Pg.CL {v:Int} {sd kd:Nat} (h:v=8*sd+kd) (hs:sd<2) (hk:kd≤6):aa C (k+1) (s "kind_of") [.I v] H (fW (.I kd) H):=by
 refine P.wy fun _=>?_;unfold qR;refine aM ?_;refine BW.and ⟨?_,rfl⟩;subst h;have:∀sd:Nat,sd<2→∀kd:Nat,kd≤6→Builtin.bitAnd (8*(sd:Int)+(kd:Int)) 7=(kd:Int):=by
  intro sd hs kd hk;have h1:sd=0∨sd=1:=⋯
  have h2:kd=0∨kd=1∨kd=2∨kd=3∨kd=4∨kd=5∨kd=6:=⋯
  rcases h1 with rfl|rfl<;>rcases h2 with rfl|rfl|rfl|rfl|rfl|rfl|rfl<;>rfl
 rw[this sd hs kd hk]
end
structure vI (F R p g zo bo ka sa hi zp:Nat) (rs:List Nat) (q:Nat→Int) (key:Int) (H:Hp):Prop where
 ord:p<bo∧bo<ka∧ka<sa∧zo<p∧zp<p∧∀r∈rs,r<p
 o:H[p]? =some (.inst 242 (ki g zo bo ka sa hi 0 key))
 b:∃ys,H[bo]? =some (.L ys)∧ys.length=F*R
 fk:H[ka]? =some (tab 7 fun kd=>bi (F*R) (kb q kd))
 fs:H[sa]? =some (tab 2 fun sd=>bi (F*R) (sb q sd))
 z:∃a b c,H[zo]? =some (.inst 575 [(s "pieces",.ref zp),(s "ep",a),(s "rights",b),(s "side",c)])
 zl:H[zp]? =some (.L (refs rs))
 zr:rs.length=15∧∀i,i<15→∃r,rs[i]? =some r∧H[r]? =some (tab (F*R) fun _=>0)
theorem vI.le {F R p g zo bo ka sa hi zp:Nat} {rs:List Nat} {q:Nat→Int} {key:Int} {H H':Hp} (h:vI F R p g zo bo ka sa hi zp rs q key H) (l:Le H H'):vI F R p g zo bo ka sa hi zp rs q key H':=
 ⟨h.ord,l.at_ _ _ h.o,let⟨y,a,b⟩:=h.b;⟨y,l.at_ _ _ a,b⟩,l.at_ _ _ h.fk,l.at_ _ _ h.fs,let⟨a,b,c,d⟩:=h.z;⟨a,b,c,l.at_ _ _ d⟩,l.at_ _ _ h.zl,h.zr.1,fun i hi=>let⟨r,a,b⟩:=h.zr.2 i hi;⟨r,a,l.at_ _ _ b⟩⟩
section
variable {C:Cx} (P:Pg C) {k:Nat} {H:Hp} {F R:Nat}
include P
theorem Pg.y5 (z:Sz F R) {p g zo bo ka sa hi zp t sd kd:Nat} {rs:List Nat} {q:Nat→Int} {key v:Int} (B:vI F R p g zo bo ka sa hi zp rs q key H) (hp:C.T≤p) (hv:v=8*sd+kd) (hs:sd<2) (h1:1≤kd) (h6:kd≤6) (ht:t<F*R) (h0:q t=0):
 aa C (k+2) (s "put_piece") [.ref p,.I v,.I t] H (fun w H'=>w=.none∧(∃EY,vI F R p g zo bo ka sa hi zp rs (br q t v) EY H')∧∀H0,Le H0 H→H0.length≤p→Le H0 H'):=by
 injection C k H F R p g zo bo ka sa hi zp t sd kd rs q key v with P z B hp hv hs h1 h6 ht h0
 have hn:=z.n;obtain(⟨o1,o2,o3,o4,o5,o6⟩):=B.ord;obtain(⟨ys,hys,hyl⟩):=B.b;refine P.sx ?_;rintro-hT;unfold l4;refine au ?_;refine BW.shl ⋯ ⋯ nofun ?_;have e1:(1:Int)*2^((t:Nat):Int).toNat=2^t:=by rw[z02];omega
 rw[e1];refine dI ?_;refine eM.field (y:=.ref bo) B.o (by rw[P.K];kernel_rfl) ∅ (iV.list ⋯ hys ⋯ ⋯ ⋯ ?_);have b1:=B.o;have hpl:=aV b1;have MY:=ae (m:=bo) (.L (ys.set ((t:Nat):Int).toNat (.I v))) ⋯ b1;have KX:=ae (m:=bo) (.L (ys.set ((t:Nat):Int).toNat (.I v))) ⋯ B.fk;have QO:=ae (m:=bo) (.L (ys.set ((t:Nat):Int).toNat (.I v))) ⋯ B.fs;have Q5:=get_set (.L (ys.set ((t:Nat):Int).toNat (.I v))) hys;obtain(⟨za,zb,zc,hz⟩):=B.z;have Q8:=ae (m:=bo) (.L (ys.set ((t:Nat):Int).toNat (.I v))) ⋯ hz;have Q_:=ae (m:=bo) (.L (ys.set ((t:Nat):Int).toNat (.I v))) ⋯ B.zl;have Rb:∀i,i<15→∃r,rs[i]? =some r∧(H.set bo (.L (ys.set ((t:Nat):Int).toNat (.I v))))[r]? =some (tab (F*R) fun _=>0):=fun i hi=>let⟨r,a,b⟩:=B.zr.2 i hi;⟨r,a,ae _ (by have:=o6 r (z08 a);omega) b⟩
 have Iv:∀H0,Le H0 H→H0.length≤p→Le H0 (H.set bo (.L (ys.set ((t:Nat):Int).toNat (.I v)))):=fun H0 l h=>l.set ⋯ _;generalize (H.set bo (.L (ys.set ((t:Nat):Int).toNat (.I v))))=H1 at*;refine eX ?_;refine eM.field (y:=.ref ka) MY (by rw[P.K];kernel_rfl) ∅ ?_;refine aa.pv (P.CL (k:=k) hv hs h6) ?_;have ek:∀i,i<7→i≠kd→bi (F*R) (kb q i)=bi (F*R) (kb (br q t v) i):=fun i hi hne=>bK<|by
  rintro-u hu;unfold kb br
  by_cases h:u=t
  · subst h;rw[if_pos rfl,h0,hv,z07];simp;omega
  · rw[if_neg h]
 have O2:Builtin.bitOr (bi (F*R) (kb q kd)) (2^t)=bi (F*R) (kb (br q t v) kd):=aE<|by
  rintro-u;rw[bt,aq,aq,dR];unfold kb br
  by_cases h:u=t
  · subst h;rw[if_pos rfl,h0,hv,z07];simp;omega
  · rw[if_neg h];simp[h]
 refine aG KX (t:=kd) ⋯ nofun rfl (IW.or (iV.list ⋯ KX ⋯ (by rw[aX];simp;omega) ⋯ ?_));rw[O2,z02,kA (g:=fun kd=>bi (F*R) (kb (br q t v) kd)) ⋯ rfl ek];have MZ:=ae (m:=ka) (.L (il ((List.range 7).map fun kd=>bi (F*R) (kb (br q t v) kd)))) ⋯ MY;have L_:=ae (m:=ka) (.L (il ((List.range 7).map fun kd=>bi (F*R) (kb (br q t v) kd)))) ⋯ QO;have Q6:=ae (m:=ka) (.L (il ((List.range 7).map fun kd=>bi (F*R) (kb (br q t v) kd)))) ⋯ Q5;have Q9:=ae (m:=ka) (.L (il ((List.range 7).map fun kd=>bi (F*R) (kb (br q t v) kd)))) ⋯ Q8;have Ra:=ae (m:=ka) (.L (il ((List.range 7).map fun kd=>bi (F*R) (kb (br q t v) kd)))) ⋯ Q_;have Rc:∀i,i<15→∃r,rs[i]? =some r∧(H1.set ka (.L (il ((List.range 7).map fun kd=>bi (F*R) (kb (br q t v) kd)))))[r]? =some (tab (F*R) fun _=>0):=fun i hi=>let⟨r,a,b⟩:=Rb i hi;⟨r,a,ae _ (by have:=o6 r (z08 a);omega) b⟩
 have PV:=get_set (.L (il ((List.range 7).map fun kd=>bi (F*R) (kb (br q t v) kd)))) KX;have yY:∀H0,Le H0 H→H0.length≤p→Le H0 (H1.set ka (.L (il ((List.range 7).map fun kd=>bi (F*R) (kb (br q t v) kd))))):=fun H0 l h=>(Iv H0 l h).set ⋯ _;generalize (H1.set ka (.L (il ((List.range 7).map fun kd=>bi (F*R) (kb (br q t v) kd)))))=H2 at*;refine eX ?_;refine eM.field (y:=.ref sa) MZ (by rw[P.K];kernel_rfl) ∅ ?_;refine aa.pv (P.Dg (k:=k) hv hs ⋯) ?_;have es:∀i,i<2→i≠sd→bi (F*R) (sb q i)=bi (F*R) (sb (br q t v) i):=fun i hi hne=>bK<|by
  rintro-u hu;unfold sb br
  by_cases h:u=t
  · subst h;rw[if_pos rfl,h0,hv,z07];simp;omega
  · rw[if_neg h]
 have O8:Builtin.bitOr (bi (F*R) (sb q sd)) (2^t)=bi (F*R) (sb (br q t v) sd):=aE<|by
  rintro-u;rw[bt,aq,aq,dR];unfold sb br
  by_cases h:u=t
  · subst h;rw[if_pos rfl,h0,hv,z07];simp;omega
  · rw[if_neg h];simp[h]
 refine aG L_ (t:=sd) ⋯ nofun rfl (IW.or (iV.list ⋯ L_ ⋯ (by rw[aX];simp;omega) ⋯ ?_));rw[O8,z02,kA (g:=fun sd=>bi (F*R) (sb (br q t v) sd)) ⋯ rfl es];have Jn:=ae (m:=sa) (.L (il ((List.range 2).map fun sd=>bi (F*R) (sb (br q t v) sd)))) ⋯ MZ;have JB:=ae (m:=sa) (.L (il ((List.range 2).map fun sd=>bi (F*R) (sb (br q t v) sd)))) ⋯ PV;have Q7:=ae (m:=sa) (.L (il ((List.range 2).map fun sd=>bi (F*R) (sb (br q t v) sd)))) ⋯ Q6;have Oc:=ae (m:=sa) (.L (il ((List.range 2).map fun sd=>bi (F*R) (sb (br q t v) sd)))) ⋯ Q9;have Od:=ae (m:=sa) (.L (il ((List.range 2).map fun sd=>bi (F*R) (sb (br q t v) sd)))) ⋯ Ra;have Of:∀i,i<15→∃r,rs[i]? =some r∧(H2.set sa (.L (il ((List.range 2).map fun sd=>bi (F*R) (sb (br q t v) sd)))))[r]? =some (tab (F*R) fun _=>0):=fun i hi=>let⟨r,a,b⟩:=Rc i hi;⟨r,a,ae _ (by have:=o6 r (z08 a);omega) b⟩
 have QP:=get_set (.L (il ((List.range 2).map fun sd=>bi (F*R) (sb (br q t v) sd)))) L_;have Ff:∀H0,Le H0 H→H0.length≤p→Le H0 (H2.set sa (.L (il ((List.range 2).map fun sd=>bi (F*R) (sb (br q t v) sd))))):=fun H0 l h=>(yY H0 l h).set ⋯ _;generalize (H2.set sa (.L (il ((List.range 2).map fun sd=>bi (F*R) (sb (br q t v) sd)))))=H3 at*;obtain(⟨r,hr,hrt⟩):=Of (8*sd+kd) ⋯;refine BB ?_;refine eM.field (y:=.I key) Jn (by rw[P.K];kernel_rfl) ∅ (eM.field (y:=.ref zo) Jn (by rw[P.K];kernel_rfl) ∅ (eM.field (y:=.ref zp) Oc (by rw[P.K];kernel_rfl) ∅ ?_));refine cz.list Od ⋯ ⋯ (y:=.ref r) ?_ (aG hrt ht ⋯ rfl (IW.xor ?_))
 · have:v.toNat=8*sd+kd:=⋯
   rw[this];exact c5 hr
 refine pB.field ⋯ Jn (by rw[P.K];kernel_rfl) (by simp[ki]) (az ⟨rfl,⟨Builtin.bitXor key 0,⟨o1,o2,o3,o4,o5,o6⟩,?_,⟨_,ae _ ⋯ Q7,by rw[List.length_set];exact hyl⟩,ae _ ⋯ JB,ae _ ⋯ QP,⟨_,_,_,ae _ ⋯ Oc⟩,ae _ ⋯ Od,B.zr.1,?_⟩,fun H0 l h=>(Ff H0 l h).set h _⟩)
 · rw[get_set _ Jn];rfl
 · rintro-i hi;obtain(⟨r',a,b⟩):=Of i hi;exact⟨r',a,ae _ (by have:=o6 r' (z08 a);omega) b⟩
end
theorem tA (n:Nat):O.L (List.replicate n (V.I 0))=tab n (fun _=>0):=by
 unfold tab
 congr 1
 apply List.ext_getElem?
 intro i;unfold il;rw[z11,z11]
 by_cases hi:i<n
 · rw[List.getElem?_range hi,List.getElem?_replicate,if_pos hi];rfl
 · rw[List.getElem?_replicate,if_neg hi,List.getElem?_eq_none (by simp;omega)];rfl
section
variable {C:Cx} (P:Pg C) {k:Nat} {H:Hp} {F R g:Nat} {pc:Nat→Int}
include P
def pJ (pc:Nat→Int):Nat→Nat→Int:=fun i u=>if u<i then pc u else 0
theorem Pg.sR (z:Sz F R) (M:fz (F*R) pc) (G:kH F R g H) {bo sd:Nat} (hb:H[bo]? =some (tab (F*R) pc)):aa C (k+3) (s "_law_position") [.ref g,.ref bo,.I sd] H (fun v H'=>∃p,v=.ref p∧Le H H'∧ct F R p g pc H'):=by
 injection C k H F R g pc bo sd with P z M G hb
 have hn:=z.n;have GG:=G;obtain(⟨kg,rla,rsg,GA⟩):=GG;refine P.mJ ?_;rintro-hT;unfold gU;refine au (G0 P 15 nofun (Val.int.use ⟨rfl,hT,fun _=>tab (F*R) fun _=>0,?_,?_⟩))
 · rintro-u hu H' fC;dsimp only[aW,List.map,List.set];refine jz (vQ Val.int ?_);refine P.fc (F:=F) (R:=R) (kga:=kg) (rla:=rla) (GA.o.le (fC.aS _)) (BW.mR (af _ _) ⋯ ⋯ ⟨_,rfl,(Le.app _ _).aS _,by simp,?_⟩);rw[af,z02,tA]
 rintro-H1 A rs bg hAl hA hrl hrs;have hTA:C.T≤A:=⋯
 have hAlt:=aV hA;have rsl:∀r∈rs,r<H1.length:=by
  rintro-r hr;obtain(⟨i,hi,e⟩):=z27 hr;obtain(⟨r',a,_,c⟩):=hrs i ⋯;have:rs[i]? =some r:=by rw[z05 hi,e]
  rw[this]at a;cases a;exact aV c
 refine au ?_;refine⟨by simp,?_⟩;refine P.a_ (F:=F) (R:=R) (kga:=kg) (rla:=rla) (GA.o.le (bg.aS _)) (BW.mR (af _ _) (by have:=z.f2;omega) ⋯ ⟨by simp,BW.mR (af _ _) nofun nofun ?_⟩);have bJ:∀a b c d:O,Le H1 (H1++[a]++[b]++[c]++[d]):=fun a b c d=>(((Le.app _ _).aS _).aS _).aS _;have cj:=bJ (O.L [V.I 0]) (O.L (List.replicate ((F:Nat):Int).toNat (V.I 0))) (O.L [V.I 0]) (O.L (List.replicate (16:Int).toNat (V.I 0)));generalize (H1++[O.L [V.I 0]]++[O.L (List.replicate ((F:Nat):Int).toNat (V.I 0))]++[O.L [V.I 0]]++[O.L (List.replicate (16:Int).toNat (V.I 0))])=H2 at*;refine aa.up (k:=k+2) (aa.mono (P.wO (k:=k)) ?_);rintro-_ _ ⟨rfl,rfl⟩;have hzo:=fun a b c d=>af H2 (O.inst 575 [(s "pieces",a),(s "ep",b),(s "rights",c),(s "side",d)]);refine aa.mono (P.uY (k:=k) z (G.le ((bg.trans cj).aS _))) ?_;rintro-_ _ ⟨rfl,rfl⟩;have hz:=hzo (.ref A) (.ref (H1++[O.L [V.I 0]]).length) (.ref (H1++[O.L [V.I 0]]++[O.L (List.replicate ((F:Nat):Int).toNat (V.I 0))]++[O.L [V.I 0]]).length) (.I 0);have leZ:Le H2 (H2++[O.inst 575 [(s "pieces",.ref A),(s "ep",.ref (H1++[O.L [V.I 0]]).length),(s "rights",.ref (H1++[O.L [V.I 0]]++[O.L (List.replicate ((F:Nat):Int).toNat (V.I 0))]++[O.L [V.I 0]]).length),(s "side",.I 0)]]):=Le.app _ _;have lZ:(H2++[O.inst 575 [(s "pieces",.ref A),(s "ep",.ref (H1++[O.L [V.I 0]]).length),(s "rights",.ref (H1++[O.L [V.I 0]]++[O.L (List.replicate ((F:Nat):Int).toNat (V.I 0))]++[O.L [V.I 0]]).length),(s "side",.I 0)]]).length=H2.length+1:=by simp
 clear hzo;generalize (H2++[O.inst 575 [(s "pieces",.ref A),(s "ep",.ref (H1++[O.L [V.I 0]]).length),(s "rights",.ref (H1++[O.L [V.I 0]]++[O.L (List.replicate ((F:Nat):Int).toNat (V.I 0))]++[O.L [V.I 0]]).length),(s "side",.I 0)]])=H3 at*;have leT:∀T:Hp,Le H3 (H3++T):=fun T=>⟨fun n u e=>by rw[z09 (z06.mp e).1];exact e⟩;have ix:=vM H3 [O.inst 242 (ki g H2.length (H3.length+2) (H3.length+4) (H3.length+5) (H3.length+6) 0 0),.L [.I 0],.L (List.replicate (F*R) (.I 0)),.L [.I 0],.L (List.replicate 7 (.I 0)),.L [.I 0,.I 0],.L []];have de:=leT [O.inst 242 (ki g H2.length (H3.length+2) (H3.length+4) (H3.length+5) (H3.length+6) 0 0),.L [.I 0],.L (List.replicate (F*R) (.I 0)),.L [.I 0],.L (List.replicate 7 (.I 0)),.L [.I 0,.I 0],.L []];have P1:=cj.len;have DP:=bg.len;have z0:∀kd,bi (F*R) (kb ((pJ pc) 0) kd)=0:=fun kd=>(aT _ _).mpr fun u _=>rfl;have z1:∀kd,bi (F*R) (sb ((pJ pc) 0) kd)=0:=fun kd=>(aT _ _).mpr fun u _=>rfl;have PB:vI F R H3.length g H2.length (H3.length+2) (H3.length+4) (H3.length+5) (H3.length+6) A rs ((pJ pc) 0) 0 (H3++[O.inst 242 (ki g H2.length (H3.length+2) (H3.length+4) (H3.length+5) (H3.length+6) 0 0),.L [.I 0],.L (List.replicate (F*R) (.I 0)),.L [.I 0],.L (List.replicate 7 (.I 0)),.L [.I 0,.I 0],.L []]):=by
  refine⟨⟨⋯,⋯,⋯,⋯,⋯,fun r hr=>by have:=rsl r hr;omega⟩,ix 0,⟨_,ix 2,by simp⟩,?_,?_,⟨_,_,_,de.at_ _ _ hz⟩,de.at_ _ _ (leZ.at_ _ _ (cj.at_ _ _ hA)),hrl,?_⟩
  · simp only[z0];rw[ix 4,←tA];rfl
  · simp only[z1];rw[ix 5,←tA];rfl
  · rintro-i hi;obtain(⟨r,a,_,c⟩):=hrs i hi;exact⟨r,a,de.at_ _ _ (leZ.at_ _ _ (cj.at_ _ _ c))⟩
 have fD:=((bg.trans cj).trans leZ).trans de;generalize (H3++[O.inst 242 (ki g H2.length (H3.length+2) (H3.length+4) (H3.length+5) (H3.length+6) 0 0),.L [.I 0],.L (List.replicate (F*R) (.I 0)),.L [.I 0],.L (List.replicate 7 (.I 0)),.L [.I 0,.I 0],.L []])=H5 at*;clear ix de leT hz leZ z0 z1;have hpl:H.length≤H3.length:=⋯
 generalize H3.length+2=ab at*;generalize H3.length+4=ak at*;generalize H3.length+5=as_ at*;generalize H3.length+6=ah at*;generalize H3.length=p at*;generalize H2.length=zo at*;refine cq P (F*R) (fun i ρ H'=>A3 (Le H H') ((∃key,vI F R p g zo ab ak as_ ah A rs ((pJ pc) i) key H')) (∃v5,ρ=[some (.ref g),some (.ref bo),some (.I sd),some (.ref A),some (.ref p),v5,none,none,none,none])) ?_ ⋯ ?_ ?_
 · exact P.fc (F:=F) (R:=R) (kga:=kg) (rla:=rla) (GA.o.le fD) ⟨rfl,fD.aS _,⟨0,PB.le (Le.app _ _)⟩,none,rfl⟩
 · rintro-t ρ H6 ht ⟨jO,⟨key,PB⟩,v5,rfl⟩;have CB:=jO.at_ _ _ hb;refine bA ((aU.val (Val.tab CB ht ⋯ (Val.nm rfl) (Val.nm rfl) rfl)).use ⟨?_,?_⟩)
   · rintro-e;refine cC ?_;have hne:=z03 e;have hm:=M t ht;obtain(⟨BU,kd,lh,pD,Ht,hv⟩):∃BU kd:Nat,BU<2∧1≤kd∧kd≤6∧pc t=8*BU+kd:=vb (M t ht) (z03 e);refine aG CB ht ⋯ rfl ?_;refine aa.mono (P.y5 (k:=k) z PB ⋯ hv lh pD Ht ht (by show(if t<t then pc t else 0)=0;rw[if_neg (Nat.lt_irrefl t)])) ?_;rintro-_ H7 ⟨rfl,⟨EY,Oy⟩,hle⟩;refine⟨rfl,az (nx (az ⟨hle H jO hpl,⟨EY,?_⟩,some (.I (t:Nat)),rfl⟩))⟩;have:br ((pJ pc) t) t (pc t)=(pJ pc) (t+1):=by
      funext u
      show(if u=t then pc t else if u<t then pc u else 0)=if u<t+1 then pc u else 0
      by_cases h:u=t
      · subst h;rw[if_pos rfl,if_pos ⋯]
      · rw[if_neg h]
        by_cases h2:u<t
        · rw[if_pos h2,if_pos ⋯]
        · rw[if_neg h2,if_neg ⋯]
     rw[←this];exact Oy
   · rintro-e;refine az ⟨jO,⟨key,?_⟩,some (.I (t:Nat)),rfl⟩;have h0:pc t=0:=by have:=z04 e;omega
     have:(pJ pc) (t+1)=(pJ pc) t:=by
      funext u
      show(if u<t+1 then pc u else 0)=if u<t then pc u else 0
      by_cases h:u=t
      · subst h;rw[if_pos ⋯,if_neg ⋯,h0]
      · by_cases h2:u<t
        · rw[if_pos h2,if_pos ⋯]
        · rw[if_neg h2,if_neg ⋯]
     rw[this];exact PB
 · rintro-ρ H6 ⟨jO,⟨key,PB⟩,v5,rfl⟩;obtain(⟨o1,o2,o3,o4,o5,o6⟩):=PB.ord;refine pk ?_;refine pB.field ⋯ PB.o (by rw[P.K];kernel_rfl) (by simp[ki]) (aM ?_);refine⟨p,rfl,jO.set hpl _,ak,as_,⟨⟨zo,ab,ah,(sd:Int),key,?_⟩⟩,?_,?_,G.le (jO.set hpl _)⟩
   · rw[get_set _ PB.o];rfl
   · rw[ae _ ⋯ PB.fk];unfold tab
     congr 3
     refine z26 ?_;rintro-kd _;refine bK ?_;rintro-u hu;have:(pJ pc) (F*R) u=pc u:=if_pos hu;unfold kb;rw[this]
   · rw[ae _ ⋯ PB.fs];unfold tab
     congr 3
     refine z26 ?_;rintro-kd _;refine bK ?_;rintro-u hu;have:(pJ pc) (F*R) u=pc u:=if_pos hu;unfold sb;rw[this]
end
theorem Ct {n:Nat} {pc:Nat→Int} (h:cnt n (gB pc)≤16) (i:Nat):cnt n (sb pc i)≤16:=by
 refine z20 (qz fun u hu e=>?_) h;unfold sb at e;unfold gB;rw[z01]at e;exact e.1
section
variable {C:Cx} (P:Pg C) {k:Nat} {H:Hp}
include P
def two (a b:Nat):Nat→Nat:=fun i=>if i=0 then a else b
theorem Pg.P2 {so:Nat} {xs:List Int} (hx:xs.length≤63) (st:Le dJ H) (hl:H[so]? =some (.L (il xs))):aa C (k+10) (s "law") [.ref so] H (lE (.bool true) H):=by
 injection C k H so xs with P hx st hl
 refine P.EB ?_;rintro-hT;unfold DV;have hfirst:∀Q:V→Hp→Prop,(∀f:Int,Q (.I f) H)→wE C (k+9) (.bq (.bf (.V 0)) (.sub (.V 0) (.I 0)) (.I 1)) [some (.ref so),none,none,none,none,none,none,none,none,none,none,none,none,none,none] H Q:=by
  rintro-Q q;refine(aU.I_ hl (by rw[aX];omega) (Val.nm rfl)).use ⟨?_,fun e=>q 1⟩;rintro-e
  cases xs with
  |nil=>simp[il]at e
  |cons a l=>exact cz.list hl nofun nofun (by rfl) (q a)
 refine au (hfirst _ ?_);rintro-f;obtain(⟨f0,Jt,OZ⟩):=eV (x:=f) (n:=6) nofun;obtain(⟨r0,KN,O5⟩):=eV (x:=f.fdiv 6) (n:=4) nofun;obtain(⟨s0,EM,O7⟩):=eV (x:=f.fdiv 24) (n:=2) nofun;refine au (((Val.add (Val.int (a:=3)) ((Val.mod nofun (Val.nm rfl) (Val.int (a:=6))).to (b:=(f0:Nat)) OZ)).to (b:=((3+f0:Nat):Int)) (by push_cast;rfl)).use ?_);refine au (((Val.add (Val.int (a:=3)) ((Val.mod nofun (Val.div nofun nofun (Val.nm rfl) (Val.int (a:=6))) (Val.int (a:=4))).to (b:=(r0:Nat)) O5)).to (b:=((3+r0:Nat):Int)) (by push_cast;rfl)).use ?_);have z:Sz (3+f0) (3+r0):=⟨⋯,⋯,⋯,⋯⟩;generalize 3+f0=F at*;generalize 3+r0=R at*;have hn:=z.n;obtain(⟨ys,eys,hys⟩):=oW xs (some 1) (some 10);have hysl:ys.length≤9:=by
  unfold sliceBounds at hys;simp only[Option.getD_none,show(1:Int)>0 by decide,if_true]at hys;rcases Nat.eq_zero_or_pos xs.length with q|q
  · rw[q]at hys;exact z20 hys nofun
  · have e1:max 0 (min (1:Int) xs.length)=1:=congrArg (max 0) (Int.min_eq_left (Int.ofNat_le.mpr q));refine z20 hys (Int.toNat_le.mpr ?_);show _-max 0 (min (1:Int) xs.length)≤_;rw[e1];have e2:max 0 (min (10:Int) xs.length)≤10:=Int.max_le.mpr ⟨by decide,Int.min_le_left ..⟩;exact Int.sub_le_sub_right e2 1
 refine au ?_;refine⟨_,rfl,_,rfl,so,_,rfl,hl,by rw[aX];omega,?_⟩;rw[eys];refine aa.up (k:=k+1) (aa.mono (P.yQ z hysl (af _ _)) ?_);rintro-_ H1 ⟨bo,pc,k0,k1,rfl,yT,hb,bd⟩;have bg:Le H H1:=(Le.app _ _).trans yT;have Gm:=st.trans bg;have z6:C.T≤H1.length:=by have:=bg.len;omega
 refine au ?_;refine aa.up (k:=k+9) (aa.mono (P.qj z Gm z6) ?_);rintro-_ H2 ⟨g,rfl,bJ,G⟩;refine BW.div nofun nofun (BW.mod nofun ?_);have J':(f.fdiv 24).fmod 2=(s0:Int):=O7;rw[J'];refine aa.up (k:=k+3) (aa.mono (P.sR z bd.m G (bJ.at_ _ _ hb)) ?_);rintro-_ H3 ⟨p,rfl,cj,A⟩;have K:∀i,i<2→bW (F*R) pc i ((two k0 k1) i):=by
  rintro-i hi;have:i=0∨i=1:=⋯
  rcases this with rfl|rfl
  · exact bd.k0
  · exact bd.k1
 have hkn:∀i,(two k0 k1) i<F*R:=by
  rintro-i;show(if i=0 then k0 else k1)<F*R
  split
  · exact bd.k0.1
  · exact bd.k1.1
 have f9:=Ct bd.f9;have sW:=bJ.trans cj;refine au ?_;refine aa.up (k:=k+9) (aa.mono (P.tU (kq:=two k0 k1) z (Gm.trans sW) bd.m A K) ?_);rintro-_ H4 ⟨ml,rfl,de,MM⟩;have wM:=sW.trans de;refine au ?_;refine aa.up (k:=k+3) (aa.mono (P.qM (sd:=0) z (Gm.trans wM) bd.m nofun (K 0 nofun) (f9 0) (wM.at_ _ _ hb)) ?_);rintro-_ H5 ⟨m0,QX,QI,OD,Q1,OB,P_,QV,QL,rfl,eJ,PE,Ou⟩;have As:=wM.trans eJ;refine aa.up (k:=k+3) (aa.mono (P.qM (sd:=1) z (Gm.trans As) bd.m nofun (K 1 nofun) (f9 1) (As.at_ _ _ hb)) ?_);rintro-_ H6 ⟨m1,QY,QJ,OE,Q2,OC,lo1,QW,QM,rfl,jO,CE,Ov⟩;have L0:dg F R pc 0 ((two k0 k1) 0) m0 H6:=⟨QX,QI,OD,Q1,OB,P_,QV,QL,jO.at_ _ _ PE,Ou.le jO⟩;have L1:dg F R pc 1 ((two k0 k1) 1) m1 H6:=⟨QY,QJ,OE,Q2,OC,lo1,QW,QM,CE,Ov⟩;refine⟨by simp,?_⟩;have hlk:=af H6 (O.L [V.ref m0,V.ref m1]);have Au:Le H6 (H6++[O.L [V.ref m0,V.ref m1]]):=Le.app _ _;generalize (H6++[O.L [V.ref m0,V.ref m1]])=H7 at*;generalize H6.length=lk at*;have E_:=(eJ.trans jO).trans Au;have Im:=wM.trans E_;refine zq ?_;refine⟨by simp,H7.length,_,(fun i ρ H'=>A3 (Le H7 H') (H'[H7.length]? =some (.tup [.I 0,.I 1])) (∃v8,ρ=[some (.ref so),some (.I f),some (.I F),some (.I R),some (.ref bo),some (.ref p),some (.ref ml),some (.ref lk),v8,none,none,none,none,none,none])),rfl,af _ _,⟨Le.app _ _,af _ _,none,rfl⟩,fun i ρ H' hI=>hI.2,?_,?_⟩
 · rintro-i x ρ H8 NC ⟨lP,htp,v8,rfl⟩;have hi:i<2:=(z06.mp NC).1;have ex:x=.I ((i:Nat):Int):=by
    have:i=0∨i=1:=⋯
    rcases this with rfl|rfl<;>(cases NC;rfl)
   subst ex;have Ip:=Im.trans lP;have NM:=lP.at_ _ _ hlk;have e1:(1:Int)-(i:Int)=((1-i:Nat):Int):=⋯
   have msat:∀j,j<2→([V.ref m0,V.ref m1])[j]? =some (.ref ((two m0 m1) j)):=by
    rintro-j hj;have:j=0∨j=1:=⋯
    rcases this with rfl|rfl<;>rfl
   have LL:∀j,j<2→dg F R pc j ((two k0 k1) j) ((two m0 m1) j) H8:=by
    rintro-j hj;have:j=0∨j=1:=⋯
    rcases this with rfl|rfl
    · exact L0.le (Au.trans lP)
    · exact L1.le (Au.trans lP)
   refine bA ?_;refine cz.list NM ⋯ ⋯ (by rw[z02];exact msat i hi) (BW.sub ?_);rw[e1];refine cz.list NM ⋯ ⋯ (by rw[z02];exact msat (1-i) ⋯) ?_;refine aa.up (k:=k+7) (aa.lv (P.Ap (kq:=two k0 k1) (g:=g) z (Gm.trans Ip) bd.m bd.no (A.le ((de.trans E_).trans lP)) (MM.le (E_.trans lP)) hi K hkn f9 (Ip.at_ _ _ hb) (LL i hi) (LL (1-i) ⋯)) ?_);rintro-H9 Av;refine bk.bool ⟨fun e=>(by cases e),fun _=>az ⟨lP.trans Av,Av.at_ _ _ htp,some (.I (i:Nat)),rfl⟩⟩
 · rintro-ρ H8 ⟨lP,htp,v8,rfl⟩;refine aM ?_;exact⟨rfl,(bg.trans Im).trans lP⟩
end
theorem ou {R:WRecords}:∀{ds:List WData},WShape.hasItems R ds .int=true→∃xs:List Int,ds=xs.map WData.int
 |[],_=>⟨[],rfl⟩
 |d::ds,h=>by
  simp only[WShape.hasItems,z01]at h;obtain⟨i,rfl⟩:=hasW_int h.1;obtain⟨xs,rfl⟩:=ou h.2;exact⟨i::xs,rfl⟩
instance:Nonempty WData:=⟨.none⟩
def wI (P:Params) (h:Heap) (v:Value):WData→Prop
 |.int i=>∃t,v=.int i t
 |.list ds=>Ex2 fun a us=>v=.ref a∧h.get? a=some {cls:=Value.type "list",data:=Data.seq us.toArray}∧WellAll P h us ds
 |_=>True
theorem Bz {P:Params} {h:Heap} {v:Value} {d:WData} (x:Well P h v d):wI P h v d:=by
 cases x<;>first|exact True.intro|exact⟨_,rfl⟩|exact⟨_,_,rfl,by assumption,by assumption⟩
theorem zm {P:Params} {h:Heap} {ι:Io} {xs:List Int}:∀{us:List Value},WellAll P h us (xs.map WData.int)→dS ι (il xs) us:=by
 induction xs with
 |nil=>intro us w;cases w;exact .nil
 |cons x xs ih=>
  intro us w;obtain⟨v,vs,e,hv,hr⟩:=wellAll_cons_inv w;obtain⟨t,e2⟩:∃t,v=.int x t:=Bz hv;rw[e,e2];exact .cons (.I _ _) (ih hr)
theorem Bx {P:Params} {h:Heap} {ι:Io} {xs:List Int}:∀{us:List Value} {ys:List V},WellAll P h us (xs.map WData.int)→dS ι ys us→ys=il xs:=by
 induction xs with
 |nil=>intro us ys w r;cases w;cases r;rfl
 |cons x xs ih=>
  intro us ys w r;obtain⟨v,vs,e,hv,hr⟩:=wellAll_cons_inv w;obtain⟨t,e2⟩:∃t,v=.int x t:=Bz hv;rw[e,e2]at r
  cases r with
  |cons a b=>
   cases a
   rw[ih hr b];rfl
theorem AI:PySem.Challenge.rw_nt0457_01.most=some 63:=∅
theorem DB:PySem.Challenge.rw_nt0457_01.bound=none:=∅
theorem C5 {xs:List WData} (h:PySem.Challenge.rw_nt0457_01.row.toRowW.pre.holds PySem.Challenge.rw_nt0457_01.row.toRowW.records {args:=[.list xs]}=true):xs.length≤63:=by
 have e:PySem.Challenge.rw_nt0457_01.row.toRowW.pre=PySem.Challenge.rw_nt0457_01.pre:=rfl;rw[e]at h;unfold OpenLaw.pre at h;rw[AI,DB]at h
 apply Classical.byContradiction
 intro hn;have hlt:decide ((63:Int)<(xs.length:Int))=true:=decide_eq_true ⋯;have hl:less? (WData.int 63) (WData.int xs.length)=some true:=by simp only[less?,Num.less?,hlt]
 simp[WTm.holds,WTm.value,hl]at h
theorem Am:sO.name=s "law":=∅
theorem tZ {C:Cx} (P:Pg C) {la:Addr} (hrv:C.mg (s "law")=some (.ref la)) {ι:Io} {H:Hp} {so:Nat} {xs:List Int} (hx:xs.length≤63) (st:Le dJ H) (hl:H[so]? =some (.L (il xs))) {sh:Shared} {vs:List Value} (B:Bs C ι H sh) (r:dS ι [.ref so] vs):
 wpAny (model C.prog C.w) callerA (PySem.call (.ref la) vs) (bC C ι sh.heap VR (lE (.bool true) H)) fM sh:=by
 have h:=P.P2 (k:=0) hx st hl;unfold aa at h;have:C.rv (s "law")=.ref la:=by unfold Cx.rv;rw[hrv];rfl
 rw[this]at h;exact h.out callerA sh ι vs ⟨rfl,by decide,by decide⟩ B r
def AG (w:World) (s₁:Shared) (mg mb:Str→Option Value) (δ:Io):Cx:=⟨PySem.Challenge.rw_nt0457_01.row.toRowW.prog,w,s₁.heap,s₁.os,mg,mb,b_++δ,KC w.params⟩
theorem walk:WalkO q0 loose (fun _ _=>True) says PySem.Challenge.rw_nt0457_01.row.toRowW sO [] fun f vs=>PySem.call f vs:=by
 rintro-w du s₁ mg mb G hs a o pm cd doc dV kV ho hd hc hdf hmg hgens args vals as hpre hlay hr hwell hsys;obtain⟨hshape,hp⟩:=pre_splitW hpre;obtain(⟨d,r,rfl,h1,h2⟩):=hasAllW_cons (e:=.list .int) (es:=[]) hshape;obtain rfl:=hasAllW_nil h2;obtain(⟨ds,rfl,hit⟩):=hasW_list h1;have hlen:=C5 hp;obtain(⟨xs,rfl⟩):=ou hit;rw[List.length_map]at hlen;obtain(⟨v,D5,rfl,hv,hvs⟩):=wellAll_cons_inv hwell
 cases hvs
 obtain(⟨la,us,rfl,hg,hw⟩):Ex2 fun a us=>v=.ref a∧s₁.heap.get? a=some {cls:=Value.type "list",data:=Data.seq us.toArray}∧WellAll w.params s₁.heap us (xs.map WData.int):=Bz hv;rw[Am]at hmg;have x_:∀b o,(H1 w.params).get? b=some o→s₁.heap.get? b=some o:=hs;have okC:∀δ,Ea (AG w s₁ mg mb δ):=fun δ=>⟨G.T.g,G.T.b,G.T.nolimit,G.T.builtins,GB x_⟩;have pg:∀δ,Pg (AG w s₁ mg mb δ):=fun δ=>⟨okC δ,x_,rfl,⟨δ,rfl⟩⟩;have hplain:s₁.heap.PlainList la us.toArray:=⟨_,hg⟩;have fin:∀(δ ι:Io) (sh:Shared) (v:Value),sh=s₁→bC (AG w s₁ mg mb δ) ι s₁.heap VR (fun(v:V) (H':Hp)=>v=.bool true∧True) v sh→True:=fun _ _ _ _ _ _=>trivial;have done:∀(δ ι:Io) (H:Hp) (v:Value) (s':Shared),bC (AG w s₁ mg mb δ) ι s₁.heap VR (lE (.bool true) H) v s'→GoodWG PySem.Challenge.rw_nt0457_01.row.toRowW.claim (classAt du.heap) (ExcName.means du.heap) [.list (xs.map WData.int)] s₁ (.ok (.ret v)) s':=fun δ ι H v s' ⟨bw,b,H',B',ext,kp,vr,hb,_⟩=>by
  subst hb
  cases vr
  refine GoodW.toG ⟨.inl ⟨.bool true,.bool true,[],rfl,fun cls=>?_,.bool true,?_,fun _=>⟨List.nodup_nil,fun a h=>by cases h⟩⟩,fun b o e=>kp b o e fun ft=>?_,B'.os,B'.gens⟩
  · rfl
  · show(WShape.has [] (.bool true) .bool&&WTm.holds [] (.eq .res (.lit (.bool true))) {args:=[.list (xs.map WData.int)],res:=some (.bool true),after:=[.list (xs.map WData.int)]})=true;have h1:WShape.has [] (.bool true) .bool=true:=∅
    rw[h1,Bool.true_and];simp[WTm.holds,WTm.value,same]
  · have hn:s₁.heap.get? b=none:=ft.1;rw[hn]at e;cases e
 by_cases hin:∃n:Nat,b_[n]? =some (la,la)
 ·
  obtain(⟨n,hn⟩):=hin;have Kw:n<46:=by rw[←cQ];exact(z06.mp hn).1
  obtain(⟨o',HC⟩):∃o,dJ[n]? =some o:=⟨_,z05 (by rw[eN];exact Kw)⟩;have S:Jl (AG w s₁ mg mb []) (b_++[]) (dJ++[]) s₁.heap:=q6 (C:=AG w s₁ mg mb []) rfl x_ rfl rfl (by rw[List.append_nil];exact l9) (fun n p o hp _=>by cases hp) (fun p hp=>by cases hp);have B:Bs (AG w s₁ mg mb []) (b_++[]) (dJ++[]) s₁:=⟨fun _ _ e=>e,hgens,rfl,okC _,S⟩;have hor:=S.obj n (la,la) o' (by rw[List.append_nil];exact hn) (by rw[List.append_nil];exact HC);have eo:o'=.L (il xs):=by
   cases o' with
   |L ys=>
    obtain⟨Ob,⟨m,e⟩,hvr⟩:=hor;rw[hg]at e;have e2:us.toArray=Ob:=by cases e;rfl
    subst e2;have KS:dS (b_++[]) ys us:=hvr;have:=Bx hw KS;rw[this]
   |tup ys=>
    obtain⟨Ob,ep,e,_⟩:=hor;rw[hg]at e;have:=congrArg (fun o=>o.map (·.cls)) e;simp at this
   |range a b c=>
    obtain⟨b',om,lt,hc⟩:=kv w.params HC;exact(AS hc).elim
   |inst c fs=>
    obtain⟨b',om,lt,hc⟩:=kv w.params HC;exact(AR hc).elim
  subst eo;exact wpAny_mono (tZ (pg []) hmg hlen (by rw[List.append_nil];exact Le.fQ _) (by rw[List.append_nil];exact HC) B (.cons (.ref (p:=(la,la)) (by rw[List.append_nil];exact hn)) .nil)) (fun v s' x=>done [] _ _ v s' x) fun _ _ x=>x.elim
 · have S:Jl (AG w s₁ mg mb [(la,la)]) (b_++[(la,la)]) (dJ++[.L (il xs)]) s₁.heap:=by
    refine q6 (C:=AG w s₁ mg mb [(la,la)]) rfl x_ rfl rfl ?_ (fun n p o hp ho=>?_) (fun p hp=>?_)
    · rw[List.pairwise_append];refine⟨l9,List.pairwise_singleton _ _,fun p hp q hq=>?_⟩;rw[List.mem_singleton]at hq;subst hq;have Ki:=xh hp;have hne:p.1≠la:=fun e=>by
       obtain⟨n,hn⟩:=List.getElem?_of_mem hp;refine hin ⟨n,?_⟩;rw[hn];obtain⟨x,y⟩:=p;dsimp only at Ki e;rw[←Ki,e]
      dsimp only;rw[←Ki];exact⟨hne,hne,hne,hne⟩
    · have n0:n=0:=by
       have:=(z06.mp hp).1;simp at this;exact this
      subst n0
      cases hp;cases ho
      exact⟨us.toArray,hplain,by simpa using zm hw⟩
    · rw[List.mem_singleton]at hp;subst hp;dsimp only[AG];rw[hg];exact⟨rfl,rfl⟩
   have B:Bs (AG w s₁ mg mb [(la,la)]) (b_++[(la,la)]) (dJ++[.L (il xs)]) s₁:=⟨fun _ _ e=>e,hgens,rfl,okC _,S⟩;exact wpAny_mono (tZ (pg [(la,la)]) hmg hlen (Le.app _ _) (af dJ _) B (.cons (.ref (p:=(la,la)) (by have:=cQ;rw[eN,←cQ,z10 (z21 _)];simp)) .nil)) (fun v s' x=>done [(la,la)] _ _ v s' x) fun _ _ x=>x.elim
theorem y4:PySem.Challenge.rw_nt0457_01.row.toRowW.promised:=by
 refine⟨[.list []],?_,∅⟩;show(WShape.hasAll [] [.list []] [.list .int]&&WTm.holds [] PySem.Challenge.rw_nt0457_01.pre {args:=[.list []]})=true;unfold OpenLaw.pre;rw[AI,DB]
 kernel_rfl
theorem law_holds:PySem.Challenge.rw_nt0457_01.Holds:=head y4 walk
end
end Mine
theorem PySem.Challenge.cw_nt0457_01_holds : PySem.Challenge.rw_nt0457_01.Holds :=
 Mine.law_holds
