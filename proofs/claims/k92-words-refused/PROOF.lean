import PyProof.Rows.All
import Wide.All
import OpenK.AllK
import Wide.FinOn
import KE.KExcIs
import KE.DataEq
import HandS.ForMost
import HandS.ForExc
import HandS.ExcInit
import HandS.ExcField
import HandS.ExcIs
import HandS.ClsMeth
import HandS.IsInst
import HandS.Rev
import HandS.Walk
import HandS.TupLe
import HandS.Style
import HandS.Codes
import HandS.LawCells
import PySem.Challenge.RW_formgrove_k92_words_refused
set_option Elab.async false
set_option linter.all false
set_option maxRecDepth 100000
set_option maxHeartbeats 4000000
/-! Rules that the layer lacks. -/
namespace FgR
open PySem PySem.Spec PyProof.Rows L2

/-! ### B.__init__(self, ..), B an own class without an own __init__ -/
section
variable {X : Cx} {B : Addr} {mc : Value} {e : Expr} {es : List Expr} {x : Str} {p1 p2 pos : Pos} {ta : TA}
theorem pe_oinit {how : Sem Bool} (gl : Gl X x) (at_ : X.mg x = some (.ref B)) (rd : ClX.CRead X.K B mc) (found : PySem.W.findCls X.K (.ref B) mc "__init__" = some (.val (.builtin "ValueError.__init__"))) (args : PA X (e :: es) ta)
    (nodbg : (x == ("__debug__" : Str)) = false := by decide)
    (text : eval (.Call (.Attribute (.Name x p1) "__init__" p2) (e :: es) [] pos) X.env = (do
      let cls ← eval (.Name x p1) X.env
      standAt p2.atName
      let (g, front) ← holding [cls] (getMethod cls "__init__" how)
      callWith pos g front (backTo pos (starEach (e :: es) X.env)) (backToKw pos (keywordEach [] X.env))) := by rfl)
    (nostar : starEach (e :: es) X.env = (false, eval e X.env) :: starEach es X.env := by rfl) (plain : (backTo pos (starEach es X.env)).any (·.1) = false := by rfl) :
    PE X (.Call (.Attribute (.Name x p1) "__init__" p2) (e :: es) [] pos) (tVeI X.K ta) := ⟨fun pins s σ H Q inv wish => by
  refine PySem.W.methodCall_KW (ld_glob inv gl at_ (PySem.W.method_cls inv.kIn rd.ga (PySem.W.cls_value inv.kIn rd.rd found (by decide +kernel) ?_)) nodbg) text
  show wpAny _ _ (callWith pos (Value.builtin "ValueError.__init__") ([] : List Value) _ _) _ _ _
  refine PyProof.Rows.callWith_method1 (thn (args.run pos pins { s with toks := s.toks + 1 } σ H _ (inv.tok _) wish) fun us s1 got => ?_) nostar plain
  obtain ⟨vs, H1, inv1, vals, y, D, rest, shape, few, T, fresh, done⟩ := got
  rw [shape] at vals
  cases vals with
  | @cons _ u _ us' first others =>
    have eu : u = Value.ref y := first
    rw [eu]
    refine oinit_ok T inv1 fresh (?_ : us'.length ≤ sizeLine) fun s2 inv2 => ⟨.non, H1, inv2, rfl, done⟩
    have same := Paired.length others
    exact Nat.le_of_lt (small1000 (by omega))⟩
end

/-! ### o.m(e, ..) whose error is wished for at the caller's slots -/
def tMethE (C : Addr) (m : Str) (sp : Sp) (E : L2.St → XK) (ta : TE) (t : TA) : TE := fun σ H Q => ta σ H fun x H1 => ∃ a dx fs, x = .ref a ∧ H1 a = some (.ins C dx fs) ∧ fs.lookup m = none ∧
  t σ H1 fun vs H2 => sp (x :: vs) H2 Q (E σ)
section
variable {X : Cx} {CX : CXT} {k : Nat} {f C : Addr} {fd : FuncData} {ps : List Str} {sp : Sp} {E : L2.St → XK} {m : Str} {pos apos : Pos} {e o : Expr} {es : List Expr} {ta : TE} {t : TA}
theorem pe_methE {how : Sem Bool} (recv : PE X o ta) (cl : Cls X.K C) (me : Meth X.K C m f) (F : FnOk X.prog X.w X.K X.mg X.base CX k f fd ps sp) (room : Room k X.A) (bind : Binds X.K fd ps []) (lets : ∀ σ, PassesAt CX X σ (E σ)) (args : PA X (e :: es) t)
    (nostar : starEach (e :: es) X.env = (false, eval e X.env) :: starEach es X.env := by rfl) (plain : (backTo pos (starEach es X.env)).any (·.1) = false := by rfl)
    (text : eval (.Call (.Attribute o m apos) (e :: es) [] pos) X.env = (do
      let obj ← eval o X.env
      standAt apos.atName
      let (g, front) ← holding [obj] (getMethod obj m how)
      callWith pos g front (backTo pos (starEach (e :: es) X.env)) (backToKw pos (keywordEach [] X.env))) := by rfl) :
    PE X (.Call (.Attribute o m apos) (e :: es) [] pos) (tMethE C m sp E ta t) := ⟨fun pins s σ H Q inv wish => by
  refine PySem.W.methodCall_KW (pl := how) (thn (recv.run pins s σ H _ inv wish) fun u s1 got => ?_) text
  obtain ⟨x, H1, inv1, rel, a, dx, fs, shape, there, none_, wish1⟩ := got
  rw [shape] at rel
  have eu : u = Value.ref a := rel
  rw [eu]
  refine getmeth_ok inv1 there cl me none_ (PySem.W.callWith_K (first := [.ref a]) (h₀ := X.base) inv.ok.mod.kin me.kp (thn (args.run pos pins s1 σ H1 _ inv1 wish1) fun us s2 got2 => ?_) nostar plain)
  obtain ⟨vs, H2, inv2, vals, wish2⟩ := got2
  rw [shape] at wish2
  exact ⟨inv2.kIn, run_fnS (us := .ref a :: us) (vs := .ref a :: vs) F room bind (lets σ) inv2 (.cons rfl vals) wish2⟩⟩
end

/-! ### isinstance(e, c), e the exception that the suite holds, with a dict of its own -/
def rIsED (K : PySem.W.Frag) (D a : Addr) (cls : Value) (d : Option Addr) : List V → Hp → VK → Prop := fun xs H Q => ∃ (c : V) (cv : Value) (b : Bool) (dd : Addr) (fs : List (Str × V)), xs = [.ref a, c] ∧ cls = .ref D ∧ d = some dd ∧ H dd = some (.xd fs) ∧
  (∀ u, RelV c u → u = cv) ∧ PySem.W.kitOne K (.ref D) cv = some b ∧ Q (.bl b) H
theorem call_isED {X : Cx} {a D : Addr} {oe : Obj} {cls : Value} {d : Option Addr} {pn : List (Addr × Obj)} (C : ExcC X.K D) (hz : Zc cls d oe) (hf : ∃ vs, oe.data = .fields vs) :
    CallR (X.suite a ((a, oe) :: pn)) (.builtin "isinstance") (rIsED X.K D a cls d) := fun pins s σ H xs us Q inv vals wish => by
  obtain ⟨c, cv, b, dd, fs, rfl, rfl, rfl, hd, hcv, answer, done⟩ := wish
  obtain ⟨u1, u2, rfl, r1, r2⟩ := vals2 vals
  have eu : u1 = Value.ref a := r1
  rw [eu, hcv _ r2]
  have own : ObjOk X.prog X.w H s.heap dd (.xd fs) := inv.hok dd _ hd
  obtain ⟨mA, names, _⟩ := own
  obtain ⟨od, there, _⟩ := lookIn_ns names
  obtain ⟨fields, hv⟩ := hf
  have J : PySem.W.InstAt s.heap a oe D (some od) := ⟨(inv.pin (a, oe) (List.mem_append_left _ List.mem_cons_self)).1, hz.1, (by unfold PySem.W.notCls; rw [hv] <;> rfl), (by rw [hz.2]; exact there)⟩
  have isCls : (PySem.W.clsIn X.K D).isSome = true := by
    obtain ⟨cd, hc, _⟩ := PySem.W.any_some C.hd
    rw [hc]
    rfl
  exact PySem.W.kia_one (PySem.W.kitx_exc isCls C.hg C.hk C.hs C.ha C.hn C.ht C.hm) inv.kIn J answer (fun z => nomatch z) fun tk => ⟨.bl b, H, inv.kept (t' := tk) fun _ _ z => z, rfl, done⟩

/-! ### text * int -/
theorem op_rep_str {X : Cx} : OpR X (binaryOp .Mult) (fun x y H Q => ∃ (z : Str) (n : Int), x = .str z ∧ y = .int n ∧ MulOk z n ∧ Q (.str (Txt.mul z n)) H) := by
  intro pins s σ H x y v u Q inv rx ry wish
  obtain ⟨z, n, rfl, rfl, hk, q⟩ := wish
  obtain ⟨t, rfl⟩ := rx
  obtain ⟨t', rfl⟩ := ry
  exact SB.mul hk fun t2 k => ⟨.str _, H, inv.kept (t' := k) fun _ _ z => z, ⟨_, rfl⟩, q⟩

/-! ### two lists that hold the same texts -/
def strD (ws : List Str) : PyData := .list (ws.map PyData.str)
theorem dpAll_strs {K : PySem.W.Frag} {H : Hp} : ∀ ws : List Str, DpAll K H (ws.map V.str) (ws.map PyData.str)
  | [] => .nil
  | x :: ws => .cons (.str x) (dpAll_strs ws)
theorem plainAll_strs : ∀ ws : List Str, PyData.plainAll (ws.map PyData.str) = true
  | [] => by simp [PyData.plainAll]
  | x :: ws => by simp [PyData.plainAll, PyData.plain, plainAll_strs ws]
theorem plain_strD (ws : List Str) : (strD ws).plain = true := by
  simp [strD, PyData.plain, plainAll_strs ws]
theorem depthAll_strs : ∀ ws : List Str, PyData.depthAll (ws.map PyData.str) ≤ 1
  | [] => by
    simp [PyData.depthAll]
  | x :: ws => by
    have h := depthAll_strs ws
    simp [PyData.depthAll, PyData.depth]
    omega
theorem depth_strD (ws : List Str) : (strD ws).depth ≤ 2 := by
  have h := depthAll_strs ws
  simp [strD, PyData.depth]
  omega
theorem op_eqT {X : Cx} (hu : X.A.units + 64 < cLine) : OpR X (compareOp .Eq) (fun x y H Q => ∃ (a b : Addr) (ws : List Str), x = .ref a ∧ y = .ref b ∧ SqL X.K H a (ws.map V.str) ∧ SqL X.K H b (ws.map V.str) ∧ Q (.bl true) H) := by
  intro pins s σ H x y v u Q inv rx ry wish
  obtain ⟨a, b, ws, rfl, rfl, ha, hb, q⟩ := wish
  obtain ⟨as, r1⟩ := Dp.reads inv (strD ws) (.ref a) v (.lst ha (dpAll_strs ws)) rx
  obtain ⟨bs, r2⟩ := Dp.reads inv (strD ws) (.ref b) u (.lst hb (dpAll_strs ws)) ry
  have hd := depth_strD ws
  refine SeqAt.eq_plain r1 r2 (plain_strD ws) (plain_strD ws) (by omega) ?_
  rw [SeqAt.eqv_refl_plain _ (plain_strD ws)]
  exact ⟨.bl true, H, inv, rfl, q⟩
theorem op_neT {X : Cx} (hu : X.A.units + 64 < cLine) : OpR X (compareOp .NotEq) (fun x y H Q => ∃ (a b : Addr) (ws : List Str), x = .ref a ∧ y = .ref b ∧ SqL X.K H a (ws.map V.str) ∧ SqL X.K H b (ws.map V.str) ∧ Q (.bl false) H) := by
  intro pins s σ H x y v u Q inv rx ry wish
  obtain ⟨a, b, ws, rfl, rfl, ha, hb, q⟩ := wish
  obtain ⟨as, r1⟩ := Dp.reads inv (strD ws) (.ref a) v (.lst ha (dpAll_strs ws)) rx
  obtain ⟨bs, r2⟩ := Dp.reads inv (strD ws) (.ref b) u (.lst hb (dpAll_strs ws)) ry
  have hd := depth_strD ws
  refine SeqAt.ne_plain r1 r2 (plain_strD ws) (plain_strD ws) (by omega) ?_
  rw [SeqAt.eqv_refl_plain _ (plain_strD ws)]
  exact ⟨.bl false, H, inv, rfl, q⟩
end FgR

namespace Fg
open PySem L2 FgR
/-! ### The text by places -/
def top (i : Nat) : Stmt := PySem.Challenge.pw_formgrove_k92_words_refused.main.body.getD i (.Pass ⟨0, 0, 0, 0⟩)
abbrev sNG : Stmt := inClass (top 2) 0
abbrev sIsTag : Stmt := top 7
abbrev sKids : Stmt := top 9
abbrev sStr : Stmt := top 10
abbrev sSpell : Stmt := top 11
abbrev sCut : Stmt := top 12
abbrev sInit : Stmt := inClass (top 13) 0
abbrev sTake : Stmt := inClass (top 13) 1
abbrev sEnt : Stmt := inClass (top 13) 2
abbrev sHt : Stmt := inClass (top 13) 3
abbrev sOwed : Stmt := inClass (top 13) 4
abbrev sCell : Stmt := top 15
abbrev sTag : Stmt := top 16
abbrev sSpoil : Stmt := top 17
abbrev sWord : Stmt := top 18
abbrev sIsT : Stmt := top 19
abbrev sTold : Stmt := top 20
abbrev sWhole : Stmt := top 21
abbrev sLaw : Stmt := top 22
theorem scNG : FnScope ["self", "place"] ["self", "place"] (defScope sNG) := ⟨rfl, rfl, rfl, by decide +kernel, rfl, by decide +kernel, by decide +kernel⟩
theorem scIsTag : FnScope ["text", "sign"] ["text"] (defScope sIsTag) := ⟨rfl, rfl, rfl, by decide +kernel, rfl, by decide +kernel, by decide +kernel⟩
theorem scKids : FnScope ["parts", "many", "part"] ["parts"] (defScope sKids) := ⟨rfl, rfl, rfl, by decide +kernel, rfl, by decide +kernel, by decide +kernel⟩
theorem scStr : FnScope ["changer", "rule"] ["changer"] (defScope sStr) := ⟨rfl, rfl, rfl, by decide +kernel, rfl, by decide +kernel, by decide +kernel⟩
theorem scSpell : FnScope ["parts", "words", "part"] ["parts"] (defScope sSpell) := ⟨rfl, rfl, rfl, by decide +kernel, rfl, by decide +kernel, by decide +kernel⟩
theorem scCut : FnScope ["parts", "ahead", "mode", "behind", "word"] ["parts"] (defScope sCut) := ⟨rfl, rfl, rfl, by decide +kernel, rfl, by decide +kernel, by decide +kernel⟩
theorem scInit : FnScope ["self", "changer", "mode", "tag", "parts"] ["self", "changer"] (defScope sInit) := ⟨rfl, rfl, rfl, by decide +kernel, rfl, by decide +kernel, by decide +kernel⟩
theorem scTake : FnScope ["self", "word"] ["self", "word"] (defScope sTake) := ⟨rfl, rfl, rfl, by decide +kernel, rfl, by decide +kernel, by decide +kernel⟩
theorem scEnt : FnScope ["self", "tag", "mode", "ahead", "within", "behind"] ["self", "tag"] (defScope sEnt) := ⟨rfl, rfl, rfl, by decide +kernel, rfl, by decide +kernel, by decide +kernel⟩
theorem scHt : FnScope ["self"] ["self"] (defScope sHt) := ⟨rfl, rfl, rfl, by decide +kernel, rfl, by decide +kernel, by decide +kernel⟩
theorem scOwed : FnScope ["self", "words", "some"] ["self"] (defScope sOwed) := ⟨rfl, rfl, rfl, by decide +kernel, rfl, by decide +kernel, by decide +kernel⟩
theorem scCell : FnScope ["_law_script", "_law_k", "_law_number"] ["_law_script", "_law_k"] (defScope sCell) := ⟨rfl, rfl, rfl, by decide +kernel, rfl, by decide +kernel, by decide +kernel⟩
theorem scTag : FnScope ["_law_cell_here", "_law_letters", "_law_k"] ["_law_cell_here"] (defScope sTag) := ⟨rfl, rfl, rfl, by decide +kernel, rfl, by decide +kernel, by decide +kernel⟩
theorem scSpoil : FnScope ["_law_cell_here", "_law_tag_here", "_law_signs", "_law_at"] ["_law_cell_here", "_law_tag_here"] (defScope sSpoil) := ⟨rfl, rfl, rfl, by decide +kernel, rfl, by decide +kernel, by decide +kernel⟩
theorem scWord : FnScope ["_law_script", "_law_k", "_law_tag_here", "_law_cell_here"] ["_law_script", "_law_k", "_law_tag_here"] (defScope sWord) := ⟨rfl, rfl, rfl, by decide +kernel, rfl, by decide +kernel, by decide +kernel⟩
theorem scIsT : FnScope ["_law_word_here", "_law_sign"] ["_law_word_here"] (defScope sIsT) := ⟨rfl, rfl, rfl, by decide +kernel, rfl, by decide +kernel, by decide +kernel⟩
theorem scTold : FnScope ["_law_stream", "_law_word_here", "_law_way", "e"] ["_law_stream", "_law_word_here", "_law_way"] (defScope sTold) := ⟨rfl, rfl, rfl, by decide +kernel, rfl, by decide +kernel, by decide +kernel⟩
theorem scWhole : FnScope ["_law_one", "_law_due"] ["_law_one", "_law_due"] (defScope sWhole) := ⟨rfl, rfl, rfl, by decide +kernel, rfl, by decide +kernel, by decide +kernel⟩
abbrev nLaw : List Str := ["_law_script", "_law_tag_here", "_law_parts", "_law_recipe", "_law_stream", "_law_plain", "_law_taken", "_law_opened", "_law_k", "_law_word_here", "_law_kept", "_law_told_here"]
theorem scLaw : FnScope nLaw ["_law_script"] (defScope sLaw) := ⟨rfl, rfl, rfl, by decide +kernel, rfl, by decide +kernel, by decide +kernel⟩

/-! ### Words and tags -/
abbrev abc : Str := "abcdefghijklmnopqrstuvwxyz"
abbrev slash : Str := "/"
def signB (c : Nat) : Bool := decide (c ∈ abc.cps.toList)
def tagB (z : Str) : Bool := decide (1 ≤ z.length) && decide (z.length ≤ 8) && z.cps.toList.all signB
theorem tag_slash : tagB slash = false := by decide +kernel

/-! ### The changer's one rule: its parts are trees without kids, or with kids alone -/
abbrev Parts := List (Str × Bool)
def KidsAt (H : Hp) (kk : Addr) : Prop := H kk = some (.tup [.str "kids", .int 0])
/-- what is within a part: kids alone, or nothing -/
def FlatAt (H : Hp) (c : Addr) : Bool → Prop
  | true => ∃ kk, H c = some (.tup [.ref kk]) ∧ KidsAt H kk
  | false => H c = some (.tup [])
def PartAt (H : Hp) (x : V) (p : Str × Bool) : Prop := ∃ b c, x = .ref b ∧ H b = some (.tup [.str "tag", .str p.1, .ref c]) ∧ FlatAt H c p.2
def PartsAt (H : Hp) (a : Addr) (ps : Parts) : Prop := ∃ xs, H a = some (.tup xs) ∧ xs.length ≤ 2 ∧ Paired (PartAt H) xs ps
def manyK (ps : Parts) : Int := (ps.map fun p => if p.2 then (1 : Int) else 0).sum
def ChangerAt (H : Hp) (a : Addr) (tag : Str) (ps : Parts) : Prop := ∃ rs r p, H a = some (.tup [.int 1, .ref rs]) ∧ H rs = some (.tup [.ref r]) ∧ H r = some (.tup [.int 0, .str tag, .ref p]) ∧ PartsAt H p ps
theorem KidsAt.same {H H' : Hp} {a : Addr} (e : Same H H') (h : KidsAt H a) : KidsAt H' a := e _ _ h
theorem FlatAt.same {H H' : Hp} {a : Addr} {k : Bool} (e : Same H H') (h : FlatAt H a k) : FlatAt H' a k := by
  cases k with
  | true =>
    obtain ⟨kk, h1, h2⟩ := h
    exact ⟨kk, e _ _ h1, h2.same e⟩
  | false => exact e _ _ h
theorem PartAt.same {H H' : Hp} {x : V} {p : Str × Bool} (e : Same H H') (h : PartAt H x p) : PartAt H' x p := by
  obtain ⟨b, c, h1, h2, h3⟩ := h
  exact ⟨b, c, h1, e _ _ h2, h3.same e⟩
theorem PartsAt.same {H H' : Hp} {a : Addr} {ps : Parts} (e : Same H H') (h : PartsAt H a ps) : PartsAt H' a ps := by
  obtain ⟨xs, h1, h2, h3⟩ := h
  exact ⟨xs, e _ _ h1, h2, Paired.mapP h3 fun _ _ q => q.same e⟩
theorem ChangerAt.same {H H' : Hp} {a : Addr} {tag : Str} {ps : Parts} (e : Same H H') (h : ChangerAt H a tag ps) : ChangerAt H' a tag ps := by
  obtain ⟨rs, r, p, h1, h2, h3, h4⟩ := h
  exact ⟨rs, r, p, e _ _ h1, e _ _ h2, e _ _ h3, h4.same e⟩

/-! ### What spelled and cut_at_kids tell -/
/-- a spelled word: a text, or the kids' own tuple -/
abbrev SW := Option Str
def spelled1 (p : Str × Bool) : List SW := some p.1 :: ((if p.2 then [none] else []) ++ [some slash])
def spelledP (ps : Parts) : List SW := (ps.map spelled1).flatten
/-- ahead, has kids been met, behind -/
structure Cut where
  ah : List Str
  md : Bool
  bh : List Str
def Cut.step (c : Cut) : SW → Cut
  | none => ⟨c.ah, true, c.bh⟩
  | some w => if c.md then ⟨c.ah, c.md, c.bh ++ [w]⟩ else ⟨c.ah ++ [w], c.md, c.bh⟩
def cutP (ps : Parts) : Cut := (spelledP ps).foldl Cut.step ⟨[], false, []⟩
def mV (b : Bool) : V := if b then .int 0 else .non

/-! ### A stream -/
structure Rl where
  tag : Str
  c : Cut
structure Sst where
  ms : List Bool
  ow : List (List Str)
  tk : Nat
def entSt (R : Rl) (s : Sst) (w : Str) : Sst × List Str :=
  if s.ms.headD false then (if w = R.tag then (⟨R.c.md :: s.ms, R.c.bh :: s.ow, s.tk⟩, R.c.ah) else (⟨true :: s.ms, [slash] :: s.ow, s.tk⟩, [w])) else (⟨false :: s.ms, [] :: s.ow, s.tk⟩, [])
/-- what take(w) does: the state behind, the words that come; none: refused -/
def stepSt (R : Rl) (s : Sst) (w : Str) : Option (Sst × List Str) :=
  if w = slash ∧ s.ow ≠ [] then some (⟨s.ms.tail, s.ow.tail, s.tk + 1⟩, s.ow.headD [])
  else if tagB w then some (entSt R ⟨s.ms, s.ow, s.tk + 1⟩ w) else none
/-- sizes; n bounds the height -/
structure Good (R : Rl) (s : Sst) (n : Nat) : Prop where
  ms : s.ms.length = s.ow.length + 1
  ht : s.ow.length ≤ n
  ws : ∀ l ∈ s.ow, l.length ≤ 20
  ah : R.c.ah.length ≤ 20
  bh : R.c.bh.length ≤ 20
structure SA where
  p : Addr
  d : Addr
  q : Addr
  a1 : Addr
  a2 : Addr
  m : Addr
  o : Addr
  ls : List Addr
def SA.all (A : SA) : List Addr := A.p :: A.d :: A.q :: A.a1 :: A.a2 :: A.m :: A.o :: A.ls
def fsOf (d m o : Addr) (t : Nat) : List (Str × V) := [("rules", .ref d), ("modes", .ref m), ("owing", .ref o), ("taken", .int (t : Int))]
def ListAt (H : Hp) (l : Addr) (ws : List Str) : Prop := H l = some (.lst (ws.map V.str))
structure StAt (H : Hp) (C : Addr) (R : Rl) (A : SA) (s : Sst) : Prop where
  p : ∃ dx, H A.p = some (.ins C dx (fsOf A.d A.m A.o s.tk))
  d : H A.d = some (.dT [([.inl 0, .inr R.tag], .ref A.q)])
  q : H A.q = some (.tup [.ref A.a1, mV R.c.md, .ref A.a2])
  a1 : ListAt H A.a1 R.c.ah
  a2 : ListAt H A.a2 R.c.bh
  m : H A.m = some (.lst (s.ms.reverse.map mV))
  o : H A.o = some (.lst (A.ls.reverse.map V.ref))
  ls : Paired (ListAt H) A.ls s.ow
  nd : A.all.Nodup
/-- only what stands at F may have changed -/
def Only' (F : List Addr) (H H' : Hp) : Prop := ∀ b o, b ∉ F → H b = some o → H' b = some o
theorem Same.only {F : List Addr} {H H' : Hp} (e : Same H H') : Only' F H H' := fun b o _ h => e b o h
theorem Only'.trans {F : List Addr} {H H1 H2 : Hp} (a : Only' F H H1) (b : Only' F H1 H2) : Only' F H H2 := fun x o n h => b x o n (a x o n h)
theorem Only'.mono {F G : List Addr} {H H' : Hp} (a : Only' F H H') (h : ∀ b ∈ F, b ∈ G) : Only' G H H' := fun x o n e => a x o (fun z => n (h x z)) e
theorem StAt.some {H : Hp} {C : Addr} {R : Rl} {A : SA} {s : Sst} (h : StAt H C R A s) : ∀ b ∈ A.all, ∃ o, H b = Option.some o := by
  intro b hb
  obtain ⟨dx, hp⟩ := h.p
  simp only [SA.all, List.mem_cons] at hb
  rcases hb with e | e | e | e | e | e | e | e
  · exact ⟨_, e ▸ hp⟩
  · exact ⟨_, e ▸ h.d⟩
  · exact ⟨_, e ▸ h.q⟩
  · exact ⟨_, e ▸ h.a1⟩
  · exact ⟨_, e ▸ h.a2⟩
  · exact ⟨_, e ▸ h.m⟩
  · exact ⟨_, e ▸ h.o⟩
  · have key : ∀ {ls : List Addr} {ow : List (List Str)}, Paired (ListAt H) ls ow → b ∈ ls → ∃ o, H b = Option.some o := by
      intro ls ow hp
      induction hp with
      | nil => intro m; simp at m
      | cons r t ih =>
        intro m
        rcases List.mem_cons.mp m with e | e
        · exact ⟨_, e ▸ r⟩
        · exact ih e
    exact key h.ls e
theorem paired_mem {α β : Type} {F G : α → β → Prop} : ∀ {l₁ : List α} {l₂ : List β}, Paired F l₁ l₂ → (∀ a b, a ∈ l₁ → F a b → G a b) → Paired G l₁ l₂
  | _, _, .nil, _ => .nil
  | _, _, .cons r t, f => .cons (f _ _ List.mem_cons_self r) (paired_mem t fun a b m => f a b (List.mem_cons_of_mem _ m))
/-- a stream stands while its footprint does -/
theorem StAt.keep {H H' : Hp} {C : Addr} {R : Rl} {A : SA} {s : Sst} (h : StAt H C R A s) (k : ∀ b o, b ∈ A.all → H b = Option.some o → H' b = Option.some o) : StAt H' C R A s := by
  obtain ⟨dx, hp⟩ := h.p
  have m : ∀ b, b ∈ A.ls → b ∈ A.all := fun b hb => by simp [SA.all, hb]
  exact ⟨⟨dx, k _ _ (by simp [SA.all]) hp⟩, k _ _ (by simp [SA.all]) h.d, k _ _ (by simp [SA.all]) h.q, k _ _ (by simp [SA.all]) h.a1, k _ _ (by simp [SA.all]) h.a2, k _ _ (by simp [SA.all]) h.m, k _ _ (by simp [SA.all]) h.o,
    paired_mem h.ls fun a b hm r => k _ _ (m a hm) r, h.nd⟩
theorem StAt.same {H H' : Hp} {C : Addr} {R : Rl} {A : SA} {s : Sst} (h : StAt H C R A s) (e : Same H H') : StAt H' C R A s := h.keep fun b o _ q => e b o q
theorem same_upd {H : Hp} {p : Addr} {o : HO} (h : H p = none) : Same H (upd H p o) := fun b u e => by
  rw [upd_ne (ne_of_none e h)]
  exact e
end Fg

namespace Fg
open PySem L2 FgR
/-! ### What the top has written -/
structure Ad where
  CG : Addr
  CN : Addr
  CS : Addr
  C : Addr
  NG : Addr
  isTag : Addr
  kids : Addr
  str : Addr
  spell : Addr
  cut : Addr
  init : Addr
  take : Addr
  ent : Addr
  ht : Addr
  owed : Addr
  cell : Addr
  tag : Addr
  spoil : Addr
  word : Addr
  isT : Addr
  told : Addr
  whole : Addr
structure Txt (K : PySem.W.Frag) (mg : Str → Option Value) (a : Ad) : Prop where
  mCG : mg "GroveError" = some (.ref a.CG)
  mCN : mg "NoGrove" = some (.ref a.CN)
  mCS : mg "NotStraight" = some (.ref a.CS)
  mC : mg "Stream" = some (.ref a.C)
  LET : ∃ t, mg "LETTERS" = some (.str abc t)
  END : ∃ t, mg "END" = some (.str slash t)
  len : mg "len" = none
  all : mg "all" = none
  isi : mg "isinstance" = none
  tuple : mg "tuple" = none
  list : mg "list" = none
  rev : mg "reversed" = none
  range : mg "range" = none
  int : mg "int" = none
  bool : mg "bool" = none
  VE : mg "ValueError" = none
  mIsTag : mg "is_tag" = some (.ref a.isTag)
  kIsTag : PySem.W.keepIn K (.ref a.isTag) = true
  mKids : mg "kids_in" = some (.ref a.kids)
  kKids : PySem.W.keepIn K (.ref a.kids) = true
  mStr : mg "straight" = some (.ref a.str)
  kStr : PySem.W.keepIn K (.ref a.str) = true
  mSpell : mg "spelled" = some (.ref a.spell)
  kSpell : PySem.W.keepIn K (.ref a.spell) = true
  mCut : mg "cut_at_kids" = some (.ref a.cut)
  kCut : PySem.W.keepIn K (.ref a.cut) = true
  mCell : mg "_law_cell" = some (.ref a.cell)
  kCell : PySem.W.keepIn K (.ref a.cell) = true
  mTag : mg "_law_tag" = some (.ref a.tag)
  kTag : PySem.W.keepIn K (.ref a.tag) = true
  mSpoil : mg "_law_spoiled" = some (.ref a.spoil)
  kSpoil : PySem.W.keepIn K (.ref a.spoil) = true
  mWord : mg "_law_word" = some (.ref a.word)
  kWord : PySem.W.keepIn K (.ref a.word) = true
  mIsT : mg "_law_is_tag" = some (.ref a.isT)
  kIsT : PySem.W.keepIn K (.ref a.isT) = true
  mTold : mg "_law_told" = some (.ref a.told)
  kTold : PySem.W.keepIn K (.ref a.told) = true
  mWhole : mg "_law_whole" = some (.ref a.whole)
  kWhole : PySem.W.keepIn K (.ref a.whole) = true
  cl : Cls K a.C
  nR : NoAttr K a.C "rules"
  nM : NoAttr K a.C "modes"
  nO : NoAttr K a.C "owing"
  nT : NoAttr K a.C "taken"
  mkC : Mk K a.C a.init
  meTake : Meth K a.C "take" a.take
  meEnt : Meth K a.C "entered" a.ent
  meHt : Meth K a.C "height" a.ht
  meOwed : Meth K a.C "owed" a.owed
  exN : OexC K a.CN
  iN : PySem.W.findIn K (.ref a.CN) "__init__" = some (some (.ref a.NG))
  tN : PySem.W.typeIn K (.ref a.NG) = some (.type "function")
  noP : PySem.W.findIn K (.ref a.CN) "place" = some none
  crG : ClX.CRead K a.CG (.type "type")
  vG : PySem.W.findCls K (.ref a.CG) (.type "type") "__init__" = some (.val (.builtin "ValueError.__init__"))
  isN : ExcC K a.CN
  xfN : XfC K a.CN
  eNN : PySem.W.exmOne K (.ref a.CN) (.ref a.CN) = some true
  eNG : PySem.W.exmOne K (.ref a.CN) (.ref a.CG) = some true
  iNV : PySem.W.kitOne K (.ref a.CN) (.type "ValueError") = some true
  iNS : PySem.W.kitOne K (.ref a.CN) (.ref a.CS) = some false
  iNN : PySem.W.kitOne K (.ref a.CN) (.ref a.CN) = some true

/-! ### Promises -/
/-- NoGrove's __init__: the new exception gets its dict with the place -/
def spNG (CN : Addr) : Sp := fun vs H Q _ => ∃ (a : Addr) (v : V), vs = [.ref a, v] ∧ H a = some (exo a CN none) ∧ ∀ dx, H dx = none → dx ≠ a → Q .non (upd (upd H dx (exd dx [("place", v)])) a (exo a CN (some dx)))
def spIsTag : Sp := fun vs H Q _ => ∃ z : Str, vs = [.str z] ∧ z.length ≤ sizeLine ∧ Q (.bl (tagB z)) H
def spKids0 : Sp := fun vs H Q _ => ∃ (c : Addr) (k : Bool), vs = [.ref c] ∧ FlatAt H c k ∧ Q (.int (if k then 1 else 0)) H
def spKids : Sp := fun vs H Q _ => ∃ (c : Addr) (ps : Parts), vs = [.ref c] ∧ PartsAt H c ps ∧ Q (.int (manyK ps)) H
def spStr : Sp := fun vs H Q _ => ∃ (c : Addr) (tag : Str) (ps : Parts), vs = [.ref c] ∧ ChangerAt H c tag ps ∧ manyK ps < 2 ∧ ∀ H', Same H H' → Q (.bl true) H'
section
variable {P : Program} {w : World} {K : PySem.W.Frag} {mg : Str → Option Value} {base : Heap} {a : Ad}

/-! ### NoGrove.__init__ -/
theorem ok_ng {f : Addr} {fd : FuncData} (F : Fun K "__init__" "NoGrove.__init__" sNG f fd) (T : Txt K mg a) : FnOk P w K mg base CX0 1 f fd ["self", "place"] (spNG a.CN) := by
  refine F.ok scNG (fun vs H Q E h => ?_) (fun cdv A outer s H vs Q E hr h => ?_)
  · obtain ⟨x, v, rfl, _⟩ := h
    rfl
  · obtain ⟨x, v, rfl, hx, k⟩ := h
    refine ⟨_, pss_cons (ps_expr (pe_oinit rfl T.mCG T.crG T.vG (pa_cons (pv 0) (pa_cons pe_str pa_nil)))) (pss_one (ps_ost (pv 0) (pv 1))), ?_⟩
    refine ⟨_, rfl, x, a.CN, _, rfl, by decide, T.exN, hx, ?_⟩
    exact ⟨_, rfl, _, rfl, x, a.CN, rfl, T.exN, T.noP, .inl ⟨hx, fun dx n ne => k dx n ne⟩⟩

/-! ### is_tag -/
theorem tagB_len {z : Str} (h : z.length < 1 ∨ 8 < z.length) : tagB z = false := by
  unfold tagB
  rcases h with h | h
  · rw [decide_eq_false (show ¬ 1 ≤ z.length by omega)]
    rfl
  · rw [decide_eq_false (show ¬ z.length ≤ 8 by omega), Bool.and_false]
    rfl
theorem tagB_bad {z : Str} {i c : Nat} (h : z.cps[i]? = some c) (hc : signB c = false) : tagB z = false := by
  unfold tagB
  have hm : c ∈ z.cps.toList := by
    have := Array.mem_of_getElem? h
    exact Array.mem_toList_iff.mpr this
  have : z.cps.toList.all signB = false := by
    rw [List.all_eq_false]
    exact ⟨c, hm, by rw [hc]; decide⟩
  rw [this, Bool.and_false]
theorem tagB_good {z : Str} (h1 : 1 ≤ z.length) (h2 : z.length ≤ 8) (h : ∀ (j c : Nat), z.cps[j]? = some c → signB c = true) : tagB z = true := by
  unfold tagB
  rw [decide_eq_true h1, decide_eq_true h2]
  show (true && z.cps.toList.all signB) = true
  rw [Bool.true_and, List.all_eq_true]
  intro c hc
  obtain ⟨j, hj, e⟩ := Array.getElem_of_mem (Array.mem_toList_iff.mp hc)
  exact h j c (by rw [Array.getElem?_eq_getElem hj, e])
theorem ok_isTag {f : Addr} {fd : FuncData} (F : Fun K "is_tag" "is_tag" sIsTag f fd) (T : Txt K mg a) : FnOk P w K mg base CX0 1 f fd ["text"] spIsTag := by
  refine F.ok scIsTag (fun vs H Q E h => ?_) (fun cdv A outer s H vs Q E hr h => ?_)
  · obtain ⟨z, rfl, _⟩ := h
    rfl
  · obtain ⟨z, rfl, hz, k⟩ := h
    obtain ⟨t, hL⟩ := T.LET
    refine ⟨_, pss_cons (ps_if (PW.pt (pw_or (pt_cmpR op_lt (pe_callB call_len_str (by rfl) T.len PySem.boot_len (pa_cons (pv 0) pa_nil)) pe_int (nomark _))
        (pw_or1 (pt_cmpR op_gt (pe_callB call_len_str (by rfl) T.len PySem.boot_len (pa_cons (pv 0) pa_nil)) pe_int (nomark _))))) (pss_one (ps_ret pe_bl)) pss_nil)
      (pss_cons (ps_for PassesOwn.never rfl (pi_str (pv 0)) (pg_name (i := 1) scIsTag.nd rfl (Or.inl rfl))
        (pss_one (ps_if (pt_cmpR op_notIn_sign (pv 1) (pe_glob (v := .str abc) rfl hL ⟨_, rfl⟩) (by rfl)) (pss_one (ps_ret pe_bl)) pss_nil)))
      (pss_one (ps_ret pe_bl))), ?_⟩
    refine ⟨_, rfl, z, rfl, hz, _, _, rfl, rfl, _, rfl, ite2 (fun c => ?_) (fun c => ?_)⟩
    · have e : tagB z = false := tagB_len (.inl (by have := of_decide_eq_true c; omega))
      rw [e] at k
      exact iteT k
    have c1 : ¬ ((z.length : Nat) : Int) < 1 := fun q => c (decide_eq_true q)
    refine ⟨_, rfl, z, rfl, hz, _, _, rfl, rfl, _, rfl, ite2 (fun c => ?_) (fun c => ?_)⟩
    · have e : tagB z = false := tagB_len (.inr (by have := of_decide_eq_true c; omega))
      rw [e] at k
      exact k
    have c2 : ¬ (8 : Int) < ((z.length : Nat) : Int) := fun q => c (decide_eq_true q)
    refine ⟨_, rfl, z, rfl, for_it walk_str (fun i σ H' => H' = H ∧ (∃ v, σ = [some (.str z), v]) ∧ ∀ (j c : Nat), j < i → z.cps[j]? = some c → signB c = true) ⟨rfl, ⟨none, rfl⟩, fun j c q => absurd q (Nat.not_lt_zero _)⟩ (fun _ _ _ _ _ => trivial) ?_ ?_⟩
    · rintro i x σ H1 H2 hi ⟨rfl, ⟨v, rfl⟩, ok⟩ ⟨rfl, c, hc, rfl⟩
      refine ⟨_, rfl, c, abc, rfl, rfl, _, rfl, ite2 (fun q => ?_) (fun q => ?_)⟩
      · have e : tagB z = false := tagB_bad hc (by simpa [signB] using q)
        rw [e] at k
        exact k
      · refine ⟨rfl, ⟨_, rfl⟩, fun j c' hj hc' => ?_⟩
        by_cases e : j = i
        · subst e
          rw [hc] at hc'
          cases hc'
          simpa [signB] using q
        · exact ok j c' (by omega) hc'
    · rintro σ H1 ⟨rfl, ⟨v, rfl⟩, ok⟩
      have e : tagB z = true := tagB_good (by omega) (by omega) fun j c hj => ok j c (by
        obtain ⟨h, _⟩ := Array.getElem?_eq_some_iff.mp hj
        exact h) hj
      rw [e] at k
      exact k
end
end Fg

namespace Fg
open PySem L2 FgR
/-! ### plain -/
theorem manyK_take {ps : Parts} {i : Nat} {p : Str × Bool} (h : ps[i]? = some p) : manyK (ps.take (i + 1)) = manyK (ps.take i) + (if p.2 then 1 else 0) := by
  unfold manyK
  obtain ⟨hi, e⟩ := List.getElem?_eq_some_iff.mp h
  rw [List.take_succ, h, List.map_append, List.sum_append]
  simp
theorem spelledP_take {ps : Parts} {i : Nat} {p : Str × Bool} (h : ps[i]? = some p) : spelledP (ps.take (i + 1)) = spelledP (ps.take i) ++ spelled1 p := by
  unfold spelledP
  rw [List.take_succ, h, List.map_append, List.flatten_append]
  simp
/-- a spelled word in the heap -/
def SWAt (H : Hp) (x : V) : SW → Prop
  | none => ∃ kk, x = .ref kk ∧ KidsAt H kk
  | some w => x = .str w
theorem SWAt.same {H H' : Hp} {x : V} {s : SW} (e : Same H H') (h : SWAt H x s) : SWAt H' x s := by
  cases s with
  | none =>
    obtain ⟨kk, h1, h2⟩ := h
    exact ⟨kk, h1, h2.same e⟩
  | some w => exact h
theorem SWAt.put {H : Hp} {x : V} {s : SW} {a : Addr} {xs ys : List V} (ha : H a = some (.lst xs)) (h : SWAt H x s) : SWAt (upd H a (.lst ys)) x s := by
  cases s with
  | none =>
    obtain ⟨kk, h1, h2⟩ := h
    refine ⟨kk, h1, ?_⟩
    show upd H a (.lst ys) kk = _
    rw [upd_ne (ne_of h2 ha (by intro q; cases q))]
    exact h2
  | some w => exact h
theorem paired_append {α β : Type} {F : α → β → Prop} : ∀ {l₁ m₁ : List α} {l₂ m₂ : List β}, Paired F l₁ l₂ → Paired F m₁ m₂ → Paired F (l₁ ++ m₁) (l₂ ++ m₂)
  | _, _, _, _, .nil, s => s
  | _, _, _, _, .cons r t, s => .cons r (paired_append t s)
theorem paired_len {α β : Type} {F : α → β → Prop} : ∀ {l₁ : List α} {l₂ : List β}, Paired F l₁ l₂ → l₁.length = l₂.length
  | _, _, .nil => rfl
  | _, _, .cons _ t => by
    rw [List.length_cons, List.length_cons, paired_len t]
theorem FlatAt.xs {H : Hp} {c : Addr} {k : Bool} (h : FlatAt H c k) : ∃ xs : List V, H c = some (.tup xs) ∧ xs.length = (if k then 1 else 0) ∧ Paired (SWAt H) xs (if k then [none] else []) := by
  cases k with
  | true =>
    obtain ⟨kk, h1, h2⟩ := h
    exact ⟨_, h1, rfl, .cons ⟨kk, rfl, h2⟩ .nil⟩
  | false => exact ⟨_, h, rfl, .nil⟩
theorem swNone {k : Bool} {i : Nat} {s : SW} (h : (if k then [none] else [] : List SW)[i]? = some s) : s = none := by
  cases k with
  | true =>
    cases i with
    | zero =>
      have : some (none : SW) = some s := h
      exact (Option.some.inj this).symm
    | succ i => simp at h
  | false => simp at h
def spSp0 : Sp := fun vs H Q _ => ∃ (c : Addr) (k : Bool), vs = [.ref c] ∧ FlatAt H c k ∧ ∀ (H' : Hp) (l : Addr) (ws : List V), Same H H' → H l = none → H' l = some (.lst ws) → Paired (SWAt H') ws (if k then [none] else []) → Q (.ref l) H'
def spSp : Sp := fun vs H Q _ => ∃ (c : Addr) (ps : Parts), vs = [.ref c] ∧ PartsAt H c ps ∧ ∀ (H' : Hp) (l : Addr) (ws : List V), Same H H' → H l = none → H' l = some (.lst ws) → Paired (SWAt H') ws (spelledP ps) → Q (.ref l) H'
/-- the cut of a list of parts: new lists, a new tuple -/
def spCut : Sp := fun vs H Q _ => ∃ (c : Addr) (ps : Parts), vs = [.ref c] ∧ PartsAt H c ps ∧ ∀ (H' : Hp) (q a1 a2 : Addr), Same H H' → H q = none → H a1 = none → H a2 = none → [q, a1, a2].Nodup →
  H' q = some (.tup [.ref a1, mV (cutP ps).md, .ref a2]) → ListAt H' a1 (cutP ps).ah → ListAt H' a2 (cutP ps).bh → Q (.ref q) H'
section
variable {P : Program} {w : World} {K : PySem.W.Frag} {mg : Str → Option Value} {base : Heap} {a : Ad}
/-! ### kids_in -/
theorem ok_kids0 {f : Addr} {fd : FuncData} (F : Fun K "kids_in" "kids_in" sKids f fd) (T : Txt K mg a) : FnOk P w K mg base CX0 1 f fd ["parts"] spKids0 := by
  refine F.ok scKids (fun vs H Q E h => ?_) (fun cdv A outer s H vs Q E hr h => ?_)
  · obtain ⟨c, k, rfl, _⟩ := h
    rfl
  · obtain ⟨c, k, rfl, hF, hQ⟩ := h
    obtain ⟨xs, hc, hl, hp⟩ := hF.xs
    refine ⟨_, pss_cons (ps_set (i := 1) scKids.nd rfl (Or.inl rfl) pe_int)
      (pss_cons (ps_for PassesOwn.never rfl (pi_tup (pv 0)) (pg_name (i := 2) scKids.nd rfl (Or.inl rfl))
        (pss_one (ps_if (pt_cmpR op_eq (pe_ix ix_tup (pv 2) pe_int fun _ _ => rfl) pe_str (nomark _)) (pss_one (ps_set (i := 1) scKids.nd rfl (Or.inl rfl) (pe_op op_add (pv 1) pe_int))) pss_never)))
      (pss_one (ps_ret (pv 1)))), ?_⟩
    refine ⟨_, rfl, c, rfl, ⟨_, SqT.of hc⟩, for_tup (K := K) (a := c) (xs := xs) (fun i σ H' => H' = H ∧ ∃ v, σ = [some (.ref c), some (.int (i : Int)), v]) ⟨rfl, none, rfl⟩ (fun i σ H' _ z => by rw [z.1]; exact SqT.of hc) ?_ ?_⟩
    · rintro i x σ H' hi ⟨rfl, v, rfl⟩
      obtain ⟨s', hs, hx⟩ := paired_get hp hi
      rw [swNone hs] at hx
      obtain ⟨kk, rfl, hk⟩ := hx
      refine ⟨_, rfl, kk, _, _, _, rfl, rfl, SqT.of hk, rfl, rfl, _, rfl, ite2 (fun _ => ?_) (fun q => absurd (decide_eq_true rfl) q)⟩
      exact ⟨_, rfl, _, _, rfl, rfl, rfl, _, rfl⟩
    · rintro σ H' ⟨rfl, v, rfl⟩
      refine ⟨_, rfl, ?_⟩
      rw [hl]
      cases k <;> exact hQ
theorem ok_kids {f : Addr} {fd : FuncData} (F : Fun K "kids_in" "kids_in" sKids f fd) (T : Txt K mg a) (hf : f = a.kids) (b : Binds K fd ["parts"] []) : FnOk P w K mg base CX0 2 f fd ["parts"] spKids := by
  have G : FnOk P w K mg base CX0 1 f fd ["parts"] spKids0 := ok_kids0 F T
  subst hf
  refine F.ok scKids (fun vs H Q E h => ?_) (fun cdv A outer s H vs Q E hr h => ?_)
  · obtain ⟨c, ps, rfl, _⟩ := h
    rfl
  · obtain ⟨c, ps, rfl, ⟨xs, hc, hl2, hp⟩, hQ⟩ := h
    refine ⟨_, pss_cons (ps_set (i := 1) scKids.nd rfl (Or.inl rfl) pe_int)
      (pss_cons (ps_for PassesOwn.never rfl (pi_tup (pv 0)) (pg_name (i := 2) scKids.nd rfl (Or.inl rfl))
        (pss_one (ps_if (pt_cmpR op_eq (pe_ix ix_tup (pv 2) pe_int fun _ _ => rfl) pe_str (nomark _)) pss_never
          (pss_one (ps_set (i := 1) scKids.nd rfl (Or.inl rfl) (pe_op op_add (pv 1) (pe_call G hr rfl T.mKids T.kKids b .nil pass0 (pa_cons (pe_ix ix_tup (pv 2) pe_int fun _ _ => rfl) pa_nil))))))))
      (pss_one (ps_ret (pv 1)))), ?_⟩
    refine ⟨_, rfl, c, rfl, ⟨_, SqT.of hc⟩, for_tup (K := K) (a := c) (xs := xs) (fun i σ H' => H' = H ∧ ∃ v, σ = [some (.ref c), some (.int (manyK (ps.take i))), v]) ⟨rfl, none, rfl⟩ (fun i σ H' _ z => by rw [z.1]; exact SqT.of hc) ?_ ?_⟩
    · rintro i x σ H' hi ⟨rfl, v, rfl⟩
      obtain ⟨p, hs, hx⟩ := paired_get hp hi
      obtain ⟨bb, cc, rfl, hb, hF⟩ := hx
      refine ⟨_, rfl, bb, _, _, _, rfl, rfl, SqT.of hb, rfl, rfl, _, rfl, ite2 (fun q => absurd (of_decide_eq_true q) (by decide +kernel)) (fun _ => ?_)⟩
      refine ⟨_, rfl, _, rfl, bb, _, _, _, rfl, rfl, SqT.of hb, rfl, cc, p.2, rfl, hF, ?_⟩
      refine ⟨_, _, rfl, rfl, rfl, some (.ref bb), ?_⟩
      rw [manyK_take hs]
      rfl
    · rintro σ H' ⟨rfl, v, rfl⟩
      refine ⟨_, rfl, ?_⟩
      rw [paired_len hp, List.take_length]
      exact hQ
/-! ### straight -/
theorem ok_str {f fk : Addr} {fd fdk : FuncData} (F : Fun K "straight" "straight" sStr f fd) (T : Txt K mg a) (FK : Fun K "kids_in" "kids_in" sKids a.kids fdk) (bk : Binds K fdk ["parts"] []) : FnOk P w K mg base CX0 3 f fd ["changer"] spStr := by
  have G : FnOk P w K mg base CX0 2 a.kids fdk ["parts"] spKids := ok_kids FK T rfl bk
  refine F.ok scStr (fun vs H Q E h => ?_) (fun cdv A outer s H vs Q E hr h => ?_)
  · obtain ⟨c, tag, ps, rfl, _⟩ := h
    rfl
  · obtain ⟨c, tag, ps, rfl, ⟨rs, r, p, h1, h2, h3, h4⟩, hm, hQ⟩ := h
    refine ⟨_, pss_one (ps_ret (pe_callB (cr_all rfl) (by rfl) T.all (by decide +kernel) (pa_cons
      (pe_lc (own := [("rule", 1)]) (g := gName 1) (tt := tYes) rfl scStr.nd (pi_tup (pe_ix ix_tup (pv 0) pe_int fun _ _ => rfl)) (blkOk_by (N := ["changer", "rule"]) (sc := defScope sStr) (by decide +kernel)) (fun _ _ _ _ _ => pg_name (i := 1) scStr.nd rfl (Or.inl rfl)) (fun _ _ _ _ _ => pts_nil)
        (fun _ _ _ _ _ => pe_cmpR op_lt (pe_call G hr rfl T.mKids T.kKids bk .nil pass0 (pa_cons (pe_ix (r := rIxT K) ix_tup (pv 1) pe_int fun _ _ => rfl) pa_nil)) pe_int (nomark _))) pa_nil))), ?_⟩
    refine ⟨_, rfl, c, _, _, _, rfl, rfl, SqT.of h1, rfl, rs, rfl, ⟨_, SqT.of h2⟩, fun D hD => lc_tup (K := K) (a := rs) (xs := [.ref r]) (fun i H' => Same H H' ∧ H D = none ∧ H' D = some (.lst ((List.replicate i true).map V.bl))) ?_ (fun i H' _ z => SqT.of (z.1 _ _ h2)) ?_ ?_⟩
    · exact ⟨same_upd hD, hD, upd_same⟩
    · rintro i x H' hi ⟨e, _, hd⟩
      have hi0 : i = 0 := by
        have := (List.getElem?_eq_some_iff.mp hi).1
        simp at this
        omega
      subst hi0
      have ex : V.ref r = x := Option.some.inj hi
      subst ex
      refine ⟨rfl, ?_⟩
      refine ⟨_, rfl, r, _, _, _, rfl, rfl, SqT.of (e _ _ h3), rfl, p, ps, rfl, h4.same e, _, _, rfl, rfl, ?_⟩
      refine ⟨_, hd, by decide, ?_⟩
      have ed : decide (manyK ps < 2) = true := decide_eq_true hm
      refine ⟨fun b o q => ?_, hD, ?_⟩
      · rw [upd_ne (ne_of_none q hD)]
        exact e _ _ q
      · rw [upd_same]
        show some (HO.lst [V.bl (decide (manyK ps < 2))]) = some (HO.lst [V.bl true])
        rw [ed]
    · rintro H' ⟨e, _, hd⟩
      exact ⟨D, List.replicate 1 true, rfl, SqL.of hd, hQ _ e⟩
/-! ### spelled -/
theorem ok_sp0 {f : Addr} {fd : FuncData} (F : Fun K "spelled" "spelled" sSpell f fd) (T : Txt K mg a) : FnOk P w K mg base CX0 1 f fd ["parts"] spSp0 := by
  refine F.ok scSpell (fun vs H Q E h => ?_) (fun cdv A outer s H vs Q E hr h => ?_)
  · obtain ⟨c, k, rfl, _⟩ := h
    rfl
  · obtain ⟨c, k, rfl, hF, hQ⟩ := h
    obtain ⟨xs, hc, hl, hp⟩ := hF.xs
    refine ⟨_, pss_cons (ps_set (i := 1) scSpell.nd rfl (Or.inl rfl) (pe_lst pa_nil))
      (pss_cons (ps_for PassesOwn.never rfl (pi_tup (pv 0)) (pg_name (i := 2) scSpell.nd rfl (Or.inl rfl))
        (pss_one (ps_if (pt_cmpR op_eq (pe_ix ix_tup (pv 2) pe_int fun _ _ => rfl) pe_str (nomark _))
          (pss_one (ps_expr (pe_bm PySem.F.plainAttrs_list PySem.F.slot_list_append PySem.F.type_list_append mt_append (pv 1) (pa_cons (pv 2) pa_nil)))) pss_never)))
      (pss_one (ps_ret (pv 1)))), ?_⟩
    refine ⟨Nat.zero_le _, fun l hn => ?_⟩
    have e0 : Same H (upd H l (.lst [])) := same_upd hn
    refine ⟨_, rfl, c, rfl, ⟨_, SqT.of (e0 _ _ hc)⟩, for_tup (K := K) (a := c) (xs := xs) (fun i σ H' => Same H H' ∧ H' l = some (.lst (xs.take i)) ∧ ∃ v, σ = [some (.ref c), some (.ref l), v]) ⟨e0, upd_same, none, rfl⟩ (fun i σ H' _ z => SqT.of (z.1 _ _ hc)) ?_ ?_⟩
    · rintro i x σ H' hi ⟨e, hL, v, rfl⟩
      obtain ⟨s', hs, hx⟩ := paired_get hp hi
      rw [swNone hs] at hx
      obtain ⟨kk, rfl, hk⟩ := hx
      have hil : i < xs.length := (List.getElem?_eq_some_iff.mp hi).1
      refine ⟨_, rfl, kk, _, _, _, rfl, rfl, SqT.of (e _ _ hk), rfl, rfl, _, rfl, ite2 (fun _ => ?_) (fun q => absurd (decide_eq_true rfl) q)⟩
      refine ⟨_, rfl, .inl ⟨rfl, _, SqL.of hL⟩, _, rfl, l, _, _, rfl, rfl, hL, small1000 (by
        have hl1 : xs.length ≤ 1 := by
          rw [hl]
          cases k <;> decide
        rw [List.length_take]
        omega), ?_⟩
      refine ⟨fun b o q => ?_, ?_, _, rfl⟩
      · rw [upd_ne (ne_of_none q hn)]
        exact e _ _ q
      · rw [upd_same, List.take_succ, hi]
        rfl
    · rintro σ H' ⟨e, hL, v, rfl⟩
      rw [List.take_length] at hL
      exact ⟨_, rfl, hQ _ l xs e hn hL (Paired.mapP hp fun _ _ q => q.same e)⟩
theorem ok_sp {f : Addr} {fd : FuncData} (F : Fun K "spelled" "spelled" sSpell f fd) (T : Txt K mg a) (hf : f = a.spell) (b : Binds K fd ["parts"] []) : FnOk P w K mg base CX0 2 f fd ["parts"] spSp := by
  have G : FnOk P w K mg base CX0 1 f fd ["parts"] spSp0 := ok_sp0 F T
  subst hf
  refine F.ok scSpell (fun vs H Q E h => ?_) (fun cdv A outer s H vs Q E hr h => ?_)
  · obtain ⟨c, k, rfl, _⟩ := h
    rfl
  · obtain ⟨c, ps, rfl, ⟨xs, hc, hl2, hp⟩, hQ⟩ := h
    obtain ⟨t, hE⟩ := T.END
    refine ⟨_, pss_cons (ps_set (i := 1) scSpell.nd rfl (Or.inl rfl) (pe_lst pa_nil))
      (pss_cons (ps_for PassesOwn.never rfl (pi_tup (pv 0)) (pg_name (i := 2) scSpell.nd rfl (Or.inl rfl))
        (pss_one (ps_if (pt_cmpR op_eq (pe_ix ix_tup (pv 2) pe_int fun _ _ => rfl) pe_str (nomark _)) pss_never
          (pss_one (ps_set (i := 1) scSpell.nd rfl (Or.inl rfl) (pe_op op_cat (pe_op op_cat (pe_op op_cat (pv 1) (pe_lst (pa_cons (pe_ix ix_tup (pv 2) pe_int fun _ _ => rfl) pa_nil)))
            (pe_call G hr rfl T.mSpell T.kSpell b .nil pass0 (pa_cons (pe_ix ix_tup (pv 2) pe_int fun _ _ => rfl) pa_nil))) (pe_lst (pa_cons (pe_glob (v := .str slash) rfl hE ⟨_, rfl⟩) pa_nil))))))))
      (pss_one (ps_ret (pv 1)))), ?_⟩
    refine ⟨Nat.zero_le _, fun l hn => ?_⟩
    have e0 : Same H (upd H l (.lst [])) := same_upd hn
    refine ⟨_, rfl, c, rfl, ⟨_, SqT.of (e0 _ _ hc)⟩, for_tup (K := K) (a := c) (xs := xs) (fun i σ H' => ∃ (l : Addr) (ws : List V) (v : Option V), Same H H' ∧ H l = none ∧ H' l = some (.lst ws) ∧ ws.length ≤ 3 * i ∧ Paired (SWAt H') ws (spelledP (ps.take i)) ∧ σ = [some (.ref c), some (.ref l), v])
      ⟨l, [], none, e0, hn, upd_same, Nat.le_refl _, .nil, rfl⟩ (fun i σ H' _ ⟨_, _, _, z, _⟩ => SqT.of (z _ _ hc)) ?_ ?_⟩
    · rintro i x σ H' hi ⟨l, ws, v, e, hn, hL, hlen, hw, rfl⟩
      obtain ⟨p, hs, hx⟩ := paired_get hp hi
      obtain ⟨bb, cc, rfl, hb, hF⟩ := hx
      have hil : i < xs.length := (List.getElem?_eq_some_iff.mp hi).1
      refine ⟨_, rfl, bb, _, _, _, rfl, rfl, SqT.of (e _ _ hb), rfl, rfl, _, rfl, ite2 (fun q => absurd (of_decide_eq_true q) (by decide +kernel)) (fun _ => ?_)⟩
      refine ⟨_, rfl, _, rfl, bb, _, _, _, rfl, rfl, SqT.of (e _ _ hb), rfl, (by show 1 ≤ sizeLine; decide), fun p1 n1 => ?_⟩
      have e1 : Same H' (upd H' p1 (.lst [.str p.1])) := same_upd n1
      refine ⟨l, p1, ws, _, rfl, rfl, e1 _ _ hL, upd_same, Nat.le_of_lt (small1000 (by simp; omega)), fun p2 n2 => ?_⟩
      have e2 : Same H' (upd (upd H' p1 (.lst [.str p.1])) p2 (.lst (ws ++ [.str p.1]))) := e1.trans (same_upd n2)
      refine ⟨_, rfl, bb, _, _, _, rfl, rfl, SqT.of (e2 _ _ (e _ _ hb)), rfl, cc, p.2, rfl, (hF.same e).same e2, fun H3 l3 ws3 e3 n3 h3 hw3 => ?_⟩
      have l3len : ws3.length ≤ 1 := by
        have := paired_len hw3
        cases hk : p.2 <;> rw [hk] at this <;> simp at this <;> simp [this]
      refine ⟨p2, l3, _, ws3, rfl, rfl, e3 _ _ upd_same, h3, Nat.le_of_lt (small1000 (by simp; omega)), fun p4 n4 => ?_⟩
      have e4 := e3.trans (same_upd (o := .lst (ws ++ [.str p.1] ++ ws3)) n4)
      refine ⟨(by show 1 ≤ sizeLine; decide), fun p5 n5 => ?_⟩
      have e5 := e4.trans (same_upd (o := .lst [.str slash]) n5)
      refine ⟨p4, p5, _, _, rfl, rfl, same_upd n5 _ _ upd_same, upd_same, Nat.le_of_lt (small1000 (by simp; omega)), fun p6 n6 => ?_⟩
      have e6 := e5.trans (same_upd (o := .lst (ws ++ [.str p.1] ++ ws3 ++ [.str slash])) n6)
      have e7 := (e.trans e2).trans e6
      refine ⟨p6, _, _, e7, ((e.trans e2).trans e5).free n6, upd_same, by simp; omega, ?_, rfl⟩
      rw [spelledP_take hs]
      have k1 : Paired (SWAt _) ws (spelledP (ps.take i)) := Paired.mapP hw fun (_ : V) (_ : SW) (q : SWAt H' _ _) => (q.same e2).same e6
      have k3 : Paired (SWAt _) ws3 (if p.2 then [none] else []) := Paired.mapP hw3 fun (_ : V) (_ : SW) (q : SWAt H3 _ _) => q.same ((same_upd n4).trans ((same_upd n5).trans (same_upd (o := .lst (ws ++ [.str p.1] ++ ws3 ++ [.str slash])) n6)))
      have k4 : ∀ Hx : Hp, Paired (SWAt Hx) [V.str slash] [some slash] := fun Hx => .cons rfl .nil
      have k2 : ∀ (Hx : Hp) {l : List V} {m : List SW}, Paired (SWAt Hx) l m → Paired (SWAt Hx) (V.str p.1 :: l) (some p.1 :: m) := fun Hx _ _ q => .cons rfl q
      have q1 := paired_append k1 (k2 _ (paired_append k3 (k4 _)))
      have ea : ws ++ V.str p.1 :: (ws3 ++ [V.str slash]) = ws ++ [V.str p.1] ++ ws3 ++ [V.str slash] := by simp
      rw [ea] at q1
      exact q1
    · rintro σ H' ⟨l, ws, v, e, hn, hL, hlen, hw, rfl⟩
      rw [paired_len hp, List.take_length] at hw
      exact ⟨_, rfl, hQ _ l ws e hn hL hw⟩
/-! ### cut_at_kids -/
theorem cut_take {l : List SW} {i : Nat} {s : SW} (h : l[i]? = some s) (c : Cut) : (l.take (i + 1)).foldl Cut.step c = Cut.step ((l.take i).foldl Cut.step c) s := by
  rw [List.take_succ, h, List.foldl_append]
  rfl
theorem cut_len : ∀ (l : List SW) (c : Cut), (l.foldl Cut.step c).ah.length + (l.foldl Cut.step c).bh.length ≤ c.ah.length + c.bh.length + l.length
  | [], c => Nat.le_refl _
  | s :: l, c => by
    have h := cut_len l (Cut.step c s)
    rw [List.foldl_cons, List.length_cons]
    refine Nat.le_trans h ?_
    cases s with
    | none => show c.ah.length + c.bh.length + l.length ≤ _; omega
    | some w =>
      unfold Cut.step
      by_cases hm : c.md = true
      · simp only [hm, if_true, List.length_append, List.length_singleton]
        omega
      · simp only [hm, if_false, List.length_append, List.length_singleton]
        split <;> simp <;> omega
theorem spelled1_len (p : Str × Bool) : (spelled1 p).length ≤ 3 := by
  unfold spelled1
  cases p.2 <;> simp
theorem spelledP_len : ∀ ps : Parts, (spelledP ps).length ≤ 3 * ps.length
  | [] => Nat.le_refl _
  | p :: ps => by
    have h := spelledP_len ps
    have h1 := spelled1_len p
    show (spelled1 p ++ spelledP ps).length ≤ _
    rw [List.length_append, List.length_cons]
    omega
theorem cutP_len {ps : Parts} (h : ps.length ≤ 2) : (cutP ps).ah.length ≤ 6 ∧ (cutP ps).bh.length ≤ 6 := by
  have h1 := cut_len (spelledP ps) ⟨[], false, []⟩
  have h2 := spelledP_len ps
  have h3 : (cutP ps).ah.length + (cutP ps).bh.length ≤ ([] : List Str).length + ([] : List Str).length + (spelledP ps).length := h1
  simp at h3
  omega
theorem ok_cut {f : Addr} {fd fdS : FuncData} (F : Fun K "cut_at_kids" "cut_at_kids" sCut f fd) (T : Txt K mg a) (FS : Fun K "spelled" "spelled" sSpell a.spell fdS) (b : Binds K fdS ["parts"] []) : FnOk P w K mg base CX0 3 f fd ["parts"] spCut := by
  have G : FnOk P w K mg base CX0 2 a.spell fdS ["parts"] spSp := ok_sp FS T rfl b
  refine F.ok scCut (fun vs H Q E h => ?_) (fun cdv A outer s H vs Q E hr h => ?_)
  · obtain ⟨c, k, rfl, _⟩ := h
    rfl
  · obtain ⟨c, ps, rfl, hP, hQ⟩ := h
    refine ⟨_, pss_cons (ps_set (i := 1) scCut.nd rfl (Or.inl rfl) (pe_lst pa_nil)) (pss_cons (ps_set (i := 2) scCut.nd rfl (Or.inl rfl) pe_non) (pss_cons (ps_set (i := 3) scCut.nd rfl (Or.inl rfl) (pe_lst pa_nil))
      (pss_cons (ps_for PassesOwn.never rfl (pi_list (pe_call G hr rfl T.mSpell T.kSpell b .nil pass0 (pa_cons (pv 0) pa_nil))) (pg_name (i := 4) scCut.nd rfl (Or.inl rfl))
        (pss_one (ps_if (pt_val (pe_callB call_isi (by rfl) T.isi (by decide +kernel) (pa_cons (pv 4) (pa_cons (pe_bltn (v := .ty "tuple") (by rfl) T.tuple (by decide +kernel) rfl) pa_nil))))
          (pss_one (ps_set (i := 2) scCut.nd rfl (Or.inl rfl) (pe_ix ix_tup (pv 4) pe_int fun _ _ => rfl)))
          (pss_one (ps_if (pt_cmpR op_isN (pv 2) pe_non (nomark _))
            (pss_one (ps_expr (pe_bm PySem.F.plainAttrs_list PySem.F.slot_list_append PySem.F.type_list_append mt_append (pv 1) (pa_cons (pv 4) pa_nil))))
            (pss_one (ps_expr (pe_bm PySem.F.plainAttrs_list PySem.F.slot_list_append PySem.F.type_list_append mt_append (pv 3) (pa_cons (pv 4) pa_nil)))))))))
      (pss_one (ps_ret (pe_tup (pa_cons (pv 1) (pa_cons (pv 2) (pa_cons (pv 3) pa_nil))))))))), ?_⟩
    refine ⟨Nat.zero_le _, fun l1 n1 => ⟨Nat.zero_le _, fun l3 n3 => ?_⟩⟩
    have e1 : Same H (upd H l1 (.lst [])) := same_upd n1
    have e3 : Same H (upd (upd H l1 (.lst [])) l3 (.lst [])) := e1.trans (same_upd n3)
    have ne13 : l1 ≠ l3 := ne_of_none upd_same n3
    have n3' : H l3 = none := e1.free n3
    refine ⟨_, rfl, c, ps, rfl, hP.same e3, fun H4 L ws e4 nL hL hw => ?_⟩
    have neL1 : L ≠ l1 := fun q => by
      rw [q, upd_ne ne13, upd_same] at nL
      cases nL
    have neL3 : L ≠ l3 := fun q => by
      rw [q, upd_same] at nL
      cases nL
    have h41 : H4 l1 = some (.lst []) := e4 _ _ (by rw [upd_ne ne13, upd_same])
    have h43 : H4 l3 = some (.lst []) := e4 _ _ upd_same
    have wlen : ws.length ≤ 6 := by
      obtain ⟨xs, _, hx2, hp⟩ := hP
      have z1 := paired_len hw
      have z2 := spelledP_len ps
      have z3 := paired_len hp
      omega
    refine ⟨L, rfl, ⟨_, SqL.of hL⟩, for_list (K := K) (a := L) (xs := ws) (fun i σ H' => ∃ (v : Option V) (cc : Cut), cc = ((spelledP ps).take i).foldl Cut.step ⟨[], false, []⟩ ∧ Same H H' ∧ H' L = some (.lst ws) ∧ ListAt H' l1 cc.ah ∧ ListAt H' l3 cc.bh ∧ Paired (SWAt H') ws (spelledP ps) ∧
      σ = [some (.ref c), some (.ref l1), some (mV cc.md), some (.ref l3), v]) ⟨none, _, rfl, e3.trans e4, hL, h41, h43, hw, rfl⟩ (fun i σ H' _ ⟨_, _, _, _, z, _⟩ => SqL.of z) ?_ ?_⟩
    · rintro i x σ H' hi ⟨v, cc, ec, e, hL', g1, g3, hw', rfl⟩
      obtain ⟨s', hs, hx⟩ := paired_get hw' hi
      have hil : i < ws.length := (List.getElem?_eq_some_iff.mp hi).1
      have step := cut_take hs (⟨[], false, []⟩ : Cut)
      rw [← ec] at step
      have cl := cut_len ((spelledP ps).take i) ⟨[], false, []⟩
      rw [← ec] at cl
      have cl2 : ((spelledP ps).take i).length ≤ i := by
        rw [List.length_take]
        omega
      simp at cl
      have put : ∀ (b : Addr) (zs ys : List V), H b = none → H' b = some (.lst zs) → Same H (upd H' b (.lst ys)) := fun b zs ys nb hb c' o q => by
        rw [upd_ne (ne_of_none q nb)]
        exact e _ _ q
      cases s' with
      | none =>
        obtain ⟨kk, rfl, hk⟩ := hx
        refine ⟨_, rfl, _, _, _, _, true, rfl, .ty "tuple", .base (.tup hk), kit_ty (by decide +kernel), true, rfl, ?_⟩
        refine iteT ?_
        refine ⟨_, rfl, kk, _, _, _, rfl, rfl, SqT.of hk, rfl, _, _, step.symm, e, hL', g1, g3, hw', rfl⟩
      | some z =>
        have hx : x = V.str z := hx
        subst hx
        refine ⟨_, rfl, _, _, _, _, false, rfl, .ty "tuple", .base (.str z), kit_ty (by decide +kernel), false, rfl, ?_⟩
        refine iteF ?_
        obtain ⟨ah, md, bh⟩ := cc
        cases md with
        | false =>
          refine ⟨_, rfl, rfl, true, rfl, ?_⟩
          refine iteT ?_
          refine ⟨_, rfl, .inl ⟨rfl, _, SqL.of g1⟩, _, rfl, l1, _, _, rfl, rfl, g1, small1000 (by rw [List.length_map]; omega), ?_⟩
          refine ⟨_, _, step.symm, put l1 _ _ n1 g1, by rw [upd_ne neL1]; exact hL', ?_, by show upd H' l1 _ l3 = _; rw [upd_ne ne13.symm]; exact g3, Paired.mapP hw' fun _ _ q => SWAt.put g1 q, rfl⟩
          show upd H' l1 _ l1 = _
          rw [upd_same]
          show some (HO.lst (ah.map V.str ++ [V.str z])) = some (HO.lst ((ah ++ [z]).map V.str))
          rw [List.map_append]
          rfl
        | true =>
          refine ⟨_, rfl, rfl, false, rfl, ?_⟩
          refine iteF ?_
          refine ⟨_, rfl, .inl ⟨rfl, _, SqL.of g3⟩, _, rfl, l3, _, _, rfl, rfl, g3, small1000 (by rw [List.length_map]; omega), ?_⟩
          refine ⟨_, _, step.symm, put l3 _ _ n3' g3, by rw [upd_ne neL3]; exact hL', by show upd H' l3 _ l1 = _; rw [upd_ne ne13]; exact g1, ?_, Paired.mapP hw' fun _ _ q => SWAt.put g3 q, rfl⟩
          show upd H' l3 _ l3 = _
          rw [upd_same]
          show some (HO.lst (bh.map V.str ++ [V.str z])) = some (HO.lst ((bh ++ [z]).map V.str))
          rw [List.map_append]
          rfl
    · rintro σ H' ⟨v, cc, ec, e, hL', g1, g3, hw', rfl⟩
      rw [paired_len hw', List.take_length] at ec
      have ec : cc = cutP ps := ec
      subst ec
      refine ⟨_, rfl, _, rfl, _, rfl, (by show 3 ≤ sizeLine; decide), fun q nq => ?_⟩
      have eq := same_upd (o := .tup [.ref l1, mV (cutP ps).md, .ref l3]) nq
      refine hQ _ q l1 l3 (e.trans eq) (e.free nq) n1 n3' ?_ upd_same (eq _ _ g1) (eq _ _ g3)
      have q1 : l1 ≠ q := ne_of_none g1 nq
      have q3 : l3 ≠ q := ne_of_none g3 nq
      simp [Ne.symm q1, Ne.symm q3, ne13]
end
end Fg

namespace Fg
open PySem L2 FgR
/-! ### the fields of a stream -/
theorem rm_ : ¬ (("rules" : Str) = "modes") := by decide +kernel
theorem ro_ : ¬ (("rules" : Str) = "owing") := by decide +kernel
theorem rt_ : ¬ (("rules" : Str) = "taken") := by decide +kernel
theorem mo_ : ¬ (("modes" : Str) = "owing") := by decide +kernel
theorem mt_ : ¬ (("modes" : Str) = "taken") := by decide +kernel
theorem ot_ : ¬ (("owing" : Str) = "taken") := by decide +kernel
theorem lk_ne {f g : Str} {v : V} {l : List (Str × V)} (h : ¬ g = f) : ((f, v) :: l).lookup g = l.lookup g := by
  have e : (g == f) = false := by simpa using h
  simp [List.lookup, e]
theorem lk_eq {g : Str} {v : V} {l : List (Str × V)} : ((g, v) :: l).lookup g = some v := by simp [List.lookup]
section
variable (d m o : Addr) (t u : Nat)
theorem fs_rules : (fsOf d m o t).lookup ("rules" : Str) = some (.ref d) := lk_eq
theorem fs_modes : (fsOf d m o t).lookup ("modes" : Str) = some (.ref m) := by
  unfold fsOf
  rw [lk_ne (fun q => rm_ q.symm)]
  exact lk_eq
theorem fs_owing : (fsOf d m o t).lookup ("owing" : Str) = some (.ref o) := by
  unfold fsOf
  rw [lk_ne (fun q => ro_ q.symm), lk_ne (fun q => mo_ q.symm)]
  exact lk_eq
theorem fs_taken : (fsOf d m o t).lookup ("taken" : Str) = some (.int (t : Int)) := by
  unfold fsOf
  rw [lk_ne (fun q => rt_ q.symm), lk_ne (fun q => mt_ q.symm), lk_ne (fun q => ot_ q.symm)]
  exact lk_eq
theorem fs_no {g : Str} (h1 : ¬ g = "rules") (h2 : ¬ g = "modes") (h3 : ¬ g = "owing") (h4 : ¬ g = "taken") : (fsOf d m o t).lookup g = none := by
  unfold fsOf
  rw [lk_ne h1, lk_ne h2, lk_ne h3, lk_ne h4]
  rfl
theorem put_taken : putF "taken" (.int (u : Int)) (fsOf d m o t) = fsOf d m o u := by
  show (if ("rules" : Str) = "taken" then _ else (("rules" : Str), V.ref d) :: (if ("modes" : Str) = "taken" then _ else (("modes" : Str), V.ref m) :: (if ("owing" : Str) = "taken" then _ else (("owing" : Str), V.ref o) :: (if ("taken" : Str) = "taken" then [(("taken" : Str), V.int (u : Int))] else _)))) = _
  rw [if_neg rt_, if_neg mt_, if_neg ot_, if_pos rfl]
  rfl
theorem put4 : putF "taken" (.int (t : Int)) (putF "owing" (.ref o) (putF "modes" (.ref m) (putF "rules" (.ref d) []))) = fsOf d m o t := by
  have e1 : putF "rules" (.ref d) [] = [(("rules" : Str), V.ref d)] := rfl
  have e2 : putF "modes" (.ref m) [(("rules" : Str), V.ref d)] = [(("rules" : Str), V.ref d), ("modes", .ref m)] := by
    show (if ("rules" : Str) = "modes" then _ else (("rules" : Str), V.ref d) :: [(("modes" : Str), V.ref m)]) = _
    rw [if_neg rm_]
  have e3 : putF "owing" (.ref o) [(("rules" : Str), V.ref d), ("modes", .ref m)] = [(("rules" : Str), V.ref d), ("modes", .ref m), ("owing", .ref o)] := by
    show (if ("rules" : Str) = "owing" then _ else (("rules" : Str), V.ref d) :: (if ("modes" : Str) = "owing" then _ else (("modes" : Str), V.ref m) :: [(("owing" : Str), V.ref o)])) = _
    rw [if_neg ro_, if_neg mo_]
  rw [e1, e2, e3]
  show (if ("rules" : Str) = "taken" then _ else (("rules" : Str), V.ref d) :: (if ("modes" : Str) = "taken" then _ else (("modes" : Str), V.ref m) :: (if ("owing" : Str) = "taken" then _ else (("owing" : Str), V.ref o) :: [(("taken" : Str), V.int (t : Int))]))) = _
  rw [if_neg rt_, if_neg mt_, if_neg ot_]
  rfl
end
/-! ### __init__ -/
def spInit (C : Addr) : Sp := fun vs H Q _ => ∃ (p ch dx : Addr) (tag : Str) (ps : Parts), vs = [.ref p, .ref ch] ∧ H p = some (.ins C dx []) ∧ ChangerAt H ch tag ps ∧ manyK ps < 2 ∧
  ∀ (H' : Hp) (A : SA), A.p = p → Only' [p] H H' → StAt H' C ⟨tag, cutP ps⟩ A ⟨[true], [], 0⟩ → (∀ b ∈ A.all, b = p ∨ H b = none) → Q .non H'
theorem dput_nil (k : List Key) (v : V) : putK ([] : List (List Key × V)) k v = [(k, v)] := putK_new v valV_nil
section
variable {P : Program} {w : World} {K : PySem.W.Frag} {mg : Str → Option Value} {base : Heap} {a : Ad}
theorem ok_init {f : Addr} {fd fdS fdK fdC fdP : FuncData} (F : Fun K "__init__" "Stream.__init__" sInit f fd) (T : Txt K mg a)
    (FK : Fun K "kids_in" "kids_in" sKids a.kids fdK) (bK : Binds K fdK ["parts"] []) (FS : Fun K "straight" "straight" sStr a.str fdS) (bS : Binds K fdS ["changer"] [])
    (FP : Fun K "spelled" "spelled" sSpell a.spell fdP) (bP : Binds K fdP ["parts"] []) (FC : Fun K "cut_at_kids" "cut_at_kids" sCut a.cut fdC) (bC : Binds K fdC ["parts"] []) :
    FnOk P w K mg base CX0 4 f fd ["self", "changer"] (spInit a.C) := by
  have GS : FnOk P w K mg base CX0 3 a.str fdS ["changer"] spStr := ok_str (fk := a.kids) FS T FK bK
  have GC : FnOk P w K mg base CX0 3 a.cut fdC ["parts"] spCut := ok_cut FC T FP bP
  refine F.ok scInit (fun vs H Q E h => ?_) (fun cdv A outer s H vs Q E hr h => ?_)
  · obtain ⟨p, ch, dx, tag, ps, rfl, _⟩ := h
    rfl
  · obtain ⟨p, ch, dx, tag, ps, rfl, hp, hc, hm, hQ⟩ := h
    refine ⟨_, pss_cons (ps_if (pt_not (pt_val (pe_call GS hr rfl T.mStr T.kStr bS .nil pass0 (pa_cons (pv 1) pa_nil)))) pss_never pss_nil)
      (pss_cons (ps_fld (pv 0) pe_dnewT rfl)
      (pss_cons (ps_for PassesOwn.never rfl (pi_tup (pe_ix ix_tup (pv 1) pe_int fun _ _ => rfl)) (pg_tup rfl (pgs_cons (pg_name (i := 2) scInit.nd rfl (Or.inl rfl)) (pgs_cons (pg_name (i := 3) scInit.nd rfl (Or.inl rfl)) (pgs_cons (pg_name (i := 4) scInit.nd rfl (Or.inl rfl)) pgs_nil))))
        (pss_one (ps_dput (hu_of hr) (pe_fld (pv 0) rfl) (pe_tup (pa_cons (pv 2) (pa_cons (pv 3) pa_nil))) (pe_call GC hr rfl T.mCut T.kCut bC .nil pass0 (pa_cons (pv 4) pa_nil)) rfl)))
      (pss_cons (ps_fld (pv 0) (pe_lst (pa_cons pe_int pa_nil)) rfl)
      (pss_cons (ps_fld (pv 0) (pe_lst pa_nil) rfl)
      (pss_one (ps_fld (pv 0) pe_int rfl)))))), ?_⟩
    refine ⟨_, rfl, ch, tag, ps, rfl, hc, hm, fun H1 e1 => ⟨true, rfl, ?_⟩⟩
    refine iteF ?_
    intro d nd
    have hp1 := e1 _ _ hp
    have npd : p ≠ d := ne_of_none hp1 nd
    refine ⟨_, rfl, p, a.C, dx, [], rfl, (by rw [upd_ne npd]; exact hp1), T.cl, T.nR, (by show 0 < 1000; decide), ?_⟩
    obtain ⟨rs, r, pp, c1, c2, c3, c4⟩ := hc
    -- what stands from here on: all of H but p
    generalize e3 : upd (upd H1 d (.dT [])) p (.ins a.C dx (putF "rules" (.ref d) [])) = H3
    have k3 : ∀ b o, b ≠ p → H b = some o → H3 b = some o := fun b o hb q => by
      rw [← e3, upd_ne hb, upd_ne (ne_of_none (e1 _ _ q) nd)]
      exact e1 _ _ q
    have p3 : H3 p = some (.ins a.C dx (putF "rules" (.ref d) [])) := by rw [← e3, upd_same]
    have d3 : H3 d = some (.dT []) := by rw [← e3, upd_ne npd.symm, upd_same]
    have ndH : H d = none := e1.free nd
    have nchp : ∀ {b : Addr} {xs : List V}, H b = some (.tup xs) → b ≠ p := fun {b xs} q z => by
      rw [z, hp] at q
      cases q
    have c1' := k3 _ _ (nchp c1) c1
    have c2' := k3 _ _ (nchp c2) c2
    have c3' := k3 _ _ (nchp c3) c3
    have pat3 : PartsAt H3 pp ps := by
      obtain ⟨xs, q1, q2, q3⟩ := c4
      refine ⟨xs, k3 _ _ (nchp q1) q1, q2, Paired.mapP q3 fun x y z => ?_⟩
      obtain ⟨b, c, z1, z2, z3⟩ := z
      refine ⟨b, c, z1, k3 _ _ (nchp z2) z2, ?_⟩
      cases hy : y.2 with
      | true =>
        rw [hy] at z3
        obtain ⟨kk, z4, z5⟩ := z3
        exact ⟨kk, k3 _ _ (nchp z4) z4, k3 _ _ (nchp z5) z5⟩
      | false =>
        rw [hy] at z3
        exact k3 _ _ (nchp z3) z3
    have free3 : ∀ {b : Addr}, H3 b = none → H b = none := fun {b} q => by
      cases z : H b with
      | none => rfl
      | some o =>
        by_cases hb : b = p
        · rw [hb, p3] at q
          cases q
        · rw [k3 _ _ hb z] at q
          cases q
    have nd3 : ∀ {b : Addr} {xs : List V}, H3 b = some (.tup xs) → b ∉ [p, d] := fun {b xs} q z => by
      rcases List.mem_cons.mp z with z | z
      · rw [z, p3] at q
        cases q
      · rw [List.mem_singleton.mp z, d3] at q
        cases q
    have nf3 : ∀ {b : Addr}, H3 b = none → b ≠ p ∧ b ≠ d := fun {b} q => ⟨(fun z => by
      rw [z, p3] at q
      cases q), (fun z => by
      rw [z, d3] at q
      cases q)⟩
    refine ⟨_, rfl, ch, _, _, _, rfl, rfl, SqT.of c1', rfl, rs, rfl, ⟨_, SqT.of c2'⟩, for_tup (K := K) (a := rs) (xs := [.ref r])
      (fun i σ H' => (i = 0 → H' = H3) ∧ Only' [p, d] H3 H' ∧ H' p = some (.ins a.C dx (putF "rules" (.ref d) [])) ∧ (i = 1 → ∃ q a1 a2 : Addr, H3 q = none ∧ H3 a1 = none ∧ H3 a2 = none ∧ [q, a1, a2].Nodup ∧ H' d = some (.dT [([.inl 0, .inr tag], .ref q)]) ∧ H' q = some (.tup [.ref a1, mV (cutP ps).md, .ref a2]) ∧ ListAt H' a1 (cutP ps).ah ∧ ListAt H' a2 (cutP ps).bh) ∧
        ∃ v2 v3 v4 : Option V, σ = [some (.ref p), some (.ref ch), v2, v3, v4]) ⟨fun _ => rfl, fun _ _ _ z => z, p3, (fun z => by cases z), none, none, none, rfl⟩ (fun i σ H' _ z => SqT.of (z.2.1 _ _ (nd3 c2') c2')) ?_ ?_⟩
    · rintro i x σ H' hi ⟨h0, _, _, _, v2, v3, v4, rfl⟩
      have hi0 : i = 0 := by
        have := (List.getElem?_eq_some_iff.mp hi).1
        simp at this
        omega
      subst hi0
      have ex : V.ref r = x := Option.some.inj hi
      subst ex
      obtain rfl := h0 rfl
      refine ⟨r, _, rfl, SqT.of c3', rfl, _, _, rfl, _, _, rfl, _, _, rfl, rfl, ?_⟩
      refine ⟨_, rfl, pp, ps, rfl, pat3, fun H4 q a1 a2 e4 nq n1 n2 ndp hq h1 h2 => ?_⟩
      refine ⟨_, rfl, p, a.C, dx, _, _, rfl, e4 _ _ p3, T.cl, T.nR, lk_eq, ?_⟩
      refine ⟨_, rfl, _, rfl, (by show 2 ≤ sizeLine; decide), fun k nk => ?_⟩
      have ek := same_upd (o := .tup [.int 0, .str tag]) nk
      have d4 := ek _ _ (e4 _ _ d3)
      refine ⟨d, _, rfl, DPut.t (k := [.inl 0, .inr tag]) d4 upd_same (by show 0 < sizeLine; decide), ?_⟩
      rw [dput_nil]
      have e5 := e4.trans ek
      have nqd := (nf3 nq).2
      have n1d := (nf3 n1).2
      have n2d := (nf3 n2).2
      refine ⟨fun z => by omega, fun b o hb z => ?_, ?_, fun _ => ⟨q, a1, a2, nq, n1, n2, ndp, upd_same, ?_, ?_, ?_⟩, _, _, _, rfl⟩
      · rw [upd_ne (fun q => hb (by simp [q]))]
        exact e5 _ _ z
      · rw [upd_ne npd]
        exact e5 _ _ p3
      · rw [upd_ne nqd]
        exact ek _ _ hq
      · show upd _ d _ a1 = _
        rw [upd_ne n1d]
        exact ek _ _ h1
      · show upd _ d _ a2 = _
        rw [upd_ne n2d]
        exact ek _ _ h2
    · rintro σ H' ⟨_, only, hp', hx, v2, v3, v4, rfl⟩
      obtain ⟨q, a1, a2, nq, n1, n2, ndp, hd, hq, h1, h2⟩ := hx rfl
      -- self.modes = [0]
      refine ⟨(by show 1 ≤ sizeLine; decide), fun m nm => ?_⟩
      have em := same_upd (o := .lst [.int 0]) nm
      refine ⟨_, rfl, p, a.C, dx, _, rfl, em _ _ hp', T.cl, T.nM, (by show 1 < 1000; decide), ?_⟩
      -- self.owing = []
      refine ⟨Nat.zero_le _, fun o no => ?_⟩
      have nmp : m ≠ p := (ne_of_none hp' nm).symm
      have nop : o ≠ p := fun z => by
        rw [z, upd_same] at no
        cases no
      have no' : upd H' m (.lst [.int 0]) o = none := by
        rw [upd_ne nop] at no
        exact no
      have nmo : m ≠ o := ne_of_none upd_same no'
      have no2 : H' o = none := em.free no'
      refine ⟨_, rfl, p, a.C, dx, _, rfl, (by rw [upd_ne nop.symm, upd_same]), T.cl, T.nO, Nat.lt_of_le_of_lt (length_putF _ _ _) (by show 2 < 1000; decide), ?_⟩
      -- self.taken = 0
      refine ⟨_, rfl, p, a.C, dx, _, rfl, upd_same, T.cl, T.nT, Nat.lt_of_le_of_lt (length_putF _ _ _) (Nat.lt_of_le_of_lt (Nat.succ_le_succ (length_putF _ _ _)) (by show 3 < 1000; decide)), ?_⟩
      have e4 : putF "taken" (.int 0) (putF "owing" (.ref o) (putF "modes" (.ref m) (putF "rules" (.ref d) []))) = fsOf d m o 0 := put4 d m o 0
      rw [e4]
      have pq := (nf3 nq).1
      have p1 := (nf3 n1).1
      have p2 := (nf3 n2).1
      have dq := (nf3 nq).2
      have d1 := (nf3 n1).2
      have d2 := (nf3 n2).2
      have dm := ne_of_none hd nm
      have do_ := ne_of_none hd no2
      have qm := ne_of_none hq nm
      have qo := ne_of_none hq no2
      have m1 : a1 ≠ m := ne_of_none h1 nm
      have o1 : a1 ≠ o := ne_of_none h1 no2
      have m2 : a2 ≠ m := ne_of_none h2 nm
      have o2 : a2 ≠ o := ne_of_none h2 no2
      simp only [List.nodup_cons, List.mem_cons, not_or, List.not_mem_nil, not_false_eq_true, and_true, List.nodup_nil] at ndp
      obtain ⟨⟨q1, q2⟩, a12⟩ := ndp
      have f3 : ∀ {b : Addr}, H3 b = none → H b = none := free3
      have fm : ∀ {b : Addr}, b ≠ p → H' b = none → H b = none := fun {b} bp z => free3 (by
        cases y : H3 b with
        | none => rfl
        | some oo =>
          by_cases bd : b = d
          · rw [bd, hd] at z
            cases z
          · rw [only b oo (by simp [bp, bd]) y] at z
            cases z)
      refine hQ _ ⟨p, d, q, a1, a2, m, o, []⟩ rfl (fun b oo hb z => ?_) ⟨⟨dx, upd_same⟩, ?_, ?_, ?_, ?_, ?_, ?_, .nil, ?_⟩ ?_
      · have bp : b ≠ p := fun y => hb (by simp [y])
        have bd : b ≠ d := fun y => by
          rw [y, ndH] at z
          cases z
        have z' := only b oo (by simp [bp, bd]) (k3 _ _ bp z)
        rw [upd_ne bp, upd_ne bp, upd_ne (ne_of_none z' no2), upd_ne bp, upd_ne (ne_of_none z' nm)]
        exact z'
      · show upd _ p _ d = _
        rw [upd_ne npd.symm, upd_ne npd.symm, upd_ne do_, upd_ne npd.symm, upd_ne dm]
        exact hd
      · show upd _ p _ q = _
        rw [upd_ne pq, upd_ne pq, upd_ne qo, upd_ne pq, upd_ne qm]
        exact hq
      · show upd _ p _ a1 = _
        rw [upd_ne p1, upd_ne p1, upd_ne o1, upd_ne p1, upd_ne m1]
        exact h1
      · show upd _ p _ a2 = _
        rw [upd_ne p2, upd_ne p2, upd_ne o2, upd_ne p2, upd_ne m2]
        exact h2
      · show upd _ p _ m = _
        rw [upd_ne nmp, upd_ne nmp, upd_ne nmo, upd_ne nmp, upd_same]
        rfl
      · show upd _ p _ o = _
        rw [upd_ne nop, upd_ne nop, upd_same]
        rfl
      · simp [SA.all, npd, Ne.symm pq, Ne.symm p1, Ne.symm p2, Ne.symm nmp, Ne.symm nop, Ne.symm dq, Ne.symm d1, Ne.symm d2, dm, do_, q1, q2, qm, qo, a12, m1, o1, m2, o2, nmo]
      · intro b hb
        simp only [SA.all, List.mem_cons, List.not_mem_nil, or_false] at hb
        rcases hb with e | e | e | e | e | e | e
        · exact .inl e
        · exact .inr (e ▸ ndH)
        · exact .inr (e ▸ f3 nq)
        · exact .inr (e ▸ f3 n1)
        · exact .inr (e ▸ f3 n2)
        · exact .inr (e ▸ fm nmp nm)
        · exact .inr (e ▸ fm nop no2)
end
end Fg

namespace Fg
open PySem L2 FgR
theorem rev_get {α β : Type} {l : List α} {f : α → β} {i : Nat} {x : β} (hi : i < (l.reverse.map f).length) (h : (l.reverse.map f)[(l.reverse.map f).length - 1 - i]? = some x) : ∃ y, l[i]? = some y ∧ x = f y := by
  rw [List.length_map, List.length_reverse] at hi h
  rw [List.getElem?_map, List.getElem?_reverse (by omega)] at h
  have e : l.length - 1 - (l.length - 1 - i) = i := by omega
  rw [e] at h
  cases hy : l[i]? with
  | none =>
    rw [hy] at h
    cases h
  | some y =>
    rw [hy] at h
    exact ⟨y, rfl, (Option.some.inj h).symm⟩
theorem flat_take {l : List (List Str)} {i : Nat} {x : List Str} (h : l[i]? = some x) : (l.take (i + 1)).flatten = (l.take i).flatten ++ x := by
  rw [List.take_succ, h, List.flatten_append]
  simp
theorem flat_len : ∀ {l : List (List Str)} {k : Nat}, (∀ x ∈ l, x.length ≤ k) → l.flatten.length ≤ k * l.length
  | [], k, _ => Nat.zero_le _
  | x :: l, k, h => by
    have h1 := h x List.mem_cons_self
    have h2 := flat_len (l := l) (k := k) fun y hy => h y (List.mem_cons_of_mem _ hy)
    rw [List.flatten_cons, List.length_append, List.length_cons, Nat.mul_succ]
    omega
/-! ### promises -/
def spHt (C : Addr) : Sp := fun vs H Q _ => ∃ (R : Rl) (A : SA) (s : Sst), vs = [.ref A.p] ∧ StAt H C R A s ∧ Q (.int (s.ow.length : Int)) H
def spOwed (C : Addr) : Sp := fun vs H Q _ => ∃ (R : Rl) (A : SA) (s : Sst), vs = [.ref A.p] ∧ StAt H C R A s ∧ Good R s 40 ∧ ∀ (H' : Hp) (x : Addr), Same H H' → H x = none → ListAt H' x s.ow.flatten → Q (.ref x) H'
def spEnt (C : Addr) : Sp := fun vs H Q _ => ∃ (R : Rl) (A : SA) (s : Sst) (w : Str), vs = [.ref A.p, .str w] ∧ StAt H C R A s ∧ Good R s 40 ∧
  ∀ (H' : Hp) (A' : SA) (x : Addr), Only' A.all H H' → A'.p = A.p → StAt H' C R A' (entSt R s w).1 → (∀ b ∈ A'.all, b ∈ A.all ∨ H b = none) → H x = none → x ∉ A'.all → ListAt H' x (entSt R s w).2 → Q (.ref x) H'
def spTake (C CN : Addr) : Sp := fun vs H Q E => ∃ (R : Rl) (A : SA) (s : Sst) (w : Str), vs = [.ref A.p, .str w] ∧ StAt H C R A s ∧ Good R s 40 ∧ w.length ≤ 1000 ∧
  (stepSt R s w = none → ∀ d, H d = none → E (.ref CN) (some d) (upd H d (.xd [("place", .int (s.tk : Int))]))) ∧
  ∀ (s' : Sst) (ws : List Str), stepSt R s w = some (s', ws) → ∀ (H' : Hp) (A' : SA) (x : Addr), Only' A.all H H' → A'.p = A.p → StAt H' C R A' s' → (∀ b ∈ A'.all, b ∈ A.all ∨ H b = none) → (x ∈ A.all ∨ H x = none) → x ∉ A'.all → ListAt H' x ws → Q (.ref x) H'
section
variable {P : Program} {w : World} {K : PySem.W.Frag} {mg : Str → Option Value} {base : Heap} {a : Ad}
theorem ok_ht {f : Addr} {fd : FuncData} (F : Fun K "height" "Stream.height" sHt f fd) (T : Txt K mg a) : FnOk P w K mg base CX0 1 f fd ["self"] (spHt a.C) := by
  refine F.ok scHt (fun vs H Q E h => ?_) (fun cdv A outer s H vs Q E hr h => ?_)
  · obtain ⟨R, A, s, rfl, _⟩ := h
    rfl
  · obtain ⟨R, A, s, rfl, st, hQ⟩ := h
    obtain ⟨dx, hp⟩ := st.p
    refine ⟨_, pss_one (ps_ret (pe_callB call_len_seq (by rfl) T.len PySem.boot_len (pa_cons (pe_fld (pv 0) rfl) pa_nil))), ?_⟩
    refine ⟨_, rfl, A.p, a.C, dx, _, _, rfl, hp, T.cl, T.nO, fs_owing _ _ _ _, A.o, _, rfl, .inl (SqL.of st.o), ?_⟩
    rw [List.length_map, List.length_reverse, paired_len st.ls]
    exact hQ
theorem ok_owed {f : Addr} {fd : FuncData} (F : Fun K "owed" "Stream.owed" sOwed f fd) (T : Txt K mg a) : FnOk P w K mg base CX0 1 f fd ["self"] (spOwed a.C) := by
  refine F.ok scOwed (fun vs H Q E h => ?_) (fun cdv A outer s H vs Q E hr h => ?_)
  · obtain ⟨R, A, s, rfl, _⟩ := h
    rfl
  · obtain ⟨R, A, s, rfl, st, gd, hQ⟩ := h
    obtain ⟨dx, hp⟩ := st.p
    refine ⟨_, pss_cons (ps_set (i := 1) scOwed.nd rfl (Or.inl rfl) (pe_lst pa_nil))
      (pss_cons (ps_for PassesOwn.never rfl (RT.pi_revA (by rfl) T.rev (pe_fld (pv 0) rfl)) (pg_name (i := 2) scOwed.nd rfl (Or.inl rfl))
        (pss_one (ps_expr (pe_bm PySem.F.plainAttrs_list PySem.F.slot_list_extend PySem.F.type_list_extend mt_extend (pv 1) (pa_cons (pv 2) pa_nil)))))
      (pss_one (ps_ret (pv 1)))), ?_⟩
    refine ⟨Nat.zero_le _, fun L nL => ?_⟩
    have e0 := same_upd (o := .lst []) nL
    refine ⟨_, rfl, A.p, a.C, dx, _, _, rfl, e0 _ _ hp, T.cl, T.nO, fs_owing _ _ _ _, A.o, _, rfl, .inl ⟨SqL.of (e0 _ _ st.o), RT.for_Itv (K := K) (a := A.o) (fun i σ H' => Same H H' ∧ ListAt H' L (s.ow.take i).flatten ∧ ∃ v, σ = [some (.ref A.p), some (.ref L), v]) ⟨e0, upd_same, none, rfl⟩ (fun i σ H' z => SqL.of (z.1 _ _ st.o)) ?_ ?_⟩⟩
    · rintro i x σ H' hi hx ⟨e, hL, v, rfl⟩
      obtain ⟨l, hl, rfl⟩ := rev_get hi hx
      obtain ⟨ws, hws, hlw⟩ := paired_get st.ls hl
      have len1 := flat_len (l := s.ow.take i) (k := 20) fun y hy => gd.ws y (List.mem_of_mem_take hy)
      have len2 : (s.ow.take i).length ≤ 40 := Nat.le_trans (by rw [List.length_take]; omega) gd.ht
      have len3 := gd.ws ws (List.mem_of_getElem? hws)
      refine ⟨_, rfl, .inl ⟨rfl, _, SqL.of hL⟩, _, rfl, L, l, _, _, rfl, rfl, hL, e _ _ hlw, Nat.le_of_lt (small1000 (by rw [List.length_map, List.length_map]; omega)), ?_⟩
      refine ⟨fun b o q => ?_, ?_, _, rfl⟩
      · rw [upd_ne (ne_of_none q nL)]
        exact e _ _ q
      · show upd H' L _ L = _
        rw [upd_same, flat_take hws, List.map_append]
    · rintro σ H' ⟨e, hL, v, rfl⟩
      rw [List.length_map, List.length_reverse, paired_len st.ls, List.take_length] at hL
      exact ⟨_, rfl, hQ _ L e nL hL⟩
end
end Fg

namespace Fg
open PySem L2 FgR
/-! ### the state's changes, plain -/
structure Apart (A : SA) : Prop where
  pd : A.p ≠ A.d
  pq : A.p ≠ A.q
  p1 : A.p ≠ A.a1
  p2 : A.p ≠ A.a2
  pm : A.p ≠ A.m
  po : A.p ≠ A.o
  pl : A.p ∉ A.ls
  dm : A.d ≠ A.m
  do_ : A.d ≠ A.o
  qm : A.q ≠ A.m
  qo : A.q ≠ A.o
  m1 : A.a1 ≠ A.m
  o1 : A.a1 ≠ A.o
  m2 : A.a2 ≠ A.m
  o2 : A.a2 ≠ A.o
  mo : A.m ≠ A.o
  ml : A.m ∉ A.ls
  ol : A.o ∉ A.ls
theorem SA.apart {A : SA} (nd : A.all.Nodup) : Apart A := by
  simp only [SA.all, List.nodup_cons, List.mem_cons, not_or] at nd
  obtain ⟨⟨pd, pq, p1, p2, pm, po, pl⟩, ⟨dq, d1, d2, dm, do_, dl⟩, ⟨q1, q2, qm, qo, ql⟩, ⟨a12, m1, o1, l1⟩, ⟨m2, o2, l2⟩, ⟨mo, ml⟩, ol, lnd⟩ := nd
  exact ⟨pd, pq, p1, p2, pm, po, pl, dm, do_, qm, qo, m1, o1, m2, o2, mo, ml, ol⟩
theorem ListAt.ne {H H' : Hp} {l : Addr} {ws : List Str} (h : ListAt H l ws) (e : H' l = H l) : ListAt H' l ws := e.trans h
section
variable {H : Hp} {C dx : Addr} {R : Rl} {A : SA} {s : Sst}
/-- another count of taken words -/
theorem StAt.put_p (h : StAt H C R A s) (u : Nat) : StAt (upd H A.p (.ins C dx (fsOf A.d A.m A.o u))) C R A ⟨s.ms, s.ow, u⟩ := by
  have ap := SA.apart h.nd
  exact ⟨⟨dx, upd_same⟩, (upd_ne ap.pd.symm).trans h.d, (upd_ne ap.pq.symm).trans h.q, h.a1.ne (upd_ne ap.p1.symm), h.a2.ne (upd_ne ap.p2.symm), (upd_ne ap.pm.symm).trans h.m, (upd_ne ap.po.symm).trans h.o,
    paired_mem h.ls fun l ws hl r => ListAt.ne r (upd_ne fun z => ap.pl (z ▸ hl)), h.nd⟩
/-- the last mode and the last list are gone -/
theorem StAt.pop {l : Addr} {ls : List Addr} {b : Bool} {ms : List Bool} {x : List Str} {ow : List (List Str)} {tk : Nat} (h : StAt H C R A ⟨b :: ms, x :: ow, tk⟩) (hl : A.ls = l :: ls) :
    StAt (upd (upd H A.m (.lst (ms.reverse.map mV))) A.o (.lst (ls.reverse.map V.ref))) C R { A with ls := ls } ⟨ms, ow, tk⟩ ∧ ListAt (upd (upd H A.m (.lst (ms.reverse.map mV))) A.o (.lst (ls.reverse.map V.ref))) l x := by
  have ap := SA.apart h.nd
  obtain ⟨dx, hp⟩ := h.p
  have hls := h.ls
  have nd := h.nd
  have ml := ap.ml
  have ol := ap.ol
  rw [hl] at hls ml ol
  have two : ∀ {c : Addr}, c ≠ A.m → c ≠ A.o → upd (upd H A.m (.lst (ms.reverse.map mV))) A.o (.lst (ls.reverse.map V.ref)) c = H c := fun h1 h2 => by rw [upd_ne h2, upd_ne h1]
  cases hls with
  | cons r t =>
    refine ⟨⟨⟨dx, (two ap.pm ap.po).trans hp⟩, (two ap.dm ap.do_).trans h.d, (two ap.qm ap.qo).trans h.q, h.a1.ne (two ap.m1 ap.o1), h.a2.ne (two ap.m2 ap.o2), (by show upd _ A.o _ A.m = _; rw [upd_ne ap.mo, upd_same]), upd_same,
      paired_mem t fun c ws hc q => ListAt.ne q (two (fun z => ml (z ▸ List.mem_cons_of_mem _ hc)) fun z => ol (z ▸ List.mem_cons_of_mem _ hc)), ?_⟩,
      ListAt.ne r (two (fun z => ml (z ▸ List.mem_cons_self)) fun z => ol (z ▸ List.mem_cons_self))⟩
    simp only [SA.all, hl] at nd ⊢
    have sub : List.Sublist (A.p :: A.d :: A.q :: A.a1 :: A.a2 :: A.m :: A.o :: ls) (A.p :: A.d :: A.q :: A.a1 :: A.a2 :: A.m :: A.o :: l :: ls) := by
      repeat first | exact List.sublist_cons_self _ _ | apply List.Sublist.cons_cons
    exact List.Nodup.sublist sub nd
/-- a mode and a list more: y the new list -/
theorem StAt.push {y : Addr} {md : Bool} {bh : List Str} {H1 H5 : Hp} (h : StAt H C R A s) (e : Same H H1) (hy : H y = none) (k : ∀ b o, b ≠ A.m → b ≠ A.o → H1 b = Option.some o → H5 b = Option.some o)
    (hm : H5 A.m = Option.some (.lst (s.ms.reverse.map mV ++ [mV md]))) (ho : H5 A.o = Option.some (.lst (A.ls.reverse.map V.ref ++ [.ref y]))) (hy5 : ListAt H5 y bh) : StAt H5 C R { A with ls := y :: A.ls } ⟨md :: s.ms, bh :: s.ow, s.tk⟩ := by
  have ap := SA.apart h.nd
  obtain ⟨dx, hp⟩ := h.p
  have ny : ∀ b ∈ A.all, b ≠ y := fun b hb => by
    obtain ⟨o, ho⟩ := h.some b hb
    exact ne_of_none ho hy
  refine ⟨⟨dx, k _ _ ap.pm ap.po (e _ _ hp)⟩, k _ _ ap.dm ap.do_ (e _ _ h.d), k _ _ ap.qm ap.qo (e _ _ h.q), k _ _ ap.m1 ap.o1 (e _ _ h.a1), k _ _ ap.m2 ap.o2 (e _ _ h.a2), ?_, ?_,
    .cons hy5 (paired_mem h.ls fun c ws hc q => k _ _ (fun z => ap.ml (z ▸ hc)) (fun z => ap.ol (z ▸ hc)) (e _ _ q)), ?_⟩
  · rw [hm]
    simp
  · rw [ho]
    simp
  · have nd := h.nd
    have n1 := ny A.p (by simp [SA.all])
    have n2 := ny A.d (by simp [SA.all])
    have n3 := ny A.q (by simp [SA.all])
    have n4 := ny A.a1 (by simp [SA.all])
    have n5 := ny A.a2 (by simp [SA.all])
    have n6 := ny A.m (by simp [SA.all])
    have n7 := ny A.o (by simp [SA.all])
    have n8 : y ∉ A.ls := fun hc => ny y (by simp [SA.all, hc]) rfl
    simp only [SA.all, List.nodup_cons, List.mem_cons, not_or] at nd ⊢
    obtain ⟨⟨pd, pq, p1, p2, pm, po, pl⟩, ⟨dq, d1, d2, dm, do_, dl⟩, ⟨q1, q2, qm, qo, ql⟩, ⟨a12, m1, o1, l1⟩, ⟨m2, o2, l2⟩, ⟨mo, ml⟩, ol, lnd⟩ := nd
    exact ⟨⟨pd, pq, p1, p2, pm, po, n1, pl⟩, ⟨dq, d1, d2, dm, do_, n2, dl⟩, ⟨q1, q2, qm, qo, n3, ql⟩, ⟨a12, m1, o1, n4, l1⟩, ⟨m2, o2, n5, l2⟩, ⟨mo, n6, ml⟩, ⟨n7, ol⟩, n8, lnd⟩
end
section
variable {P : Program} {w : World} {K : PySem.W.Frag} {mg : Str → Option Value} {base : Heap} {a : Ad}
/-! ### entered -/
theorem ok_ent {f : Addr} {fd : FuncData} (F : Fun K "entered" "Stream.entered" sEnt f fd) (T : Txt K mg a) : FnOk P w K mg base CX0 1 f fd ["self", "tag"] (spEnt a.C) := by
  refine F.ok scEnt (fun vs H Q E h => ?_) (fun cdv A0 outer s0 H vs Q E hr h => ?_)
  · obtain ⟨R, A, s, w, rfl, _⟩ := h
    rfl
  · obtain ⟨R, A, s, w, rfl, st, gd, hQ⟩ := h
    obtain ⟨dx, hp⟩ := st.p
    obtain ⟨t, hE⟩ := T.END
    have ap := SA.apart st.nd
    refine ⟨_, pss_cons (ps_set (i := 2) scEnt.nd rfl (Or.inl rfl) (pe_ix ix_list (pe_fld (pv 0) rfl) (pe_un un_neg pe_int) fun _ _ => rfl))
      (pss_cons (ps_par3 (i := 3) (j := 4) (l := 5) rfl scEnt.nd rfl rfl rfl (by decide) (by decide) (by decide) rfl rfl rfl (pa_cons (pe_lst pa_nil) (pa_cons pe_non (pa_cons (pe_lst pa_nil) pa_nil))) rfl)
      (C8.pss_cut (ps_if (pt_cmpR op_notN (pv 2) pe_non (nomark _))
        (pss_one (ps_asg (pe_dget2 (hu_of hr) (pe_fld (pv 0) rfl) (pe_tup (pa_cons (pv 2) (pa_cons (pv 1) pa_nil))) (pe_tup (pa_cons (pe_lst (pa_cons (pv 1) pa_nil)) (pa_cons (pv 2) (pa_cons (pe_lst (pa_cons (pe_glob (v := .str slash) rfl hE ⟨_, rfl⟩) pa_nil)) pa_nil)))) ⟨rfl, rfl, rfl, rfl⟩)
          (pg_tup rfl (pgs_cons (pg_name (i := 3) scEnt.nd rfl (Or.inl rfl)) (pgs_cons (pg_name (i := 4) scEnt.nd rfl (Or.inl rfl)) (pgs_cons (pg_name (i := 5) scEnt.nd rfl (Or.inl rfl)) pgs_nil)))))) pss_nil)
      (pss_cons (ps_expr (pe_bm PySem.F.plainAttrs_list PySem.F.slot_list_append PySem.F.type_list_append mt_append (pe_fld (pv 0) rfl) (pa_cons (pv 4) pa_nil)))
      (pss_cons (ps_expr (pe_bm PySem.F.plainAttrs_list PySem.F.slot_list_append PySem.F.type_list_append mt_append (pe_fld (pv 0) rfl) (pa_cons (pe_callTy call_list_of (by rfl) T.list PyProof.Rows.boot_list (pa_cons (pv 5) pa_nil)) pa_nil)))
      (pss_one (ps_ret (pe_callTy call_list_of (by rfl) T.list PyProof.Rows.boot_list (pa_cons (pv 3) pa_nil)))))))), ?_⟩
    obtain ⟨h, ms, hms⟩ : ∃ h ms, s.ms = h :: ms := by
      cases e : s.ms with
      | nil =>
        have := gd.ms
        rw [e] at this
        cases this
      | cons h ms => exact ⟨h, ms, rfl⟩
    have hlast : atI (s.ms.reverse.map mV) (-1) = some (mV h) := by
      rw [hms, List.reverse_cons, List.map_append]
      exact atI_last _ _
    refine ⟨_, rfl, A.p, a.C, dx, _, _, rfl, hp, T.cl, T.nM, fs_modes _ _ _ _, 1, rfl, A.m, _, _, _, rfl, rfl, SqL.of st.m, hlast, ?_⟩
    refine ⟨Nat.zero_le _, fun x1 n1 => ⟨Nat.zero_le _, fun x3 n3 => ⟨_, _, _, rfl, ?_⟩⟩⟩
    have e1 := same_upd (o := .lst []) n1
    have e3 := e1.trans (same_upd (o := .lst []) n3)
    have n3' : H x3 = none := e1.free n3
    have n13 : x1 ≠ x3 := ne_of_none upd_same n3
    refine ⟨fun σ' H' => ∃ (x1 x3 : Addr) (ah bh : List Str) (md : Bool), Same H H' ∧ ListAt H' x1 ah ∧ ListAt H' x3 bh ∧ x1 ≠ A.m ∧ x1 ≠ A.o ∧ x3 ≠ A.m ∧ x3 ≠ A.o ∧ entSt R s w = (⟨md :: s.ms, bh :: s.ow, s.tk⟩, ah) ∧
      σ' = [some (.ref A.p), some (.str w), some (mV h), some (.ref x1), some (mV md), some (.ref x3)], ?_, ?_⟩
    · have fr : ∀ {b : Addr}, H b = none → b ≠ A.m ∧ b ≠ A.o := fun {b} z => ⟨(ne_of_none st.m z).symm, (ne_of_none st.o z).symm⟩
      cases h with
      | false =>
        refine ⟨_, rfl, rfl, _, rfl, ?_⟩
        refine iteF ⟨x1, x3, [], [], false, e3, (by show upd _ x3 _ x1 = _; rw [upd_ne n13, upd_same]; rfl), upd_same, (fr n1).1, (fr n1).2, (fr n3').1, (fr n3').2, ?_, rfl⟩
        unfold entSt
        rw [hms]
        rfl
      | true =>
        refine ⟨_, rfl, rfl, _, rfl, ?_⟩
        refine iteT ?_
        refine ⟨_, rfl, A.p, a.C, dx, _, _, rfl, e3 _ _ hp, T.cl, T.nR, fs_rules _ _ _ _, A.d, rfl, .inr ⟨_, .inl (e3 _ _ st.d)⟩, ?_⟩
        refine ⟨_, rfl, _, rfl, (by show 2 ≤ sizeLine; decide), fun k nk => ?_⟩
        have ek := e3.trans (same_upd (o := .tup [mV true, .str w]) nk)
        refine ⟨_, rfl, (by show 1 ≤ sizeLine; decide), fun p5 n5 => ?_⟩
        have e5 := ek.trans (same_upd (o := .lst [.str w]) n5)
        refine ⟨_, rfl, (by show 1 ≤ sizeLine; decide), fun p6 n6 => ?_⟩
        have e6 := e5.trans (same_upd (o := .lst [.str slash]) n6)
        refine ⟨(by show 3 ≤ sizeLine; decide), fun p7 n7 => ?_⟩
        have e7 := e6.trans (same_upd (o := .tup [.ref p5, mV true, .ref p6]) n7)
        refine ⟨_, DGet.t (k := [.inl 0, .inr w]) (e7 _ _ st.d) (same_upd n7 _ _ (same_upd n6 _ _ (same_upd n5 _ _ upd_same))), ?_⟩
        by_cases hw : w = R.tag
        · rw [valV_pos (by rw [hw])]
          refine ⟨A.q, _, rfl, SqT.of (e7 _ _ st.q), rfl, _, _, rfl, _, _, rfl, _, _, rfl, rfl, ?_⟩
          refine ⟨A.a1, A.a2, R.c.ah, R.c.bh, R.c.md, e7, e7 _ _ st.a1, e7 _ _ st.a2, ap.m1, ap.o1, ap.m2, ap.o2, ?_, rfl⟩
          unfold entSt
          rw [hms]
          simp [hw]
        · rw [valV_neg (by intro q; simp at q; exact hw q.symm), valV_nil]
          refine ⟨p7, _, rfl, SqT.of upd_same, rfl, _, _, rfl, _, _, rfl, _, _, rfl, rfl, ?_⟩
          refine ⟨p5, p6, [w], [slash], true, e7, same_upd n7 _ _ (same_upd n6 _ _ upd_same), same_upd n7 _ _ upd_same, (fr (ek.free n5)).1, (fr (ek.free n5)).2, (fr (e5.free n6)).1, (fr (e5.free n6)).2, ?_, rfl⟩
          unfold entSt
          rw [hms]
          simp [hw]
    · rintro σ' H1 ⟨x1, x3, ah, bh, md, e, hx1, hx3, x1m, x1o, x3m, x3o, hent, rfl⟩
      have len1 : s.ms.length ≤ 41 := by have := gd.ms; have := gd.ht; omega
      have len2 : A.ls.length ≤ 40 := by have := paired_len st.ls; have := gd.ht; omega
      refine ⟨_, rfl, A.p, a.C, dx, _, _, rfl, e _ _ hp, T.cl, T.nM, fs_modes _ _ _ _, .inl ⟨rfl, _, SqL.of (e _ _ st.m)⟩, _, rfl, A.m, _, _, rfl, rfl, e _ _ st.m, small1000 (by rw [List.length_map, List.length_reverse]; omega), ?_⟩
      have k2 : ∀ b o, b ≠ A.m → H1 b = some o → upd H1 A.m (.lst (s.ms.reverse.map mV ++ [mV md])) b = some o := fun b o hb q => (upd_ne hb).trans q
      have ho2 := k2 _ _ ap.mo.symm (e _ _ st.o)
      refine ⟨_, rfl, A.p, a.C, dx, _, _, rfl, k2 _ _ ap.pm (e _ _ hp), T.cl, T.nO, fs_owing _ _ _ _, .inl ⟨rfl, _, SqL.of ho2⟩, _, rfl, x3, _, rfl, .inl (SqL.of (k2 _ _ x3m hx3)), fun y ny => ?_⟩
      have ey := same_upd (o := .lst (bh.map V.str)) ny
      have nym : y ≠ A.m := (ne_of_none upd_same ny).symm
      have nyo : y ≠ A.o := (ne_of_none ho2 ny).symm
      have hyH : H y = none := e.free (by
        have q := ny
        rw [upd_ne nym] at q
        exact q)
      refine ⟨A.o, _, _, rfl, rfl, ey _ _ ho2, small1000 (by rw [List.length_map, List.length_reverse]; omega), ?_⟩
      have k4 : ∀ b o, b ≠ A.m → b ≠ A.o → H1 b = some o → upd (upd (upd H1 A.m (.lst (s.ms.reverse.map mV ++ [mV md]))) y (.lst (bh.map V.str))) A.o (.lst (A.ls.reverse.map V.ref ++ [.ref y])) b = some o :=
        fun b o h1 h2 q => (upd_ne h2).trans (ey _ _ (k2 _ _ h1 q))
      refine ⟨_, rfl, x1, _, rfl, .inl (SqL.of (k4 _ _ x1m x1o hx1)), fun z nz => ?_⟩
      have ez := same_upd (o := .lst (ah.map V.str)) nz
      rw [hent] at hQ
      have nzm : A.m ≠ z := ne_of_none (a := A.m) (by rw [upd_ne ap.mo]; exact ey _ _ upd_same) nz
      have nzo : A.o ≠ z := ne_of_none (a := A.o) upd_same nz
      have nzy : y ≠ z := ne_of_none (a := y) (by rw [upd_ne nyo, upd_same]) nz
      have hzH : H z = none := by
        cases q : H z with
        | none => rfl
        | some o =>
          have := k4 z o nzm.symm nzo.symm (e _ _ q)
          rw [nz] at this
          cases this
      have stN := StAt.push (y := y) (md := md) (bh := bh) st e hyH (fun b o h1 h2 q => ez _ _ (k4 b o h1 h2 q)) (ez _ _ (by rw [upd_ne ap.mo]; exact ey _ _ upd_same)) (ez _ _ upd_same) (ez _ _ (by rw [upd_ne nyo, upd_same]))
      refine hQ _ { A with ls := y :: A.ls } z (fun b o hb q => ?_) rfl stN (fun b hb => ?_) hzH ?_ upd_same
      · have hbm : b ≠ A.m := fun q => hb (by simp [SA.all, q])
        have hbo : b ≠ A.o := fun q => hb (by simp [SA.all, q])
        exact ez _ _ (k4 _ _ hbm hbo (e _ _ q))
      · simp only [SA.all, List.mem_cons] at hb ⊢
        rcases hb with q | q | q | q | q | q | q | q | q <;> first | exact .inr (q ▸ hyH) | (refine .inl ?_; simp [q]; done)
      · intro hz
        have hz' : z = y ∨ z ∈ A.all := by
          simp only [SA.all, List.mem_cons] at hz ⊢
          rcases hz with q | q | q | q | q | q | q | q | q <;> simp [q]
        rcases hz' with q | q
        · exact nzy q.symm
        · obtain ⟨o, ho⟩ := st.some z q
          rw [hzH] at ho
          cases ho
end
end Fg

namespace Fg
open PySem L2 FgR
theorem last_get {α β : Type} {l : List α} {x : α} {f : α → β} : ((x :: l).reverse.map f)[((x :: l).reverse.map f).length - 1]? = some (f x) := by
  rw [List.reverse_cons, List.map_append, List.length_append]
  simp
theorem last_drop {α β : Type} {l : List α} {x : α} {f : α → β} : ((x :: l).reverse.map f).dropLast = l.reverse.map f := by
  rw [List.reverse_cons, List.map_append]
  simp
theorem xd_heap {H : Hp} {C x d : Addr} {fs : List (Str × V)} (nx : H x = none) (hd : d ≠ x) : upd (del (upd (upd (upd H x (exo x C none)) d (exd d fs)) x (exo x C (some d))) x) d (.xd fs) = upd H d (.xd fs) := by
  funext b
  by_cases h1 : b = d
  · rw [h1, upd_same, upd_same]
  · rw [upd_ne h1, upd_ne h1]
    by_cases h2 : b = x
    · rw [h2, del_same, nx]
    · rw [del_ne h2, upd_ne h2, upd_ne h1, upd_ne h2]
section
variable {P : Program} {w : World} {K : PySem.W.Frag} {mg : Str → Option Value} {base : Heap} {a : Ad}
theorem ok_take {f : Addr} {fd fdI fdN fdE : FuncData} (F : Fun K "take" "Stream.take" sTake f fd) (T : Txt K mg a) (FI : Fun K "is_tag" "is_tag" sIsTag a.isTag fdI) (bI : Binds K fdI ["text"] [])
    (FN : Fun K "__init__" "NoGrove.__init__" sNG a.NG fdN) (bN : Binds K fdN ["self", "place"] []) (FE : Fun K "entered" "Stream.entered" sEnt a.ent fdE) (bE : Binds K fdE ["self", "tag"] []) :
    FnOk P w K mg base (L2.CX P w) 3 f fd ["self", "word"] (spTake a.C a.CN) := by
  have GI : FnOk P w K mg base CX0 1 a.isTag fdI ["text"] spIsTag := ok_isTag FI T
  have GN : FnOk P w K mg base CX0 1 a.NG fdN ["self", "place"] (spNG a.CN) := ok_ng FN T
  have GE : FnOk P w K mg base CX0 1 a.ent fdE ["self", "tag"] (spEnt a.C) := ok_ent FE T
  refine F.okX scTake (fun vs H Q E h => ?_) (fun cdv A0 outer s0 H vs Q E hr h => ?_)
  · obtain ⟨R, A, s, w, rfl, _⟩ := h
    rfl
  · obtain ⟨R, A, s, w, rfl, st, gd, hw, hE0, hQ⟩ := h
    obtain ⟨dx, hp⟩ := st.p
    obtain ⟨t, hE⟩ := T.END
    have ap := SA.apart st.nd
    have hr1 : Room 1 _ := hr.mono (by decide)
    refine ⟨_, C8.pss_cut (ps_if (PW.pt (pw_and (pt_cmpR op_eq (pv 1) (pe_glob (v := .str slash) rfl hE ⟨_, rfl⟩) (nomark _)) (pw_and1 (pt_cmpR op_gt (pe_callB call_len_seq (by rfl) T.len PySem.boot_len (pa_cons (pe_fld (pv 0) rfl) pa_nil)) pe_int (nomark _)))))
        (pss_cons (ps_fld (pv 0) (pe_op op_add (pe_fld (pv 0) rfl) pe_int) rfl)
        (pss_cons (ps_expr (pe_bm0 PySem.F.plainAttrs_list PySem.F.slot_list_pop PySem.F.type_list_pop mt_pop (pe_fld (pv 0) rfl)))
        (pss_one (ps_ret (pe_bm0 PySem.F.plainAttrs_list PySem.F.slot_list_pop PySem.F.type_list_pop mt_pop (pe_fld (pv 0) rfl)))))) pss_nil)
      (pss_cons (ps_if (pt_not (pt_val (pe_call GI hr1 rfl T.mIsTag T.kIsTag bI .nil pass0 (pa_cons (pv 1) pa_nil))))
        (pss_one (ps_raise rfl (takes_of rfl rfl rfl rfl) (pmk_oex T.exN T.iN T.tN GN hr bN .nil pass0 rfl T.mCN (pa_cons (pe_fld (pv 0) rfl) pa_nil)))) pss_nil)
      (pss_cons (ps_fld (pv 0) (pe_op op_add (pe_fld (pv 0) rfl) pe_int) rfl)
      (pss_one (ps_ret (pe_meth (pv 0) T.cl T.meEnt GE hr1 bE .nil pass0 (pa_cons (pv 1) pa_nil)))))), ?_⟩
    have eT : putF "taken" (.int ((s.tk : Int) + 1)) (fsOf A.d A.m A.o s.tk) = fsOf A.d A.m A.o (s.tk + 1) := put_taken A.d A.m A.o s.tk (s.tk + 1)
    have stT := st.put_p (dx := dx) (s.tk + 1)
    have onT : Only' A.all H (upd H A.p (.ins a.C dx (fsOf A.d A.m A.o (s.tk + 1)))) := fun b o hb q => (upd_ne fun z => hb (by simp [SA.all, z])).trans q
    refine ⟨fun σ' H' => H' = H ∧ σ' = [some (.ref A.p), some (.str w)] ∧ stepSt R s w = (if tagB w = true then some (entSt R ⟨s.ms, s.ow, s.tk + 1⟩ w) else none), ?_, ?_⟩
    · refine ⟨_, rfl, rfl, _, rfl, ite2 (fun c => ?_) (fun c => ?_)⟩
      · have hws : w = slash := by
          have := of_decide_eq_true c
          exact V.str.inj this
        refine ⟨_, rfl, A.p, a.C, dx, _, _, rfl, hp, T.cl, T.nO, fs_owing _ _ _ _, A.o, _, rfl, .inl (SqL.of st.o), _, _, rfl, rfl, _, rfl, ite2 (fun c2 => ?_) (fun c2 => ?_)⟩
        · have c2 := of_decide_eq_true c2
          rw [List.length_map, List.length_reverse, paired_len st.ls] at c2
          obtain ⟨ms, ow, tk⟩ := s
          cases ow with
          | nil => simp at c2
          | cons x ow =>
            obtain ⟨b, ms', rfl⟩ : ∃ b ms', ms = b :: ms' := by
              cases ms with
              | nil => cases gd.ms
              | cons b ms' => exact ⟨b, ms', rfl⟩
            obtain ⟨l, ls, hl⟩ : ∃ l ls, A.ls = l :: ls := by
              have := st.ls
              cases e : A.ls with
              | nil =>
                rw [e] at this
                cases this
              | cons l ls => exact ⟨l, ls, rfl⟩
            refine ⟨_, rfl, A.p, a.C, dx, _, _, rfl, hp, T.cl, T.nT, fs_taken _ _ _ _, _, _, rfl, rfl, _, rfl, A.p, a.C, dx, _, rfl, hp, T.cl, T.nT, (by show 4 < 1000; decide), ?_⟩
            rw [eT]
            obtain ⟨stP, hlx⟩ := stT.pop (l := l) (ls := ls) hl
            have hm := stT.m
            have ho := stT.o
            rw [hl] at ho
            refine ⟨_, rfl, A.p, a.C, dx, _, _, rfl, upd_same, T.cl, T.nM, fs_modes _ _ _ _, .inl ⟨rfl, _, SqL.of hm⟩, A.m, _, _, rfl, rfl, hm, last_get, ?_⟩
            rw [last_drop]
            refine ⟨_, rfl, A.p, a.C, dx, _, _, rfl, (upd_ne ap.pm).trans upd_same, T.cl, T.nO, fs_owing _ _ _ _, .inl ⟨rfl, _, SqL.of ((upd_ne ap.mo.symm).trans ho)⟩, A.o, _, _, rfl, rfl, (upd_ne ap.mo.symm).trans ho, last_get, ?_⟩
            rw [last_drop]
            have nd := st.nd
            simp only [SA.all, hl, List.nodup_cons, List.mem_cons, not_or] at nd
            obtain ⟨⟨_, _, _, _, _, _, pl, _⟩, ⟨_, _, _, _, _, dl, _⟩, ⟨_, _, _, _, ql, _⟩, ⟨_, _, _, l1, _⟩, ⟨_, _, l2, _⟩, ⟨_, ml, _⟩, ⟨ol, _⟩, ll, _⟩ := nd
            refine hQ ⟨ms', ow, tk + 1⟩ x ?_ _ { A with ls := ls } l (fun b o hb q => ?_) rfl stP (fun b hb => .inl ?_) (.inl (by simp [SA.all, hl])) ?_ hlx
            · unfold stepSt
              rw [if_pos ⟨hws, by simp⟩]
              rfl
            · rw [upd_ne fun z => hb (by simp [SA.all, z]), upd_ne fun z => hb (by simp [SA.all, z])]
              exact onT _ _ hb q
            · simp only [SA.all, hl, List.mem_cons] at hb ⊢
              rcases hb with q | q | q | q | q | q | q | q <;> simp [q]
            · simp [SA.all, Ne.symm pl, Ne.symm dl, Ne.symm ql, Ne.symm l1, Ne.symm l2, Ne.symm ml, Ne.symm ol, ll]
        · have c2 : ¬ ((A.ls.reverse.map V.ref).length : Int) > 0 := fun q => c2 (decide_eq_true q)
          rw [List.length_map, List.length_reverse, paired_len st.ls] at c2
          have hn : s.ow = [] := List.eq_nil_of_length_eq_zero (by omega)
          refine ⟨rfl, rfl, ?_⟩
          unfold stepSt
          rw [if_neg fun q => q.2 hn]
      · have c : ¬ w = slash := fun q => c (decide_eq_true (by rw [q]))
        refine ⟨rfl, rfl, ?_⟩
        unfold stepSt
        rw [if_neg fun q => c q.1]
    · rintro σ' H' ⟨rfl, rfl, hst⟩
      refine ⟨_, rfl, w, rfl, Nat.le_of_lt (small1000 hw), _, rfl, ite2 (fun c => ?_) (fun c => ?_)⟩
      · have hb : tagB w = false := by simpa using c
        rw [hb, if_neg (by decide)] at hst
        refine ⟨_, rfl, A.p, a.C, dx, _, _, rfl, hp, T.cl, T.nT, fs_taken _ _ _ _, (by show 1 ≤ 1000; decide), fun x nx => ?_⟩
        refine ⟨x, _, rfl, upd_same, fun d nd ne => ⟨rfl, d, _, upd_same, (upd_ne ne).trans upd_same, (upd_ne ne).symm.trans nd, ?_⟩⟩
        rw [xd_heap nx ne]
        exact hE0 hst d ((upd_ne ne).symm.trans nd)
      · have hb : tagB w = true := by simpa using c
        rw [hb, if_pos rfl] at hst
        refine ⟨_, rfl, A.p, a.C, dx, _, _, rfl, hp, T.cl, T.nT, fs_taken _ _ _ _, _, _, rfl, rfl, _, rfl, A.p, a.C, dx, _, rfl, hp, T.cl, T.nT, (by show 4 < 1000; decide), ?_⟩
        rw [eT]
        refine ⟨_, rfl, A.p, dx, _, rfl, upd_same, fs_no _ _ _ _ (by decide +kernel) (by decide +kernel) (by decide +kernel) (by decide +kernel), _, rfl, R, A, ⟨s.ms, s.ow, s.tk + 1⟩, w, rfl, stT, ⟨gd.ms, gd.ht, gd.ws, gd.ah, gd.bh⟩, ?_⟩
        intro H5 A' x only pA stN fr nx nxA hx
        have back : ∀ {b : Addr}, upd H' A.p (.ins a.C dx (fsOf A.d A.m A.o (s.tk + 1))) b = none → H' b = none := fun {b} q => by
          have nb : b ≠ A.p := fun z => by
            rw [z, upd_same] at q
            cases q
          exact (upd_ne nb).symm.trans q
        refine hQ _ _ hst H5 A' x (onT.trans only) pA stN (fun b hb => ?_) (.inr (back nx)) nxA hx
        rcases fr b hb with q | q
        · exact .inl q
        · exact .inr (back q)
end
end Fg

namespace Fg
open PySem L2 FgR
/-! ### plain -/
theorem atI_mod {α : Type} {xs : List α} {i : Int} (h : 0 < xs.length) : ∃ v, atI xs (i % (xs.length : Int)) = some v ∧ v ∈ xs := by
  obtain ⟨h1, h2⟩ := mod_place (i := i) h
  refine ⟨xs[(i % (xs.length : Int)).toNat], ?_, List.getElem_mem h1⟩
  have := atI_nat (xs := xs) (List.getElem?_eq_getElem h1)
  rw [h2] at this
  exact this
theorem atI_lt {α : Type} {xs : List α} {i : Int} (h0 : 0 ≤ i) (h : i < xs.length) : ∃ v, atI xs i = some v ∧ v ∈ xs := by
  have h1 : i.toNat < xs.length := by omega
  refine ⟨xs[i.toNat], ?_, List.getElem_mem h1⟩
  have := atI_nat (xs := xs) (List.getElem?_eq_getElem h1)
  rw [Int.toNat_of_nonneg h0] at this
  exact this
theorem in_ints {ns : List Int} {v : V} (h : v ∈ ns.map V.int) : ∃ z, v = .int z := by
  obtain ⟨z, _, e⟩ := List.mem_map.mp h
  exact ⟨z, e.symm⟩
theorem cmul {i j : Int} (h0 : 0 ≤ i) (h : i < 18446744073709551616) : CMul i j := .inl ⟨by omega, by omega⟩
theorem cmul2 {i j : Int} (h0 : 0 ≤ j) (h : j < 18446744073709551616) : CMul i j := .inr ⟨by omega, by omega⟩
/-! ### promises -/
def spCellA (K : PySem.W.Frag) : Sp := fun vs H Q _ => ∃ (l : Addr) (ns : List Int) (k : Int), vs = [.ref l, .int k] ∧ SqL K H l (ns.map V.int) ∧ ns.length ≤ 63 ∧ 0 ≤ k ∧ k ≤ 100 ∧ ∀ z : Int, Q (.int z) H
def spTagA : Sp := fun vs H Q _ => ∃ c : Int, vs = [.int c] ∧ 0 ≤ c ∧ c < 1000000000 ∧ ∀ (H' : Hp) (z : Str), Same H H' → tagB z = true → Q (.str z) H'
def spSpoil : Sp := fun vs H Q _ => ∃ (c : Int) (tag : Str), vs = [.int c, .str tag] ∧ 0 ≤ c ∧ tagB tag = true ∧ ∀ z : Str, z.length ≤ 100 → Q (.str z) H
def spWordA (K : PySem.W.Frag) : Sp := fun vs H Q _ => ∃ (l : Addr) (ns : List Int) (k : Int) (tag : Str), vs = [.ref l, .int k, .str tag] ∧ SqL K H l (ns.map V.int) ∧ ns.length ≤ 63 ∧ 0 ≤ k ∧ k ≤ 90 ∧ tagB tag = true ∧
  ∀ (H' : Hp) (z : Str), Same H H' → z.length ≤ 100 → Q (.str z) H'
def spIsT : Sp := fun vs H Q _ => ∃ z : Str, vs = [.str z] ∧ z.length ≤ 1000 ∧ ∀ H' : Hp, Same H H' → Q (.bl (tagB z)) H'
def spWhole : Sp := fun vs H Q _ => ∃ i j : Int, vs = [.int i, .int j] ∧ Q (.bl (decide (i = j))) H
section
variable {P : Program} {w : World} {K : PySem.W.Frag} {mg : Str → Option Value} {base : Heap} {a : Ad}
theorem ok_cell {f : Addr} {fd : FuncData} (F : Fun K "_law_cell" "_law_cell" sCell f fd) (T : Txt K mg a) : FnOk P w K mg base CX0 1 f fd ["_law_script", "_law_k"] (spCellA K) := by
  refine F.ok scCell (fun vs H Q E h => ?_) (fun cdv A outer s H vs Q E hr h => ?_)
  · obtain ⟨l, ns, k, rfl, _⟩ := h
    rfl
  · obtain ⟨l, ns, k, rfl, hS, hl, h0, h1, hQ⟩ := h
    refine ⟨_, pss_cons (ps_if (pt_cmpR op_lt (pv 1) (pe_callB call_len_seq (by rfl) T.len PySem.boot_len (pa_cons (pv 0) pa_nil)) (nomark _)) (pss_one (ps_ret (pe_ix ix_list (pv 0) (pv 1) fun _ _ => rfl))) pss_nil)
      (pss_cons (ps_set (i := 2) scCell.nd rfl (Or.inl rfl) (pe_op op_add (pe_op op_mul (pv 1) pe_int) pe_int))
      (C8.pss_cut (ps_if (pt_cmpR op_gt (pe_callB call_len_seq (by rfl) T.len PySem.boot_len (pa_cons (pv 0) pa_nil)) pe_int (nomark _))
        (pss_one (ps_set (i := 2) scCell.nd rfl (Or.inl rfl) (pe_op op_mod (pe_op op_add (pe_op op_mul (pe_ix ix_list (pv 0) (pe_op op_mod (pe_op op_mul (pv 1) pe_int) (pe_callB call_len_seq (by rfl) T.len PySem.boot_len (pa_cons (pv 0) pa_nil))) fun _ _ => rfl) pe_int) (pe_op op_mul (pv 1) pe_int)) pe_int))) pss_nil)
      (pss_one (ps_ret (pe_op op_mod (pe_op op_mul (pv 2) (pv 2)) pe_int))))), ?_⟩
    refine ⟨_, rfl, _, rfl, l, _, rfl, .inl hS, _, _, rfl, rfl, _, rfl, ite2 (fun c => ?_) (fun c => ?_)⟩
    · obtain ⟨v, hv, hm⟩ := atI_lt h0 (of_decide_eq_true c)
      obtain ⟨z, rfl⟩ := in_ints hm
      exact ⟨_, rfl, _, rfl, l, _, _, _, rfl, rfl, hS, hv, hQ z⟩
    · refine ⟨_, rfl, _, _, rfl, rfl, cmul h0 (by omega), _, _, rfl, rfl, ?_⟩
      refine ⟨fun σ' H' => H' = H ∧ ∃ n : Int, 0 ≤ n ∧ n < 4294967296 ∧ σ' = [some (.ref l), some (.int k), some (.int n)], ?_, ?_⟩
      · refine ⟨_, rfl, l, _, rfl, .inl hS, _, _, rfl, rfl, _, rfl, ite2 (fun c2 => ?_) (fun c2 => ?_)⟩
        · have hpos : 0 < (ns.map V.int).length := by
            have := of_decide_eq_true c2
            omega
          obtain ⟨v, hv, hm⟩ := atI_mod (i := k * 19) hpos
          obtain ⟨z, rfl⟩ := in_ints hm
          refine ⟨_, rfl, _, rfl, _, _, rfl, rfl, cmul h0 (by omega), _, rfl, l, _, rfl, .inl hS, _, _, rfl, rfl, (by omega), l, _, _, _, rfl, rfl, hS, hv, _, _, rfl, rfl, cmul2 (by decide) (by decide), _, rfl, _, _, rfl, rfl, cmul h0 (by omega), _, _, rfl, rfl, _, _, rfl, rfl, (by show (0 : Int) < 2147483647; decide), rfl, _, ?_, ?_, rfl⟩
          · exact Int.emod_nonneg _ (by decide)
          · exact Int.lt_trans (Int.emod_lt_of_pos _ (by decide)) (by decide)
        · exact ⟨rfl, _, by omega, by omega, rfl⟩
      · rintro σ' H' ⟨rfl, n, n0, n1, rfl⟩
        exact ⟨_, rfl, _, rfl, _, _, rfl, rfl, cmul n0 (by omega), _, _, rfl, rfl, (by show (0 : Int) < 2147483477; decide), hQ _⟩
/-! ### _law_whole -/
theorem ok_whole {f : Addr} {fd : FuncData} (F : Fun K "_law_whole" "_law_whole" sWhole f fd) (T : Txt K mg a) : FnOk P w K mg base CX0 1 f fd ["_law_one", "_law_due"] spWhole := by
  refine F.ok scWhole (fun vs H Q E h => ?_) (fun cdv A outer s H vs Q E hr h => ?_)
  · obtain ⟨i, j, rfl, _⟩ := h
    rfl
  · obtain ⟨i, j, rfl, hQ⟩ := h
    refine ⟨_, pss_one (ps_ret (pe_and (pe_callB call_isi (by rfl) T.isi (by decide +kernel) (pa_cons (pv 0) (pa_cons (pe_bltn (v := .ty "int") (by rfl) T.int (by decide +kernel) rfl) pa_nil)))
      (pe_and (pe_not (pe_callB call_isi (by rfl) T.isi (by decide +kernel) (pa_cons (pv 0) (pa_cons (pe_bltn (v := .ty "bool") (by rfl) T.bool (by decide +kernel) rfl) pa_nil))))
      (pe_one (pe_cmpR op_eq (pv 0) (pv 1) (nomark _)))))), ?_⟩
    refine ⟨_, rfl, _, _, _, _, true, rfl, .ty "int", .base (.int i), kit_ty (by decide +kernel), true, rfl, ?_⟩
    refine iteT ?_
    refine ⟨_, rfl, _, _, _, _, false, rfl, .ty "bool", .base (.int i), kit_ty (by decide +kernel), false, rfl, true, rfl, ?_⟩
    refine iteT ?_
    refine ⟨_, rfl, _, rfl, rfl, ?_⟩
    have e : decide (V.int i = V.int j) = decide (i = j) := by
      by_cases q : i = j
      · subst q
        simp
      · rw [decide_eq_false q, decide_eq_false fun z => q (V.int.inj z)]
    rw [e]
    exact hQ
/-! ### _law_is_tag -/
theorem ok_isT {f : Addr} {fd : FuncData} (F : Fun K "_law_is_tag" "_law_is_tag" sIsT f fd) (T : Txt K mg a) : FnOk P w K mg base CX0 1 f fd ["_law_word_here"] spIsT := by
  refine F.ok scIsT (fun vs H Q E h => ?_) (fun cdv A outer s H vs Q E hr h => ?_)
  · obtain ⟨z, rfl, _⟩ := h
    rfl
  · obtain ⟨z, rfl, hz1, k⟩ := h
    have hz : z.length ≤ sizeLine := Nat.le_of_lt (small1000 hz1)
    refine ⟨_, pss_cons (ps_if (PW.pt (pw_or (pt_cmpR op_lt (pe_callB call_len_str (by rfl) T.len PySem.boot_len (pa_cons (pv 0) pa_nil)) pe_int (nomark _))
        (pw_or1 (pt_cmpR op_gt (pe_callB call_len_str (by rfl) T.len PySem.boot_len (pa_cons (pv 0) pa_nil)) pe_int (nomark _))))) (pss_one (ps_ret pe_bl)) pss_nil)
      (pss_one (ps_ret (pe_callB (cr_all rfl) (by rfl) T.all (by decide +kernel) (pa_cons
        (pe_lc (own := [("_law_sign", 1)]) (g := gName 1) (tt := tYes) rfl scIsT.nd (pi_str (pv 0)) (blkOk_by (N := ["_law_word_here", "_law_sign"]) (sc := defScope sIsT) (by decide +kernel)) (fun _ _ _ _ _ => pg_name (i := 1) scIsT.nd rfl (Or.inl rfl)) (fun _ _ _ _ _ => pts_nil)
          (fun _ _ _ _ _ => pe_cmpR op_in_sign (pv 1) pe_str (by rfl))) pa_nil)))), ?_⟩
    refine ⟨_, rfl, z, rfl, hz, _, _, rfl, rfl, _, rfl, ite2 (fun c => ?_) (fun c => ?_)⟩
    · have e : tagB z = false := tagB_len (.inl (by have := of_decide_eq_true c; omega))
      rw [e] at k
      exact iteT (k H (Same.refl H))
    have c1 : ¬ ((z.length : Nat) : Int) < 1 := fun q => c (decide_eq_true q)
    refine ⟨_, rfl, z, rfl, hz, _, _, rfl, rfl, _, rfl, ite2 (fun c => ?_) (fun c => ?_)⟩
    · have e : tagB z = false := tagB_len (.inr (by have := of_decide_eq_true c; omega))
      rw [e] at k
      exact k H (Same.refl H)
    have c2 : ¬ (8 : Int) < ((z.length : Nat) : Int) := fun q => c (decide_eq_true q)
    refine ⟨_, rfl, z, rfl, fun D hD => lc_it walk_str (fun i H' => Same H H' ∧ H' D = some (.lst (((z.cps.toList.take i).map signB).map V.bl))) ⟨same_upd hD, upd_same⟩ (fun _ _ _ _ => trivial) ?_ ?_⟩
    · rintro i x H1 H2 hi ⟨e, hd⟩ ⟨rfl, c, hc, rfl⟩
      have hc' : z.cps.toList[i]? = some c := by
        rw [Array.getElem?_toList]
        exact hc
      refine ⟨rfl, ?_⟩
      refine ⟨_, rfl, c, abc, rfl, rfl, _, hd, ?_, fun b o q => ?_, ?_⟩
      · rw [List.length_map, List.length_map, List.length_take]
        refine small1000 ?_
        have : z.cps.toList.length = z.length := by simp [Str.length]
        omega
      · rw [upd_ne (ne_of_none q hD)]
        exact e _ _ q
      · rw [upd_same, List.take_succ, hc', List.map_append, List.map_append]
        rfl
    · rintro H1 ⟨e, hd⟩
      have hn : z.cps.toList.take z.cps.size = z.cps.toList := List.take_of_length_le (by simp)
      rw [hn] at hd
      refine ⟨D, z.cps.toList.map signB, rfl, SqL.of hd, ?_⟩
      have et : (z.cps.toList.map signB).all id = tagB z := by
        unfold tagB
        rw [decide_eq_true (show 1 ≤ z.length by omega), decide_eq_true (show z.length ≤ 8 by omega), List.all_map]
        rfl
      rw [et]
      exact k _ e
/-! ### _law_tag -/
theorem join_codes : ∀ cs : List Nat, (Str.join (Str.ofString "") (cs.map fun c => (⟨#[c]⟩ : Str))).cps.toList = cs
  | [] => rfl
  | [c] => rfl
  | c :: d :: cs => by
    have ih := join_codes (d :: cs)
    show ((⟨#[c]⟩ : Str) ++ Str.ofString "" ++ Str.join (Str.ofString "") ((d :: cs).map fun c => (⟨#[c]⟩ : Str))).cps.toList = _
    rw [Str.cps_append, Str.cps_append, Array.toList_append, Array.toList_append, ih]
    have e : (Str.ofString "").cps.toList = [] := by decide +kernel
    rw [e]
    rfl
theorem join_len (cs : List Nat) : (Txt.join (Str.ofString "") (cs.map fun c => (⟨#[c]⟩ : Str))).cps.toList = cs := by
  show (Builtin.Str.glued (Str.ofString "") _).cps.toList = cs
  rw [StrLaws.glued_eq_join]
  exact join_codes cs
theorem join_tag {cs : List Nat} (h1 : 1 ≤ cs.length) (h2 : cs.length ≤ 8) (h : ∀ c ∈ cs, signB c = true) : tagB (Txt.join (Str.ofString "") (cs.map fun c => (⟨#[c]⟩ : Str))) = true := by
  have e := join_len cs
  have el : (Txt.join (Str.ofString "") (cs.map fun c => (⟨#[c]⟩ : Str))).length = cs.length := by
    rw [← e, Array.length_toList, e]
    rfl
  unfold tagB
  rw [el, e, decide_eq_true h1, decide_eq_true h2]
  show (true && cs.all signB) = true
  rw [Bool.true_and, List.all_eq_true]
  exact h
theorem ok_tag {f : Addr} {fd : FuncData} (F : Fun K "_law_tag" "_law_tag" sTag f fd) (T : Txt K mg a) : FnOk P w K mg base CX0 1 f fd ["_law_cell_here"] spTagA := by
  refine F.ok scTag (fun vs H Q E h => ?_) (fun cdv A outer s H vs Q E hr h => ?_)
  · obtain ⟨c, rfl, _⟩ := h
    rfl
  · obtain ⟨c, rfl, c0, c1, hQ⟩ := h
    refine ⟨_, pss_cons (ps_set (i := 1) scTag.nd rfl (Or.inr rfl) pe_str) (pss_one (ps_ret (pe_join pe_str
      (pe_lc (own := [("_law_k", 2)]) (g := gName 2) (tt := tYes) rfl scTag.nd (pi_range1 rfl T.range (pa_cons (pe_op op_add pe_int (pe_op op_mod (pv 0) pe_int)) pa_nil)) (blkOk_by (N := ["_law_cell_here", "_law_letters", "_law_k"]) (sc := defScope sTag) (by decide +kernel))
        (fun _ _ _ _ _ => pg_name (i := 2) scTag.nd rfl (Or.inl rfl)) (fun _ _ _ _ _ => pts_nil)
        (fun _ _ _ _ _ => pe_ix (r := rIxS) ix_str (pv 1) (pe_op op_mod (pe_op op_add (pe_op op_fdiv (pv 0) pe_int) (pe_op op_mul (pe_op op_mod (pe_op op_fdiv (pv 0) pe_int) pe_int) (pv 2))) pe_int) fun _ _ => rfl))))), ?_⟩
    have m0 : 0 ≤ c % 8 := Int.emod_nonneg _ (by decide)
    have m1 : c % 8 < 8 := Int.emod_lt_of_pos _ (by decide)
    refine ⟨⟨_, rfl⟩, _, rfl, _, _, rfl, rfl, (by show (0 : Int) < 8; decide), _, _, rfl, rfl, _, rfl, by omega, by omega, fun D hD => lc_range (lo := 0) (n := (1 + c % 8).toNat) (fun i H' => Same H H' ∧ ∃ cs : List Nat, cs.length = i ∧ (∀ x ∈ cs, signB x = true) ∧ H' D = some (.lst ((cs.map fun x => (⟨#[x]⟩ : Str)).map V.str))) ⟨same_upd hD, [], rfl, (fun _ q => by cases q), upd_same⟩ ?_ ?_⟩
    · rintro i H' hi ⟨e, cs, hl, hcs, hd⟩
      refine ⟨rfl, ?_⟩
      have la : abc.cps.toList.length = 26 := by decide +kernel
      obtain ⟨x, hx, hm⟩ := atI_mod (xs := abc.cps.toList) (i := c / 9 + c / 26 % 7 * (0 + (i : Int))) (by rw [la]; decide)
      rw [la] at hx
      have q0 : 0 ≤ c / 26 % 7 := Int.emod_nonneg _ (by decide)
      have q1 : c / 26 % 7 < 7 := Int.emod_lt_of_pos _ (by decide)
      refine ⟨_, rfl, _, rfl, _, _, rfl, rfl, ⟨by decide, by decide⟩, _, rfl, _, _, rfl, rfl, ⟨by decide, by decide⟩, _, _, rfl, rfl, (by show (0 : Int) < 7; decide), _, rfl, _, _, rfl, rfl, cmul q0 (by omega), _, _, rfl, rfl, _, _, rfl, rfl, (by show (0 : Int) < 26; decide), abc, _, x, rfl, rfl, (by decide), hx, ?_⟩
      refine ⟨_, hd, small1000 (by rw [List.length_map, List.length_map]; omega), fun b o q => ?_, cs ++ [x], by rw [List.length_append, hl]; rfl, fun y hy => ?_, ?_⟩
      · rw [upd_ne (ne_of_none q hD)]
        exact e _ _ q
      · rcases List.mem_append.mp hy with q | q
        · exact hcs y q
        · rw [List.mem_singleton.mp q]
          exact decide_eq_true hm
      · rw [upd_same, List.map_append, List.map_append]
        rfl
    · rintro H' ⟨e, cs, hl, hcs, hd⟩
      refine ⟨_, D, _, rfl, rfl, .inl (SqL.of hd), ?_, ?_⟩
      · have es : (cs.map fun x => (⟨#[x]⟩ : Str)).map (·.length) = cs.map fun _ => 1 := by
          rw [List.map_map]
          rfl
        have e0 : (Str.ofString "").length = 0 := by decide +kernel
        rw [es, e0]
        have : (cs.map fun _ => 1).sum = cs.length := by
          clear hl hcs hd es
          induction cs with
          | nil => rfl
          | cons x cs ih => rw [List.map_cons, List.sum_cons, ih, List.length_cons]; omega
        rw [this]
        omega
      · exact hQ _ _ e (join_tag (by omega) (by omega) hcs)
end
end Fg

namespace Fg
open PySem L2 FgR
theorem tag_len {z : Str} (h : tagB z = true) : 1 ≤ z.length ∧ z.length ≤ 8 := by
  unfold tagB at h
  rw [Bool.and_eq_true, Bool.and_eq_true] at h
  exact ⟨of_decide_eq_true h.1.1, of_decide_eq_true h.1.2⟩
section
variable {P : Program} {w : World} {K : PySem.W.Frag} {mg : Str → Option Value} {base : Heap} {a : Ad}
theorem ok_spoil {f : Addr} {fd : FuncData} (F : Fun K "_law_spoiled" "_law_spoiled" sSpoil f fd) (T : Txt K mg a) : FnOk P w K mg base CX0 1 f fd ["_law_cell_here", "_law_tag_here"] spSpoil := by
  refine F.ok scSpoil (fun vs H Q E h => ?_) (fun cdv A outer s H vs Q E hr h => ?_)
  · obtain ⟨c, tag, rfl, _⟩ := h
    rfl
  · obtain ⟨c, tag, rfl, c0, ht, hQ⟩ := h
    obtain ⟨t1, t8⟩ := tag_len ht
    have tl : tag.length ≤ sizeLine := Nat.le_of_lt (small1000 (by omega))
    refine ⟨_, pss_cons (ps_set (i := 2) scSpoil.nd rfl (Or.inl rfl) pe_str)
      (pss_cons (ps_if (pt_cmpR op_eq (pe_op op_mod (pv 0) pe_int) pe_int (nomark _)) (pss_one (ps_ret pe_str)) pss_nil)
      (pss_cons (ps_if (pt_cmpR op_eq (pe_op op_mod (pv 0) pe_int) pe_int (nomark _)) (pss_one (ps_ret (pe_slice sl_str (pe_op op_rep_str (pv 1) pe_int) po_none (po_some (pe_op op_add pe_int (pe_op op_mod (pe_op op_fdiv (pv 0) pe_int) pe_int)))))) pss_nil)
      (pss_cons (ps_set (i := 3) scSpoil.nd rfl (Or.inl rfl) (pe_op op_mod (pe_op op_fdiv (pv 0) pe_int) (pe_callB call_len_str (by rfl) T.len PySem.boot_len (pa_cons (pv 1) pa_nil))))
      (pss_one (ps_ret (pe_op op_add_str (pe_op op_add_str (pe_slice sl_str (pv 1) po_none (po_some (pv 3))) (pe_ix ix_str (pv 2) (pe_op op_mod (pe_op op_fdiv (pv 0) pe_int) (pe_callB call_len_str (by rfl) T.len PySem.boot_len (pa_cons (pv 2) pa_nil))) fun _ _ => rfl))
        (pe_slice sl_str (pv 1) (po_some (pe_op op_add (pv 3) pe_int)) po_none))))))), ?_⟩
    refine ⟨_, rfl, _, _, rfl, rfl, (by show (0 : Int) < 4; decide), rfl, _, rfl, ite2 (fun _ => hQ _ (by decide)) (fun _ => ?_)⟩
    refine ⟨_, rfl, _, _, rfl, rfl, (by show (0 : Int) < 4; decide), rfl, _, rfl, ite2 (fun _ => ?_) (fun _ => ?_)⟩
    · have ml : (Txt.mul tag 9).length ≤ 8 * 9 := PyProof.Rows.len_mul_leN (N := 9) t8 (by decide)
      refine ⟨_, rfl, tag, 9, rfl, rfl, PyProof.Rows.mulOk_of 8 9 t8 (by decide) (by decide) (by decide) (by decide), ?_⟩
      refine ⟨_, rfl, _, _, rfl, rfl, ⟨by decide, by decide⟩, _, _, rfl, rfl, (by show (0 : Int) < 3; decide), _, _, rfl, rfl, _, rfl, _, rfl, Nat.le_of_lt (small1000 (by omega)), hQ _ (Nat.le_trans (cutS_length _ _ _) (by omega))⟩
    · have hpos : (0 : Int) < ((tag.length : Nat) : Int) := by omega
      refine ⟨_, rfl, _, _, rfl, rfl, ⟨by decide, by decide⟩, _, rfl, tag, rfl, tl, _, _, rfl, rfl, hpos, ?_⟩
      have hs : ∀ z : Str, 0 < z.length → ∃ x, atI z.cps.toList (c / 32 % ((z.length : Nat) : Int)) = some x := fun z h0 => by
        have e : z.cps.toList.length = z.length := by simp [Str.length]
        obtain ⟨x, hx, _⟩ := atI_mod (xs := z.cps.toList) (i := c / 32) (by omega)
        rw [e] at hx
        exact ⟨x, hx⟩
      refine ⟨_, rfl, _, rfl, _, rfl, tag, rfl, tl, ?_⟩
      refine ⟨_, rfl, _, rfl, _, _, rfl, rfl, ⟨by decide, by decide⟩, _, rfl, _, rfl, (by decide), _, _, rfl, rfl, (by show (0 : Int) < (((Str.length _ : Nat)) : Int); exact Int.natCast_pos.mpr (by decide +kernel)), ?_⟩
      refine ⟨_, _, _, rfl, rfl, (by decide), (hs _ (by decide +kernel)).choose_spec, _, _, rfl, rfl, ?_, ?_⟩
      · have := cutS_length tag none (some (c / 4 % ((tag.length : Nat) : Int)))
        refine Nat.le_of_lt (small1000 ?_)
        show _ + 1 ≤ 1000
        omega
      · refine ⟨_, rfl, _, rfl, _, _, rfl, rfl, _, rfl, tag, rfl, tl, _, _, rfl, rfl, ?_, hQ _ ?_⟩
        · have l1 := cutS_length tag none (some (c / 4 % ((tag.length : Nat) : Int)))
          have l2 := cutS_length tag (some (c / 4 % ((tag.length : Nat) : Int) + 1)) none
          rw [Str.length_append]
          refine Nat.le_of_lt (small1000 ?_)
          show _ + 1 + _ ≤ 1000
          omega
        · have l1 := cutS_length tag none (some (c / 4 % ((tag.length : Nat) : Int)))
          have l2 := cutS_length tag (some (c / 4 % ((tag.length : Nat) : Int) + 1)) none
          rw [Str.length_append, Str.length_append]
          show _ + 1 + _ ≤ 100
          omega
theorem ok_word {f : Addr} {fd fdC fdT fdS : FuncData} (F : Fun K "_law_word" "_law_word" sWord f fd) (T : Txt K mg a) (FC : Fun K "_law_cell" "_law_cell" sCell a.cell fdC) (bC : Binds K fdC ["_law_script", "_law_k"] [])
    (FT : Fun K "_law_tag" "_law_tag" sTag a.tag fdT) (bT : Binds K fdT ["_law_cell_here"] []) (FS : Fun K "_law_spoiled" "_law_spoiled" sSpoil a.spoil fdS) (bS : Binds K fdS ["_law_cell_here", "_law_tag_here"] []) :
    FnOk P w K mg base CX0 2 f fd ["_law_script", "_law_k", "_law_tag_here"] (spWordA K) := by
  have GC : FnOk P w K mg base CX0 1 a.cell fdC ["_law_script", "_law_k"] (spCellA K) := ok_cell FC T
  have GT : FnOk P w K mg base CX0 1 a.tag fdT ["_law_cell_here"] spTagA := ok_tag FT T
  have GS : FnOk P w K mg base CX0 1 a.spoil fdS ["_law_cell_here", "_law_tag_here"] spSpoil := ok_spoil FS T
  refine F.ok scWord (fun vs H Q E h => ?_) (fun cdv A outer s H vs Q E hr h => ?_)
  · obtain ⟨l, ns, k, tag, rfl, _⟩ := h
    rfl
  · obtain ⟨l, ns, k, tag, rfl, hS, hl, k0, k1, ht, hQ⟩ := h
    obtain ⟨t1, t8⟩ := tag_len ht
    refine ⟨_, pss_cons (ps_set (i := 3) scWord.nd rfl (Or.inl rfl) (pe_op op_mod (pe_call GC hr rfl T.mCell T.kCell bC .nil pass0 (pa_cons (pv 0) (pa_cons (pe_op op_add pe_int (pv 1)) pa_nil))) (pe_op op_pow pe_int pe_int)))
      (pss_cons (ps_if (pt_cmpR op_lt (pe_op op_mod (pv 3) pe_int) pe_int (nomark _)) (pss_one (ps_ret (pv 2))) pss_nil)
      (pss_cons (ps_if (pt_cmpR op_eq (pe_op op_mod (pv 3) pe_int) pe_int (nomark _)) (pss_one (ps_ret (pe_call GT hr rfl T.mTag T.kTag bT .nil pass0 (pa_cons (pe_op op_fdiv (pv 3) pe_int) pa_nil)))) pss_nil)
      (pss_cons (ps_if (pt_cmpR op_lt (pe_op op_mod (pv 3) pe_int) pe_int (nomark _)) (pss_one (ps_ret pe_str)) pss_nil)
      (pss_one (ps_ret (pe_call GS hr rfl T.mSpoil T.kSpoil bS .nil pass0 (pa_cons (pe_op op_fdiv (pv 3) pe_int) (pa_cons (pv 2) pa_nil)))))))), ?_⟩
    refine ⟨_, rfl, _, rfl, _, _, rfl, rfl, l, ns, 4 + k, rfl, hS, hl, by omega, by omega, fun z => ?_⟩
    refine ⟨_, _, rfl, rfl, ⟨by decide, by decide, by decide⟩, _, _, rfl, rfl, (by show (0 : Int) < 10 ^ (9 : Int).toNat; decide), ?_⟩
    have e9 : (10 : Int) ^ (9 : Int).toNat = 1000000000 := by decide
    rw [e9]
    have z0 : 0 ≤ z % 1000000000 := Int.emod_nonneg _ (by decide)
    have z1 : z % 1000000000 < 1000000000 := Int.emod_lt_of_pos _ (by decide)
    refine ⟨_, rfl, _, _, rfl, rfl, (by show (0 : Int) < 7; decide), _, _, rfl, rfl, _, rfl, ite2 (fun _ => ⟨_, rfl, hQ _ _ (Same.refl H) (by omega)⟩) (fun _ => ?_)⟩
    refine ⟨_, rfl, _, _, rfl, rfl, (by show (0 : Int) < 7; decide), rfl, _, rfl, ite2 (fun _ => ?_) (fun _ => ?_)⟩
    · refine ⟨_, rfl, _, _, rfl, rfl, ⟨by decide, by decide⟩, _, rfl, by omega, by omega, fun H' y e hy => hQ _ _ e ?_⟩
      have := (tag_len hy).2
      omega
    · refine ⟨_, rfl, _, _, rfl, rfl, (by show (0 : Int) < 7; decide), _, _, rfl, rfl, _, rfl, ite2 (fun _ => hQ _ _ (Same.refl H) (by decide)) (fun _ => ?_)⟩
      exact ⟨_, rfl, _, _, rfl, rfl, ⟨by decide, by decide⟩, _, rfl, _, tag, rfl, by omega, ht, fun y hy => hQ _ _ (Same.refl H) hy⟩
end
end Fg

namespace Fg
open PySem L2 FgR
def spTold (C : Addr) : Sp := fun vs H Q _ => ∃ (R : Rl) (A : SA) (s : Sst) (w : Str) (way : Int), vs = [.ref A.p, .str w, .int way] ∧ StAt H C R A s ∧ Good R s 40 ∧ w.length ≤ 1000 ∧
  (stepSt R s w = none → ∀ (H' : Hp) (q : Addr), Same H H' → H' q = none → Q (.ref q) (upd H' q (.tup [.str "refused", .int (s.tk : Int), .bl true]))) ∧
  ∀ (s' : Sst) (ws : List Str), stepSt R s w = some (s', ws) → ∀ (H' : Hp) (A' : SA) (x q : Addr), Only' A.all H H' → A'.p = A.p → StAt H' C R A' s' → (∀ b ∈ A'.all, b ∈ A.all ∨ H b = none) → (x ∈ A.all ∨ H x = none) → x ∉ A'.all → ListAt H' x ws →
    H' q = none → Q (.ref q) (upd H' q (.tup [.str "came", .ref x]))
/-- return ("came", stream.take(word)) -/
def t_body (C CN : Addr) (W : WX) : TS := tRet (tTup (tCons (tC (.str "came")) (tCons (tMethE C "take" (spTake C CN) (WE W) (tVar 0) (tCons (tVar 1) tNil)) tNil)))
/-- return ("refused", e.place, isinstance(e, ValueError) and not isinstance(e, NotStraight)) -/
def t_one (K : PySem.W.Frag) (CN CS : Addr) : Addr → Value → Option Addr → TS := fun e cls d => tRet (tTup (tCons (tC (.str "refused")) (tCons (tXf e cls d CN "place" (tVar 3))
  (tCons (tAndV (tCB (rIsED K CN e cls d) (tCons (tVar 3) (tCons (tC (.ty "ValueError")) tNil))) (tNotV (tCB (rIsED K CN e cls d) (tCons (tVar 3) (tCons (tC (.ref CS)) tNil))))) tNil))))
/-- if not isinstance(e, NoGrove): return ("other",); return ("refused", e.place, True) -/
def t_two (K : PySem.W.Frag) (CN : Addr) : Addr → Value → Option Addr → TS := fun e cls d => tSeq (tIfS (tNot (tB (tCB (rIsED K CN e cls d) (tCons (tVar 3) (tCons (tC (.ref CN)) tNil))))) (tRet (tTup (tCons (tC (.str "other")) tNil))) tNext)
  (tRet (tTup (tCons (tC (.str "refused")) (tCons (tXf e cls d CN "place" (tVar 3)) (tCons (tC (.bl true)) tNil)))))
section
variable {P : Program} {w : World} {K : PySem.W.Frag} {mg : Str → Option Value} {base : Heap} {a : Ad}
theorem ok_told {f : Addr} {fd fdT fdI fdN fdE : FuncData} (F : Fun K "_law_told" "_law_told" sTold f fd) (T : Txt K mg a) (FT : Fun K "take" "Stream.take" sTake a.take fdT) (bT : Binds K fdT ["self", "word"] [])
    (FI : Fun K "is_tag" "is_tag" sIsTag a.isTag fdI) (bI : Binds K fdI ["text"] []) (FN : Fun K "__init__" "NoGrove.__init__" sNG a.NG fdN) (bN : Binds K fdN ["self", "place"] []) (FE : Fun K "entered" "Stream.entered" sEnt a.ent fdE) (bE : Binds K fdE ["self", "tag"] []) :
    FnOk P w K mg base CX0 4 f fd ["_law_stream", "_law_word_here", "_law_way"] (spTold a.C) := by
  have GT : FnOk P w K mg base (L2.CX P w) 3 a.take fdT ["self", "word"] (spTake a.C a.CN) := ok_take FT T FI bI FN bN FE bE
  refine F.ok scTold (fun vs H Q E h => ?_) (fun cdv A0 outer s0 H vs Q E hr h => ?_)
  · obtain ⟨R, A, s, z, way, rfl, _⟩ := h
    rfl
  · obtain ⟨R, A, s, z, way, rfl, st, gd, hz1, hN, hC⟩ := h
    obtain ⟨dx, hp⟩ := st.p
    have noT : (fsOf A.d A.m A.o s.tk).lookup ("take" : Str) = none := fs_no _ _ _ _ (by decide +kernel) (by decide +kernel) (by decide +kernel) (by decide +kernel)
    refine ⟨_, pss_cons (ps_if (pt_cmpR op_eq (pv 2) pe_int (nomark _))
        (pss_one (ps_try_as (i := 3) (tb := t_body a.C a.CN) (ts := t_one K a.CN a.CS) (Wout := fun _ _ _ _ => False) rfl rfl scTold.nd rfl rfl ⟨rfl, by decide, Or.inl T.mCN⟩ takes0
          (fun W pn xe tk _ => pss_one (ps_ret (by exact (pe_tup (pa_cons pe_str (pa_cons (pe_methE (pv 0) T.cl T.meTake GT hr bT (fun σ => passAt tk σ) (pa_cons (pv 1) pa_nil)) pa_nil))))))
          (fun e oe cls d pn hz hf => pss_one (ps_ret (by exact (pe_tup (pa_cons pe_str (pa_cons (pe_xf T.xfN T.noP hz hf (pv 3)) (pa_cons
            (pe_and (pe_callB (call_isED T.isN hz hf) (by rfl) T.isi (by decide +kernel) (pa_cons (pv 3) (pa_cons (pe_bltn (v := .ty "ValueError") (by rfl) T.VE (by decide +kernel) rfl) pa_nil)))
              (pe_one (pe_not (pe_callB (call_isED T.isN hz hf) (by rfl) T.isi (by decide +kernel) (pa_cons (pv 3) (pa_cons (pe_glob (v := .ref a.CS) rfl T.mCS rfl) pa_nil)))))) pa_nil))))))))) pss_nil)
      (pss_one (ps_try_as (i := 3) (tb := t_body a.C a.CN) (ts := t_two K a.CN) (Wout := fun _ _ _ _ => False) rfl rfl scTold.nd rfl rfl ⟨rfl, by decide, Or.inl T.mCG⟩ takes0
          (fun W pn xe tk _ => pss_one (ps_ret (by exact (pe_tup (pa_cons pe_str (pa_cons (pe_methE (pv 0) T.cl T.meTake GT hr bT (fun σ => passAt tk σ) (pa_cons (pv 1) pa_nil)) pa_nil))))))
          (fun e oe cls d pn hz hf => by exact (pss_cons (ps_if (pt_not (pt_val (pe_callB (call_isED T.isN hz hf) (by rfl) T.isi (by decide +kernel) (pa_cons (pv 3) (pa_cons (pe_glob (v := .ref a.CN) rfl T.mCN rfl) pa_nil))))) (pss_one (ps_ret (pe_tup (pa_cons pe_str pa_nil)))) pss_nil)
            (pss_one (ps_ret (pe_tup (pa_cons pe_str (pa_cons (pe_xf T.xfN T.noP hz hf (pv 3)) (pa_cons pe_bl pa_nil)))))))))), ?_⟩
    -- the body's way out with a list
    have came : ∀ (s' : Sst) (ws : List Str), stepSt R s z = some (s', ws) → ∀ (H' : Hp) (A' : SA) (x : Addr), Only' A.all H H' → A'.p = A.p → StAt H' a.C R A' s' → (∀ b ∈ A'.all, b ∈ A.all ∨ H b = none) → (x ∈ A.all ∨ H x = none) → x ∉ A'.all → ListAt H' x ws →
        [V.str "came", V.ref x].length ≤ sizeLine ∧ ∀ q, H' q = none → Q (.ref q) (upd H' q (.tup [.str "came", .ref x])) := fun s' ws hst H' A' x only pA stN fr hx nxA hl =>
      ⟨(by show 2 ≤ sizeLine; decide), fun q nq => hC s' ws hst H' A' x q only pA stN fr hx nxA hl nq⟩
    refine ⟨_, rfl, rfl, _, rfl, ite2 (fun _ => ?_) (fun _ => ?_)⟩
    · refine ⟨_, rfl, A.p, dx, _, rfl, hp, noT, _, rfl, R, A, s, z, rfl, st, gd, hz1, fun hst d nd => ?_, came⟩
      have ed := same_upd (o := .xd [("place", V.int (s.tk : Int))]) nd
      refine ⟨true, T.eNN, fun _ e0 _ => ?_, fun q => Bool.noConfusion q⟩
      refine ⟨_, rfl, rfl, rfl, d, _, _, rfl, upd_same, lk_eq, ?_⟩
      refine ⟨_, rfl, .ty "ValueError", .type "ValueError", true, d, _, rfl, rfl, rfl, upd_same, fun _ q => q, T.iNV, true, rfl, ?_⟩
      refine iteT ?_
      refine ⟨_, rfl, .ref a.CS, .ref a.CS, false, d, _, rfl, rfl, rfl, upd_same, fun _ q => q, T.iNS, false, rfl, (by show 3 ≤ sizeLine; decide), fun q nq => hN hst _ q ed nq⟩
    · refine ⟨_, rfl, A.p, dx, _, rfl, hp, noT, _, rfl, R, A, s, z, rfl, st, gd, hz1, fun hst d nd => ?_, came⟩
      have ed := same_upd (o := .xd [("place", V.int (s.tk : Int))]) nd
      refine ⟨true, T.eNG, fun _ e0 _ => ?_, fun q => Bool.noConfusion q⟩
      refine ⟨_, rfl, .ref a.CN, .ref a.CN, true, d, _, rfl, rfl, rfl, upd_same, fun _ q => q, T.iNN, true, rfl, ?_⟩
      refine iteF ?_
      exact ⟨_, rfl, rfl, rfl, d, _, _, rfl, upd_same, lk_eq, (by show 3 ≤ sizeLine; decide), fun q nq => hN hst _ q ed nq⟩
end
end Fg

namespace Fg
open PySem L2 FgR
/-! ### the plain law: what a step does to sizes -/
theorem entSt_fst (R : Rl) (s : Sst) (w : Str) : (entSt R s w).1.tk = s.tk ∧ (entSt R s w).1.ow.length = s.ow.length + 1 ∧ (entSt R s w).1.ms.length = s.ms.length + 1 := by
  unfold entSt
  split
  · split <;> exact ⟨rfl, rfl, rfl⟩
  · exact ⟨rfl, rfl, rfl⟩
theorem entSt_ws {R : Rl} {s : Sst} {w : Str} (hb : R.c.bh.length ≤ 20) (h : ∀ l ∈ s.ow, l.length ≤ 20) : ∀ l ∈ (entSt R s w).1.ow, l.length ≤ 20 := by
  unfold entSt
  split
  · split
    · intro l hl
      rcases List.mem_cons.mp hl with e | e
      · rw [e]; exact hb
      · exact h l e
    · intro l hl
      rcases List.mem_cons.mp hl with e | e
      · rw [e]; decide
      · exact h l e
  · intro l hl
    rcases List.mem_cons.mp hl with e | e
    · rw [e]; decide
    · exact h l e
theorem Good.mono {R : Rl} {s : Sst} {n m : Nat} (g : Good R s n) (h : n ≤ m) : Good R s m := ⟨g.ms, Nat.le_trans g.ht h, g.ws, g.ah, g.bh⟩
theorem Good.step {R : Rl} {s s' : Sst} {w : Str} {ws : List Str} {n : Nat} (g : Good R s n) (h : stepSt R s w = some (s', ws)) : Good R s' (n + 1) := by
  unfold stepSt at h
  by_cases c : w = slash ∧ s.ow ≠ []
  · rw [if_pos c] at h
    have e := (Prod.mk.inj (Option.some.inj h)).1
    subst e
    have g1 := g.ms
    have g2 := g.ht
    have hne : 0 < s.ow.length := List.length_pos_iff.mpr c.2
    refine ⟨?_, ?_, fun l hl => g.ws l (List.mem_of_mem_tail hl), g.ah, g.bh⟩
    · show s.ms.tail.length = s.ow.tail.length + 1
      rw [List.length_tail, List.length_tail]
      omega
    · show s.ow.tail.length ≤ n + 1
      rw [List.length_tail]
      omega
  · rw [if_neg c] at h
    by_cases ht : tagB w = true
    · rw [if_pos ht] at h
      have e : (entSt R ⟨s.ms, s.ow, s.tk + 1⟩ w).1 = s' := by rw [Option.some.inj h]
      obtain ⟨_, h2, h3⟩ := entSt_fst R ⟨s.ms, s.ow, s.tk + 1⟩ w
      have h4 := entSt_ws (R := R) (s := ⟨s.ms, s.ow, s.tk + 1⟩) (w := w) g.bh g.ws
      rw [e] at h2 h3 h4
      have g1 := g.ms
      have g2 := g.ht
      have h2 : s'.ow.length = s.ow.length + 1 := h2
      have h3 : s'.ms.length = s.ms.length + 1 := h3
      exact ⟨by omega, by omega, h4, g.ah, g.bh⟩
    · rw [if_neg ht] at h
      cases h
theorem step_yes {R : Rl} {s : Sst} {w : Str} (h : tagB w = true ∨ (w = slash ∧ 0 < s.ow.length)) : ∃ s' ws, stepSt R s w = some (s', ws) := by
  unfold stepSt
  by_cases c : w = slash ∧ s.ow ≠ []
  · rw [if_pos c]
    exact ⟨_, _, rfl⟩
  · rw [if_neg c]
    have ht : tagB w = true := by
      rcases h with h | h
      · exact h
      · exact absurd ⟨h.1, List.length_pos_iff.mp h.2⟩ c
    rw [if_pos ht]
    exact ⟨_, _, rfl⟩
theorem step_no {R : Rl} {s : Sst} {w : Str} (h : stepSt R s w = none) : tagB w = false ∧ ¬ (w = slash ∧ 0 < s.ow.length) := by
  refine ⟨?_, fun q => ?_⟩
  · cases e : tagB w with
    | false => rfl
    | true =>
      obtain ⟨s', ws, q⟩ := step_yes (R := R) (s := s) (.inl e)
      rw [h] at q
      cases q
  · obtain ⟨s', ws, q'⟩ := step_yes (R := R) (s := s) (w := w) (.inr q)
    rw [h] at q'
    cases q'
theorem step_some {R : Rl} {s s' : Sst} {w : Str} {ws : List Str} (h : stepSt R s w = some (s', ws)) : s'.tk = s.tk + 1 ∧
    ((tagB w = true ∧ w ≠ slash ∧ s'.ow.length = s.ow.length + 1) ∨ (tagB w = false ∧ w = slash ∧ 0 < s.ow.length ∧ s'.ow.length + 1 = s.ow.length)) := by
  unfold stepSt at h
  by_cases c : w = slash ∧ s.ow ≠ []
  · rw [if_pos c] at h
    have e := (Prod.mk.inj (Option.some.inj h)).1
    subst e
    have hne : 0 < s.ow.length := List.length_pos_iff.mpr c.2
    refine ⟨rfl, .inr ⟨by rw [c.1]; exact tag_slash, c.1, hne, ?_⟩⟩
    show s.ow.tail.length + 1 = _
    rw [List.length_tail]
    omega
  · rw [if_neg c] at h
    by_cases ht : tagB w = true
    · rw [if_pos ht] at h
      have e : (entSt R ⟨s.ms, s.ow, s.tk + 1⟩ w).1 = s' := by rw [Option.some.inj h]
      obtain ⟨h1, h2, _⟩ := entSt_fst R ⟨s.ms, s.ow, s.tk + 1⟩ w
      rw [e] at h1 h2
      refine ⟨h1, .inl ⟨ht, fun q => ?_, h2⟩⟩
      rw [q, tag_slash] at ht
      cases ht
    · rw [if_neg ht] at h
      cases h
/-! ### the two streams apart -/
theorem apart_keep {H H' : Hp} {C : Addr} {R : Rl} {A B : SA} {s : Sst} (st : StAt H C R B s) (ap : ∀ b ∈ A.all, b ∉ B.all) (o : Only' A.all H H') : StAt H' C R B s := st.keep fun b u hb q => o b u (fun z => ap b z hb) q
theorem fresh_apart {H : Hp} {C : Addr} {R : Rl} {A A' B : SA} {s : Sst} (st : StAt H C R B s) (ap : ∀ b ∈ A.all, b ∉ B.all) (fr : ∀ b ∈ A'.all, b ∈ A.all ∨ H b = none) : ∀ b ∈ A'.all, b ∉ B.all := fun b hb hB => by
  rcases fr b hb with q | q
  · exact ap b q hB
  · obtain ⟨o, ho⟩ := st.some b hB
    rw [q] at ho
    cases ho
def nSt (l pl rc p1 p2 : Addr) (tag : Str) (t o : Nat) (v8 v9 v10 v11 : Option V) : L2.St :=
  [some (.ref l), some (.str tag), some (.ref pl), some (.ref rc), some (.ref p1), some (.ref p2), some (.int (t : Int)), some (.int (o : Int)), v8, v9, v10, v11]
/-- between two turns both streams are in the same state; all that stood ahead stands -/
def LInv (C : Addr) (H : Hp) (l pl rc : Addr) (tag : Str) (R : Rl) (n : Nat) (σ : L2.St) (H' : Hp) : Prop := ∃ (A1 A2 : SA) (s : Sst) (v8 v9 v10 v11 : Option V), StAt H' C R A1 s ∧ StAt H' C R A2 s ∧ (∀ b ∈ A1.all, b ∉ A2.all) ∧ Good R s n ∧ Same H H' ∧
  (∀ b ∈ A1.all, H b = none) ∧ (∀ b ∈ A2.all, H b = none) ∧ σ = nSt l pl rc A1.p A2.p tag s.tk s.ow.length v8 v9 v10 v11
def spLawA (K : PySem.W.Frag) : Sp := fun vs H Q _ => ∃ (l : Addr) (ns : List Int), vs = [.ref l] ∧ SqL K H l (ns.map V.int) ∧ ns.length ≤ 63 ∧ ∀ H', Q (.bl true) H'
theorem only_same {H H1 H2 : Hp} {F : List Addr} (e : Same H H1) (o : Only' F H1 H2) (f : ∀ b ∈ F, H b = none) : Same H H2 := fun b u q => o b u (fun z => by
  rw [f b z] at q
  cases q) (e b u q)
end Fg

namespace Fg
open PySem L2 FgR
section
variable {P : Program} {w : World} {K : PySem.W.Frag} {mg : Str → Option Value} {base : Heap} {a : Ad}
/-- a law's def, all that it calls -/
structure Defs (P : Program) (w : World) (K : PySem.W.Frag) (mg : Str → Option Value) (base : Heap) (a : Ad) : Prop where
  init : ∃ fd, FnOk P w K mg base CX0 4 a.init fd ["self", "changer"] (spInit a.C) ∧ Binds K fd ["self", "changer"] []
  take : ∃ fd, FnOk P w K mg base (L2.CX P w) 3 a.take fd ["self", "word"] (spTake a.C a.CN) ∧ Binds K fd ["self", "word"] []
  ht : ∃ fd, FnOk P w K mg base CX0 1 a.ht fd ["self"] (spHt a.C) ∧ Binds K fd ["self"] []
  owed : ∃ fd, FnOk P w K mg base CX0 1 a.owed fd ["self"] (spOwed a.C) ∧ Binds K fd ["self"] []
  cell : ∃ fd, FnOk P w K mg base CX0 1 a.cell fd ["_law_script", "_law_k"] (spCellA K) ∧ Binds K fd ["_law_script", "_law_k"] []
  tag : ∃ fd, FnOk P w K mg base CX0 1 a.tag fd ["_law_cell_here"] spTagA ∧ Binds K fd ["_law_cell_here"] []
  word : ∃ fd, FnOk P w K mg base CX0 2 a.word fd ["_law_script", "_law_k", "_law_tag_here"] (spWordA K) ∧ Binds K fd ["_law_script", "_law_k", "_law_tag_here"] []
  isT : ∃ fd, FnOk P w K mg base CX0 1 a.isT fd ["_law_word_here"] spIsT ∧ Binds K fd ["_law_word_here"] []
  told : ∃ fd, FnOk P w K mg base CX0 4 a.told fd ["_law_stream", "_law_word_here", "_law_way"] (spTold a.C) ∧ Binds K fd ["_law_stream", "_law_word_here", "_law_way"] []
  whole : ∃ fd, FnOk P w K mg base CX0 1 a.whole fd ["_law_one", "_law_due"] spWhole ∧ Binds K fd ["_law_one", "_law_due"] []
theorem e9 : (10 : Int) ^ (9 : Int).toNat = 1000000000 := by decide
theorem ok_law {f : Addr} {fd : FuncData} (F : Fun K "law" "law" sLaw f fd) (T : Txt K mg a) (D : Defs P w K mg base a) : FnOk P w K mg base CX0 6 f fd ["_law_script"] (spLawA K) := by
  obtain ⟨fdI, GI, bI⟩ := D.init
  obtain ⟨fdT, GT, bT⟩ := D.take
  obtain ⟨fdH, GH, bH⟩ := D.ht
  obtain ⟨fdO, GO, bO⟩ := D.owed
  obtain ⟨fdC, GC, bC⟩ := D.cell
  obtain ⟨fdG, GG, bG⟩ := D.tag
  obtain ⟨fdW, GW, bW⟩ := D.word
  obtain ⟨fdS, GS, bS⟩ := D.isT
  obtain ⟨fdD, GD, bD⟩ := D.told
  obtain ⟨fdE, GE, bE⟩ := D.whole
  refine F.ok scLaw (fun vs H Q E h => ?_) (fun cdv A0 outer s0 H vs Q E hr h => ?_)
  · obtain ⟨l, ns, rfl, _⟩ := h
    rfl
  · obtain ⟨l, ns, rfl, hS, hl, hQ⟩ := h
    have hr1 : Room 1 _ := hr.mono (by decide)
    have hr2 : Room 2 _ := hr.mono (by decide)
    have hr3 : Room 3 _ := hr.mono (by decide)
    have hr4 : Room 4 _ := hr.mono (by decide)
    have nd := scLaw.nd
    refine ⟨_, pss_cons (ps_set (i := 1) nd rfl (Or.inl rfl) (pe_call GG hr1 rfl T.mTag T.kTag bG .nil pass0 (pa_cons (pe_op op_mod (pe_call GC hr1 rfl T.mCell T.kCell bC .nil pass0 (pa_cons (pv 0) (pa_cons pe_int pa_nil))) (pe_op op_pow pe_int pe_int)) pa_nil)))
      (pss_cons (ps_set (i := 2) nd rfl (Or.inl rfl) (pe_lst (pa_cons (pe_tup (pa_cons pe_str (pa_cons (pe_call GG hr1 rfl T.mTag T.kTag bG .nil pass0 (pa_cons (pe_op op_mod (pe_call GC hr1 rfl T.mCell T.kCell bC .nil pass0 (pa_cons (pv 0) (pa_cons pe_int pa_nil))) (pe_op op_pow pe_int pe_int)) pa_nil))
          (pa_cons (pe_tup (pa_cons (pe_tup (pa_cons pe_str (pa_cons pe_int pa_nil))) pa_nil)) pa_nil)))) (pa_cons (pe_tup (pa_cons pe_str (pa_cons (pv 1) (pa_cons (pe_tup pa_nil) pa_nil)))) pa_nil))))
      (C8.pss_cut (ps_if (pt_cmpR op_eq (pe_op op_mod (pe_call GC hr1 rfl T.mCell T.kCell bC .nil pass0 (pa_cons (pv 0) (pa_cons pe_int pa_nil))) pe_int) pe_int (nomark _))
        (pss_one (ps_set (i := 2) nd rfl (Or.inl rfl) (pe_lst (pa_cons (pe_tup (pa_cons pe_str (pa_cons (pv 1) (pa_cons (pe_tup pa_nil) pa_nil)))) pa_nil)))) pss_nil)
      (pss_cons (ps_set (i := 3) nd rfl (Or.inl rfl) (pe_tup (pa_cons pe_int (pa_cons (pe_tup (pa_cons (pe_tup (pa_cons pe_int (pa_cons (pv 1) (pa_cons (pe_callTy call_tuple_of (by rfl) T.tuple PyProof.Rows.boot_tuple (pa_cons (pv 2) pa_nil)) pa_nil)))) pa_nil)) pa_nil))))
      (pss_cons (ps_set (i := 4) nd rfl (Or.inl rfl) (pe_make T.mkC GI hr rfl T.mC bI .nil pass0 (pa_cons (pv 3) pa_nil)))
      (pss_cons (ps_set (i := 5) nd rfl (Or.inl rfl) (pe_make T.mkC GI hr rfl T.mC bI .nil pass0 (pa_cons (pv 3) pa_nil)))
      (pss_cons (ps_set (i := 6) nd rfl (Or.inl rfl) pe_int)
      (pss_cons (ps_set (i := 7) nd rfl (Or.inl rfl) pe_int)
      (pss_cons (ps_for PassesOwn.never rfl (pi_range1 rfl T.range (pa_cons (pe_op op_mod (pe_call GC hr1 rfl T.mCell T.kCell bC .nil pass0 (pa_cons (pv 0) (pa_cons pe_int pa_nil))) pe_int) pa_nil)) (pg_name (i := 8) nd rfl (Or.inl rfl))
        (pss_cons (ps_set (i := 9) nd rfl (Or.inl rfl) (pe_call GW hr2 rfl T.mWord T.kWord bW .nil pass0 (pa_cons (pv 0) (pa_cons (pv 8) (pa_cons (pv 1) pa_nil)))))
        (pss_cons (ps_set (i := 10) nd rfl (Or.inl rfl) (pe_meth0 (pv 4) T.cl T.meOwed GO hr1 bO .nil pass0))
        (C8.pss_cut (ps_set (i := 11) nd rfl (Or.inl rfl) (pe_call GD hr4 rfl T.mTold T.kTold bD .nil pass0 (pa_cons (pv 4) (pa_cons (pv 9) (pa_cons
          (pe_op op_mod (pe_op op_add (pv 8) (pe_op op_fdiv (pe_call GC hr1 rfl T.mCell T.kCell bC .nil pass0 (pa_cons (pv 0) (pa_cons pe_int pa_nil))) pe_int)) pe_int) pa_nil)))))
        (C8.pss_cut (ps_if (PW.pt (pw_or (pt_val (pe_call GS hr1 rfl T.mIsT T.kIsT bS .nil pass0 (pa_cons (pv 9) pa_nil))) (pw_or1 (PW.pt (pw_and (pt_cmpR op_eq (pv 9) pe_str (nomark _)) (pw_and1 (pt_cmpR op_gt (pv 7) pe_int (nomark _))))))))
          (pss_cons (ps_if (PW.pt (pw_or (pt_cmpR op_ne (pe_ix ix_tup (pv 11) pe_int fun _ _ => rfl) pe_str (nomark _)) (pw_or1 (pt_cmpR (op_neT hr.units) (pe_ix ix_tup (pv 11) pe_int fun _ _ => rfl) (pe_meth (pv 5) T.cl T.meTake GT hr3 bT .nil passL (pa_cons (pv 9) pa_nil)) (nomark _))))) (pss_one (ps_ret pe_bl)) pss_nil)
          (pss_cons (ps_set (i := 6) nd rfl (Or.inl rfl) (pe_op op_add (pv 6) pe_int))
          (pss_one (ps_set (i := 7) nd rfl (Or.inl rfl) (pe_op op_sub (pe_op op_add (pv 7) pe_int) (pe_op op_mul pe_int (pe_callTy call_int1 (by rfl) T.int (by decide +kernel) (pa_cons (pe_cmpR op_eq (pv 9) pe_str (nomark _)) pa_nil))))))))
          (pss_cons (ps_if (PW.pt (pw_or (pt_cmpR op_ne (pe_ix ix_tup (pv 11) pe_int fun _ _ => rfl) pe_str (nomark _)) (pw_or (pt_not (pt_val (pe_call GE hr1 rfl T.mWhole T.kWhole bE .nil pass0 (pa_cons (pe_ix ix_tup (pv 11) pe_int fun _ _ => rfl) (pa_cons (pv 6) pa_nil)))))
              (pw_or1 (pt_cmpR op_isnot_bl (pe_ix ix_tup (pv 11) pe_int fun _ _ => rfl) pe_bl (nomark _)))))) (pss_one (ps_ret pe_bl)) pss_nil)
          (pss_one (ps_if (pt_cmpR (op_neT hr.units) (pe_meth0 (pv 4) T.cl T.meOwed GO hr1 bO .nil pass0) (pv 10) (nomark _)) (pss_one (ps_ret pe_bl)) pss_nil))))
        (pss_one (ps_if (pt_not (pt_val (pe_call GE hr1 rfl T.mWhole T.kWhole bE .nil pass0 (pa_cons (pe_meth0 (pv 4) T.cl T.meHt GH hr1 bH .nil pass0) (pa_cons (pv 7) pa_nil))))) (pss_one (ps_ret pe_bl)) pss_nil)))))))
      (pss_one (ps_ret (pe_cmpR (op_eqT hr.units) (pe_meth0 (pv 4) T.cl T.meOwed GO hr1 bO .nil pass0) (pe_meth0 (pv 5) T.cl T.meOwed GO hr1 bO .nil pass0) (nomark _)))))))))))), ?_⟩
    -- the tag, the parts
    have pz : ∀ z : Int, 0 ≤ z % 1000000000 ∧ z % 1000000000 < 1000000000 := fun z => ⟨Int.emod_nonneg _ (by decide), Int.emod_lt_of_pos _ (by decide)⟩
    refine ⟨_, rfl, l, ns, 0, rfl, hS, hl, by decide, by decide, fun z0 => ?_⟩
    refine ⟨_, _, rfl, rfl, ⟨by decide, by decide, by decide⟩, _, _, rfl, rfl, (by show (0 : Int) < 10 ^ (9 : Int).toNat; decide), ?_⟩
    rw [e9]
    refine ⟨_, rfl, (pz z0).1, (pz z0).2, fun H1 tag e1 htag => ?_⟩
    refine ⟨_, rfl, l, ns, 1, rfl, e1.seq hS, hl, by decide, by decide, fun z1 => ?_⟩
    refine ⟨_, _, rfl, rfl, ⟨by decide, by decide, by decide⟩, _, _, rfl, rfl, (by show (0 : Int) < 10 ^ (9 : Int).toNat; decide), ?_⟩
    rw [e9]
    refine ⟨_, rfl, (pz z1).1, (pz z1).2, fun H2 t1 e2 ht1 => ?_⟩
    refine ⟨(by show 2 ≤ sizeLine; decide), fun kk nk => ⟨(by show 1 ≤ sizeLine; decide), fun c1 n1 => ⟨(by show 3 ≤ sizeLine; decide), fun b1 nb1 => ?_⟩⟩⟩
    refine ⟨_, rfl, Nat.zero_le _, fun c2 n2 => ⟨(by show 3 ≤ sizeLine; decide), fun b2 nb2 => ⟨(by show 2 ≤ sizeLine; decide), fun pl npl => ?_⟩⟩⟩
    have f1 := same_upd (o := .tup [.str "kids", .int 0]) nk
    have f2 := same_upd (o := .tup [.ref kk]) n1
    have f3 := same_upd (o := .tup [.str "tag", .str t1, .ref c1]) nb1
    have f4 := same_upd (o := .tup []) n2
    have f5 := same_upd (o := .tup [.str "tag", .str tag, .ref c2]) nb2
    have f6 := same_upd (o := .lst [.ref b1, .ref b2]) npl
    have f56 := f5.trans f6
    have f46 := f4.trans f56
    have f36 := f3.trans f46
    have f26 := f2.trans f36
    have f16 := f1.trans f26
    have e6 := (e1.trans e2).trans f16
    refine ⟨fun σ' H' => ∃ (pl : Addr) (xs : List V) (ps : Parts), Same H H' ∧ H' pl = some (.lst xs) ∧ xs.length ≤ 2 ∧ Paired (PartAt H') xs ps ∧ manyK ps < 2 ∧ ps.length ≤ 2 ∧
      σ' = [some (.ref l), some (.str tag), some (.ref pl), none, none, none, none, none, none, none, none, none], ?_, ?_⟩
    · refine ⟨_, rfl, l, ns, 2, rfl, e6.seq hS, hl, by decide, by decide, fun z2 => ⟨_, _, rfl, rfl, (by show (0 : Int) < 3; decide), rfl, _, rfl, ite2 (fun _ => ?_) (fun _ => ?_)⟩⟩
      · refine ⟨_, rfl, Nat.zero_le _, fun c3 n3 => ⟨(by show 3 ≤ sizeLine; decide), fun b3 nb3 => ⟨(by show 1 ≤ sizeLine; decide), fun pm npm => ?_⟩⟩⟩
        have g1 := same_upd (o := .tup []) n3
        have g2 := same_upd (o := .tup [.str "tag", .str tag, .ref c3]) nb3
        have g3 := same_upd (o := .lst [.ref b3]) npm
        exact ⟨pm, [.ref b3], [(tag, false)], e6.trans (g1.trans (g2.trans g3)), upd_same, by simp, .cons ⟨b3, c3, rfl, g3 _ _ upd_same, g3 _ _ (g2 _ _ upd_same)⟩ .nil, by show ([(0 : Int)]).sum < 2; decide, by simp, rfl⟩
      · exact ⟨pl, [.ref b1, .ref b2], [(t1, true), (tag, false)], e6, upd_same, by simp, .cons ⟨b1, c1, rfl, f46 _ _ upd_same, kk, f36 _ _ upd_same, f26 _ _ upd_same⟩ (.cons ⟨b2, c2, rfl, f6 _ _ upd_same, f56 _ _ upd_same⟩ .nil), by show ([(1 : Int), 0]).sum < 2; decide, by simp, rfl⟩
    · rintro σ' H3 ⟨pl, xs, ps, e3, hpl, hx2, hps, hm, hp2, rfl⟩
      -- the recipe
      refine ⟨_, rfl, _, rfl, pl, xs, rfl, .inl ⟨SqL.of hpl, fun pp npp => ⟨(by show 3 ≤ sizeLine; decide), fun r nr => ⟨(by show 1 ≤ sizeLine; decide), fun rs nrs => ⟨(by show 2 ≤ sizeLine; decide), fun rc nrc => ?_⟩⟩⟩⟩⟩
      have h1 := same_upd (o := .tup xs) npp
      have h2 := same_upd (o := .tup [.int 0, .str tag, .ref pp]) nr
      have h3 := same_upd (o := .tup [.ref r]) nrs
      have h4 := same_upd (o := .tup [.int 1, .ref rs]) nrc
      have h34 := h3.trans h4
      have h24 := h2.trans h34
      have h14 := h1.trans h24
      have e4 := e3.trans h14
      generalize eH4 : upd (upd (upd (upd H3 pp (.tup xs)) r (.tup [.int 0, .str tag, .ref pp])) rs (.tup [.ref r])) rc (.tup [.int 1, .ref rs]) = H4 at *
      have hch : ChangerAt H4 rc tag ps := ⟨rs, r, pp, by rw [← eH4]; exact upd_same, h4 _ _ upd_same, h34 _ _ upd_same, xs, h24 _ _ upd_same, hx2, Paired.mapP hps fun _ _ q => q.same h14⟩
      -- the two streams
      refine ⟨_, rfl, fun x1 dx1 nx1 ndx1 ne1 => ?_⟩
      have i1 := same_upd (o := .own x1) ndx1
      have nx1' : upd H4 dx1 (.own x1) x1 = none := (upd_ne ne1.symm).trans nx1
      have i2 := i1.trans (same_upd (o := .ins a.C dx1 []) nx1')
      refine ⟨x1, rc, dx1, tag, ps, rfl, upd_same, hch.same i2, hm, fun H5 A1 pA1 only1 st1 fr1 => ⟨rfl, ?_⟩⟩
      have e45 : Same H4 H5 := fun b o q => only1 b o (by
        intro z
        rw [List.mem_singleton.mp z, nx1] at q
        cases q) (i2 _ _ q)
      have fA1 : ∀ b ∈ A1.all, H4 b = none := fun b hb => by
        rcases fr1 b hb with q | q
        · rw [q]; exact nx1
        · exact i2.free q
      refine ⟨_, rfl, fun x2 dx2 nx2 ndx2 ne2 => ?_⟩
      have j1 := same_upd (o := .own x2) ndx2
      have nx2' : upd H5 dx2 (.own x2) x2 = none := (upd_ne ne2.symm).trans nx2
      have j2 := j1.trans (same_upd (o := .ins a.C dx2 []) nx2')
      refine ⟨x2, rc, dx2, tag, ps, rfl, upd_same, (hch.same e45).same j2, hm, fun H6 A2 pA2 only2 st2 fr2 => ⟨rfl, ?_⟩⟩
      have e56 : Same H5 H6 := fun b o q => only2 b o (by
        intro z
        rw [List.mem_singleton.mp z, nx2] at q
        cases q) (j2 _ _ q)
      have fA2 : ∀ b ∈ A2.all, H5 b = none := fun b hb => by
        rcases fr2 b hb with q | q
        · rw [q]; exact nx2
        · exact j2.free q
      have ap12 : ∀ b ∈ A1.all, b ∉ A2.all := fun b hb hB => by
        obtain ⟨o, ho⟩ := st1.some b hb
        rw [fA2 b hB] at ho
        cases ho
      have eH6 := e4.trans (e45.trans e56)
      have lens := cutP_len hp2
      have inv0 : LInv a.C H l pl rc tag ⟨tag, cutP ps⟩ 0 (nSt l pl rc x1 x2 tag 0 0 none none none none) H6 :=
        ⟨A1, A2, ⟨[true], [], 0⟩, none, none, none, none, st1.same e56, st2, ap12, ⟨rfl, Nat.le_refl _, (fun _ q => by cases q), Nat.le_trans lens.1 (by decide), Nat.le_trans lens.2 (by decide)⟩, eH6, fun b hb => e4.free (fA1 b hb), fun b hb => (e4.trans e45).free (fA2 b hb), by rw [pA1, pA2]; rfl⟩
      refine ⟨_, rfl, l, ns, 3, rfl, eH6.seq hS, hl, by decide, by decide, fun z3 => ⟨_, _, rfl, rfl, (by show (0 : Int) < 31; decide), ?_⟩⟩
      have r0 : 0 ≤ z3 % 31 := Int.emod_nonneg _ (by decide)
      have r1 : z3 % 31 < 31 := Int.emod_lt_of_pos _ (by decide)
      refine ⟨_, rfl, by omega, by omega, for_range (lo := 0) (n := (z3 % 31).toNat) (LInv a.C H l pl rc tag ⟨tag, cutP ps⟩) inv0 ?_ ?_⟩
      · rintro i σ H7 hi ⟨B1, B2, s, v8, v9, v10, v11, sb1, sb2, ap, gd, e7, fB1, fB2, rfl⟩
        have g40 : Good ⟨tag, cutP ps⟩ s 40 := gd.mono (by omega)
        have nof : ∀ (A : SA) (u : Nat) {g : Str}, ¬ g = "rules" → ¬ g = "modes" → ¬ g = "owing" → ¬ g = "taken" → (fsOf A.d A.m A.o u).lookup g = none := fun A u {g} q1 q2 q3 q4 => fs_no _ _ _ _ q1 q2 q3 q4
        have noO : ∀ (A : SA) (u : Nat), (fsOf A.d A.m A.o u).lookup ("owed" : Str) = none := fun A u => nof A u (by decide +kernel) (by decide +kernel) (by decide +kernel) (by decide +kernel)
        have noT : ∀ (A : SA) (u : Nat), (fsOf A.d A.m A.o u).lookup ("take" : Str) = none := fun A u => nof A u (by decide +kernel) (by decide +kernel) (by decide +kernel) (by decide +kernel)
        have noH : ∀ (A : SA) (u : Nat), (fsOf A.d A.m A.o u).lookup ("height" : Str) = none := fun A u => nof A u (by decide +kernel) (by decide +kernel) (by decide +kernel) (by decide +kernel)
        refine ⟨_, rfl, _, rfl, _, rfl, l, ns, _, tag, rfl, e7.seq hS, hl, by omega, by omega, htag, fun H8 z e8 hz => ?_⟩
        have hz1 : z.length ≤ 1000 := Nat.le_trans hz (by decide)
        have s81 := sb1.same e8
        obtain ⟨dy1, hy1⟩ := s81.p
        refine ⟨_, rfl, B1.p, dy1, _, rfl, hy1, noO _ _, _, B1, s, rfl, s81, g40, fun H9 o1 e9 no1 ho1 => ?_⟩
        have e79 := e8.trans e9
        have eH9 := e7.trans e79
        -- behind told
        refine ⟨fun σ' H' => ∃ q : Addr, Same H H' ∧ ListAt H' o1 s.ow.flatten ∧ σ' = nSt l pl rc B1.p B2.p tag s.tk s.ow.length (some (.int (0 + (i : Int)))) (some (.str z)) (some (.ref o1)) (some (.ref q)) ∧ StAt H' a.C ⟨tag, cutP ps⟩ B2 s ∧
          ((stepSt ⟨tag, cutP ps⟩ s z = none ∧ StAt H' a.C ⟨tag, cutP ps⟩ B1 s ∧ H' q = some (.tup [.str "refused", .int (s.tk : Int), .bl true])) ∨
            ∃ (s' : Sst) (ws : List Str) (C1 : SA) (x : Addr), stepSt ⟨tag, cutP ps⟩ s z = some (s', ws) ∧ StAt H' a.C ⟨tag, cutP ps⟩ C1 s' ∧ C1.p = B1.p ∧ (∀ b ∈ C1.all, b ∉ B2.all) ∧ (∀ b ∈ C1.all, H b = none) ∧ ListAt H' x ws ∧ x ∉ B2.all ∧ H' q = some (.tup [.str "came", .ref x])), ?_, ?_⟩
        · refine ⟨_, rfl, _, rfl, _, rfl, _, rfl, l, ns, 2, rfl, eH9.seq hS, hl, by decide, by decide, fun z4 => ⟨_, _, rfl, rfl, ⟨by decide, by decide⟩, _, _, rfl, rfl, _, _, rfl, rfl, (by show (0 : Int) < 2; decide), ?_⟩⟩
          refine ⟨_, B1, s, z, _, rfl, s81.same e9, g40, hz1, fun hst H10 q e10 nq => ?_, fun s' ws hst H10 C1 x q only pC stN fr hx nxC hlx nq => ?_⟩
          · have eq := same_upd (o := .tup [.str "refused", .int (s.tk : Int), .bl true]) nq
            have e10q := e10.trans eq
            exact ⟨q, eH9.trans e10q, e10q _ _ ho1, rfl, (sb2.same e79).same e10q, .inl ⟨hst, (s81.same e9).same e10q, upd_same⟩⟩
          · have eq := same_upd (o := .tup [.str "came", .ref x]) nq
            have st2 := (sb2.same e79)
            have st2' := apart_keep st2 ap only
            have eH10 := only_same eH9 only fB1
            have no1H : H o1 = none := (e7.trans e8).free no1
            have o1B : o1 ∉ B1.all := fun hb => by
              obtain ⟨o, ho⟩ := s81.some o1 hb
              rw [no1] at ho
              cases ho
            refine ⟨q, eH10.trans eq, eq _ _ (only _ _ o1B ho1), rfl, st2'.same eq, .inr ⟨s', ws, C1, x, hst, stN.same eq, pC, fresh_apart st2 ap fr, fun b hb => ?_, eq _ _ hlx, fun hb => ?_, upd_same⟩⟩
            · rcases fr b hb with q | q
              · exact fB1 b q
              · exact eH9.free q
            · rcases hx with q | q
              · exact ap x q hb
              · obtain ⟨o, ho⟩ := st2.some x hb
                rw [q] at ho
                cases ho
        · rintro σ' H11 ⟨q, e11, hk, rfl, st2, hcase⟩
          refine ⟨LInv a.C H l pl rc tag ⟨tag, cutP ps⟩ (i + 1), ?_, ?_⟩
          · refine ⟨_, rfl, z, rfl, hz1, fun H12 e12 => ⟨tagB z, rfl, ?_⟩⟩
            rcases hcase with ⟨hst, st1, hq⟩ | ⟨s', ws, C1, x, hst, st1, pC, apC, fC, hx, nxB, hq⟩
            · obtain ⟨n1, n2⟩ := step_no hst
              rw [n1]
              have hq' := e12 _ _ hq
              have st1' := st1.same e12
              obtain ⟨dy, hy⟩ := st1'.p
              refine iteF ⟨_, rfl, rfl, _, rfl, ite2 (fun c => ⟨_, rfl, _, _, rfl, rfl, _, rfl, ite2 (fun c2 => absurd ⟨V.str.inj (of_decide_eq_true c), by have := of_decide_eq_true c2; omega⟩ n2) (fun _ => ?_)⟩) (fun _ => ?_)⟩
              all_goals
                refine ⟨_, rfl, q, _, _, _, rfl, rfl, SqT.of hq', rfl, rfl, _, rfl, iteNS rfl ?_⟩
                refine ⟨_, rfl, q, _, _, _, rfl, rfl, SqT.of hq', rfl, _, rfl, _, _, rfl, _, rfl, iteNS rfl ?_⟩
                refine ⟨_, rfl, q, _, _, _, rfl, rfl, SqT.of hq', rfl, true, true, rfl, rfl, _, rfl, ?_⟩
                refine iteNS rfl ?_
                refine ⟨_, rfl, B1.p, dy, _, rfl, hy, noO _ _, _, B1, s, rfl, st1', g40, fun H13 o2 e13 no2 ho2 => ?_⟩
                refine ⟨_, rfl, o2, o1, _, rfl, rfl, SqL.of ho2, SqL.of (e13 _ _ (e12 _ _ hk)), false, rfl, iteF ?_⟩
                exact ⟨B1, B2, s, _, _, _, _, st1'.same e13, (st2.same e12).same e13, ap, gd.mono (Nat.le_succ _), e11.trans (e12.trans e13), fB1, fB2, rfl⟩
            · obtain ⟨htk, hdir⟩ := step_some hst
              have hop : (s.ow.length : Int) + 1 - 2 * (if decide (V.str z = V.str slash) = true then (1 : Int) else 0) = (s'.ow.length : Int) := by
                rcases hdir with ⟨_, nz, hl⟩ | ⟨_, ez, _, hl⟩
                · rw [decide_eq_false fun q => nz (V.str.inj q), if_neg (by decide)]
                  omega
                · rw [ez, decide_eq_true rfl, if_pos rfl]
                  omega
              have hq' := e12 _ _ hq
              have st2' := st2.same e12
              obtain ⟨dy, hy⟩ := st2'.p
              rcases hdir with ⟨n1, _, _⟩ | ⟨n1, ez, hpos, _⟩
              rw [n1]
              refine iteT (iteT ?_)
              rotate_left
              rw [n1]
              refine iteF ⟨_, rfl, rfl, _, rfl, ite2 (fun _ => ⟨_, rfl, _, _, rfl, rfl, _, rfl, ite2 (fun _ => ?_) (fun c => absurd (decide_eq_true (by omega)) c)⟩) (fun c => absurd (decide_eq_true (by rw [ez])) c)⟩
              all_goals
                refine ⟨_, rfl, q, _, _, _, rfl, rfl, SqT.of hq', rfl, rfl, _, rfl, iteNS rfl ?_⟩
                refine ⟨_, rfl, q, _, _, _, rfl, rfl, SqT.of hq', rfl, _, rfl, B2.p, dy, _, rfl, hy, noT _ _, _, rfl, _, B2, s, z, rfl, st2', g40, hz1, (fun hn => by rw [hst] at hn; cases hn), fun s2 ws2 hst2 H13 C2 x2 only2 p2 stB2 fr2 hx2 nx2 hlx2 => ?_⟩
                have hss := Option.some.inj (hst.symm.trans hst2)
                cases hss
                have ap21 : ∀ b ∈ B2.all, b ∉ C1.all := fun b hb hc => apC b hc hb
                have st1' := st1.same e12
                have sx := only2 _ _ nxB (e12 _ _ hx)
                refine ⟨x, x2, ws, rfl, rfl, SqL.of sx, SqL.of hlx2, false, rfl, iteF ?_⟩
                refine ⟨_, rfl, _, _, rfl, rfl, ?_⟩
                refine ⟨_, rfl, _, _, rfl, rfl, _, rfl, rfl, .inr ⟨_, rfl, _, _, rfl, rfl, cmul (by decide) (by decide), _, _, rfl, rfl, ?_⟩⟩
                have e12H := e11.trans e12
                refine ⟨C1, C2, s', some (.int (0 + (i : Int))), some (.str z), some (.ref o1), some (.ref q), apart_keep st1' ap21 only2, stB2, fun b hb hc => fresh_apart st1' ap21 fr2 b hc hb, gd.step hst, only_same e12H only2 fB2, fC, fun b hb => ?_, ?_⟩
                · rcases fr2 b hb with y | y
                  · exact fB2 b y
                  · exact e12H.free y
                · rw [pC, p2]
                  unfold nSt
                  rw [← hop, htk]
                  rfl
          · rintro σ' H12 ⟨C1, C2, s', w8, w9, w10, w11, sc1, sc2, apC, gC, eC, fC1, fC2, rfl⟩
            obtain ⟨dy, hy⟩ := sc1.p
            refine ⟨_, rfl, C1.p, dy, _, rfl, hy, noH _ _, _, C1, s', rfl, sc1, _, rfl, _, _, rfl, _, rfl, iteNS rfl ?_⟩
            exact ⟨C1, C2, s', w8, w9, w10, w11, sc1, sc2, apC, gC, eC, fC1, fC2, rfl⟩
      · rintro σ H7 ⟨B1, B2, s, v8, v9, v10, v11, sb1, sb2, _, gd, e7, _, _, rfl⟩
        obtain ⟨dy1, hy1⟩ := sb1.p
        have g40 : Good ⟨tag, cutP ps⟩ s 40 := gd.mono (by omega)
        refine ⟨_, rfl, B1.p, dy1, _, rfl, hy1, fs_no _ _ _ _ (by decide +kernel) (by decide +kernel) (by decide +kernel) (by decide +kernel), _, B1, s, rfl, sb1, g40, fun H8 o1 e8 no1 ho1 => ?_⟩
        have sb2' := sb2.same e8
        obtain ⟨dy2, hy2⟩ := sb2'.p
        refine ⟨_, rfl, B2.p, dy2, _, rfl, hy2, fs_no _ _ _ _ (by decide +kernel) (by decide +kernel) (by decide +kernel) (by decide +kernel), _, B2, s, rfl, sb2', g40, fun H9 o2 e9 no2 ho2 => ?_⟩
        exact ⟨o1, o2, s.ow.flatten, rfl, rfl, SqL.of (e9 _ _ ho1), SqL.of ho2, hQ _⟩
end
end Fg

namespace Fg
open PySem L2 FgR
theorem kit_type {K : PySem.W.Frag} {D : Addr} {T : String} {b : Bool} (hm : PySem.W.kitMeta T = true) (h : PySem.W.subIn K (.ref D) (.type T) = some b) : PySem.W.kitOne K (.ref D) (.type T) = some b := by
  unfold PySem.W.kitOne PySem.W.kitCls
  have e : (Value.ref D == Value.type T) = false := by
    rw [beq_eq_false_iff_ne]
    exact fun z => nomatch z
  rw [e, if_neg (by decide)]
  show (if PySem.W.kitMeta T = true then _ else _) = _
  rw [if_pos hm]
  exact h
theorem kit_other {K : PySem.W.Frag} {D S : Addr} (h1 : PySem.W.isClsIn K S = true) (h2 : PySem.W.typeIn K (.ref S) = some (.type "type")) (h : PySem.W.subIn K (.ref D) (.ref S) = some false) (hs : PySem.W.subIn K (.ref D) (.ref D) = some true) :
    PySem.W.kitOne K (.ref D) (.ref S) = some false := by
  have ne : D ≠ S := fun z => by
    rw [← z, hs] at h
    cases h
  unfold PySem.W.kitOne PySem.W.kitCls
  have e : (Value.ref D == Value.ref S) = false := by
    rw [beq_eq_false_iff_ne]
    exact fun z => ne (Value.ref.inj z)
  have h1' : (PySem.W.clsIn K S).isSome = true := h1
  rw [e, if_neg (by decide)]
  show (if ((PySem.W.clsIn K S).isSome && PySem.W.typeIn K (.ref S) == some (.type "type")) = true then _ else _) = _
  rw [h1', h2, if_pos (by rfl)]
  exact h
theorem kit_self {K : PySem.W.Frag} {D : Addr} : PySem.W.kitOne K (.ref D) (.ref D) = some true := by
  unfold PySem.W.kitOne
  rw [if_pos (by simp)]

theorem all_mk {l : PySem.W.OpenLaw} {w : World} {K : PySem.W.Frag} {h : Heap} {mg : Str → Option Value} {fa CG CN CS C fNG fisTag fkids fstr fspell fcut finit ftake fent fht fowed fcell ftag fspoil fword fisT ftold fwhole flaw : Addr} (X : K.In h) (G : h.Ns mainGlobals mg) (hfa : mg "law" = some (.ref fa))
    {od0 an0 od1 an1 od2 an2 od3 an3 od4 an4 od5 an5 od6 an6 od7 an7 od8 an8 od9 an9 od10 an10 od11 an11 od12 an12 od13 an13 od14 an14 od15 an15 od16 an16 od17 an17 od18 an18 : Option Addr} {sl0 sl1 sl2 sl3 sl4 sl5 sl6 sl7 sl8 sl9 sl10 sl11 sl12 sl13 sl14 sl15 sl16 sl17 sl18 : Array (Option Value)} {oc0 kV0 dc0 pm0 cd0 ct0 oc1 kV1 dc1 pm1 cd1 ct1 oc2 kV2 dc2 pm2 cd2 ct2 oc3 kV3 dc3 pm3 cd3 ct3 oc4 kV4 dc4 pm4 cd4 ct4 oc5 kV5 dc5 pm5 cd5 ct5 oc6 kV6 dc6 pm6 cd6 ct6 oc7 kV7 dc7 pm7 cd7 ct7 oc8 kV8 dc8 pm8 cd8 ct8 oc9 kV9 dc9 pm9 cd9 ct9 oc10 kV10 dc10 pm10 cd10 ct10 oc11 kV11 dc11 pm11 cd11 ct11 oc12 kV12 dc12 pm12 cd12 ct12 oc13 kV13 dc13 pm13 cd13 ct13 oc14 kV14 dc14 pm14 cd14 ct14 oc15 kV15 dc15 pm15 cd15 ct15 oc16 kV16 dc16 pm16 cd16 ct16 oc17 kV17 dc17 pm17 cd17 ct17 oc18 kV18 dc18 pm18 cd18 ct18 : Value}
    {tL tE : Tok} {nm qn : Str} {Nn : Addr} {bs : List Value} {sn : List Str} {sub : List Value} {ab : Bool} {col : Option Bool} {dd : Option Addr} {m0 m1 m2 m3 m5 : Option Value}
    (aCG : PySem.W.nsIn K mainGlobals "GroveError" = some (some (.ref CG)))
    (aCN : PySem.W.nsIn K mainGlobals "NoGrove" = some (some (.ref CN)))
    (aCS : PySem.W.nsIn K mainGlobals "NotStraight" = some (some (.ref CS)))
    (aC : PySem.W.nsIn K mainGlobals "Stream" = some (some (.ref C)))
    (aLET : PySem.W.nsIn K mainGlobals "LETTERS" = some (some (.str abc tL)))
    (aEND : PySem.W.nsIn K mainGlobals "END" = some (some (.str slash tE)))
    (zlen : PySem.W.nsIn K mainGlobals "len" = some none)
    (zall : PySem.W.nsIn K mainGlobals "all" = some none)
    (zisi : PySem.W.nsIn K mainGlobals "isinstance" = some none)
    (ztuple : PySem.W.nsIn K mainGlobals "tuple" = some none)
    (zlist : PySem.W.nsIn K mainGlobals "list" = some none)
    (zrev : PySem.W.nsIn K mainGlobals "reversed" = some none)
    (zrange : PySem.W.nsIn K mainGlobals "range" = some none)
    (zint : PySem.W.nsIn K mainGlobals "int" = some none)
    (zbool : PySem.W.nsIn K mainGlobals "bool" = some none)
    (zVE : PySem.W.nsIn K mainGlobals "ValueError" = some none)
    (pNG : PySem.W.findIn K (.ref CN) "__init__" = some (some (.ref fNG)))
    (lNG : K.lookup fNG = some ⟨oc0, od0, .func (PySem.W.fnOf "__init__" "NoGrove.__init__" (defArgs sNG) (defBody sNG) (defScope sNG) .none kV0 dc0 pm0 an0 cd0 ct0), sl0⟩)
    (cNG : PySem.W.codeIn K cd0 "NoGrove.__init__" = true)
    (kNG : PySem.W.keepIn K (.ref fNG) = true)
    (pisTag : PySem.W.nsIn K mainGlobals "is_tag" = some (some (.ref fisTag)))
    (lisTag : K.lookup fisTag = some ⟨oc1, od1, .func (PySem.W.fnOf "is_tag" "is_tag" (defArgs sIsTag) (defBody sIsTag) (defScope sIsTag) .none kV1 dc1 pm1 an1 cd1 ct1), sl1⟩)
    (cisTag : PySem.W.codeIn K cd1 "is_tag" = true)
    (kisTag : PySem.W.keepIn K (.ref fisTag) = true)
    (pkids : PySem.W.nsIn K mainGlobals "kids_in" = some (some (.ref fkids)))
    (lkids : K.lookup fkids = some ⟨oc2, od2, .func (PySem.W.fnOf "kids_in" "kids_in" (defArgs sKids) (defBody sKids) (defScope sKids) .none kV2 dc2 pm2 an2 cd2 ct2), sl2⟩)
    (ckids : PySem.W.codeIn K cd2 "kids_in" = true)
    (kkids : PySem.W.keepIn K (.ref fkids) = true)
    (pstr : PySem.W.nsIn K mainGlobals "straight" = some (some (.ref fstr)))
    (lstr : K.lookup fstr = some ⟨oc3, od3, .func (PySem.W.fnOf "straight" "straight" (defArgs sStr) (defBody sStr) (defScope sStr) .none kV3 dc3 pm3 an3 cd3 ct3), sl3⟩)
    (cstr : PySem.W.codeIn K cd3 "straight" = true)
    (kstr : PySem.W.keepIn K (.ref fstr) = true)
    (pspell : PySem.W.nsIn K mainGlobals "spelled" = some (some (.ref fspell)))
    (lspell : K.lookup fspell = some ⟨oc4, od4, .func (PySem.W.fnOf "spelled" "spelled" (defArgs sSpell) (defBody sSpell) (defScope sSpell) .none kV4 dc4 pm4 an4 cd4 ct4), sl4⟩)
    (cspell : PySem.W.codeIn K cd4 "spelled" = true)
    (kspell : PySem.W.keepIn K (.ref fspell) = true)
    (pcut : PySem.W.nsIn K mainGlobals "cut_at_kids" = some (some (.ref fcut)))
    (lcut : K.lookup fcut = some ⟨oc5, od5, .func (PySem.W.fnOf "cut_at_kids" "cut_at_kids" (defArgs sCut) (defBody sCut) (defScope sCut) .none kV5 dc5 pm5 an5 cd5 ct5), sl5⟩)
    (ccut : PySem.W.codeIn K cd5 "cut_at_kids" = true)
    (kcut : PySem.W.keepIn K (.ref fcut) = true)
    (pinit : PySem.W.findIn K (.ref C) "__init__" = some (some (.ref finit)))
    (iinit : PySem.W.isFn K (.ref finit) = true)
    (linit : K.lookup finit = some ⟨oc6, od6, .func (PySem.W.fnOf "__init__" "Stream.__init__" (defArgs sInit) (defBody sInit) (defScope sInit) .none kV6 dc6 pm6 an6 cd6 ct6), sl6⟩)
    (cinit : PySem.W.codeIn K cd6 "Stream.__init__" = true)
    (kinit : PySem.W.keepIn K (.ref finit) = true)
    (ptake : PySem.W.findIn K (.ref C) "take" = some (some (.ref ftake)))
    (itake : PySem.W.isFn K (.ref ftake) = true)
    (ltake : K.lookup ftake = some ⟨oc7, od7, .func (PySem.W.fnOf "take" "Stream.take" (defArgs sTake) (defBody sTake) (defScope sTake) .none kV7 dc7 pm7 an7 cd7 ct7), sl7⟩)
    (ctake : PySem.W.codeIn K cd7 "Stream.take" = true)
    (ktake : PySem.W.keepIn K (.ref ftake) = true)
    (pent : PySem.W.findIn K (.ref C) "entered" = some (some (.ref fent)))
    (ient : PySem.W.isFn K (.ref fent) = true)
    (lent : K.lookup fent = some ⟨oc8, od8, .func (PySem.W.fnOf "entered" "Stream.entered" (defArgs sEnt) (defBody sEnt) (defScope sEnt) .none kV8 dc8 pm8 an8 cd8 ct8), sl8⟩)
    (cent : PySem.W.codeIn K cd8 "Stream.entered" = true)
    (kent : PySem.W.keepIn K (.ref fent) = true)
    (pht : PySem.W.findIn K (.ref C) "height" = some (some (.ref fht)))
    (iht : PySem.W.isFn K (.ref fht) = true)
    (lht : K.lookup fht = some ⟨oc9, od9, .func (PySem.W.fnOf "height" "Stream.height" (defArgs sHt) (defBody sHt) (defScope sHt) .none kV9 dc9 pm9 an9 cd9 ct9), sl9⟩)
    (cht : PySem.W.codeIn K cd9 "Stream.height" = true)
    (kht : PySem.W.keepIn K (.ref fht) = true)
    (powed : PySem.W.findIn K (.ref C) "owed" = some (some (.ref fowed)))
    (iowed : PySem.W.isFn K (.ref fowed) = true)
    (lowed : K.lookup fowed = some ⟨oc10, od10, .func (PySem.W.fnOf "owed" "Stream.owed" (defArgs sOwed) (defBody sOwed) (defScope sOwed) .none kV10 dc10 pm10 an10 cd10 ct10), sl10⟩)
    (cowed : PySem.W.codeIn K cd10 "Stream.owed" = true)
    (kowed : PySem.W.keepIn K (.ref fowed) = true)
    (pcell : PySem.W.nsIn K mainGlobals "_law_cell" = some (some (.ref fcell)))
    (lcell : K.lookup fcell = some ⟨oc11, od11, .func (PySem.W.fnOf "_law_cell" "_law_cell" (defArgs sCell) (defBody sCell) (defScope sCell) .none kV11 dc11 pm11 an11 cd11 ct11), sl11⟩)
    (ccell : PySem.W.codeIn K cd11 "_law_cell" = true)
    (kcell : PySem.W.keepIn K (.ref fcell) = true)
    (ptag : PySem.W.nsIn K mainGlobals "_law_tag" = some (some (.ref ftag)))
    (ltag : K.lookup ftag = some ⟨oc12, od12, .func (PySem.W.fnOf "_law_tag" "_law_tag" (defArgs sTag) (defBody sTag) (defScope sTag) .none kV12 dc12 pm12 an12 cd12 ct12), sl12⟩)
    (ctag : PySem.W.codeIn K cd12 "_law_tag" = true)
    (ktag : PySem.W.keepIn K (.ref ftag) = true)
    (pspoil : PySem.W.nsIn K mainGlobals "_law_spoiled" = some (some (.ref fspoil)))
    (lspoil : K.lookup fspoil = some ⟨oc13, od13, .func (PySem.W.fnOf "_law_spoiled" "_law_spoiled" (defArgs sSpoil) (defBody sSpoil) (defScope sSpoil) .none kV13 dc13 pm13 an13 cd13 ct13), sl13⟩)
    (cspoil : PySem.W.codeIn K cd13 "_law_spoiled" = true)
    (kspoil : PySem.W.keepIn K (.ref fspoil) = true)
    (pword : PySem.W.nsIn K mainGlobals "_law_word" = some (some (.ref fword)))
    (lword : K.lookup fword = some ⟨oc14, od14, .func (PySem.W.fnOf "_law_word" "_law_word" (defArgs sWord) (defBody sWord) (defScope sWord) .none kV14 dc14 pm14 an14 cd14 ct14), sl14⟩)
    (cword : PySem.W.codeIn K cd14 "_law_word" = true)
    (kword : PySem.W.keepIn K (.ref fword) = true)
    (pisT : PySem.W.nsIn K mainGlobals "_law_is_tag" = some (some (.ref fisT)))
    (lisT : K.lookup fisT = some ⟨oc15, od15, .func (PySem.W.fnOf "_law_is_tag" "_law_is_tag" (defArgs sIsT) (defBody sIsT) (defScope sIsT) .none kV15 dc15 pm15 an15 cd15 ct15), sl15⟩)
    (cisT : PySem.W.codeIn K cd15 "_law_is_tag" = true)
    (kisT : PySem.W.keepIn K (.ref fisT) = true)
    (ptold : PySem.W.nsIn K mainGlobals "_law_told" = some (some (.ref ftold)))
    (ltold : K.lookup ftold = some ⟨oc16, od16, .func (PySem.W.fnOf "_law_told" "_law_told" (defArgs sTold) (defBody sTold) (defScope sTold) .none kV16 dc16 pm16 an16 cd16 ct16), sl16⟩)
    (ctold : PySem.W.codeIn K cd16 "_law_told" = true)
    (ktold : PySem.W.keepIn K (.ref ftold) = true)
    (pwhole : PySem.W.nsIn K mainGlobals "_law_whole" = some (some (.ref fwhole)))
    (lwhole : K.lookup fwhole = some ⟨oc17, od17, .func (PySem.W.fnOf "_law_whole" "_law_whole" (defArgs sWhole) (defBody sWhole) (defScope sWhole) .none kV17 dc17 pm17 an17 cd17 ct17), sl17⟩)
    (cwhole : PySem.W.codeIn K cd17 "_law_whole" = true)
    (kwhole : PySem.W.keepIn K (.ref fwhole) = true)
    (plaw : PySem.W.nsIn K mainGlobals "law" = some (some (.ref flaw)))
    (llaw : K.lookup flaw = some ⟨oc18, od18, .func (PySem.W.fnOf "law" "law" (defArgs sLaw) (defBody sLaw) (defScope sLaw) .none kV18 dc18 pm18 an18 cd18 ct18), sl18⟩)
    (claw : PySem.W.codeIn K cd18 "law" = true)
    (klaw : PySem.W.keepIn K (.ref flaw) = true)
    (pg : PySem.W.plainGet K C Str.empty = true)
    (hd : PySem.W.hasDictIn K C = true)
    (po : PySem.W.plainOver K C = true)
    (sa : PySem.W.findIn K (.ref C) "__setattr__" = some (some (.builtin "object.__setattr__")))
    (mk : PySem.W.makesIn K C = true)
    (kc : PySem.W.keepIn K (.ref C) = true)
    (nR : PySem.W.findIn K (.ref C) "rules" = some none)
    (nM : PySem.W.findIn K (.ref C) "modes" = some none)
    (nO : PySem.W.findIn K (.ref C) "owing" = some none)
    (nT : PySem.W.findIn K (.ref C) "taken" = some none)
    (xL : K.lookup CN = some (excClassObj nm qn CN Nn bs [.ref CG, .type "ValueError", .type "Exception", .type "BaseException", .type "object"] true sn sub ab col dd m0 m1 m2 m3 m5 "ValueError.__new__"))
    (saN : PySem.W.findIn K (.ref CN) "__setattr__" = some (some (.builtin "object.__setattr__")))
    (exN : PySem.W.subIn K (.ref CN) (.type "BaseException") = some true)
    (tyN : PySem.W.typeIn K (.ref CN) = some (.type "type"))
    (kN : PySem.W.keepIn K (.ref CN) = true)
    (tNG : PySem.W.typeIn K (.ref fNG) = some (.type "function"))
    (noP : PySem.W.findIn K (.ref CN) "place" = some none)
    (gaN : PySem.W.findIn K (.ref CN) "__getattribute__" = some (some (.builtin "BaseException.__getattribute__")))
    (ggN : PySem.W.findIn K (.ref CN) "__getattr__" = some none)
    (hdN : PySem.W.hasDictIn K CN = true)
    (caN : PySem.W.findIn K (.ref CN) "__class__" = some (some (.builtin "object.__class__")))
    (cnN : PySem.W.specialIn K (.builtin "object.__class__") "__get__" = some (some (.builtin "getset_descriptor.__get__")))
    (ctN : PySem.W.takesIn K (.builtin "object.__class__") = some true)
    (cmN : PySem.W.mroIn K CN (.type "object") = some true)
    (uNN : PySem.W.subIn K (.ref CN) (.ref CN) = some true)
    (uNG : PySem.W.subIn K (.ref CN) (.ref CG) = some true)
    (uNS : PySem.W.subIn K (.ref CN) (.ref CS) = some false)
    (uNV : PySem.W.subIn K (.ref CN) (.type "ValueError") = some true)
    (exG : PySem.W.subIn K (.ref CG) (.type "BaseException") = some true)
    (hdG : PySem.W.hasDictIn K CG = true)
    (tyG : PySem.W.typeIn K (.ref CG) = some (.type "type"))
    (icS : PySem.W.isClsIn K CS = true)
    (tyS : PySem.W.typeIn K (.ref CS) = some (.type "type"))
    (rdG : PySem.W.readsIn K CG (.type "type") = true)
    (spG : PySem.W.specialIn K (.ref CG) "__getattribute__" = some (some (.builtin "type.__getattribute__")))
    (vG : PySem.W.findCls K (.ref CG) (.type "type") "__init__" = some (.val (.builtin "ValueError.__init__")))
    : ∃ fd : FuncData, (∀ (s : Shared) (v : Value), BindsTo s fd ⟨[v], []⟩ [("_law_script", v)]) ∧ ∀ base : Heap, K.In base → base.Ns mainGlobals mg → FnOk l.prog w K mg base CX0 6 fa fd ["_law_script"] (spLawA K) := by
  have e := hfa.symm.trans (PySem.W.mg_of X G plaw)
  cases e
  have T : Txt K mg ⟨CG, CN, CS, C, fNG, fisTag, fkids, fstr, fspell, fcut, finit, ftake, fent, fht, fowed, fcell, ftag, fspoil, fword, fisT, ftold, fwhole⟩ :=
    { mCG := PySem.W.mg_of X G aCG,
      mCN := PySem.W.mg_of X G aCN,
      mCS := PySem.W.mg_of X G aCS,
      mC := PySem.W.mg_of X G aC,
      LET := ⟨tL, PySem.W.mg_of X G aLET⟩,
      END := ⟨tE, PySem.W.mg_of X G aEND⟩,
      len := PySem.W.mg_none_of X G zlen,
      all := PySem.W.mg_none_of X G zall,
      isi := PySem.W.mg_none_of X G zisi,
      tuple := PySem.W.mg_none_of X G ztuple,
      list := PySem.W.mg_none_of X G zlist,
      rev := PySem.W.mg_none_of X G zrev,
      range := PySem.W.mg_none_of X G zrange,
      int := PySem.W.mg_none_of X G zint,
      bool := PySem.W.mg_none_of X G zbool,
      VE := PySem.W.mg_none_of X G zVE,
      mIsTag := PySem.W.mg_of X G pisTag,
      kIsTag := kisTag,
      mKids := PySem.W.mg_of X G pkids,
      kKids := kkids,
      mStr := PySem.W.mg_of X G pstr,
      kStr := kstr,
      mSpell := PySem.W.mg_of X G pspell,
      kSpell := kspell,
      mCut := PySem.W.mg_of X G pcut,
      kCut := kcut,
      mCell := PySem.W.mg_of X G pcell,
      kCell := kcell,
      mTag := PySem.W.mg_of X G ptag,
      kTag := ktag,
      mSpoil := PySem.W.mg_of X G pspoil,
      kSpoil := kspoil,
      mWord := PySem.W.mg_of X G pword,
      kWord := kword,
      mIsT := PySem.W.mg_of X G pisT,
      kIsT := kisT,
      mTold := PySem.W.mg_of X G ptold,
      kTold := ktold,
      mWhole := PySem.W.mg_of X G pwhole,
      kWhole := kwhole,
      cl := ⟨pg, hd, po, sa⟩,
      nR := nR,
      nM := nM,
      nO := nO,
      nT := nT,
      mkC := ⟨mk, pinit, iinit, kc⟩,
      meTake := ⟨ptake, itake, ktake⟩,
      meEnt := ⟨pent, ient, kent⟩,
      meHt := ⟨pht, iht, kht⟩,
      meOwed := ⟨powed, iowed, kowed⟩,
      exN := ⟨⟨nm, qn, Nn, bs, _, sn, sub, ab, col, dd, m0, m1, m2, m3, m5, xL, rfl⟩, saN, exN, tyN, kN⟩,
      iN := pNG,
      tN := tNG,
      noP := noP,
      crG := ⟨rdG, spG⟩,
      vG := vG,
      isN := ⟨gaN, ggN, exN, hdN, caN, cnN, ctN, cmN⟩,
      xfN := ⟨gaN, ggN, exN, hdN⟩,
      eNN := PySem.W.exm_ref exN hdN tyN uNN,
      eNG := PySem.W.exm_ref exG hdG tyG uNG,
      iNV := kit_type (by decide +kernel) uNV,
      iNS := kit_other icS tyS uNS uNN,
      iNN := kit_self }
  have FNG := fun_mk (st := sNG) lNG cNG kNG
  have bNG := FNG.binds (ps := ["self", "place"]) fun _ _ _ _ _ _ us hl => match us, hl with | [_, _], _ => rfl
  have FisTag := fun_mk (st := sIsTag) lisTag cisTag kisTag
  have bisTag := FisTag.binds (ps := ["text"]) fun _ _ _ _ _ _ us hl => match us, hl with | [_], _ => rfl
  have Fkids := fun_mk (st := sKids) lkids ckids kkids
  have bkids := Fkids.binds (ps := ["parts"]) fun _ _ _ _ _ _ us hl => match us, hl with | [_], _ => rfl
  have Fstr := fun_mk (st := sStr) lstr cstr kstr
  have bstr := Fstr.binds (ps := ["changer"]) fun _ _ _ _ _ _ us hl => match us, hl with | [_], _ => rfl
  have Fspell := fun_mk (st := sSpell) lspell cspell kspell
  have bspell := Fspell.binds (ps := ["parts"]) fun _ _ _ _ _ _ us hl => match us, hl with | [_], _ => rfl
  have Fcut := fun_mk (st := sCut) lcut ccut kcut
  have bcut := Fcut.binds (ps := ["parts"]) fun _ _ _ _ _ _ us hl => match us, hl with | [_], _ => rfl
  have Finit := fun_mk (st := sInit) linit cinit kinit
  have binit := Finit.binds (ps := ["self", "changer"]) fun _ _ _ _ _ _ us hl => match us, hl with | [_, _], _ => rfl
  have Ftake := fun_mk (st := sTake) ltake ctake ktake
  have btake := Ftake.binds (ps := ["self", "word"]) fun _ _ _ _ _ _ us hl => match us, hl with | [_, _], _ => rfl
  have Fent := fun_mk (st := sEnt) lent cent kent
  have bent := Fent.binds (ps := ["self", "tag"]) fun _ _ _ _ _ _ us hl => match us, hl with | [_, _], _ => rfl
  have Fht := fun_mk (st := sHt) lht cht kht
  have bht := Fht.binds (ps := ["self"]) fun _ _ _ _ _ _ us hl => match us, hl with | [_], _ => rfl
  have Fowed := fun_mk (st := sOwed) lowed cowed kowed
  have bowed := Fowed.binds (ps := ["self"]) fun _ _ _ _ _ _ us hl => match us, hl with | [_], _ => rfl
  have Fcell := fun_mk (st := sCell) lcell ccell kcell
  have bcell := Fcell.binds (ps := ["_law_script", "_law_k"]) fun _ _ _ _ _ _ us hl => match us, hl with | [_, _], _ => rfl
  have Ftag := fun_mk (st := sTag) ltag ctag ktag
  have btag := Ftag.binds (ps := ["_law_cell_here"]) fun _ _ _ _ _ _ us hl => match us, hl with | [_], _ => rfl
  have Fspoil := fun_mk (st := sSpoil) lspoil cspoil kspoil
  have bspoil := Fspoil.binds (ps := ["_law_cell_here", "_law_tag_here"]) fun _ _ _ _ _ _ us hl => match us, hl with | [_, _], _ => rfl
  have Fword := fun_mk (st := sWord) lword cword kword
  have bword := Fword.binds (ps := ["_law_script", "_law_k", "_law_tag_here"]) fun _ _ _ _ _ _ us hl => match us, hl with | [_, _, _], _ => rfl
  have FisT := fun_mk (st := sIsT) lisT cisT kisT
  have bisT := FisT.binds (ps := ["_law_word_here"]) fun _ _ _ _ _ _ us hl => match us, hl with | [_], _ => rfl
  have Ftold := fun_mk (st := sTold) ltold ctold ktold
  have btold := Ftold.binds (ps := ["_law_stream", "_law_word_here", "_law_way"]) fun _ _ _ _ _ _ us hl => match us, hl with | [_, _, _], _ => rfl
  have Fwhole := fun_mk (st := sWhole) lwhole cwhole kwhole
  have bwhole := Fwhole.binds (ps := ["_law_one", "_law_due"]) fun _ _ _ _ _ _ us hl => match us, hl with | [_, _], _ => rfl
  have Flaw := fun_mk (st := sLaw) llaw claw klaw
  refine ⟨_, fun s v => .of_eq rfl, fun base _ _ => ok_law Flaw T ?_⟩
  exact
    { init := ⟨_, ok_init Finit T Fkids bkids Fstr bstr Fspell bspell Fcut bcut, binit⟩
      take := ⟨_, ok_take Ftake T FisTag bisTag FNG bNG Fent bent, btake⟩
      ht := ⟨_, ok_ht Fht T, bht⟩
      owed := ⟨_, ok_owed Fowed T, bowed⟩
      cell := ⟨_, ok_cell Fcell T, bcell⟩
      tag := ⟨_, ok_tag Ftag T, btag⟩
      word := ⟨_, ok_word Fword T Fcell bcell Ftag btag Fspoil bspoil, bword⟩
      isT := ⟨_, ok_isT FisT T, bisT⟩
      told := ⟨_, ok_told Ftold T Ftake btake FisTag bisTag FNG bNG Fent bent, btold⟩
      whole := ⟨_, ok_whole Fwhole T, bwhole⟩ }
theorem walk {l : PySem.W.OpenLaw} {q : Program} {loose : List Str} {XP : (Str → Option Value) → Heap → Prop} {YP : World → Heap → Prop} {d : DefRec} {K : Params → PySem.W.Frag} (hn : l.most = some 63) (hdf : d.params.defaults = [])
    (hY : ∀ (w : World) (h : Heap), YP w h → (K w.params).In h)
    (F : ∀ (w : World) (mg : Str → Option Value) (fa : Addr) (h : Heap), (K w.params).In h → h.Ns mainGlobals mg → mg d.name = some (.ref fa) →
      ∃ fd : FuncData, (∀ (s : Shared) (u : Value), BindsTo s fd ⟨[u], []⟩ [("_law_script", u)]) ∧ ∀ base : Heap, (K w.params).In base → base.Ns mainGlobals mg → FnOk l.prog w (K w.params) mg base CX0 6 fa fd ["_law_script"] (spLawA (K w.params))) :
    PySem.W.WalkO q loose XP YP l.row.toRowW d [] (fun f vs => PySem.call f vs) :=
  L2.walk_of (n := 63) (k := 6) (x := "_law_script") (CX := fun _ => CX0) (sp := fun w => spLawA (K w.params)) hn (by decide) hdf ⟨rfl, by decide, by decide⟩ hY F (fun _ _ a ns hl _ hS => ⟨a, ns, rfl, hS, hl, fun _ => rfl⟩) fun _ _ _ _ _ z => z
end Fg

open PySem PySem.W PyProof.Rows in
set_option maxRecDepth 100000 in
set_option maxHeartbeats 0 in
theorem PySem.Challenge.cw_formgrove_k92_words_refused_holds : PySem.Challenge.rw_formgrove_k92_words_refused.Holds := by
  w_on; o_law; k_head; (case hw => w_witness2)
  k_fill
  refine Fg.walk (l := PySem.Challenge.rw_formgrove_k92_words_refused) rfl rfl (fun w h Y => PySem.W.kIn_of Y) ?F
  case F =>
    intro w mg fa h KX G hmg
    refine' Fg.all_mk KX G hmg ?aCG ?aCN ?aCS ?aC ?aLET ?aEND ?zlen ?zall ?zisi ?ztuple ?zlist ?zrev ?zrange ?zint ?zbool ?zVE ?pNG ?lNG ?cNG ?kNG ?pisTag ?lisTag ?cisTag ?kisTag ?pkids ?lkids ?ckids ?kkids ?pstr ?lstr ?cstr ?kstr ?pspell ?lspell ?cspell ?kspell ?pcut ?lcut ?ccut ?kcut ?pinit ?iinit ?linit ?cinit ?kinit ?ptake ?itake ?ltake ?ctake ?ktake ?pent ?ient ?lent ?cent ?kent ?pht ?iht ?lht ?cht ?kht ?powed ?iowed ?lowed ?cowed ?kowed ?pcell ?lcell ?ccell ?kcell ?ptag ?ltag ?ctag ?ktag ?pspoil ?lspoil ?cspoil ?kspoil ?pword ?lword ?cword ?kword ?pisT ?lisT ?cisT ?kisT ?ptold ?ltold ?ctold ?ktold ?pwhole ?lwhole ?cwhole ?kwhole ?plaw ?llaw ?claw ?klaw ?pg ?hd ?po ?sa ?mk ?kc ?nR ?nM ?nO ?nT ?xL ?saN ?exN ?tyN ?kN ?tNG ?noP ?gaN ?ggN ?hdN ?caN ?cnN ?ctN ?cmN ?uNN ?uNG ?uNS ?uNV ?exG ?hdG ?tyG ?icS ?tyS ?rdG ?spG ?vG
    (case aCG => k_is)
    (case aCN => k_is)
    (case aCS => k_is)
    (case aC => k_is)
    (case aLET => k_is)
    (case aEND => k_is)
    (case zlen => k_is)
    (case zall => k_is)
    (case zisi => k_is)
    (case ztuple => k_is)
    (case zlist => k_is)
    (case zrev => k_is)
    (case zrange => k_is)
    (case zint => k_is)
    (case zbool => k_is)
    (case zVE => k_is)
    (case pNG => k_is)
    (case lNG => k_is)
    (case cNG => k_is)
    (case kNG => k_is)
    (case pisTag => k_is)
    (case lisTag => k_is)
    (case cisTag => k_is)
    (case kisTag => k_is)
    (case pkids => k_is)
    (case lkids => k_is)
    (case ckids => k_is)
    (case kkids => k_is)
    (case pstr => k_is)
    (case lstr => k_is)
    (case cstr => k_is)
    (case kstr => k_is)
    (case pspell => k_is)
    (case lspell => k_is)
    (case cspell => k_is)
    (case kspell => k_is)
    (case pcut => k_is)
    (case lcut => k_is)
    (case ccut => k_is)
    (case kcut => k_is)
    (case pinit => k_is)
    (case iinit => k_is)
    (case linit => k_is)
    (case cinit => k_is)
    (case kinit => k_is)
    (case ptake => k_is)
    (case itake => k_is)
    (case ltake => k_is)
    (case ctake => k_is)
    (case ktake => k_is)
    (case pent => k_is)
    (case ient => k_is)
    (case lent => k_is)
    (case cent => k_is)
    (case kent => k_is)
    (case pht => k_is)
    (case iht => k_is)
    (case lht => k_is)
    (case cht => k_is)
    (case kht => k_is)
    (case powed => k_is)
    (case iowed => k_is)
    (case lowed => k_is)
    (case cowed => k_is)
    (case kowed => k_is)
    (case pcell => k_is)
    (case lcell => k_is)
    (case ccell => k_is)
    (case kcell => k_is)
    (case ptag => k_is)
    (case ltag => k_is)
    (case ctag => k_is)
    (case ktag => k_is)
    (case pspoil => k_is)
    (case lspoil => k_is)
    (case cspoil => k_is)
    (case kspoil => k_is)
    (case pword => k_is)
    (case lword => k_is)
    (case cword => k_is)
    (case kword => k_is)
    (case pisT => k_is)
    (case lisT => k_is)
    (case cisT => k_is)
    (case kisT => k_is)
    (case ptold => k_is)
    (case ltold => k_is)
    (case ctold => k_is)
    (case ktold => k_is)
    (case pwhole => k_is)
    (case lwhole => k_is)
    (case cwhole => k_is)
    (case kwhole => k_is)
    (case plaw => k_is)
    (case llaw => k_is)
    (case claw => k_is)
    (case klaw => k_is)
    (case pg => k_is)
    (case hd => k_is)
    (case po => k_is)
    (case sa => k_is)
    (case mk => k_is)
    (case kc => k_is)
    (case nR => k_is)
    (case nM => k_is)
    (case nO => k_is)
    (case nT => k_is)
    (case xL => k_is)
    (case saN => k_is)
    (case exN => k_is)
    (case tyN => k_is)
    (case kN => k_is)
    (case tNG => k_is)
    (case noP => k_is)
    (case gaN => k_is)
    (case ggN => k_is)
    (case hdN => k_is)
    (case caN => k_is)
    (case cnN => k_is)
    (case ctN => k_is)
    (case cmN => k_is)
    (case uNN => k_is)
    (case uNG => k_is)
    (case uNS => k_is)
    (case uNV => k_is)
    (case exG => k_is)
    (case hdG => k_is)
    (case tyG => k_is)
    (case icS => k_is)
    (case tyS => k_is)
    (case rdG => k_is)
    (case spG => k_is)
    (case vG => k_is)
