import PyProof.Rows.All
import Wide.All
import OpenK.AllK
import Wide.FinOn
import KE.KStateDown
import HandS.ForMost
import HandS.ForExc
import HandS.Evl
import HandS.Walk
import HandS.DictComp
import HandS.Zip
import HandS.IsInst
import HandS.NoneIn
import HandS.Flow
import HandS.Star
import HandS.MakeKwOnly
import HandS.Defaults
import HandS.More
import HandS.Conv
import HandS.ExcInit
import HandS.HeadHook4
import HandS.HeadEnd
import PySem.Challenge.RW_handspaces_k89_whole_facts_two_ways
import HandS.Head0
import HandS.Head1
import HandS.Head2
import Wide.Once
import KE.GoesMore
import KE.GoesEnum
import HandS.TryOnly
import PyProof.NeKinds
import PyProof.ReprRoads
section
set_option Elab.async false
set_option linter.all false
set_option maxRecDepth 100000
set_option maxHeartbeats 4000000
/-! The text by places, what the top has written, rules of our own. -/
namespace HX
open PySem PySem.Spec PyProof.Rows L2
open Evl (Ex)
/-! ### the text -/
def top (i : Nat) : Stmt := PySem.Challenge.pw_handspaces_k89_whole_facts_two_ways.main.body.getD i (.Pass ⟨0, 0, 0, 0⟩)
abbrev sClashI : Stmt := inClass (top 12) 0
abbrev sIsInt : Stmt := top 15
abbrev sWordI : Stmt := inClass (top 36) 0
abbrev sFull : Stmt := top 44
abbrev sInPlane : Stmt := top 46
abbrev sMark : Stmt := top 47
abbrev sMarks : Stmt := top 48
abbrev sIsWithin : Stmt := top 49
abbrev sCoef : Stmt := top 53
abbrev sClaimI : Stmt := inClass (top 56) 0
abbrev sTotal : Stmt := inClass (top 56) 8
abbrev sFirst : Stmt := top 58
abbrev sEnter : Stmt := top 59
abbrev sLeave : Stmt := top 60
abbrev sTurned : Stmt := top 61
abbrev sSolved : Stmt := top 62
abbrev sRowOf : Stmt := top 63
abbrev sSizesI : Stmt := inClass (top 64) 0
abbrev sKeep : Stmt := inClass (top 64) 1
abbrev sSolve : Stmt := inClass (top 64) 2
abbrev sAgainst : Stmt := inClass (top 64) 3
abbrev sSModel : Stmt := inClass (top 64) 4
abbrev sCounter : Stmt := inClass (top 64) 5
abbrev sFollows : Stmt := inClass (top 64) 6
abbrev sTold : Stmt := inClass (top 64) 7
abbrev sClashW : Stmt := inClass (top 64) 9
abbrev sFactsI : Stmt := inClass (top 66) 0
abbrev sKinds : Stmt := inClass (top 66) 3
abbrev sBroken : Stmt := inClass (top 66) 4
abbrev sLacking : Stmt := inClass (top 66) 5
abbrev sClashes : Stmt := inClass (top 66) 6
abbrev sCheck : Stmt := inClass (top 66) 7
abbrev sVerdict : Stmt := inClass (top 66) 8
abbrev sFModel : Stmt := inClass (top 66) 9
abbrev sTape : Stmt := top 68
abbrev sPick : Stmt := top 69
abbrev sShape : Stmt := top 70
abbrev sLWord : Stmt := top 71
abbrev sInner : Stmt := top 72
abbrev sOuter : Stmt := top 73
abbrev sPairs : Stmt := top 74
abbrev sWords : Stmt := top 75
abbrev sAllowed : Stmt := top 76
abbrev sLClash : Stmt := top 77
abbrev sRight : Stmt := top 78
abbrev sLaw : Stmt := top 79
/-! ### constants -/
def kinds : List Str := ["", "a", "b", "c", "ab", "ac", "bc", "abc", "plane"]
def lines : List Str := ["", "a", "b", "c", "ab", "ac", "bc", "abc"]
def hands : List Str := ["a", "b", "c"]
def plains : List Str := ["a", "b", "c", "0", "1"]
/-! ### what the top has written -/
def dG (x : Str) (st : Stmt) : He.DefD := ⟨(x, none), x, x, defArgs st, defBody st, defScope st, [], []⟩
def dM (C m q : Str) (st : Stmt) (dfl : List He.Dv) (kwd : List (Str × He.Dv)) : He.DefD := ⟨(C, some m), m, q, defArgs st, defBody st, defScope st, dfl, kwd⟩
def dIsInt := dG "is_integer" sIsInt
def dFull := dG "full_numbers" sFull
def dInPlane := dG "in_plane" sInPlane
def dMark := dG "mark" sMark
def dMarks := dG "marks" sMarks
def dIsWithin := dG "is_within" sIsWithin
def dCoef := dG "coefficients" sCoef
def dFirst := dG "first_lines" sFirst
def dEnter := dG "entering" sEnter
def dLeave := dG "leaving" sLeave
def dTurned := dG "turned_lines" sTurned
def dSolved := dG "solved_rows" sSolved
def dRowOf := dG "row_of" sRowOf
def dTape := dG "_law_tape" sTape
def dPick := dG "_law_pick" sPick
def dShape := dG "_law_shape" sShape
def dLWord := dG "_law_word" sLWord
def dInner := dG "_law_inner" sInner
def dOuter := dG "_law_outer" sOuter
def dPairs := dG "_law_pairs" sPairs
def dWords := dG "_law_words" sWords
def dAllowed := dG "_law_allowed" sAllowed
def dLClash := dG "_law_clash" sLClash
def dRight := dG "_law_models_right" sRight
def dLaw := dG "law" sLaw
def fnG1 : List He.DefD := [dIsInt, dFull, dInPlane, dMark, dMarks, dIsWithin, dCoef, dFirst, dEnter, dLeave, dTurned, dSolved, dRowOf]
def fnG2 : List He.DefD := [dTape, dPick, dShape, dLWord, dInner, dOuter, dPairs, dWords, dAllowed, dLClash, dRight, dLaw]
/-- a method's datum needs the tuple of () in its defaults: Word's __init__ is called with all its arguments -/
def dWordI := dM "Word" "__init__" "Word.__init__" sWordI [.adr (He.dflAt ("Word", some "__init__") 0)] []
def dClaimI := dM "Claim" "__init__" "Claim.__init__" sClaimI [] []
def dTotal := dM "Claim" "total" "Claim.total" sTotal [] []
def dSizesI := dM "SizeFacts" "__init__" "SizeFacts.__init__" sSizesI [] []
def dKeep := dM "SizeFacts" "keep" "SizeFacts.keep" sKeep [] []
def dSolve := dM "SizeFacts" "solve" "SizeFacts.solve" sSolve [] []
def dAgainst := dM "SizeFacts" "against" "SizeFacts.against" sAgainst [] []
def dSModel := dM "SizeFacts" "model" "SizeFacts.model" sSModel [] []
def dCounter := dM "SizeFacts" "counter" "SizeFacts.counter" sCounter [.bl false] []
def dFollows := dM "SizeFacts" "follows" "SizeFacts.follows" sFollows [.bl false] []
def dTold := dM "SizeFacts" "told_weights" "SizeFacts.told_weights" sTold [] []
def dClashW := dM "SizeFacts" "clash_weights" "SizeFacts.clash_weights" sClashW [] []
def dFactsI := dM "Facts" "__init__" "Facts.__init__" sFactsI [] []
def dKinds := dM "Facts" "kinds" "Facts.kinds" sKinds [] []
def dBroken := dM "Facts" "broken" "Facts.broken" sBroken [] []
def dLacking := dM "Facts" "lacking" "Facts.lacking" sLacking [] []
def dClashes := dM "Facts" "clashes" "Facts.clashes" sClashes [] []
def dCheck := dM "Facts" "check" "Facts.check" sCheck [] []
def dVerdict := dM "Facts" "verdict" "Facts.verdict" sVerdict [] []
def dFModel := dM "Facts" "model" "Facts.model" sFModel [] []
def fnM1 : List He.DefD := [dWordI, dClaimI, dTotal, dKeep, dSolve, dAgainst, dSModel, dCounter, dFollows, dTold, dClashW]
def fnM2 : List He.DefD := [dKinds, dBroken, dLacking, dClashes, dCheck, dVerdict, dFModel]
/-- a def stands: its object, its function datum -/
abbrev FnA (K : PySem.W.Frag) (d : He.DefD) : Prop := ∃ fd, FunD K d.name d.qual d.params d.body d.scope (d.dvs K) (d.kws K) (He.fAd K d.at_) fd
/-- global names of objects; names that are the built-ins' -/
def gNames : List Str := ["is_integer", "full_numbers", "in_plane", "mark", "marks", "is_within", "coefficients", "first_lines", "entering", "leaving", "turned_lines", "solved_rows", "row_of"]
def gNames2 : List Str := ["_law_tape", "_law_pick", "_law_shape", "_law_word", "_law_inner", "_law_outer", "_law_pairs", "_law_words", "_law_allowed", "_law_clash", "_law_models_right", "law"]
def gNames3 : List Str := ["Word", "Claim", "SizeFacts", "Facts", "Clash", "KINDS", "LINES", "HANDS", "PLAIN_SIGNS", "PLANE_SIZES"]
def gNamesK : List Str := ["Word", "Claim", "SizeFacts", "Facts", "Clash"]
def fNames : List Str := ["isinstance", "len", "zip", "enumerate", "range", "sum", "all", "tuple", "int", "str", "abs", "bool", "list"]
def psz (s : Str) : Int := if s = "0" then 0 else if s = "1" then 2 else 1
structure Tx (w : World) (K : PySem.W.Frag) (mg : Str → Option Value) : Prop where
  glo : ∀ x, x ∈ gNames ++ (gNames2 ++ gNames3) → mg x = some (.ref (He.ga K x))
  kee : ∀ x, x ∈ gNames ++ (gNames2 ++ gNamesK) → PySem.W.keepIn K (.ref (He.ga K x)) = true
  fre : ∀ x, x ∈ fNames → mg x = none
  fnG1 : ∀ (i : Nat) d, fnG1[i]? = some d → FnA K d
  fnG2 : ∀ (i : Nat) d, fnG2[i]? = some d → FnA K d
  fnM1 : ∀ (i : Nat) d, fnM1[i]? = some d → FnA K d
  fnM2 : ∀ (i : Nat) d, fnM2[i]? = some d → FnA K d
  kinds : ∀ H, SqT K H (He.ga K "KINDS") (kinds.map V.str)
  lines : ∀ H, SqT K H (He.ga K "LINES") (lines.map V.str)
  hands : ∀ H, SqT K H (He.ga K "HANDS") (hands.map V.str)
  plains : ∀ H, SqT K H (He.ga K "PLAIN_SIGNS") (plains.map V.str)
  plane : ∀ s, s ∈ HX.plains → KDct K w (He.ga K "PLANE_SIZES") s (.int (psz s))
  cls : ∀ x, x ∈ (["Word", "Claim", "SizeFacts", "Facts"] : List Str) → Cls K (He.ga K x) ∧ Mk K (He.ga K x) (He.ma K (He.ga K x) "__init__")
  noat : ∀ x f, (x, f) ∈ ([("Word", "sign"), ("Word", "parts"), ("Claim", "terms"), ("Claim", "sums"), ("SizeFacts", "weak"), ("SizeFacts", "strict"), ("Facts", "inside"), ("Facts", "outside")] : List (Str × Str)) → NoAttr K (He.ga K x) f
  meth : ∀ x m, (x, m) ∈ ([("Claim", "total"), ("SizeFacts", "keep"), ("SizeFacts", "solve"), ("SizeFacts", "against"), ("SizeFacts", "model"), ("SizeFacts", "counter"), ("SizeFacts", "follows"), ("SizeFacts", "told_weights"), ("SizeFacts", "clash_weights")] : List (Str × Str)) ++
    ([("Facts", "kinds"), ("Facts", "broken"), ("Facts", "lacking"), ("Facts", "clashes"), ("Facts", "check"), ("Facts", "verdict"), ("Facts", "model")] : List (Str × Str)) → Meth K (He.ga K x) m (He.ma K (He.ga K x) m)
section
variable {w : World} {K : PySem.W.Frag} {mg : Str → Option Value}
theorem Tx.g (T : Tx w K mg) (x : Str) (h : x ∈ gNames ++ (gNames2 ++ gNames3) := by decide +kernel) : mg x = some (.ref (He.ga K x)) := T.glo x h
theorem Tx.k (T : Tx w K mg) (x : Str) (h : x ∈ gNames ++ (gNames2 ++ gNamesK) := by decide +kernel) : PySem.W.keepIn K (.ref (He.ga K x)) = true := T.kee x h
theorem Tx.f (T : Tx w K mg) (x : Str) (h : x ∈ fNames := by decide +kernel) : mg x = none := T.fre x h
theorem Tx.c (T : Tx w K mg) (x : Str) (h : x ∈ (["Word", "Claim", "SizeFacts", "Facts"] : List Str) := by decide +kernel) : Cls K (He.ga K x) := (T.cls x h).1
theorem Tx.mkc (T : Tx w K mg) (x : Str) (h : x ∈ (["Word", "Claim", "SizeFacts", "Facts"] : List Str) := by decide +kernel) : Mk K (He.ga K x) (He.ma K (He.ga K x) "__init__") := (T.cls x h).2
end
/-! ### rules of our own -/
/-- a def without defaults, by its body -/
theorem fnr {P : Program} {w : World} {K : PySem.W.Frag} {mg : Str → Option Value} {base : Heap} {d : He.DefD} {CX : CXT} {N ps : List Str} {k : Nat} {sp : Sp} (h : FnA K d) (hd : d.dfl = []) (S : FnScope N ps d.scope)
    (hb : ∀ (kV doc pm : Value) (an : Option Addr) (cdv ct : Value) (us : List Value), us.length = ps.length → bindArgs (PySem.W.fnOf d.name d.qual d.params d.body d.scope .none kV doc pm an cdv ct) ⟨us, []⟩ = pure (ps.zip us))
    (len : ∀ vs H Q E, sp vs H Q E → vs.length = ps.length)
    (hbody : ∀ (cdv : Value) (A : Around) (outer : List Env) (s : Shared) (H : Hp) (vs : List V) (Q : VK) (E : XK), Room k (A.deeper (envOfC d.qual d.scope s.heap.objs.size (He.fAd K d.at_) cdv)) → sp vs H Q E →
      ∃ t, PSs (cxOf CX P w K mg base N d.qual d.scope (He.fAd K d.at_) cdv A outer s H E).nox d.body t ∧ t { nx := fun _ H' => Q .non H', rt := Q } (start N vs) H) : FnR P w K mg base CX (k + 1) (He.fAd K d.at_) sp := by
  obtain ⟨fd, F⟩ := h
  have ed : d.dvs K = [] := by unfold He.DefD.dvs; rw [hd] <;> rfl
  rw [ed] at F
  refine ((FunD.ok F S len fun cdv A outer s H vs Q E hr h => let ⟨t, h1, h2⟩ := hbody cdv A outer s H vs Q E hr h; ⟨t, h1.nox, h2⟩).raw (F.bindsN hb) .nil).imp fun vs H Q E z => ?_
  rw [List.append_nil]
  exact z
/-- a def with one default, called with all arguments written -/
theorem fnrA {P : Program} {w : World} {K : PySem.W.Frag} {mg : Str → Option Value} {base : Heap} {d : He.DefD} {CX : CXT} {N ps : List Str} {k : Nat} {sp : Sp} {dv : He.Dv} (h : FnA K d) (hd : d.dfl = [dv]) (S : FnScope N ps d.scope)
    (hb : ∀ (T : Addr) (kV doc pm : Value) (an : Option Addr) (cdv ct : Value) (us its : List Value), us.length = ps.length → its.length = 1 →
      ∃ k, bindArgs (PySem.W.fnOf d.name d.qual d.params d.body d.scope (.ref T) kV doc pm an cdv ct) ⟨us, []⟩ = seqItems? (.ref T) >>= k ∧ k (some its.toArray) = pure (ps.zip us))
    (len : ∀ vs H Q E, sp vs H Q E → vs.length = ps.length)
    (hbody : ∀ (cdv : Value) (A : Around) (outer : List Env) (s : Shared) (H : Hp) (vs : List V) (Q : VK) (E : XK), Room k (A.deeper (envOfC d.qual d.scope s.heap.objs.size (He.fAd K d.at_) cdv)) → sp vs H Q E →
      ∃ t, PSs (cxOf CX P w K mg base N d.qual d.scope (He.fAd K d.at_) cdv A outer s H E).nox d.body t ∧ t { nx := fun _ H' => Q .non H', rt := Q } (start N vs) H) : FnR P w K mg base CX (k + 1) (He.fAd K d.at_) sp := by
  obtain ⟨fd, F⟩ := h
  have ed : d.dvs K = [dv.v K] := by unfold He.DefD.dvs; rw [hd] <;> rfl
  rw [ed] at F
  obtain ⟨ds, rd, B⟩ := F.binds1 (ps := ps) ps.length 1 (List.cons_ne_nil _ _) (by simp) (fun T kV doc pm an cdv ct us its h1 h2 => by
    obtain ⟨k, e1, e2⟩ := hb T kV doc pm an cdv ct us its h1 h2
    refine ⟨k, e1, ?_⟩
    rw [e2]
    have : its.drop 1 = [] := List.drop_eq_nil_of_le (by rw [h2]; exact Nat.le_refl 1)
    rw [this, List.append_nil])
  refine ((FunD.ok F S len fun cdv A outer s H vs Q E hr h => let ⟨t, h1, h2⟩ := hbody cdv A outer s H vs Q E hr h; ⟨t, h1.nox, h2⟩).raw B rd).imp fun vs H Q E z => ?_
  show sp (vs ++ []) H Q E
  rw [List.append_nil]
  exact z
section
variable {X : Cx}
/-- a tuple beside the empty one -/
def rEqT0 (K : PySem.W.Frag) : R2 := fun x y H Q => ∃ a b xs, x = .ref a ∧ y = .ref b ∧ SqT K H a xs ∧ SqT K H b [] ∧ Q (.bl xs.isEmpty) H
theorem op_eqT0 (hu : X.A.units < cLine) : OpR X (compareOp .Eq) (rEqT0 X.K) := by
  intro pins s σ H x y v u Q I rx ry h
  obtain ⟨a, b, xs, rfl, rfl, h1, h2, q⟩ := h
  obtain rfl : v = Value.ref a := rx
  obtain rfl : u = Value.ref b := ry
  obtain ⟨its, r1, t1, _⟩ := I.tuple h1
  obtain ⟨its2, r2, t2, _⟩ := I.tuple h2
  cases r2
  refine SeqAt.eq_tupleAt (e := fun _ => true) t1 t2 hu (fun j h1 h2 => absurd h2 (by simp)) ?_
  have e : ((List.range (min its.toArray.size (([] : List Value)).toArray.size)).all (fun _ => true) && its.toArray.size == (([] : List Value)).toArray.size) = xs.isEmpty := by
    have hl := r1.length
    cases xs with
    | nil =>
      cases its with
      | nil => rfl
      | cons _ _ => simp at hl
    | cons _ _ =>
      cases its with
      | nil => simp at hl
      | cons _ _ => simp
  rw [e]
  exact ⟨.bl _, H, I, rfl, q⟩
variable {CX : CXT} {k : Nat} {f C : Addr} {sp : Sp} {E : XK} {x m : Str} {p pos apos : Pos} {e o : Expr} {es : List Expr} {ta : TE} {t : TA}
/-- f(e, ..) by a promise of positional values -/
def tCR (sp : Sp) (E : XK) (t : TA) : TE := fun σ H Q => t σ H fun vs H1 => sp vs H1 Q E
theorem pe_cR (F : FnR X.prog X.w X.K X.mg X.base CX k f sp) (hr : Room k X.A) (hm : X.mg x = some (.ref f)) (hk : PySem.W.keepIn X.K (.ref f) = true) (hx : Passes CX X E)
    (ha : PA X (e :: es) t) (hg : Gl X x := by rfl) (hdb : (x == ("__debug__" : Str)) = false := by decide) (he : starEach (e :: es) X.env = (false, eval e X.env) :: starEach es X.env := by rfl) (hpl : (backTo pos (starEach es X.env)).any (·.1) = false := by rfl) :
    PE X (.Call (.Name x p) (e :: es) [] pos) (tCR sp E t) := by
  refine ⟨fun pins s σ H Q I h => ?_⟩
  refine wpAny_Call_Name_kw (ld_glob I hg hm ?_ hdb)
  refine PySem.W.callWith_K (h₀ := X.base) I.ok.mod.kin hk (thn (ha.run pos pins s σ H _ I h) fun us s1 ⟨vs, H1, I1, r, q⟩ => ⟨I1.kIn, ?_⟩) he hpl
  exact wpAny_call (run_fnR F hr hx I1 r q)
/-- o.m() by a promise of positional values -/
def tMR0 (C : Addr) (m : Str) (sp : Sp) (E : XK) (ta : TE) : TE := fun σ H Q => ta σ H fun x H1 => ∃ a dx fs, x = .ref a ∧ H1 a = some (.ins C dx fs) ∧ fs.lookup m = none ∧ sp [x] H1 Q E
theorem pe_mR0 {pl : Sem Bool} (he : PE X o ta) (c : Cls X.K C) (hm : Meth X.K C m f) (F : FnR X.prog X.w X.K X.mg X.base CX k f sp) (hr : Room k X.A) (hx : Passes CX X E)
    (ht : eval (.Call (.Attribute o m apos) [] [] pos) X.env = (do
      let ov ← eval o X.env
      standAt apos.atName
      let (f, first) ← holding [ov] (getMethod ov m pl)
      callWith pos f first (backTo pos (starEach [] X.env)) (backToKw pos (keywordEach [] X.env))) := by rfl) :
    PE X (.Call (.Attribute o m apos) [] [] pos) (tMR0 C m sp E ta) := by
  refine ⟨fun pins s σ H Q I h => ?_⟩
  refine PySem.W.methodCall_KW (pl := pl) (thn (he.run pins s σ H _ I h) fun u s1 ⟨x, H1, I1, rx, a, dx, fs, ex, ea, l, q⟩ => ?_) ht
  subst ex
  obtain rfl : u = Value.ref a := rx
  refine getmeth_ok I1 ea c hm l ?_
  exact PySem.W.callWith_K0 (first := [.ref a]) I1.kIn hm.kp (wpAny_call (run_fnR (us := [.ref a]) (vs := [.ref a]) F hr hx I1 (.cons rfl .nil) q))
end
/-! ### what is kept -/
/-- all but lists is as it was -/
def ExN (H H' : Hp) : Prop := ∀ b o, (∀ xs, o ≠ .lst xs) → H b = some o → H' b = some o
theorem ExN.of {H H' : Hp} (e : Ex H H') : ExN H H' := fun b o _ h => e b o h
theorem ExN.trans {H H1 H2 : Hp} (a : ExN H H1) (b : ExN H1 H2) : ExN H H2 := fun x o n h => b x o n (a x o n h)
theorem ExN.upd {H : Hp} {D : Addr} {xs ys : List V} (h : H D = some (.lst xs)) : ExN H (upd H D (.lst ys)) := fun b o n hb => by
  rw [upd_ne (fun z => by rw [z, h] at hb; exact n _ (Option.some.inj hb).symm)]
  exact hb
/-- all but the list at D is as it was -/
def ExD (D : Addr) (H H' : Hp) : Prop := ∀ b o, b ≠ D → H b = some o → H' b = some o
theorem ExD.n {D : Addr} {H H' : Hp} {xs : List V} (h : H D = some (.lst xs)) (e : ExD D H H') : ExN H H' := fun b o n hb => e b o (fun z => by rw [z, h] at hb; exact n _ (Option.some.inj hb).symm) hb
theorem ExD.upd {H : Hp} {D : Addr} {o : HO} : ExD D H (upd H D o) := fun b o n hb => by
  rw [upd_ne n]
  exact hb
/-! ### comprehensions that lay new things and change nothing -/
section
variable {J : It} {n : Nat} {G : Hp → Prop} {Y : Nat → Hp → V → Hp → Prop}
/-- one element a turn: P i of the i-th; the new list at D -/
theorem lc_map (w : Walk J n G Y) {g : TG} {te : TE} {vs : List Nat} {σ : L2.St} {H1 : Hp} {D : Addr} {Qd : Hp → Prop} (P : Nat → V → Hp → Prop) (hD : H1 D = none) (hn : n ≤ 99999)
    (hG : ∀ H, Ex H1 H → G H) (hP : ∀ i v H H' xs, H D = some (.lst xs) → ExD D H H' → P i v H → P i v H')
    (hs : ∀ i x H H' (Q : VK), i < n → Ex H1 H → (∃ xs, H D = some (.lst xs)) → Y i H x H' → (∀ y H4, Ex H H4 → P i y H4 → Q y H4) → g x (wipe σ vs) H' fun σ2 H2 => wipe σ2 vs = wipe σ vs ∧ te σ2 H2 Q)
    (k : ∀ ys H, Ex H1 H → H D = some (.lst ys) → ys.length = n → (∀ i y, ys[i]? = some y → P i y H) → Qd H) :
    ∃ W : Nat → Nat → Hp → Prop, (∃ m, W 0 m (upd H1 D (.lst []))) ∧ ∀ i m H, W i m H →
      (J.stop i H ∧ Qd H) ∨ (J.go i H ∧ ∃ Nx : Hp → Prop, (∀ H', Nx H' → ∃ m', m' < m ∧ W (i + 1) m' H') ∧ ∀ x H', J.yld i H x H' → g x (wipe σ vs) H' fun σ2 H2 => wipe σ2 vs = wipe σ vs ∧ tYes σ2 H2 fun b H3 =>
        if b = true then te σ2 H3 fun y H4 => ∃ acc, H4 D = some (.lst acc) ∧ acc.length < sizeLine ∧ Nx (upd H4 D (.lst (acc ++ [y]))) else Nx H3) := by
  refine lc_it w (fun i H => Ex H1 H ∧ ∃ ys, H D = some (.lst ys) ∧ ys.length = i ∧ ∀ j y, ys[j]? = some y → P j y H) ?_ ?_ ?_ ?_
  · exact ⟨Evl.Ex.new hD, [], upd_same, rfl, fun j y h => by simp at h⟩
  · rintro i H _ ⟨e, _⟩
    exact hG H e
  · rintro i x H H' hi ⟨e, ys, h1, h2, h3⟩ y
    have q := hs i x H H' (fun y H4 => ∃ acc, H4 D = some (.lst acc) ∧ acc.length < sizeLine ∧ (Ex H1 (upd H4 D (.lst (acc ++ [y]))) ∧ ∃ ys, (upd H4 D (.lst (acc ++ [y]))) D = some (.lst ys) ∧ ys.length = i + 1 ∧ ∀ j y', ys[j]? = some y' → P j y' (upd H4 D (.lst (acc ++ [y]))))) hi e ⟨ys, h1⟩ y
      (fun y H4 e4 hp => by
        have hD4 : H4 D = some (.lst ys) := e4 D _ h1
        have ex : Ex H1 (upd H4 D (.lst (ys ++ [y]))) := Evl.Ex.mut (e.trans e4) hD
        refine ⟨ys, hD4, Evl.sz_lt (by omega), ex, _, upd_same, by simp [h2], fun j y' hj => ?_⟩
        by_cases c : j < ys.length
        · rw [List.getElem?_append_left c] at hj
          exact hP j y' _ _ _ hD4 ExD.upd (hP j y' _ _ _ h1 (fun b o _ hb => e4 b o hb) (h3 j y' hj))
        · by_cases c2 : j = ys.length
          · subst c2
            rw [List.getElem?_append_right (Nat.le_refl _), Nat.sub_self] at hj
            have : y = y' := by simpa using hj
            subst this
            rw [h2]
            exact hP i y _ _ _ hD4 ExD.upd hp
          · rw [List.getElem?_eq_none (by simp; omega)] at hj
            cases hj)
    exact q
  · rintro H ⟨e, ys, h1, h2, h3⟩
    exact k ys H e h1 h2 h3
/-- each element's value is known -/
theorem lc_val (w : Walk J n G Y) {g : TG} {te : TE} {vs : List Nat} {σ : L2.St} {H1 : Hp} {D : Addr} {Qd : Hp → Prop} (f : Nat → V) (hD : H1 D = none) (hn : n ≤ 99999)
    (hG : ∀ H, Ex H1 H → G H)
    (hs : ∀ i x H H' (Q : VK), i < n → Ex H1 H → Y i H x H' → (∀ H4, Ex H H4 → Q (f i) H4) → g x (wipe σ vs) H' fun σ2 H2 => wipe σ2 vs = wipe σ vs ∧ te σ2 H2 Q)
    (k : ∀ H, Ex H1 H → H D = some (.lst ((List.range n).map f)) → Qd H) :
    ∃ W : Nat → Nat → Hp → Prop, (∃ m, W 0 m (upd H1 D (.lst []))) ∧ ∀ i m H, W i m H →
      (J.stop i H ∧ Qd H) ∨ (J.go i H ∧ ∃ Nx : Hp → Prop, (∀ H', Nx H' → ∃ m', m' < m ∧ W (i + 1) m' H') ∧ ∀ x H', J.yld i H x H' → g x (wipe σ vs) H' fun σ2 H2 => wipe σ2 vs = wipe σ vs ∧ tYes σ2 H2 fun b H3 =>
        if b = true then te σ2 H3 fun y H4 => ∃ acc, H4 D = some (.lst acc) ∧ acc.length < sizeLine ∧ Nx (upd H4 D (.lst (acc ++ [y]))) else Nx H3) := by
  refine lc_map w (fun i v _ => v = f i) hD hn hG (fun _ _ _ _ _ _ _ h => h) (fun i x H H' Q hi e _ y q => hs i x H H' Q hi e y (fun H4 e4 => q _ H4 e4 rfl)) (fun ys H e h1 h2 h3 => k H e ?_)
  rw [h1]
  congr 2
  refine List.ext_getElem? fun i => ?_
  by_cases c : i < n
  · rw [List.getElem?_map, List.getElem?_range c]
    have hy : ys[i]? = some ys[i] := List.getElem?_eq_getElem (by omega)
    rw [hy, h3 i _ hy]
    rfl
  · rw [List.getElem?_eq_none (by omega), List.getElem?_eq_none (by simp; omega)]
/-- some are left out; each one's value is known -/
theorem lc_fil (w : Walk J n G Y) {g : TG} {tt : TT} {te : TE} {vs : List Nat} {σ : L2.St} {H1 : Hp} {D : Addr} {Qd : Hp → Prop} (p : Nat → Bool) (f : Nat → V) (hD : H1 D = none) (hn : n ≤ 99999)
    (hG : ∀ H, Ex H1 H → G H)
    (hs : ∀ i x H H' (Qy : VK) (Qn : Hp → Prop), i < n → Ex H1 H → Y i H x H' → (p i = true → ∀ H4, Ex H H4 → Qy (f i) H4) → (p i = false → ∀ H4, Ex H H4 → Qn H4) →
      g x (wipe σ vs) H' fun σ2 H2 => wipe σ2 vs = wipe σ vs ∧ tt σ2 H2 fun b H3 => if b = true then te σ2 H3 Qy else Qn H3)
    (k : ∀ H, Ex H1 H → H D = some (.lst (((List.range n).filter p).map f)) → Qd H) :
    ∃ W : Nat → Nat → Hp → Prop, (∃ m, W 0 m (upd H1 D (.lst []))) ∧ ∀ i m H, W i m H →
      (J.stop i H ∧ Qd H) ∨ (J.go i H ∧ ∃ Nx : Hp → Prop, (∀ H', Nx H' → ∃ m', m' < m ∧ W (i + 1) m' H') ∧ ∀ x H', J.yld i H x H' → g x (wipe σ vs) H' fun σ2 H2 => wipe σ2 vs = wipe σ vs ∧ tt σ2 H2 fun b H3 =>
        if b = true then te σ2 H3 fun y H4 => ∃ acc, H4 D = some (.lst acc) ∧ acc.length < sizeLine ∧ Nx (upd H4 D (.lst (acc ++ [y]))) else Nx H3) := by
  refine lc_it w (fun i H => Ex H1 H ∧ H D = some (.lst (Evl.given i p f))) ?_ ?_ ?_ ?_
  · exact ⟨Evl.Ex.new hD, upd_same⟩
  · rintro i H _ ⟨e, _⟩
    exact hG H e
  · rintro i x H H' hi ⟨e, h1⟩ y
    refine hs i x H H' _ _ hi e y (fun hp H4 e4 => ?_) (fun hp H4 e4 => ?_)
    · refine ⟨_, e4 D _ h1, Evl.sz_lt (by have := Evl.given_len i p f; omega), Evl.Ex.mut (e.trans e4) hD, ?_⟩
      rw [Evl.given_yes hp]
      exact upd_same
    · refine ⟨e.trans e4, ?_⟩
      rw [Evl.given_no hp]
      exact e4 D _ h1
  · rintro H ⟨e, h1⟩
    exact k H e h1
end
/-! ### dict comprehensions -/
section
variable {J : It} {n : Nat} {G : Hp → Prop} {Y : Nat → Hp → V → Hp → Prop}
theorem valV_none_of {kf : Nat → Key} {vf : Nat → V} {m : Nat} {k : Key} (h : ∀ i, i < m → kf i ≠ k) : valV ((List.range m).map fun i => (kf i, vf i)) k = none := by
  unfold valV
  rw [List.find?_eq_none.mpr]
  · rfl
  · intro kv hkv
    obtain ⟨i, hi, e⟩ := List.mem_map.mp hkv
    rw [← e]
    simpa using h i (List.mem_range.mp hi)
theorem dc_val (w : Walk J n G Y) {g : TG} {tk tv : TE} {vs : List Nat} {σ : L2.St} {H1 : Hp} {D : Addr} {Qd : Hp → Prop} (kf : Nat → Key) (vf : Nat → V) (hD : H1 D = none) (hn : n ≤ 99999)
    (hi : ∀ i j, i < n → j < n → kf i = kf j → i = j) (hG : ∀ H, Ex H1 H → G H)
    (hs : ∀ i x H H' (Q : V → V → Hp → Prop), i < n → Ex H1 H → Y i H x H' → (∀ H5, Ex H H5 → Q (kV (kf i)) (vf i) H5) →
      g x (wipe σ vs) H' fun σ2 H2 => wipe σ2 vs = wipe σ vs ∧ tk σ2 H2 fun y H4 => tv σ2 H4 fun z H5 => Q y z H5)
    (k : ∀ H, Ex H1 H → H D = some (.dK ((List.range n).map fun i => (kf i, vf i))) → Qd H) :
    ∃ W : Nat → Nat → Hp → Prop, (∃ m, W 0 m (upd H1 D (.dK []))) ∧ ∀ i m H, W i m H →
      (J.stop i H ∧ Qd H) ∨ (J.go i H ∧ ∃ Nx : Hp → Prop, (∀ H', Nx H' → ∃ m', m' < m ∧ W (i + 1) m' H') ∧ ∀ x H', J.yld i H x H' → g x (wipe σ vs) H' fun σ2 H2 => wipe σ2 vs = wipe σ vs ∧ tYes σ2 H2 fun b H3 =>
        if b = true then tk σ2 H3 fun y H4 => tv σ2 H4 fun z H5 => ∃ kvs k, y = kV k ∧ H5 D = some (.dK kvs) ∧ kvs.length < sizeLine ∧ Nx (upd H5 D (.dK (putK kvs k z))) else Nx H3) := by
  refine ⟨fun i m H => m = n - i ∧ i ≤ n ∧ Ex H1 H ∧ H D = some (.dK ((List.range i).map fun i => (kf i, vf i))), ⟨n, by simp, Nat.zero_le _, Evl.Ex.new hD, upd_same⟩, ?_⟩
  rintro i m H ⟨rfl, hin, e, h1⟩
  by_cases hlt : i < n
  · refine .inr ⟨w.goes i H hlt (hG H e), fun H' => i + 1 ≤ n ∧ Ex H1 H' ∧ H' D = some (.dK ((List.range (i + 1)).map fun i => (kf i, vf i))), fun H' p' => ⟨n - (i + 1), by omega, rfl, p'⟩, fun x H' y => ?_⟩
    refine hs i x H H' (fun y z H5 => ∃ kvs k, y = kV k ∧ H5 D = some (.dK kvs) ∧ kvs.length < sizeLine ∧ (i + 1 ≤ n ∧ Ex H1 (upd H5 D (.dK (putK kvs k z))) ∧ (upd H5 D (.dK (putK kvs k z))) D = some (.dK ((List.range (i + 1)).map fun i => (kf i, vf i))))) hlt e (w.yields i H x H' hlt (hG H e) y) (fun H5 e5 => ?_)
    refine ⟨_, kf i, rfl, e5 D _ h1, Evl.sz_lt (by simp; omega), hlt, Evl.Ex.mut (e.trans e5) hD, ?_⟩
    rw [upd_same, putK_new (vf i) (valV_none_of fun j hj z => absurd (hi j i (by omega) hlt z) (by omega)), List.range_succ, List.map_append]
    rfl
  · have z : i = n := by omega
    subst z
    exact .inl ⟨w.stops H (hG H e), k H e h1⟩
end
/-! ### dicts of nine -/
def d9 (f : Str → V) : List (Key × V) := kinds.map fun k => (Sum.inr k, f k)
theorem d9_len (f : Str → V) : (d9 f).length = 9 := rfl
theorem d9_at (f : Str → V) {k : Str} (h : k ∈ kinds) : valV (d9 f) (Sum.inr k : Key) = some (f k) := by
  have gen : ∀ l : List Str, k ∈ l → valV (l.map fun k => ((Sum.inr k : Key), f k)) (Sum.inr k : Key) = some (f k) := by
    intro l
    induction l with
    | nil => intro h; cases h
    | cons x r IH =>
      intro h
      by_cases e : x = k
      · subst e
        exact valV_pos rfl
      · rw [List.map_cons, valV_neg (fun z => e (Sum.inr.inj z))]
        rcases List.mem_cons.mp h with z | z
        · exact absurd z.symm e
        · exact IH z
  exact gen kinds h
def kAt (i : Nat) : Str := kinds.getD i ""
theorem kAt_some {i : Nat} {x : V} (h : (kinds.map V.str)[i]? = some x) : i < 9 ∧ x = .str (kAt i) ∧ kAt i ∈ kinds := by
  have hi : i < 9 := (List.getElem?_eq_some_iff.mp h).1
  have : kinds[i]? = some (kAt i) := by
    unfold kAt
    rw [List.getD_eq_getElem?_getD]
    have : kinds[i]? = some kinds[i] := List.getElem?_eq_getElem hi
    rw [this]; rfl
  rw [List.getElem?_map, this] at h
  exact ⟨hi, (Option.some.inj h).symm, List.mem_of_getElem? this⟩
theorem d9_range (f : Str → V) : ((List.range 9).map fun i => ((Sum.inr (kAt i) : Key), f (kAt i))) = d9 f := rfl
theorem kAt_inj (i j : Nat) (hi : i < 9) (hj : j < 9) (e : kAt i = kAt j) : i = j := by
  have h : ∀ i, i < 9 → ∀ j, j < 9 → kAt i = kAt j → i = j := by decide +kernel
  exact h i hi j hj e
end HX
end

section
set_option Elab.async false
set_option linter.all false
set_option maxRecDepth 100000
set_option maxHeartbeats 0
/-! The head's facts: what is asked of it. -/
namespace HX
open PySem PySem.Spec PyProof.Rows L2
open PySem.W (Frag)
abbrev R : PySem.W.OpenRow := PySem.W.OpenLaw.row PySem.Challenge.rw_handspaces_k89_whole_facts_two_ways
abbrev qv : Program := PySem.W.view R.prog [79]
def excB (K : Frag) (C : Addr) : Bool := match K.lookup C with
  | some ⟨.type "type", _, .cls cd, sl⟩ => (match cd.mro, sl.toList with
    | .ref C' :: bm, [_, _, _, _, some (.builtin n), _] => C' == C && (n == "ValueError.__new__" && (!cd.hasDel && (cd.hasDict && PySem.HandSPX.refsVE bm)))
    | _, _ => false)
  | _ => false
theorem excB_ok {K : Frag} {C : Addr} (q : excB K C = true) : ∃ nm q N bs bm sn sub ab col dd k0 k1 k2 k3 k5, K.lookup C = some (excClassObj nm q C N bs bm true sn sub ab col dd k0 k1 k2 k3 k5 "ValueError.__new__") ∧ PySem.HandSPX.refsVE bm = true := by
  unfold excB at q
  split at q
  · rename_i dd cd sl ho
    split at q
    · rename_i C' bm k0 k1 k2 k3 n k5 hm hs
      simp only [Bool.and_eq_true, beq_iff_eq, Bool.not_eq_true'] at q
      obtain ⟨rfl, rfl, hdel, hdc, ht⟩ := q
      obtain ⟨nm, bs, mro, ns, qn, hd, sn, sub, ab, col, del⟩ := cd
      dsimp only at hm hdel hdc
      subst hm hdel hdc
      have hsl : sl = #[k0, k1, k2, k3, some (.builtin "ValueError.__new__"), k5] := by
        obtain ⟨l⟩ := sl
        simp only at hs
        rw [hs]
      subst hsl
      exact ⟨nm, qn, ns, bs, bm, sn, sub, ab, col, dd, k0, k1, k2, k3, k5, ho, ht⟩
    · cases q
  · cases q
def fiB (K : Frag) : Bool := match PySem.W.findCls K (.ref (He.ga K "HandError")) (.type "type") "__init__" with
  | some (.val (.builtin n)) => decide (n = "ValueError.__init__")
  | _ => false
theorem fiB_ok {K : Frag} (h : fiB K = true) : PySem.W.findCls K (.ref (He.ga K "HandError")) (.type "type") "__init__" = some (.val (.builtin "ValueError.__init__")) := by
  unfold fiB at h
  split at h
  · rename_i n e
    rw [e, of_decide_eq_true h]
  · cases h
def dClashI := dM "Clash" "__init__" "Clash.__init__" sClashI [] []
def exL (K : Frag) : List Bool := [He.tupB K "KINDS" (kinds.map .str), He.tupB K "LINES" (lines.map .str), He.tupB K "HANDS" (hands.map .str), He.tupB K "PLAIN_SIGNS" (plains.map .str),
  He.valsB K (He.ga K "PLANE_SIZES") (plains.map fun s => (s, .int (psz s))), excB K (He.ga K "Clash"),
  He.eqO (PySem.W.findIn K (.ref (He.ga K "Clash")) "__setattr__") (some (some (.builtin "object.__setattr__"))), decide (PySem.W.subIn K (.ref (He.ga K "Clash")) (.type "BaseException") = some true), decide (PySem.W.typeIn K (.ref (He.ga K "Clash")) = some (.type "type")),
  He.eqO (PySem.W.findIn K (.ref (He.ga K "Clash")) "__init__") (some (some (.ref (He.ma K (He.ga K "Clash") "__init__")))), decide (PySem.W.typeIn K (.ref (He.ma K (He.ga K "Clash") "__init__")) = some (.type "function")),
  decide (PySem.W.exmOne K (.ref (He.ga K "Clash")) (.ref (He.ga K "Clash")) = some true), He.eqO (PySem.W.specialIn K (.ref (He.ga K "HandError")) "__getattribute__") (some (some (.builtin "type.__getattribute__"))),
  PySem.W.readsIn K (He.ga K "HandError") (.type "type"), fiB K]
def exB (K : Frag) : Bool := (exL K).all id
def clsL : List Str := ["Word", "Claim", "SizeFacts", "Facts"]
def noatL : List (Str × Str) := [("Word", "sign"), ("Word", "parts"), ("Claim", "terms"), ("Claim", "sums"), ("SizeFacts", "weak"), ("SizeFacts", "strict"), ("Facts", "inside"), ("Facts", "outside")]
def methL : List (Str × Str) := ([("Claim", "total"), ("SizeFacts", "keep"), ("SizeFacts", "solve"), ("SizeFacts", "against"), ("SizeFacts", "model"), ("SizeFacts", "counter"), ("SizeFacts", "follows"), ("SizeFacts", "told_weights"), ("SizeFacts", "clash_weights")] : List (Str × Str)) ++
    ([("Facts", "kinds"), ("Facts", "broken"), ("Facts", "lacking"), ("Facts", "clashes"), ("Facts", "check"), ("Facts", "verdict"), ("Facts", "model")] : List (Str × Str))
def gAll : List Str := gNames ++ (gNames2 ++ gNames3)
def faL : List He.Fa := gAll.map .glo ++ ((gNames ++ (gNames2 ++ gNamesK)).map .keep ++ (fNames.map .free ++ (clsL.map .cls ++ (clsL.map .mkr ++ (noatL.map (fun p => .noat p.1 p.2) ++ (methL.map (fun p => .meth p.1 p.2) ++ [.glo "HandError"]))))))
def fnL : List He.DefD := fnG1 ++ (fnG2 ++ (fnM1 ++ (fnM2 ++ [dSizesI, dFactsI, dClashI])))
def tsL : List He.Tab := [(fun K => He.ga K "PLANE_SIZES", ["0", "a", "b", "c", "1"])]
/-- what it says, one by one (to see) -/
def see (K : Frag) : List Nat × List Nat × List Nat × List Nat × Option (List (Option (Str × Int))) :=
  (((faL.zipIdx).filter fun p => !p.1.ok K).map (·.2), ((fnL.zipIdx).filter fun p => !p.1.ok K).map (·.2), ((fnL.zipIdx).filter fun p => !(He.fnW K p.1.at_).isSome).map (·.2), ((exL K).zipIdx.filter fun p => !p.1).map (·.2), He.dicW K (He.ga K "PLANE_SIZES"))
end HX
end

section
set_option Elab.async false
set_option linter.all false
set_option maxRecDepth 100000
set_option maxHeartbeats 0
/-! The head's part of the heap, forced step by step, and the Hook over it. -/
namespace HX
open PySem PySem.Spec PyProof.Rows L2
open PySem.W (Frag)
def ext {α : Type} (g : Addr → Option Obj) (k : Frag → Frag → α) : List Addr → Frag → Frag → α
  | [], nw, al => k nw al
  | a :: r, nw, al => HandSHeadRun.frNat a fun a => match al.lookup a with
    | some _ => ext g k r nw al
    | none => match g a with
      | some o => ext g k r ((a, o) :: nw) ((a, o) :: al)
      | none => ext g k r nw al
def InG (g : Addr → Option Obj) (K : Frag) : Prop := ∀ a o, K.lookup a = some o → g a = some o
theorem InG.cons {g : Addr → Option Obj} {K : Frag} (h : InG g K) {a : Addr} {o : Obj} (e : g a = some o) : InG g ((a, o) :: K) := fun b p q => by
  rw [List.lookup_cons] at q
  by_cases hb : b = a
  · subst hb
    simp only [beq_self_eq_true] at q
    exact e.trans q
  · have : (b == a) = false := by simpa using hb
    rw [this] at q
    exact h b p q
theorem ext_ok {α : Type} {g : Addr → Option Obj} {k : Frag → Frag → α} : ∀ (l : List Addr) (nw al : Frag), InG g al → ∃ nw' al', ext g k l nw al = k nw' al' ∧ InG g al'
  | [], nw, al, h => ⟨nw, al, rfl, h⟩
  | a :: r, nw, al, h => by
    have e : ext g k (a :: r) nw al = HandSHeadRun.frNat a (fun a => match al.lookup a with
      | some _ => ext g k r nw al
      | none => match g a with
        | some o => ext g k r ((a, o) :: nw) ((a, o) :: al)
        | none => ext g k r nw al) := rfl
    rw [e, HandSHeadRun.frNat_eq]
    split
    · exact ext_ok r nw al h
    · split
      · rename_i o ho
        exact ext_ok r _ _ (h.cons ho)
      · exact ext_ok r nw al h
def refsK (K : Frag) : List Addr := K.flatMap fun p => He.refsD p.2
def nmL : List Str := gAll ++ (["HandError", "Clash", "KINDS", "LINES", "HANDS", "PLAIN_SIGNS", "PLANE_SIZES"] : List Str)
def build {α : Type} (g : Addr → Option Obj) (k : Frag → α) : α :=
  ext g (fun _ A => ext g (fun n1 A => ext g (fun n2 A => ext g (fun n3 A => ext g (fun _ A => k A) (refsK n3) [] A) (refsK n2) [] A) (refsK n1) [] A) (nmL.map (He.ga A)) [] A) [mainGlobals, cStatics] [] []
theorem build_ok {α : Type} {g : Addr → Option Obj} {k : Frag → α} : ∃ K, build g k = k K ∧ InG g K := by
  obtain ⟨n, A, e, h⟩ := ext_ok (g := g) (k := fun _ A => ext g (fun n1 A => ext g (fun n2 A => ext g (fun n3 A => ext g (fun _ A => k A) (refsK n3) [] A) (refsK n2) [] A) (refsK n1) [] A) (nmL.map (He.ga A)) [] A) [mainGlobals, cStatics] [] [] (fun _ _ q => nomatch (show (none : Option Obj) = some _ from q))
  obtain ⟨n1, A1, e1, h1⟩ := ext_ok (g := g) (k := fun n1 A => ext g (fun n2 A => ext g (fun n3 A => ext g (fun _ A => k A) (refsK n3) [] A) (refsK n2) [] A) (refsK n1) [] A) (nmL.map (He.ga A)) [] A h
  obtain ⟨n2, A2, e2, h2⟩ := ext_ok (g := g) (k := fun n2 A => ext g (fun n3 A => ext g (fun _ A => k A) (refsK n3) [] A) (refsK n2) [] A) (refsK n1) [] A1 h1
  obtain ⟨n3, A3, e3, h3⟩ := ext_ok (g := g) (k := fun n3 A => ext g (fun _ A => k A) (refsK n3) [] A) (refsK n2) [] A2 h2
  obtain ⟨n4, A4, e4, h4⟩ := ext_ok (g := g) (k := fun _ A => k A) (refsK n3) [] A3 h3
  exact ⟨A4, e.trans (e1.trans (e2.trans (e3.trans e4))), h4⟩
abbrev AlY : Type := He.AlT × Bool
def obsY (g : Addr → Option Obj) : AlY := build g fun K => (He.obsT faL fnL tsL K, exB K)
def hookY : PySem.W.Hook where
  α := AlY
  obs := fun s => obsY s.heap.get?
  val := fun w => (He.valT fnL tsL w, true)
  says := fun w h => ∃ K : Frag, K.In h ∧ He.SaysT faL fnL tsL w K ∧ exB K = true
  of := fun w s e => by
    obtain ⟨K, hk, hi⟩ := build_ok (g := s.heap.get?) (k := fun K => (He.obsT faL fnL tsL K, exB K))
    have e2 : (He.obsT faL fnL tsL K, exB K) = (He.valT fnL tsL w, true) := hk.symm.trans e
    exact ⟨K, hi, congrArg (fun z : AlY => z.1) e2, congrArg (fun z : AlY => z.2) e2⟩
  keeps := fun _ _ _ ⟨K, hK, c⟩ k => ⟨K, PySem.W.Frag.In.keeps hK k, c⟩
def obY (s : PySem.W.SharedT) : AlY := obsY (HandSHeadRun.getT s)
theorem obY_eq (s : PySem.W.SharedT) : obY s = hookY.obs s.abs := by
  have e : HandSHeadRun.getT s = s.abs.heap.get? := funext (HandSHeadRun.getT_eq s)
  show obsY (HandSHeadRun.getT s) = obsY s.abs.heap.get?
  rw [e]
end HX
end

section
set_option Elab.async false
set_option linter.all false
set_option maxRecDepth 100000
set_option maxHeartbeats 0
/-! The head's run. -/
namespace HX
open PySem PySem.W PySem.Calls PyProof.Rows HandSHeadRun
def loo0 : List Str := ["_wall", "HandError", "BadPrime", "NoInverse", "BadLength", "BadVector", "UnlikeSpaces", "BadText", "BadSign", "BadColumn", "BadNumbers", "Clash", "PRIMES", "is_integer"]
def loo1 : List Str := ["is_prime", "inverse", "power", "MOST", "is_vector", "leading", "combined", "reduced", "echelon", "cut_rows", "check_frame", "check_alike", "unit", "Space"]
def loo2 : List Str := ["read_number", "HANDS", "PLAIN_SIGNS", "MOST_OPEN", "Word", "leaves", "enclosed", "Reader", "LINES", "KINDS", "value", "full_numbers", "in_plane", "mark"]
def loo3 : List Str := ["marks", "is_within", "PLANE_SIZES", "MOST_DIGITS", "coefficients", "read_integer", "read_word", "Claim", "first_lines", "entering", "leaving", "turned_lines", "solved_rows", "row_of"]
def loo4 : List Str := ["SizeFacts", "Facts", "_law_tape", "_law_pick", "_law_shape", "_law_word", "_law_inner", "_law_outer", "_law_pairs", "_law_words", "_law_allowed", "_law_clash", "_law_models_right"]
def looseL : List Str := loo0 ++ (loo1 ++ (loo2 ++ (loo3 ++ (loo4))))
theorem map3 {α β γ δ : Type} {x : Option α} {f : α → β} {g : α → γ} {k : α → δ} {b : β} {c : γ} {d : δ} (hA : x.map (fun s => (f s, g s)) = some (b, c)) (hB : x.map (fun s => k s) = some d) : x.map (fun s => (f s, g s, k s)) = some (b, c, d) := by
  cases x with
  | none => cases hA
  | some s =>
    have h1 : (f s, g s) = (b, c) := Option.some.inj hA
    have h2 : k s = d := Option.some.inj hB
    injection h1 with h3 h4
    show some (f s, g s, k s) = some (b, c, d)
    rw [h3, h4, h2]
end HX
end

section
set_option Elab.async false
set_option linter.all false
set_option maxRecDepth 100000
set_option maxHeartbeats 0
/-! The head's run. -/
namespace HX
open PySem PySem.W PySem.Calls PyProof.Rows HandSHeadRun
theorem runBf (w : World) (os : OsState) : (endF (stepQ (denQ tabQ) R.prog (w.withFollow "special-get-raises" false)) 15000 R.prog (w.withFollow "special-get-raises" false) os).map (fun s => obY s) = some (hookY.val (w.withFollow "special-get-raises" false)) := by kernel_rfl
end HX
end

section
set_option Elab.async false
set_option linter.all false
set_option maxRecDepth 100000
set_option maxHeartbeats 0
/-! The head's run. -/
namespace HX
open PySem PySem.W PySem.Calls PyProof.Rows HandSHeadRun
theorem runBt (w : World) (os : OsState) : (endF (stepQ (denQ tabQ) R.prog (w.withFollow "special-get-raises" true)) 15000 R.prog (w.withFollow "special-get-raises" true) os).map (fun s => obY s) = some (hookY.val (w.withFollow "special-get-raises" true)) := by kernel_rfl
end HX
end

section
set_option Elab.async false
set_option linter.all false
set_option maxRecDepth 100000
set_option maxHeartbeats 0
/-! The head's run. -/
namespace HX
open PySem PySem.W PySem.Calls PyProof.Rows HandSHeadRun
theorem runAf (w : World) (os : OsState) : (endF (stepQ (denQ tabQ) R.prog (w.withFollow "special-get-raises" false)) 15000 R.prog (w.withFollow "special-get-raises" false) os).map (fun s => (looksF R.prog (boot_heap (w.withFollow "special-get-raises" false).params) s.abs, seenQ qv looseL (importedModules R.prog.main.body) (fun s => xlAt qv [] s && recOk R.toRowW.records s) s.abs)) = some (true, openGood qv looseL) := by kernel_rfl
end HX
end

section
set_option Elab.async false
set_option linter.all false
set_option maxRecDepth 100000
set_option maxHeartbeats 0
/-! The head's run. -/
namespace HX
open PySem PySem.W PySem.Calls PyProof.Rows HandSHeadRun
theorem runAt (w : World) (os : OsState) : (endF (stepQ (denQ tabQ) R.prog (w.withFollow "special-get-raises" true)) 15000 R.prog (w.withFollow "special-get-raises" true) os).map (fun s => (looksF R.prog (boot_heap (w.withFollow "special-get-raises" true).params) s.abs, seenQ qv looseL (importedModules R.prog.main.body) (fun s => xlAt qv [] s && recOk R.toRowW.records s) s.abs)) = some (true, openGood qv looseL) := by kernel_rfl
end HX
end

section
set_option Elab.async false
set_option linter.all false
set_option maxRecDepth 100000
set_option maxHeartbeats 0
/-! The head's run, joined. -/
namespace HX
open PySem PySem.W PySem.Calls PyProof.Rows HandSHeadRun
theorem run (w : World) : HandSHeadRun.RunEq R qv hookY obY 15000 looseL w :=
  PySem.W.byRow2 "special-get-raises" (P := fun w => HandSHeadRun.RunEq R qv hookY obY 15000 looseL w) (fun w => by
    intro os
    exact map3 (runAf w os) (runBf w os)) (fun w => by
    intro os
    exact map3 (runAt w os) (runBt w os)) w
end HX
end

section
set_option linter.all false
set_option maxHeartbeats 1000000
/-! Sums, forms (a wedge product), and why the pivots of whole numbers divide without rest. -/
namespace KX
/-! ### sums -/
def S : Nat → (Nat → Int) → Int
  | 0, _ => 0
  | n + 1, f => S n f + f n
theorem S_congr : ∀ {n : Nat} {f g : Nat → Int}, (∀ i, i < n → f i = g i) → S n f = S n g
  | 0, _, _, _ => rfl
  | n + 1, f, g, h => by
    show S n f + f n = S n g + g n
    rw [S_congr (fun i hi => h i (Nat.lt_succ_of_lt hi)), h n (Nat.lt_succ_self n)]
theorem S_zero : ∀ {n : Nat} {f : Nat → Int}, (∀ i, i < n → f i = 0) → S n f = 0
  | 0, _, _ => rfl
  | n + 1, f, h => by
    show S n f + f n = 0
    rw [S_zero (fun i hi => h i (Nat.lt_succ_of_lt hi)), h n (Nat.lt_succ_self n)]
    rfl
theorem S_add : ∀ (n : Nat) (f g : Nat → Int), S n (fun i => f i + g i) = S n f + S n g
  | 0, _, _ => rfl
  | n + 1, f, g => by
    show S n (fun i => f i + g i) + (f n + g n) = (S n f + f n) + (S n g + g n)
    rw [S_add n f g]; omega
theorem S_sub : ∀ (n : Nat) (f g : Nat → Int), S n (fun i => f i - g i) = S n f - S n g
  | 0, _, _ => rfl
  | n + 1, f, g => by
    show S n (fun i => f i - g i) + (f n - g n) = (S n f + f n) - (S n g + g n)
    rw [S_sub n f g]; omega
theorem S_mul : ∀ (n : Nat) (c : Int) (f : Nat → Int), S n (fun i => c * f i) = c * S n f
  | 0, c, _ => by show (0 : Int) = c * 0; omega
  | n + 1, c, f => by
    show S n (fun i => c * f i) + c * f n = c * (S n f + f n)
    rw [S_mul n c f]; grind
theorem S_mulr (n : Nat) (c : Int) (f : Nat → Int) : S n (fun i => f i * c) = S n f * c := by
  rw [Int.mul_comm, ← S_mul]
  exact S_congr fun i _ => Int.mul_comm _ _
theorem S_one : ∀ {n k : Nat} {f : Nat → Int}, k < n → (∀ i, i < n → i ≠ k → f i = 0) → S n f = f k
  | 0, k, f, h, _ => absurd h (Nat.not_lt_zero k)
  | n + 1, k, f, hk, h => by
    show S n f + f n = f k
    by_cases e : k = n
    · subst e
      rw [S_zero (fun i hi => h i (Nat.lt_succ_of_lt hi) (Nat.ne_of_lt hi))]; omega
    · rw [S_one (k := k) (by omega) (fun i hi => h i (Nat.lt_succ_of_lt hi)), h n (Nat.lt_succ_self n) (fun z => e z.symm)]; omega
theorem S_nonneg : ∀ {n : Nat} {f : Nat → Int}, (∀ i, i < n → 0 ≤ f i) → 0 ≤ S n f
  | 0, _, _ => Int.le_refl 0
  | n + 1, f, h => by
    have a := S_nonneg (n := n) (f := f) (fun i hi => h i (Nat.lt_succ_of_lt hi))
    have b := h n (Nat.lt_succ_self n)
    show 0 ≤ S n f + f n
    omega
theorem S_le : ∀ {n : Nat} {f g : Nat → Int}, (∀ i, i < n → f i ≤ g i) → S n f ≤ S n g
  | 0, _, _, _ => Int.le_refl 0
  | n + 1, f, g, h => by
    have a := S_le (n := n) (f := f) (g := g) (fun i hi => h i (Nat.lt_succ_of_lt hi))
    have b := h n (Nat.lt_succ_self n)
    show S n f + f n ≤ S n g + g n
    omega
theorem S_pos : ∀ {n : Nat} {f : Nat → Int}, 0 < S n f → ∃ i, i < n ∧ 0 < f i
  | 0, _, h => absurd h (Int.lt_irrefl 0)
  | n + 1, f, h => by
    by_cases c : 0 < f n
    · exact ⟨n, Nat.lt_succ_self n, c⟩
    · have z : 0 < S n f := by
        have : 0 < S n f + f n := h
        omega
      obtain ⟨i, hi, hf⟩ := S_pos z
      exact ⟨i, Nat.lt_succ_of_lt hi, hf⟩
theorem S_neg {n : Nat} {f : Nat → Int} (h : S n f < 0) : ∃ i, i < n ∧ f i < 0 := by
  have : 0 < S n (fun i => (-1) * f i) := by rw [S_mul]; omega
  obtain ⟨i, hi, z⟩ := S_pos this
  exact ⟨i, hi, by omega⟩
theorem S_all0 : ∀ {n : Nat} {f : Nat → Int}, (∀ i, i < n → 0 ≤ f i) → S n f ≤ 0 → ∀ i, i < n → f i = 0
  | 0, _, _, _, i, hi => absurd hi (Nat.not_lt_zero i)
  | n + 1, f, h, hs, i, hi => by
    have a := S_nonneg (n := n) (f := f) (fun i hi => h i (Nat.lt_succ_of_lt hi))
    have b := h n (Nat.lt_succ_self n)
    have hs' : S n f + f n ≤ 0 := hs
    by_cases e : i = n
    · subst e; omega
    · exact S_all0 (fun i hi => h i (Nat.lt_succ_of_lt hi)) (by omega) i (by omega)
theorem S_swap : ∀ (n m : Nat) (f : Nat → Nat → Int), S n (fun i => S m (fun j => f i j)) = S m (fun j => S n (fun i => f i j))
  | 0, m, f => (S_zero (n := m) (f := fun j => S 0 (fun i => f i j)) (fun _ _ => rfl)).symm
  | n + 1, m, f => by
    show S n (fun i => S m (fun j => f i j)) + S m (fun j => f n j) = S m (fun j => S n (fun i => f i j) + f n j)
    rw [S_swap n m f, S_add]
theorem S_split (n k : Nat) (f : Nat → Int) (hk : k < n) : S n f = f k + S n (fun i => if i = k then 0 else f i) := by
  have e1 : S n (fun i => if i = k then f k else 0) = f k := by
    have e2 := S_one (n := n) (k := k) (f := fun i => if i = k then f k else 0) hk (fun i _ h => if_neg h)
    rw [e2]; exact if_pos rfl
  rw [← e1, ← S_add]
  refine S_congr fun i _ => ?_
  by_cases e : i = k
  · subst e; rw [if_pos rfl, if_pos rfl]; omega
  · rw [if_neg e, if_neg e]; omega
/-! ### forms -/
abbrev Vec := Nat → Int
abbrev Form := List Bool → Int
/-- the tail of a vector -/
def tl (v : Vec) : Vec := fun i => v (i + 1)
/-- v wedge w, in m dimensions -/
def wedge : Nat → Vec → Form → Form
  | 0, _, _ => fun _ => 0
  | m + 1, v, w => fun p => match p with
    | [] => 0
    | false :: q => wedge m (tl v) (fun q => w (false :: q)) q
    | true :: q => v 0 * w (false :: q) - wedge m (tl v) (fun q => w (true :: q)) q
theorem wedge_r : ∀ (m : Nat) (v : Vec) (a b : Int) (f g : Form) (p : List Bool), wedge m v (fun q => a * f q + b * g q) p = a * wedge m v f p + b * wedge m v g p
  | 0, _, a, b, _, _, _ => by simp [wedge]
  | m + 1, v, a, b, f, g, [] => by simp [wedge]
  | m + 1, v, a, b, f, g, false :: q => by
    simp only [wedge]
    exact wedge_r m (tl v) a b (fun q => f (false :: q)) (fun q => g (false :: q)) q
  | m + 1, v, a, b, f, g, true :: q => by
    simp only [wedge]
    rw [wedge_r m (tl v) a b (fun q => f (true :: q)) (fun q => g (true :: q)) q]
    grind
theorem wedge_l : ∀ (m : Nat) (v w : Vec) (a b : Int) (f : Form) (p : List Bool), wedge m (fun i => a * v i + b * w i) f p = a * wedge m v f p + b * wedge m w f p
  | 0, _, _, a, b, _, _ => by simp [wedge]
  | m + 1, v, w, a, b, f, [] => by simp [wedge]
  | m + 1, v, w, a, b, f, false :: q => by
    simp only [wedge]
    exact wedge_l m (tl v) (tl w) a b (fun q => f (false :: q)) q
  | m + 1, v, w, a, b, f, true :: q => by
    simp only [wedge]
    have e := wedge_l m (tl v) (tl w) a b (fun q => f (true :: q)) q
    have e2 : tl (fun i => a * v i + b * w i) = fun i => a * tl v i + b * tl w i := rfl
    rw [e2, e]
    grind
theorem wedge_self : ∀ (m : Nat) (v : Vec) (f : Form) (p : List Bool), wedge m v (wedge m v f) p = 0
  | 0, _, _, _ => rfl
  | m + 1, v, f, [] => rfl
  | m + 1, v, f, false :: q => by
    show wedge m (tl v) (fun q => wedge (m + 1) v f (false :: q)) q = 0
    exact wedge_self m (tl v) (fun q => f (false :: q)) q
  | m + 1, v, f, true :: q => by
    show v 0 * wedge m (tl v) (fun q => f (false :: q)) q - wedge m (tl v) (fun q => v 0 * f (false :: q) - wedge m (tl v) (fun q => f (true :: q)) q) q = 0
    have e := wedge_r m (tl v) (v 0) (-1) (fun q => f (false :: q)) (wedge m (tl v) (fun q => f (true :: q))) q
    have e2 : (fun q => v 0 * f (false :: q) - wedge m (tl v) (fun q => f (true :: q)) q) = (fun q => v 0 * f (false :: q) + (-1) * wedge m (tl v) (fun q => f (true :: q)) q) := by
      funext q; omega
    rw [e2, e, wedge_self m (tl v) (fun q => f (true :: q)) q]
    omega
theorem wedge_zero (m : Nat) (v : Vec) (p : List Bool) : wedge m v (fun _ => 0) p = 0 := by
  have e := wedge_r m v 0 0 (fun _ => 0) (fun _ => 0) p
  simpa using e
theorem wedge_swap (m : Nat) (v w : Vec) (f : Form) (p : List Bool) : wedge m v (wedge m w f) p = - wedge m w (wedge m v f) p := by
  have e := wedge_self m (fun i => 1 * v i + 1 * w i) f p
  have e1 : wedge m (fun i => 1 * v i + 1 * w i) f = fun q => 1 * wedge m v f q + 1 * wedge m w f q := by
    funext q; exact wedge_l m v w 1 1 f q
  rw [e1, wedge_l, wedge_r, wedge_r, wedge_self, wedge_self] at e
  omega
theorem wedge_congr : ∀ (m : Nat) {v w : Vec} (f : Form) (p : List Bool), (∀ i, i < m → v i = w i) → wedge m v f p = wedge m w f p
  | 0, _, _, _, _, _ => rfl
  | m + 1, v, w, f, [], _ => rfl
  | m + 1, v, w, f, false :: q, h => by
    simp only [wedge]
    exact wedge_congr m _ q (fun i hi => h (i + 1) (by omega))
  | m + 1, v, w, f, true :: q, h => by
    simp only [wedge]
    rw [wedge_congr m (v := tl v) (w := tl w) _ q (fun i hi => h (i + 1) (by omega)), h 0 (by omega)]
/-- the unit form -/
def one : Form := fun p => if p.all (! ·) then 1 else 0
/-- c 0 wedge c 1 .. wedge c (n - 1) -/
def W (m : Nat) : Nat → (Nat → Vec) → Form
  | 0, _ => one
  | n + 1, c => wedge m (c 0) (W m n (fun i => c (i + 1)))
def D (m : Nat) (c : Nat → Vec) : Int := W m m c (List.replicate m true)
def upd {α : Type} (c : Nat → α) (k : Nat) (x : α) : Nat → α := fun i => if i = k then x else c i
theorem upd_at {α : Type} (c : Nat → α) (k : Nat) (x : α) : upd c k x k = x := if_pos rfl
theorem upd_off {α : Type} (c : Nat → α) {k i : Nat} (x : α) (h : i ≠ k) : upd c k x i = c i := if_neg h
theorem upd_tl0 {α : Type} (c : Nat → α) (x : α) : (fun i => upd c 0 x (i + 1)) = fun i => c (i + 1) := by
  funext i; exact if_neg (by omega)
theorem upd_tlS {α : Type} (c : Nat → α) (k : Nat) (x : α) : (fun i => upd c (k + 1) x (i + 1)) = upd (fun i => c (i + 1)) k x := by
  funext i
  unfold upd
  by_cases e : i = k
  · subst e; rw [if_pos rfl, if_pos rfl]
  · rw [if_neg e, if_neg (by omega)]
theorem W_lin (m : Nat) : ∀ (n k : Nat) (c : Nat → Vec) (a b : Int) (x y : Vec), k < n → ∀ p, W m n (upd c k (fun i => a * x i + b * y i)) p = a * W m n (upd c k x) p + b * W m n (upd c k y) p
  | 0, k, _, _, _, _, _, h, _ => absurd h (Nat.not_lt_zero k)
  | n + 1, 0, c, a, b, x, y, _, p => by
    show wedge m (upd c 0 _ 0) (W m n (fun i => upd c 0 _ (i + 1))) p = a * wedge m (upd c 0 _ 0) (W m n (fun i => upd c 0 _ (i + 1))) p + b * wedge m (upd c 0 _ 0) (W m n (fun i => upd c 0 _ (i + 1))) p
    rw [upd_tl0, upd_tl0, upd_tl0, upd_at, upd_at, upd_at, wedge_l]
  | n + 1, k + 1, c, a, b, x, y, h, p => by
    show wedge m (upd c (k + 1) _ 0) (W m n (fun i => upd c (k + 1) _ (i + 1))) p = a * wedge m (upd c (k + 1) _ 0) (W m n (fun i => upd c (k + 1) _ (i + 1))) p + b * wedge m (upd c (k + 1) _ 0) (W m n (fun i => upd c (k + 1) _ (i + 1))) p
    rw [upd_tlS, upd_tlS, upd_tlS, upd_off _ _ (by omega : 0 ≠ k + 1), upd_off _ _ (by omega : 0 ≠ k + 1), upd_off _ _ (by omega : 0 ≠ k + 1)]
    have e : W m n (upd (fun i => c (i + 1)) k (fun i => a * x i + b * y i)) = fun q => a * W m n (upd (fun i => c (i + 1)) k x) q + b * W m n (upd (fun i => c (i + 1)) k y) q := by
      funext q; exact W_lin m n k _ a b x y (by omega) q
    rw [e, wedge_r]
theorem W_dup1 (m : Nat) : ∀ (n k : Nat) (c : Nat → Vec) (v : Vec), k < n → c k = v → ∀ p, wedge m v (W m n c) p = 0
  | 0, k, _, _, h, _, _ => absurd h (Nat.not_lt_zero k)
  | n + 1, 0, c, v, _, e, p => by
    show wedge m v (wedge m (c 0) (W m n (fun i => c (i + 1)))) p = 0
    rw [e]; exact wedge_self m v _ p
  | n + 1, k + 1, c, v, h, e, p => by
    show wedge m v (wedge m (c 0) (W m n (fun i => c (i + 1)))) p = 0
    rw [wedge_swap]
    have e0 : wedge m v (W m n (fun i => c (i + 1))) = fun _ => 0 := by
      funext q; exact W_dup1 m n k _ v (by omega) e q
    rw [e0, wedge_zero]; rfl
theorem W_dup (m : Nat) : ∀ (n i j : Nat) (c : Nat → Vec), i < j → j < n → c i = c j → ∀ p, W m n c p = 0
  | 0, _, j, _, _, h, _, _ => absurd h (Nat.not_lt_zero j)
  | n + 1, 0, 0, c, h, _, _, _ => absurd h (Nat.lt_irrefl 0)
  | n + 1, 0, j + 1, c, _, h, e, p => W_dup1 m n j (fun i => c (i + 1)) (c 0) (by omega) e.symm p
  | n + 1, i + 1, 0, c, h, _, _, _ => absurd h (Nat.not_lt_zero _)
  | n + 1, i + 1, j + 1, c, hij, h, e, p => by
    show wedge m (c 0) (W m n (fun i => c (i + 1))) p = 0
    have e0 : W m n (fun i => c (i + 1)) = fun _ => 0 := by
      funext q; exact W_dup m n i j (fun i => c (i + 1)) (by omega) (by omega) e q
    rw [e0, wedge_zero]
theorem D_lin {m k : Nat} (c : Nat → Vec) (a b : Int) (x y : Vec) (h : k < m) : D m (upd c k (fun i => a * x i + b * y i)) = a * D m (upd c k x) + b * D m (upd c k y) := W_lin m m k c a b x y h _
theorem D_dup {m i j : Nat} {c : Nat → Vec} (hi : i < m) (hj : j < m) (h : i ≠ j) (e : c i = c j) : D m c = 0 := by
  by_cases z : i < j
  · exact W_dup m m i j c z hj e _
  · exact W_dup m m j i c (by omega) hi e.symm _
theorem W_congr (m : Nat) : ∀ (n : Nat) {c d : Nat → Vec}, (∀ i r, i < n → r < m → c i r = d i r) → ∀ p, W m n c p = W m n d p
  | 0, _, _, _, _ => rfl
  | n + 1, c, d, h, p => by
    show wedge m (c 0) (W m n (fun i => c (i + 1))) p = wedge m (d 0) (W m n (fun i => d (i + 1))) p
    have e0 : W m n (fun i => c (i + 1)) = W m n (fun i => d (i + 1)) := by
      funext q; exact W_congr m n (fun i r hi hr => h (i + 1) r (by omega) hr) q
    rw [e0]
    exact wedge_congr m _ p (fun r hr => h 0 r (by omega) hr)
theorem D_congr {m : Nat} {c d : Nat → Vec} (h : ∀ i r, i < m → r < m → c i r = d i r) : D m c = D m d := W_congr m m h _
theorem D_zero {m k : Nat} (c : Nat → Vec) (h : k < m) : D m (upd c k (fun _ => 0)) = 0 := by
  have e := D_lin c 0 0 (fun _ => 0) (fun _ => 0) h
  simpa using e
/-- a sum in one place -/
theorem D_sum {m k : Nat} (c : Nat → Vec) (h : k < m) (x : Nat → Vec) (a : Nat → Int) : ∀ n, D m (upd c k (fun r => S n (fun i => a i * x i r))) = S n (fun i => a i * D m (upd c k (x i)))
  | 0 => D_zero c h
  | n + 1 => by
    have e := D_lin c 1 (a n) (fun r => S n (fun i => a i * x i r)) (x n) h
    have e2 : (fun r => S (n + 1) (fun i => a i * x i r)) = fun r => 1 * S n (fun i => a i * x i r) + a n * x n r := by
      funext r; show S n (fun i => a i * x i r) + a n * x n r = _; omega
    rw [e2, e, D_sum c h x a n]
    show 1 * S n (fun i => a i * D m (upd c k (x i))) + a n * D m (upd c k (x n)) = S n (fun i => a i * D m (upd c k (x i))) + a n * D m (upd c k (x n))
    omega
theorem W_low (m : Nat) : ∀ (n : Nat) (c : Nat → Vec), (∀ i, i < n → c i 0 = 0) → (∀ q, W (m + 1) n c (false :: q) = W m n (fun i => tl (c i)) q) ∧ (∀ q, W (m + 1) n c (true :: q) = 0)
  | 0, _, _ => ⟨fun q => by simp [W, one], fun q => by simp [W, one]⟩
  | n + 1, c, h => by
    obtain ⟨h1, h2⟩ := W_low m n (fun i => c (i + 1)) (fun i hi => h (i + 1) (by omega))
    refine ⟨fun q => ?_, fun q => ?_⟩
    · show wedge m (tl (c 0)) (fun q => W (m + 1) n (fun i => c (i + 1)) (false :: q)) q = wedge m (tl (c 0)) (W m n (fun i => tl (c (i + 1)))) q
      have e : (fun q => W (m + 1) n (fun i => c (i + 1)) (false :: q)) = W m n (fun i => tl (c (i + 1))) := funext h1
      rw [e]
    · show c 0 0 * W (m + 1) n (fun i => c (i + 1)) (false :: q) - wedge m (tl (c 0)) (fun q => W (m + 1) n (fun i => c (i + 1)) (true :: q)) q = 0
      have e : (fun q => W (m + 1) n (fun i => c (i + 1)) (true :: q)) = fun _ => 0 := funext h2
      rw [e, wedge_zero, h 0 (by omega)]; omega
theorem D_unit : ∀ (m : Nat), D m (fun i r => if r = i then 1 else 0) = 1
  | 0 => rfl
  | m + 1 => by
    have IH := D_unit m
    show (1 : Int) * W (m + 1) m (fun i r => if r = i + 1 then 1 else 0) (false :: List.replicate m true) - wedge m (tl (fun r => if r = 0 then 1 else 0)) (fun q => W (m + 1) m (fun i r => if r = i + 1 then 1 else 0) (true :: q)) (List.replicate m true) = 1
    obtain ⟨h1, h2⟩ := W_low m m (fun i r => if r = i + 1 then (1 : Int) else 0) (fun i _ => if_neg (by omega))
    have e : (fun q => W (m + 1) m (fun i r => if r = i + 1 then (1 : Int) else 0) (true :: q)) = fun _ => 0 := funext h2
    rw [e, wedge_zero, h1]
    have e2 : W m m (fun i => tl (fun r => if r = i + 1 then (1 : Int) else 0)) (List.replicate m true) = D m (fun i r => if r = i then 1 else 0) := by
      refine D_congr (m := m) fun i r _ _ => ?_
      show (if r + 1 = i + 1 then (1 : Int) else 0) = if r = i then 1 else 0
      by_cases z : r = i
      · rw [if_pos (by omega), if_pos z]
      · rw [if_neg (by omega), if_neg z]
    rw [e2, IH]; omega
theorem D_id {m : Nat} {c : Nat → Vec} (h : ∀ i r, i < m → r < m → c i r = if r = i then 1 else 0) : D m c = 1 := (D_congr h).trans (D_unit m)
/-! ### how large -/
theorem wedge_le : ∀ (m : Nat) (v : Vec) (E B : Nat) (f : Form) (p : List Bool), (∀ i, i < m → (v i).natAbs ≤ E) → (∀ q, (f q).natAbs ≤ B) → (wedge m v f p).natAbs ≤ m * E * B
  | 0, _, _, _, _, _, _, _ => by simp [wedge]
  | m + 1, v, E, B, f, [], _, _ => by simp [wedge]
  | m + 1, v, E, B, f, false :: q, h1, h2 => by
    have e := wedge_le m (tl v) E B (fun q => f (false :: q)) q (fun i hi => h1 (i + 1) (by omega)) (fun q => h2 _)
    show (wedge m (tl v) (fun q => f (false :: q)) q).natAbs ≤ _
    refine Nat.le_trans e ?_
    exact Nat.mul_le_mul_right _ (Nat.mul_le_mul_right _ (Nat.le_succ m))
  | m + 1, v, E, B, f, true :: q, h1, h2 => by
    have e := wedge_le m (tl v) E B (fun q => f (true :: q)) q (fun i hi => h1 (i + 1) (by omega)) (fun q => h2 _)
    show (v 0 * f (false :: q) - wedge m (tl v) (fun q => f (true :: q)) q).natAbs ≤ _
    have e1 : (v 0 * f (false :: q)).natAbs ≤ E * B := by
      rw [Int.natAbs_mul]; exact Nat.mul_le_mul (h1 0 (by omega)) (h2 _)
    have e2 : (m + 1) * E * B = m * E * B + E * B := by rw [Nat.add_mul, Nat.add_mul, Nat.one_mul]
    rw [e2]
    omega
theorem one_le (p : List Bool) : (one p).natAbs ≤ 1 := by
  unfold one
  by_cases h : p.all (! ·) = true
  · rw [if_pos h]; decide
  · rw [if_neg h]; decide
theorem W_le (m E : Nat) : ∀ (n : Nat) (c : Nat → Vec) (p : List Bool), (∀ i r, i < n → r < m → (c i r).natAbs ≤ E) → (W m n c p).natAbs ≤ (m * E) ^ n
  | 0, _, p, _ => one_le p
  | n + 1, c, p, h => by
    have e := wedge_le m (c 0) E ((m * E) ^ n) (W m n (fun i => c (i + 1))) p (fun r hr => h 0 r (by omega) hr) (fun q => W_le m E n _ q (fun i r hi hr => h (i + 1) r (by omega) hr))
    show (wedge m (c 0) (W m n (fun i => c (i + 1))) p).natAbs ≤ _
    rw [Nat.pow_succ, Nat.mul_comm ((m * E) ^ n)]
    exact e
theorem D_le {m E : Nat} {c : Nat → Vec} (h : ∀ i r, i < m → r < m → (c i r).natAbs ≤ E) : (D m c).natAbs ≤ (m * E) ^ m := W_le m E m c _ h
/-! ### the tableau -/
/-- column j of A -/
def col (A : Nat → Nat → Int) (j : Nat) : Vec := fun r => A r j
/-- the columns of A at o -/
def cols (A : Nat → Nat → Int) (o : Nat → Nat) : Nat → Vec := fun i => col A (o i)
theorem cols_upd (A : Nat → Nat → Int) (o : Nat → Nat) (k j : Nat) : cols A (upd o k j) = upd (cols A o) k (col A j) := by
  funext i
  unfold cols upd
  by_cases e : i = k
  · rw [if_pos e, if_pos e]
  · rw [if_neg e, if_neg e]
/-- L is the tableau of A at the basis o: u times A is the basis times L -/
structure Tab (m : Nat) (A : Nat → Nat → Int) (o : Nat → Nat) (u : Int) (L : Nat → Nat → Int) (R : Nat) : Prop where
  pos : 0 < u
  det : D m (cols A o) = u
  rel : ∀ j r, j ≤ R → r < m → u * A r j = S m (fun i => L i j * A r (o i))
  own : ∀ i, i < m → o i ≤ R
theorem Tab.form {m : Nat} {A : Nat → Nat → Int} {o : Nat → Nat} {u : Int} {L : Nat → Nat → Int} {R : Nat} (T : Tab m A o u L R) {k j : Nat} (hk : k < m) (hj : j ≤ R) : L k j = D m (upd (cols A o) k (col A j)) := by
  have e1 : D m (upd (cols A o) k (fun r => S m (fun i => L i j * cols A o i r))) = S m (fun i => L i j * D m (upd (cols A o) k (cols A o i))) := D_sum _ hk _ _ m
  have e2 : D m (upd (cols A o) k (fun r => S m (fun i => L i j * cols A o i r))) = D m (upd (cols A o) k (fun r => u * col A j r + 0 * col A j r)) := by
    refine D_congr fun i r hi hr => ?_
    by_cases e : i = k
    · subst e
      rw [upd_at, upd_at]
      have := T.rel j r hj hr
      show S m (fun i => L i j * A r (o i)) = u * A r j + 0 * A r j
      rw [← this]; omega
    · rw [upd_off _ _ e, upd_off _ _ e]
  rw [e2, D_lin _ _ _ _ _ hk] at e1
  have e3 : S m (fun i => L i j * D m (upd (cols A o) k (cols A o i))) = L k j * u := by
    have e4 := S_one (n := m) (k := k) (f := fun i => L i j * D m (upd (cols A o) k (cols A o i))) hk (fun i hi hne => by
      show L i j * D m (upd (cols A o) k (cols A o i)) = 0
      have z : D m (upd (cols A o) k (cols A o i)) = 0 := D_dup hk hi (fun z => hne z.symm) (by rw [upd_at, upd_off _ _ hne])
      rw [z]; omega)
    rw [e4]
    show L k j * D m (upd (cols A o) k (cols A o k)) = L k j * u
    have z : upd (cols A o) k (cols A o k) = cols A o := by
      funext i
      by_cases e : i = k
      · subst e; exact upd_at _ _ _
      · exact upd_off _ _ e
    rw [z, T.det]
  rw [e3] at e1
  have hu := T.pos
  have e5 : u * D m (upd (cols A o) k (col A j)) = u * L k j := by grind
  exact (Int.eq_of_mul_eq_mul_left (by omega) e5).symm
/-- the basis' columns -/
theorem Tab.unit {m : Nat} {A : Nat → Nat → Int} {o : Nat → Nat} {u : Int} {L : Nat → Nat → Int} {R : Nat} (T : Tab m A o u L R) {k i : Nat} (hk : k < m) (hi : i < m) : L k (o i) = if i = k then u else 0 := by
  rw [T.form hk (T.own i hi)]
  by_cases e : i = k
  · subst e
    rw [if_pos rfl, ← T.det]
    refine D_congr fun j r _ _ => ?_
    by_cases e : j = i
    · subst e; rw [upd_at]; rfl
    · rw [upd_off _ _ e]
  · rw [if_neg e]
    exact D_dup hk hi (fun z => e z.symm) (by rw [upd_at, upd_off _ _ e]; rfl)
theorem Tab.inj {m : Nat} {A : Nat → Nat → Int} {o : Nat → Nat} {u : Int} {L : Nat → Nat → Int} {R : Nat} (T : Tab m A o u L R) {k i : Nat} (hk : k < m) (hi : i < m) (e : o i = o k) : i = k := by
  have h1 := T.unit hk hi
  have h2 := T.unit hk hk
  rw [e, h2, if_pos rfl] at h1
  by_cases z : i = k
  · exact z
  · rw [if_neg z] at h1
    have := T.pos
    omega
/-- every relation of A's columns holds for L's rows -/
theorem Tab.fwd {m : Nat} {A : Nat → Nat → Int} {o : Nat → Nat} {u : Int} {L : Nat → Nat → Int} {R : Nat} (T : Tab m A o u L R) (v : Nat → Int) (h : ∀ r, r < m → S (R + 1) (fun j => v j * A r j) = 0) {k : Nat} (hk : k < m) : S (R + 1) (fun j => v j * L k j) = 0 := by
  have e1 := D_sum (cols A o) hk (col A) v (R + 1)
  have e2 : D m (upd (cols A o) k (fun r => S (R + 1) (fun j => v j * col A j r))) = 0 := by
    rw [← D_zero (cols A o) hk]
    refine D_congr fun i r hi hr => ?_
    by_cases e : i = k
    · subst e; rw [upd_at, upd_at]; exact h r hr
    · rw [upd_off _ _ e, upd_off _ _ e]
  rw [← e2, e1]
  refine S_congr fun j hj => ?_
  rw [T.form hk (by omega)]
/-- every relation of L's columns holds for A's rows -/
theorem Tab.back {m : Nat} {A : Nat → Nat → Int} {o : Nat → Nat} {u : Int} {L : Nat → Nat → Int} {R : Nat} (T : Tab m A o u L R) (v : Nat → Int) (h : ∀ k, k < m → S (R + 1) (fun j => v j * L k j) = 0) {r : Nat} (hr : r < m) : S (R + 1) (fun j => v j * A r j) = 0 := by
  have e1 : u * S (R + 1) (fun j => v j * A r j) = S (R + 1) (fun j => S m (fun i => v j * L i j * A r (o i))) := by
    rw [← S_mul]
    refine S_congr fun j hj => ?_
    have := T.rel j r (by omega) hr
    have e2 : S m (fun i => v j * L i j * A r (o i)) = v j * S m (fun i => L i j * A r (o i)) := by
      rw [← S_mul]; exact S_congr fun i _ => Int.mul_assoc _ _ _
    rw [e2, ← this]; grind
  rw [S_swap] at e1
  have e3 : S m (fun i => S (R + 1) (fun j => v j * L i j * A r (o i))) = 0 := by
    refine S_zero fun i hi => ?_
    rw [S_mulr, h i hi]; omega
  rw [e3] at e1
  have hu := T.pos
  have z : u * S (R + 1) (fun j => v j * A r j) = u * 0 := by omega
  exact Int.eq_of_mul_eq_mul_left (by omega) z
/-- the numerator of a turned line -/
def num (L : Nat → Nat → Int) (r s i j : Nat) : Int := L r s * L i j - L i s * L r j
/-- the new tableau, by its law -/
theorem Tab.turn {m : Nat} {A : Nat → Nat → Int} {o : Nat → Nat} {u : Int} {L : Nat → Nat → Int} {R : Nat} (T : Tab m A o u L R) {r s : Nat} (hr : r < m) (hs : s ≤ R) (hp : 0 < L r s) :
    ∃ L' : Nat → Nat → Int, Tab m A (upd o r s) (L r s) L' R ∧ (∀ j, L' r j = L r j) ∧ ∀ i j, i < m → i ≠ r → j ≤ R → u * L' i j = num L r s i j := by
  have hu := T.pos
  have det : D m (cols A (upd o r s)) = L r s := by rw [cols_upd]; exact (T.form hr hs).symm
  have key : ∀ j q, j ≤ R → q < m → u * (L r s * A q j) + (-(u * L r j)) * A q s = S m (fun i => num L r s i j * A q (o i)) := by
    intro j q hj hq
    have e1 := T.rel j q hj hq
    have e2 := T.rel s q hs hq
    have e3 : S m (fun i => num L r s i j * A q (o i)) = L r s * S m (fun i => L i j * A q (o i)) - L r j * S m (fun i => L i s * A q (o i)) := by
      rw [← S_mul, ← S_mul, ← S_sub]
      refine S_congr fun i _ => ?_
      unfold num; grind
    rw [e3, ← e1, ← e2]; grind
  have key2 : ∀ i j, i < m → i ≠ r → j ≤ R → u * D m (upd (cols A (upd o r s)) i (col A j)) = num L r s i j := by
    intro i j hi hir hj
    have e1 : D m (upd (cols A (upd o r s)) i (fun q => S m (fun k => num L r s k j * col A (o k) q))) = S m (fun k => num L r s k j * D m (upd (cols A (upd o r s)) i (col A (o k)))) := D_sum _ hi _ _ m
    have e2 : D m (upd (cols A (upd o r s)) i (fun q => S m (fun k => num L r s k j * col A (o k) q))) = D m (upd (cols A (upd o r s)) i (fun q => (u * L r s) * col A j q + (-(u * L r j)) * col A s q)) := by
      refine D_congr fun k q hk hq => ?_
      by_cases e : k = i
      · subst e
        rw [upd_at, upd_at]
        have := key j q hj hq
        show S m (fun i => num L r s i j * A q (o i)) = (u * L r s) * A q j + (-(u * L r j)) * A q s
        rw [← this]; grind
      · rw [upd_off _ _ e, upd_off _ _ e]
    rw [e2, D_lin _ _ _ _ _ hi] at e1
    have z : D m (upd (cols A (upd o r s)) i (col A s)) = 0 := D_dup hi hr hir (by
      rw [upd_at, upd_off _ _ (fun z => hir z.symm)]
      unfold cols; rw [upd_at])
    have e3 : S m (fun k => num L r s k j * D m (upd (cols A (upd o r s)) i (col A (o k)))) = num L r s i j * L r s := by
      have e4 := S_one (n := m) (k := i) (f := fun k => num L r s k j * D m (upd (cols A (upd o r s)) i (col A (o k)))) hi (fun k hk hne => by
        show num L r s k j * D m (upd (cols A (upd o r s)) i (col A (o k))) = 0
        by_cases ekr : k = r
        · subst ekr
          have : num L k s k j = 0 := by unfold num; grind
          rw [this]; omega
        · have z2 : D m (upd (cols A (upd o r s)) i (col A (o k))) = 0 := D_dup hi hk (fun z => hne z.symm) (by
            rw [upd_at, upd_off _ _ hne]
            unfold cols; rw [upd_off _ _ ekr])
          rw [z2]; omega)
      rw [e4]
      show num L r s i j * D m (upd (cols A (upd o r s)) i (col A (o i))) = _
      have z3 : D m (upd (cols A (upd o r s)) i (col A (o i))) = L r s := by
        rw [← det]
        refine D_congr fun k q _ _ => ?_
        by_cases e : k = i
        · subst e; rw [upd_at]; unfold cols; rw [upd_off _ _ hir]
        · rw [upd_off _ _ e]
      rw [z3]
    rw [e3, z] at e1
    have e5 : L r s * (u * D m (upd (cols A (upd o r s)) i (col A j))) = L r s * num L r s i j := by grind
    exact Int.eq_of_mul_eq_mul_left (by omega) e5
  refine ⟨fun i j => if i = r then L r j else D m (upd (cols A (upd o r s)) i (col A j)), ⟨hp, det, ?_, ?_⟩, fun j => if_pos rfl, fun i j hi hir hj => ?_⟩
  · intro j q hj hq
    have e1 := key j q hj hq
    have e2 : S m (fun i => num L r s i j * A q (o i)) = u * S m (fun i => if i = r then 0 else D m (upd (cols A (upd o r s)) i (col A j)) * A q (o i)) := by
      rw [← S_mul]
      refine S_congr fun i hi => ?_
      by_cases e : i = r
      · subst e
        have : num L i s i j = 0 := by unfold num; grind
        rw [this, if_pos rfl]; omega
      · rw [if_neg e, ← key2 i j hi e hj]; grind
    have e3 := S_split m r (fun i => (if i = r then L r j else D m (upd (cols A (upd o r s)) i (col A j))) * A q (upd o r s i)) hr
    rw [e3]
    have e4 : S m (fun i => if i = r then 0 else (if i = r then L r j else D m (upd (cols A (upd o r s)) i (col A j))) * A q (upd o r s i)) = S m (fun i => if i = r then 0 else D m (upd (cols A (upd o r s)) i (col A j)) * A q (o i)) := by
      refine S_congr fun i _ => ?_
      by_cases e : i = r
      · rw [if_pos e, if_pos e]
      · rw [if_neg e, if_neg e, if_neg e, upd_off _ _ e]
    rw [e4, if_pos rfl, upd_at]
    rw [e2] at e1
    have e6 : u * (L r s * A q j) = u * (L r j * A q s + S m (fun i => if i = r then 0 else D m (upd (cols A (upd o r s)) i (col A j)) * A q (o i))) := by grind
    exact Int.eq_of_mul_eq_mul_left (by omega) e6
  · intro i hi
    by_cases e : i = r
    · rw [e, upd_at]; exact hs
    · rw [upd_off _ _ e]; exact T.own i hi
  · show u * (if i = r then L r j else D m (upd (cols A (upd o r s)) i (col A j))) = _
    rw [if_neg hir]
    exact key2 i j hi hir hj
theorem Tab.le {m : Nat} {A : Nat → Nat → Int} {o : Nat → Nat} {u : Int} {L : Nat → Nat → Int} {R E : Nat} (T : Tab m A o u L R) (hA : ∀ r j, r < m → j ≤ R → (A r j).natAbs ≤ E) {k j : Nat} (hk : k < m) (hj : j ≤ R) : (L k j).natAbs ≤ (m * E) ^ m := by
  rw [T.form hk hj]
  refine D_le fun i r hi hr => ?_
  by_cases e : i = k
  · subst e; rw [upd_at]; exact hA r j hr hj
  · rw [upd_off _ _ e]; exact hA r _ hr (T.own i hi)
theorem Tab.ule {m : Nat} {A : Nat → Nat → Int} {o : Nat → Nat} {u : Int} {L : Nat → Nat → Int} {R E : Nat} (T : Tab m A o u L R) (hA : ∀ r j, r < m → j ≤ R → (A r j).natAbs ≤ E) : u.natAbs ≤ (m * E) ^ m := by
  rw [← T.det]
  exact D_le fun i r hi hr => hA r _ hr (T.own i hi)
/-- a tableau is known by its law -/
theorem Tab.same {m : Nat} {A : Nat → Nat → Int} {o : Nat → Nat} {u : Int} {L L' : Nat → Nat → Int} {R : Nat} (T : Tab m A o u L R) (h : ∀ i j, i < m → j ≤ R → L' i j = L i j) : Tab m A o u L' R :=
  ⟨T.pos, T.det, fun j r hj hr => (T.rel j r hj hr).trans (S_congr fun i hi => by rw [h i j hi hj]), T.own⟩
/-- the first tableau -/
theorem Tab.start {m : Nat} {A : Nat → Nat → Int} {o : Nat → Nat} {R : Nat} (h : ∀ i r, i < m → r < m → A r (o i) = if r = i then 1 else 0) (ho : ∀ i, i < m → o i ≤ R) : Tab m A o 1 A R where
  pos := by omega
  det := D_id h
  rel := by
    intro j r hj hr
    have e := S_one (n := m) (k := r) (f := fun i => A i j * A r (o i)) hr (fun i hi hne => by
      show A i j * A r (o i) = 0
      rw [h i r hi hr, if_neg (fun z => hne z.symm)]; omega)
    rw [e]
    show 1 * A r j = A r j * A r (o r)
    rw [h r r hr hr, if_pos rfl]; omega
  own := ho
end KX
end

section
set_option linter.all false
set_option maxHeartbeats 1000000
/-! The walk from tableau to tableau ends (Bland's choice of columns and lines). -/
namespace KX
/-- the goal line: the sum of the lines whose owner is a lack -/
def G (m many : Nat) (o : Nat → Nat) (L : Nat → Nat → Int) (j : Nat) : Int := S m (fun i => if many ≤ o i then L i j else 0)
/-- an endless run -/
structure Run (m many R : Nat) (A : Nat → Nat → Int) (L : Nat → Nat → Nat → Int) (o : Nat → Nat → Nat) (u : Nat → Int) (r s : Nat → Nat) : Prop where
  tab : ∀ n, Tab m A (o n) (u n) (L n) R
  manyR : many ≤ R
  rhs : ∀ n i, i < m → 0 ≤ L n i R
  rm : ∀ n, r n < m
  sm : ∀ n, s n < many
  gpos : ∀ n, 0 < G m many (o n) (L n) (s n)
  gfirst : ∀ n j, j < s n → G m many (o n) (L n) j ≤ 0
  piv : ∀ n, 0 < L n (r n) (s n)
  best : ∀ n i, i < m → 0 < L n i (s n) → L n (r n) R * L n i (s n) ≤ L n i R * L n (r n) (s n) ∧ (L n i R * L n (r n) (s n) = L n (r n) R * L n i (s n) → o n (r n) ≤ o n i)
  nexto : ∀ n, o (n + 1) = upd (o n) (r n) (s n)
  nextu : ∀ n, u (n + 1) = L n (r n) (s n)
  nextr : ∀ n j, j ≤ R → L (n + 1) (r n) j = L n (r n) j
  nextL : ∀ n i j, i < m → i ≠ r n → j ≤ R → u n * L (n + 1) i j = num (L n) (r n) (s n) i j
section
variable {m many R : Nat} {A : Nat → Nat → Int} {L : Nat → Nat → Nat → Int} {o : Nat → Nat → Nat} {u : Nat → Int} {r s : Nat → Nat}
/-- the goal line at a column of the basis -/
theorem G_own {o : Nat → Nat} {u : Int} {L : Nat → Nat → Int} (T : Tab m A o u L R) {i : Nat} (hi : i < m) : G m many o L (o i) = if many ≤ o i then u else 0 := by
  unfold G
  rw [S_one (k := i) hi]
  · by_cases c : many ≤ o i
    · rw [if_pos c, if_pos c, T.unit hi hi, if_pos rfl]
    · rw [if_neg c, if_neg c]
  · intro k hk hne
    by_cases c : many ≤ o k
    · rw [if_pos c, T.unit hk hi, if_neg (fun z => hne z.symm)]
    · rw [if_neg c]
/-- (star): two tableaus of one matrix -/
theorem star {o o' : Nat → Nat} {u u' : Int} {L L' : Nat → Nat → Int} (T : Tab m A o u L R) (T' : Tab m A o' u' L' R) {s : Nat} (hs : s ≤ R) :
    u * G m many o' L' s = S m (fun i => L i s * G m many o' L' (o i)) := by
  have hv : ∀ k, k < m → u * L' k s = S m (fun i => L i s * L' k (o i)) := by
    intro k hk
    have e1 := T'.form hk hs
    have e2 : D m (upd (cols A o') k (fun q => u * col A s q + 0 * col A s q)) = D m (upd (cols A o') k (fun q => S m (fun i => L i s * col A (o i) q))) := by
      refine D_congr fun i q hi hq => ?_
      by_cases e : i = k
      · subst e
        rw [upd_at, upd_at]
        have := T.rel s q hs hq
        show u * A q s + 0 * A q s = S m (fun i => L i s * A q (o i))
        rw [← this]; omega
      · rw [upd_off _ _ e, upd_off _ _ e]
    rw [D_lin _ _ _ _ _ hk, D_sum _ hk, ← e1] at e2
    have e3 : S m (fun i => L i s * D m (upd (cols A o') k (col A (o i)))) = S m (fun i => L i s * L' k (o i)) := by
      refine S_congr fun i hi => ?_
      rw [T'.form hk (T.own i hi)]
    rw [e3] at e2
    omega
  unfold G
  rw [← S_mul]
  have e1 : S m (fun i => u * if many ≤ o' i then L' i s else 0) = S m (fun k => S m (fun i => L i s * if many ≤ o' k then L' k (o i) else 0)) := by
    refine S_congr fun k hk => ?_
    by_cases c : many ≤ o' k
    · simp only [if_pos c]; exact hv k hk
    · simp only [if_neg c]
      rw [S_zero (fun i _ => by omega)]; omega
  rw [e1, S_swap]
  refine S_congr fun i _ => ?_
  rw [← S_mul]
/-- the goal line of the next tableau -/
theorem Run.goal (Z : Run m many R A L o u r s) (n j : Nat) (hj : j ≤ R) : u n * G m many (o (n + 1)) (L (n + 1)) j = L n (r n) (s n) * G m many (o n) (L n) j - G m many (o n) (L n) (s n) * L n (r n) j := by
  have hr := Z.rm n
  have hs := Z.sm n
  unfold G
  rw [← S_mul, ← S_mul, ← S_mulr, ← S_sub]
  refine S_congr fun i hi => ?_
  rw [Z.nexto n]
  by_cases e : i = r n
  · rw [e, upd_at, if_neg (by omega)]
    by_cases c : many ≤ o n (r n)
    · rw [if_pos c, if_pos c]; omega
    · rw [if_neg c, if_neg c]; omega
  · rw [upd_off _ _ e]
    by_cases c : many ≤ o n i
    · rw [if_pos c, if_pos c, if_pos c, Z.nextL n i j hi e hj]; rfl
    · rw [if_neg c, if_neg c, if_neg c]; omega
/-- a turn that moves nothing -/
def Still (L : Nat → Nat → Nat → Int) (R : Nat) (r : Nat → Nat) (n : Nat) : Prop := L n (r n) R = 0
theorem Run.rhs0 (Z : Run m many R A L o u r s) {n i : Nat} (hd : Still L R r n) (hi : i < m) (h : L (n + 1) i R = 0) (hir : i ≠ r n) : L n i R = 0 := by
  have e := Z.nextL n i R hi hir (Nat.le_refl _)
  unfold num at e
  rw [h, hd] at e
  have hp := Z.piv n
  have e2 : L n (r n) (s n) * L n i R = L n (r n) (s n) * 0 := by grind
  exact Int.eq_of_mul_eq_mul_left (by omega) e2
/-- a column that leaves between p and q stands at nought, and is no later than t -/
theorem Run.left (Z : Run m many R A L o u r s) (t : Nat) : ∀ (d p i : Nat), i < m → (∀ n, p ≤ n → n < p + d → Still L R r n ∧ o n (r n) ≤ t) → (L p i R = 0 ∧ o p i ≤ t) ∨ o (p + d) i = o p i
  | 0, p, i, _, _ => .inr rfl
  | d + 1, p, i, hi, h => by
    obtain ⟨h1, h2⟩ := h p (Nat.le_refl _) (by omega)
    by_cases e : i = r p
    · left
      rw [e]; exact ⟨h1, h2⟩
    · have IH := Z.left t d (p + 1) i hi (fun n a b => h n (by omega) (by omega))
      have eo : o (p + 1) i = o p i := by rw [Z.nexto p, upd_off _ _ e]
      rcases IH with ⟨a, b⟩ | a
      · left
        exact ⟨Z.rhs0 h1 hi a e, by rw [← eo]; exact b⟩
      · right
        rw [show p + (d + 1) = p + 1 + d by omega, a, eo]
/-- Bland: t does not leave at p and enter at a later q, if all turns between move nothing and move columns up to t alone -/
theorem Run.bland (Z : Run m many R A L o u r s) {t p d : Nat} (hp : o p (r p) = t) (hq : s (p + d) = t) (h : ∀ n, p ≤ n → n < p + d → Still L R r n ∧ o n (r n) ≤ t ∧ s n ≤ t) (hd : 0 < d) : False := by
  have T := Z.tab p
  have T' := Z.tab (p + d)
  have hsm := Z.sm p
  have hR := Z.manyR
  have htm : t < many := by rw [← hq]; exact Z.sm _
  have st := star (many := many) T T' (s := s p) (by omega)
  have gp := Z.gpos p
  have gq := Z.gpos (p + d)
  rw [hq] at gq
  have ugp := T'.pos
  have up := T.pos
  -- s p is before t
  have hst : s p < t := by
    have h1 := (h p (Nat.le_refl _) (by omega)).2.2
    have h2 : s p ≠ t := by
      intro z
      have e := G_own (many := many) T (Z.rm p)
      rw [hp, ← z, if_neg (by omega)] at e
      omega
    omega
  have gs : G m many (o (p + d)) (L (p + d)) (s p) ≤ 0 := Z.gfirst _ _ (by rw [hq]; exact hst)
  -- the sum of the lacks' terms
  have e1 : S m (fun i => L p i (s p) * G m many (o (p + d)) (L (p + d)) (o p i)) - u (p + d) * G m many (o p) (L p) (s p) = S m (fun i => if many ≤ o p i then 0 else L p i (s p) * G m many (o (p + d)) (L (p + d)) (o p i)) := by
    unfold G
    rw [← S_mul, ← S_sub]
    refine S_congr fun i hi => ?_
    by_cases c : many ≤ o p i
    · rw [if_pos c, if_pos c]
      rcases Z.left t d p i hi (fun n a b => ⟨(h n a b).1, (h n a b).2.1⟩) with ⟨_, b⟩ | b
      · omega
      · have e := G_own (many := many) T' hi
        rw [b, if_pos c] at e
        unfold G at e
        rw [e]; grind
    · rw [if_neg c, if_neg c]; omega
  have neg : S m (fun i => if many ≤ o p i then 0 else L p i (s p) * G m many (o (p + d)) (L (p + d)) (o p i)) < 0 := by
    rw [← e1, ← st]
    have a : u p * G m many (o (p + d)) (L (p + d)) (s p) ≤ 0 := Int.mul_nonpos_of_nonneg_of_nonpos (by omega) gs
    have b : 0 < u (p + d) * G m many (o p) (L p) (s p) := Int.mul_pos ugp gp
    omega
  obtain ⟨i, hi, hneg⟩ := S_neg neg
  have hneg : (if many ≤ o p i then (0 : Int) else L p i (s p) * G m many (o (p + d)) (L (p + d)) (o p i)) < 0 := hneg
  by_cases c : many ≤ o p i
  · rw [if_pos c] at hneg; omega
  rw [if_neg c] at hneg
  rcases Z.left t d p i hi (fun n a b => ⟨(h n a b).1, (h n a b).2.1⟩) with ⟨z, b⟩ | b
  · by_cases e : o p i = t
    · have : i = r p := T.inj (Z.rm p) hi (by rw [e, hp])
      subst this
      rw [hp] at hneg
      have := Int.mul_pos (Z.piv p) gq
      omega
    · have g0 : G m many (o (p + d)) (L (p + d)) (o p i) ≤ 0 := Z.gfirst _ _ (by rw [hq]; omega)
      have lp : 0 < L p i (s p) := by
        by_cases k : 0 < L p i (s p)
        · exact k
        · have := Int.mul_nonneg_of_nonpos_of_nonpos (show L p i (s p) ≤ 0 by omega) g0
          omega
      have still := (h p (Nat.le_refl _) (by omega)).1
      have bb := (Z.best p i hi lp).2 (by
        have s' : L p (r p) R = 0 := still
        rw [z, s']; omega)
      rw [hp] at bb
      omega
  · have e := G_own (many := many) T' hi
    rw [b, if_neg c] at e
    rw [e] at hneg
    omega
/-- what enters is not in the basis -/
theorem Run.enter_new (Z : Run m many R A L o u r s) (n : Nat) {i : Nat} (hi : i < m) : o n i ≠ s n := by
  intro e
  have g := Z.gpos n
  have hs := Z.sm n
  rw [← e, G_own (Z.tab n) hi, if_neg (by omega)] at g
  omega
/-- a column that is not in the basis and does not enter stays away -/
theorem Run.away (Z : Run m many R A L o u r s) (t : Nat) : ∀ (d p : Nat), (∀ i, i < m → o p i ≠ t) → (∀ n, p ≤ n → n < p + d → s n ≠ t) → ∀ i, i < m → o (p + d) i ≠ t
  | 0, p, h, _ => h
  | d + 1, p, h, hs => by
    rw [show p + (d + 1) = p + 1 + d by omega]
    refine Z.away t d (p + 1) (fun i hi => ?_) (fun n a b => hs n (by omega) (by omega))
    rw [Z.nexto p]
    by_cases e : i = r p
    · rw [e, upd_at]; exact hs p (Nat.le_refl _) (by omega)
    · rw [upd_off _ _ e]; exact h i hi
/-- a column in the basis that does not leave stays there -/
theorem Run.stays (Z : Run m many R A L o u r s) (t : Nat) : ∀ (d p i : Nat), i < m → o p i = t → (∀ n, p ≤ n → n < p + d → o n (r n) ≠ t) → o (p + d) i = t
  | 0, p, i, _, h, _ => h
  | d + 1, p, i, hi, h, hs => by
    rw [show p + (d + 1) = p + 1 + d by omega]
    refine Z.stays t d (p + 1) i hi ?_ (fun n a b => hs n (by omega) (by omega))
    rw [Z.nexto p]
    by_cases e : i = r p
    · exact absurd (e ▸ h) (hs p (Nat.le_refl _) (by omega))
    · rw [upd_off _ _ e]; exact h
theorem first_of {P : Nat → Prop} : ∀ (d a : Nat), (∀ n, a ≤ n → n < a + d → ¬ P n) ∨ ∃ n, a ≤ n ∧ n < a + d ∧ P n ∧ ∀ k, a ≤ k → k < n → ¬ P k
  | 0, a => .inl fun n h1 h2 => by omega
  | d + 1, a => by
    rcases first_of d a with h | ⟨n, h1, h2, h3, h4⟩
    · by_cases c : P (a + d)
      · exact .inr ⟨a + d, by omega, by omega, c, fun k k1 k2 => h k k1 k2⟩
      · refine .inl fun n h1 h2 => ?_
        by_cases e : n = a + d
        · rw [e]; exact c
        · exact h n h1 (by omega)
    · exact .inr ⟨n, h1, by omega, h3, h4⟩
/-- all turns from a on, d of them, move nothing, and move columns below k alone -/
def Seg (L : Nat → Nat → Nat → Int) (R : Nat) (o : Nat → Nat → Nat) (r s : Nat → Nat) (k a d : Nat) : Prop := ∀ n, a ≤ n → n < a + d → Still L R r n ∧ o n (r n) < k ∧ s n < k
theorem Seg.less {k a d : Nat} (h : Seg L R o r s (k + 1) a d) {a' d' : Nat} (h1 : a ≤ a') (h2 : a' + d' ≤ a + d) (hn : ∀ n, a' ≤ n → n < a' + d' → ¬ (o n (r n) = k ∨ s n = k)) : Seg L R o r s k a' d' := by
  intro n n1 n2
  obtain ⟨p, q, q'⟩ := h n (by omega) (by omega)
  have := hn n n1 n2
  exact ⟨p, by omega, by omega⟩
theorem Run.short (Z : Run m many R A L o u r s) : ∀ (k a d : Nat), Seg L R o r s k a d → d < 3 ^ k
  | 0, a, d, h => by
    by_cases c : d = 0
    · subst c; decide
    · have := (h a (Nat.le_refl _) (by omega)).2.2
      omega
  | k + 1, a, d, h => by
    have e3 : 3 ^ (k + 1) = 3 * 3 ^ k := by rw [Nat.pow_succ]; omega
    have h3 : 0 < 3 ^ k := Nat.pow_pos (by omega)
    -- behind a leaving of k nothing of k moves
    have after : ∀ p, a ≤ p → p < a + d → o p (r p) = k → Seg L R o r s k (p + 1) (a + d - (p + 1)) := by
      intro p p1 p2 hp
      refine h.less (by omega) (by omega) fun n n1 n2 => ?_
      have noenter : ∀ n, p + 1 ≤ n → n < a + d → s n ≠ k := by
        intro n n1 n2 e
        refine Z.bland (t := k) (p := p) (d := n - p) hp (by rw [show p + (n - p) = n by omega]; exact e) (fun x x1 x2 => ?_) (by omega)
        obtain ⟨y1, y2, y3⟩ := h x (by omega) (by omega)
        exact ⟨y1, by omega, by omega⟩
      have gone : ∀ i, i < m → o (p + 1) i ≠ k := by
        intro i hi e
        rw [Z.nexto p] at e
        by_cases c : i = r p
        · rw [c, upd_at] at e
          have := Z.enter_new p (Z.rm p)
          omega
        · rw [upd_off _ _ c] at e
          exact c ((Z.tab p).inj (Z.rm p) hi (by rw [e, hp]))
      have ne := Z.away k (n - (p + 1)) (p + 1) gone (fun x x1 x2 => noenter x x1 (by omega)) (r n) (Z.rm n)
      rw [show p + 1 + (n - (p + 1)) = n by omega] at ne
      rintro (z | z)
      · exact ne z
      · exact noenter n n1 (by omega) z
    rcases first_of (P := fun n => o n (r n) = k ∨ s n = k) d a with hn | ⟨p, p1, p2, hp, hf⟩
    · have := Z.short k a d (h.less (Nat.le_refl _) (Nat.le_refl _) hn)
      omega
    · have l1 := Z.short k a (p - a) (h.less (Nat.le_refl _) (by omega) (fun n n1 n2 => hf n n1 (by omega)))
      by_cases c : o p (r p) = k
      · have l2 := Z.short k (p + 1) _ (after p p1 p2 c)
        omega
      · have cs : s p = k := by
          rcases hp with z | z
          · exact absurd z c
          · exact z
        -- k is in the basis now
        have inb : o (p + 1) (r p) = k := by rw [Z.nexto p, upd_at]; exact cs
        rcases first_of (P := fun n => o n (r n) = k) (a + d - (p + 1)) (p + 1) with hn | ⟨q, q1, q2, hq, hf2⟩
        · have l2 := Z.short k (p + 1) (a + d - (p + 1)) (h.less (by omega) (by omega) (fun n n1 n2 => by
            rintro (z | z)
            · exact hn n n1 n2 z
            · have st := Z.stays k (n - (p + 1)) (p + 1) (r p) (Z.rm p) inb (fun x x1 x2 => hn x x1 (by omega))
              rw [show p + 1 + (n - (p + 1)) = n by omega] at st
              exact Z.enter_new n (Z.rm p) (by rw [st, z])))
          omega
        · have l2 := Z.short k (p + 1) (q - (p + 1)) (h.less (by omega) (by omega) (fun n n1 n2 => by
            rintro (z | z)
            · exact hf2 n n1 (by omega) z
            · have st := Z.stays k (n - (p + 1)) (p + 1) (r p) (Z.rm p) inb (fun x x1 x2 => hf2 x x1 (by omega))
              rw [show p + 1 + (n - (p + 1)) = n by omega] at st
              exact Z.enter_new n (Z.rm p) (by rw [st, z])))
          have l3 := Z.short k (q + 1) _ (after q (by omega) (by omega) hq)
          omega
/-- the objective, in whole numbers -/
def phi (U : Int) (m many R : Nat) (o : Nat → Nat → Nat) (u : Nat → Int) (L : Nat → Nat → Nat → Int) (n : Nat) : Nat := (U * U * G m many (o n) (L n) R / u n).toNat
theorem Run.g0 (Z : Run m many R A L o u r s) (n : Nat) : 0 ≤ G m many (o n) (L n) R := by
  refine S_nonneg fun i hi => ?_
  by_cases c : many ≤ o n i
  · rw [if_pos c]; exact Z.rhs n i hi
  · rw [if_neg c]; omega
theorem Run.fall (Z : Run m many R A L o u r s) {U : Int} (hU : ∀ n, u n ≤ U) (n : Nat) :
    phi U m many R o u L (n + 1) ≤ phi U m many R o u L n ∧ (¬ Still L R r n → phi U m many R o u L (n + 1) < phi U m many R o u L n) := by
  have e := Z.goal n R (Nat.le_refl _)
  have g0 := Z.g0 n
  have g1 := Z.g0 (n + 1)
  have u0 := (Z.tab n).pos
  have u1 := (Z.tab (n + 1)).pos
  have gs := Z.gpos n
  have hb := Z.rhs n (r n) (Z.rm n)
  have eu := Z.nextu n
  rw [← eu] at e
  unfold phi
  have b0 := hU n
  have b1 := hU (n + 1)
  revert e g0 g1 gs hb
  generalize G m many (o n) (L n) R = g
  generalize G m many (o (n + 1)) (L (n + 1)) R = g'
  generalize G m many (o n) (L n) (s n) = c
  intro e g0 g1 gs hb
  have hb' : L n (r n) R = 0 ∨ 0 < L n (r n) R := by omega
  unfold Still
  revert hb hb' e
  generalize L n (r n) R = b
  intro e hb hb'
  generalize hx : u n = x at *
  generalize hy : u (n + 1) = y at *
  have hUU : 0 ≤ U * U := Int.mul_nonneg (by omega) (by omega)
  have n0 : 0 ≤ U * U * g / x := Int.ediv_nonneg (Int.mul_nonneg hUU g0) (by omega)
  have n1 : 0 ≤ U * U * g' / y := Int.ediv_nonneg (Int.mul_nonneg hUU g1) (by omega)
  -- x g' = y g - c b
  have le : U * U * g' / y ≤ U * U * g / x := by
    rw [Int.le_ediv_iff_mul_le u0]
    have k1 : U * U * g' / y * y ≤ U * U * g' := Int.ediv_mul_le _ (by omega)
    have k2 : x * g' ≤ y * g := by
      have := Int.mul_nonneg (show 0 ≤ c by omega) hb
      omega
    have k3 : U * U * (x * g') ≤ U * U * (y * g) := Int.mul_le_mul_of_nonneg_left k2 hUU
    have k4 : (U * U * g' / y * y) * x ≤ U * U * g' * x := Int.mul_le_mul_of_nonneg_right k1 (by omega)
    have k5 : y * (U * U * g' / y * x) ≤ y * (U * U * g) := by grind
    exact Int.le_of_mul_le_mul_left k5 u1
  refine ⟨by omega, fun hn => ?_⟩
  have hbp : 0 < b := by
    rcases hb' with z | z
    · exact absurd z hn
    · exact z
  have lt : U * U * g' / y + 1 ≤ U * U * g / x := by
    rw [Int.le_ediv_iff_mul_le u0]
    have k1 : U * U * g' / y * y ≤ U * U * g' := Int.ediv_mul_le _ (by omega)
    have k0 : 1 ≤ c * b := Int.mul_pos gs hbp
    have k2 : x * g' + 1 ≤ y * g := by omega
    have k3 : U * U * (x * g' + 1) ≤ U * U * (y * g) := Int.mul_le_mul_of_nonneg_left k2 hUU
    have k4 : (U * U * g' / y * y) * x ≤ U * U * g' * x := Int.mul_le_mul_of_nonneg_right k1 (by omega)
    have k6 : x * y ≤ U * U := Int.mul_le_mul b0 b1 (by omega) (by omega)
    have k5 : y * ((U * U * g' / y + 1) * x) ≤ y * (U * U * g) := by grind
    exact Int.le_of_mul_le_mul_left k5 u1
  omega
theorem Run.falls (Z : Run m many R A L o u r s) {U : Int} (hU : ∀ n, u n ≤ U) : ∀ (d n : Nat), phi U m many R o u L (n + d) ≤ phi U m many R o u L n
  | 0, n => Nat.le_refl _
  | d + 1, n => Nat.le_trans (Z.fall hU (n + d)).1 (Z.falls hU d n)
theorem Run.ends (Z : Run m many R A L o u r s) {U : Int} (hU : ∀ n, u n ≤ U) : ∀ (f n : Nat), phi U m many R o u L n ≤ f → False := by
  intro f
  induction f with
  | zero =>
    intro n h
    have key := Z.short (R + 1) n (3 ^ (R + 1)) (fun k k1 k2 => by
      have a := Z.fall hU k
      have b := Z.falls hU (k - n) n
      rw [show n + (k - n) = k by omega] at b
      refine ⟨Classical.byContradiction fun z => ?_, ?_, ?_⟩
      · have := a.2 z; omega
      · have := (Z.tab k).own _ (Z.rm k); omega
      · have := Z.sm k; have := Z.manyR; omega)
    omega
  | succ f IH =>
    intro n h
    rcases first_of (P := fun k => ¬ Still L R r k) (3 ^ (R + 1)) n with hn | ⟨k, k1, k2, k3, _⟩
    · have key := Z.short (R + 1) n (3 ^ (R + 1)) (fun k k1 k2 => by
        refine ⟨Classical.byContradiction fun z => hn k k1 k2 z, ?_, ?_⟩
        · have := (Z.tab k).own _ (Z.rm k); omega
        · have := Z.sm k; have := Z.manyR; omega)
      omega
    · refine IH (k + 1) ?_
      have a := (Z.fall hU k).2 k3
      have b := Z.falls hU (k - n) n
      rw [show n + (k - n) = k by omega] at b
      omega
/-- there is no endless run -/
theorem Run.none (Z : Run m many R A L o u r s) {E : Nat} (hA : ∀ q j, q < m → j ≤ R → (A q j).natAbs ≤ E) : False := by
  refine Z.ends (U := (((m * E) ^ m : Nat) : Int)) (fun n => ?_) _ 0 (Nat.le_refl _)
  have a := (Z.tab n).ule hA
  have b := (Z.tab n).pos
  omega
end
end KX
end

section
set_option linter.all false
set_option maxHeartbeats 1000000
/-! The solver's states, its turns, its ends. -/
namespace KX
theorem S_app (a b : Nat) (f : Nat → Int) : S (a + b) f = S a f + S b (fun i => f (a + i)) := by
  induction b with
  | zero => show S a f = S a f + 0; omega
  | succ b IH =>
    show S (a + b) f + f (a + b) = S a f + (S b (fun i => f (a + i)) + f (a + b))
    rw [IH]; omega
/-- the signs -/
def sgn (need : Nat → Int) (i : Nat) : Int := if 0 < need i then 1 else -1
/-- the first lines: nine numbers, m surpluses, m lacks, the need -/
def A0 (m : Nat) (row : Nat → Nat → Int) (need : Nat → Int) (i j : Nat) : Int :=
  if j < 9 then sgn need i * row i j
  else if j < 9 + m then -sgn need i * (if j - 9 = i then 1 else 0)
  else if j < 9 + m + m then need i * (if j - 9 - m = i then 1 else 0)
  else need i
/-- the first owners -/
def o0 (m : Nat) (need : Nat → Int) (i : Nat) : Nat := if 0 < need i then 9 + m + i else 9 + i
/-- a state -/
structure Stt where
  L : Nat → Nat → Int
  o : Nat → Nat
  u : Int
def Stt.g (m : Nat) (s : Stt) (j : Nat) : Int := G m (9 + m) s.o s.L j
/-- the first column that lessens what lacks, below n -/
def enter (g : Nat → Int) : Nat → Option Nat
  | 0 => none
  | n + 1 => match enter g n with
    | some c => some c
    | none => if 0 < g n then some n else none
theorem enter_some {g : Nat → Int} : ∀ {n c : Nat}, enter g n = some c → c < n ∧ 0 < g c ∧ ∀ j, j < c → g j ≤ 0
  | 0, c, h => by cases h
  | n + 1, c, h => by
    unfold enter at h
    have none_le : ∀ k, enter g k = none → ∀ j, j < k → g j ≤ 0 := by
      intro k
      induction k with
      | zero => intro _ j hj; omega
      | succ k IH =>
        intro e j hj
        unfold enter at e
        cases q : enter g k with
        | some c => rw [q] at e; cases e
        | none =>
          rw [q] at e
          by_cases z : 0 < g k
          · simp [z] at e
          · by_cases y : j = k
            · subst y; omega
            · exact IH q j (by omega)
    cases q : enter g n with
    | some c' =>
      rw [q] at h
      have : c' = c := Option.some.inj h
      subst this
      obtain ⟨a, b, d⟩ := enter_some q
      exact ⟨by omega, b, d⟩
    | none =>
      rw [q] at h
      by_cases z : 0 < g n
      · simp [z] at h
        subst h
        exact ⟨by omega, z, none_le n q⟩
      · simp [z] at h
theorem enter_none {g : Nat → Int} : ∀ {n : Nat}, enter g n = none → ∀ j, j < n → g j ≤ 0
  | 0, _, j, hj => by omega
  | n + 1, h, j, hj => by
    unfold enter at h
    cases q : enter g n with
    | some c => rw [q] at h; cases h
    | none =>
      rw [q] at h
      by_cases z : 0 < g n
      · simp [z] at h
      · by_cases y : j = n
        · subst y; omega
        · exact enter_none q j (by omega)
/-- the line that a column takes over, among the first n -/
def better (s : Stt) (R c at_ best : Nat) : Prop := s.L at_ R * s.L best c < s.L best R * s.L at_ c ∨ (s.L at_ R * s.L best c = s.L best R * s.L at_ c ∧ s.o at_ < s.o best)
instance (s : Stt) (R c a b : Nat) : Decidable (better s R c a b) := by unfold better; infer_instance
def leave (s : Stt) (R c : Nat) : Nat → Option Nat
  | 0 => none
  | n + 1 => match leave s R c n with
    | none => if 0 < s.L n c then some n else none
    | some b => if 0 < s.L n c ∧ better s R c n b then some n else some b
def isBest (s : Stt) (R c n b : Nat) : Prop := b < n ∧ 0 < s.L b c ∧ ∀ i, i < n → 0 < s.L i c → s.L b R * s.L i c ≤ s.L i R * s.L b c ∧ (s.L i R * s.L b c = s.L b R * s.L i c → s.o b ≤ s.o i)
theorem leave_ok {s : Stt} {R c : Nat} : ∀ n, (leave s R c n = none ∧ ∀ i, i < n → ¬ 0 < s.L i c) ∨ ∃ b, leave s R c n = some b ∧ isBest s R c n b
  | 0 => .inl ⟨rfl, fun i hi => by omega⟩
  | n + 1 => by
    unfold leave
    rcases leave_ok (s := s) (R := R) (c := c) n with ⟨e, h⟩ | ⟨b, e, hb, hp, h⟩
    · rw [e]
      by_cases z : 0 < s.L n c
      · right
        refine ⟨n, by simp [z], by omega, z, fun i hi hic => ?_⟩
        by_cases y : i = n
        · subst y; exact ⟨Int.le_refl _, fun _ => Nat.le_refl _⟩
        · exact absurd hic (h i (by omega))
      · left
        refine ⟨by simp [z], fun i hi => ?_⟩
        by_cases y : i = n
        · subst y; exact z
        · exact h i (by omega)
    · rw [e]
      by_cases z : 0 < s.L n c ∧ better s R c n b
      · right
        refine ⟨n, by simp [z], by omega, z.1, fun i hi hic => ?_⟩
        by_cases y : i = n
        · subst y; exact ⟨Int.le_refl _, fun _ => Nat.le_refl _⟩
        obtain ⟨z1, z2⟩ := z
        obtain ⟨k1, k2⟩ := h i (by omega) hic
        unfold better at z2
        -- n before b before i
        generalize hbn : s.L b c = bc at *
        generalize hbr : s.L b R = br at *
        generalize hnc : s.L n c = nc at *
        generalize hnr : s.L n R = nr at *
        generalize hir : s.L i R = ir at *
        generalize hicc : s.L i c = ic at *
        have w : nr * bc ≤ br * nc := by rcases z2 with q | q <;> omega
        have e1 : (nr * bc) * ic ≤ (br * nc) * ic := Int.mul_le_mul_of_nonneg_right w (by omega)
        have e2 : (br * ic) * nc ≤ (ir * bc) * nc := Int.mul_le_mul_of_nonneg_right k1 (by omega)
        have e3 : bc * (nr * ic) ≤ bc * (ir * nc) := by grind
        refine ⟨Int.le_of_mul_le_mul_left e3 hp, fun eq => ?_⟩
        have a1 : (ir * bc) * nc = bc * (nr * ic) := by rw [← eq]; grind
        have b1 : (br * ic) * nc = (br * nc) * ic := by grind
        have b2 : bc * (nr * ic) = (nr * bc) * ic := by grind
        have f1 : (nr * bc) * ic = (br * nc) * ic := by omega
        have f2 : nr * bc = br * nc := by
          have f3 : ic * (nr * bc) = ic * (br * nc) := by rw [Int.mul_comm ic, Int.mul_comm ic]; exact f1
          exact Int.eq_of_mul_eq_mul_left (by omega) f3
        have f4 : ir * bc = br * ic := by
          have f5 : nc * (ir * bc) = nc * (br * ic) := by rw [Int.mul_comm nc, Int.mul_comm nc]; omega
          exact Int.eq_of_mul_eq_mul_left (by omega) f5
        have g1 := k2 f4
        rcases z2 with q | q
        · omega
        · omega
      · right
        refine ⟨b, by simp [z], by omega, hp, fun i hi hic => ?_⟩
        by_cases y : i = n
        · subst y
          have nz : ¬ better s R c i b := fun q => z ⟨hic, q⟩
          unfold better at nz
          refine ⟨?_, fun eq => ?_⟩
          · have : ¬ (s.L i R * s.L b c < s.L b R * s.L i c) := fun q => nz (.inl q)
            omega
          · have : ¬ (s.o i < s.o b) := fun q => nz (.inr ⟨eq, q⟩)
            omega
        · exact h i (by omega) hic
/-- one turn, to the last sign as the program reckons it -/
def Stt.next (s : Stt) (r c : Nat) : Stt where
  L := fun i j => if i = r then s.L r j else (s.L r c * s.L i j - s.L i c * s.L r j).fdiv s.u
  o := upd s.o r c
  u := s.L r c
theorem fdiv_of {a b q : Int} (hb : 0 < b) (h : b * q = a) : a.fdiv b = q := by
  rw [Int.fdiv_eq_ediv_of_nonneg _ (by omega), ← h]
  exact Int.mul_ediv_cancel_left _ (by omega)
structure Good (m : Nat) (A : Nat → Nat → Int) (s : Stt) : Prop where
  tab : Tab m A s.o s.u s.L (9 + m + m)
  rhs : ∀ i, i < m → 0 ≤ s.L i (9 + m + m)
  own : ∀ i, i < m → s.o i < 9 + m + m
section
variable {m : Nat} {A : Nat → Nat → Int} {s : Stt}
theorem Good.line (Z : Good m A s) {c : Nat} (h : enter (s.g m) (9 + m) = some c) : ∃ r, leave s (9 + m + m) c m = some r ∧ isBest s (9 + m + m) c m r := by
  obtain ⟨h1, h2, h3⟩ := enter_some h
  rcases leave_ok (s := s) (R := 9 + m + m) (c := c) m with ⟨e, n⟩ | ⟨b, e, hb⟩
  · have h2' : 0 < S m (fun i => if 9 + m ≤ s.o i then s.L i c else 0) := h2
    obtain ⟨i, hi, hp⟩ := S_pos h2'
    have hp : 0 < (if 9 + m ≤ s.o i then s.L i c else 0) := hp
    by_cases z : 9 + m ≤ s.o i
    · rw [if_pos z] at hp
      exact absurd hp (n i hi)
    · rw [if_neg z] at hp
      omega
  · exact ⟨b, e, hb⟩
theorem Good.num (Z : Good m A s) {r c : Nat} (hr : r < m) (hc : c ≤ 9 + m + m) (hp : 0 < s.L r c) : Tab m A (s.next r c).o (s.next r c).u (s.next r c).L (9 + m + m) ∧
    ∀ i j, i < m → i ≠ r → j ≤ 9 + m + m → s.u * (s.next r c).L i j = num s.L r c i j := by
  obtain ⟨L', T', h1, h2⟩ := Z.tab.turn hr hc hp
  have e : ∀ i j, i < m → j ≤ 9 + m + m → (s.next r c).L i j = L' i j := by
    intro i j hi hj
    show (if i = r then s.L r j else (s.L r c * s.L i j - s.L i c * s.L r j).fdiv s.u) = L' i j
    by_cases z : i = r
    · rw [if_pos z, z]; exact (h1 j).symm
    · rw [if_neg z]; exact fdiv_of Z.tab.pos (h2 i j hi z hj)
  exact ⟨T'.same e, fun i j hi hne hj => by rw [e i j hi hj]; exact h2 i j hi hne hj⟩
theorem Good.next (Z : Good m A s) {r c : Nat} (hc : c < 9 + m) (hb : isBest s (9 + m + m) c m r) : Good m A (s.next r c) := by
  obtain ⟨hr, hp, hbest⟩ := hb
  obtain ⟨T, hn⟩ := Z.num hr (by omega : c ≤ 9 + m + m) hp
  refine ⟨T, fun i hi => ?_, fun i hi => ?_⟩
  · by_cases z : i = r
    · show 0 ≤ (if i = r then s.L r (9 + m + m) else _)
      rw [if_pos z]; exact Z.rhs r hr
    · have e := hn i (9 + m + m) hi z (Nat.le_refl _)
      unfold KX.num at e
      have u0 := Z.tab.pos
      have nn : 0 ≤ s.L r c * s.L i (9 + m + m) - s.L i c * s.L r (9 + m + m) := by
        have q1 := Z.rhs i hi
        have q2 := Z.rhs r hr
        by_cases k : 0 < s.L i c
        · have := (hbest i hi k).1
          grind
        · have a1 : 0 ≤ s.L r c * s.L i (9 + m + m) := Int.mul_nonneg (by omega) q1
          have a2 : s.L i c * s.L r (9 + m + m) ≤ 0 := Int.mul_nonpos_of_nonpos_of_nonneg (by omega) q2
          omega
      rw [← e] at nn
      by_cases k : 0 ≤ (s.next r c).L i (9 + m + m)
      · exact k
      · have := Int.mul_neg_of_pos_of_neg u0 (show (s.next r c).L i (9 + m + m) < 0 by omega)
        omega
  · show upd s.o r c i < 9 + m + m
    by_cases z : i = r
    · rw [z, upd_at]; omega
    · rw [upd_off _ _ z]; exact Z.own i hi
/-- the goal line turns by the same rule as the others -/
theorem Good.goal (Z : Good m A s) {r c j : Nat} (hr : r < m) (hc : c < 9 + m) (hp : 0 < s.L r c) (hj : j ≤ 9 + m + m) :
    (s.L r c * s.g m j - s.g m c * s.L r j).fdiv s.u = (s.next r c).g m j := by
  refine fdiv_of Z.tab.pos ?_
  obtain ⟨T, hn⟩ := Z.num hr (by omega : c ≤ 9 + m + m) hp
  unfold Stt.g G
  rw [← S_mul, ← S_mul, ← S_mulr, ← S_sub]
  refine S_congr fun i hi => ?_
  show s.u * (if 9 + m ≤ upd s.o r c i then (s.next r c).L i j else 0) = _
  by_cases e : i = r
  · rw [e, upd_at, if_neg (by omega)]
    by_cases k : 9 + m ≤ s.o r
    · rw [if_pos k, if_pos k]; omega
    · rw [if_neg k, if_neg k]; omega
  · rw [upd_off _ _ e]
    by_cases k : 9 + m ≤ s.o i
    · rw [if_pos k, if_pos k, if_pos k, hn i j hi e hj]; rfl
    · rw [if_neg k, if_neg k, if_neg k]; omega
/-- the turns end -/
def Ends (m : Nat) : Nat → Stt → Prop
  | 0, s => enter (s.g m) (9 + m) = none
  | n + 1, s => enter (s.g m) (9 + m) = none ∨ ∃ c r, enter (s.g m) (9 + m) = some c ∧ leave s (9 + m + m) c m = some r ∧ Ends m n (s.next r c)
/-- the next state, where there is one -/
def Stt.turn (m : Nat) (s : Stt) : Stt := match enter (s.g m) (9 + m) with
  | none => s
  | some c => match leave s (9 + m + m) c m with
    | none => s
    | some r => s.next r c
def Stt.turns (m : Nat) (s : Stt) : Nat → Stt
  | 0 => s
  | n + 1 => (s.turns m n).turn m
theorem ends_of : ∀ (n : Nat) (s : Stt), enter ((s.turns m n).g m) (9 + m) = none → (∀ k, k < n → Good m A (s.turns m k)) → Ends m n s
  | 0, s, h, _ => h
  | n + 1, s, h, g => by
    cases q : enter (s.g m) (9 + m) with
    | none => exact .inl q
    | some c =>
      obtain ⟨r, e, _⟩ := (g 0 (by omega)).line q
      have e0 : leave s (9 + m + m) c m = some r := e
      refine .inr ⟨c, r, q, e0, ?_⟩
      have sh : ∀ k, (s.next r c).turns m k = s.turns m (k + 1) := by
        intro k
        induction k with
        | zero =>
          show s.next r c = s.turn m
          unfold Stt.turn
          rw [q]
          show _ = match leave s (9 + m + m) c m with | none => s | some r => s.next r c
          rw [e0]
        | succ k IH =>
          show ((s.next r c).turns m k).turn m = (s.turns m (k + 1)).turn m
          rw [IH]
      refine ends_of n (s.next r c) ?_ (fun k hk => ?_)
      · rw [sh]; exact h
      · rw [sh]; exact g (k + 1) (by omega)
theorem Good.ends (Z : Good m A s) {E : Nat} (hA : ∀ q j, q < m → j ≤ 9 + m + m → (A q j).natAbs ≤ E) : ∃ n, Ends m n s := by
  refine Classical.byContradiction fun no => ?_
  have good : ∀ n, Good m A (s.turns m n) ∧ ∃ c, enter ((s.turns m n).g m) (9 + m) = some c := by
    intro n
    induction n using Nat.strongRecOn with
    | ind n IH =>
      have g : Good m A (s.turns m n) := by
        cases n with
        | zero => exact Z
        | succ n =>
          obtain ⟨g, c, hc⟩ := IH n (by omega)
          obtain ⟨r, e, b⟩ := g.line hc
          have : s.turns m (n + 1) = (s.turns m n).next r c := by
            show (s.turns m n).turn m = _
            unfold Stt.turn
            rw [hc]
            show (match leave (s.turns m n) (9 + m + m) c m with | none => s.turns m n | some r => (s.turns m n).next r c) = _
            rw [e]
          rw [this]
          exact g.next (enter_some hc).1 b
      refine ⟨g, ?_⟩
      cases q : enter ((s.turns m n).g m) (9 + m) with
      | some c => exact ⟨c, rfl⟩
      | none => exact absurd ⟨n, ends_of n s q (fun k hk => (IH k hk).1)⟩ no
  have pick : ∀ n, ∃ c r, enter ((s.turns m n).g m) (9 + m) = some c ∧ isBest (s.turns m n) (9 + m + m) c m r ∧ s.turns m (n + 1) = (s.turns m n).next r c := by
    intro n
    obtain ⟨g, c, hc⟩ := good n
    obtain ⟨r, e, b⟩ := g.line hc
    refine ⟨c, r, hc, b, ?_⟩
    show (s.turns m n).turn m = _
    unfold Stt.turn
    rw [hc]
    show (match leave (s.turns m n) (9 + m + m) c m with | none => s.turns m n | some r => (s.turns m n).next r c) = _
    rw [e]
  let c : Nat → Nat := fun n => Classical.choose (pick n)
  have hc := fun n => Classical.choose_spec (pick n)
  let r : Nat → Nat := fun n => Classical.choose (hc n)
  have h : ∀ n, enter ((s.turns m n).g m) (9 + m) = some (c n) ∧ isBest (s.turns m n) (9 + m + m) (c n) m (r n) ∧ s.turns m (n + 1) = (s.turns m n).next (r n) (c n) := fun n => Classical.choose_spec (hc n)
  have run : Run m (9 + m) (9 + m + m) A (fun n => (s.turns m n).L) (fun n => (s.turns m n).o) (fun n => (s.turns m n).u) r c := {
    tab := fun n => (good n).1.tab
    manyR := by omega
    rhs := fun n => (good n).1.rhs
    rm := fun n => (h n).2.1.1
    sm := fun n => (enter_some (h n).1).1
    gpos := fun n => (enter_some (h n).1).2.1
    gfirst := fun n => (enter_some (h n).1).2.2
    piv := fun n => (h n).2.1.2.1
    best := fun n => (h n).2.1.2.2
    nexto := fun n => by rw [(h n).2.2] <;> rfl
    nextu := fun n => by rw [(h n).2.2] <;> rfl
    nextr := fun n j hj => by
      rw [(h n).2.2]
      show (if r n = r n then _ else _) = _
      rw [if_pos rfl]
    nextL := fun n i j hi hne hj => by
      rw [(h n).2.2]
      have k := (good n).1.num (h n).2.1.1 (by have := (enter_some (h n).1).1; omega : c n ≤ 9 + m + m) (h n).2.1.2.1
      exact k.2 i j hi hne hj }
  exact run.none hA
end
/-! ### the first state -/
def s0 (m : Nat) (row : Nat → Nat → Int) (need : Nat → Int) : Stt := ⟨A0 m row need, o0 m need, 1⟩
section
variable {m : Nat} {row : Nat → Nat → Int} {need : Nat → Int}
theorem A0_low (i : Nat) {j : Nat} (h : j < 9) : A0 m row need i j = sgn need i * row i j := if_pos h
theorem A0_sur (i : Nat) {k : Nat} (h : k < m) : A0 m row need i (9 + k) = -sgn need i * (if k = i then 1 else 0) := by
  unfold A0
  rw [if_neg (by omega), if_pos (by omega), show 9 + k - 9 = k by omega]
theorem A0_lack (i : Nat) {k : Nat} (h : k < m) : A0 m row need i (9 + m + k) = need i * (if k = i then 1 else 0) := by
  unfold A0
  rw [if_neg (by omega), if_neg (by omega), if_pos (by omega), show 9 + m + k - 9 - m = k by omega]
theorem A0_need (i : Nat) : A0 m row need i (9 + m + m) = need i := by
  unfold A0
  rw [if_neg (by omega), if_neg (by omega), if_neg (by omega)]
theorem s0_good (hn : ∀ i, i < m → need i = 0 ∨ need i = 1) : Good m (A0 m row need) (s0 m row need) where
  tab := by
    refine Tab.start (fun i r hi hr => ?_) (fun i hi => ?_)
    · show A0 m row need r (o0 m need i) = _
      unfold o0
      by_cases c : 0 < need i
      · rw [if_pos c, A0_lack r hi]
        by_cases e : r = i
        · subst e
          rw [if_pos rfl]
          rcases hn r hr with z | z <;> omega
        · rw [if_neg (fun z => e z.symm), if_neg e]; omega
      · rw [if_neg c, A0_sur r hi]
        by_cases e : r = i
        · subst e
          rw [if_pos rfl]
          unfold sgn
          rw [if_neg c]; omega
        · rw [if_neg (fun z => e z.symm), if_neg e]; omega
    · show o0 m need i ≤ _
      unfold o0
      split <;> omega
  rhs := fun i hi => by
    show 0 ≤ A0 m row need i (9 + m + m)
    rw [A0_need]
    rcases hn i hi with z | z <;> omega
  own := fun i hi => by
    show o0 m need i < _
    unfold o0
    split <;> omega
/-- the first goal line -/
theorem s0_goal (hn : ∀ i, i < m → need i = 0 ∨ need i = 1) (j : Nat) : (s0 m row need).g m j = S m (fun i => need i * A0 m row need i j) := by
  show S m (fun i => if 9 + m ≤ o0 m need i then A0 m row need i j else 0) = _
  refine S_congr fun i hi => ?_
  unfold o0
  by_cases c : 0 < need i
  · have z : need i = 1 := by rcases hn i hi with z | z <;> omega
    rw [if_pos c, if_pos (by omega), z]; omega
  · have z : need i = 0 := by rcases hn i hi with z | z <;> omega
    rw [if_neg c, if_neg (by omega), z]; omega
theorem A0_le {E : Nat} (hE : 1 ≤ E) (hn : ∀ i, i < m → need i = 0 ∨ need i = 1) (hr : ∀ i j, i < m → j < 9 → (row i j).natAbs ≤ E) (q j : Nat) (hq : q < m) (hj : j ≤ 9 + m + m) : (A0 m row need q j).natAbs ≤ E := by
  have hs : sgn need q = 1 ∨ sgn need q = -1 := by unfold sgn; split <;> simp
  unfold A0
  by_cases c1 : j < 9
  · rw [if_pos c1, Int.natAbs_mul]
    have := hr q j hq c1
    rcases hs with z | z <;> rw [z] <;> simpa using this
  · rw [if_neg c1]
    by_cases c2 : j < 9 + m
    · rw [if_pos c2, Int.natAbs_mul]
      by_cases e : j - 9 = q
      · rw [if_pos e]
        rcases hs with z | z <;> rw [z] <;> simpa using hE
      · rw [if_neg e]; simp
    · rw [if_neg c2]
      by_cases c3 : j < 9 + m + m
      · rw [if_pos c3, Int.natAbs_mul]
        by_cases e : j - 9 - m = q
        · rw [if_pos e]
          rcases hn q hq with z | z <;> rw [z] <;> simp <;> omega
        · rw [if_neg e]; simp
      · rw [if_neg c3]
        rcases hn q hq with z | z <;> rw [z] <;> simp <;> omega
/-- a sum over all columns of the first lines -/
theorem A0_sum (v : Nat → Int) (r : Nat) (hr : r < m) : S (9 + m + m + 1) (fun j => v j * A0 m row need r j) =
    sgn need r * S 9 (fun j => row r j * v j) - sgn need r * v (9 + r) + need r * v (9 + m + r) + v (9 + m + m) * need r := by
  show S (9 + m + m) (fun j => v j * A0 m row need r j) + v (9 + m + m) * A0 m row need r (9 + m + m) = _
  rw [A0_need, S_app, S_app]
  have e1 : S 9 (fun j => v j * A0 m row need r j) = sgn need r * S 9 (fun j => row r j * v j) := by
    rw [← S_mul]
    refine S_congr fun j hj => ?_
    rw [A0_low r hj]; grind
  have e2 : S m (fun i => v (9 + i) * A0 m row need r (9 + i)) = - (sgn need r * v (9 + r)) := by
    have q := S_one (n := m) (k := r) (f := fun i => v (9 + i) * A0 m row need r (9 + i)) hr (fun i hi hne => by
      show v (9 + i) * A0 m row need r (9 + i) = 0
      rw [A0_sur r hi, if_neg hne]; omega)
    rw [q]
    show v (9 + r) * A0 m row need r (9 + r) = _
    rw [A0_sur r hr, if_pos rfl]; grind
  have e3 : S m (fun i => v (9 + m + i) * A0 m row need r (9 + m + i)) = need r * v (9 + m + r) := by
    have q := S_one (n := m) (k := r) (f := fun i => v (9 + m + i) * A0 m row need r (9 + m + i)) hr (fun i hi hne => by
      show v (9 + m + i) * A0 m row need r (9 + m + i) = 0
      rw [A0_lack r hi, if_neg hne]; omega)
    rw [q]
    show v (9 + m + r) * A0 m row need r (9 + m + r) = _
    rw [A0_lack r hr, if_pos rfl]; grind
  rw [e1, e2, e3]
  omega
/-- the numbers that a state tells -/
def Stt.nums (m : Nat) (s : Stt) (j : Nat) : Int := S m (fun i => if s.o i = j then s.L i (9 + m + m) else 0)
section
variable {s : Stt}
theorem Good.nums_own (Z : Good m (A0 m row need) s) {i : Nat} (hi : i < m) : s.nums m (s.o i) = s.L i (9 + m + m) := by
  unfold Stt.nums
  have q := S_one (n := m) (k := i) (f := fun k => if s.o k = s.o i then s.L k (9 + m + m) else 0) hi (fun k hk hne => if_neg fun e => hne (Z.tab.inj hi hk e))
  rw [q]
  exact if_pos rfl
theorem Good.nums_no {j : Nat} (h : ∀ i, i < m → s.o i ≠ j) : s.nums m j = 0 := S_zero fun i hi => if_neg (h i hi)
theorem Good.nums_nn (Z : Good m (A0 m row need) s) (j : Nat) : 0 ≤ s.nums m j := S_nonneg fun i hi => by
  by_cases c : s.o i = j
  · rw [if_pos c]; exact Z.rhs i hi
  · rw [if_neg c]; omega
/-- the end with nothing lacking: the numbers fit -/
theorem Good.fits (Z : Good m (A0 m row need) s) (hn : ∀ i, i < m → need i = 0 ∨ need i = 1) (hg : s.g m (9 + m + m) ≤ 0) (r : Nat) (hr : r < m) : 0 ≤ S 9 (fun j => row r j * s.nums m j) ∧ (need r = 1 → 0 < S 9 (fun j => row r j * s.nums m j)) := by
  have l0 : ∀ i, i < m → 9 + m ≤ s.o i → s.L i (9 + m + m) = 0 := by
    intro i hi hl
    have q := S_all0 (n := m) (f := fun i => if 9 + m ≤ s.o i then s.L i (9 + m + m) else 0) (fun i hi => by
      show 0 ≤ (if 9 + m ≤ s.o i then s.L i (9 + m + m) else 0)
      by_cases c : 9 + m ≤ s.o i
      · rw [if_pos c]; exact Z.rhs i hi
      · rw [if_neg c]; omega) hg i hi
    rw [if_pos hl] at q
    exact q
  have u0 := Z.tab.pos
  have hk : ∀ k, k < m → S (9 + m + m + 1) (fun j => (if j < 9 + m + m then s.nums m j else -s.u) * s.L k j) = 0 := by
    intro k hk
    show S (9 + m + m) (fun j => (if j < 9 + m + m then s.nums m j else -s.u) * s.L k j) + (if 9 + m + m < 9 + m + m then s.nums m (9 + m + m) else -s.u) * s.L k (9 + m + m) = 0
    rw [if_neg (by omega)]
    have e1 : S (9 + m + m) (fun j => (if j < 9 + m + m then s.nums m j else -s.u) * s.L k j) = S (9 + m + m) (fun j => S m (fun i => (if s.o i = j then s.L i (9 + m + m) else 0) * s.L k j)) := by
      refine S_congr fun j hj => ?_
      rw [if_pos hj, S_mulr]; rfl
    rw [e1, S_swap]
    have e2 : S m (fun i => S (9 + m + m) (fun j => (if s.o i = j then s.L i (9 + m + m) else 0) * s.L k j)) = S m (fun i => s.L i (9 + m + m) * s.L k (s.o i)) := by
      refine S_congr fun i hi => ?_
      have q := S_one (n := 9 + m + m) (k := s.o i) (f := fun j => (if s.o i = j then s.L i (9 + m + m) else 0) * s.L k j) (Z.own i hi) (fun j hj hne => by
        show (if s.o i = j then s.L i (9 + m + m) else 0) * s.L k j = 0
        rw [if_neg (fun z => hne z.symm)]; omega)
      rw [q]
      show (if s.o i = s.o i then s.L i (9 + m + m) else 0) * s.L k (s.o i) = _
      rw [if_pos rfl]
    rw [e2]
    have q := S_one (n := m) (k := k) (f := fun i => s.L i (9 + m + m) * s.L k (s.o i)) hk (fun i hi hne => by
      show s.L i (9 + m + m) * s.L k (s.o i) = 0
      rw [Z.tab.unit hk hi, if_neg hne]; omega)
    rw [q]
    show s.L k (9 + m + m) * s.L k (s.o k) + -s.u * s.L k (9 + m + m) = 0
    rw [Z.tab.unit hk hk, if_pos rfl]; grind
  have b := Z.tab.back _ hk hr
  rw [A0_sum _ r hr] at b
  have e9 : S 9 (fun j => row r j * (if j < 9 + m + m then s.nums m j else -s.u)) = S 9 (fun j => row r j * s.nums m j) := S_congr fun j hj => by rw [if_pos (by omega)]
  have eR : ∀ x y : Int, (if 9 + m + m < 9 + m + m then x else y) = y := fun x y => if_neg (by omega)
  rw [e9, if_pos (by omega), if_pos (by omega), eR] at b
  have lack : s.nums m (9 + m + r) = 0 := by
    refine S_zero fun i hi => ?_
    by_cases c : s.o i = 9 + m + r
    · rw [if_pos c]; exact l0 i hi (by omega)
    · rw [if_neg c]
  rw [lack] at b
  have sn := Z.nums_nn (9 + r)
  revert b sn
  generalize S 9 (fun j => row r j * s.nums m j) = x
  generalize s.nums m (9 + r) = y
  intro b sn
  rcases hn r hr with z | z
  · have es : sgn need r = -1 := by unfold sgn; rw [if_neg (by omega)]
    rw [es, z] at b
    exact ⟨by omega, fun q => by omega⟩
  · have es : sgn need r = 1 := by unfold sgn; rw [if_pos (by omega)]
    rw [es, z] at b
    exact ⟨by omega, fun _ => by omega⟩
/-- the end with something lacking: no numbers fit -/
theorem Good.no (Z : Good m (A0 m row need) s) (hn : ∀ i, i < m → need i = 0 ∨ need i = 1) (he : enter (s.g m) (9 + m) = none) (hg : 0 < s.g m (9 + m + m)) (x : Nat → Int) (hx : ∀ j, j < 9 → 0 ≤ x j)
    (hf : ∀ r, r < m → need r ≤ S 9 (fun j => row r j * x j)) : False := by
  let v : Nat → Int := fun j => if j < 9 then x j else if j < 9 + m then S 9 (fun k => row (j - 9) k * x k) - need (j - 9) else if j < 9 + m + m then 0 else -1
  have v9 : ∀ j, j < 9 → v j = x j := fun j hj => if_pos hj
  have vs : ∀ r, r < m → v (9 + r) = S 9 (fun k => row r k * x k) - need r := by
    intro r hr
    show (if 9 + r < 9 then _ else if 9 + r < 9 + m then _ else _) = _
    rw [if_neg (by omega), if_pos (by omega), show 9 + r - 9 = r by omega]
  have vl : ∀ r, r < m → v (9 + m + r) = 0 := by
    intro r hr
    show (if 9 + m + r < 9 then _ else if 9 + m + r < 9 + m then _ else if 9 + m + r < 9 + m + m then _ else _) = _
    rw [if_neg (by omega), if_neg (by omega), if_pos (by omega)]
  have vR : v (9 + m + m) = -1 := by
    show (if 9 + m + m < 9 then _ else if 9 + m + m < 9 + m then _ else if 9 + m + m < 9 + m + m then _ else _) = _
    rw [if_neg (by omega), if_neg (by omega), if_neg (by omega)]
  have hA : ∀ r, r < m → S (9 + m + m + 1) (fun j => v j * A0 m row need r j) = 0 := by
    intro r hr
    rw [A0_sum _ r hr, vs r hr, vl r hr, vR]
    have e9 : S 9 (fun j => row r j * v j) = S 9 (fun j => row r j * x j) := S_congr fun j hj => by rw [v9 j hj]
    rw [e9]
    rcases hn r hr with z | z
    · have es : sgn need r = -1 := by unfold sgn; rw [if_neg (by omega)]
      rw [es, z]; omega
    · have es : sgn need r = 1 := by unfold sgn; rw [if_pos (by omega)]
      rw [es, z]; omega
  have key : S (9 + m + m + 1) (fun j => v j * s.g m j) = 0 := by
    unfold Stt.g G
    have e1 : S (9 + m + m + 1) (fun j => v j * S m (fun i => if 9 + m ≤ s.o i then s.L i j else 0)) = S (9 + m + m + 1) (fun j => S m (fun i => v j * if 9 + m ≤ s.o i then s.L i j else 0)) := S_congr fun j _ => (S_mul _ _ _).symm
    rw [e1, S_swap]
    refine S_zero fun i hi => ?_
    by_cases c : 9 + m ≤ s.o i
    · have q := Z.tab.fwd v hA hi
      rw [← q]
      exact S_congr fun j _ => by rw [if_pos c]
    · refine S_zero fun j _ => ?_
      rw [if_neg c]; omega
  have le : S (9 + m + m) (fun j => v j * s.g m j) ≤ 0 := by
    have q : S (9 + m + m) (fun j => v j * s.g m j) ≤ S (9 + m + m) (fun _ => 0) := by
      refine S_le fun j hj => ?_
      show v j * s.g m j ≤ 0
      by_cases c : j < 9 + m
      · refine Int.mul_nonpos_of_nonneg_of_nonpos ?_ (enter_none he j c)
        by_cases c9 : j < 9
        · rw [v9 j c9]; exact hx j c9
        · have e := vs (j - 9) (by omega)
          rw [show 9 + (j - 9) = j by omega] at e
          have := hf (j - 9) (by omega)
          omega
      · have e := vl (j - (9 + m)) (by omega)
        rw [show 9 + m + (j - (9 + m)) = j by omega] at e
        rw [e]; omega
    rw [S_zero (fun _ _ => rfl)] at q
    exact q
  have key2 : S (9 + m + m) (fun j => v j * s.g m j) + v (9 + m + m) * s.g m (9 + m + m) = 0 := key
  rw [vR] at key2
  omega
end
end
end KX
end

section
set_option Elab.async false
set_option linter.all false
set_option maxRecDepth 100000
set_option maxHeartbeats 4000000
/-! Words and their marks. -/
namespace HX
open PySem PySem.Spec PyProof.Rows L2
open Evl (Ex)
/-- words -/
inductive Wd where
  | a | b | c | zero | one | add (l r : Wd) | cut (l r : Wd)
def Wd.sign : Wd → Str
  | .a => "a" | .b => "b" | .c => "c" | .zero => "0" | .one => "1" | .add _ _ => "+" | .cut _ _ => "&"
def Wd.kids : Wd → List Wd
  | .add l r => [l, r]
  | .cut l r => [l, r]
  | _ => []
def Wd.depth : Wd → Nat
  | .add l r => max l.depth r.depth + 1
  | .cut l r => max l.depth r.depth + 1
  | _ => 0
/-- the mark on a line -/
def Wd.lm : Wd → Str → Int
  | .add l r, k => if 0 < l.lm k + r.lm k then 1 else 0
  | .cut l r, k => l.lm k * r.lm k
  | .zero, _ => 0
  | .one, _ => 1
  | .a, k => if decide ((97 : Nat) ∈ k.cps.toList) then 1 else 0
  | .b, k => if decide ((98 : Nat) ∈ k.cps.toList) then 1 else 0
  | .c, k => if decide ((99 : Nat) ∈ k.cps.toList) then 1 else 0
/-- in_plane -/
def inPl (sign one other : Str) : Str :=
  if one = other ∨ other = (if sign = "+" then ("0" : Str) else "1") then one
  else if one = (if sign = "+" then ("0" : Str) else "1") then other else (if sign = "+" then ("1" : Str) else "0")
def Wd.pm : Wd → Str
  | .add l r => inPl "+" l.pm r.pm
  | .cut l r => inPl "&" l.pm r.pm
  | w => w.sign
def Wd.mv (w : Wd) (k : Str) : V := if k = "plane" then .str w.pm else .int (w.lm k)
theorem Wd.lm01 (w : Wd) (k : Str) : 0 ≤ w.lm k ∧ w.lm k ≤ 1 := by
  induction w with
  | add l r i1 i2 => simp only [Wd.lm]; split <;> omega
  | cut l r i1 i2 =>
    simp only [Wd.lm]
    have a := Int.mul_nonneg i1.1 i2.1
    have b := Int.mul_le_mul i1.2 i2.2 i2.1 (by omega)
    omega
  | zero => simp only [Wd.lm]; omega
  | one => simp only [Wd.lm]; omega
  | a => simp only [Wd.lm]; split <;> omega
  | b => simp only [Wd.lm]; split <;> omega
  | c => simp only [Wd.lm]; split <;> omega
/-- the fields of a word -/
def wf (s : Str) (q : Addr) : List (Str × V) := putF "parts" (.ref q) (putF "sign" (.str s) [])
theorem kps : ¬ (("parts" : Str) = "sign") := by decide +kernel
theorem wf_sign (s : Str) (q : Addr) : (wf s q).lookup ("sign" : Str) = some (.str s) := by
  unfold wf
  rw [lookup_putF, if_neg (fun z => kps z.symm), lookup_putF, if_pos rfl]
theorem wf_parts (s : Str) (q : Addr) : (wf s q).lookup ("parts" : Str) = some (.ref q) := by
  unfold wf
  rw [lookup_putF, if_pos rfl]
/-- a word stands at v -/
inductive WdAt (C : Addr) (H : Hp) : V → Wd → Prop
  | leaf {p dx q : Addr} {w : Wd} (h : H p = some (.ins C dx (wf w.sign q))) (hq : H q = some (.tup [])) (hw : w.kids = []) : WdAt C H (.ref p) w
  | node {p dx q : Addr} {w l r : Wd} {v1 v2 : V} (h : H p = some (.ins C dx (wf w.sign q))) (hq : H q = some (.tup [v1, v2])) (hw : w.kids = [l, r]) (h1 : WdAt C H v1 l) (h2 : WdAt C H v2 r) : WdAt C H (.ref p) w
theorem WdAt.mono {C : Addr} {H H' : Hp} {v : V} {w : Wd} (e : ExN H H') (h : WdAt C H v w) : WdAt C H' v w := by
  induction h with
  | leaf h hq hw => exact .leaf (e _ _ (fun _ z => by cases z) h) (e _ _ (fun _ z => by cases z) hq) hw
  | node h hq hw _ _ i1 i2 => exact .node (e _ _ (fun _ z => by cases z) h) (e _ _ (fun _ z => by cases z) hq) hw i1 i2
theorem WdAt.ex {C : Addr} {H H' : Hp} {v : V} {w : Wd} (e : Ex H H') (h : WdAt C H v w) : WdAt C H' v w := h.mono (.of e)
/-- what stands at the address -/
theorem WdAt.at_ {C : Addr} {H : Hp} {v : V} {w : Wd} (h : WdAt C H v w) : ∃ p dx q, v = .ref p ∧ H p = some (.ins C dx (wf w.sign q)) ∧
    ((w.kids = [] ∧ H q = some (.tup [])) ∨ ∃ l r v1 v2, w.kids = [l, r] ∧ H q = some (.tup [v1, v2]) ∧ WdAt C H v1 l ∧ WdAt C H v2 r) := by
  cases h with
  | leaf h hq hw => exact ⟨_, _, _, rfl, h, .inl ⟨hw, hq⟩⟩
  | node h hq hw h1 h2 => exact ⟨_, _, _, rfl, h, .inr ⟨_, _, _, _, hw, hq, h1, h2⟩⟩
theorem Wd.kid_depth {w l r : Wd} (h : w.kids = [l, r]) : l.depth < w.depth ∧ r.depth < w.depth := by
  cases w <;> simp [Wd.kids] at h <;> obtain ⟨rfl, rfl⟩ := h <;> simp only [Wd.depth] <;> omega
section
variable {P : Program} {w : World} {K : PySem.W.Frag} {mg : Str → Option Value} {base : Heap}
/-! ### in_plane -/
def spInPlane : Sp := fun vs H Q _ => ∃ (s x y : Str), vs = [.str s, .str x, .str y] ∧ ∀ H', Ex H H' → Q (.str (inPl s x y)) H'
theorem scInPlane : FnScope ["sign", "one", "other", "least", "greatest"] ["sign", "one", "other"] (defScope sInPlane) := ⟨rfl, rfl, rfl, by decide +kernel, rfl, by decide +kernel, by decide +kernel⟩
theorem ok_inPlane (T : Tx w K mg) : FnR P w K mg base CX0 1 (He.ga K "in_plane") spInPlane := by
  refine fnr (T.fnG1 2 dInPlane rfl) rfl scInPlane (fun _ _ _ _ _ _ us hl => match us, hl with | [_, _, _], _ => rfl) (fun vs H Q E h => ?_) (fun cdv A outer s H vs Q E hr h => ?_)
  · obtain ⟨_, _, _, rfl, _⟩ := h
    rfl
  · obtain ⟨sg, x, y, rfl, k⟩ := h
    have nd := scInPlane.nd
    refine ⟨_, pss_cons (ps_asg (pe_ifExp (pt_cmpR op_eq (pv 0) pe_str (nomark _)) (pe_tup (pa_cons pe_str (pa_cons pe_str pa_nil))) (pe_tup (pa_cons pe_str (pa_cons pe_str pa_nil)))) (pg_tup (by rfl) (pgs_cons (pg_name (i := 3) nd rfl (Or.inl rfl)) (pgs_cons (pg_name (i := 4) nd rfl (Or.inl rfl)) pgs_nil))))
      (pss_cons (ps_if (PW.pt (pw_or (pt_cmpR op_eq (pv 1) (pv 2) (nomark _)) (pw_or1 (pt_cmpR op_eq (pv 2) (pv 3) (nomark _))))) (pss_one (ps_ret (pv 1))) pss_nil)
      (pss_one (ps_ret (pe_ifExp (pt_cmpR op_eq (pv 1) (pv 3) (nomark _)) (pv 2) (pv 4))))), ?_⟩
    refine ⟨_, rfl, rfl, _, rfl, ?_⟩
    have fin : ∀ (le gr : Str) (p : Addr) (H1 : Hp), Ex H H1 → le = (if sg = "+" then ("0" : Str) else "1") → gr = (if sg = "+" then ("1" : Str) else "0") →
        (tSeq (tIfS (tOr (tTest (tOp rEq (tVar 1) (tVar 2))) (tTest (tOp rEq (tVar 2) (tVar 3)))) (tRet (tVar 1)) tNext) (tRet (tIf (tTest (tOp rEq (tVar 1) (tVar 3))) (tVar 2) (tVar 4))))
        { nx := fun x H' => Q V.non H', rt := Q } [some (.str sg), some (.str x), some (.str y), some (.str le), some (.str gr)] H1 := by
      intro le gr p H1 e hl hg
      refine ⟨_, rfl, _, rfl, rfl, _, rfl, ?_⟩
      have E1 : inPl sg x y = if x = y ∨ y = le then x else if x = le then y else gr := by
        unfold inPl; rw [← hl, ← hg]
      by_cases c1 : x = y
      · rw [decide_eq_true (congrArg V.str c1)]
        refine iteT (iteT ⟨_, rfl, ?_⟩)
        have := k H1 e
        rw [E1, if_pos (.inl c1)] at this
        exact this
      · rw [decide_eq_false (fun z => c1 (V.str.inj z))]
        refine iteF ⟨_, rfl, _, rfl, rfl, _, rfl, ?_⟩
        by_cases c2 : y = le
        · rw [decide_eq_true (congrArg V.str c2)]
          refine iteT ⟨_, rfl, ?_⟩
          have := k H1 e
          rw [E1, if_pos (.inr c2)] at this
          exact this
        · rw [decide_eq_false (fun z => c2 (V.str.inj z))]
          refine iteF ⟨_, rfl, _, rfl, rfl, _, rfl, ?_⟩
          have := k H1 e
          rw [E1, if_neg (by rintro (z | z); exact c1 z; exact c2 z)] at this
          by_cases c3 : x = le
          · rw [decide_eq_true (congrArg V.str c3)]
            rw [if_pos c3] at this
            exact iteT ⟨_, rfl, this⟩
          · rw [decide_eq_false (fun z => c3 (V.str.inj z))]
            rw [if_neg c3] at this
            exact iteF ⟨_, rfl, this⟩
    by_cases c : sg = "+"
    · rw [decide_eq_true (congrArg V.str c)]
      refine iteT ⟨by show 2 ≤ sizeLine; decide, fun p np => ⟨p, _, rfl, SqT.of upd_same, rfl, _, _, rfl, _, _, rfl, rfl, ?_⟩⟩
      exact fin _ _ p _ (Evl.Ex.new np) (by rw [if_pos c]) (by rw [if_pos c])
    · rw [decide_eq_false (fun z => c (V.str.inj z))]
      refine iteF ⟨by show 2 ≤ sizeLine; decide, fun p np => ⟨p, _, rfl, SqT.of upd_same, rfl, _, _, rfl, _, _, rfl, rfl, ?_⟩⟩
      exact fin _ _ p _ (Evl.Ex.new np) (by rw [if_neg c]) (by rw [if_neg c])
/-! ### mark -/
def spMark (C : Addr) : Nat → Sp
  | 0 => fun _ _ _ _ => False
  | d + 1 => fun vs H Q _ => ∃ (v : V) (wd : Wd) (k : Str), vs = [v, .str k] ∧ WdAt C H v wd ∧ wd.depth ≤ d ∧ k ∈ kinds ∧ ∀ H', Ex H H' → Q (wd.mv k) H'
abbrev nMark : List Str := ["word", "kind", "first", "second", "part"]
theorem scMark : FnScope nMark ["word", "kind"] (defScope sMark) := ⟨rfl, rfl, rfl, by decide +kernel, rfl, by decide +kernel, by decide +kernel⟩
theorem ok_mark (T : Tx w K mg) : ∀ d, FnR P w K mg base CX0 (d + 1) (He.ga K "mark") (spMark (He.ga K "Word") d)
  | 0 => fun _ _ _ _ _ _ _ _ _ _ _ h => h.elim
  | d + 1 => by
    have G := ok_mark T d
    have G2 : FnR P w K mg base CX0 1 _ _ := ok_inPlane T
    refine fnr (T.fnG1 3 dMark rfl) rfl scMark (fun _ _ _ _ _ _ us hl => match us, hl with | [_, _], _ => rfl) (fun vs H Q E h => ?_) (fun cdv A outer s H vs Q E hr h => ?_)
    · obtain ⟨_, _, _, rfl, _⟩ := h
      rfl
    · obtain ⟨v, wd, kd, rfl, hw, hd, hk, k⟩ := h
      have nd := scMark.nd
      have hr1 : Room 1 _ := hr.mono (by omega)
      refine ⟨_, pss_cons (ps_if (pt_cmpR (op_eqT0 hr.units0) (pe_fld (pv 0) rfl) (pe_tup pa_nil) (nomark _))
          (pss_cons (ps_if (pt_cmpR op_eq (pv 1) pe_str (nomark _)) (pss_one (ps_ret (pe_fld (pv 0) rfl))) pss_nil)
          (pss_one (ps_ret (pe_callTy call_int1 (by rfl) (T.f "int") (by decide +kernel) (pa_cons (pe_or (pe_cmpR op_eq (pe_fld (pv 0) rfl) pe_str (nomark _)) (pe_one (pe_and (pe_cmpR op_in_seq (pe_fld (pv 0) rfl) (pe_glob (v := .ref (He.ga K "HANDS")) rfl (T.g "HANDS") rfl) rfl) (pe_one (pe_cmpR op_in_sign (pe_fld (pv 0) rfl) (pv 1) rfl))))) pa_nil))))) pss_nil)
        (pss_cons (ps_asg (pe_lc (own := [("part", 4)]) rfl nd (pi_tup (pe_fld (pv 0) rfl)) (blkOk_by (own := [("part", 4)]) (N := nMark) (sc := defScope sMark) (by decide +kernel)) (fun _ _ _ _ _ => pg_name (i := 4) nd rfl (Or.inl rfl)) (fun _ _ _ _ _ => pts_nil)
            (fun _ _ _ _ _ => pe_cR G hr (T.g "mark") (T.k "mark") pass0 (pa_cons (pv 4) (pa_cons (pv 1) pa_nil)))) (pg_unl rfl (pgs_cons (pg_name (i := 2) nd rfl (Or.inl rfl)) (pgs_cons (pg_name (i := 3) nd rfl (Or.inl rfl)) pgs_nil))))
        (pss_cons (ps_if (pt_cmpR op_eq (pv 1) pe_str (nomark _)) (pss_one (ps_ret (pe_cR G2 hr1 (T.g "in_plane") (T.k "in_plane") pass0 (pa_cons (pe_fld (pv 0) rfl) (pa_cons (pv 2) (pa_cons (pv 3) pa_nil)))))) pss_nil)
        (pss_one (ps_ret (pe_ifExp (pt_cmpR op_eq (pe_fld (pv 0) rfl) pe_str (nomark _)) (pe_callTy call_int1 (by rfl) (T.f "int") (by decide +kernel) (pa_cons (pe_cmpR op_gt (pe_op op_add (pv 2) (pv 3)) pe_int (nomark _)) pa_nil)) (pe_op op_mul (pv 2) (pv 3))))))), ?_⟩
      obtain ⟨p, dx, q, rfl, hp, hkids⟩ := hw.at_
      have cW := T.c "Word"
      have nS := T.noat "Word" "sign" (by decide +kernel)
      have nP := T.noat "Word" "parts" (by decide +kernel)
      refine ⟨_, rfl, p, _, dx, _, _, rfl, hp, cW, nP, wf_parts _ _, by show 0 ≤ sizeLine; decide, fun e0 ne0 => ?_⟩
      have x1 : Ex H (upd H e0 (.tup [])) := Evl.Ex.new ne0
      have hp1 := x1 p _ hp
      rcases hkids with ⟨hk0, hq⟩ | ⟨l, r, v1, v2, hk0, hq, h1, h2⟩
      · refine ⟨q, e0, _, rfl, rfl, SqT.of (x1 q _ hq), SqT.of upd_same, _, rfl, ?_⟩
        refine iteT ⟨_, rfl, rfl, _, rfl, ?_⟩
        by_cases c : kd = "plane"
        · rw [decide_eq_true (congrArg V.str c)]
          refine iteT ⟨_, rfl, p, _, dx, _, _, rfl, hp1, cW, nS, wf_sign _ _, ?_⟩
          have := k _ x1
          unfold Wd.mv at this
          rw [if_pos c] at this
          cases wd with
          | add _ _ => cases hk0
          | cut _ _ => cases hk0
          | _ => exact this
        · rw [decide_eq_false (fun z => c (V.str.inj z))]
          refine iteF ?_
          have := k _ x1
          unfold Wd.mv at this
          rw [if_neg c] at this
          cases wd with
          | add _ _ => cases hk0
          | cut _ _ => cases hk0
          | one =>
            refine ⟨_, rfl, p, _, dx, _, _, rfl, hp1, cW, nS, wf_sign _ _, rfl, true, congrArg V.bl (show decide (V.str (Wd.sign .one) = V.str "1") = true by decide +kernel), iteT (.inr ⟨_, rfl, this⟩)⟩
          | zero =>
            refine ⟨_, rfl, p, _, dx, _, _, rfl, hp1, cW, nS, wf_sign _ _, rfl, false, congrArg V.bl (show decide (V.str (Wd.sign .zero) = V.str "1") = false by decide +kernel), iteF ?_⟩
            refine ⟨_, rfl, p, _, dx, _, _, rfl, hp1, cW, nS, wf_sign _ _, _, _, rfl, .inr (T.hands _), rfl, by decide +kernel, false, congrArg V.bl (show inV (V.str (Wd.sign .zero)) (hands.map V.str) = false by decide +kernel), iteF (.inr ⟨_, rfl, this⟩)⟩
          | a =>
            refine ⟨_, rfl, p, _, dx, _, _, rfl, hp1, cW, nS, wf_sign _ _, rfl, false, congrArg V.bl (show decide (V.str (Wd.sign .a) = V.str "1") = false by decide +kernel), iteF ?_⟩
            refine ⟨_, rfl, p, _, dx, _, _, rfl, hp1, cW, nS, wf_sign _ _, _, _, rfl, .inr (T.hands _), rfl, by decide +kernel, true, congrArg V.bl (show inV (V.str (Wd.sign .a)) (hands.map V.str) = true by decide +kernel), iteT ?_⟩
            refine ⟨_, rfl, p, _, dx, _, _, rfl, hp1, cW, nS, wf_sign _ _, _, rfl, 97, _, rfl, rfl, .inr ⟨_, rfl, this⟩⟩
          | b =>
            refine ⟨_, rfl, p, _, dx, _, _, rfl, hp1, cW, nS, wf_sign _ _, rfl, false, congrArg V.bl (show decide (V.str (Wd.sign .b) = V.str "1") = false by decide +kernel), iteF ?_⟩
            refine ⟨_, rfl, p, _, dx, _, _, rfl, hp1, cW, nS, wf_sign _ _, _, _, rfl, .inr (T.hands _), rfl, by decide +kernel, true, congrArg V.bl (show inV (V.str (Wd.sign .b)) (hands.map V.str) = true by decide +kernel), iteT ?_⟩
            refine ⟨_, rfl, p, _, dx, _, _, rfl, hp1, cW, nS, wf_sign _ _, _, rfl, 98, _, rfl, rfl, .inr ⟨_, rfl, this⟩⟩
          | c =>
            refine ⟨_, rfl, p, _, dx, _, _, rfl, hp1, cW, nS, wf_sign _ _, rfl, false, congrArg V.bl (show decide (V.str (Wd.sign .c) = V.str "1") = false by decide +kernel), iteF ?_⟩
            refine ⟨_, rfl, p, _, dx, _, _, rfl, hp1, cW, nS, wf_sign _ _, _, _, rfl, .inr (T.hands _), rfl, by decide +kernel, true, congrArg V.bl (show inV (V.str (Wd.sign .c)) (hands.map V.str) = true by decide +kernel), iteT ?_⟩
            refine ⟨_, rfl, p, _, dx, _, _, rfl, hp1, cW, nS, wf_sign _ _, _, rfl, 99, _, rfl, rfl, .inr ⟨_, rfl, this⟩⟩
      · refine ⟨q, e0, _, rfl, rfl, SqT.of (x1 q _ hq), SqT.of upd_same, _, rfl, ?_⟩
        have hq1 := x1 q _ hq
        obtain ⟨dl, dr⟩ := Wd.kid_depth hk0
        cases d with
        | zero => exact absurd (Nat.lt_of_le_of_lt (Nat.zero_le _) dl) (by omega)
        | succ d =>
        refine iteF ⟨_, rfl, p, _, dx, _, _, rfl, hp1, cW, nP, wf_parts _ _, q, rfl, ⟨_, SqT.of hq1⟩, fun D nD => ?_⟩
        refine lc_val (walk_tup (xs := [v1, v2])) (fun i => if i = 0 then l.mv kd else r.mv kd) nD (by show 2 ≤ 99999; decide) (fun H e => SqT.of (e q _ hq1)) (fun i x H0 H' Qe hi e y kq => ?_) (fun H2 e2 hD => ?_)
        · obtain ⟨rfl, hx⟩ := y
          refine ⟨rfl, _, rfl, _, rfl, x, if i = 0 then l else r, kd, rfl, ?_, ?_, hk, fun H4 e4 => ?_⟩
          · match i, hx with
            | 0, hx =>
              obtain rfl := Option.some.inj hx
              exact (h1.ex x1).ex e
            | 1, hx =>
              obtain rfl := Option.some.inj hx
              exact (h2.ex x1).ex e
          · split <;> omega
          · have := kq H4 e4
            split at this
            · rw [if_pos (by assumption)]; exact this
            · rw [if_neg (by assumption)]; exact this
        · refine ⟨D, _, rfl, SqL.of hD, rfl, _, _, rfl, _, _, rfl, rfl, ?_⟩
          have x2 : Ex H H2 := x1.trans e2
          have hp2 := x2 p _ hp
          refine ⟨_, rfl, rfl, _, rfl, ?_⟩
          by_cases c : kd = "plane"
          · rw [decide_eq_true (congrArg V.str c)]
            have el : l.mv kd = .str l.pm := if_pos c
            have er : r.mv kd = .str r.pm := if_pos c
            refine iteT ⟨_, rfl, p, _, dx, _, _, rfl, hp2, cW, nS, wf_sign _ _, _, rfl, _, rfl, wd.sign, l.pm, r.pm, (by show [V.str wd.sign, l.mv kd, r.mv kd] = _; rw [el, er]), fun H3 e3 => ?_⟩
            have := k H3 (x2.trans e3)
            unfold Wd.mv at this
            rw [if_pos c] at this
            cases wd <;> simp only [Wd.kids] at hk0 <;> first | (cases hk0; done) | (injection hk0 with z1 z2; injection z2 with z2 _; subst z1 z2; exact this)
          · rw [decide_eq_false (fun z => c (V.str.inj z))]
            have el : l.mv kd = .int (l.lm kd) := if_neg c
            have er : r.mv kd = .int (r.lm kd) := if_neg c
            have := k H2 x2
            unfold Wd.mv at this
            rw [if_neg c] at this
            refine iteF ⟨_, rfl, p, _, dx, _, _, rfl, hp2, cW, nS, wf_sign _ _, rfl, _, rfl, ?_⟩
            have sl2 : ∀ D : Addr, ([some (V.ref p), some (V.str kd), some (l.mv kd), some (r.mv kd), none] : L2.St) = [some (V.ref p), some (V.str kd), some (.int (l.lm kd)), some (.int (r.lm kd)), none] := fun _ => by rw [el, er]
            cases wd with
            | add l' r' =>
              injection hk0 with z1 z2; injection z2 with z2 _; subst z1 z2
              rw [show decide (V.str (Wd.sign (.add l' r')) = V.str "+") = true by show decide (V.str "+" = V.str "+") = true; decide +kernel]
              refine iteT ⟨_, rfl, _, rfl, _, _, el, er, _, _, rfl, rfl, .inr ⟨_, rfl, ?_⟩⟩
              have e : (Wd.lm (.add l' r') kd) = if decide (0 < l'.lm kd + r'.lm kd) = true then 1 else 0 := by
                show (if 0 < l'.lm kd + r'.lm kd then (1 : Int) else 0) = _
                simp
              rw [e] at this
              exact this
            | cut l' r' =>
              injection hk0 with z1 z2; injection z2 with z2 _; subst z1 z2
              rw [show decide (V.str (Wd.sign (.cut l' r')) = V.str "+") = false by show decide (V.str "&" = V.str "+") = false; decide +kernel]
              refine iteF ⟨_, rfl, _, rfl, _, _, el, er, .inl ?_, this⟩
              have b := Wd.lm01 l' kd
              exact ⟨by omega, by omega⟩
            | _ => cases hk0
/-! ### marks -/
/-- a dict of nine values at v -/
def D9At (H : Hp) (v : V) (f : Str → V) : Prop := ∃ a, v = .ref a ∧ H a = some (.dK (d9 f))
theorem D9At.mono {H H' : Hp} {v : V} {f : Str → V} (e : ExN H H') (h : D9At H v f) : D9At H' v f := by
  obtain ⟨a, rfl, h⟩ := h
  exact ⟨a, rfl, e _ _ (fun _ z => by cases z) h⟩
def maxD : Nat := 20
def spMarks (C : Addr) : Sp := fun vs H Q _ => ∃ (v : V) (wd : Wd), vs = [v] ∧ WdAt C H v wd ∧ wd.depth ≤ maxD ∧ ∀ v' H', Ex H H' → D9At H' v' wd.mv → Q v' H'
abbrev nMarks : List Str := ["word", "kind"]
theorem scMarks : FnScope nMarks ["word"] (defScope sMarks) := ⟨rfl, rfl, rfl, by decide +kernel, rfl, by decide +kernel, by decide +kernel⟩
theorem ok_marks (T : Tx w K mg) : FnR P w K mg base CX0 23 (He.ga K "marks") (spMarks (He.ga K "Word")) := by
  have G := ok_mark (P := P) (base := base) T 21
  refine fnr (T.fnG1 4 dMarks rfl) rfl scMarks (fun _ _ _ _ _ _ us hl => match us, hl with | [_], _ => rfl) (fun vs H Q E h => ?_) (fun cdv A outer s H vs Q E hr h => ?_)
  · obtain ⟨_, _, rfl, _⟩ := h
    rfl
  · obtain ⟨v, wd, rfl, hw, hd, k⟩ := h
    have nd := scMarks.nd
    refine ⟨_, pss_one (ps_ret (pe_dc (own := [("kind", 1)]) rfl nd (pi_tup (pe_glob (v := .ref (He.ga K "KINDS")) rfl (T.g "KINDS") rfl)) (blkOk_by (own := [("kind", 1)]) (N := nMarks) (sc := defScope sMarks) (by decide +kernel)) (fun _ _ _ _ _ => pg_name (i := 1) nd rfl (Or.inl rfl)) (fun _ _ _ _ _ => pts_nil)
      (fun _ _ _ _ _ => pv 1) (fun _ _ _ _ _ => pe_cR G hr (T.g "mark") (T.k "mark") pass0 (pa_cons (pv 0) (pa_cons (pv 1) pa_nil))))), ?_⟩
    refine ⟨_, rfl, ⟨_, T.kinds _⟩, fun D nD => ?_⟩
    refine dc_val (walk_tup (xs := kinds.map V.str)) (fun i => Sum.inr (kAt i)) (fun i => wd.mv (kAt i)) nD (by decide) (fun i j hi hj e => kAt_inj i j hi hj (Sum.inr.inj e)) (fun H e => T.kinds H) (fun i x H0 H' Qe hi e y kq => ?_) (fun H2 e2 hD => ?_)
    · obtain ⟨rfl, hx⟩ := y
      obtain ⟨hi9, rfl, hm⟩ := kAt_some hx
      exact ⟨rfl, _, rfl, _, rfl, _, rfl, v, wd, kAt i, rfl, hw.ex e, hd, hm, fun H4 e4 => kq H4 e4⟩
    · exact k _ H2 e2 ⟨D, rfl, hD⟩
/-! ### is_within -/
theorem inV_str2 (x a b : Str) : inV (.str x) [.str a, .str b] = (decide (x = a) || decide (x = b)) := by
  unfold inV
  simp only [List.any_cons, List.any_nil, Bool.or_false]
  congr 1
  · show (a == x) = decide (x = a)
    by_cases z : x = a
    · subst z; simp
    · have : (a == x) = false := by simpa using fun q => z q.symm
      rw [this]; simp [z]
  · show (b == x) = decide (x = b)
    by_cases z : x = b
    · subst z; simp
    · have : (b == x) = false := by simpa using fun q => z q.symm
      rw [this]; simp [z]
def Wd.within (one other : Wd) (k : Str) : Bool := if k = "plane" then (decide (one.pm = "0") || decide (one.pm = other.pm)) || decide (other.pm = "1") else decide (one.lm k ≤ other.lm k)
def spWithin (C : Addr) : Sp := fun vs H Q _ => ∃ (v1 v2 : V) (w1 w2 : Wd) (k : Str), vs = [v1, v2, .str k] ∧ WdAt C H v1 w1 ∧ WdAt C H v2 w2 ∧ w1.depth ≤ maxD ∧ w2.depth ≤ maxD ∧ k ∈ kinds ∧ ∀ H', Ex H H' → Q (.bl (w1.within w2 k)) H'
abbrev nWithin : List Str := ["one", "other", "kind", "first", "second"]
theorem scWithin : FnScope nWithin ["one", "other", "kind"] (defScope sIsWithin) := ⟨rfl, rfl, rfl, by decide +kernel, rfl, by decide +kernel, by decide +kernel⟩
theorem ok_within (T : Tx w K mg) : FnR P w K mg base CX0 23 (He.ga K "is_within") (spWithin (He.ga K "Word")) := by
  have G := ok_mark (P := P) (base := base) T 21
  refine fnr (T.fnG1 5 dIsWithin rfl) rfl scWithin (fun _ _ _ _ _ _ us hl => match us, hl with | [_, _, _], _ => rfl) (fun vs H Q E h => ?_) (fun cdv A outer s H vs Q E hr h => ?_)
  · obtain ⟨_, _, _, _, _, rfl, _⟩ := h
    rfl
  · obtain ⟨v1, v2, w1, w2, kd, rfl, h1, h2, d1, d2, hk, k⟩ := h
    have nd := scWithin.nd
    refine ⟨_, pss_cons (ps_par (i := 3) (j := 4) (by rfl) nd rfl rfl (by decide) rfl rfl (pa_cons (pe_cR G hr (T.g "mark") (T.k "mark") pass0 (pa_cons (pv 0) (pa_cons (pv 2) pa_nil))) (pa_cons (pe_cR G hr (T.g "mark") (T.k "mark") pass0 (pa_cons (pv 1) (pa_cons (pv 2) pa_nil))) pa_nil)) (by rfl))
      (pss_cons (ps_if (pt_cmpR op_in_seq (pv 2) (pe_glob (v := .ref (He.ga K "LINES")) rfl (T.g "LINES") rfl) rfl) (pss_one (ps_ret (pe_cmpR op_le (pv 3) (pv 4) (nomark _)))) pss_nil)
      (pss_one (ps_ret (pe_or (pe_cmpR op_in_seq (pv 3) (pe_tup (pa_cons pe_str (pa_cons (pv 4) pa_nil))) rfl) (pe_one (pe_cmpR op_eq (pv 4) pe_str (nomark _))))))), ?_⟩
    refine ⟨_, rfl, _, rfl, v1, w1, kd, rfl, h1, d1, hk, fun H1 e1 => ?_⟩
    refine ⟨_, rfl, _, rfl, v2, w2, kd, rfl, h2.ex e1, d2, hk, fun H2 e2 => ?_⟩
    refine ⟨_, _, rfl, ?_⟩
    have e := e1.trans e2
    refine ⟨_, rfl, _, _, rfl, .inr (T.lines _), rfl, by decide +kernel, _, rfl, ?_⟩
    by_cases c : kd = "plane"
    · have hin : inV (.str kd) (lines.map V.str) = false := by rw [c]; decide +kernel
      rw [show (if false = true then !inV (.str kd) (lines.map V.str) else inV (.str kd) (lines.map V.str)) = false by rw [hin]; rfl]
      refine iteF ?_
      have e1' : w1.mv kd = .str w1.pm := if_pos c
      have e2' : w2.mv kd = .str w2.pm := if_pos c
      rw [e1', e2']
      refine ⟨_, rfl, _, rfl, (by show 2 ≤ sizeLine; decide), fun p np => ⟨p, _, rfl, .inr (SqT.of upd_same), rfl, rfl, _, rfl, ?_⟩⟩
      have x3 := e.trans (Evl.Ex.new (o := .tup [V.str "0", V.str w2.pm]) np)
      have := k _ x3
      unfold Wd.within at this
      rw [if_pos c] at this
      rw [show (if false = true then !inV (V.str w1.pm) [V.str "0", V.str w2.pm] else inV (V.str w1.pm) [V.str "0", V.str w2.pm]) = (decide (w1.pm = "0") || decide (w1.pm = w2.pm)) from inV_str2 _ _ _]
      by_cases c2 : (decide (w1.pm = "0") || decide (w1.pm = w2.pm)) = true
      · rw [c2] at this ⊢
        exact iteT this
      · have c3 := Bool.eq_false_iff.mpr c2
        rw [c3] at this ⊢
        refine iteF ⟨_, rfl, rfl, ?_⟩
        rw [show decide (V.str w2.pm = V.str "1") = decide (w2.pm = "1") by by_cases z : w2.pm = "1" <;> simp [z]]
        exact this
    · have hin : inV (.str kd) (lines.map V.str) = true := by
        have hall : ∀ x, x ∈ kinds → x ≠ "plane" → inV (.str x) (lines.map V.str) = true := by decide +kernel
        exact hall kd hk c
      rw [show (if false = true then !inV (.str kd) (lines.map V.str) else inV (.str kd) (lines.map V.str)) = true by rw [hin]; rfl]
      refine iteT ?_
      have e1' : w1.mv kd = .int (w1.lm kd) := if_neg c
      have e2' : w2.mv kd = .int (w2.lm kd) := if_neg c
      have := k H2 e
      unfold Wd.within at this
      rw [if_neg c] at this
      exact ⟨_, rfl, _, rfl, _, _, e1', e2', this⟩
end
end HX
end

section
set_option Elab.async false
set_option linter.all false
set_option maxRecDepth 100000
set_option maxHeartbeats 4000000
/-! Words made; claims. -/
namespace HX
open PySem PySem.Spec PyProof.Rows L2
open Evl (Ex)
section
variable {P : Program} {w : World} {K : PySem.W.Frag} {mg : Str → Option Value} {base : Heap}
theorem ite_f {c : Bool} {A B : Prop} (hc : c = false) (h : B) : if c = true then A else B := by
  rw [hc]; exact iteF h
theorem ite_t {c : Bool} {A B : Prop} (hc : c = true) (h : A) : if c = true then A else B := by
  rw [hc]; exact iteT h
/-! ### Word.__init__ -/
def spWordI (C : Addr) (K : PySem.W.Frag) : Sp := fun vs H Q _ => ∃ (p dx q : Addr) (wd : Wd) (ys : List V), vs = [.ref p, .str wd.sign, .ref q] ∧ H p = some (.ins C dx []) ∧ H q = some (.lst ys) ∧ ys.length = wd.kids.length ∧
  ∀ H' t, (∀ b o, H b = some o → b ≠ p → H' b = some o) → H' p = some (.ins C dx (wf wd.sign t)) → H' t = some (.tup ys) → Q .non H'
abbrev nWordI : List Str := ["self", "sign", "parts"]
theorem scWordI : FnScope nWordI ["self", "sign", "parts"] (defScope sWordI) := ⟨rfl, rfl, rfl, by decide +kernel, rfl, by decide +kernel, by decide +kernel⟩
theorem signs_in (wd : Wd) : inV (.str wd.sign) ((plains ++ (["+", "&"] : List Str)).map V.str) = true := by
  cases wd with
  | add _ _ => show inV (.str "+") ((plains ++ (["+", "&"] : List Str)).map V.str) = true; decide +kernel
  | cut _ _ => show inV (.str "&") ((plains ++ (["+", "&"] : List Str)).map V.str) = true; decide +kernel
  | _ => decide +kernel
theorem plain_in (wd : Wd) : inV (.str wd.sign) (plains.map V.str) = wd.kids.isEmpty := by
  cases wd with
  | add _ _ => show inV (.str "+") (plains.map V.str) = false; decide +kernel
  | cut _ _ => show inV (.str "&") (plains.map V.str) = false; decide +kernel
  | _ => decide +kernel
theorem ok_wordI (T : Tx w K mg) : FnR P w K mg base CX0 1 (He.ma K (He.ga K "Word") "__init__") (spWordI (He.ga K "Word") K) := by
  refine fnrA (T.fnM1 0 dWordI rfl) rfl scWordI (fun T kV doc pm an cdv ct us its h1 h2 => match us, h1, its, h2 with | [_, _, _], _, [_], _ => ⟨_, rfl, rfl⟩) (fun vs H Q E h => ?_) (fun cdv A outer s H vs Q E hr h => ?_)
  · obtain ⟨_, _, _, _, _, rfl, _⟩ := h
    rfl
  · obtain ⟨p, dx, q, wd, ys, rfl, hp, hq, hl, k⟩ := h
    have nd := scWordI.nd
    have cW := T.c "Word"
    have nS := T.noat "Word" "sign" (by decide +kernel)
    have nP := T.noat "Word" "parts" (by decide +kernel)
    refine ⟨_, pss_cons (ps_if (PW.pt (pw_or (pt_not (pt_val (pe_callB call_isi (by rfl) (T.f "isinstance") (by decide +kernel) (pa_cons (pv 1) (pa_cons (pe_bltn (v := .ty "str") (by rfl) (T.f "str") (by decide +kernel) rfl) pa_nil)))))
        (pw_or1 (pt_cmpR op_notIn_seq (pv 1) (pe_tup (StX.pa_star (pe_glob (v := .ref (He.ga K "PLAIN_SIGNS")) rfl (T.g "PLAIN_SIGNS") rfl) (pa_cons pe_str (pa_cons pe_str pa_nil)))) rfl)))) (pss_one ps_never) pss_nil)
      (pss_cons (ps_if (pt_cmpR op_ne (pe_callB call_len_seq (by rfl) (T.f "len") PySem.boot_len (pa_cons (pv 2) pa_nil)) (pe_ifExp (pt_cmpR op_in_seq (pv 1) (pe_glob (v := .ref (He.ga K "PLAIN_SIGNS")) rfl (T.g "PLAIN_SIGNS") rfl) rfl) pe_int pe_int) (nomark _)) (pss_one ps_never) pss_nil)
      (pss_cons (ps_fld (pv 0) (pv 1) rfl)
      (pss_one (ps_fld (pv 0) (pe_callTy call_tuple_of (by rfl) (T.f "tuple") (by decide +kernel) (pa_cons (pv 2) pa_nil)) rfl)))), ?_⟩
    refine ⟨_, rfl, _, _, .type "str", .type "str", true, rfl, .ty "str", .base (.str _), kit_ty (by decide +kernel), _, rfl, ?_⟩
    refine iteF ⟨_, rfl, _, _, rfl, .inl (T.plains _), (by show 7 ≤ sizeLine; decide), fun t0 n0 => ?_⟩
    have x1 : Ex H (upd H t0 (.tup ((plains ++ (["+", "&"] : List Str)).map V.str))) := Evl.Ex.new n0
    refine ⟨t0, _, rfl, .inr (SqT.of upd_same), rfl, by decide +kernel, _, rfl, ?_⟩
    have e1 : (if true = true then !inV (V.str wd.sign) ((plains ++ (["+", "&"] : List Str)).map V.str) else inV (V.str wd.sign) ((plains ++ (["+", "&"] : List Str)).map V.str)) = false := by rw [signs_in]; rfl
    refine ite_f e1 ?_
    have hq1 := x1 q _ hq
    have hp1 := x1 p _ hp
    have fin : (sFld K (tVar 0) (tVar 1) "sign") { nx := (sFld K (tVar 0) (tCB (fun xs H Q => ∃ p ys, xs = [V.ref p] ∧ ((SqL K H p ys ∧ ∀ l, H l = none → Q (.ref l) (upd H l (.tup ys))) ∨ (SqT K H p ys ∧ Q (.ref p) H))) (tCons (tVar 2) tNil)) "parts") { nx := fun x H' => Q V.non H', rt := Q }, rt := Q } (L2.start nWordI [V.ref p, V.str wd.sign, V.ref q]) (upd H t0 (.tup ((plains ++ (["+", "&"] : List Str)).map V.str))) := by
      refine ⟨_, rfl, _, rfl, p, _, dx, [], rfl, hp1, cW, nS, (by show 0 < 1000; decide), ?_⟩
      have npq : q ≠ p := ne_of hq1 hp1 (by intro z; cases z)
      refine ⟨_, rfl, q, ys, rfl, .inl ⟨SqL.of (by rw [upd_ne npq]; exact hq1), fun t nt => ?_⟩⟩
      have npt : p ≠ t := fun z => by rw [← z, upd_same] at nt; cases nt
      refine ⟨_, rfl, p, _, dx, _, rfl, (by rw [upd_ne npt, upd_same]), cW, nP, (by show 1 < 1000; decide), ?_⟩
      refine k _ t (fun b o hb hne => ?_) upd_same (by rw [upd_ne npt.symm, upd_same])
      have hb1 := x1 b o hb
      have hbt : b ≠ t := fun z => by
        rw [← z, upd_ne hne] at nt
        rw [hb1] at nt; cases nt
      rw [upd_ne hne, upd_ne hbt, upd_ne hne]
      exact hb1
    refine ⟨_, rfl, q, ys, rfl, .inl (SqL.of hq1), _, rfl, _, _, rfl, .inr (T.plains _), rfl, by decide +kernel, _, rfl, ?_⟩
    by_cases c : wd.kids.isEmpty = true
    · refine ite_t (by show inV (.str wd.sign) (plains.map V.str) = true; rw [plain_in, c]) ⟨rfl, _, rfl, ?_⟩
      refine ite_f ?_ fin
      have : ys.length = 0 := by rw [hl]; simpa using c
      rw [this]; decide
    · refine ite_f (by show inV (.str wd.sign) (plains.map V.str) = false; rw [plain_in]; exact Bool.eq_false_iff.mpr c) ⟨rfl, _, rfl, ?_⟩
      refine ite_f ?_ fin
      have : ys.length = 2 := by
        rw [hl]
        cases wd <;> first | rfl | exact absurd rfl c
      rw [this]; decide
/-! ### _law_word: shapes -/
/-- a shape: nested tuples -/
inductive ShAt (H : Hp) : V → Wd → Prop
  | leaf {p : Addr} {w : Wd} (h : H p = some (.tup [.str w.sign])) (hw : w.kids = []) : ShAt H (.ref p) w
  | node {p : Addr} {w l r : Wd} {v1 v2 : V} (h : H p = some (.tup [.str w.sign, v1, v2])) (hw : w.kids = [l, r]) (h1 : ShAt H v1 l) (h2 : ShAt H v2 r) : ShAt H (.ref p) w
theorem ShAt.mono {H H' : Hp} {v : V} {w : Wd} (e : ExN H H') (h : ShAt H v w) : ShAt H' v w := by
  induction h with
  | leaf h hw => exact .leaf (e _ _ (fun _ z => by cases z) h) hw
  | node h hw _ _ i1 i2 => exact .node (e _ _ (fun _ z => by cases z) h) hw i1 i2
theorem ShAt.ex {H H' : Hp} {v : V} {w : Wd} (e : Ex H H') (h : ShAt H v w) : ShAt H' v w := h.mono (.of e)
theorem ShAt.at_ {H : Hp} {v : V} {w : Wd} (h : ShAt H v w) : ∃ p ys, v = .ref p ∧ H p = some (.tup (.str w.sign :: ys)) ∧ ys.length = w.kids.length ∧ ∀ (i : Nat) y x, ys[i]? = some y → w.kids[i]? = some x → ShAt H y x := by
  cases h with
  | leaf h hw => exact ⟨_, [], rfl, h, by rw [hw] <;> rfl, fun i y x hy => by simp at hy⟩
  | node h hw h1 h2 =>
    rename_i p l r v1 v2
    refine ⟨_, [v1, v2], rfl, h, by rw [hw] <;> rfl, fun i y x hy hx => ?_⟩
    rw [hw] at hx
    match i, hy, hx with
    | 0, hy, hx => obtain rfl := Option.some.inj hy; obtain rfl := Option.some.inj hx; exact h1
    | 1, hy, hx => obtain rfl := Option.some.inj hy; obtain rfl := Option.some.inj hx; exact h2
theorem Wd.kid_depth' {w x : Wd} {i : Nat} (h : w.kids[i]? = some x) : x.depth < w.depth := by
  cases hk : w.kids with
  | nil => rw [hk] at h; simp at h
  | cons l t =>
    cases ht : t with
    | nil => cases w <;> simp [Wd.kids] at hk <;> obtain ⟨rfl, rfl⟩ := hk <;> cases ht
    | cons r u =>
      cases hu : u with
      | cons _ _ => cases w <;> simp [Wd.kids] at hk <;> obtain ⟨rfl, rfl⟩ := hk <;> subst hu <;> simp at ht
      | nil =>
        subst hu ht
        have := Wd.kid_depth hk
        rw [hk] at h
        match i, h with
        | 0, h => obtain rfl := Option.some.inj h; exact this.1
        | 1, h => obtain rfl := Option.some.inj h; exact this.2
theorem wdAt_of {C : Addr} {H : Hp} {x dx t : Addr} {w : Wd} {ys : List V} (h : H x = some (.ins C dx (wf w.sign t))) (ht : H t = some (.tup ys)) (hl : ys.length = w.kids.length) (hy : ∀ (i : Nat) y kd, ys[i]? = some y → w.kids[i]? = some kd → WdAt C H y kd) : WdAt C H (.ref x) w := by
  have two : ∀ l r, w.kids = [l, r] → WdAt C H (.ref x) w := by
    intro l r hk
    rw [hk] at hl hy
    match ys, hl with
    | [v1, v2], _ => exact .node h ht hk (hy 0 v1 l rfl rfl) (hy 1 v2 r rfl rfl)
  have none_ : w.kids = [] → WdAt C H (.ref x) w := by
    intro hk
    rw [hk] at hl
    match ys, hl with
    | [], _ => exact .leaf h ht hk
  cases w with
  | add l r => exact two l r rfl
  | cut l r => exact two l r rfl
  | _ => exact none_ rfl
theorem cut_tail (y : V) (ys : List V) : cutV (y :: ys) (some 1) none = ys := by
  unfold cutV
  rw [show (some (1 : Int)) = some ((1 : Nat) : Int) by rfl, HT.sIx_nat, HT.sIx_none]
  simp
theorem cut_tail_ne (y : V) (ys : List V) : ¬ (HT.sIx (y :: ys).length 0 (some 1) = 0 ∧ HT.sIx (y :: ys).length (y :: ys).length none = (y :: ys).length) := by
  rw [show (some (1 : Int)) = some ((1 : Nat) : Int) by rfl, HT.sIx_nat]
  simp
def spLWord (C : Addr) : Nat → Sp
  | 0 => fun _ _ _ _ => False
  | d + 1 => fun vs H Q _ => ∃ (v : V) (wd : Wd), vs = [v] ∧ ShAt H v wd ∧ wd.depth ≤ d ∧ ∀ v' H', Ex H H' → WdAt C H' v' wd → Q v' H'
abbrev nLWord : List Str := ["_law_shape_here", "_law_part"]
theorem scLWord : FnScope nLWord ["_law_shape_here"] (defScope sLWord) := ⟨rfl, rfl, rfl, by decide +kernel, rfl, by decide +kernel, by decide +kernel⟩
theorem ok_lword (T : Tx w K mg) : ∀ d, FnR P w K mg base CX0 (d + 2) (He.ga K "_law_word") (spLWord (He.ga K "Word") d)
  | 0 => fun _ _ _ _ _ _ _ _ _ _ _ h => h.elim
  | d + 1 => by
    have G := ok_lword T d
    have GI := ok_wordI (P := P) (base := base) T
    refine fnr (T.fnG2 3 dLWord rfl) rfl scLWord (fun _ _ _ _ _ _ us hl => match us, hl with | [_], _ => rfl) (fun vs H Q E h => ?_) (fun cdv A outer s H vs Q E hr h => ?_)
    · obtain ⟨_, _, rfl, _⟩ := h
      rfl
    · obtain ⟨v, wd, rfl, hv, hd, k⟩ := h
      have nd := scLWord.nd
      refine ⟨_, pss_one (ps_ret (StX.pe_makeR (T.mkc "Word") GI (hr.mono (by omega)) rfl (T.g "Word") pass0 (pa_cons (pe_ix ix_tup (pv 0) pe_int (fun _ _ => rfl))
        (pa_cons (pe_lc (own := [("_law_part", 1)]) rfl nd (pi_tup (pe_slice sl_tup (pv 0) (po_some pe_int) po_none)) (blkOk_by (own := [("_law_part", 1)]) (N := nLWord) (sc := defScope sLWord) (by decide +kernel)) (fun _ _ _ _ _ => pg_name (i := 1) nd rfl (Or.inl rfl)) (fun _ _ _ _ _ => pts_nil)
          (fun _ _ _ _ _ => pe_cR G hr (T.g "_law_word") (T.k "_law_word") pass0 (pa_cons (pv 1) pa_nil))) pa_nil)))), ?_⟩
      obtain ⟨p, ys, rfl, hp, hl, hys⟩ := hv.at_
      refine ⟨_, rfl, p, _, 0, _, rfl, rfl, SqT.of hp, atI_nat (j := 0) rfl, ?_⟩
      refine ⟨_, rfl, 1, rfl, p, _, rfl, SqT.of hp, cut_tail_ne _ _, fun t nt => ⟨t, rfl, ⟨_, SqT.of upd_same⟩, fun D nD => ?_⟩⟩
      rw [cut_tail] at nD ⊢
      have x1 : Ex H (upd H t (.tup ys)) := Evl.Ex.new nt
      have h9 : ys.length ≤ 99999 := by
        rw [hl]
        cases wd <;> (show _ ≤ 99999) <;> simp [Wd.kids]
      refine lc_map (walk_tup (xs := ys)) (fun i v H => ∀ x, wd.kids[i]? = some x → WdAt (He.ga K "Word") H v x) nD h9 (fun H e => SqT.of (e t _ upd_same)) (fun i v H H' xs hx e h x hk => (h x hk).mono (e.n hx)) (fun i x H0 H' Qe hi e hDl y kq => ?_) (fun zs H2 e2 hD hzl hz => ?_)
      · obtain ⟨rfl, hx⟩ := y
        have hil : i < wd.kids.length := by rw [← hl]; exact hi
        have hk : wd.kids[i]? = some wd.kids[i] := List.getElem?_eq_getElem hil
        have hdp := Wd.kid_depth' hk
        cases d with
        | zero => omega
        | succ d =>
        refine ⟨rfl, _, rfl, x, wd.kids[i], rfl, ((hys i x _ hx hk).ex x1).ex e, by omega, fun v' H4 e4 hw => kq v' H4 e4 (fun x' hk' => ?_)⟩
        rw [hk] at hk'
        obtain rfl := Option.some.inj hk'
        exact hw
      · intro x dx nx ndx ne
        have x2 : Ex H H2 := x1.trans e2
        have hDm : (upd (upd H2 dx (.own x)) x (.ins (He.ga K "Word") dx [])) D = some (.lst zs) := by
          rw [upd_ne (ne_of_none hD nx), upd_ne (ne_of_none hD ndx)]; exact hD
        refine ⟨x, dx, D, wd, zs, rfl, upd_same, hDm, by rw [hzl, hl], fun H' t' kp hx' ht' => ⟨rfl, ?_⟩⟩
        have x3 : Ex H2 H' := fun b o hb => kp b o (by rw [upd_ne (ne_of_none hb nx), upd_ne (ne_of_none hb ndx)]; exact hb) (ne_of_none hb nx)
        refine k _ H' (x2.trans x3) (wdAt_of hx' ht' (by rw [hzl, hl]) fun i y kd hy hk => (hz i y hy kd hk).ex x3)
end
end HX
end

section
set_option Elab.async false
set_option linter.all false
set_option maxRecDepth 100000
set_option maxHeartbeats 4000000
/-! Claims. -/
namespace HX
open PySem PySem.Spec PyProof.Rows L2
open Evl (Ex)
theorem inPl_in (s x y : Str) (hx : x ∈ plains) (hy : y ∈ plains) : inPl s x y ∈ plains := by
  have h0 : ("0" : Str) ∈ plains := by decide +kernel
  have h1 : ("1" : Str) ∈ plains := by decide +kernel
  unfold inPl
  by_cases c1 : x = y ∨ y = (if s = "+" then ("0" : Str) else "1")
  · rw [if_pos c1]; exact hx
  · rw [if_neg c1]
    by_cases c2 : x = (if s = "+" then ("0" : Str) else "1")
    · rw [if_pos c2]; exact hy
    · rw [if_neg c2]
      by_cases c3 : s = "+"
      · rw [if_pos c3]; exact h1
      · rw [if_neg c3]; exact h0
theorem Wd.pm_in (w : Wd) : w.pm ∈ plains := by
  induction w with
  | add l r i1 i2 => exact inPl_in _ _ _ i1 i2
  | cut l r i1 i2 => exact inPl_in _ _ _ i1 i2
  | _ => decide +kernel
/-- the dimension on a kind -/
def Wd.cf (w : Wd) (k : Str) : Int := if k = "plane" then psz w.pm else w.lm k
theorem Wd.cf02 (w : Wd) (k : Str) : 0 ≤ w.cf k ∧ w.cf k ≤ 2 := by
  unfold Wd.cf
  split
  · unfold psz
    split
    · omega
    · split <;> omega
  · have := w.lm01 k; omega
section
variable {P : Program} {w : World} {K : PySem.W.Frag} {mg : Str → Option Value} {base : Heap}
/-! ### coefficients -/
def spCoef (C : Addr) : Sp := fun vs H Q _ => ∃ (v : V) (wd : Wd), vs = [v] ∧ WdAt C H v wd ∧ wd.depth ≤ maxD ∧ ∀ v' H', Ex H H' → D9At H' v' (fun k => .int (wd.cf k)) → Q v' H'
abbrev nCoef : List Str := ["word", "told", "kind"]
theorem scCoef : FnScope nCoef ["word"] (defScope sCoef) := ⟨rfl, rfl, rfl, by decide +kernel, rfl, by decide +kernel, by decide +kernel⟩
theorem ok_coef (T : Tx w K mg) : FnR P w K mg base CX0 24 (He.ga K "coefficients") (spCoef (He.ga K "Word")) := by
  have G := ok_marks (P := P) (base := base) T
  refine fnr (T.fnG1 6 dCoef rfl) rfl scCoef (fun _ _ _ _ _ _ us hl => match us, hl with | [_], _ => rfl) (fun vs H Q E h => ?_) (fun cdv A outer s H vs Q E hr h => ?_)
  · obtain ⟨_, _, rfl, _⟩ := h
    rfl
  · obtain ⟨v, wd, rfl, hw, hd, k⟩ := h
    have nd := scCoef.nd
    have hu := hu_of hr
    refine ⟨_, pss_cons (ps_asg (pe_cR G hr (T.g "marks") (T.k "marks") pass0 (pa_cons (pv 0) pa_nil)) (pg_name (i := 1) nd rfl (Or.inr rfl)))
      (pss_one (ps_ret (pe_dc (own := [("kind", 2)]) rfl nd (pi_tup (pe_glob (v := .ref (He.ga K "KINDS")) rfl (T.g "KINDS") rfl)) (blkOk_by (own := [("kind", 2)]) (N := nCoef) (sc := defScope sCoef) (by decide +kernel)) (fun _ _ _ _ _ => pg_name (i := 2) nd rfl (Or.inl rfl)) (fun _ _ _ _ _ => pts_nil)
      (fun _ _ _ _ _ => pv 2) (fun _ _ _ _ _ => pe_ifExp (pt_cmpR op_eq (pv 2) pe_str (nomark _)) (pe_ix (r := rIxD K w) ix_kdict (pe_glob (v := .ref (He.ga K "PLANE_SIZES")) rfl (T.g "PLANE_SIZES") rfl) (pe_dget hu (pv 1) (pv 2) (fun _ _ => rfl)) (fun _ _ => rfl)) (pe_dget hu (pv 1) (pv 2) (fun _ _ => rfl)))))), ?_⟩
    refine ⟨_, rfl, v, wd, rfl, hw, hd, fun v1 H1 e1 h1 => ?_⟩
    obtain ⟨a, rfl, ha⟩ := h1
    refine ⟨_, rfl, ⟨_, T.kinds _⟩, fun D nD => ?_⟩
    refine dc_val (walk_tup (xs := kinds.map V.str)) (fun i => Sum.inr (kAt i)) (fun i => .int (wd.cf (kAt i))) nD (by decide) (fun i j hi hj e => kAt_inj i j hi hj (Sum.inr.inj e)) (fun H e => T.kinds H) (fun i x H0 H' Qe hi e y kq => ?_) (fun H2 e2 hD => ?_)
    · obtain ⟨rfl, hx⟩ := y
      obtain ⟨hi9, rfl, hm⟩ := kAt_some hx
      have ha0 := e a _ ha
      have g : DGet H' a (.str (kAt i)) (some (wd.mv (kAt i))) := by
        have := DGet.k (k := Sum.inr (kAt i)) ha0
        rw [d9_at _ hm] at this
        exact this
      refine ⟨rfl, _, rfl, _, rfl, rfl, _, rfl, ?_⟩
      have kq' := kq H' (Ex.refl _)
      by_cases c : kAt i = "plane"
      · rw [decide_eq_true (congrArg V.str c)]
        refine iteT ⟨_, rfl, _, rfl, a, _, rfl, g, _, wd.pm, _, rfl, if_pos c, T.plane _ wd.pm_in, ?_⟩
        have e0 : wd.cf (kAt i) = psz wd.pm := if_pos c
        rw [e0] at kq'
        exact kq'
      · rw [decide_eq_false (fun z => c (V.str.inj z))]
        refine iteF ⟨_, rfl, _, rfl, a, _, rfl, g, ?_⟩
        have e0 : wd.cf (kAt i) = wd.lm (kAt i) := if_neg c
        rw [e0] at kq'
        rw [show wd.mv (kAt i) = .int (wd.lm (kAt i)) from if_neg c]
        exact kq'
    · exact k _ H2 (e1.trans e2) ⟨D, rfl, hD⟩
/-- a statement's value; a comprehension's scope -/
def stVal : Stmt → Expr
  | .Assign _ v _ => v
  | .Return (some v) _ => v
  | _ => .Constant .none 0 ⟨0, 0, 0, 0⟩
def compSc : Expr → Scope
  | .DictComp _ _ _ sc _ => sc
  | .ListComp _ _ sc _ => sc
  | _ => { kind := .function, names := [], isGenerator := false, isCoroutine := false }
def nthSt (st : Stmt) (i : Nat) : Stmt := (defBody st).getD i (.Pass ⟨0, 0, 0, 0⟩)
/-! ### rules with the written part told (for what stands within a comprehension) -/
section
variable {X : Cx} {e l : Expr} {te ta tl : TE} {pos : Pos} {f : Str} {tg : Expr}
theorem pg_tupK (hK : X.K = K) {es : List Expr} {k : Nat} {t : TGs} {n : Nat} (hc : X.calm = true) (h : PGs X es t) (hn : (assignEach es X.env).length = n := by rfl) (hst : (assignEach es X.env).findIdx? (·.1) = none := by rfl) : PG X (.Tuple es k pos) (gTup K n t) := hK ▸ pg_tup hc h hn hst
theorem pi_listK (hK : X.K = K) (hl : PE X l tl) : PI X tg l (iList K tl) := hK ▸ pi_list hl
theorem pi_tupK (hK : X.K = K) (hl : PE X l tl) : PI X tg l (iTup K tl) := hK ▸ pi_tup hl
theorem pe_fldK (hK : X.K = K) (he : PE X e ta) (hb : attributeBase e f X.env (eval e X.env) = eval e X.env) : PE X (.Attribute e f pos) (tFld K ta f) := hK ▸ pe_fld he hb
end
/-! ### Claim.__init__ -/
def sumsOf (l : List (Int × Wd)) (k : Str) : Int := (l.map fun t => t.1 * t.2.cf k).sum
def TermAt (C : Addr) (H : Hp) (v : V) (t : Int × Wd) : Prop := ∃ p x, v = .ref p ∧ H p = some (.tup [.int t.1, x]) ∧ WdAt C H x t.2
theorem TermAt.mono {C : Addr} {H H' : Hp} {v : V} {t : Int × Wd} (e : ExN H H') (h : TermAt C H v t) : TermAt C H' v t := by
  obtain ⟨p, x, rfl, h1, h2⟩ := h
  exact ⟨p, x, rfl, e _ _ (fun _ z => by cases z) h1, h2.mono e⟩
/-- all of a list, one by one -/
def AllAt {α : Type} (R : Hp → V → α → Prop) (H : Hp) (vs : List V) (l : List α) : Prop := vs.length = l.length ∧ ∀ (i : Nat) v a, vs[i]? = some v → l[i]? = some a → R H v a
theorem AllAt.mono {α : Type} {R : Hp → V → α → Prop} {H H' : Hp} {vs : List V} {l : List α} (hR : ∀ v a, R H v a → R H' v a) (h : AllAt R H vs l) : AllAt R H' vs l := ⟨h.1, fun i v a h1 h2 => hR v a (h.2 i v a h1 h2)⟩
theorem AllAt.get {α : Type} {R : Hp → V → α → Prop} {H : Hp} {vs : List V} {l : List α} (h : AllAt R H vs l) {i : Nat} {v : V} (hv : vs[i]? = some v) : ∃ a, l[i]? = some a ∧ R H v a := by
  have hi : i < l.length := by rw [← h.1]; exact (List.getElem?_eq_some_iff.mp hv).1
  have e : l[i]? = some l[i] := List.getElem?_eq_getElem hi
  exact ⟨l[i], e, h.2 i v _ hv e⟩
def cf2 (t d : Addr) : List (Str × V) := putF "sums" (.ref d) (putF "terms" (.ref t) [])
theorem kst : ¬ (("sums" : Str) = "terms") := by decide +kernel
theorem cf2_sums (t d : Addr) : (cf2 t d).lookup ("sums" : Str) = some (.ref d) := by
  unfold cf2
  rw [lookup_putF, if_pos rfl]
theorem cf2_no (t d : Addr) {m : Str} (h1 : ¬ m = "sums") (h2 : ¬ m = "terms") : (cf2 t d).lookup m = none := by
  unfold cf2
  rw [lookup_putF, if_neg h1, lookup_putF, if_neg h2]
  all_goals rfl
/-- a claim with these sums stands at v -/
def ClAt (C : Addr) (H : Hp) (v : V) (f : Str → Int) : Prop := ∃ p dx t d, v = .ref p ∧ H p = some (.ins C dx (cf2 t d)) ∧ H d = some (.dK (d9 fun k => .int (f k)))
theorem ClAt.mono {C : Addr} {H H' : Hp} {v : V} {f : Str → Int} (e : ExN H H') (h : ClAt C H v f) : ClAt C H' v f := by
  obtain ⟨p, dx, t, d, rfl, h1, h2⟩ := h
  exact ⟨p, dx, t, d, rfl, e _ _ (fun _ z => by cases z) h1, e _ _ (fun _ z => by cases z) h2⟩
theorem wf_ne (s : Str) (q : Addr) : wf s q ≠ [] := fun z => by
  have h := wf_sign s q
  rw [z] at h
  cases h
theorem kts : ¬ (("terms" : Str) = "sign") := by decide +kernel
theorem ktp : ¬ (("terms" : Str) = "parts") := by decide +kernel
theorem wf_no_terms (s : Str) (q : Addr) : (wf s q).lookup ("terms" : Str) = none := by
  unfold wf
  rw [lookup_putF, if_neg ktp, lookup_putF, if_neg kts]
  all_goals rfl
/-- all but p is as it was; p is no word and no tuple -/
theorem WdAt.but {C p : Addr} {H H' : Hp} {v : V} {w : Wd} (hn : ∀ dx s q, H p ≠ some (.ins C dx (wf s q))) (ht : ∀ xs, H p ≠ some (.tup xs)) (e : ∀ b o, b ≠ p → H b = some o → H' b = some o) (h : WdAt C H v w) : WdAt C H' v w := by
  induction h with
  | leaf h hq hw => exact .leaf (e _ _ (fun z => hn _ _ _ (z ▸ h)) h) (e _ _ (fun z => ht _ (z ▸ hq)) hq) hw
  | node h hq hw _ _ i1 i2 => exact .node (e _ _ (fun z => hn _ _ _ (z ▸ h)) h) (e _ _ (fun z => ht _ (z ▸ hq)) hq) hw i1 i2
theorem TermAt.but {C p : Addr} {H H' : Hp} {v : V} {t : Int × Wd} (hn : ∀ dx s q, H p ≠ some (.ins C dx (wf s q))) (ht : ∀ xs, H p ≠ some (.tup xs)) (e : ∀ b o, b ≠ p → H b = some o → H' b = some o) (h : TermAt C H v t) : TermAt C H' v t := by
  obtain ⟨q, x, rfl, h1, h2⟩ := h
  exact ⟨q, x, rfl, e _ _ (fun z => ht _ (z ▸ h1)) h1, h2.but hn ht e⟩
/-- a number and the dict of a word's dimensions -/
def TolAt (H : Hp) (v : V) (t : Int × Wd) : Prop := ∃ p x, v = .ref p ∧ H p = some (.tup [.int t.1, x]) ∧ D9At H x (fun k => .int (t.2.cf k))
theorem TolAt.mono {H H' : Hp} {v : V} {t : Int × Wd} (e : ExN H H') (h : TolAt H v t) : TolAt H' v t := by
  obtain ⟨p, x, rfl, h1, h2⟩ := h
  exact ⟨p, x, rfl, e _ _ (fun _ z => by cases z) h1, h2.mono e⟩
theorem range_getD {α β : Type} (l : List α) (d : α) (F : α → β) : (List.range l.length).map (fun i => F (l.getD i d)) = l.map F := by
  refine List.ext_getElem (by simp) fun i h1 h2 => ?_
  have hi : i < l.length := by simpa using h2
  simp [List.getD_eq_getElem?_getD, hi]
def spClaimI (C W : Addr) : Sp := fun vs H Q _ => ∃ (p dx q : Addr) (l : List (Int × Wd)) (ts : List V), vs = [.ref p, .ref q] ∧ H p = some (.ins C dx []) ∧ H q = some (.lst ts) ∧ AllAt (TermAt W) H ts l ∧ l.length ≤ 10 ∧ (∀ t ∈ l, t.2.depth ≤ maxD) ∧
  ∀ H', (∀ b o, H b = some o → b ≠ p → H' b = some o) → ClAt C H' (.ref p) (sumsOf l) → Q .non H'
abbrev nClaimI : List Str := ["self", "terms", "told", "number", "word", "kind", "sizes"]
theorem scClaimI : FnScope nClaimI ["self", "terms"] (defScope sClaimI) := ⟨rfl, rfl, rfl, by decide +kernel, rfl, by decide +kernel, by decide +kernel⟩
theorem ok_claimI (T : Tx w K mg) : FnR P w K mg base CX0 25 (He.ma K (He.ga K "Claim") "__init__") (spClaimI (He.ga K "Claim") (He.ga K "Word")) := by
  have G := ok_coef (P := P) (base := base) T
  refine fnr (T.fnM1 1 dClaimI rfl) rfl scClaimI (fun _ _ _ _ _ _ us hl => match us, hl with | [_, _], _ => rfl) (fun vs H Q E h => ?_) (fun cdv A outer s H vs Q E hr h => ?_)
  · obtain ⟨_, _, _, _, _, rfl, _⟩ := h
    rfl
  · obtain ⟨p, dx, q, l, ts, rfl, hp, hq, hl, hll, hdp, k⟩ := h
    have nd := scClaimI.nd
    have hu := hu_of hr
    have cC := T.c "Claim"
    have nT := T.noat "Claim" "terms" (by decide +kernel)
    have nS := T.noat "Claim" "sums" (by decide +kernel)
    refine ⟨_, pss_cons (ps_fld (pv 0) (pe_callTy call_tuple_of (by rfl) (T.f "tuple") (by decide +kernel) (pa_cons
        (pe_lc (own := [("number", 3), ("word", 4)]) rfl nd (pi_list (pv 1)) (blkOk_by (own := [("number", 3), ("word", 4)]) (N := nClaimI) (sc := defScope sClaimI) (by decide +kernel))
          (fun _ _ _ _ _ => pg_tupK (K := K) rfl (n := 2) rfl (pgs_cons (pg_name (i := 3) nd rfl (Or.inl rfl)) (pgs_cons (pg_name (i := 4) nd rfl (Or.inl rfl)) pgs_nil))) (fun _ _ _ _ _ => pts_nil)
          (fun _ _ _ _ _ => pe_tup (pa_cons (pv 3) (pa_cons (pv 4) pa_nil)))) pa_nil)) rfl)
      (pss_cons (ps_asg (pe_lc (own := [("number", 3), ("word", 4)]) rfl nd (pi_tup (pe_fld (pv 0) rfl)) (blkOk_by (own := [("number", 3), ("word", 4)]) (N := nClaimI) (sc := defScope sClaimI) (by decide +kernel))
          (fun _ _ _ _ _ => pg_tupK (K := K) rfl (n := 2) rfl (pgs_cons (pg_name (i := 3) nd rfl (Or.inl rfl)) (pgs_cons (pg_name (i := 4) nd rfl (Or.inl rfl)) pgs_nil))) (fun _ _ _ _ _ => pts_nil)
          (fun _ _ _ _ _ => pe_tup (pa_cons (pv 3) (pa_cons (pe_cR G hr (T.g "coefficients") (T.k "coefficients") pass0 (pa_cons (pv 4) pa_nil)) pa_nil)))) (pg_name (i := 2) nd rfl (Or.inr rfl)))
      (pss_one (ps_fld (pv 0) (pe_dc (own := [("kind", 5)]) rfl nd (pi_tup (pe_glob (v := .ref (He.ga K "KINDS")) rfl (T.g "KINDS") rfl)) (blkOk_by (own := [("kind", 5)]) (N := nClaimI) (sc := defScope sClaimI) (by decide +kernel)) (fun _ _ _ _ _ => pg_name (i := 5) nd rfl (Or.inr rfl)) (fun _ _ _ _ _ => pts_nil)
        (fun _ _ _ _ _ => pv 5)
        (fun _ _ _ _ _ => pe_callB (r := rSum K) (cr_sum rfl) (by rfl) (T.f "sum") (by decide +kernel) (pa_cons
          (pe_lc (own := [("number", 3), ("sizes", 6)]) rfl nd (pi_listK (K := K) rfl (pv 2)) (blkOk_by (own := [("number", 3), ("sizes", 6)]) (N := nClaimI) (sc := relS (compSc (stVal (nthSt sClaimI 2))) (defScope sClaimI)) (by decide +kernel))
            (fun _ _ _ _ _ => pg_tupK (K := K) rfl (n := 2) rfl (pgs_cons (pg_name (i := 3) nd rfl (Or.inl rfl)) (pgs_cons (pg_name (i := 6) nd rfl (Or.inl rfl)) pgs_nil))) (fun _ _ _ _ _ => pts_nil)
            (fun _ _ _ _ _ => pe_op op_mul (pv 3) (pe_dget hu (pv 6) (pv 5) (fun _ _ => rfl)))) pa_nil))) rfl))), ?_⟩
    have h9 : ts.length ≤ 99999 := by rw [hl.1]; omega
    refine ⟨_, rfl, q, rfl, ⟨_, SqL.of hq⟩, fun D nD => lc_map (walk_list (xs := ts)) (fun i v H => ∀ a, l[i]? = some a → TermAt (He.ga K "Word") H v a) nD h9 (fun H e => SqL.of (e q _ hq)) (fun i v H H' xs hx e h a ha => (h a ha).mono (e.n hx)) (fun i x H0 H' Qe hi e hDl y kq => ?_) (fun zs H2 e2 hD hzl hz => ?_)⟩
    · obtain ⟨rfl, hx⟩ := y
      obtain ⟨a, ha, p', v', rfl, h1, h2⟩ := hl.get hx
      refine ⟨p', _, rfl, SqT.of (e p' _ h1), rfl, _, _, rfl, _, _, rfl, rfl, rfl, _, rfl, _, rfl, (by show 2 ≤ sizeLine; decide), fun t nt => kq _ _ (Evl.Ex.new nt) (fun a' ha' => ?_)⟩
      rw [ha] at ha'
      obtain rfl := Option.some.inj ha'
      exact ⟨t, v', rfl, upd_same, (h2.ex e).ex (Evl.Ex.new nt)⟩
    have hzA : AllAt (TermAt (He.ga K "Word")) H2 zs l := ⟨by rw [hzl, hl.1], fun i v a hv ha => hz i v hv a ha⟩
    refine ⟨D, zs, rfl, .inl ⟨SqL.of hD, fun t nt => ?_⟩⟩
    have x2 : Ex H2 (upd H2 t (.tup zs)) := Evl.Ex.new nt
    have hp2 := x2 p _ (e2 p _ hp)
    have npt : p ≠ t := fun z => by rw [z, upd_same] at hp2; cases hp2
    refine ⟨_, rfl, p, _, dx, [], rfl, hp2, cC, nT, (by show 0 < 1000; decide), ?_⟩
    generalize hH3 : upd (upd H2 t (.tup zs)) p (.ins (He.ga K "Claim") dx (putF "terms" (.ref t) [])) = H3
    have b3 : ∀ b o, b ≠ p → H2 b = some o → H3 b = some o := fun b o hb h => by rw [← hH3, upd_ne hb]; exact x2 b o h
    have hp3 : H3 p = some (.ins (He.ga K "Claim") dx (putF "terms" (.ref t) [])) := by rw [← hH3, upd_same]
    have ht3 : H3 t = some (.tup zs) := by rw [← hH3, upd_ne npt.symm, upd_same]
    have hpH2 := e2 p _ hp
    have hzA3 : AllAt (TermAt (He.ga K "Word")) H3 zs l := hzA.mono fun v a h => h.but (p := p) (fun dx' s q' z => by rw [hpH2] at z; injection z with z; injection z with _ _ z; exact wf_ne _ _ z.symm) (fun xs z => by rw [hpH2] at z; cases z) b3
    have hlk : (putF "terms" (.ref t) [] : List (Str × V)).lookup ("terms" : Str) = some (.ref t) := by rw [lookup_putF, if_pos rfl]
    refine ⟨_, rfl, p, _, dx, _, _, rfl, hp3, cC, nT, hlk, t, rfl, ⟨_, SqT.of ht3⟩, fun D2 nD2 => lc_map (walk_tup (xs := zs)) (fun i v H => ∀ a, l[i]? = some a → TolAt H v a) nD2 (by rw [hzA.1]; omega) (fun H e => SqT.of (e t _ ht3)) (fun i v H H' xs hx e h a ha => (h a ha).mono (e.n hx)) (fun i x H0 H' Qe hi e hDl y kq => ?_) (fun ws H4 e4 hD2 hwl hw => ?_)⟩
    · obtain ⟨rfl, hx⟩ := y
      obtain ⟨a, ha, p', v', rfl, h1, h2⟩ := hzA3.get hx
      refine ⟨p', _, rfl, SqT.of (e p' _ h1), rfl, _, _, rfl, _, _, rfl, rfl, rfl, _, rfl, _, rfl, v', a.2, rfl, h2.ex e, hdp a (List.mem_of_getElem? ha), fun v4 H5 e5 h5 => ⟨(by show 2 ≤ sizeLine; decide), fun u nu => kq _ _ (e5.trans (Evl.Ex.new nu)) (fun a' ha' => ?_)⟩⟩
      rw [ha] at ha'
      obtain rfl := Option.some.inj ha'
      exact ⟨u, v4, rfl, upd_same, h5.mono (.of (Evl.Ex.new nu))⟩
    have hwA : AllAt TolAt H4 ws l := ⟨by rw [hwl, hzA.1], fun i v a hv ha => hw i v hv a ha⟩
    have hp4 := e4 p _ hp3
    have ht4 := e4 t _ ht3
    refine ⟨_, rfl, ⟨_, T.kinds _⟩, fun D3 nD3 => dc_val (walk_tup (xs := kinds.map V.str)) (fun i => Sum.inr (kAt i)) (fun i => .int (sumsOf l (kAt i))) nD3 (by decide) (fun i j hi hj e => kAt_inj i j hi hj (Sum.inr.inj e)) (fun H e => T.kinds H) (fun i x H0 H' Qe hi e y kq => ?_) (fun H5 e5 hD3 => ?_)⟩
    · obtain ⟨rfl, hx⟩ := y
      obtain ⟨hi9, rfl, hm⟩ := kAt_some hx
      refine ⟨rfl, _, rfl, _, rfl, D2, rfl, ⟨_, SqL.of (e D2 _ hD2)⟩, fun D4 nD4 => lc_val (walk_list (xs := ws)) (fun j => .int ((fun t : Int × Wd => t.1 * t.2.cf (kAt i)) (l.getD j (0, .a)))) nD4 (by rw [hwA.1]; omega) (fun H e' => SqL.of (e' D2 _ (e D2 _ hD2))) (fun j x H0 H'' Qe hj e' y kq' => ?_) (fun H6 e6 hD4 => ?_)⟩
      · obtain ⟨rfl, hx⟩ := y
        obtain ⟨a, ha, p', v', rfl, h1, ⟨a2, rfl, h2⟩⟩ := hwA.get hx
        have ha2 := e' a2 _ (e a2 _ h2)
        have g : DGet H'' a2 (.str (kAt i)) (some (.int (a.2.cf (kAt i)))) := by
          have := DGet.k (k := Sum.inr (kAt i)) ha2
          rw [d9_at _ hm] at this
          exact this
        refine ⟨p', _, rfl, SqT.of (e' p' _ (e p' _ h1)), rfl, _, _, rfl, _, _, rfl, rfl, rfl, _, rfl, _, rfl, _, rfl, a2, _, rfl, g, _, _, rfl, rfl, .inr ?_, ?_⟩
        · have := a.2.cf02 (kAt i)
          exact ⟨by omega, by omega⟩
        · have := kq' H'' (Ex.refl _)
          rw [List.getD_eq_getElem?_getD, ha] at this
          exact this
      · refine ⟨D4, l.map fun t => t.1 * t.2.cf (kAt i), rfl, SqL.of ?_, ?_⟩
        · rw [hD4, hwA.1, ← range_getD l (0, .a)]
          simp
        · exact kq H6 e6
    · have hp5 := e5 p _ hp4
      refine ⟨_, rfl, p, _, dx, _, rfl, hp5, cC, nS, (by show 1 < 1000; decide), ?_⟩
      have hD3p : D3 ≠ p := ne_of hD3 hp5 (by intro z; cases z)
      refine k _ (fun b o hb hne => ?_) ⟨p, dx, t, D3, rfl, upd_same, by rw [upd_ne hD3p]; exact hD3⟩
      rw [upd_ne hne]
      exact e5 b o (e4 b o (b3 b o hne (e2 b o hb)))
end
end HX
end

section
set_option Elab.async false
set_option linter.all false
set_option maxRecDepth 100000
set_option maxHeartbeats 4000000
/-! Numbers of kinds; totals; the law's claims. -/
namespace HX
open PySem PySem.Spec PyProof.Rows L2
open Evl (Ex)
section
variable {P : Program} {w : World} {K : PySem.W.Frag} {mg : Str → Option Value} {base : Heap}
/-! ### is_integer -/
def spIsInt : Sp := fun vs H Q _ => ∃ i : Int, vs = [.int i] ∧ Q (.bl true) H
abbrev nIsInt : List Str := ["value"]
theorem scIsInt : FnScope nIsInt ["value"] (defScope sIsInt) := ⟨rfl, rfl, rfl, by decide +kernel, rfl, by decide +kernel, by decide +kernel⟩
theorem ok_isInt (T : Tx w K mg) : FnR P w K mg base CX0 1 (He.ga K "is_integer") spIsInt := by
  refine fnr (T.fnG1 0 dIsInt rfl) rfl scIsInt (fun _ _ _ _ _ _ us hl => match us, hl with | [_], _ => rfl) (fun vs H Q E h => ?_) (fun cdv A outer s H vs Q E hr h => ?_)
  · obtain ⟨_, rfl, _⟩ := h
    rfl
  · obtain ⟨i, rfl, k⟩ := h
    refine ⟨_, pss_one (ps_ret (pe_and (pe_callB call_isi (by rfl) (T.f "isinstance") (by decide +kernel) (pa_cons (pv 0) (pa_cons (pe_bltn (v := .ty "int") (by rfl) (T.f "int") (by decide +kernel) rfl) pa_nil)))
      (pe_one (pe_not (pe_callB call_isi (by rfl) (T.f "isinstance") (by decide +kernel) (pa_cons (pv 0) (pa_cons (pe_bltn (v := .ty "bool") (by rfl) (T.f "bool") (by decide +kernel) rfl) pa_nil))))))), ?_⟩
    refine ⟨_, rfl, _, _, .type "int", .type "int", true, rfl, .ty "int", .base (.int _), kit_ty (by decide +kernel), true, rfl, iteT ?_⟩
    refine ⟨_, rfl, _, _, .type "int", .type "bool", false, rfl, .ty "bool", .base (.int _), kit_ty (by decide +kernel), _, rfl, k⟩
/-! ### full_numbers -/
/-- nine numbers stand at v -/
def NumAt (H : Hp) (v : V) (n : Str → Int) : Prop := D9At H v (fun k => .int (n k))
theorem upd_id {H : Hp} {a : Addr} {o : HO} (h : H a = some o) : upd H a o = H := by
  funext b
  by_cases e : b = a
  · rw [e, upd_same, h]
  · rw [upd_ne e]
theorem kinds_in : ∀ k, k ∈ kinds → inV (.str k) (kinds.map V.str) = true := by decide +kernel
def spFull : Sp := fun vs H Q _ => ∃ (v : V) (n : Str → Int), vs = [v] ∧ NumAt H v n ∧ (∀ k, 0 ≤ n k) ∧ ∀ v' H', Ex H H' → NumAt H' v' n → Q v' H'
abbrev nFull : List Str := ["numbers", "kind"]
theorem scFull : FnScope nFull ["numbers"] (defScope sFull) := ⟨rfl, rfl, rfl, by decide +kernel, rfl, by decide +kernel, by decide +kernel⟩
theorem ok_full (T : Tx w K mg) : FnR P w K mg base CX0 2 (He.ga K "full_numbers") spFull := by
  have G := ok_isInt (P := P) (base := base) T
  refine fnr (T.fnG1 1 dFull rfl) rfl scFull (fun _ _ _ _ _ _ us hl => match us, hl with | [_], _ => rfl) (fun vs H Q E h => ?_) (fun cdv A outer s H vs Q E hr h => ?_)
  · obtain ⟨_, _, rfl, _⟩ := h
    rfl
  · obtain ⟨v, n, rfl, ⟨a, rfl, ha⟩, hn, k⟩ := h
    have nd := scFull.nd
    have hu := hu_of hr
    refine ⟨_, pss_cons (ps_lock (ps_for PassesOwn.never rfl (pi_keys (pv 0)) (pg_name (i := 1) nd rfl (Or.inl rfl))
        (pss_one (ps_if (PW.pt (pw_or (pt_not (pt_val (pe_callB call_isi (by rfl) (T.f "isinstance") (by decide +kernel) (pa_cons (pv 1) (pa_cons (pe_bltn (v := .ty "str") (by rfl) (T.f "str") (by decide +kernel) rfl) pa_nil)))))
          (pw_or (pt_cmpR op_notIn_seq (pv 1) (pe_glob (v := .ref (He.ga K "KINDS")) rfl (T.g "KINDS") rfl) rfl)
          (pw_or (pt_not (pt_val (pe_cR G hr (T.g "is_integer") (T.k "is_integer") pass0 (pa_cons (pe_dget hu (pv 0) (pv 1) (fun _ _ => rfl)) pa_nil))))
          (pw_or1 (pt_cmpR op_lt (pe_dget hu (pv 0) (pv 1) (fun _ _ => rfl)) pe_int (nomark _))))))) (pss_one ps_never) pss_nil))))
      (pss_one (ps_ret (pe_dc (own := [("kind", 1)]) rfl nd (pi_tup (pe_glob (v := .ref (He.ga K "KINDS")) rfl (T.g "KINDS") rfl)) (blkOk_by (own := [("kind", 1)]) (N := nFull) (sc := defScope sFull) (by decide +kernel)) (fun _ _ _ _ _ => pg_name (i := 1) nd rfl (Or.inl rfl)) (fun _ _ _ _ _ => pts_nil)
        (fun _ _ _ _ _ => pv 1) (fun _ _ _ _ _ => pe_dget2 hu (pv 0) (pv 1) pe_int ⟨rfl, rfl, rfl, rfl⟩)))), ?_⟩
    refine ⟨a, _, ha, trivial, fun od => ?_⟩
    have hal : (upd H a (.frz od (.dK (d9 fun k => .int (n k))))) a = some (.frz od (.dK (d9 fun k => .int (n k)))) := upd_same
    refine ⟨_, rfl, a, od, rfl, .inl ⟨_, hal, ?_⟩⟩
    refine for_it walk_keys (fun i σ H' => ∃ v, σ = [some (.ref a), v] ∧ H' = upd H a (.frz od (.dK (d9 fun k => .int (n k))))) ⟨none, rfl, rfl⟩ (fun i σ H' _ h => ?_) (fun i x σ H' H'' hi h y => ?_) (fun σ H' h => ?_)
    · obtain ⟨_, _, rfl⟩ := h
      exact hal
    · obtain ⟨rfl, kk, vv, hkv, rfl⟩ := y
      obtain ⟨v0, rfl, rfl⟩ := h
      obtain ⟨kd, hkd, rfl, rfl⟩ : ∃ kd, kd ∈ kinds ∧ kk = Sum.inr kd ∧ vv = V.int (n kd) := by
        have hm := List.mem_of_getElem? hkv
        obtain ⟨kd, h1, h2⟩ := List.mem_map.mp hm
        injection h2 with h2 h3
        exact ⟨kd, h1, h2.symm, h3.symm⟩
      have g : DGet (upd H a (.frz od (.dK (d9 fun k => .int (n k))))) a (.str kd) (some (.int (n kd))) := .inl ⟨_, Sum.inr kd, .inr ⟨od, hal⟩, rfl, (d9_at (fun k => .int (n k)) hkd).symm⟩
      refine ⟨_, rfl, _, _, .type "str", .type "str", true, rfl, .ty "str", .base (.str _), kit_ty (by decide +kernel), _, rfl, iteF ?_⟩
      refine ⟨_, rfl, _, _, rfl, .inr (T.kinds _), rfl, by decide +kernel, _, rfl, ite_f (by show (!inV (.str kd) (kinds.map V.str)) = false; rw [kinds_in kd hkd]; rfl) ?_⟩
      refine ⟨_, rfl, _, rfl, a, _, rfl, g, n kd, rfl, _, rfl, iteF ?_⟩
      refine ⟨_, rfl, _, rfl, a, _, rfl, g, _, _, rfl, rfl, _, rfl, ite_f (by simpa using hn kd) ?_⟩
      exact ⟨_, rfl, rfl⟩
    · obtain ⟨v0, rfl, rfl⟩ := h
      refine ⟨hal, ?_⟩
      rw [upd_upd, upd_id ha]
      refine ⟨_, rfl, ⟨_, T.kinds _⟩, fun D nD => ?_⟩
      refine dc_val (walk_tup (xs := kinds.map V.str)) (fun i => Sum.inr (kAt i)) (fun i => .int (n (kAt i))) nD (by decide) (fun i j hi hj e => kAt_inj i j hi hj (Sum.inr.inj e)) (fun H e => T.kinds H) (fun i x H0 H' Qe hi e y kq => ?_) (fun H2 e2 hD => ?_)
      · obtain ⟨rfl, hx⟩ := y
        obtain ⟨hi9, rfl, hm⟩ := kAt_some hx
        have ha' := e a _ ha
        have g := DGet.k (k := Sum.inr (kAt i)) ha'
        rw [d9_at _ hm] at g
        exact ⟨rfl, _, rfl, _, rfl, a, rfl, .inl ⟨_, .inl ha'⟩, _, rfl, _, g, kq H' (Ex.refl _)⟩
      · exact k _ H2 e2 ⟨D, rfl, hD⟩
/-! ### Claim.total -/
def tot (f n : Str → Int) : Int := (kinds.map fun k => f k * n k).sum
def SmallF (f : Str → Int) : Prop := ∀ k, -1000 ≤ f k ∧ f k ≤ 1000
def spTotal (C : Addr) : Sp := fun vs H Q _ => ∃ (v u : V) (f n : Str → Int), vs = [v, u] ∧ ClAt C H v f ∧ SmallF f ∧ NumAt H u n ∧ (∀ k, 0 ≤ n k) ∧ ∀ H', Ex H H' → Q (.int (tot f n)) H'
abbrev nTotal : List Str := ["self", "numbers", "whole", "kind"]
theorem scTotal : FnScope nTotal ["self", "numbers"] (defScope sTotal) := ⟨rfl, rfl, rfl, by decide +kernel, rfl, by decide +kernel, by decide +kernel⟩
theorem kinds_range {β : Type} (F : Str → β) : (List.range 9).map (fun i => F (kAt i)) = kinds.map F := rfl
theorem ok_total (T : Tx w K mg) : FnR P w K mg base CX0 3 (He.ma K (He.ga K "Claim") "total") (spTotal (He.ga K "Claim")) := by
  have G := ok_full (P := P) (base := base) T
  refine fnr (T.fnM1 2 dTotal rfl) rfl scTotal (fun _ _ _ _ _ _ us hl => match us, hl with | [_, _], _ => rfl) (fun vs H Q E h => ?_) (fun cdv A outer s H vs Q E hr h => ?_)
  · obtain ⟨_, _, _, _, rfl, _⟩ := h
    rfl
  · obtain ⟨v, u, f, n, rfl, ⟨p, dx, t, d, rfl, hp, hd⟩, hf, hu', hn, k⟩ := h
    have nd := scTotal.nd
    have hu := hu_of hr
    have cC := T.c "Claim"
    have nS := T.noat "Claim" "sums" (by decide +kernel)
    refine ⟨_, pss_cons (ps_asg (pe_cR G hr (T.g "full_numbers") (T.k "full_numbers") pass0 (pa_cons (pv 1) pa_nil)) (pg_name (i := 2) nd rfl (Or.inr rfl)))
      (pss_one (ps_ret (pe_callB (r := rSum K) (cr_sum rfl) (by rfl) (T.f "sum") (by decide +kernel) (pa_cons
        (pe_lc (own := [("kind", 3)]) rfl nd (pi_tup (pe_glob (v := .ref (He.ga K "KINDS")) rfl (T.g "KINDS") rfl)) (blkOk_by (own := [("kind", 3)]) (N := nTotal) (sc := defScope sTotal) (by decide +kernel)) (fun _ _ _ _ _ => pg_name (i := 3) nd rfl (Or.inl rfl)) (fun _ _ _ _ _ => pts_nil)
          (fun _ _ _ _ _ => pe_op op_mul (pe_dget hu (pe_fldK (K := K) rfl (pv 0) rfl) (pv 3) (fun _ _ => rfl)) (pe_dget hu (pv 2) (pv 3) (fun _ _ => rfl)))) pa_nil)))), ?_⟩
    refine ⟨_, rfl, u, n, rfl, hu', hn, fun v1 H1 e1 h1 => ?_⟩
    obtain ⟨a1, rfl, ha1⟩ := h1
    refine ⟨_, rfl, ⟨_, T.kinds _⟩, fun D nD => lc_val (walk_tup (xs := kinds.map V.str)) (fun i => .int (f (kAt i) * n (kAt i))) nD (by decide) (fun H e => T.kinds H) (fun i x H0 H' Qe hi e y kq => ?_) (fun H2 e2 hD => ?_)⟩
    · obtain ⟨rfl, hx⟩ := y
      obtain ⟨hi9, rfl, hm⟩ := kAt_some hx
      have g1 := DGet.k (k := Sum.inr (kAt i)) (e d _ (e1 d _ hd))
      rw [d9_at _ hm] at g1
      have g2 := DGet.k (k := Sum.inr (kAt i)) (e a1 _ ha1)
      rw [d9_at _ hm] at g2
      have b := hf (kAt i)
      exact ⟨rfl, _, rfl, p, _, dx, _, _, rfl, e p _ (e1 p _ hp), cC, nS, cf2_sums _ _, _, rfl, d, _, rfl, g1, _, rfl, _, rfl, a1, _, rfl, g2, _, _, rfl, rfl, .inl ⟨by omega, by omega⟩, kq H' (Ex.refl _)⟩
    · refine ⟨D, kinds.map fun k => f k * n k, rfl, SqL.of ?_, k H2 (e1.trans e2)⟩
      rw [hD]
      rfl
/-! ### row_of -/
def row9 (f : Str → Int) : List V := kinds.map fun k => V.int (f k)
def spRowOf (C : Addr) : Sp := fun vs H Q _ => ∃ (v : V) (f : Str → Int), vs = [v] ∧ ClAt C H v f ∧ ∀ p H', H p = none → Ex H H' → H' p = some (.lst (row9 f)) → Q (.ref p) H'
abbrev nRowOf : List Str := ["claim", "kind"]
theorem scRowOf : FnScope nRowOf ["claim"] (defScope sRowOf) := ⟨rfl, rfl, rfl, by decide +kernel, rfl, by decide +kernel, by decide +kernel⟩
theorem ok_rowOf (T : Tx w K mg) : FnR P w K mg base CX0 1 (He.ga K "row_of") (spRowOf (He.ga K "Claim")) := by
  refine fnr (T.fnG1 12 dRowOf rfl) rfl scRowOf (fun _ _ _ _ _ _ us hl => match us, hl with | [_], _ => rfl) (fun vs H Q E h => ?_) (fun cdv A outer s H vs Q E hr h => ?_)
  · obtain ⟨_, _, rfl, _⟩ := h
    rfl
  · obtain ⟨v, f, rfl, ⟨p, dx, t, d, rfl, hp, hd⟩, k⟩ := h
    have nd := scRowOf.nd
    have hu := hu_of hr
    have cC := T.c "Claim"
    have nS := T.noat "Claim" "sums" (by decide +kernel)
    refine ⟨_, pss_one (ps_ret (pe_lc (own := [("kind", 1)]) rfl nd (pi_tup (pe_glob (v := .ref (He.ga K "KINDS")) rfl (T.g "KINDS") rfl)) (blkOk_by (own := [("kind", 1)]) (N := nRowOf) (sc := defScope sRowOf) (by decide +kernel)) (fun _ _ _ _ _ => pg_name (i := 1) nd rfl (Or.inl rfl)) (fun _ _ _ _ _ => pts_nil)
          (fun _ _ _ _ _ => pe_dget hu (pe_fldK (K := K) rfl (pv 0) rfl) (pv 1) (fun _ _ => rfl)))), ?_⟩
    refine ⟨_, rfl, ⟨_, T.kinds _⟩, fun D nD => lc_val (walk_tup (xs := kinds.map V.str)) (fun i => .int (f (kAt i))) nD (by decide) (fun H e => T.kinds H) (fun i x H0 H' Qe hi e y kq => ?_) (fun H2 e2 hD => ?_)⟩
    · obtain ⟨rfl, hx⟩ := y
      obtain ⟨hi9, rfl, hm⟩ := kAt_some hx
      have g1 := DGet.k (k := Sum.inr (kAt i)) (e d _ hd)
      rw [d9_at _ hm] at g1
      exact ⟨rfl, _, rfl, p, _, dx, _, _, rfl, e p _ hp, cC, nS, cf2_sums _ _, _, rfl, d, _, rfl, g1, kq H' (Ex.refl _)⟩
    · exact k D H2 nD e2 hD
/-! ### the law's claims -/
def PairAt (H : Hp) (v : V) (q : Wd × Wd) : Prop := ∃ p x y, v = .ref p ∧ H p = some (.tup [x, y]) ∧ ShAt H x q.1 ∧ ShAt H y q.2
theorem PairAt.mono {H H' : Hp} {v : V} {q : Wd × Wd} (e : ExN H H') (h : PairAt H v q) : PairAt H' v q := by
  obtain ⟨p, x, y, rfl, h1, h2, h3⟩ := h
  exact ⟨p, x, y, rfl, e _ _ (fun _ z => by cases z) h1, h2.mono e, h3.mono e⟩
def innerF (q : Wd × Wd) (k : Str) : Int := (Wd.cut q.1 q.2).cf k - q.1.cf k
def PairOk (q : Wd × Wd) : Prop := q.1.depth ≤ 10 ∧ q.2.depth ≤ 10
def spInner (C : Addr) (sg : Int) : Sp := fun vs H Q _ => ∃ (v : V) (q : Wd × Wd), vs = [v] ∧ PairAt H v q ∧ PairOk q ∧ ∀ v' H', Ex H H' → ClAt C H' v' (fun k => sg * innerF q k) → Q v' H'
abbrev nInner : List Str := ["_law_pair", "_law_one", "_law_other"]
theorem scInner : FnScope nInner ["_law_pair"] (defScope sInner) := ⟨rfl, rfl, rfl, by decide +kernel, rfl, by decide +kernel, by decide +kernel⟩
theorem scOuter : FnScope nInner ["_law_pair"] (defScope sOuter) := ⟨rfl, rfl, rfl, by decide +kernel, rfl, by decide +kernel, by decide +kernel⟩
theorem ok_inner (T : Tx w K mg) : FnR P w K mg base CX0 27 (He.ga K "_law_inner") (spInner (He.ga K "Claim") 1) := by
  have G := ok_lword (P := P) (base := base) T 21
  have GI := ok_claimI (P := P) (base := base) T
  refine fnr (T.fnG2 4 dInner rfl) rfl scInner (fun _ _ _ _ _ _ us hl => match us, hl with | [_], _ => rfl) (fun vs H Q E h => ?_) (fun cdv A outer s H vs Q E hr h => ?_)
  · obtain ⟨_, _, rfl, _⟩ := h
    rfl
  · obtain ⟨v, q, rfl, ⟨p, x, y, rfl, hp, hx, hy⟩, ⟨d1, d2⟩, k⟩ := h
    have nd := scInner.nd
    have hr1 : Room 23 _ := hr.mono (by decide)
    refine ⟨_, pss_cons (ps_asg (pv 0) (pg_tup (by rfl) (pgs_cons (pg_name (i := 1) nd rfl (Or.inl rfl)) (pgs_cons (pg_name (i := 2) nd rfl (Or.inl rfl)) pgs_nil))))
      (pss_one (ps_ret (StX.pe_makeR (T.mkc "Claim") GI hr rfl (T.g "Claim") pass0 (pa_cons (pe_lst
        (pa_cons (pe_tup (pa_cons pe_int (pa_cons (pe_cR G hr1 (T.g "_law_word") (T.k "_law_word") pass0 (pa_cons (pe_tup (pa_cons pe_str (pa_cons (pv 1) (pa_cons (pv 2) pa_nil)))) pa_nil)) pa_nil)))
        (pa_cons (pe_tup (pa_cons (pe_un un_neg pe_int) (pa_cons (pe_cR G hr1 (T.g "_law_word") (T.k "_law_word") pass0 (pa_cons (pv 1) pa_nil)) pa_nil))) pa_nil))) pa_nil)))), ?_⟩
    refine ⟨_, rfl, p, _, rfl, SqT.of hp, rfl, _, _, rfl, _, _, rfl, rfl, ?_⟩
    refine ⟨_, rfl, _, rfl, (by show 3 ≤ sizeLine; decide), fun t nt => ?_⟩
    have e1 : Ex H (upd H t (.tup [.str "&", x, y])) := Evl.Ex.new nt
    refine ⟨.ref t, .cut q.1 q.2, rfl, .node upd_same rfl (hx.ex e1) (hy.ex e1), (by simp only [Wd.depth]; omega), fun v1 H1 e2 h1 => ?_⟩
    refine ⟨(by show 2 ≤ sizeLine; decide), fun t1 nt1 => ?_⟩
    have e3 : Ex H1 (upd H1 t1 (.tup [.int 1, v1])) := Evl.Ex.new nt1
    refine ⟨1, rfl, _, rfl, x, q.1, rfl, ((hx.ex e1).ex e2).ex e3, Nat.le_trans d1 (by decide), fun v2 H2 e4 h2 => ?_⟩
    refine ⟨(by show 2 ≤ sizeLine; decide), fun t2 nt2 => ?_⟩
    have e5 : Ex H2 (upd H2 t2 (.tup [.int (-1), v2])) := Evl.Ex.new nt2
    refine ⟨(by show 2 ≤ sizeLine; decide), fun l nl => ?_⟩
    have e6 : Ex (upd H2 t2 (.tup [.int (-1), v2])) (upd (upd H2 t2 (.tup [.int (-1), v2])) l (.lst [.ref t1, .ref t2])) := Evl.Ex.new nl
    intro xx dx nx ndx ne
    have e7 : Ex (upd (upd H2 t2 (.tup [.int (-1), v2])) l (.lst [.ref t1, .ref t2])) (upd (upd (upd (upd H2 t2 (.tup [.int (-1), v2])) l (.lst [.ref t1, .ref t2])) dx (.own xx)) xx (.ins (He.ga K "Claim") dx [])) := fun b o hb => by
      rw [upd_ne (ne_of_none hb nx), upd_ne (ne_of_none hb ndx)]; exact hb
    have ht1 := e7 _ _ (e6 _ _ (e5 _ _ (e4 t1 _ upd_same)))
    have ht2 := e7 _ _ (e6 t2 _ upd_same)
    have hl := e7 l _ upd_same
    have w1 := ((((h1.ex e3).ex e4).ex e5).ex e6).ex e7
    have w2 := ((h2.ex e5).ex e6).ex e7
    refine ⟨xx, dx, l, [(1, .cut q.1 q.2), (-1, q.1)], _, rfl, upd_same, hl, ⟨rfl, fun i v a hv ha => ?_⟩, (by show 2 ≤ 10; decide), (fun t ht => ?_), fun H' kp hc => ⟨rfl, k _ H' (fun b o hb => ?_) ?_⟩⟩
    · match i, hv, ha with
      | 0, hv, ha =>
        obtain rfl := Option.some.inj hv
        obtain rfl := Option.some.inj ha
        exact ⟨t1, v1, rfl, ht1, w1⟩
      | 1, hv, ha =>
        obtain rfl := Option.some.inj hv
        obtain rfl := Option.some.inj ha
        exact ⟨t2, v2, rfl, ht2, w2⟩
    · rcases List.mem_cons.mp ht with rfl | ht
      · show (Wd.cut q.1 q.2).depth ≤ maxD
        simp only [Wd.depth, maxD]; omega
      · rcases List.mem_cons.mp ht with rfl | ht
        · show q.1.depth ≤ maxD
          simp only [maxD]; omega
        · cases ht
    · have hb6 := e6 b o (e5 b o (e4 b o (e3 b o (e2 b o (e1 b o hb)))))
      exact kp b o (e7 b o hb6) (ne_of_none hb6 nx)
    · have ef : sumsOf [(1, .cut q.1 q.2), (-1, q.1)] = fun k => 1 * innerF q k := by
        funext k
        show 1 * (Wd.cut q.1 q.2).cf k + (-1 * q.1.cf k + 0) = 1 * ((Wd.cut q.1 q.2).cf k - q.1.cf k)
        omega
      rw [← ef]; exact hc
theorem ok_outer (T : Tx w K mg) : FnR P w K mg base CX0 27 (He.ga K "_law_outer") (spInner (He.ga K "Claim") (-1)) := by
  have G := ok_lword (P := P) (base := base) T 21
  have GI := ok_claimI (P := P) (base := base) T
  refine fnr (T.fnG2 5 dOuter rfl) rfl scOuter (fun _ _ _ _ _ _ us hl => match us, hl with | [_], _ => rfl) (fun vs H Q E h => ?_) (fun cdv A outer s H vs Q E hr h => ?_)
  · obtain ⟨_, _, rfl, _⟩ := h
    rfl
  · obtain ⟨v, q, rfl, ⟨p, x, y, rfl, hp, hx, hy⟩, ⟨d1, d2⟩, k⟩ := h
    have nd := scOuter.nd
    have hr1 : Room 23 _ := hr.mono (by decide)
    refine ⟨_, pss_cons (ps_asg (pv 0) (pg_tup (by rfl) (pgs_cons (pg_name (i := 1) nd rfl (Or.inl rfl)) (pgs_cons (pg_name (i := 2) nd rfl (Or.inl rfl)) pgs_nil))))
      (pss_one (ps_ret (StX.pe_makeR (T.mkc "Claim") GI hr rfl (T.g "Claim") pass0 (pa_cons (pe_lst
        (pa_cons (pe_tup (pa_cons pe_int (pa_cons (pe_cR G hr1 (T.g "_law_word") (T.k "_law_word") pass0 (pa_cons (pv 1) pa_nil)) pa_nil)))
        (pa_cons (pe_tup (pa_cons (pe_un un_neg pe_int) (pa_cons (pe_cR G hr1 (T.g "_law_word") (T.k "_law_word") pass0 (pa_cons (pe_tup (pa_cons pe_str (pa_cons (pv 1) (pa_cons (pv 2) pa_nil)))) pa_nil)) pa_nil))) pa_nil))) pa_nil)))), ?_⟩
    refine ⟨_, rfl, p, _, rfl, SqT.of hp, rfl, _, _, rfl, _, _, rfl, rfl, ?_⟩
    refine ⟨_, rfl, x, q.1, rfl, hx, Nat.le_trans d1 (by decide), fun v1 H1 e2 h1 => ?_⟩
    refine ⟨(by show 2 ≤ sizeLine; decide), fun t1 nt1 => ?_⟩
    have e3 : Ex H1 (upd H1 t1 (.tup [.int 1, v1])) := Evl.Ex.new nt1
    refine ⟨1, rfl, _, rfl, _, rfl, (by show 3 ≤ sizeLine; decide), fun t nt => ?_⟩
    have e1 : Ex (upd H1 t1 (.tup [.int 1, v1])) (upd (upd H1 t1 (.tup [.int 1, v1])) t (.tup [.str "&", x, y])) := Evl.Ex.new nt
    refine ⟨.ref t, .cut q.1 q.2, rfl, .node upd_same rfl (((hx.ex e2).ex e3).ex e1) (((hy.ex e2).ex e3).ex e1), (by simp only [Wd.depth]; omega), fun v2 H2 e4 h2 => ?_⟩
    refine ⟨(by show 2 ≤ sizeLine; decide), fun t2 nt2 => ?_⟩
    have e5 : Ex H2 (upd H2 t2 (.tup [.int (-1), v2])) := Evl.Ex.new nt2
    refine ⟨(by show 2 ≤ sizeLine; decide), fun l nl => ?_⟩
    have e6 : Ex (upd H2 t2 (.tup [.int (-1), v2])) (upd (upd H2 t2 (.tup [.int (-1), v2])) l (.lst [.ref t1, .ref t2])) := Evl.Ex.new nl
    intro xx dx nx ndx ne
    have e7 : Ex (upd (upd H2 t2 (.tup [.int (-1), v2])) l (.lst [.ref t1, .ref t2])) (upd (upd (upd (upd H2 t2 (.tup [.int (-1), v2])) l (.lst [.ref t1, .ref t2])) dx (.own xx)) xx (.ins (He.ga K "Claim") dx [])) := fun b o hb => by
      rw [upd_ne (ne_of_none hb nx), upd_ne (ne_of_none hb ndx)]; exact hb
    have ht1 := e7 _ _ (e6 _ _ (e5 _ _ (e4 _ _ (e1 t1 _ upd_same))))
    have ht2 := e7 _ _ (e6 t2 _ upd_same)
    have hl := e7 l _ upd_same
    have w1 := (((((h1.ex e3).ex e1).ex e4).ex e5).ex e6).ex e7
    have w2 := ((h2.ex e5).ex e6).ex e7
    refine ⟨xx, dx, l, [(1, q.1), (-1, .cut q.1 q.2)], _, rfl, upd_same, hl, ⟨rfl, fun i v a hv ha => ?_⟩, (by show 2 ≤ 10; decide), (fun t ht => ?_), fun H' kp hc => ⟨rfl, k _ H' (fun b o hb => ?_) ?_⟩⟩
    · match i, hv, ha with
      | 0, hv, ha =>
        obtain rfl := Option.some.inj hv
        obtain rfl := Option.some.inj ha
        exact ⟨t1, v1, rfl, ht1, w1⟩
      | 1, hv, ha =>
        obtain rfl := Option.some.inj hv
        obtain rfl := Option.some.inj ha
        exact ⟨t2, v2, rfl, ht2, w2⟩
    · rcases List.mem_cons.mp ht with rfl | ht
      · show q.1.depth ≤ maxD
        simp only [maxD]; omega
      · rcases List.mem_cons.mp ht with rfl | ht
        · show (Wd.cut q.1 q.2).depth ≤ maxD
          simp only [Wd.depth, maxD]; omega
        · cases ht
    · have hb6 := e6 b o (e5 b o (e4 b o (e1 b o (e3 b o (e2 b o hb)))))
      exact kp b o (e7 b o hb6) (ne_of_none hb6 nx)
    · have ef : sumsOf [(1, q.1), (-1, .cut q.1 q.2)] = fun k => -1 * innerF q k := by
        funext k
        show 1 * q.1.cf k + (-1 * (Wd.cut q.1 q.2).cf k + 0) = -1 * ((Wd.cut q.1 q.2).cf k - q.1.cf k)
        omega
      rw [← ef]; exact hc
end
end HX
end

section
set_option Elab.async false
set_option linter.all false
set_option maxRecDepth 100000
set_option maxHeartbeats 4000000
/-! Facts. -/
namespace HX
open PySem PySem.Spec PyProof.Rows L2
open Evl (Ex)
/-! ### the mirror -/
abbrev Q2 := Wd × Wd
def brk (ins : List Q2) (k : Str) : Option Nat := ins.findIdx? fun q => !q.1.within q.2 k
def lck (outs : List Q2) (ks : List Str) : Option Nat := outs.findIdx? fun q => ks.all fun k => q.1.within q.2 k
def allowed (ins : List Q2) : List Str := kinds.filter fun k => (brk ins k).isNone
def optV : Option Nat → V
  | none => .non
  | some i => .int (i : Int)
def keptK (ins : List Q2) (q : Q2) : List Str := (allowed ins).filter fun k => q.1.within q.2 k
def clashB (ins outs : List Q2) : Bool := (lck outs (allowed ins)).isSome
def verd (ins outs : List Q2) (q : Q2) : Str := if keptK ins q = allowed ins then "sure" else if (lck outs (keptK ins q)).isNone then "open" else "barred"
theorem optV_is (o : Option Nat) : decide (optV o = .non) = o.isNone := by cases o <;> simp [optV]
/-! ### how facts stand -/
def WPairAt (C : Addr) (H : Hp) (v : V) (q : Q2) : Prop := ∃ t x y, v = .ref t ∧ H t = some (.tup [x, y]) ∧ WdAt C H x q.1 ∧ WdAt C H y q.2
theorem WPairAt.mono {C : Addr} {H H' : Hp} {v : V} {q : Q2} (e : ExN H H') (h : WPairAt C H v q) : WPairAt C H' v q := by
  obtain ⟨t, x, y, rfl, h1, h2, h3⟩ := h
  exact ⟨t, x, y, rfl, e _ _ (fun _ z => by cases z) h1, h2.mono e, h3.mono e⟩
def ff (a b : Addr) : List (Str × V) := putF "outside" (.ref b) (putF "inside" (.ref a) [])
theorem koi : ¬ (("outside" : Str) = "inside") := by decide +kernel
theorem ff_in (a b : Addr) : (ff a b).lookup ("inside" : Str) = some (.ref a) := by
  unfold ff
  rw [lookup_putF, if_neg (fun z => koi z.symm), lookup_putF, if_pos rfl]
theorem ff_out (a b : Addr) : (ff a b).lookup ("outside" : Str) = some (.ref b) := by
  unfold ff
  rw [lookup_putF, if_pos rfl]
theorem ff_no (a b : Addr) {m : Str} (h1 : ¬ m = "outside") (h2 : ¬ m = "inside") : (ff a b).lookup m = none := by
  unfold ff
  rw [lookup_putF, if_neg h1, lookup_putF, if_neg h2]
  all_goals rfl
def Dp2 (l : List Q2) : Prop := ∀ q ∈ l, q.1.depth ≤ maxD ∧ q.2.depth ≤ maxD
structure FaAt (C W : Addr) (H : Hp) (v : V) (ins outs : List Q2) : Prop where
  ex : ∃ p dx a b va vb, v = .ref p ∧ H p = some (.ins C dx (ff a b)) ∧ H a = some (.lst va) ∧ AllAt (WPairAt W) H va ins ∧ H b = some (.lst vb) ∧ AllAt (WPairAt W) H vb outs
  d1 : Dp2 ins
  d2 : Dp2 outs
  l1 : ins.length ≤ 100
  l2 : outs.length ≤ 100
theorem FaAt.mono {C W : Addr} {H H' : Hp} {v : V} {ins outs : List Q2} (e : Ex H H') (h : FaAt C W H v ins outs) : FaAt C W H' v ins outs := by
  obtain ⟨⟨p, dx, a, b, va, vb, rfl, h1, h2, h3, h4, h5⟩, d1, d2, l1, l2⟩ := h
  exact ⟨⟨p, dx, a, b, va, vb, rfl, e _ _ h1, e _ _ h2, h3.mono fun v a h => h.mono (.of e), e _ _ h4, h5.mono fun v a h => h.mono (.of e)⟩, d1, d2, l1, l2⟩
section
variable {P : Program} {w : World} {K : PySem.W.Frag} {mg : Str → Option Value} {base : Heap}
/-! ### broken -/
theorem findIdx_first {α : Type} {p : α → Bool} : ∀ {l : List α} {i : Nat} {a : α}, l[i]? = some a → p a = true → (∀ (j : Nat) b, j < i → l[j]? = some b → p b = false) → l.findIdx? p = some i
  | [], i, a, h, _, _ => by simp at h
  | x :: r, 0, a, h, hp, _ => by
    obtain rfl := Option.some.inj h
    simp [List.findIdx?_cons, hp]
  | x :: r, i + 1, a, h, hp, hn => by
    have h0 := hn 0 x (by omega) rfl
    rw [List.findIdx?_cons, h0, findIdx_first (l := r) (i := i) (a := a) h hp (fun j b hj hb => hn (j + 1) b (by omega) hb)]
    simp
theorem findIdx_none {α : Type} {p : α → Bool} {l : List α} (h : ∀ (j : Nat) b, l[j]? = some b → p b = false) : l.findIdx? p = none := by
  rw [List.findIdx?_eq_none_iff]
  intro x hx
  obtain ⟨j, hj, e⟩ := List.mem_iff_getElem.mp hx
  exact h j x (by rw [List.getElem?_eq_getElem hj, e])
def spBroken (C W : Addr) : Sp := fun vs H Q _ => ∃ (v : V) (ins outs : List Q2) (k : Str), vs = [v, .str k] ∧ FaAt C W H v ins outs ∧ k ∈ kinds ∧ ∀ H', Ex H H' → Q (optV (brk ins k)) H'
abbrev nBroken : List Str := ["self", "kind", "index", "first", "second"]
theorem scBroken : FnScope nBroken ["self", "kind"] (defScope sBroken) := ⟨rfl, rfl, rfl, by decide +kernel, rfl, by decide +kernel, by decide +kernel⟩
theorem ok_broken (T : Tx w K mg) : FnR P w K mg base CX0 24 (He.ma K (He.ga K "Facts") "broken") (spBroken (He.ga K "Facts") (He.ga K "Word")) := by
  have G := ok_within (P := P) (base := base) T
  refine fnr (T.fnM2 1 dBroken rfl) rfl scBroken (fun _ _ _ _ _ _ us hl => match us, hl with | [_, _], _ => rfl) (fun vs H Q E h => ?_) (fun cdv A outer s H vs Q E hr h => ?_)
  · obtain ⟨_, _, _, _, rfl, _⟩ := h
    rfl
  · obtain ⟨v, ins, outs, kd, rfl, ⟨⟨p, dx, a, b, va, vb, rfl, hp, ha, hA, hb, hB⟩, d1, d2, l1, l2⟩, hk, k⟩ := h
    have nd := scBroken.nd
    have cF := T.c "Facts"
    have nI := T.noat "Facts" "inside" (by decide +kernel)
    refine ⟨_, pss_cons (ps_for PassesOwn.never rfl (pi_enum (by rfl) (T.f "enumerate") (pa_cons (pe_fld (pv 0) rfl) pa_nil))
        (pg_tup rfl (pgs_cons (pg_name (i := 2) nd rfl (Or.inl rfl)) (pgs_cons (pg_tup rfl (pgs_cons (pg_name (i := 3) nd rfl (Or.inl rfl)) (pgs_cons (pg_name (i := 4) nd rfl (Or.inl rfl)) pgs_nil))) pgs_nil)))
        (pss_one (ps_if (pt_not (pt_val (pe_cR G hr (T.g "is_within") (T.k "is_within") pass0 (pa_cons (pv 3) (pa_cons (pv 4) (pa_cons (pv 1) pa_nil)))))) (pss_one (ps_ret (pv 2))) pss_nil)))
      (pss_one (ps_ret pe_non)), ?_⟩
    refine ⟨_, rfl, p, _, dx, _, _, rfl, hp, cF, nI, ff_in _ _, a, va, rfl, SqL.of ha, ?_⟩
    refine for_it walk_enum (fun i σ H' => (∃ x y z, σ = [some (.ref p), some (.str kd), x, y, z]) ∧ Ex H H' ∧ ∀ (j : Nat) q, j < i → ins[j]? = some q → q.1.within q.2 kd = true) ⟨⟨none, none, none, rfl⟩, Ex.refl _, fun j q h => by omega⟩ (fun i σ H' _ h => SqL.of (h.2.1 a _ ha)) (fun i x σ H' H'' hi h y => ?_) (fun σ H' h => ?_)
    · obtain ⟨t, x1, x2, rfl, nt, rfl, hx1, hx2⟩ := y
      obtain ⟨⟨s1, s2, s3, rfl⟩, e, hw⟩ := h
      obtain rfl : V.int (i : Nat) = x1 := Option.some.inj hx1
      obtain ⟨q, hq, u, y1, y2, rfl, hu, w1, w2⟩ := hA.get hx2
      have hd := d1 q (List.mem_of_getElem? hq)
      have e2 : Ex H' (upd H' t (.tup [.int (i : Nat), .ref u])) := Evl.Ex.new nt
      have e3 := e.trans e2
      refine ⟨t, _, rfl, SqT.of upd_same, rfl, _, _, rfl, _, _, rfl, ⟨u, _, rfl, SqT.of (e3 u _ hu), rfl, _, _, rfl, _, _, rfl, rfl, rfl, ?_⟩⟩
      refine ⟨_, rfl, _, rfl, _, rfl, y1, y2, q.1, q.2, kd, rfl, w1.ex e3, w2.ex e3, hd.1, hd.2, hk, fun H4 e4 => ⟨_, rfl, ?_⟩⟩
      by_cases c : q.1.within q.2 kd = true
      · rw [c]
        refine iteF ⟨⟨_, _, _, rfl⟩, e3.trans e4, fun j q' hj hq' => ?_⟩
        by_cases z : j = i
        · subst z
          rw [hq] at hq'
          obtain rfl := Option.some.inj hq'
          exact c
        · exact hw j q' (by omega) hq'
      · rw [Bool.eq_false_iff.mpr c]
        refine iteT ⟨_, rfl, ?_⟩
        have := k H4 (e3.trans e4)
        have eb : brk ins kd = some i := findIdx_first hq (by simpa using c) (fun j q' hj hq' => by simpa using hw j q' hj hq')
        rw [eb] at this
        exact this
    · obtain ⟨_, e, hw⟩ := h
      have := k H' e
      have eb : brk ins kd = none := findIdx_none (fun j q hq => by
        have hj : j < va.length := by rw [hA.1]; exact (List.getElem?_eq_some_iff.mp hq).1
        simpa using hw j q hj hq)
      rw [eb] at this
      exact this
/-! ### lacking -/
def spLacking (C W : Addr) : Sp := fun vs H Q _ => ∃ (v : V) (ins outs : List Q2) (ks : List Str) (l : Addr), vs = [v, .ref l] ∧ FaAt C W H v ins outs ∧ H l = some (.lst (ks.map V.str)) ∧ (∀ k ∈ ks, k ∈ kinds) ∧ ks.length ≤ 9 ∧ ∀ H', Ex H H' → Q (optV (lck outs ks)) H'
abbrev nLacking : List Str := ["self", "kinds", "index", "first", "second", "kind"]
theorem scLacking : FnScope nLacking ["self", "kinds"] (defScope sLacking) := ⟨rfl, rfl, rfl, by decide +kernel, rfl, by decide +kernel, by decide +kernel⟩
theorem ok_lacking (T : Tx w K mg) : FnR P w K mg base CX0 24 (He.ma K (He.ga K "Facts") "lacking") (spLacking (He.ga K "Facts") (He.ga K "Word")) := by
  have G := ok_within (P := P) (base := base) T
  refine fnr (T.fnM2 2 dLacking rfl) rfl scLacking (fun _ _ _ _ _ _ us hl => match us, hl with | [_, _], _ => rfl) (fun vs H Q E h => ?_) (fun cdv A outer s H vs Q E hr h => ?_)
  · obtain ⟨_, _, _, _, _, rfl, _⟩ := h
    rfl
  · obtain ⟨v, ins, outs, ks, l, rfl, ⟨⟨p, dx, a, b, va, vb, rfl, hp, ha, hA, hb, hB⟩, d1, d2, l1, l2⟩, hl, hks, hkl, k⟩ := h
    have nd := scLacking.nd
    have cF := T.c "Facts"
    have nO := T.noat "Facts" "outside" (by decide +kernel)
    refine ⟨_, pss_cons (ps_for PassesOwn.never rfl (pi_enum (by rfl) (T.f "enumerate") (pa_cons (pe_fld (pv 0) rfl) pa_nil))
        (pg_tup rfl (pgs_cons (pg_name (i := 2) nd rfl (Or.inl rfl)) (pgs_cons (pg_tup rfl (pgs_cons (pg_name (i := 3) nd rfl (Or.inr rfl)) (pgs_cons (pg_name (i := 4) nd rfl (Or.inr rfl)) pgs_nil))) pgs_nil)))
        (pss_one (ps_if (pt_val (pe_callB (r := rAll K) (cr_all rfl) (by rfl) (T.f "all") (by decide +kernel) (pa_cons
          (pe_lc (own := [("kind", 5)]) rfl nd (pi_list (pv 1)) (blkOk_by (own := [("kind", 5)]) (N := nLacking) (sc := defScope sLacking) (by decide +kernel)) (fun _ _ _ _ _ => pg_name (i := 5) nd rfl (Or.inl rfl)) (fun _ _ _ _ _ => pts_nil)
            (fun _ _ _ _ _ => pe_cR G hr (T.g "is_within") (T.k "is_within") pass0 (pa_cons (pv 3) (pa_cons (pv 4) (pa_cons (pv 5) pa_nil))))) pa_nil))) (pss_one (ps_ret (pv 2))) pss_nil)))
      (pss_one (ps_ret pe_non)), ?_⟩
    refine ⟨_, rfl, p, _, dx, _, _, rfl, hp, cF, nO, ff_out _ _, b, vb, rfl, SqL.of hb, ?_⟩
    refine for_it walk_enum (fun i σ H' => (∃ x y z, σ = [some (.ref p), some (.ref l), x, y, z, none]) ∧ Ex H H' ∧ ∀ (j : Nat) (q : Q2), j < i → outs[j]? = some q → (ks.all fun k => q.1.within q.2 k) = false) ⟨⟨none, none, none, rfl⟩, Ex.refl _, fun j q h => by omega⟩ (fun i σ H' _ h => SqL.of (h.2.1 b _ hb)) (fun i x σ H' H'' hi h y => ?_) (fun σ H' h => ?_)
    · obtain ⟨t, x1, x2, rfl, nt, rfl, hx1, hx2⟩ := y
      obtain ⟨⟨s1, s2, s3, rfl⟩, e, hw⟩ := h
      obtain rfl : V.int (i : Nat) = x1 := Option.some.inj hx1
      obtain ⟨q, hq, u, y1, y2, rfl, hu, w1, w2⟩ := hB.get hx2
      have hd := d2 q (List.mem_of_getElem? hq)
      have e2 : Ex H' (upd H' t (.tup [.int (i : Nat), .ref u])) := Evl.Ex.new nt
      have e3 := e.trans e2
      refine ⟨t, _, rfl, SqT.of upd_same, rfl, _, _, rfl, _, _, rfl, ⟨u, _, rfl, SqT.of (e3 u _ hu), rfl, _, _, rfl, _, _, rfl, rfl, rfl, ?_⟩⟩
      refine ⟨_, rfl, l, rfl, ⟨_, SqL.of (e3 l _ hl)⟩, fun D nD => lc_val (walk_list (xs := ks.map V.str)) (fun j => .bl (q.1.within q.2 (ks.getD j ""))) nD (by rw [List.length_map]; omega) (fun H5 e5 => SqL.of (e5 l _ (e3 l _ hl))) (fun j x H0 H5 Qe hj e5 y kq => ?_) (fun H6 e6 hD => ?_)⟩
      · obtain ⟨rfl, hx⟩ := y
        rw [List.getElem?_map] at hx
        obtain ⟨kd, hkd, rfl⟩ := Option.map_eq_some_iff.mp hx
        have eg : ks.getD j "" = kd := by rw [List.getD_eq_getElem?_getD, hkd]; rfl
        have kq' := fun H4 e4 => kq H4 e4
        rw [eg] at kq'
        exact ⟨rfl, _, rfl, _, rfl, _, rfl, y1, y2, q.1, q.2, kd, rfl, (w1.ex e3).ex e5, (w2.ex e3).ex e5, hd.1, hd.2, hks kd (List.mem_of_getElem? hkd), fun H4 e4 => kq' H4 e4⟩
      · refine ⟨D, ks.map fun k => q.1.within q.2 k, rfl, SqL.of ?_, _, rfl, ?_⟩
        · rw [hD, List.length_map]
          rw [show (fun j => V.bl (q.1.within q.2 (ks.getD j ""))) = fun j => (fun k => V.bl (q.1.within q.2 k)) (ks.getD j "") from rfl, range_getD ks "" (fun k => V.bl (q.1.within q.2 k)), List.map_map]
          rfl
        · have eall : ((ks.map fun k => q.1.within q.2 k).all id) = ks.all fun k => q.1.within q.2 k := by rw [List.all_map]; rfl
          rw [eall]
          by_cases c : (ks.all fun k => q.1.within q.2 k) = true
          · rw [c]
            refine iteT ⟨_, rfl, ?_⟩
            have := k H6 (e3.trans e6)
            have eb : lck outs ks = some i := findIdx_first hq c (fun j q' hj hq' => hw j q' hj hq')
            rw [eb] at this
            exact this
          · have c' := Bool.eq_false_iff.mpr c
            rw [c']
            refine iteF ⟨⟨_, _, _, rfl⟩, e3.trans e6, fun j q' hj hq' => ?_⟩
            by_cases z : j = i
            · subst z
              rw [hq] at hq'
              obtain rfl := Option.some.inj hq'
              exact c'
            · exact hw j q' (by omega) hq'
    · obtain ⟨_, e, hw⟩ := h
      have := k H' e
      have eb : lck outs ks = none := findIdx_none (fun j q hq => by
        have hj : j < vb.length := by rw [hB.1]; exact (List.getElem?_eq_some_iff.mp hq).1
        exact hw j q hj hq)
      rw [eb] at this
      exact this
/-! ### two lists of texts, a list beside the empty one -/
section
variable {X : Cx}
theorem strs_at : ∀ {xs : List Str} {us : List Value}, Vals (xs.map V.str) us → ∀ (j : Nat) u, us[j]? = some u → ∃ x t, xs[j]? = some x ∧ u = .str x t
  | [], _, .nil, j, u, h => by simp at h
  | x :: xs, _, .cons r rs, 0, u, h => by
    obtain rfl := Option.some.inj h
    obtain ⟨t, rfl⟩ := r
    exact ⟨x, t, rfl, rfl⟩
  | x :: xs, _, .cons r rs, j + 1, u, h => strs_at rs j u h
theorem all_same : ∀ (xs ys : List Str), xs.length = ys.length → ((List.range xs.length).all fun j => xs.getD j "" == ys.getD j "") = decide (xs = ys) := by
  intro xs ys hl
  by_cases e : xs = ys
  · subst e; simp
  · rw [decide_eq_false e]
    refine Bool.eq_false_iff.mpr fun h => e ?_
    rw [List.all_eq_true] at h
    refine List.ext_getElem hl fun j h1 h2 => ?_
    have := h j (List.mem_range.mpr h1)
    have q := eq_of_beq this
    simpa [List.getD_eq_getElem?_getD, h1, h2] using q
theorem pl_is {h : Heap} {a : Addr} {its : Array Value} (p : PlainL h a its) : h.IsList a its := by
  obtain ⟨o, n, h1, h2, _, h3⟩ := p
  exact ⟨o, h1, h2, n, h3⟩
def rEqLS (K : PySem.W.Frag) : R2 := fun x y H Q => ∃ (a b : Addr) (xs ys : List Str), x = .ref a ∧ y = .ref b ∧ SqL K H a (xs.map V.str) ∧ SqL K H b (ys.map V.str) ∧ Q (.bl (decide (xs = ys))) H
theorem op_eqLS (hu : X.A.units < cLine) : OpR X (compareOp .Eq) (rEqLS X.K) := by
  intro pins s σ H x y v u Q I rx ry h
  obtain ⟨a, b, xs, ys, rfl, rfl, h1, h2, q⟩ := h
  obtain rfl : v = Value.ref a := rx
  obtain rfl : u = Value.ref b := ry
  obtain ⟨its, r1, t1, _⟩ := I.list h1
  obtain ⟨its2, r2, t2, _⟩ := I.list h2
  have l1 := r1.length
  have l2 := r2.length
  rw [List.length_map] at l1 l2
  by_cases hl : xs.length = ys.length
  · refine SeqAt.eq_listAt (e := fun j => xs.getD j "" == ys.getD j "") (pl_is t1) (pl_is t2) (by simp; omega) hu (fun j h1 h2 => ?_) ?_
    · have hj1 : j < its.length := by simpa using h1
      have hj2 : j < its2.length := by simpa using h2
      obtain ⟨x1, k1, e1, e1'⟩ := strs_at r1 j its[j] (List.getElem?_eq_getElem hj1)
      obtain ⟨x2, k2, e2, e2'⟩ := strs_at r2 j its2[j] (List.getElem?_eq_getElem hj2)
      show SeqAt.EqAt _ _ (its.toArray[j]) (its2.toArray[j]) _
      have a1 : its.toArray[j] = .str x1 k1 := by simpa using e1'
      have a2 : its2.toArray[j] = .str x2 k2 := by simpa using e2'
      rw [a1, a2]
      have g1 : xs.getD j "" = x1 := by rw [List.getD_eq_getElem?_getD, e1]; rfl
      have g2 : ys.getD j "" = x2 := by rw [List.getD_eq_getElem?_getD, e2]; rfl
      rw [g1, g2]
      exact SeqAt.EqAt.str_str x1 k1 x2 k2
    · have e : ((List.range its.toArray.size).all fun j => xs.getD j "" == ys.getD j "") = decide (xs = ys) := by
        rw [show its.toArray.size = xs.length by simp; omega]
        exact all_same xs ys hl
      rw [e]
      exact ⟨.bl _, H, I, rfl, q⟩
  · refine SeqAt.eq_list_lengthsAt (pl_is t1) (pl_is t2) (by simp; omega) hu ?_
    rw [decide_eq_false (fun z => hl (by rw [z]))] at q
    exact ⟨.bl _, H, I, rfl, q⟩
def rEqL0 (K : PySem.W.Frag) : R2 := fun x y H Q => ∃ (a b : Addr) (xs : List V), x = .ref a ∧ y = .ref b ∧ SqL K H a xs ∧ SqL K H b [] ∧ Q (.bl xs.isEmpty) H
theorem op_eqL0 (hu : X.A.units < cLine) : OpR X (compareOp .Eq) (rEqL0 X.K) := by
  intro pins s σ H x y v u Q I rx ry h
  obtain ⟨a, b, xs, rfl, rfl, h1, h2, q⟩ := h
  obtain rfl : v = Value.ref a := rx
  obtain rfl : u = Value.ref b := ry
  obtain ⟨its, r1, t1, _⟩ := I.list h1
  obtain ⟨its2, r2, t2, _⟩ := I.list h2
  cases r2
  cases r1 with
  | nil =>
    refine SeqAt.eq_listAt (e := fun _ => true) (pl_is t1) (pl_is t2) rfl hu (fun j h1 h2 => absurd h2 (by simp)) ?_
    exact ⟨.bl _, H, I, rfl, q⟩
  | cons _ _ =>
    refine SeqAt.eq_list_lengthsAt (pl_is t1) (pl_is t2) (by simp) hu ?_
    exact ⟨.bl _, H, I, rfl, q⟩
end
/-! ### kinds -/
theorem allowed_in (ins : List Q2) : ∀ k ∈ allowed ins, k ∈ kinds := fun k h => (List.mem_filter.mp h).1
theorem allowed_len (ins : List Q2) : (allowed ins).length ≤ 9 := List.length_filter_le _ _
theorem kept_in (ins : List Q2) (q : Q2) : ∀ k ∈ keptK ins q, k ∈ kinds := fun k h => allowed_in ins k (List.mem_filter.mp h).1
theorem kept_len (ins : List Q2) (q : Q2) : (keptK ins q).length ≤ 9 := Nat.le_trans (List.length_filter_le _ _) (allowed_len ins)
theorem fil_kinds (pk : Str → Bool) : ((List.range 9).filter fun i => pk (kAt i)).map (fun i => V.str (kAt i)) = (kinds.filter pk).map V.str := by
  have e : kinds = (List.range 9).map kAt := rfl
  rw [e, List.filter_map, List.map_map]
  rfl
def spKinds (C W : Addr) : Sp := fun vs H Q _ => ∃ (v : V) (ins outs : List Q2), vs = [v] ∧ FaAt C W H v ins outs ∧ ∀ l H', H l = none → Ex H H' → H' l = some (.lst ((allowed ins).map V.str)) → Q (.ref l) H'
abbrev nKinds : List Str := ["self", "kind"]
theorem scKinds : FnScope nKinds ["self"] (defScope sKinds) := ⟨rfl, rfl, rfl, by decide +kernel, rfl, by decide +kernel, by decide +kernel⟩
theorem FaAt.ref {C W : Addr} {H : Hp} {v : V} {ins outs : List Q2} (h : FaAt C W H v ins outs) : ∃ p dx a b, v = .ref p ∧ H p = some (.ins C dx (ff a b)) := by
  obtain ⟨⟨p, dx, a, b, va, vb, rfl, hp, _⟩, _⟩ := h
  exact ⟨p, dx, a, b, rfl, hp⟩
theorem ok_kinds (T : Tx w K mg) : FnR P w K mg base CX0 25 (He.ma K (He.ga K "Facts") "kinds") (spKinds (He.ga K "Facts") (He.ga K "Word")) := by
  have G := ok_broken (P := P) (base := base) T
  refine fnr (T.fnM2 0 dKinds rfl) rfl scKinds (fun _ _ _ _ _ _ us hl => match us, hl with | [_], _ => rfl) (fun vs H Q E h => ?_) (fun cdv A outer s H vs Q E hr h => ?_)
  · obtain ⟨_, _, _, rfl, _⟩ := h
    rfl
  · obtain ⟨v, ins, outs, rfl, hF, k⟩ := h
    have nd := scKinds.nd
    have cF := T.c "Facts"
    have mB := T.meth "Facts" "broken" (by decide +kernel)
    refine ⟨_, pss_one (ps_ret (pe_lc (own := [("kind", 1)]) rfl nd (pi_tup (pe_glob (v := .ref (He.ga K "KINDS")) rfl (T.g "KINDS") rfl)) (blkOk_by (own := [("kind", 1)]) (N := nKinds) (sc := defScope sKinds) (by decide +kernel)) (fun _ _ _ _ _ => pg_name (i := 1) nd rfl (Or.inl rfl))
      (fun _ _ _ _ _ => pts_one (pt_cmpR op_isN (pe_methR (pv 0) cF mB G hr pass0 (pa_cons (pv 1) pa_nil)) pe_non (nomark _)))
      (fun _ _ _ _ _ => pv 1))), ?_⟩
    refine ⟨_, rfl, ⟨_, T.kinds _⟩, fun D nD => lc_fil (walk_tup (xs := kinds.map V.str)) (fun i => (brk ins (kAt i)).isNone) (fun i => .str (kAt i)) nD (by decide) (fun H e => T.kinds H) (fun i x H0 H' Qy Qn hi e y ky kn => ?_) (fun H2 e2 hD => ?_)⟩
    · obtain ⟨rfl, hx⟩ := y
      obtain ⟨hi9, rfl, hm⟩ := kAt_some hx
      obtain ⟨p, dx, a, b, rfl, hp⟩ := hF.ref
      refine ⟨rfl, _, rfl, p, dx, _, rfl, e p _ hp, ff_no _ _ (by decide +kernel) (by decide +kernel), _, rfl, .ref p, ins, outs, kAt i, rfl, hF.mono e, hm, fun H4 e4 => ⟨rfl, _, rfl, ?_⟩⟩
      rw [optV_is]
      cases c : (brk ins (kAt i)).isNone with
      | true => exact iteT ⟨_, rfl, ky c H4 e4⟩
      | false => exact iteF (kn c H4 e4)
    · refine k D H2 nD e2 ?_
      rw [hD]
      exact congrArg (fun l => some (HO.lst l)) (fil_kinds fun k => (brk ins k).isNone)
/-! ### clashes -/
def spClashes (C W : Addr) : Sp := fun vs H Q _ => ∃ (v : V) (ins outs : List Q2), vs = [v] ∧ FaAt C W H v ins outs ∧ ∀ H', Ex H H' → Q (.bl (clashB ins outs)) H'
abbrev nClashes : List Str := ["self"]
theorem scClashes : FnScope nClashes ["self"] (defScope sClashes) := ⟨rfl, rfl, rfl, by decide +kernel, rfl, by decide +kernel, by decide +kernel⟩
theorem ok_clashes (T : Tx w K mg) : FnR P w K mg base CX0 26 (He.ma K (He.ga K "Facts") "clashes") (spClashes (He.ga K "Facts") (He.ga K "Word")) := by
  have G := ok_lacking (P := P) (base := base) T
  have G2 := ok_kinds (P := P) (base := base) T
  refine fnr (T.fnM2 3 dClashes rfl) rfl scClashes (fun _ _ _ _ _ _ us hl => match us, hl with | [_], _ => rfl) (fun vs H Q E h => ?_) (fun cdv A outer s H vs Q E hr h => ?_)
  · obtain ⟨_, _, _, rfl, _⟩ := h
    rfl
  · obtain ⟨v, ins, outs, rfl, hF, k⟩ := h
    have nd := scClashes.nd
    have cF := T.c "Facts"
    have mL := T.meth "Facts" "lacking" (by decide +kernel)
    have mK := T.meth "Facts" "kinds" (by decide +kernel)
    have hr1 : Room 24 _ := hr.mono (by decide)
    refine ⟨_, pss_one (ps_ret (pe_cmp (pc_notN (pe_methR (pv 0) cF mL G hr1 pass0 (pa_cons (pe_mR0 (pv 0) cF mK G2 hr pass0) pa_nil))) rfl)), ?_⟩
    obtain ⟨p, dx, a, b, rfl, hp⟩ := hF.ref
    refine ⟨_, rfl, p, dx, _, rfl, hp, ff_no _ _ (by decide +kernel) (by decide +kernel), _, rfl, p, dx, _, rfl, hp, ff_no _ _ (by decide +kernel) (by decide +kernel), .ref p, ins, outs, rfl, hF, fun l H1 nl e1 hl => ?_⟩
    refine ⟨.ref p, ins, outs, allowed ins, l, rfl, hF.mono e1, hl, allowed_in ins, allowed_len ins, fun H2 e2 => ?_⟩
    have := k H2 (e1.trans e2)
    have ec : (!decide (optV (lck outs (allowed ins)) = .non)) = clashB ins outs := by
      rw [optV_is]
      unfold clashB
      cases lck outs (allowed ins) <;> rfl
    rw [← ec] at this
    exact this
/-! ### check, verdict, where the facts do not clash -/
def spCheck (C W : Addr) : Sp := fun vs H Q _ => ∃ (v : V) (ins outs : List Q2), vs = [v] ∧ FaAt C W H v ins outs ∧ clashB ins outs = false ∧ ∀ H', Ex H H' → Q .non H'
theorem scCheck : FnScope nClashes ["self"] (defScope sCheck) := ⟨rfl, rfl, rfl, by decide +kernel, rfl, by decide +kernel, by decide +kernel⟩
theorem ok_check (T : Tx w K mg) : FnR P w K mg base CX0 27 (He.ma K (He.ga K "Facts") "check") (spCheck (He.ga K "Facts") (He.ga K "Word")) := by
  have G := ok_clashes (P := P) (base := base) T
  refine fnr (T.fnM2 4 dCheck rfl) rfl scCheck (fun _ _ _ _ _ _ us hl => match us, hl with | [_], _ => rfl) (fun vs H Q E h => ?_) (fun cdv A outer s H vs Q E hr h => ?_)
  · obtain ⟨_, _, _, rfl, _⟩ := h
    rfl
  · obtain ⟨v, ins, outs, rfl, hF, hc, k⟩ := h
    have cF := T.c "Facts"
    have mC := T.meth "Facts" "clashes" (by decide +kernel)
    refine ⟨_, pss_one (ps_if (pt_val (pe_mR0 (pv 0) cF mC G hr pass0)) (pss_one ps_never) pss_nil), ?_⟩
    obtain ⟨p, dx, a, b, rfl, hp⟩ := hF.ref
    refine ⟨_, rfl, p, dx, _, rfl, hp, ff_no _ _ (by decide +kernel) (by decide +kernel), .ref p, ins, outs, rfl, hF, fun H1 e1 => ⟨_, rfl, ite_f hc (k H1 e1)⟩⟩
def spVerdict (C W : Addr) : Sp := fun vs H Q _ => ∃ (v x y : V) (ins outs : List Q2) (q : Q2), vs = [v, x, y] ∧ FaAt C W H v ins outs ∧ clashB ins outs = false ∧ WdAt W H x q.1 ∧ WdAt W H y q.2 ∧ q.1.depth ≤ maxD ∧ q.2.depth ≤ maxD ∧ ∀ H', Ex H H' → Q (.str (verd ins outs q)) H'
abbrev nVerdict : List Str := ["self", "one", "other", "kept", "kind"]
theorem scVerdict : FnScope nVerdict ["self", "one", "other"] (defScope sVerdict) := ⟨rfl, rfl, rfl, by decide +kernel, rfl, by decide +kernel, by decide +kernel⟩
theorem ok_verdict (T : Tx w K mg) : FnR P w K mg base CX0 28 (He.ma K (He.ga K "Facts") "verdict") (spVerdict (He.ga K "Facts") (He.ga K "Word")) := by
  have G := ok_check (P := P) (base := base) T
  have GW := ok_within (P := P) (base := base) T
  have GL := ok_lacking (P := P) (base := base) T
  have GK := ok_kinds (P := P) (base := base) T
  refine fnr (T.fnM2 5 dVerdict rfl) rfl scVerdict (fun _ _ _ _ _ _ us hl => match us, hl with | [_, _, _], _ => rfl) (fun vs H Q E h => ?_) (fun cdv A outer s H vs Q E hr h => ?_)
  · obtain ⟨_, _, _, _, _, _, rfl, _⟩ := h
    rfl
  · obtain ⟨v, x, y, ins, outs, q, rfl, hF, hc, hx, hy, d1, d2, k⟩ := h
    have nd := scVerdict.nd
    have cF := T.c "Facts"
    have mC := T.meth "Facts" "check" (by decide +kernel)
    have mL := T.meth "Facts" "lacking" (by decide +kernel)
    have mK := T.meth "Facts" "kinds" (by decide +kernel)
    have hr1 : Room 24 _ := hr.mono (by decide)
    have hr2 : Room 25 _ := hr.mono (by decide)
    have hr3 : Room 23 _ := hr.mono (by decide)
    have hu0 := hr.units0
    refine ⟨_, pss_cons (ps_expr (pe_mR0 (pv 0) cF mC G hr pass0))
      (pss_cons (ps_setLc (i := 3) (own := [("kind", 4)]) rfl nd rfl rfl (sw_true rfl rfl rfl (by decide +kernel)) (pi_list (pe_mR0 (pv 0) cF mK GK hr2 pass0)) (blkOk_by (own := [("kind", 4)]) (N := nVerdict) (sc := defScope sVerdict) (by decide +kernel)) (fun _ _ _ _ _ => pg_name (i := 4) nd rfl (Or.inl rfl))
        (fun _ _ _ _ _ => pts_one (pt_val (pe_cR GW hr3 (T.g "is_within") (T.k "is_within") pass0 (pa_cons (pv 1) (pa_cons (pv 2) (pa_cons (pv 4) pa_nil)))))) (fun _ _ _ _ _ => pv 4))
      (pss_cons (ps_if (pt_cmpR (op_eqLS hu0) (pv 3) (pe_mR0 (pv 0) cF mK GK hr2 pass0) (nomark _)) (pss_one (ps_ret pe_str)) pss_nil)
      (pss_one (ps_ret (pe_ifExp (pt_cmpR op_isN (pe_methR (pv 0) cF mL GL hr1 pass0 (pa_cons (pv 3) pa_nil)) pe_non (nomark _)) pe_str pe_str))))), ?_⟩
    obtain ⟨p, dx, a, b, rfl, hp⟩ := hF.ref
    have no1 : ∀ {m : Str}, ¬ m = "outside" → ¬ m = "inside" → (ff a b).lookup m = none := fun h1 h2 => ff_no _ _ h1 h2
    refine ⟨_, rfl, p, dx, _, rfl, hp, no1 (by decide +kernel) (by decide +kernel), .ref p, ins, outs, rfl, hF, hc, fun H1 e1 => ?_⟩
    refine ⟨_, rfl, p, dx, _, rfl, e1 p _ hp, no1 (by decide +kernel) (by decide +kernel), .ref p, ins, outs, rfl, hF.mono e1, fun l H2 nl e2 hl => ?_⟩
    have x2 := e1.trans e2
    refine ⟨l, rfl, ⟨_, SqL.of hl⟩, fun D nD => lc_fil (walk_list (xs := (allowed ins).map V.str)) (fun i => q.1.within q.2 ((allowed ins).getD i "")) (fun i => .str ((allowed ins).getD i "")) nD (by have := allowed_len ins; rw [List.length_map]; omega) (fun H e => SqL.of (e l _ hl)) (fun i z H0 H' Qy Qn hi e yy ky kn => ?_) (fun H3 e3 hD => ?_)⟩
    · obtain ⟨rfl, hz⟩ := yy
      rw [List.getElem?_map] at hz
      obtain ⟨kd, hkd, rfl⟩ := Option.map_eq_some_iff.mp hz
      have eg : (allowed ins).getD i "" = kd := by rw [List.getD_eq_getElem?_getD, hkd]; rfl
      rw [eg] at ky kn
      refine ⟨rfl, _, rfl, _, rfl, _, rfl, x, y, q.1, q.2, kd, rfl, (hx.ex x2).ex e, (hy.ex x2).ex e, d1, d2, allowed_in ins kd (List.mem_of_getElem? hkd), fun H4 e4 => ⟨_, rfl, ?_⟩⟩
      cases c : q.1.within q.2 kd with
      | true => exact iteT ⟨_, rfl, ky c H4 e4⟩
      | false => exact iteF (kn c H4 e4)
    · have hDk : H3 D = some (.lst ((keptK ins q).map V.str)) := by
        rw [hD, List.length_map]
        refine congrArg (fun l => some (HO.lst l)) ?_
        have gen : ∀ l : List Str, ((List.range l.length).filter fun i => q.1.within q.2 (l.getD i "")).map (fun i => V.str (l.getD i "")) = (l.filter fun k => q.1.within q.2 k).map V.str := by
          intro l
          have e : l = (List.range l.length).map (fun i => l.getD i "") := by
            have := range_getD l "" (fun x => x)
            simpa using this.symm
          have e2 : (l.filter fun k => q.1.within q.2 k) = ((List.range l.length).filter fun i => q.1.within q.2 (l.getD i "")).map (fun i => l.getD i "") := by
            conv => lhs; rw [e]
            rw [List.filter_map]
            rfl
          rw [e2, List.map_map]
          rfl
        exact gen (allowed ins)
      have x3 := x2.trans e3
      refine ⟨_, rfl, _, rfl, p, dx, _, rfl, x3 p _ hp, no1 (by decide +kernel) (by decide +kernel), .ref p, ins, outs, rfl, hF.mono x3, fun l2 H4 nl2 e4 hl2 => ?_⟩
      have x4 := x3.trans e4
      refine ⟨D, l2, keptK ins q, allowed ins, rfl, rfl, SqL.of (e4 D _ hDk), SqL.of hl2, _, rfl, ?_⟩
      by_cases c : keptK ins q = allowed ins
      · refine ite_t (decide_eq_true c) ?_
        have := k H4 x4
        unfold verd at this
        rw [if_pos c] at this
        exact this
      · refine ite_f (decide_eq_false c) ⟨_, rfl, p, dx, _, rfl, x4 p _ hp, no1 (by decide +kernel) (by decide +kernel), _, rfl, .ref p, ins, outs, keptK ins q, D, rfl, hF.mono x4, e4 D _ hDk, kept_in ins q, kept_len ins q, fun H5 e5 => ⟨rfl, _, rfl, ?_⟩⟩
        have := k H5 (x4.trans e5)
        unfold verd at this
        rw [if_neg c] at this
        rw [optV_is]
        by_cases c2 : (lck outs (keptK ins q)).isNone = true
        · rw [if_pos c2] at this
          exact ite_t c2 this
        · rw [if_neg c2] at this
          exact ite_f (Bool.eq_false_iff.mpr c2) this
end
end HX
end

section
set_option Elab.async false
set_option linter.all false
set_option maxRecDepth 100000
set_option maxHeartbeats 4000000
/-! Facts: model, __init__. -/
namespace HX
open PySem PySem.Spec PyProof.Rows L2
open Evl (Ex)
def mdl (ins : List Q2) (q : Q2) (b : Bool) (k : Str) : Int := if ((brk ins k).isNone && (!b || q.1.within q.2 k)) = true then 1 else 0
section
variable {P : Program} {w : World} {K : PySem.W.Frag} {mg : Str → Option Value} {base : Heap}
def spFModel (C W : Addr) : Sp := fun vs H Q _ => ∃ (v x y : V) (b : Bool) (ins outs : List Q2) (q : Q2), vs = [v, x, y, .bl b] ∧ FaAt C W H v ins outs ∧ clashB ins outs = false ∧ WdAt W H x q.1 ∧ WdAt W H y q.2 ∧ q.1.depth ≤ maxD ∧ q.2.depth ≤ maxD ∧
  ∀ v' H', Ex H H' → (if verd ins outs q = (if b = true then ("barred" : Str) else "sure") then v' = .non else NumAt H' v' (mdl ins q b)) → Q v' H'
abbrev nFModel : List Str := ["self", "one", "other", "inside", "told", "kind"]
theorem scFModel : FnScope nFModel ["self", "one", "other", "inside"] (defScope sFModel) := ⟨rfl, rfl, rfl, by decide +kernel, rfl, by decide +kernel, by decide +kernel⟩
theorem ok_fmodel (T : Tx w K mg) : FnR P w K mg base CX0 29 (He.ma K (He.ga K "Facts") "model") (spFModel (He.ga K "Facts") (He.ga K "Word")) := by
  have G := ok_verdict (P := P) (base := base) T
  have GB := ok_broken (P := P) (base := base) T
  have GW := ok_within (P := P) (base := base) T
  refine fnr (T.fnM2 6 dFModel rfl) rfl scFModel (fun _ _ _ _ _ _ us hl => match us, hl with | [_, _, _, _], _ => rfl) (fun vs H Q E h => ?_) (fun cdv A outer s H vs Q E hr h => ?_)
  · obtain ⟨_, _, _, _, _, _, _, rfl, _⟩ := h
    rfl
  · obtain ⟨v, x, y, b, ins, outs, q, rfl, hF, hc, hx, hy, d1, d2, k⟩ := h
    have nd := scFModel.nd
    have cF := T.c "Facts"
    have mV := T.meth "Facts" "verdict" (by decide +kernel)
    have mB := T.meth "Facts" "broken" (by decide +kernel)
    have hr1 : Room 24 _ := hr.mono (by decide)
    have hr2 : Room 23 _ := hr.mono (by decide)
    refine ⟨_, pss_cons (ps_asg (pe_methR (pv 0) cF mV G hr pass0 (pa_cons (pv 1) (pa_cons (pv 2) pa_nil))) (pg_name (i := 4) nd rfl (Or.inl rfl)))
      (pss_cons (ps_if (pt_cmpR op_eq (pv 4) (pe_ifExp (pt_val (pv 3)) pe_str pe_str) (nomark _)) (pss_one (ps_ret pe_non)) pss_nil)
      (pss_one (ps_ret (pe_dc (own := [("kind", 5)]) rfl nd (pi_tup (pe_glob (v := .ref (He.ga K "KINDS")) rfl (T.g "KINDS") rfl)) (blkOk_by (own := [("kind", 5)]) (N := nFModel) (sc := defScope sFModel) (by decide +kernel)) (fun _ _ _ _ _ => pg_name (i := 5) nd rfl (Or.inl rfl)) (fun _ _ _ _ _ => pts_nil)
        (fun _ _ _ _ _ => pv 5)
        (fun _ _ _ _ _ => pe_callTy call_int1 (by rfl) (T.f "int") (by decide +kernel) (pa_cons (pe_and (pe_cmpR op_isN (pe_methR (pv 0) cF mB GB hr1 pass0 (pa_cons (pv 5) pa_nil)) pe_non (nomark _))
          (pe_one (pe_or (pe_not (pv 3)) (pe_one (pe_cR GW hr2 (T.g "is_within") (T.k "is_within") pass0 (pa_cons (pv 1) (pa_cons (pv 2) (pa_cons (pv 5) pa_nil)))))))) pa_nil)))))), ?_⟩
    obtain ⟨p, dx, a, c0, rfl, hp⟩ := hF.ref
    have no1 : ∀ {m : Str}, ¬ m = "outside" → ¬ m = "inside" → (ff a c0).lookup m = none := fun h1 h2 => ff_no _ _ h1 h2
    refine ⟨_, rfl, p, dx, _, rfl, hp, no1 (by decide +kernel) (by decide +kernel), _, rfl, _, rfl, .ref p, x, y, ins, outs, q, rfl, hF, hc, hx, hy, d1, d2, fun H1 e1 => ?_⟩
    refine ⟨_, rfl, _, rfl, b, rfl, ?_⟩
    have rest : ¬ verd ins outs q = (if b = true then ("barred" : Str) else "sure") → (tRet (tDc (iTup K (tC (.ref (He.ga K "KINDS")))) (gName 5) tYes (tVar 5)
        (tCB (fun xs H Q => (∃ i, xs = [.int i] ∧ Q (.int i) H) ∨ ∃ k, xs = [.bl k] ∧ Q (.int (if k then 1 else 0)) H) (tCons (tAndV (tOp (fun x y H Q => y = .non ∧ Q (.bl (decide (x = .non))) H) (tMethR (He.ga K "Facts") "broken" (spBroken (He.ga K "Facts") (He.ga K "Word")) E0 (tVar 0) (tCons (tVar 5) tNil)) (tC .non))
          (tOrV (tNotV (tVar 3)) (tCR (spWithin (He.ga K "Word")) E0 (tCons (tVar 1) (tCons (tVar 2) (tCons (tVar 5) tNil)))))) tNil)) [5]))
        { nx := fun x H' => Q V.non H', rt := Q } [some (.ref p), some x, some y, some (.bl b), some (.str (verd ins outs q)), none] H1 := by
      intro hne
      refine ⟨_, rfl, ⟨_, T.kinds _⟩, fun D nD => dc_val (walk_tup (xs := kinds.map V.str)) (fun i => Sum.inr (kAt i)) (fun i => .int (mdl ins q b (kAt i))) nD (by decide) (fun i j hi hj e => kAt_inj i j hi hj (Sum.inr.inj e)) (fun H e => T.kinds H) (fun i z H0 H' Qe hi e yy kq => ?_) (fun H2 e2 hD => ?_)⟩
      · obtain ⟨rfl, hz⟩ := yy
        obtain ⟨hi9, rfl, hm⟩ := kAt_some hz
        have e0 := e1.trans e
        refine ⟨rfl, _, rfl, _, rfl, p, dx, _, rfl, e0 p _ hp, no1 (by decide +kernel) (by decide +kernel), _, rfl, .ref p, ins, outs, kAt i, rfl, hF.mono e0, hm, fun H4 e4 => ⟨rfl, _, rfl, ?_⟩⟩
        rw [optV_is]
        have kq4 := kq
        unfold mdl at kq4
        cases c : (brk ins (kAt i)).isNone with
        | false =>
          rw [c] at kq4
          exact iteF (.inr ⟨_, rfl, kq4 H4 e4⟩)
        | true =>
          rw [c] at kq4
          refine iteT ⟨_, rfl, _, rfl, _, rfl, ?_⟩
          cases b with
          | false => exact iteT (.inr ⟨_, rfl, kq4 H4 e4⟩)
          | true =>
            refine iteF ⟨_, rfl, _, rfl, _, rfl, x, y, q.1, q.2, kAt i, rfl, (hx.ex e0).ex e4, (hy.ex e0).ex e4, d1, d2, hm, fun H5 e5 => .inr ⟨_, rfl, ?_⟩⟩
            exact kq4 H5 (e4.trans e5)
      · refine k _ H2 (e1.trans e2) ?_
        rw [if_neg hne]
        exact ⟨D, rfl, hD⟩
    cases b with
    | true =>
      refine iteT ⟨rfl, _, rfl, ?_⟩
      by_cases c : verd ins outs q = "barred"
      · refine ite_t (decide_eq_true (congrArg V.str c)) ?_
        have c' : verd ins outs q = (if (true : Bool) = true then ("barred" : Str) else "sure") := c
        refine k _ H1 e1 ?_
        rw [if_pos c']
      · exact ite_f (decide_eq_false (fun z => c (V.str.inj z))) (rest c)
    | false =>
      refine iteF ⟨rfl, _, rfl, ?_⟩
      by_cases c : verd ins outs q = "sure"
      · refine ite_t (decide_eq_true (congrArg V.str c)) ?_
        have c' : verd ins outs q = (if (false : Bool) = true then ("barred" : Str) else "sure") := c
        refine k _ H1 e1 ?_
        rw [if_pos c']
      · exact ite_f (decide_eq_false (fun z => c (V.str.inj z))) (rest c)
end
end HX
end

section
set_option Elab.async false
set_option linter.all false
set_option maxRecDepth 100000
set_option maxHeartbeats 4000000
/-! enumerate(zip(list, list)): a zip whose pair is kept by another; enumerate(tuple); zip(list, tuple). -/
namespace HX
open PySem PySem.Spec PyProof.Rows L2
open Evl (Ex)
/-- a zip over two lists, whatever pair it gave out before -/
def ZpSt (h : Heap) (z TI TO : Addr) : Prop := ∃ (g : Option Nat) (f : Bool), h.get? z = some { cls := .type "zip", dict := none, data := .fields #[(g.elim .none fun T => rawInt T), .bool f, .bool false, .ref TI, .ref TO], slots := #[] }
section
variable {prog : Program} {w : World} {A : Around} {E : Value → Shared → Prop} {s : Shared}
theorem zp_free {z TI TO : Addr} {Q : Bool → Shared → Prop} (hz : ZpSt s.heap z TI TO) (ht : Q true s) (hn : ∀ h', ZpSt h' z TI TO → Heap.SameBut z s.heap h' → Q false { s with heap := h' }) : wpAny (model prog w) A (Builtin.SmallTypes.ownedTupleIsFree (.ref z)) Q E s := by
  obtain ⟨g, f, hz⟩ := hz
  unfold Builtin.SmallTypes.ownedTupleIsFree
  refine wpAny_bind (wpAny_field hz rfl (x := g.elim .none fun T => rawInt T) rfl ?_)
  cases g with
  | none => exact wpAny_pure ht
  | some T =>
    show wpAny _ _ (loadIfAlive ((T : Int).toNat) >>= _) _ _ _
    rw [Int.toNat_natCast]
    refine wpAny_bind (fun _ _ _ => (?_ : wpAny _ _ _ _ _ _))
    cases ho : s.heap.get? T with
    | none =>
      simp only [Option.isNone_none, if_true]
      exact wpAny_pure ht
    | some o =>
      simp only [Option.isNone_some, Bool.false_eq_true, if_false]
      refine wpAny_bind (wpAny_field hz rfl (x := .bool f) rfl ?_)
      cases f with
      | true =>
        rw [if_neg (show ¬ ((Value.bool true != Value.bool true) = true) from Bool.false_ne_true)]
        exact wpAny_pure (hn s.heap ⟨some T, true, hz⟩ (Heap.SameBut.refl _ _))
      | false =>
        rw [if_pos (show (Value.bool false != Value.bool true) = true from rfl)]
        exact wpAny_bind (wpAny_setField_rec hz (by simp) fun h₁ hz₁ hs₁ => wpAny_pure (hn h₁ ⟨some T, true, hz₁⟩ hs₁))

/-- the pair's two halves and the lists they walk -/
structure ZpAt (h : Heap) (z TI TO i1 i2 l1 l2 : Addr) (k : Nat) : Prop where
  zip : ZpSt h z TI TO
  ins : IsPair h TI (.ref i1) (.ref i2)
  out : ∃ a b, IsPair h TO a b
  one : h.IsListIter i1 l1 k
  two : h.IsListIter i2 l2 k
theorem ZpAt.mono {h h' : Heap} {z TI TO i1 i2 l1 l2 : Addr} {k : Nat} (a : ZpAt h z TI TO i1 i2 l1 l2 k) (e : ∀ b, b = z ∨ b = TI ∨ b = TO ∨ b = i1 ∨ b = i2 → ∀ o, h.get? b = some o → h'.get? b = some o) : ZpAt h' z TI TO i1 i2 l1 l2 k := by
  obtain ⟨⟨g, f, hz⟩, hi, ⟨x, y, ho⟩, h1, h2⟩ := a
  exact ⟨⟨g, f, e z (by simp) _ hz⟩, e TI (by simp) _ hi, ⟨x, y, e TO (by simp) _ ho⟩, h1.at fun o q => e i1 (by simp) o q, h2.at fun o q => e i2 (by simp) o q⟩
variable {z TI TO i1 i2 l1 l2 : Addr} {k : Nat} {xs ys : Array Value} {x y : Value}
theorem zp_item {Q : Value → Shared → Prop} (D : ZipApart z TI TO i1 i2 l1 l2) (hz : ZpAt s.heap z TI TO i1 i2 l1 l2 k) (hl1 : s.heap.IsList l1 xs) (hl2 : s.heap.IsList l2 ys) (hx : xs[k]? = some x) (hy : ys[k]? = some y)
    (hQ : ∀ h', ZpAt h' z TI TO i1 i2 l1 l2 (k + 1) → IsPair h' s.heap.objs.size x y → h'.objs.size = s.heap.objs.size + 1 →
      (∀ c o, c ≠ z → c ≠ TO → c ≠ i1 → c ≠ i2 → s.heap.get? c = some o → h'.get? c = some o) → Q (.ref s.heap.objs.size) { s with heap := h' }) :
    wpAny (model prog w) A (Builtin.«zip.__next__» ⟨[.ref z], []⟩) (fun fin s' => ∃ v, fin = .done (.ret v) ∧ Q v s') E s := by
  obtain ⟨hzz, hTI, ⟨a, b, hTO⟩, h1, h2⟩ := hz
  obtain ⟨g, f, hzf⟩ := id hzz
  show wpAny _ _ (field (.ref z) 2 >>= _) _ _ _
  refine wpAny_bind (wpAny_field hzf rfl (x := .bool false) rfl ?_)
  show wpAny _ _ (field (.ref z) 3 >>= _) _ _ _
  refine wpAny_bind (wpAny_field hzf rfl (x := .ref TI) rfl ?_)
  refine wpAny_bind (wpAny_seqItems hTI rfl ?_)
  show wpAny _ _ (Builtin.SmallTypes.ownedTupleIsFree (.ref z) >>= _) _ _ _
  refine wpAny_bind (zp_free hzz ?_ fun h₁ hz₁ hs₁ => ?_)
  · simp only [if_true]
    refine wpAny_bind (wpAny_rule ?_)
    refine wpAny_bind (wpAny_field hzf rfl (x := .ref TO) rfl ?_)
    refine wpAny_bind (wpAny_setField_rec hzf (by simp) fun h₁ hz₁ hs₁ => ?_)
    replace hz₁ : h₁.get? z = some { cls := .type "zip", dict := none, data := .fields #[.ellipsis, .bool f, .bool false, .ref TI, .ref TO], slots := #[] } := hz₁
    refine wpAny_bind ?_
    simp only [List.zipIdx_cons, List.zipIdx_nil, List.forIn_cons, List.forIn_nil]
    refine wpAny_bind (wpAny_bind (wpAny_onRaise ?_))
    show wpAny _ _ (Builtin.SmallTypes.nextOf (.ref i1) >>= _) _ _ _
    refine wpAny_bind (wpAny_nextOf_list_item (h1.extBut hs₁.extBut D.i1z) (hl1.extBut hs₁.extBut D.l1z) hx fun h₂ h1₂ hs₂ => wpAny_pure ?_)
    have p₂ : IsPair h₂ TO a b := hs₂.extBut _ _ D.TOi1 (hs₁.extBut _ _ D.TOz hTO)
    refine wpAny_bind (wpAny_seqItems p₂ rfl ?_)
    refine wpAny_bind (wpAny_updateSeq_pair p₂ fun h₃ p₃ hs₃ => ?_)
    replace p₃ : IsPair h₃ TO x b := p₃
    refine wpAny_bind (wpAny_letGo (wpAny_pure ?_))
    refine wpAny_bind (wpAny_bind (wpAny_onRaise ?_))
    show wpAny _ _ (Builtin.SmallTypes.nextOf (.ref i2) >>= _) _ _ _
    refine wpAny_bind (wpAny_nextOf_list_item (((h2.extBut hs₁.extBut D.i2z).extBut hs₂.extBut D.i12.symm).extBut hs₃.extBut D.TOi2.symm)
      (((hl2.extBut hs₁.extBut D.l2z).extBut hs₂.extBut D.l2i1).extBut hs₃.extBut D.l2TO) hy fun h₄ h2₄ hs₄ => wpAny_pure ?_)
    have p₄ : IsPair h₄ TO x b := hs₄.extBut _ _ D.TOi2 p₃
    refine wpAny_bind (wpAny_seqItems p₄ rfl ?_)
    refine wpAny_bind (wpAny_updateSeq_pair p₄ fun h₅ p₅ hs₅ => ?_)
    replace p₅ : IsPair h₅ TO x y := p₅
    refine wpAny_bind (wpAny_letGo (wpAny_pure (wpAny_pure ?_)))
    refine wpAny_bind (wpAny_seqItems p₅ rfl ?_)
    refine wpAny_bind (wpAny_newTuple ?_)
    have hsz : h₅.objs.size = s.heap.objs.size := by rw [hs₅.1, hs₄.1, hs₃.1, hs₂.1, hs₁.1]
    have z₅ := hs₅.extBut _ _ D.TOz.symm (hs₄.extBut _ _ D.i2z.symm (hs₃.extBut _ _ D.TOz.symm (hs₂.extBut _ _ D.i1z.symm hz₁)))
    have hk₅ : ∀ c o, c ≠ z → c ≠ TO → c ≠ i1 → c ≠ i2 → s.heap.get? c = some o → h₅.get? c = some o := fun c o c1 c2 c3 c4 e =>
      hs₅.extBut _ _ c2 (hs₄.extBut _ _ c4 (hs₃.extBut _ _ c2 (hs₂.extBut _ _ c3 (hs₁.extBut _ _ c1 e))))
    have h1₅ : h₅.IsListIter i1 l1 (k + 1) := ((h1₂.extBut hs₃.extBut D.TOi1.symm).extBut hs₄.extBut D.i12).extBut hs₅.extBut D.TOi1.symm
    have h2₅ : h₅.IsListIter i2 l2 (k + 1) := h2₄.extBut hs₅.extBut D.TOi2.symm
    have hzlt : z < h₅.objs.size := Heap.lt_size z₅
    show wpAny _ _ (Builtin.SmallTypes.ownedTupleHandOut (.ref z) (.ref h₅.objs.size) >>= _) _ _ _
    refine wpAny_bind ?_
    unfold Builtin.SmallTypes.ownedTupleHandOut
    have z₆ : (h₅.push { cls := .type "tuple", data := .seq #[x, y] }).get? z = some { cls := .type "zip", dict := none, data := .fields #[.ellipsis, .bool f, .bool false, .ref TI, .ref TO], slots := #[] } := Heap.get?_push_of_some _ z₅
    refine wpAny_bind (wpAny_setField_rec z₆ (by simp) fun h₇ hz₇ hs₇ => ?_)
    replace hz₇ : h₇.get? z = some { cls := .type "zip", dict := none, data := .fields #[rawInt h₅.objs.size, .bool f, .bool false, .ref TI, .ref TO], slots := #[] } := hz₇
    refine wpAny_setField_rec hz₇ (by simp) fun h₈ hz₈ hs₈ => ?_
    replace hz₈ : h₈.get? z = some { cls := .type "zip", dict := none, data := .fields #[rawInt h₅.objs.size, .bool false, .bool false, .ref TI, .ref TO], slots := #[] } := hz₈
    have up : ∀ c o, c ≠ z → h₅.get? c = some o → h₈.get? c = some o := fun c o c1 e => hs₈.extBut _ _ c1 (hs₇.extBut _ _ c1 (Heap.get?_push_of_some _ e))
    have hT₈ : IsPair h₈ h₅.objs.size x y := hs₈.extBut _ _ (Nat.ne_of_gt hzlt) (hs₇.extBut _ _ (Nat.ne_of_gt hzlt) (Heap.get?_push_size _ rfl))
    have hz8 : h₈.objs.size = h₅.objs.size + 1 := by rw [hs₈.1, hs₇.1, Heap.size_push]
    rw [hsz] at hz₈ hT₈ hz8
    refine wpAny_pure ⟨_, rfl, ?_⟩
    show Q (.ref h₅.objs.size) _
    rw [hsz]
    exact hQ h₈ ⟨⟨some _, false, hz₈⟩, up _ _ D.TIz (hk₅ _ _ D.TIz D.TITO D.TIi1 D.TIi2 hTI), ⟨x, y, up _ _ D.TOz p₅⟩, h1₅.at fun o e => up _ o D.i1z e, h2₅.at fun o e => up _ o D.i2z e⟩ hT₈ hz8 fun c o c1 c2 c3 c4 e => up c o c1 (hk₅ c o c1 c2 c3 c4 e)
  · simp only [Bool.false_eq_true, if_false]
    refine wpAny_bind ?_
    rw [← Array.forIn_toList]
    simp only [List.forIn_cons, List.forIn_nil]
    refine wpAny_bind (wpAny_bind (wpAny_holding ?_))
    show wpAny _ _ (Builtin.SmallTypes.nextOf (.ref i1) >>= _) _ _ _
    refine wpAny_bind (wpAny_nextOf_list_item (s := { s with heap := h₁ }) (h1.extBut hs₁.extBut D.i1z) (hl1.extBut hs₁.extBut D.l1z) hx fun h₂ h1₂ hs₂ => wpAny_pure ?_)
    refine wpAny_pure ?_
    refine wpAny_bind (wpAny_bind (wpAny_holding ?_))
    show wpAny _ _ (Builtin.SmallTypes.nextOf (.ref i2) >>= _) _ _ _
    refine wpAny_bind (wpAny_nextOf_list_item (s := { s with heap := h₂ }) ((h2.extBut hs₁.extBut D.i2z).extBut hs₂.extBut D.i12.symm) ((hl2.extBut hs₁.extBut D.l2z).extBut hs₂.extBut D.l2i1) hy fun h₃ h2₃ hs₃ => wpAny_pure ?_)
    refine wpAny_pure (wpAny_pure ?_)
    show wpAny _ _ (newTuple [x, y] >>= _) _ _ _
    refine wpAny_bind (wpAny_newTuple ?_)
    have hsz : h₃.objs.size = s.heap.objs.size := by rw [hs₃.1, hs₂.1, hs₁.1]
    obtain ⟨g', f', hz₁'⟩ := hz₁
    have z₃ := hs₃.extBut _ _ D.i2z.symm (hs₂.extBut _ _ D.i1z.symm hz₁')
    have hk : ∀ c o, c ≠ z → c ≠ i1 → c ≠ i2 → s.heap.get? c = some o → h₃.get? c = some o := fun c o c1 c2 c3 e => hs₃.extBut _ _ c3 (hs₂.extBut _ _ c2 (hs₁.extBut _ _ c1 e))
    have h1₃ : h₃.IsListIter i1 l1 (k + 1) := h1₂.extBut hs₃.extBut D.i12
    refine wpAny_pure ⟨_, rfl, ?_⟩
    show Q (.ref h₃.objs.size) _
    have hp : IsPair (h₃.push { cls := .type "tuple", data := .seq #[x, y] }) h₃.objs.size x y := Heap.get?_push_size _ rfl
    have hz4 : (h₃.push { cls := .type "tuple", data := .seq #[x, y] }).objs.size = h₃.objs.size + 1 := Heap.size_push ..
    rw [hsz] at hp hz4 ⊢
    exact hQ _ ⟨⟨g', f', Heap.get?_push_of_some _ z₃⟩, Heap.get?_push_of_some _ (hk _ _ D.TIz D.TIi1 D.TIi2 hTI), ⟨a, b, Heap.get?_push_of_some _ (hk _ _ D.TOz D.TOi1 D.TOi2 hTO)⟩, h1₃.at fun o e => Heap.get?_push_of_some _ e, h2₃.at fun o e => Heap.get?_push_of_some _ e⟩ hp hz4 fun c o c1 _ c2 c3 e => Heap.get?_push_of_some _ (hk c o c1 c2 c3 e)
theorem zp_end {Q : Fin → Shared → Prop} (hh : A.handled = none) (D : ZipApart z TI TO i1 i2 l1 l2) (hz : ZpAt s.heap z TI TO i1 i2 l1 l2 k) (hl1 : s.heap.IsList l1 xs) (hl2 : s.heap.IsList l2 ys) (hend : xs[k]? = none ∨ ys[k]? = none)
    (hE : ∀ h' e, (∀ c o, c ≠ z → c ≠ TO → c ≠ i1 → c ≠ i2 → s.heap.get? c = some o → h'.get? c = some o) → (∃ o, h'.get? e = some o ∧ o.cls = .type "StopIteration") → E (.ref e) { s with heap := h' }) :
    wpAny (model prog w) A (Builtin.«zip.__next__» ⟨[.ref z], []⟩) Q E s := by
  obtain ⟨hzz, hTI, ⟨a, b, hTO⟩, h1, h2⟩ := hz
  obtain ⟨g, f, hzf⟩ := id hzz
  show wpAny _ _ (field (.ref z) 2 >>= _) _ _ _
  refine wpAny_bind (wpAny_field hzf rfl (x := .bool false) rfl ?_)
  show wpAny _ _ (field (.ref z) 3 >>= _) _ _ _
  refine wpAny_bind (wpAny_field hzf rfl (x := .ref TI) rfl ?_)
  refine wpAny_bind (wpAny_seqItems hTI rfl ?_)
  show wpAny _ _ (Builtin.SmallTypes.ownedTupleIsFree (.ref z) >>= _) _ _ _
  refine wpAny_bind (zp_free hzz ?_ fun h₁ hz₁ hs₁ => ?_)
  · simp only [if_true]
    refine wpAny_bind (wpAny_rule ?_)
    refine wpAny_bind (wpAny_field hzf rfl (x := .ref TO) rfl ?_)
    refine wpAny_bind (wpAny_setField_rec hzf (by simp) fun h₁ hz₁ hs₁ => ?_)
    replace hz₁ : h₁.get? z = some { cls := .type "zip", dict := none, data := .fields #[.ellipsis, .bool f, .bool false, .ref TI, .ref TO], slots := #[] } := hz₁
    refine wpAny_bind ?_
    simp only [List.zipIdx_cons, List.zipIdx_nil, List.forIn_cons, List.forIn_nil]
    refine wpAny_bind (wpAny_bind (wpAny_onRaise ?_))
    show wpAny _ _ (Builtin.SmallTypes.nextOf (.ref i1) >>= _) _ _ _
    cases hx : xs[k]? with
    | none =>
      refine wpAny_bind (wpAny_nextOf_list_end hh (h1.extBut hs₁.extBut D.i1z) (hl1.extBut hs₁.extBut D.l1z) hx fun h₂ e hs₂ he => ?_)
      obtain ⟨oe, hoe, hce⟩ := he
      have hz₂ := hs₂ _ _ D.i1z.symm hz₁
      have hez : e ≠ z := fun x => by subst x; rw [hz₂] at hoe; cases hoe; simp at hce
      refine wpAny_setField_rec hz₂ (by simp) fun h₃ _ hs₃ => hE h₃ e (fun c o c1 _ c3 _ x => hs₃.extBut _ _ c1 (hs₂ _ _ c3 (hs₁.extBut _ _ c1 x))) ⟨oe, hs₃.extBut _ _ hez hoe, hce⟩
    | some x =>
      have hy : ys[k]? = none := by rcases hend with h | h; rw [hx] at h; cases h; exact h
      refine wpAny_bind (wpAny_nextOf_list_item (h1.extBut hs₁.extBut D.i1z) (hl1.extBut hs₁.extBut D.l1z) hx fun h₂ h1₂ hs₂ => wpAny_pure ?_)
      have p₂ : IsPair h₂ TO a b := hs₂.extBut _ _ D.TOi1 (hs₁.extBut _ _ D.TOz hTO)
      refine wpAny_bind (wpAny_seqItems p₂ rfl ?_)
      refine wpAny_bind (wpAny_updateSeq_pair p₂ fun h₃ p₃ hs₃ => ?_)
      refine wpAny_bind (wpAny_letGo (wpAny_pure ?_))
      refine wpAny_bind (wpAny_bind (wpAny_onRaise ?_))
      show wpAny _ _ (Builtin.SmallTypes.nextOf (.ref i2) >>= _) _ _ _
      refine wpAny_bind (wpAny_nextOf_list_end hh (((h2.extBut hs₁.extBut D.i2z).extBut hs₂.extBut D.i12.symm).extBut hs₃.extBut D.TOi2.symm)
        (((hl2.extBut hs₁.extBut D.l2z).extBut hs₂.extBut D.l2i1).extBut hs₃.extBut D.l2TO) hy fun h₄ e hs₄ he => ?_)
      obtain ⟨oe, hoe, hce⟩ := he
      have hz₄ := hs₄ _ _ D.i2z.symm (hs₃.extBut _ _ D.TOz.symm (hs₂.extBut _ _ D.i1z.symm hz₁))
      have hez : e ≠ z := fun x => by subst x; rw [hz₄] at hoe; cases hoe; simp at hce
      refine wpAny_setField_rec hz₄ (by simp) fun h₅ _ hs₅ => hE h₅ e (fun c o c1 c2 c3 c4 x => hs₅.extBut _ _ c1 (hs₄ _ _ c4 (hs₃.extBut _ _ c2 (hs₂.extBut _ _ c3 (hs₁.extBut _ _ c1 x))))) ⟨oe, hs₅.extBut _ _ hez hoe, hce⟩
  · simp only [Bool.false_eq_true, if_false]
    refine wpAny_bind ?_
    rw [← Array.forIn_toList]
    simp only [List.forIn_cons, List.forIn_nil]
    refine wpAny_bind (wpAny_bind (wpAny_holding ?_))
    show wpAny _ _ (Builtin.SmallTypes.nextOf (.ref i1) >>= _) _ _ _
    cases hx : xs[k]? with
    | none =>
      refine wpAny_bind (wpAny_nextOf_list_end (s := { s with heap := h₁ }) hh (h1.extBut hs₁.extBut D.i1z) (hl1.extBut hs₁.extBut D.l1z) hx fun h₂ e hs₂ he => ?_)
      exact hE h₂ e (fun c o c1 _ c2 _ x => hs₂ _ _ c2 (hs₁.extBut _ _ c1 x)) he
    | some x =>
      have hy : ys[k]? = none := by rcases hend with h | h; rw [hx] at h; cases h; exact h
      refine wpAny_bind (wpAny_nextOf_list_item (s := { s with heap := h₁ }) (h1.extBut hs₁.extBut D.i1z) (hl1.extBut hs₁.extBut D.l1z) hx fun h₂ h1₂ hs₂ => wpAny_pure ?_)
      refine wpAny_pure ?_
      refine wpAny_bind (wpAny_bind (wpAny_holding ?_))
      show wpAny _ _ (Builtin.SmallTypes.nextOf (.ref i2) >>= _) _ _ _
      refine wpAny_bind (wpAny_nextOf_list_end (s := { s with heap := h₂ }) hh ((h2.extBut hs₁.extBut D.i2z).extBut hs₂.extBut D.i12.symm) ((hl2.extBut hs₁.extBut D.l2z).extBut hs₂.extBut D.l2i1) hy fun h₃ e hs₃ he => ?_)
      exact hE h₃ e (fun c o c1 _ c2 c3 x => hs₃ _ _ c3 (hs₂.extBut _ _ c2 (hs₁.extBut _ _ c1 x))) he
/-- enumerate's next, its source told by what it does -/
theorem en_item {e it : Addr} {c : Int} {old : Value} {R : Value → Heap → Prop} {Q : Option Value → Shared → Prop} (he : IsEnum s.heap e it c old)
    (inn : ∀ (Q' : Value → Shared → Prop) (E' : Value → Shared → Prop), (∀ x h1, R x h1 → IsEnum h1 e it c old → Q' x { s with heap := h1 }) → wpAny (model prog w) A.in1 (Builtin.SmallTypes.nextOf (.ref it)) Q' E' s)
    (hQ : ∀ x h1 h' tk, R x h1 → IsEnumOut h' e it (c + 1) x h1.objs.size → h'.get? h1.objs.size = some { cls := .type "tuple", data := .seq #[.int c tk, x] } → h'.objs.size = h1.objs.size + 1 →
      (∀ b o, b ≠ e → h1.get? b = some o → h'.get? b = some o) → e < h1.objs.size → Q (some (.ref h1.objs.size)) { s with heap := h', toks := tk + 1 }) : wpAny (model prog w) A (pyNext (.ref e)) Q E s := by
  have hT : s.TypeIs (.ref e) "enumerate" := ⟨_, he, rfl⟩
  unfold pyNext
  refine wpAny_bind (wpAny_attempt (wpAny_callSpecial?_slot (name := Str.ofString "__next__") hT F.slot_enumerate_next
    (wpAny_call_entry F.slot_enumerate_next hT F.entry_enumerate_next (?_ : wpAny _ _ (Builtin.«enumerate.__next__» ⟨[.ref e], []⟩) _ _ _) (F.args_enumerate_next_1 _))))
  obtain ⟨hp, g, d, tk, os⟩ := s
  show wpAny _ _ (field (.ref e) 2 >>= _) _ _ _
  refine wpAny_bind (wpAny_field he rfl (x := .ref it) rfl ?_)
  refine wpAny_bind (inn _ _ fun x h₁ hR he₁ => ?_)
  show wpAny _ _ (field (.ref e) 3 >>= _) _ _ ⟨h₁, g, d, tk, os⟩
  refine wpAny_bind (wpAny_field he₁ rfl (x := rawInt c) rfl ?_)
  show wpAny _ _ (field (.ref e) 4 >>= _) _ _ ⟨h₁, g, d, tk, os⟩
  refine wpAny_bind (wpAny_field he₁ rfl (x := .none) rfl ?_)
  show wpAny _ _ (mkInt c >>= _) _ _ ⟨h₁, g, d, tk, os⟩
  refine wpAny_bind (wpAny_mkInt ?_)
  show wpAny _ _ (setField (.ref e) 3 (rawInt (c + 1)) >>= _) _ _ ⟨h₁, g, d, tk + 1, os⟩
  refine wpAny_bind (wpAny_setField_rec he₁ (by simp) fun h₂ he₂ hs₂ => ?_)
  replace hs₂ : Heap.SameBut e h₁ h₂ := hs₂
  replace he₂ : IsEnum h₂ e it (c + 1) old := he₂
  show wpAny _ _ (setField (.ref e) 4 .none >>= _) _ _ ⟨h₂, g, d, tk + 1, os⟩
  refine wpAny_bind (wpAny_setField_rec he₂ (by simp) fun h₃ he₃ hs₃ => ?_)
  replace hs₃ : Heap.SameBut e h₂ h₃ := hs₃
  replace he₃ : IsEnum h₃ e it (c + 1) old := he₃
  show wpAny _ _ (newTuple [.int c tk, x] >>= _) _ _ ⟨h₃, g, d, tk + 1, os⟩
  refine wpAny_bind (wpAny_newTuple ?_)
  have he₄ : IsEnum (h₃.push { cls := .type "tuple", data := .seq #[.int c tk, x] }) e it (c + 1) old := Heap.get?_push_of_some _ he₃
  generalize hh₄ : h₃.push { cls := .type "tuple", data := .seq #[.int c tk, x] } = h₄ at he₄
  have hsz : h₃.objs.size = h₁.objs.size := by rw [hs₃.1, hs₂.1]
  have hel : e < h₁.objs.size := Heap.lt_size he₁
  have ht₄ : h₄.get? h₁.objs.size = some { cls := .type "tuple", data := .seq #[.int c tk, x] } := by rw [← hh₄, ← hsz]; exact Heap.get?_push_size _ rfl
  have hz₄ : h₄.objs.size = h₁.objs.size + 1 := by rw [← hh₄, Heap.size_push, hsz]
  have hk₄ : ∀ b o, b ≠ e → h₁.get? b = some o → h₄.get? b = some o := fun b o hbe hb => by
    rw [← hh₄]; exact Heap.get?_push_of_some _ (hs₃.extBut b o hbe (hs₂.extBut b o hbe hb))
  show wpAny _ _ (Builtin.SmallTypes.ownedTupleIsFree (.ref e) >>= _) _ _ ⟨h₄, g, d, tk + 1, os⟩
  rw [hsz]
  clear hh₄ he₃ hs₃ he₂ hs₂ hsz h₃ h₂
  refine wpAny_bind ?_
  · unfold Builtin.SmallTypes.ownedTupleIsFree
    refine wpAny_bind (wpAny_field he₄ rfl (x := .none) rfl (wpAny_pure ?_))
    simp only [if_true]
    refine wpAny_bind (wpAny_rule ?_)
    refine wpAny_bind (wpAny_field he₄ rfl (x := old) rfl ?_)
    refine wpAny_bind (wpAny_setField_rec he₄ (by simp) fun h₅ he₅ hs₅ => ?_)
    replace hs₅ : Heap.SameBut e h₄ h₅ := hs₅
    replace he₅ : IsEnum h₅ e it (c + 1) x := he₅
    show wpAny _ _ (Builtin.SmallTypes.ownedTupleHandOut (.ref e) (.ref h₁.objs.size) >>= _) _ _ ⟨h₅, g, d, tk + 1, os⟩
    refine wpAny_bind ?_
    · unfold Builtin.SmallTypes.ownedTupleHandOut
      refine wpAny_bind (wpAny_setField_rec he₅ (by simp) fun h₆ he₆ hs₆ => ?_)
      replace hs₆ : Heap.SameBut e h₅ h₆ := hs₆
      replace he₆ : IsEnumOut h₆ e it (c + 1) x h₁.objs.size := he₆
      refine wpAny_setField_rec he₆ (by simp) fun h₇ he₇ hs₇ => ?_
      replace hs₇ : Heap.SameBut e h₆ h₇ := hs₇
      replace he₇ : IsEnumOut h₇ e it (c + 1) x h₁.objs.size := he₇
      refine wpAny_bind (wpAny_letGo (wpAny_pure ⟨_, rfl, wpAny_pure (hQ x h₁ h₇ tk hR he₇ ?_ ?_ ?_ hel)⟩))
      · exact hs₇.extBut _ _ (Nat.ne_of_gt hel) (hs₆.extBut _ _ (Nat.ne_of_gt hel) (hs₅.extBut _ _ (Nat.ne_of_gt hel) ht₄))
      · rw [hs₇.1, hs₆.1, hs₅.1, hz₄]
      · exact fun b o hbe hb => hs₇.extBut b o hbe (hs₆.extBut b o hbe (hs₅.extBut b o hbe (hk₄ b o hbe hb)))
theorem en_end {e it : Addr} {c : Int} {old : Value} {Q : Option Value → Shared → Prop} (he : IsEnum s.heap e it c old)
    (inn : ∀ (Q' : Value → Shared → Prop) (E' : Value → Shared → Prop), (∀ h' x, (∃ o, h'.get? x = some o ∧ o.cls = .type "StopIteration") → Q none { s with heap := h' } → E' (.ref x) { s with heap := h' }) → wpAny (model prog w) A.in1 (Builtin.SmallTypes.nextOf (.ref it)) Q' E' s) : wpAny (model prog w) A (pyNext (.ref e)) Q E s := by
  have hT : s.TypeIs (.ref e) "enumerate" := ⟨_, he, rfl⟩
  unfold pyNext
  refine wpAny_bind (wpAny_attempt (wpAny_callSpecial?_slot (name := Str.ofString "__next__") hT F.slot_enumerate_next
    (wpAny_call_entry F.slot_enumerate_next hT F.entry_enumerate_next (?_ : wpAny _ _ (Builtin.«enumerate.__next__» ⟨[.ref e], []⟩) _ _ _) (F.args_enumerate_next_1 _))))
  show wpAny _ _ (field (.ref e) 2 >>= _) _ _ _
  refine wpAny_bind (wpAny_field he rfl (x := .ref it) rfl ?_)
  refine wpAny_bind (inn _ _ fun h' x hx' q => ?_)
  obtain ⟨o, ho, hc⟩ := hx'
  refine wpAny_bind (wpAny_isInstance (T := "StopIteration") (b := true) ⟨o, ho, hc⟩ isSubtype_stop ?_)
  exact wpAny_pure q
/-- the next of a zip that another built-in asks -/
theorem zp_nextOf {Q : Value → Shared → Prop} (D : ZipApart z TI TO i1 i2 l1 l2) (hz : ZpAt s.heap z TI TO i1 i2 l1 l2 k) (hl1 : s.heap.IsList l1 xs) (hl2 : s.heap.IsList l2 ys) (hx : xs[k]? = some x) (hy : ys[k]? = some y)
    (hQ : ∀ h', ZpAt h' z TI TO i1 i2 l1 l2 (k + 1) → IsPair h' s.heap.objs.size x y → h'.objs.size = s.heap.objs.size + 1 →
      (∀ c o, c ≠ z → c ≠ TO → c ≠ i1 → c ≠ i2 → s.heap.get? c = some o → h'.get? c = some o) → Q (.ref s.heap.objs.size) { s with heap := h' }) : wpAny (model prog w) A (Builtin.SmallTypes.nextOf (.ref z)) Q E s := by
  have hT : s.TypeIs (.ref z) "zip" := by
    obtain ⟨⟨g, f, q⟩, _⟩ := hz
    exact ⟨_, q, rfl⟩
  unfold Builtin.SmallTypes.nextOf
  exact wpAny_bind (wpAny_callSpecial?_slot (name := Str.ofString "__next__") hT F.slot_zip_next
    (wpAny_call_entry F.slot_zip_next hT F.entry_zip_next (zp_item D hz hl1 hl2 hx hy fun h' a1 a2 a3 a4 => wpAny_pure (hQ h' a1 a2 a3 a4)) (F.args_zip_next_1 _)))
theorem zp_nextEnd {Q : Value → Shared → Prop} (hh : A.handled = none) (D : ZipApart z TI TO i1 i2 l1 l2) (hz : ZpAt s.heap z TI TO i1 i2 l1 l2 k) (hl1 : s.heap.IsList l1 xs) (hl2 : s.heap.IsList l2 ys) (hend : xs[k]? = none ∨ ys[k]? = none)
    (hE : ∀ h' e, (∀ c o, c ≠ z → c ≠ TO → c ≠ i1 → c ≠ i2 → s.heap.get? c = some o → h'.get? c = some o) → (∃ o, h'.get? e = some o ∧ o.cls = .type "StopIteration") → E (.ref e) { s with heap := h' }) : wpAny (model prog w) A (Builtin.SmallTypes.nextOf (.ref z)) Q E s := by
  have hT : s.TypeIs (.ref z) "zip" := by
    obtain ⟨⟨g, f, q⟩, _⟩ := hz
    exact ⟨_, q, rfl⟩
  unfold Builtin.SmallTypes.nextOf
  exact wpAny_bind (wpAny_callSpecial?_slot (name := Str.ofString "__next__") hT F.slot_zip_next
    (wpAny_call_entry F.slot_zip_next hT F.entry_zip_next (zp_end hh D hz hl1 hl2 hend hE) (F.args_zip_next_1 _)))
end
end HX
end

section
set_option Elab.async false
set_option linter.all false
set_option maxRecDepth 100000
set_option maxHeartbeats 4000000
/-! Iterators of our own: enumerate(tuple), enumerate(zip(list, list)), zip(list, tuple). -/
namespace HX
open PySem PySem.Spec PyProof.Rows L2
open Evl (Ex)
/-! ### enumerate begins -/
theorem meets_en1 {v : Value} {o : Obj} {H : Heap → Prop} (B : Begins v o H) :
    Meets (Builtin.«enumerate.__new__» ⟨[.type "enumerate", v], []⟩) (fun _ R s => H s.heap ∧
      R (.ok (.ret (.ref (s.heap.push o).objs.size))) { s with heap := (s.heap.push o).push { cls := .type "enumerate", data := .fields #[.none, .bool false, .ref s.heap.objs.size, rawInt 0, .none, .none] } }) :=
  .of_wp fun prog w A R s h => by
    obtain ⟨hp, g, d, tk, os⟩ := s; obtain ⟨h1, h⟩ := h
    have hsub := sub_enumerate
    have q1 : ∀ {A' : Around} {E : Value → Shared → Prop} {Q : Value → Shared → Prop}, Q (.ref hp.objs.size) ⟨hp.push o, g, d, tk, os⟩ → wpAny (model prog w) A' (pyIter v) Q E ⟨hp, g, d, tk, os⟩ :=
      fun q => B.iter prog w _ _ ⟨hp, g, d, tk, os⟩ _ h1 q
    wp_walk using q1
    refine wpAny_stack_any fun st => wpAny_pure ?_
    split
    · rename_i c _ _ _ _ _
      cases (c == Value.type "enumerate")
      · wp_walk using q1
        exact ⟨_, rfl, h⟩
      · wp_walk using q1
        exact ⟨_, rfl, h⟩
    · wp_walk using q1
      exact ⟨_, rfl, h⟩
theorem meets_enZ {z TI TO : Addr} :
    Meets (Builtin.«enumerate.__new__» ⟨[.type "enumerate", .ref z], []⟩) (fun _ R s => IsZip s.heap z TI TO .none ∧
      R (.ok (.ret (.ref s.heap.objs.size))) { s with heap := s.heap.push { cls := .type "enumerate", data := .fields #[.none, .bool false, .ref z, rawInt 0, .none, .none] } }) :=
  .of_wp fun prog w A R s h => by
    obtain ⟨hp, g, d, tk, os⟩ := s; obtain ⟨h1, h⟩ := h
    have hsub := sub_enumerate
    have q1 : ∀ {A' : Around} {E : Value → Shared → Prop} {Q : Value → Shared → Prop}, Q (.ref z) ⟨hp, g, d, tk, os⟩ → wpAny (model prog w) A' (pyIter (.ref z)) Q E ⟨hp, g, d, tk, os⟩ :=
      fun q => wpAny_pyIter_zip (s := ⟨hp, g, d, tk, os⟩) h1 q
    wp_walk using q1
    refine wpAny_stack_any fun st => wpAny_pure ?_
    split
    · rename_i c _ _ _ _ _
      cases (c == Value.type "enumerate")
      · wp_walk using q1
        exact ⟨_, rfl, h⟩
      · wp_walk using q1
        exact ⟨_, rfl, h⟩
    · wp_walk using q1
      exact ⟨_, rfl, h⟩
section
variable {prog : Program} {w : World} {A : Around} {E : Value → Shared → Prop} {s : Shared}
theorem call_en1 {v : Value} {o : Obj} {H : Heap → Prop} {Q : Value → Shared → Prop} (B : Begins v o H) (h1 : H s.heap)
    (h : ∀ h', IsEnum h' (s.heap.objs.size + 1) s.heap.objs.size 0 .none → h'.get? s.heap.objs.size = some o → h'.objs.size = s.heap.objs.size + 2 →
      (∀ b o, s.heap.get? b = some o → h'.get? b = some o) → Q (.ref (s.heap.objs.size + 1)) { s with heap := h' }) :
    wpAny (model prog w) A (call (.type "enumerate") [v]) Q E s := by
  refine callType_new F.called_enumerate (by decide) (F.typeCall_enumerate_1 _) (F.newCall_enumerate_1 _) (fun obj => F.args_object_init_2 obj _) F.entry_enumerate_new
    (meets_en1 B) ⟨h1, ?_⟩
  have hz : (s.heap.push o).objs.size = s.heap.objs.size + 1 := Heap.size_push ..
  show _ ∧ _
  rw [hz]
  have he : IsEnum ((s.heap.push o).push { cls := .type "enumerate", data := .fields #[.none, .bool false, .ref s.heap.objs.size, rawInt 0, .none, .none] }) (s.heap.objs.size + 1) s.heap.objs.size 0 .none := by
    have := Heap.get?_push_size (s.heap.push o) (o := { cls := .type "enumerate", data := .fields #[.none, .bool false, .ref s.heap.objs.size, rawInt 0, .none, .none] }) rfl
    rw [hz] at this; exact this
  refine ⟨⟨_, he, rfl⟩, h _ he (Heap.get?_push_of_some _ (Heap.get?_push_size _ B.free)) (by rw [Heap.size_push, hz]) fun b o x => Heap.get?_push_of_some _ (Heap.get?_push_of_some _ x)⟩
theorem call_enZ {z TI TO : Addr} {Q : Value → Shared → Prop} (h1 : IsZip s.heap z TI TO .none)
    (h : ∀ h', IsEnum h' s.heap.objs.size z 0 .none → h'.objs.size = s.heap.objs.size + 1 →
      (∀ b o, s.heap.get? b = some o → h'.get? b = some o) → Q (.ref s.heap.objs.size) { s with heap := h' }) :
    wpAny (model prog w) A (call (.type "enumerate") [.ref z]) Q E s := by
  refine callType_new F.called_enumerate (by decide) (F.typeCall_enumerate_1 _) (F.newCall_enumerate_1 _) (fun obj => F.args_object_init_2 obj _) F.entry_enumerate_new
    (meets_enZ (TI := TI) (TO := TO)) ⟨h1, ?_⟩
  have he : IsEnum (s.heap.push { cls := .type "enumerate", data := .fields #[.none, .bool false, .ref z, rawInt 0, .none, .none] }) s.heap.objs.size z 0 .none := Heap.get?_push_size _ rfl
  show _ ∧ _
  exact ⟨⟨_, he, rfl⟩, h _ he (Heap.size_push ..) fun b o x => Heap.get?_push_of_some _ x⟩
end
/-! ### enumerate(tuple) -/
def IteT (K : PySem.W.Frag) (a : Addr) : It :=
  ⟨fun i H => ∃ (xs : List V) (x : V), SqT K H a xs ∧ xs[i]? = some x, fun i H v H' => ∃ T x, v = .ref T ∧ H T = none ∧ H' = upd H T (.tup [.int (i : Nat), x]) ∧ ∀ xs, SqT K H a xs → xs[i]? = some x, fun i H => ∃ xs : List V, SqT K H a xs ∧ xs.length ≤ i⟩
theorem turn_enT {P : Program} {w : World} {K : PySem.W.Frag} {elts : List Expr} {kk : Nat} {tpos : Pos} (a e it : Addr) :
    Turn P w K (.Tuple elts kk tpos) (IteT K a) [e, it] e (fun i h => (∃ old, IsEnum h e it ((i : Nat) : Int) old) ∧ h.IsTupleIter it a i ∧ e ≠ it) where
  mem := by simp
  obj := fun i h st b hb => by
    obtain ⟨⟨old, he⟩, ⟨o, ho, hc, hd⟩, _⟩ := st
    have e' : b = e ∨ b = it := by simpa using hb
    rcases e' with z | z
    · rw [z]; exact ⟨_, he, fun v q => nomatch q⟩
    · rw [z]; exact ⟨o, ho, fun v q => by rw [hd] at q; cases q⟩
  keep := fun i h h' st k => let ⟨⟨old, he⟩, hi, hne⟩ := st; ⟨⟨old, k e (by simp) _ he⟩, hi.at fun o q => k it (by simp) o q, hne⟩
  item := by
    intro X hP hw hK hc i pins s σ H E I hf st hg
    subst hP hw hK
    obtain ⟨⟨old, he⟩, hit, hne⟩ := st
    obtain ⟨xs, x, hq, hx⟩ := hg
    obtain ⟨its, rv, p, hz⟩ := I.tuple hq
    obtain ⟨u, hu, ru⟩ := rv.get hx
    have hil : it < s.heap.objs.size := by obtain ⟨_, q, _⟩ := hit; exact Heap.lt_size q
    refine en_item (R := fun y h1 => y = u ∧ h1.IsTupleIter it a (i + 1) ∧ Heap.SameBut it s.heap h1) he (fun Q' E' q => wpAny_nextOf_tuple_item hit (show s.heap.IsTuple a its.toArray from p) (x := u) (by simpa using hu) fun h1 hi1 hs => q u h1 ⟨rfl, hi1, hs⟩ (hs.2 e hne |>.trans he)) fun y h1 h' tk hR ho hT hsz hk hel => ?_
    obtain ⟨rfl, hi1, hs⟩ := hR
    refine ⟨_, rfl, wpAny_letOwnedTupleGo_enum (s := { s with heap := h', toks := tk + 1 }) ho fun h'' he' sb => ?_⟩
    have hsz1 : h1.objs.size = s.heap.objs.size := hs.1
    rw [hsz1] at hT hel
    have hT2 : h''.get? s.heap.objs.size = some { cls := .type "tuple", data := .seq #[.int i tk, y] } := (sb.2 _ (Nat.ne_of_gt hel)).trans hT
    have new : ObjOk X.prog X.w (upd H s.heap.objs.size (.tup [.int (i : Nat), x])) h'' s.heap.objs.size (.tup [.int (i : Nat), x]) :=
      ⟨by show 2 ≤ sizeLine; decide, [.int i tk, y], .cons ⟨_, rfl⟩ (.cons ru .nil), ⟨_, hT2, rfl, _, rfl⟩⟩
    have I1 : Inv X pins σ (upd H s.heap.objs.size (.tup [.int (i : Nat), x])) { s with heap := h'', toks := tk + 1 } :=
      I.turnedNew (ch := [e, it]) (fun b ob hb q => (sb.2 b (fun z => hb (by simp [z]))).trans (hk b ob (fun z => hb (by simp [z])) (hs.extBut b ob (fun z => hb (by simp [z])) q))) hf (Nat.le_refl _) new
    rw [hsz1]
    refine ⟨.ref s.heap.objs.size, _, I1, rfl, ⟨_, x, rfl, I.hok.fresh (Nat.le_refl _), rfl, fun ys hy => by rw [I.tuple_inj hy hq]; exact hx⟩, ⟨⟨y, ?_⟩, ?_, hne⟩, fun b hb => ?_⟩
    · have e1 : ((i + 1 : Nat) : Int) = (i : Int) + 1 := by omega
      rw [e1]; exact he'
    · exact hi1.at fun o q => (sb.2 it (Ne.symm hne)).trans (hk it o (Ne.symm hne) q)
    · have hb' : b < s.heap.objs.size := by
        have e' : b = e ∨ b = it := by simpa using hb
        rcases e' with z | z
        · rw [z]; exact hel
        · rw [z]; exact hil
      rw [upd_ne (Nat.ne_of_lt hb')]
      exact (hf b hb).1
  done := by
    intro X hP hw hK hc i pins s σ H E I hf st hg
    subst hP hw hK
    obtain ⟨⟨old, he⟩, hit, hne⟩ := st
    obtain ⟨xs, hq, hx⟩ := hg
    obtain ⟨its, rv, p, hz⟩ := I.tuple hq
    obtain ⟨f0, f1, f2, f3, f4, f5⟩ := hf it (by simp)
    have hl := rv.length
    refine en_end he fun Q' E' q => wpAny_nextOf_tuple_end (I.ok.hd hc) hit (show s.heap.IsTuple a its.toArray from p) (by simp; omega) fun h' x eb hx' => q h' x hx' ⟨rfl, I.turned (t' := s.toks) (fun b o hb q => eb b o hb q) f0 f1 f3 f4 f5⟩
  self := fun A i s Q E st h => let ⟨⟨_, he⟩, _⟩ := st; wpAny_pyIter_enum he h
def iEnT (K : PySem.W.Frag) (ta : TA) : TI := fun σ H R => ta σ H fun vs H1 => ∃ a xs, vs = [.ref a] ∧ SqT K H1 a xs ∧ R (IteT K a) H1
theorem pi_enT {X : Cx} {e : Expr} {ta : TA} {p pos tpos : Pos} {elts : List Expr} {kk : Nat} (hg : Gl X "enumerate") (hm : X.mg "enumerate" = none) (ha : PA X [e] ta) (hs : starEach [e] X.env = [(false, eval e X.env)] := by rfl) :
    PI X (.Tuple elts kk tpos) (.Call (.Name "enumerate" p) [e] [] pos) (iEnT X.K ta) := by
  refine ⟨fun pins s σ H R I h => ?_⟩
  refine Call_ (ld_blt I hg hm boot_enumerate (PyProof.Rows.callWith_type1 (thn (ha.run pos pins s σ H _ I h) fun us s1 ⟨vs, H1, I1, r1, q1⟩ => ?_) hs rfl))
  obtain ⟨a, xs, ex, hq, q⟩ := q1
  subst ex
  cases r1 with
  | cons r rr =>
    cases rr
    cases r
    obtain ⟨its, rv, p', hz⟩ := I1.tuple hq
    refine call_en1 (begins_tuple a its.toArray) p' fun h' he hit hsz hk => wpAny_pyIter_enum he ?_
    have I2 : Inv X pins σ H1 { s1 with heap := h' } := I1.kept (t' := s1.toks) hk
    refine ⟨s1.heap.objs.size + 1, [s1.heap.objs.size + 1, s1.heap.objs.size], _, _, H1, rfl, I2, turn_enT a (s1.heap.objs.size + 1) s1.heap.objs.size, ⟨⟨.none, he⟩, ⟨_, hit, rfl, rfl⟩, Nat.succ_ne_self _⟩, fun b hb => ?_, q⟩
    have e' : b = s1.heap.objs.size + 1 ∨ b = s1.heap.objs.size := by simpa using hb
    have hle : s1.heap.objs.size ≤ b := by
      rcases e' with z | z
      · rw [z]; exact Nat.le_add_right _ _
      · rw [z]; exact Nat.le_refl _
    exact I1.fpOk hle (I1.hok.fresh hle)
/-! ### enumerate(zip(list, list)) -/
def Iez (K : PySem.W.Frag) (a b : Addr) : It :=
  ⟨fun i H => ∃ (xs ys : List V) (x y : V), SqL K H a xs ∧ SqL K H b ys ∧ xs[i]? = some x ∧ ys[i]? = some y,
    fun i H v H' => ∃ T T2 x y, v = .ref T ∧ H T2 = none ∧ (upd H T2 (.tup [x, y])) T = none ∧ H' = upd (upd H T2 (.tup [x, y])) T (.tup [.int (i : Nat), .ref T2]) ∧ (∀ xs, SqL K H a xs → xs[i]? = some x) ∧ ∀ ys, SqL K H b ys → ys[i]? = some y,
    fun i H => ∃ xs ys : List V, SqL K H a xs ∧ SqL K H b ys ∧ (xs.length ≤ i ∨ ys.length ≤ i)⟩
theorem fpok_up {X : Cx} {pins : List (Addr × Obj)} {H : Hp} {b T : Addr} {o : HO} (h : FpOk X pins H b) (ne : b ≠ T) : FpOk X pins (upd H T o) b := ⟨by rw [upd_ne ne]; exact h.1, h.2⟩
theorem turn_enZ {P : Program} {w : World} {K : PySem.W.Frag} {elts : List Expr} {kk : Nat} {tpos : Pos} {a b e z TI TO i1 i2 : Addr} (D : ZipApart z TI TO i1 i2 a b) (ez : e ≠ z) (eTI : e ≠ TI) (eTO : e ≠ TO) (e1 : e ≠ i1) (e2 : e ≠ i2) :
    Turn P w K (.Tuple elts kk tpos) (Iez K a b) [e, z, TI, TO, i1, i2] e (fun i h => (∃ old, IsEnum h e z ((i : Nat) : Int) old) ∧ ZpAt h z TI TO i1 i2 a b i) where
  mem := by simp
  obj := fun i h st c hc => by
    obtain ⟨⟨old, he⟩, ⟨⟨g, f, hz⟩, hTI, ⟨x, y, hTO⟩, ⟨o1, h1, _, d1⟩, ⟨o2, h2, _, d2⟩⟩⟩ := st
    have e' : c = e ∨ c = z ∨ c = TI ∨ c = TO ∨ c = i1 ∨ c = i2 := by simpa using hc
    rcases e' with q | q | q | q | q | q
    · rw [q]; exact ⟨_, he, fun v q => nomatch q⟩
    · rw [q]; exact ⟨_, hz, fun v q => nomatch q⟩
    · rw [q]; exact ⟨_, hTI, fun v q => nomatch q⟩
    · rw [q]; exact ⟨_, hTO, fun v q => nomatch q⟩
    · rw [q]; exact ⟨o1, h1, fun v q => by rw [d1] at q; cases q⟩
    · rw [q]; exact ⟨o2, h2, fun v q => by rw [d2] at q; cases q⟩
  keep := fun i h h' st k => let ⟨⟨old, he⟩, hz⟩ := st; ⟨⟨old, k e (by simp) _ he⟩, hz.mono fun b hb o q => k b (by rcases hb with z | z | z | z | z <;> simp [z]) o q⟩
  item := by
    intro X hP hw hK hc i pins s σ H E I hf st hg
    subst hP hw hK
    obtain ⟨⟨old, he⟩, hz⟩ := st
    obtain ⟨xs, ys, x, y, hqx, hqy, hx, hy⟩ := hg
    obtain ⟨its, rv, p, _⟩ := I.list hqx
    obtain ⟨its2, rv2, p2, _⟩ := I.list hqy
    obtain ⟨u, hu, ru⟩ := rv.get hx
    obtain ⟨u2, hu2, ru2⟩ := rv2.get hy
    have flt : ∀ b, b ∈ [e, z, TI, TO, i1, i2] → b < s.heap.objs.size := fun c hc => by
      obtain ⟨⟨g, f, hzz⟩, hTI, ⟨x', y', hTO⟩, ⟨o1, h1, _, d1⟩, ⟨o2, h2, _, d2⟩⟩ := hz
      have e' : c = e ∨ c = z ∨ c = TI ∨ c = TO ∨ c = i1 ∨ c = i2 := by simpa using hc
      rcases e' with q | q | q | q | q | q
      · rw [q]; exact Heap.lt_size he
      · rw [q]; exact Heap.lt_size hzz
      · rw [q]; exact Heap.lt_size hTI
      · rw [q]; exact Heap.lt_size hTO
      · rw [q]; exact Heap.lt_size h1
      · rw [q]; exact Heap.lt_size h2
    refine en_item (R := fun v h1 => v = .ref s.heap.objs.size ∧ ZpAt h1 z TI TO i1 i2 a b (i + 1) ∧ IsPair h1 s.heap.objs.size u u2 ∧ h1.objs.size = s.heap.objs.size + 1 ∧ ∀ c o, c ≠ z → c ≠ TO → c ≠ i1 → c ≠ i2 → s.heap.get? c = some o → h1.get? c = some o) he
      (fun Q' E' q => zp_nextOf D hz p.isList p2.isList (x := u) (y := u2) (by simpa using hu) (by simpa using hu2) fun h1 b1 b2 b3 b4 => q _ h1 ⟨rfl, b1, b2, b3, b4⟩ (b4 e _ ez eTO e1 e2 he)) fun v h1 h' tk hR ho hT hsz hk hel => ?_
    obtain ⟨rfl, b1, b2, b3, b4⟩ := hR
    refine ⟨_, rfl, wpAny_letOwnedTupleGo_enum (s := { s with heap := h', toks := tk + 1 }) ho fun h'' he' sb => ?_⟩
    have new1 : ObjOk X.prog X.w (upd H s.heap.objs.size (.tup [x, y])) h1 s.heap.objs.size (.tup [x, y]) :=
      ⟨by show 2 ≤ sizeLine; decide, [u, u2], .cons ru (.cons ru2 .nil), ⟨_, b2, rfl, _, rfl⟩⟩
    have I1 : Inv X pins σ (upd H s.heap.objs.size (.tup [x, y])) { s with heap := h1, toks := s.toks } :=
      I.turnedNew (ch := [e, z, TI, TO, i1, i2]) (fun c o hb q => b4 c o (fun z => hb (by simp [z])) (fun z => hb (by simp [z])) (fun z => hb (by simp [z])) (fun z => hb (by simp [z])) q) hf (Nat.le_refl _) new1
    have hT2 : h''.get? h1.objs.size = some { cls := .type "tuple", data := .seq #[.int i tk, .ref s.heap.objs.size] } := (sb.2 _ (Nat.ne_of_gt hel)).trans hT
    have new2 : ObjOk X.prog X.w (upd (upd H s.heap.objs.size (.tup [x, y])) h1.objs.size (.tup [.int (i : Nat), .ref s.heap.objs.size])) h'' h1.objs.size (.tup [.int (i : Nat), .ref s.heap.objs.size]) :=
      ⟨by show 2 ≤ sizeLine; decide, [.int i tk, .ref s.heap.objs.size], .cons ⟨_, rfl⟩ (.cons rfl .nil), ⟨_, hT2, rfl, _, rfl⟩⟩
    have hf1 : ∀ c ∈ [e, z, TI, TO, i1, i2], FpOk X pins (upd H s.heap.objs.size (.tup [x, y])) c := fun c hc => fpok_up (hf c hc) (Nat.ne_of_lt (flt c hc))
    have I2 : Inv X pins σ (upd (upd H s.heap.objs.size (.tup [x, y])) h1.objs.size (.tup [.int (i : Nat), .ref s.heap.objs.size])) { s with heap := h'', toks := tk + 1 } :=
      I1.turnedNew (ch := [e]) (fun c o hb q => (sb.2 c (fun z => hb (by simp [z]))).trans (hk c o (fun z => hb (by simp [z])) q)) (fun c hc => hf1 c (by have : c = e := by simpa using hc
                                                                                                                                                          simp [this])) (Nat.le_refl _) new2
    refine ⟨.ref h1.objs.size, _, I2, rfl, ⟨_, s.heap.objs.size, x, y, rfl, I.hok.fresh (Nat.le_refl _), I1.hok.fresh (Nat.le_refl _), rfl, fun l hl => by rw [I.list_inj hl hqx]; exact hx, fun l hl => by rw [I.list_inj hl hqy]; exact hy⟩, ⟨⟨.ref s.heap.objs.size, ?_⟩, ?_⟩, fun c hc => ?_⟩
    · have e1 : ((i + 1 : Nat) : Int) = (i : Int) + 1 := by omega
      rw [e1]; exact he'
    · refine b1.mono fun c hc o q => ?_
      have hce : c ≠ e := fun z' => by
        rw [z'] at hc
        rcases hc with q | q | q | q | q
        · exact ez q
        · exact eTI q
        · exact eTO q
        · exact e1 q
        · exact e2 q
      exact (sb.2 c hce).trans (hk c o hce q)
    · rw [upd_ne (Nat.ne_of_lt (Nat.lt_of_lt_of_le (flt c hc) (by rw [b3]; omega)))]
      exact (hf1 c hc).1
  done := by
    intro X hP hw hK hc i pins s σ H E I hf st hg
    subst hP hw hK
    obtain ⟨⟨old, he⟩, hz⟩ := st
    obtain ⟨xs, ys, hqx, hqy, hend⟩ := hg
    obtain ⟨its, rv, p, _⟩ := I.list hqx
    obtain ⟨its2, rv2, p2, _⟩ := I.list hqy
    have l1 := rv.length
    have l2 := rv2.length
    have hen : its.toArray[i]? = none ∨ its2.toArray[i]? = none := by
      rcases hend with q | q
      · exact .inl (by simp; omega)
      · exact .inr (by simp; omega)
    exact en_end he fun Q' E' q => zp_nextEnd (I.ok.hd hc) D hz p.isList p2.isList hen fun h' x hk hx' => q h' x hx' ⟨rfl, I.turnedL (t' := s.toks) (ch := [e, z, TI, TO, i1, i2]) (fun c o hb q =>
      hk c o (fun q' => hb (by simp [q'])) (fun q' => hb (by simp [q'])) (fun q' => hb (by simp [q'])) (fun q' => hb (by simp [q'])) q) hf⟩
  self := fun A i s Q E st h => let ⟨⟨_, he⟩, _⟩ := st; wpAny_pyIter_enum he h
def iEnZ (K : PySem.W.Frag) (ta : TA) : TI := fun σ H R => ta σ H fun vs H1 => ∃ a b xs ys, vs = [.ref a, .ref b] ∧ SqL K H1 a xs ∧ SqL K H1 b ys ∧ R (Iez K a b) H1
theorem pi_enZ {X : Cx} {e e2 : Expr} {ta : TA} {p p2 pos q tpos : Pos} {elts : List Expr} {kk : Nat} (hg : Gl X "enumerate") (hm : X.mg "enumerate" = none) (hg2 : Gl X "zip") (hm2 : X.mg "zip" = none) (ha : PA X [e, e2] ta)
    (hs : starEach [e, e2] X.env = (false, eval e X.env) :: starEach [e2] X.env := by rfl) (hpl : (backTo q (starEach [e2] X.env)).any (·.1) = false := by rfl)
    (hs2 : starEach [.Call (.Name "zip" p2) [e, e2] [] q] X.env = [(false, eval (.Call (.Name "zip" p2) [e, e2] [] q) X.env)] := by rfl) :
    PI X (.Tuple elts kk tpos) (.Call (.Name "enumerate" p) [.Call (.Name "zip" p2) [e, e2] [] q] [] pos) (iEnZ X.K ta) := by
  refine ⟨fun pins s σ H R I h => ?_⟩
  refine Call_ (ld_blt I hg hm boot_enumerate ?_)
  refine PyProof.Rows.callWith_type1 (PyProof.Rows.args_cons ?_ rfl) hs2 rfl
  refine Call_ (ld_blt I hg2 hm2 PyProof.Rows.boot_zip (PyProof.Rows.callWith_type1 (thn (ha.run q pins s σ H _ I h) fun us s1 ⟨vs, H1, I1, r1, q1⟩ => ?_) hs hpl))
  obtain ⟨a, b, xs, ys, ex, hqx, hqy, qq⟩ := q1
  subst ex
  cases r1 with
  | cons r rr =>
    cases rr with
    | cons r' rr =>
      cases rr
      cases r
      cases r'
      obtain ⟨its, rv, p1, _⟩ := I1.list hqx
      obtain ⟨its2, rv2, p2, _⟩ := I1.list hqy
      have la : a < s1.heap.objs.size := p1.lt
      have lb : b < s1.heap.objs.size := p2.lt
      refine call_zip_2 p1.isList p2.isList fun h' hz hTI hTO h1 h2 hsz hk => PyProof.Rows.args_nil ?_
      refine call_enZ (s := { s1 with heap := h' }) hz fun h'' he hsz2 hk2 => wpAny_pyIter_enum he ?_
      have I2 : Inv X pins σ H1 { s1 with heap := h'' } := I1.kept (t' := s1.toks) fun b o q => hk2 b o (hk b o q)
      have hes : (Shared.heap { s1 with heap := h' }).objs.size = s1.heap.objs.size + 5 := hsz
      rw [hes] at he
      have S := PySem.W.ktu_apart s1.heap.objs.size a b la lb
      rw [hes]
      refine ⟨s1.heap.objs.size + 5, [s1.heap.objs.size + 5, s1.heap.objs.size + 4, s1.heap.objs.size + 2, s1.heap.objs.size + 3, s1.heap.objs.size, s1.heap.objs.size + 1], _, _, H1, rfl, I2,
        turn_enZ S (fun z => absurd z (by simp)) (fun z => absurd z (by simp)) (fun z => absurd z (by simp)) (fun z => absurd z (by simp)) (fun z => absurd z (by simp)), ⟨⟨.none, he⟩, ⟨none, false, hk2 _ _ hz⟩, hk2 _ _ hTI, ⟨_, _, hk2 _ _ hTO⟩, h1.at fun o q => hk2 _ o q, h2.at fun o q => hk2 _ o q⟩, fun c hcm => ?_, qq⟩
      have e' : c = s1.heap.objs.size + 5 ∨ c = s1.heap.objs.size + 4 ∨ c = s1.heap.objs.size + 2 ∨ c = s1.heap.objs.size + 3 ∨ c = s1.heap.objs.size ∨ c = s1.heap.objs.size + 1 := by simpa using hcm
      have hle : s1.heap.objs.size ≤ c := by
        rcases e' with z | z | z | z | z | z
        · rw [z]; exact Nat.le_add_right _ _
        · rw [z]; exact Nat.le_add_right _ _
        · rw [z]; exact Nat.le_add_right _ _
        · rw [z]; exact Nat.le_add_right _ _
        · rw [z]; exact Nat.le_refl _
        · rw [z]; exact Nat.le_add_right _ _
      exact I1.fpOk hle (I1.hok.fresh hle)
end HX
end

section
set_option Elab.async false
set_option linter.all false
set_option maxRecDepth 100000
set_option maxHeartbeats 4000000
namespace HX
open PySem PySem.Spec PyProof.Rows L2
open Evl (Ex)
/-! ### zip(list, tuple) -/
def ItzM (K : PySem.W.Frag) (a b : Addr) : It :=
  ⟨fun i H => ∃ (xs ys : List V) (x y : V), SqL K H a xs ∧ SqT K H b ys ∧ xs[i]? = some x ∧ ys[i]? = some y,
    fun i H v H' => ∃ T x y, v = .ref T ∧ H T = none ∧ H' = upd H T (.tup [x, y]) ∧ (∀ xs, SqL K H a xs → xs[i]? = some x) ∧ ∀ ys, SqT K H b ys → ys[i]? = some y,
    fun i H => ∃ xs ys : List V, SqL K H a xs ∧ SqT K H b ys ∧ ((i = xs.length ∧ i ≤ ys.length) ∨ (i ≤ xs.length ∧ i = ys.length))⟩
theorem turn_zipM {P : Program} {w : World} {K : PySem.W.Frag} {elts : List Expr} {kk : Nat} {tpos : Pos} {a b z TI TO i1 i2 : Addr} (D : ZipSep2 z TI TO i1 i2 [i1, a] [i2, b]) (na : a ≠ i1) (nb : b ≠ i2) :
    Turn P w K (.Tuple elts kk tpos) (ItzM K a b) [z, TI, TO, i1, i2] z (fun i h => IsZip h z TI TO .none ∧ IsTupOf2 h TI (.ref i1) (.ref i2) ∧ (∃ x y, IsTupOf2 h TO x y) ∧ h.IsListIter i1 a i ∧ h.IsTupleIter i2 b i) where
  mem := by simp
  obj := fun i h st c hc => by
    obtain ⟨hz, hTI, ⟨x, y, hTO⟩, ⟨o1, e1, _, d1⟩, ⟨o2, e2, _, d2⟩⟩ := st
    have e' : c = z ∨ c = TI ∨ c = TO ∨ c = i1 ∨ c = i2 := by simpa using hc
    rcases e' with q | q | q | q | q
    · rw [q]; exact ⟨_, hz, fun v q => nomatch q⟩
    · rw [q]; exact ⟨_, hTI, fun v q => nomatch q⟩
    · rw [q]; exact ⟨_, hTO, fun v q => nomatch q⟩
    · rw [q]; exact ⟨o1, e1, fun v q => by rw [d1] at q; cases q⟩
    · rw [q]; exact ⟨o2, e2, fun v q => by rw [d2] at q; cases q⟩
  keep := fun i h h' st k => by
    obtain ⟨hz, hTI, ⟨x, y, hTO⟩, h1, h2⟩ := st
    exact ⟨k z (by simp) _ hz, k TI (by simp) _ hTI, ⟨x, y, k TO (by simp) _ hTO⟩, h1.at fun o q => k i1 (by simp) o q, h2.at fun o q => k i2 (by simp) o q⟩
  item := by
    intro X hP hw hK hc i pins s σ H E I hf st hg
    subst hP hw hK
    obtain ⟨hz, hTI, ⟨x0, y0, hTO⟩, h1, h2⟩ := st
    obtain ⟨xs, ys, x, y, hqx, hqy, hx, hy⟩ := hg
    obtain ⟨its, rv, p, _⟩ := I.list hqx
    obtain ⟨its2, rv2, p2, _⟩ := I.tuple hqy
    obtain ⟨u, hu, ru⟩ := rv.get hx
    obtain ⟨u2, hu2, ru2⟩ := rv2.get hy
    have hh : X.A.in1.handled = none := I.ok.hd hc
    have hzl : z < s.heap.objs.size := Heap.lt_size hz
    have hl1 : i < its.toArray.size := by
      have := (List.getElem?_eq_some_iff.mp hu).1
      simpa using this
    have hl2 : i < its2.toArray.size := by
      have := (List.getElem?_eq_some_iff.mp hu2).1
      simpa using this
    refine wpAny_pyNext_zipD2_item D (Draws.list hh i1 a na its.toArray) (Draws.tuple hh i2 b nb its2.toArray) hz hTI hTO ⟨h1, p.isList⟩ ⟨h2, p2⟩ hl1 hl2 fun u' u2' h' tk q1 q2 z' TO' h1' h2' hT hsz hk => ?_
    obtain rfl : u' = u := by
      have : its.toArray[i]? = some u := by simpa using hu
      rw [this] at q1; exact (Option.some.inj q1).symm
    obtain rfl : u2' = u2 := by
      have : its2.toArray[i]? = some u2 := by simpa using hu2
      rw [this] at q2; exact (Option.some.inj q2).symm
    refine ⟨_, rfl, wpAny_letOwnedTupleGo_zip (s := { s with heap := h', toks := tk }) z' fun h'' z'' sb => ?_⟩
    have hT2 : h''.get? s.heap.objs.size = some { cls := .type "tuple", data := .seq #[u', u2'] } := (sb.2 _ (Nat.ne_of_gt hzl)).trans hT
    have new : ObjOk X.prog X.w (upd H s.heap.objs.size (.tup [x, y])) h'' s.heap.objs.size (.tup [x, y]) :=
      ⟨by show 2 ≤ sizeLine; decide, [u', u2'], .cons ru (.cons ru2 .nil), ⟨_, hT2, rfl, _, rfl⟩⟩
    have I1 : Inv X pins σ (upd H s.heap.objs.size (.tup [x, y])) { s with heap := h'', toks := tk } :=
      I.turnedNew (ch := [z, TI, TO, i1, i2]) (fun c o hb q => (sb.2 c (fun q' => hb (by simp [q']))).trans (hk c o (fun q' => hb (by simp [q'])) (fun q' => hb (by simp [q'])) (fun q' => hb (by simp [q'])) (fun q' => hb (by simp [q'])) q)) hf (Nat.le_refl _) new
    refine ⟨.ref s.heap.objs.size, _, I1, rfl, ⟨_, x, y, rfl, I.hok.fresh (Nat.le_refl _), rfl, fun l hl => by rw [I.list_inj hl hqx]; exact hx, fun l hl => by rw [I.tuple_inj hl hqy]; exact hy⟩, ⟨z'', ?_, ⟨u', u2', ?_⟩, ?_, ?_⟩, fun c hcm => ?_⟩
    · exact (sb.2 _ D.TIz).trans (hk _ _ D.TIz D.TITO D.TIi1 D.TIi2 hTI)
    · exact (sb.2 _ D.TOz).trans TO'
    · exact h1'.1.at fun o q => (sb.2 _ (Ne.symm D.zi1)).trans q
    · exact h2'.1.at fun o q => (sb.2 _ (Ne.symm D.zi2)).trans q
    · have hlt : c < s.heap.objs.size := by
        have e' : c = z ∨ c = TI ∨ c = TO ∨ c = i1 ∨ c = i2 := by simpa using hcm
        rcases e' with q | q | q | q | q
        · rw [q]; exact hzl
        · rw [q]; exact Heap.lt_size hTI
        · rw [q]; exact Heap.lt_size hTO
        · rw [q]; obtain ⟨_, e1, _⟩ := h1; exact Heap.lt_size e1
        · rw [q]; obtain ⟨_, e2, _⟩ := h2; exact Heap.lt_size e2
      rw [upd_ne (Nat.ne_of_lt hlt)]
      exact (hf c hcm).1
  done := by
    intro X hP hw hK hc i pins s σ H E I hf st hg
    subst hP hw hK
    obtain ⟨hz, hTI, ⟨x0, y0, hTO⟩, h1, h2⟩ := st
    obtain ⟨xs, ys, hqx, hqy, hend⟩ := hg
    obtain ⟨its, rv, p, _⟩ := I.list hqx
    obtain ⟨its2, rv2, p2, _⟩ := I.tuple hqy
    have l1 := rv.length
    have l2 := rv2.length
    have hh : X.A.in1.handled = none := I.ok.hd hc
    refine wpAny_pyNext_zipD2_end (i := i) D (Draws.list hh i1 a na its.toArray) (Draws.tuple hh i2 b nb its2.toArray) hz hTI hTO ⟨h1, p.isList⟩ ⟨h2, p2⟩ (by simp; omega) (by simp; omega) (by simp; omega) fun h' tk hk => ⟨rfl, I.turnedL (t' := tk) (ch := [z, TI, TO, i1, i2]) (fun c o hb q =>
      hk c o (fun q' => hb (by simp [q'])) (fun q' => hb (by simp [q'])) (fun q' => hb (by simp [q'])) (fun q' => hb (by simp [q'])) q) hf⟩
  self := fun A i s Q E st h => wpAny_pyIter_zip st.1 h
def iZipM (K : PySem.W.Frag) (ta : TA) : TI := fun σ H R => ta σ H fun vs H1 => ∃ a b xs ys, vs = [.ref a, .ref b] ∧ SqL K H1 a xs ∧ SqT K H1 b ys ∧ R (ItzM K a b) H1
theorem pi_zipM {X : Cx} {e e2 : Expr} {ta : TA} {p pos tpos : Pos} {elts : List Expr} {kk : Nat} (hg : Gl X "zip") (hm : X.mg "zip" = none) (ha : PA X [e, e2] ta)
    (hs : starEach [e, e2] X.env = (false, eval e X.env) :: starEach [e2] X.env := by rfl) (hpl : (backTo pos (starEach [e2] X.env)).any (·.1) = false := by rfl) :
    PI X (.Tuple elts kk tpos) (.Call (.Name "zip" p) [e, e2] [] pos) (iZipM X.K ta) := by
  refine ⟨fun pins s σ H R I h => ?_⟩
  refine Call_ (ld_blt I hg hm PyProof.Rows.boot_zip (PyProof.Rows.callWith_type1 (thn (ha.run pos pins s σ H _ I h) fun us s1 ⟨vs, H1, I1, r1, q1⟩ => ?_) hs hpl))
  obtain ⟨a, b, xs, ys, ex, hqx, hqy, q⟩ := q1
  subst ex
  cases r1 with
  | cons r rr =>
    cases rr with
    | cons r' rr =>
      cases rr
      cases r
      cases r'
      obtain ⟨its, rv, p1, _⟩ := I1.list hqx
      obtain ⟨its2, rv2, p2, _⟩ := I1.tuple hqy
      have la : a < s1.heap.objs.size := p1.lt
      have lb : b < s1.heap.objs.size := by obtain ⟨_, q, _⟩ := id p2; exact Heap.lt_size q
      refine zip_begins2 (begins_list a its.toArray) (begins_tuple b its2.toArray) p1.isList p2 fun h' hz hTI hTO h1 h2 hsz hk => wpAny_pyIter_zip hz ?_
      have I2 : Inv X pins σ H1 { s1 with heap := h' } := I1.kept (t' := s1.toks) hk
      refine ⟨s1.heap.objs.size + 4, [s1.heap.objs.size + 4, s1.heap.objs.size + 2, s1.heap.objs.size + 3, s1.heap.objs.size, s1.heap.objs.size + 1], _, _, H1, rfl, I2,
        turn_zipM (zip_sep2 (N := s1.heap.objs.size) (fp1 := [a]) (fp2 := [b]) (by simpa using la) (by simpa using lb)) (Nat.ne_of_lt la) (Nat.ne_of_lt (Nat.lt_succ_of_lt lb)), ⟨hz, hTI, ⟨_, _, hTO⟩, ⟨_, h1, rfl, rfl⟩, ⟨_, h2, rfl, rfl⟩⟩, fun c hcm => ?_, q⟩
      have e' : c = s1.heap.objs.size + 4 ∨ c = s1.heap.objs.size + 2 ∨ c = s1.heap.objs.size + 3 ∨ c = s1.heap.objs.size ∨ c = s1.heap.objs.size + 1 := by simpa using hcm
      have hle : s1.heap.objs.size ≤ c := by
        rcases e' with z | z | z | z | z
        · rw [z]; exact Nat.le_add_right _ _
        · rw [z]; exact Nat.le_add_right _ _
        · rw [z]; exact Nat.le_add_right _ _
        · rw [z]; exact Nat.le_refl _
        · rw [z]; exact Nat.le_add_right _ _
      exact I1.fpOk hle (I1.hok.fresh hle)
/-! ### what they give -/
section
variable {K : PySem.W.Frag} {a b : Addr} {xs ys : List V}
theorem walk_enT : Walk (IteT K a) xs.length (fun H => SqT K H a xs) (YPair (fun i => some (.int (i : Nat))) (fun i => xs[i]?)) := by
  refine ⟨fun i _ hi q => ⟨xs, xs[i], q, by simp [hi]⟩, fun _ q => ⟨xs, q, Nat.le_refl _⟩, fun i H v H' _ q y => ?_⟩
  obtain ⟨T, x, h1, h2, h3, h4⟩ := y
  exact ⟨T, .int (i : Nat), x, h1, h2, h3, rfl, h4 xs q⟩
theorem walk_zipM {n : Nat} (hn : n = xs.length) (hn2 : n = ys.length) : Walk (ItzM K a b) n (fun H => SqL K H a xs ∧ SqT K H b ys) (YPair (fun i => xs[i]?) (fun i => ys[i]?)) := by
  refine ⟨fun i _ hi q => ?_, fun _ q => ⟨xs, ys, q.1, q.2, .inl ⟨hn, by omega⟩⟩, fun i H v H' _ q y => ?_⟩
  · have h1 : i < xs.length := by omega
    have h2 : i < ys.length := by omega
    exact ⟨xs, ys, xs[i], ys[i], q.1, q.2, by simp [h1], by simp [h2]⟩
  · obtain ⟨T, x, z, h1, h2, h3, h4, h5⟩ := y
    exact ⟨T, x, z, h1, h2, h3, h4 xs q.1, h5 ys q.2⟩
/-- an index beside a pair -/
def YTri (xs ys : List V) : Nat → Hp → V → Hp → Prop := fun i H v H' => ∃ T T2 x y, v = .ref T ∧ H T2 = none ∧ (upd H T2 (.tup [x, y])) T = none ∧ H' = upd (upd H T2 (.tup [x, y])) T (.tup [.int (i : Nat), .ref T2]) ∧ xs[i]? = some x ∧ ys[i]? = some y
theorem walk_enZ {n : Nat} (hn : n = xs.length) (hn2 : n = ys.length) : Walk (Iez K a b) n (fun H => SqL K H a xs ∧ SqL K H b ys) (YTri xs ys) := by
  refine ⟨fun i _ hi q => ?_, fun _ q => ⟨xs, ys, q.1, q.2, .inl (by omega)⟩, fun i H v H' _ q y => ?_⟩
  · have h1 : i < xs.length := by omega
    have h2 : i < ys.length := by omega
    exact ⟨xs, ys, xs[i], ys[i], q.1, q.2, by simp [h1], by simp [h2]⟩
  · obtain ⟨T, T2, x, z, h1, h2, h3, h4, h5, h6⟩ := y
    exact ⟨T, T2, x, z, h1, h2, h3, h4, h5 xs q.1, h6 ys q.2⟩
end
end HX
end

section
set_option Elab.async false
set_option linter.all false
set_option maxRecDepth 100000
set_option maxHeartbeats 4000000
/-! The solver: entering, leaving. -/
namespace HX
open PySem PySem.Spec PyProof.Rows L2
open Evl (Ex)
/-- an expression's reading gives v, the heap as it was -/
def Vl (te : TE) (σ : L2.St) (H : Hp) (v : V) : Prop := ∀ Q : VK, Q v H → te σ H Q
/-! ### lines in the heap -/
def rowV (R : Nat) (f : Nat → Int) : List V := (List.range (R + 1)).map fun j => .int (f j)
theorem rowV_len (R : Nat) (f : Nat → Int) : (rowV R f).length = R + 1 := by simp [rowV]
theorem rowV_at {R : Nat} (f : Nat → Int) {j : Nat} (h : j ≤ R) : (rowV R f)[j]? = some (.int (f j)) := by
  unfold rowV
  rw [List.getElem?_map, List.getElem?_range (by omega)]
  rfl
theorem rowV_congr {R : Nat} {f g : Nat → Int} (h : ∀ j, j ≤ R → f j = g j) : rowV R f = rowV R g := by
  unfold rowV
  refine List.map_congr_left fun j hj => ?_
  rw [h j (by have := List.mem_range.mp hj; omega)]
theorem atI_neg1 {α : Type} {xs : List α} {v : α} (hp : 0 < xs.length) (h : xs[xs.length - 1]? = some v) : atI xs (-1) = some v := by
  unfold atI ixN
  rw [if_neg (by omega), if_pos (by omega)]
  have : ((-1 : Int) + (xs.length : Nat)).toNat = xs.length - 1 := by omega
  rw [this]
  exact h
theorem rowV_nat {R : Nat} (f : Nat → Int) {j : Nat} (h : j ≤ R) : atI (rowV R f) (j : Int) = some (.int (f j)) := atI_nat (rowV_at f h)
theorem rowV_last {R : Nat} (f : Nat → Int) : atI (rowV R f) (-1) = some (.int (f R)) := by
  refine atI_neg1 (by rw [rowV_len]; omega) ?_
  rw [rowV_len]
  exact rowV_at f (by omega)
def LinesAt (H : Hp) (v : V) (n R : Nat) (F : Nat → Nat → Int) : Prop := ∃ a vs, v = .ref a ∧ H a = some (.lst vs) ∧ vs.length = n ∧ ∀ i, i < n → ∃ p, vs[i]? = some (.ref p) ∧ H p = some (.lst (rowV R (F i)))
theorem LinesAt.ex {H H' : Hp} {v : V} {n R : Nat} {F : Nat → Nat → Int} (e : Ex H H') (h : LinesAt H v n R F) : LinesAt H' v n R F := by
  obtain ⟨a, vs, rfl, h1, h2, h3⟩ := h
  exact ⟨a, vs, rfl, e _ _ h1, h2, fun i hi => let ⟨p, h4, h5⟩ := h3 i hi; ⟨p, h4, e _ _ h5⟩⟩
theorem LinesAt.congr {H : Hp} {v : V} {n R : Nat} {F G : Nat → Nat → Int} (h : LinesAt H v n R F) (e : ∀ i j, i < n → j ≤ R → F i j = G i j) : LinesAt H v n R G := by
  obtain ⟨a, vs, rfl, h1, h2, h3⟩ := h
  refine ⟨a, vs, rfl, h1, h2, fun i hi => let ⟨p, h4, h5⟩ := h3 i hi; ⟨p, h4, ?_⟩⟩
  rw [h5, rowV_congr fun j hj => e i j hi hj]
/-! ### reading lines[i][j] -/
section
variable {K : PySem.W.Frag} {σ : L2.St} {H : Hp} {n R : Nat} {F : Nat → Nat → Int} {v : V} {tl ti tj : TE}
theorem val_row {i : Int} {k : Nat} (hl : Vl tl σ H v) (hi : Vl ti σ H (.int i)) (h : LinesAt H v n R F) (hk : k < n) (e : i = (k : Int) ∨ (i = -1 ∧ k + 1 = n)) : ∃ p, Vl (tOp (rIxL K) tl ti) σ H (.ref p) ∧ H p = some (.lst (rowV R (F k))) := by
  obtain ⟨a, vs, rfl, h1, h2, h3⟩ := h
  obtain ⟨p, h4, h5⟩ := h3 k hk
  refine ⟨p, fun Q q => hl _ (hi _ ⟨a, vs, i, .ref p, rfl, rfl, SqL.of h1, ?_, q⟩), h5⟩
  rcases e with rfl | ⟨rfl, e⟩
  · exact atI_nat h4
  · refine atI_neg1 (by omega) ?_
    rw [h2, show n - 1 = k by omega]
    exact h4
theorem val_num {f : Nat → Int} {p : Addr} {j : Int} {k : Nat} (hr : Vl tl σ H (.ref p)) (hp : H p = some (.lst (rowV R f))) (hj : Vl tj σ H (.int j)) (hk : k ≤ R) (e : j = (k : Int) ∨ (j = -1 ∧ k = R)) : Vl (tOp (rIxL K) tl tj) σ H (.int (f k)) := fun Q q => by
  refine hr _ (hj _ ⟨p, _, j, _, rfl, rfl, SqL.of hp, ?_, q⟩)
  rcases e with rfl | ⟨rfl, rfl⟩
  · exact rowV_nat f hk
  · exact rowV_last f
theorem val_entry {i j : Int} {k l : Nat} (hl : Vl tl σ H v) (hi : Vl ti σ H (.int i)) (hj : Vl tj σ H (.int j)) (h : LinesAt H v n R F) (hk : k < n) (e : i = (k : Int) ∨ (i = -1 ∧ k + 1 = n)) (hkl : l ≤ R) (e2 : j = (l : Int) ∨ (j = -1 ∧ l = R)) :
    Vl (tOp (rIxL K) (tOp (rIxL K) tl ti) tj) σ H (.int (F k l)) := by
  obtain ⟨p, h1, h2⟩ := val_row (K := K) hl hi h hk e
  exact val_num h1 h2 hj hkl e2
theorem val_v {i : Nat} {x : V} (h : σ[i]? = some (some x)) : Vl (tVar i) σ H x := fun Q q => ⟨x, h, q⟩
theorem val_m1 : Vl (tUn (rU fun i => .int (-i)) (tC (.int 1))) σ H (.int (-1)) := fun Q q => ⟨1, rfl, q⟩
end
/-! ### entering -/
theorem enter_hit {g : Nat → Int} {i : Nat} (h0 : KX.enter g i = none) (h : 0 < g i) : ∀ n, i < n → KX.enter g n = some i
  | 0, z => by omega
  | n + 1, z => by
    unfold KX.enter
    by_cases e : i = n
    · subst e
      rw [h0]
      simp [h]
    · rw [enter_hit h0 h n (by omega)]
theorem enter_step {g : Nat → Int} {i : Nat} (h0 : KX.enter g i = none) (h : ¬ 0 < g i) : KX.enter g (i + 1) = none := by
  unfold KX.enter
  rw [h0]
  simp [h]
section
variable {P : Program} {w : World} {K : PySem.W.Frag} {mg : Str → Option Value} {base : Heap}
def spEnter : Sp := fun vs H Q _ => ∃ (v : V) (m R n : Nat) (F : Nat → Nat → Int), vs = [v, .int (n : Int)] ∧ LinesAt H v (m + 1) R F ∧ n ≤ R + 1 ∧ R ≤ 1000 ∧ Q (optV (KX.enter (F m) n)) H
abbrev nEnter : List Str := ["lines", "many", "column"]
theorem scEnter : FnScope nEnter ["lines", "many"] (defScope sEnter) := ⟨rfl, rfl, rfl, by decide +kernel, rfl, by decide +kernel, by decide +kernel⟩
theorem ok_enter (T : Tx w K mg) : FnR P w K mg base CX0 1 (He.ga K "entering") spEnter := by
  refine fnr (T.fnG1 8 dEnter rfl) rfl scEnter (fun _ _ _ _ _ _ us hl => match us, hl with | [_, _], _ => rfl) (fun vs H Q E h => ?_) (fun cdv A outer s H vs Q E hr h => ?_)
  · obtain ⟨_, _, _, _, _, rfl, _⟩ := h
    rfl
  · obtain ⟨v, m, R, n, F, rfl, hL, hn, hR, k⟩ := h
    have nd := scEnter.nd
    refine ⟨_, pss_cons (ps_for PassesOwn.never rfl (pi_range1 rfl (T.f "range") (pa_cons (pv 1) pa_nil)) (pg_name (i := 2) nd rfl (Or.inl rfl))
        (pss_one (ps_if (pt_cmpR op_gt (pe_ix ix_list (pe_ix ix_list (pv 0) (pe_un un_neg pe_int) (fun _ _ => rfl)) (pv 2) (fun _ _ => rfl)) pe_int (nomark _)) (pss_one (ps_ret (pv 2))) pss_nil)))
      (pss_one (ps_ret pe_non)), ?_⟩
    refine ⟨_, rfl, (n : Int), rfl, by omega, by omega, ?_⟩
    rw [Int.toNat_natCast]
    refine for_it walk_range (fun i σ H' => H' = H ∧ KX.enter (F m) i = none ∧ ∃ c, σ = [some v, some (.int n), c]) ⟨rfl, rfl, none, rfl⟩ (fun _ _ _ _ _ => trivial) (fun i x σ H1 H' hi hp y => ?_) (fun σ H1 hp => ?_)
    · obtain ⟨rfl, h0, c, rfl⟩ := hp
      obtain ⟨rfl, rfl⟩ := y
      have e : Vl (tOp (rIxL K) (tOp (rIxL K) (tVar 0) (tUn (rU fun i => .int (-i)) (tC (.int 1)))) (tVar 2)) [some v, some (.int n), some (.int (0 + (i : Int)))] H' (.int (F m i)) :=
        val_entry (val_v rfl) val_m1 (val_v rfl) hL (Nat.lt_succ_self m) (.inr ⟨rfl, rfl⟩) (by omega) (.inl (by omega))
      refine e _ ?_
      refine ⟨_, _, rfl, rfl, _, rfl, ?_⟩
      by_cases c : 0 < F m i
      · refine ite_t (decide_eq_true c) ⟨_, rfl, ?_⟩
        rw [enter_hit h0 c n hi] at k
        have e0 : (0 + (i : Int)) = ((i : Nat) : Int) := by omega
        have k' : Q (.int (0 + (i : Int))) H' := by
          rw [e0]
          exact k
        exact k'
      · exact ite_f (decide_eq_false c) ⟨rfl, enter_step h0 c, _, rfl⟩
    · obtain ⟨rfl, h0, c, rfl⟩ := hp
      rw [h0] at k
      exact k

/-! ### leaving -/
/-- the lines of a state: its own, then the goal -/
def lin (m : Nat) (st : KX.Stt) : Nat → Nat → Int := fun i => if i < m then st.L i else st.g m
theorem lin_lt {m i : Nat} {st : KX.Stt} (h : i < m) : lin m st i = st.L i := if_pos h
theorem lin_m {m : Nat} {st : KX.Stt} : lin m st m = st.g m := if_neg (Nat.lt_irrefl _)
def optM : Option Nat → Int
  | none => -1
  | some b => (b : Nat)
def ownV (m : Nat) (o : Nat → Nat) : List V := (List.range m).map fun i => V.int ((o i : Nat) : Int)
theorem ownV_len (m : Nat) (o : Nat → Nat) : (ownV m o).length = m := by simp [ownV]
theorem ownV_at {m : Nat} (o : Nat → Nat) {i : Nat} (h : i < m) : (ownV m o)[i]? = some (.int ((o i : Nat) : Int)) := by
  unfold ownV
  rw [List.getElem?_map, List.getElem?_range h]
  rfl
def Small (m R : Nat) (F : Nat → Nat → Int) : Prop := ∀ i j, i ≤ m → j ≤ R → (F i j).natAbs < 1073741824
theorem Small.mul {m R : Nat} {F : Nat → Nat → Int} (h : Small m R F) {i j : Nat} (hi : i ≤ m) (hj : j ≤ R) (y : Int) : CMul (F i j) y := .inl (by have := h i j hi hj; omega)
def spLeave : Sp := fun vs H Q _ => ∃ (v : V) (ow : Addr) (m R c : Nat) (st : KX.Stt), vs = [v, .ref ow, .int (c : Int)] ∧ LinesAt H v (m + 1) R (lin m st) ∧ H ow = some (.lst (ownV m st.o)) ∧ c ≤ R ∧ m ≤ 1000 ∧ Small m R (lin m st) ∧ ∀ H', Ex H H' → Q (.int (optM (KX.leave st R c m))) H'
abbrev nLeave : List Str := ["lines", "owners", "column", "best", "at", "owner", "mine", "other"]
theorem scLeave : FnScope nLeave ["lines", "owners", "column"] (defScope sLeave) := ⟨rfl, rfl, rfl, by decide +kernel, rfl, by decide +kernel, by decide +kernel⟩
theorem ok_leave (T : Tx w K mg) : FnR P w K mg base CX0 1 (He.ga K "leaving") spLeave := by
  refine fnr (T.fnG1 9 dLeave rfl) rfl scLeave (fun _ _ _ _ _ _ us hl => match us, hl with | [_, _, _], _ => rfl) (fun vs H Q E h => ?_) (fun cdv A outer s H vs Q E hr h => ?_)
  · obtain ⟨_, _, _, _, _, _, rfl, _⟩ := h
    rfl
  · obtain ⟨v, ow, m, R, c, st, rfl, hL, hO, hc, hm, hS, k⟩ := h
    have nd := scLeave.nd
    refine ⟨_, pss_cons (ps_asg (pe_un un_neg pe_int) (pg_name (i := 3) nd rfl (Or.inl rfl)))
      (pss_cons (ps_for PassesOwn.never rfl (pi_enum rfl (T.f "enumerate") (pa_cons (pv 1) pa_nil)) (pg_tup (by rfl) (pgs_cons (pg_name (i := 4) nd rfl (Or.inl rfl)) (pgs_cons (pg_name (i := 5) nd rfl (Or.inl rfl)) pgs_nil)))
        (pss_one (ps_if (pt_cmpR op_gt (pe_ix ix_list (pe_ix ix_list (pv 0) (pv 4) (fun _ _ => rfl)) (pv 2) (fun _ _ => rfl)) pe_int (nomark _))
          (pss_one (ps_if (pt_cmpR op_lt (pv 3) pe_int (nomark _)) (pss_one (ps_asg (pv 4) (pg_name (i := 3) nd rfl (Or.inl rfl))))
            (pss_cons (ps_asg (pe_op op_mul (pe_ix ix_list (pe_ix ix_list (pv 0) (pv 4) (fun _ _ => rfl)) (pe_un un_neg pe_int) (fun _ _ => rfl)) (pe_ix ix_list (pe_ix ix_list (pv 0) (pv 3) (fun _ _ => rfl)) (pv 2) (fun _ _ => rfl))) (pg_name (i := 6) nd rfl (Or.inl rfl)))
            (pss_cons (ps_asg (pe_op op_mul (pe_ix ix_list (pe_ix ix_list (pv 0) (pv 3) (fun _ _ => rfl)) (pe_un un_neg pe_int) (fun _ _ => rfl)) (pe_ix ix_list (pe_ix ix_list (pv 0) (pv 4) (fun _ _ => rfl)) (pv 2) (fun _ _ => rfl))) (pg_name (i := 7) nd rfl (Or.inl rfl)))
            (pss_one (ps_if (PW.pt (pw_or (pt_cmpR op_lt (pv 6) (pv 7) (nomark _)) (pw_or1 (PW.pt (pw_and (pt_cmpR op_eq (pv 6) (pv 7) (nomark _)) (pw_and1 (pt_cmpR op_lt (pv 5) (pe_ix ix_list (pv 1) (pv 3) (fun _ _ => rfl)) (nomark _))))))))
              (pss_one (ps_asg (pv 4) (pg_name (i := 3) nd rfl (Or.inl rfl)))) pss_nil))))))
          pss_nil)))
      (pss_one (ps_ret (pv 3)))), ?_⟩
    refine ⟨1, rfl, _, rfl, ow, _, rfl, SqL.of hO, ?_⟩
    refine for_it (walk_enum (xs := ownV m st.o)) (fun i σ H' => Ex H H' ∧ ∃ x4 x5 x6 x7, σ = [some v, some (.ref ow), some (.int (c : Int)), some (.int (optM (KX.leave st R c i))), x4, x5, x6, x7]) ⟨Ex.refl _, none, none, none, none, rfl⟩ (fun i σ H' _ h => SqL.of (h.1 ow _ hO)) (fun i x σ H1 H' hi hp y => ?_) (fun σ H1 hp => ?_)
    · rw [ownV_len] at hi
      obtain ⟨e, x4, x5, x6, x7, rfl⟩ := hp
      obtain ⟨T1, y1, y2, rfl, nT, rfl, h1, h2⟩ := y
      obtain rfl := Option.some.inj h1
      replace h2 : (ownV m st.o)[i]? = some y2 := h2
      rw [ownV_at _ hi] at h2
      obtain rfl := Option.some.inj h2
      have e1 : Ex H (upd H1 T1 (.tup [.int (i : Nat), .int ((st.o i : Nat) : Int)])) := e.trans (Evl.Ex.new nT)
      refine ⟨T1, _, rfl, SqT.of upd_same, rfl, _, _, rfl, _, _, rfl, rfl, ?_⟩
      generalize hH' : upd H1 T1 (.tup [.int (i : Nat), .int ((st.o i : Nat) : Int)]) = H2 at e1
      have hL' := hL.ex e1
      have en : ∀ (sg : L2.St), sg[0]? = some (some v) → ∀ (a b : TE) (ia ib : Int) (p q : Nat), Vl a sg H2 (.int ia) → Vl b sg H2 (.int ib) → p ≤ m → (ia = (p : Int) ∨ (ia = -1 ∧ p + 1 = m + 1)) → q ≤ R → (ib = (q : Int) ∨ (ib = -1 ∧ q = R)) → Vl (tOp (rIxL K) (tOp (rIxL K) (tVar 0) a) b) sg H2 (.int (lin m st p q)) :=
        fun sg hs a b ia ib p q h1 h2 h3 h4 h5 h6 => val_entry (val_v hs) h1 h2 hL' (by omega) h4 h5 h6
      refine en _ rfl _ _ _ _ i c (val_v rfl) (val_v rfl) (by omega) (.inl rfl) hc (.inl rfl) _ ?_
      refine ⟨_, _, rfl, rfl, _, rfl, ?_⟩
      rw [lin_lt hi]
      have step : KX.leave st R c (i + 1) = match KX.leave st R c i with
        | none => if 0 < st.L i c then some i else none
        | some b => if 0 < st.L i c ∧ KX.better st R c i b then some i else some b := rfl
      have pk : ∀ (y y' : Int) (p4 p5 p6 p7 : Option V), y = y' → ∃ x4 x5 x6 x7, ([some v, some (.ref ow), some (.int (c : Int)), some (.int y), p4, p5, p6, p7] : L2.St) = [some v, some (.ref ow), some (.int (c : Int)), some (.int y'), x4, x5, x6, x7] := by
        rintro y _ _ _ _ _ rfl
        exact ⟨_, _, _, _, rfl⟩
      by_cases hp : 0 < st.L i c
      · refine ite_t (decide_eq_true hp) ?_
        rcases KX.leave_ok (s := st) (R := R) (c := c) i with ⟨e0, _⟩ | ⟨b, e0, hb, _⟩
        · refine ⟨_, rfl, _, _, rfl, rfl, _, rfl, ite_t (decide_eq_true (by rw [e0]; decide)) ?_⟩
          exact ⟨_, rfl, e1, pk (i : Nat) _ _ _ _ _ (by rw [step, e0]; simp only [hp, if_true]; rfl)⟩
        · refine ⟨_, rfl, _, _, rfl, rfl, _, rfl, ite_f (decide_eq_false (by rw [e0]; show ¬ ((b : Nat) : Int) < 0; omega)) ?_⟩
          have hbm : b < m := by omega
          have eb : optM (KX.leave st R c i) = ((b : Nat) : Int) := by rw [e0]; rfl
          refine en _ rfl _ _ _ _ i R (val_v rfl) val_m1 (by omega) (.inl rfl) (Nat.le_refl _) (.inr ⟨rfl, rfl⟩) _ ?_
          refine en _ rfl _ _ _ _ b c (val_v rfl) (val_v rfl) (by omega) (.inl eb) hc (.inl rfl) _ ?_
          refine ⟨_, _, rfl, rfl, hS.mul (by omega) (Nat.le_refl _) _, ?_⟩
          refine en _ rfl _ _ _ _ b R (val_v rfl) val_m1 (by omega) (.inl eb) (Nat.le_refl _) (.inr ⟨rfl, rfl⟩) _ ?_
          refine en _ rfl _ _ _ _ i c (val_v rfl) (val_v rfl) (by omega) (.inl rfl) hc (.inl rfl) _ ?_
          refine ⟨_, _, rfl, rfl, hS.mul (by omega) (Nat.le_refl _) _, ?_⟩
          refine ⟨_, rfl, _, rfl, _, _, rfl, rfl, _, rfl, ?_⟩
          rw [lin_lt hi, lin_lt hbm]
          have no : ¬ KX.better st R c i b → ∃ x4 x5 x6 x7, ([some v, some (.ref ow), some (.int (c : Int)), some (.int (optM (KX.leave st R c i))), some (.int (i : Int)), some (.int (st.o i : Nat)), some (.int (st.L i R * st.L b c)), some (.int (st.L b R * st.L i c))] : L2.St) = [some v, some (.ref ow), some (.int (c : Int)), some (.int (optM (KX.leave st R c (i + 1)))), x4, x5, x6, x7] := by
            intro nb
            refine pk _ _ _ _ _ _ ?_
            rw [step, e0]
            simp only [hp, nb, and_false, if_false]
          have yes : KX.better st R c i b → optM (KX.leave st R c (i + 1)) = ((i : Nat) : Int) := by
            intro nb
            rw [step, e0]
            simp only [hp, nb, and_self, if_true]
            rfl
          by_cases c1 : st.L i R * st.L b c < st.L b R * st.L i c
          · refine ite_t (decide_eq_true c1) (iteT ⟨_, rfl, e1, pk (i : Nat) _ _ _ _ _ (yes (.inl c1)).symm⟩)
          · refine ite_f (decide_eq_false c1) ⟨_, rfl, _, rfl, rfl, _, rfl, ?_⟩
            by_cases c2 : st.L i R * st.L b c = st.L b R * st.L i c
            · refine ite_t (decide_eq_true (congrArg V.int c2)) ?_
              refine ⟨_, rfl, _, rfl, _, rfl, ow, _, _, _, rfl, rfl, SqL.of (e1 ow _ hO), (by rw [eb]; exact atI_nat (ownV_at st.o hbm)), _, _, rfl, rfl, _, rfl, ?_⟩
              by_cases c3 : st.o i < st.o b
              · exact ite_t (decide_eq_true (Int.ofNat_lt.mpr c3)) ⟨_, rfl, e1, pk (i : Nat) _ _ _ _ _ (yes (.inr ⟨c2, c3⟩)).symm⟩
              · exact ite_f (decide_eq_false (fun z => c3 (Int.ofNat_lt.mp z))) ⟨e1, no (by rintro (z | z); exact c1 z; exact c3 z.2)⟩
            · refine ite_f (decide_eq_false (fun z => c2 (V.int.inj z))) (iteF ⟨e1, no (by rintro (z | z); exact c1 z; exact c2 z.1)⟩)
      · refine ite_f (decide_eq_false hp) ⟨e1, pk _ _ _ _ _ _ ?_⟩
        rw [step]
        cases hh : KX.leave st R c i <;> simp only [hp, false_and, if_false]
    · obtain ⟨e, x4, x5, x6, x7, rfl⟩ := hp
      refine ⟨_, rfl, ?_⟩
      rw [ownV_len]
      exact k H1 e
end
end HX
end

section
set_option Elab.async false
set_option linter.all false
set_option maxRecDepth 100000
set_option maxHeartbeats 4000000
/-! The solver: turned_lines. -/
namespace HX
open PySem PySem.Spec PyProof.Rows L2
open Evl (Ex)
theorem LinesAt.push {H : Hp} {D p : Addr} {n R : Nat} {G : Nat → Nat → Int} (h : LinesAt H (.ref D) n R G) (hp : H p = some (.lst (rowV R (G n)))) :
    ∃ acc, H D = some (.lst acc) ∧ acc.length = n ∧ LinesAt (upd H D (.lst (acc ++ [.ref p]))) (.ref D) (n + 1) R G := by
  obtain ⟨a, vs, e, h1, h2, h3⟩ := h
  obtain rfl : D = a := V.ref.inj e
  have ne : ∀ q f, H q = some (.lst (rowV R f)) → q ≠ D := fun q f hq z => by
    rw [z, h1] at hq
    injection hq with hq
    injection hq with hq
    have l : vs.length = R + 1 := by rw [hq, rowV_len]
    obtain ⟨q', z1, _⟩ := h3 0 (by omega)
    rw [hq, rowV_at f (Nat.zero_le R)] at z1
    cases z1
  refine ⟨vs, h1, h2, D, _, rfl, upd_same, by simp [h2], fun i hi => ?_⟩
  by_cases c : i < n
  · obtain ⟨q, z1, z2⟩ := h3 i c
    exact ⟨q, by rw [List.getElem?_append_left (by omega)]; exact z1, by rw [upd_ne (ne q _ z2)]; exact z2⟩
  · have : i = n := by omega
    subst this
    exact ⟨p, by rw [List.getElem?_append_right (by omega), h2, Nat.sub_self]; rfl, by rw [upd_ne (ne p _ hp)]; exact hp⟩
/-- the lines turned at (r, c) -/
def trn (F : Nat → Nat → Int) (r c : Nat) (u : Int) : Nat → Nat → Int := fun i j => if i = r then F r j else (F r c * F i j - F i c * F r j).fdiv u
section
variable {P : Program} {w : World} {K : PySem.W.Frag} {mg : Str → Option Value} {base : Heap}
def spTurned : Sp := fun vs H Q _ => ∃ (v : V) (m R r c : Nat) (u : Int) (F : Nat → Nat → Int), vs = [v, .int (r : Int), .int (c : Int), .int u] ∧ LinesAt H v (m + 1) R F ∧ r ≤ m ∧ c ≤ R ∧ m ≤ 1000 ∧ R ≤ 10000 ∧ Small m R F ∧ u ≠ 0 ∧ u.natAbs < 1073741824 ∧
  ∀ D H', H D = none → Ex H H' → LinesAt H' (.ref D) (m + 1) R (trn F r c u) → Q (.ref D) H'
abbrev nTurned : List Str := ["lines", "at", "column", "unit", "chosen", "found", "index", "line", "item", "more"]
theorem scTurned : FnScope nTurned ["lines", "at", "column", "unit"] (defScope sTurned) := ⟨rfl, rfl, rfl, by decide +kernel, rfl, by decide +kernel, by decide +kernel⟩
theorem ok_turned (T : Tx w K mg) : FnR P w K mg base CX0 1 (He.ga K "turned_lines") spTurned := by
  refine fnr (T.fnG1 10 dTurned rfl) rfl scTurned (fun _ _ _ _ _ _ us hl => match us, hl with | [_, _, _, _], _ => rfl) (fun vs H Q E h => ?_) (fun cdv A outer s H vs Q E hr h => ?_)
  · obtain ⟨_, _, _, _, _, _, _, rfl, _⟩ := h
    rfl
  · obtain ⟨v, m, R, r, c, u, F, rfl, hL, hr', hc, hm, hR, hS, hu0, hu1, k⟩ := h
    have nd := scTurned.nd
    refine ⟨_, pss_cons (ps_asg (pe_ix ix_list (pv 0) (pv 1) (fun _ _ => rfl)) (pg_name (i := 4) nd rfl (Or.inr rfl)))
      (pss_cons (ps_asg (pe_lst pa_nil) (pg_name (i := 5) nd rfl (Or.inl rfl)))
      (pss_cons (ps_for PassesOwn.never rfl (pi_enum rfl (T.f "enumerate") (pa_cons (pv 0) pa_nil)) (pg_tup (by rfl) (pgs_cons (pg_name (i := 6) nd rfl (Or.inl rfl)) (pgs_cons (pg_name (i := 7) nd rfl (Or.inr rfl)) pgs_nil)))
        (pss_one (ps_if (pt_cmpR op_eq (pv 6) (pv 1) (nomark _))
          (pss_one (ps_expr (pe_bm PySem.F.plainAttrs_list PySem.F.slot_list_append PySem.F.type_list_append mt_append (pv 5) (pa_cons (pv 7) pa_nil))))
          (pss_one (ps_expr (pe_bm PySem.F.plainAttrs_list PySem.F.slot_list_append PySem.F.type_list_append mt_append (pv 5) (pa_cons
            (pe_lc (own := [("item", 8), ("more", 9)]) rfl nd (pi_zip rfl (T.f "zip") (pa_cons (pv 7) (pa_cons (pv 4) pa_nil))) (blkOk_by (own := [("item", 8), ("more", 9)]) (N := nTurned) (sc := defScope sTurned) (by decide +kernel))
              (fun _ _ _ _ _ => pg_tupK (K := K) rfl (n := 2) rfl (pgs_cons (pg_name (i := 8) nd rfl (Or.inl rfl)) (pgs_cons (pg_name (i := 9) nd rfl (Or.inl rfl)) pgs_nil))) (fun _ _ _ _ _ => pts_nil)
              (fun _ _ _ _ _ => pe_op op_fdivN (pe_op op_sub (pe_op op_mul (pe_ix (r := rIxL K) ix_list (pv 4) (pv 2) (fun _ _ => rfl)) (pv 8)) (pe_op op_mul (pe_ix (r := rIxL K) ix_list (pv 7) (pv 2) (fun _ _ => rfl)) (pv 9))) (pv 3))) pa_nil))))
          )))
      (pss_one (ps_ret (pv 5))))), ?_⟩
    obtain ⟨pr, hrow, hpr⟩ := val_row (K := K) (tl := tVar 0) (ti := tVar 1) (σ := [some v, some (.int (r : Int)), some (.int (c : Int)), some (.int u), none, none, none, none, none, none]) (val_v rfl) (val_v rfl) hL (Nat.lt_succ_of_le hr') (.inl rfl)
    refine hrow _ ?_
    refine ⟨Nat.zero_le _, fun D nD => ?_⟩
    have e0 : Ex H (upd H D (.lst [])) := Evl.Ex.new nD
    obtain ⟨la, lvs, ev, hla, hln, hlr⟩ := id hL
    subst ev
    refine ⟨_, rfl, la, lvs, rfl, SqL.of (e0 la _ hla), ?_⟩
    refine for_it (walk_enum (xs := lvs)) (fun i σ H' => Ex H H' ∧ LinesAt H' (.ref D) i R (trn F r c u) ∧ ∃ x6 x7 x8 x9, σ = [some (.ref la), some (.int (r : Int)), some (.int (c : Int)), some (.int u), some (.ref pr), some (.ref D), x6, x7, x8, x9])
      ⟨e0, ⟨D, [], rfl, upd_same, rfl, fun i hi => by omega⟩, none, none, none, none, rfl⟩ (fun i σ H' _ h => SqL.of (h.1 la _ hla)) (fun i x σ H1 H' hi hp y => ?_) (fun σ H1 hp => ?_)
    · rw [hln] at hi
      obtain ⟨e, hacc, x6, x7, x8, x9, rfl⟩ := hp
      obtain ⟨T1, y1, y2, rfl, nT, rfl, h1, h2⟩ := y
      obtain rfl := Option.some.inj h1
      replace h2 : lvs[i]? = some y2 := h2
      obtain ⟨p, h3, hp⟩ := hlr i hi
      rw [h3] at h2
      obtain rfl := Option.some.inj h2
      have eT : Ex H1 (upd H1 T1 (.tup [.int (i : Nat), .ref p])) := Evl.Ex.new nT
      have e1 := e.trans eT
      refine ⟨T1, _, rfl, SqT.of upd_same, rfl, _, _, rfl, _, _, rfl, rfl, ?_⟩
      generalize hH' : upd H1 T1 (.tup [.int (i : Nat), .ref p]) = H2 at e1 eT
      have hacc2 := hacc.ex eT
      refine ⟨_, rfl, _, rfl, rfl, _, rfl, ?_⟩
      by_cases ci : i = r
      · refine ite_t (decide_eq_true (by rw [ci])) ?_
        have hpi : H2 p = some (.lst (rowV R (trn F r c u i))) := by
          rw [e1 p _ hp, ci]
          rw [rowV_congr (g := trn F r c u r) fun j _ => by unfold trn; rw [if_pos rfl]]
        obtain ⟨acc, hD, hal, hnew⟩ := hacc2.push hpi
        refine ⟨_, rfl, .inl ⟨rfl, _, SqL.of hD⟩, _, rfl, D, acc, _, rfl, rfl, hD, Evl.sz_lt (by omega), Evl.Ex.mut e1 nD, hnew, _, _, _, _, rfl⟩
      · refine ite_f (decide_eq_false (fun z => ci (by have := V.int.inj z; omega))) ?_
        obtain ⟨D', acc0, eD, hD, _, _⟩ := id hacc2
        obtain rfl : D = D' := V.ref.inj eD
        refine ⟨_, rfl, .inl ⟨rfl, _, SqL.of hD⟩, _, rfl, _, rfl, p, pr, _, _, rfl, SqL.of (e1 p _ hp), SqL.of (e1 pr _ hpr), fun D2 nD2 => lc_val (walk_zip (n := R + 1) (by rw [rowV_len, rowV_len]; omega)) (fun j => .int (trn F r c u i j)) nD2 (by omega)
          (fun H e => ⟨SqL.of (e p _ (e1 p _ hp)), SqL.of (e pr _ (e1 pr _ hpr))⟩) (fun j x H0 H'' Qe hj e2 y kq => ?_) (fun H3 e3 hD2 => ?_)⟩
        · obtain ⟨T2, z1, z2, rfl, nT2, rfl, q1, q2⟩ := y
          have hj' : j ≤ R := by omega
          replace q1 : (rowV R (F i))[j]? = some z1 := q1
          replace q2 : (rowV R (F r))[j]? = some z2 := q2
          rw [rowV_at _ hj'] at q1 q2
          obtain rfl := Option.some.inj q1
          obtain rfl := Option.some.inj q2
          have e3 := (e1.trans e2).trans (Evl.Ex.new (o := .tup [.int (F i j), .int (F r j)]) nT2)
          refine ⟨T2, _, rfl, SqT.of upd_same, rfl, _, _, rfl, _, _, rfl, rfl, rfl, _, rfl, ?_⟩
          have hp3 := e3 p _ hp
          have hpr3 := e3 pr _ hpr
          refine ⟨_, rfl, pr, _, _, _, rfl, rfl, SqL.of hpr3, rowV_nat _ hc, _, rfl, _, _, rfl, rfl, hS.mul hr' hc _, ?_⟩
          refine ⟨_, rfl, _, rfl, p, _, _, _, rfl, rfl, SqL.of hp3, rowV_nat _ hc, _, rfl, _, _, rfl, rfl, hS.mul (by omega) hc _, _, _, rfl, rfl, _, rfl, _, _, rfl, rfl, ⟨hu0, hu1⟩, ?_⟩
          have := kq _ (Evl.Ex.new (o := .tup [.int (F i j), .int (F r j)]) nT2)
          unfold trn at this
          rw [if_neg ci] at this
          exact this
        · have e4 := eT.trans e3
          have e5 := e1.trans e3
          have hacc3 := hacc2.ex e3
          have hrow3 : H3 D2 = some (.lst (rowV R (trn F r c u i))) := hD2
          obtain ⟨acc, hD3, hal, hnew⟩ := hacc3.push hrow3
          exact ⟨D, acc, _, rfl, rfl, hD3, Evl.sz_lt (by omega), Evl.Ex.mut e5 nD, hnew, _, _, _, _, rfl⟩
    · rw [hln] at hp
      obtain ⟨e, hacc, x6, x7, x8, x9, rfl⟩ := hp
      exact ⟨_, rfl, k D H1 nD e hacc⟩
end
end HX
end

section
set_option Elab.async false
set_option linter.all false
set_option maxRecDepth 100000
set_option maxHeartbeats 4000000
/-! The solver: first_lines. -/
namespace HX
open PySem PySem.Spec PyProof.Rows L2
open Evl (Ex)
def needV (m : Nat) (need : Nat → Int) : List V := (List.range m).map fun i => .int (need i)
theorem needV_len (m : Nat) (need : Nat → Int) : (needV m need).length = m := by simp [needV]
theorem needV_at {m i : Nat} (need : Nat → Int) (h : i < m) : (needV m need)[i]? = some (.int (need i)) := by
  unfold needV
  rw [List.getElem?_map, List.getElem?_range h]
  rfl
theorem A0_row {m : Nat} {row : Nat → Nat → Int} {need : Nat → Int} (i : Nat) :
    ((List.range 9).map fun j => V.int (KX.sgn need i * row i j)) ++ (((List.range m).map fun j => V.int (-KX.sgn need i * (if j = i then 1 else 0))) ++ (((List.range m).map fun j => V.int (need i * (if j = i then 1 else 0))) ++ [V.int (need i)])) = rowV (9 + m + m) (KX.A0 m row need i) := by
  unfold rowV
  have h1 : List.range (9+m+m+1) = List.range (9+m+m) ++ [9+m+m] := List.range_succ
  have h2 : List.range (9+m+m) = List.range (9+m) ++ (List.range m).map (fun x => 9+m+x) := List.range_add
  have h3 : List.range (9+m) = List.range 9 ++ (List.range m).map (fun x => 9+x) := List.range_add
  rw [h1, h2, h3, List.map_append, List.map_append, List.map_append, List.map_map, List.map_map, List.append_assoc, List.append_assoc]
  have q1 : (List.range 9).map (fun j => V.int (KX.A0 m row need i j)) = (List.range 9).map fun j => V.int (KX.sgn need i * row i j) := List.map_congr_left fun j hj => by rw [KX.A0_low i (List.mem_range.mp hj)]
  have q2 : (List.range m).map ((fun j => V.int (KX.A0 m row need i j)) ∘ fun x => 9 + x) = (List.range m).map fun j => V.int (-KX.sgn need i * (if j = i then 1 else 0)) := List.map_congr_left fun j hj => by
    show V.int (KX.A0 m row need i (9 + j)) = _
    rw [KX.A0_sur i (List.mem_range.mp hj)]
  have q3 : (List.range m).map ((fun j => V.int (KX.A0 m row need i j)) ∘ fun x => 9 + m + x) = (List.range m).map fun j => V.int (need i * (if j = i then 1 else 0)) := List.map_congr_left fun j hj => by
    show V.int (KX.A0 m row need i (9 + m + j)) = _
    rw [KX.A0_lack i (List.mem_range.mp hj)]
  have q4 : [9+m+m].map (fun j => V.int (KX.A0 m row need i j)) = [V.int (need i)] := by
    show [V.int (KX.A0 m row need i (9 + m + m))] = _
    rw [KX.A0_need i]
  rw [q1, q2, q3, q4]
theorem zero_row (R : Nat) : (List.replicate (R + 1) [V.int 0]).flatten = rowV R (fun _ => 0) := by
  unfold rowV
  rw [List.flatten_replicate_singleton]
  refine List.ext_getElem (by simp) fun i h1 h2 => by simp
section
variable {P : Program} {w : World} {K : PySem.W.Frag} {mg : Str → Option Value} {base : Heap}
def spFirst : Sp := fun vs H Q _ => ∃ (v : V) (b : Addr) (m : Nat) (row : Nat → Nat → Int) (need : Nat → Int), vs = [v, .ref b] ∧ LinesAt H v m 8 row ∧ H b = some (.lst (needV m need)) ∧ m ≤ 1000 ∧ (∀ i, i < m → need i = 0 ∨ need i = 1) ∧
  ∀ D H', H D = none → Ex H H' → LinesAt H' (.ref D) (m + 1) (9 + m + m) (lin m (KX.s0 m row need)) → Q (.ref D) H'
abbrev nFirst : List Str := ["rows", "needs", "lines", "index", "row", "need", "sign", "surplus", "lack", "goal", "line", "other", "item", "more"]
theorem scFirst : FnScope nFirst ["rows", "needs"] (defScope sFirst) := ⟨rfl, rfl, rfl, by decide +kernel, rfl, by decide +kernel, by decide +kernel⟩
theorem ok_first (T : Tx w K mg) : FnR P w K mg base CX0 1 (He.ga K "first_lines") spFirst := by
  refine fnr (T.fnG1 7 dFirst rfl) rfl scFirst (fun _ _ _ _ _ _ us hl => match us, hl with | [_, _], _ => rfl) (fun vs H Q E h => ?_) (fun cdv A outer s H vs Q E hr h => ?_)
  · obtain ⟨_, _, _, _, _, rfl, _⟩ := h
    rfl
  · obtain ⟨v, b, m, row, need, rfl, hL, hB, hm, hn, k⟩ := h
    have nd := scFirst.nd
    refine ⟨_, pss_cons (ps_asg (pe_lst pa_nil) (pg_name (i := 2) nd rfl (Or.inl rfl)))
      (pss_cons (ps_for PassesOwn.never rfl (pi_enZ rfl (T.f "enumerate") rfl (T.f "zip") (pa_cons (pv 0) (pa_cons (pv 1) pa_nil))) (pg_tup (by rfl) (pgs_cons (pg_name (i := 3) nd rfl (Or.inr rfl)) (pgs_cons (pg_tup (by rfl) (pgs_cons (pg_name (i := 4) nd rfl (Or.inl rfl)) (pgs_cons (pg_name (i := 5) nd rfl (Or.inr rfl)) pgs_nil))) pgs_nil)))
        (pss_cons (ps_asg (pe_ifExp (pt_cmpR op_gt (pv 5) pe_int (nomark _)) pe_int (pe_un un_neg pe_int)) (pg_name (i := 6) nd rfl (Or.inr rfl)))
        (pss_cons (ps_setLc (i := 7) (own := [("other", 11)]) rfl nd rfl rfl (sw_true rfl rfl rfl (by decide +kernel)) (pi_range1 rfl (T.f "range") (pa_cons (pe_callB call_len_seq (by rfl) (T.f "len") PySem.boot_len (pa_cons (pv 0) pa_nil)) pa_nil)) (blkOk_by (own := [("other", 11)]) (N := nFirst) (sc := defScope sFirst) (by decide +kernel))
          (fun _ _ _ _ _ => pg_name (i := 11) nd rfl (Or.inl rfl)) (fun _ _ _ _ _ => pts_nil)
          (fun _ _ _ _ _ => pe_op op_mul (pe_un un_neg (pv 6)) (pe_callTy call_int1 (by rfl) (T.f "int") (by decide +kernel) (pa_cons (pe_cmpR op_eq (pv 11) (pv 3) (nomark _)) pa_nil))))
        (pss_cons (ps_setLc (i := 8) (own := [("other", 11)]) rfl nd rfl rfl (sw_true rfl rfl rfl (by decide +kernel)) (pi_range1 rfl (T.f "range") (pa_cons (pe_callB call_len_seq (by rfl) (T.f "len") PySem.boot_len (pa_cons (pv 0) pa_nil)) pa_nil)) (blkOk_by (own := [("other", 11)]) (N := nFirst) (sc := defScope sFirst) (by decide +kernel))
          (fun _ _ _ _ _ => pg_name (i := 11) nd rfl (Or.inl rfl)) (fun _ _ _ _ _ => pts_nil)
          (fun _ _ _ _ _ => pe_op op_mul (pv 5) (pe_callTy call_int1 (by rfl) (T.f "int") (by decide +kernel) (pa_cons (pe_cmpR op_eq (pv 11) (pv 3) (nomark _)) pa_nil))))
        (pss_one (ps_expr (pe_bm PySem.F.plainAttrs_list PySem.F.slot_list_append PySem.F.type_list_append mt_append (pv 2) (pa_cons (pe_lst
          (StX.pa_star (pe_lc (own := [("item", 12)]) rfl nd (pi_list (pv 4)) (blkOk_by (own := [("item", 12)]) (N := nFirst) (sc := defScope sFirst) (by decide +kernel)) (fun _ _ _ _ _ => pg_name (i := 12) nd rfl (Or.inl rfl)) (fun _ _ _ _ _ => pts_nil)
              (fun _ _ _ _ _ => pe_op op_mul (pv 6) (pv 12)))
            (StX.pa_star (pv 7) (StX.pa_star (pv 8) (pa_cons (pv 5) pa_nil))))) pa_nil))))))))
      (pss_cons (ps_asg (pe_op op_rep (pe_lst (pa_cons pe_int pa_nil)) (pe_op op_add (pe_op op_add (pe_callB call_len_seq (by rfl) (T.f "len") PySem.boot_len (pa_cons (pe_glob (v := .ref (He.ga K "KINDS")) rfl (T.g "KINDS") rfl) pa_nil)) (pe_op op_mul pe_int (pe_callB call_len_seq (by rfl) (T.f "len") PySem.boot_len (pa_cons (pv 0) pa_nil)))) pe_int)) (pg_name (i := 9) nd rfl (Or.inl rfl)))
      (pss_cons (ps_for PassesOwn.never rfl (pi_zip rfl (T.f "zip") (pa_cons (pv 2) (pa_cons (pv 1) pa_nil))) (pg_tup (by rfl) (pgs_cons (pg_name (i := 10) nd rfl (Or.inl rfl)) (pgs_cons (pg_name (i := 5) nd rfl (Or.inr rfl)) pgs_nil)))
        (pss_one (ps_setLc (i := 9) (own := [("item", 12), ("more", 13)]) rfl nd rfl rfl (sw_true rfl rfl rfl (by decide +kernel)) (pi_zip rfl (T.f "zip") (pa_cons (pv 9) (pa_cons (pv 10) pa_nil))) (blkOk_by (own := [("item", 12), ("more", 13)]) (N := nFirst) (sc := defScope sFirst) (by decide +kernel))
          (fun _ _ _ _ _ => pg_tupK (K := K) rfl (n := 2) rfl (pgs_cons (pg_name (i := 12) nd rfl (Or.inl rfl)) (pgs_cons (pg_name (i := 13) nd rfl (Or.inl rfl)) pgs_nil))) (fun _ _ _ _ _ => pts_nil)
          (fun _ _ _ _ _ => pe_op op_add (pv 12) (pe_op op_mul (pv 5) (pv 13))))))
      (pss_one (ps_ret (pe_lst (StX.pa_star (pv 2) (pa_cons (pv 9) pa_nil)))))))), ?_⟩
    refine ⟨Nat.zero_le _, fun D nD => ?_⟩
    have e0 : Ex H (upd H D (.lst [])) := Evl.Ex.new nD
    obtain ⟨la, lvs, ev, hla, hln, hlr⟩ := id hL
    subst ev
    have sg1 : ∀ i, KX.sgn need i = 1 ∨ KX.sgn need i = -1 := fun i => by unfold KX.sgn; split <;> simp
    refine ⟨_, rfl, _, rfl, la, b, lvs, needV m need, rfl, SqL.of (e0 la _ hla), SqL.of (e0 b _ hB), ?_⟩
    refine for_it (walk_enZ (n := m) hln.symm (needV_len m need).symm) (fun i σ H' => Ex H H' ∧ LinesAt H' (.ref D) i (9 + m + m) (KX.A0 m row need) ∧ ∃ x3 x4 x5 x6 x7 x8 x9 x10 x11 x12 x13, σ = [some (.ref la), some (.ref b), some (.ref D), x3, x4, x5, x6, x7, x8, x9, x10, x11, x12, x13])
      ⟨e0, ⟨D, [], rfl, upd_same, rfl, fun i hi => by omega⟩, none, none, none, none, none, none, none, none, none, none, none, rfl⟩ (fun i σ H' _ h => ⟨SqL.of (h.1 la _ hla), SqL.of (h.1 b _ hB)⟩) (fun i x σ H1 H' hi hp y => ?_) (fun σ H1 hp => ?_)
    · obtain ⟨e, hacc, x3, x4, x5, x6, x7, x8, x9, x10, x11, x12, x13, rfl⟩ := hp
      obtain ⟨T1, T2, y1, y2, rfl, nT2, nT1, rfl, h1, h2⟩ := y
      obtain ⟨p, h3, hp⟩ := hlr i hi
      rw [h3] at h1
      obtain rfl := Option.some.inj h1
      rw [needV_at _ hi] at h2
      obtain rfl := Option.some.inj h2
      have eT : Ex H1 (upd (upd H1 T2 (.tup [.ref p, .int (need i)])) T1 (.tup [.int (i : Nat), .ref T2])) := (Evl.Ex.new nT2).trans (Evl.Ex.new nT1)
      have hT2 : (upd (upd H1 T2 (.tup [.ref p, .int (need i)])) T1 (.tup [.int (i : Nat), .ref T2])) T2 = some (.tup [.ref p, .int (need i)]) := Evl.Ex.new nT1 T2 _ upd_same
      have e1 := e.trans eT
      refine ⟨T1, _, rfl, SqT.of upd_same, rfl, _, _, rfl, _, _, rfl, T2, _, rfl, SqT.of hT2, rfl, _, _, rfl, _, _, rfl, rfl, rfl, ?_⟩
      generalize hH' : upd (upd H1 T2 (.tup [.ref p, .int (need i)])) T1 (.tup [.int (i : Nat), .ref T2]) = H2 at e1 eT
      have hacc2 := hacc.ex eT
      have hsg : Vl (tIf (tTest (tOp (rI0 fun i j => .bl (decide (j < i))) (tVar 5) (tC (.int 0)))) (tC (.int 1)) (tUn (rU fun i => .int (-i)) (tC (.int 1)))) [some (.ref la), some (.ref b), some (.ref D), some (.int (i : Nat)), some (.ref p), some (.int (need i)), x6, x7, x8, x9, x10, x11, x12, x13] H2 (.int (KX.sgn need i)) := by
        intro Qv q
        refine ⟨_, rfl, _, _, rfl, rfl, _, rfl, ?_⟩
        unfold KX.sgn at q
        by_cases c : 0 < need i
        · rw [if_pos c] at q
          exact ite_t (decide_eq_true c) q
        · rw [if_neg c] at q
          exact ite_f (decide_eq_false c) ⟨1, rfl, q⟩
      refine hsg _ ?_
      have iv : ∀ j : Nat, (if decide (V.int (0 + (j : Int)) = V.int ((i : Nat) : Int)) = true then (1 : Int) else 0) = if j = i then 1 else 0 := fun j => by
        by_cases c : j = i
        · rw [if_pos c, if_pos (decide_eq_true (by rw [c]; simp))]
        · rw [if_neg c, if_neg (by simp; omega)]
      refine ⟨_, rfl, la, lvs, rfl, .inl (SqL.of (e1 la _ hla)), ((m : Nat) : Int), by rw [hln], by omega, by omega, ?_⟩
      rw [Int.toNat_natCast]
      refine fun D2 nD2 => lc_val walk_range (fun j => .int (-KX.sgn need i * (if j = i then 1 else 0))) nD2 (by omega) (fun _ _ => trivial) (fun j x H0 H'' Qe hj e2 y kq => ?_) (fun H3 e3 hD2 => ?_)
      · obtain ⟨rfl, rfl⟩ := y
        refine ⟨rfl, _, rfl, _, rfl, _, rfl, _, rfl, rfl, .inr ⟨_, rfl, _, _, rfl, rfl, ?_, ?_⟩⟩
        · rcases sg1 i with z | z <;> rw [z] <;> exact .inl ⟨by decide, by decide⟩
        · have := kq H'' (Ex.refl _)
          rw [← iv j] at this
          exact this
      have e3' := e1.trans e3
      refine ⟨_, rfl, la, lvs, rfl, .inl (SqL.of (e3' la _ hla)), ((m : Nat) : Int), by rw [hln], by omega, by omega, ?_⟩
      rw [Int.toNat_natCast]
      refine fun D3 nD3 => lc_val walk_range (fun j => .int (need i * (if j = i then 1 else 0))) nD3 (by omega) (fun _ _ => trivial) (fun j x H0 H'' Qe hj e2 y kq => ?_) (fun H4 e4 hD3 => ?_)
      · obtain ⟨rfl, rfl⟩ := y
        refine ⟨rfl, _, rfl, _, rfl, _, rfl, rfl, .inr ⟨_, rfl, _, _, rfl, rfl, ?_, ?_⟩⟩
        · rcases hn i hi with z | z <;> rw [z] <;> exact .inl ⟨by decide, by decide⟩
        · have := kq H'' (Ex.refl _)
          rw [← iv j] at this
          exact this
      have e4' := e3'.trans e4
      have hacc4 := (hacc2.ex e3).ex e4
      obtain ⟨D', acc0, eD, hD, _, _⟩ := id hacc4
      obtain rfl : D = D' := V.ref.inj eD
      refine ⟨_, rfl, .inl ⟨rfl, _, SqL.of hD⟩, ?_⟩
      refine ⟨_, rfl, p, rfl, ⟨_, SqL.of (e4' p _ hp)⟩, fun D4 nD4 => lc_val (walk_list (xs := rowV 8 (row i))) (fun j => .int (KX.sgn need i * row i j)) nD4 (by rw [rowV_len]; decide) (fun H e => SqL.of (e p _ (e4' p _ hp))) (fun j x H0 H'' Qe hj e2 y kq => ?_) (fun H5 e5 hD4 => ?_)⟩
      · obtain ⟨rfl, hx⟩ := y
        rw [rowV_len] at hj
        rw [rowV_at _ (by omega)] at hx
        obtain rfl := Option.some.inj hx
        refine ⟨rfl, _, rfl, _, rfl, _, _, rfl, rfl, ?_, kq _ (Ex.refl _)⟩
        rcases sg1 i with z | z <;> rw [z] <;> exact .inl ⟨by decide, by decide⟩
      rw [rowV_len] at hD4
      have hA := A0_row (m := m) (row := row) (need := need) i
      refine ⟨D4, _, rfl, .inr (SqL.of hD4), _, rfl, D2, _, rfl, .inr (SqL.of (e5 D2 _ (e4 D2 _ hD2))), _, rfl, D3, _, rfl, .inr (SqL.of (e5 D3 _ hD3)), _, rfl, ?_, fun q nq => ?_⟩
      · have := congrArg List.length hA
        rw [rowV_len] at this
        refine Nat.le_trans (Nat.le_of_eq this) (by show 9 + m + m + 1 ≤ 2 ^ 24; omega)
      · have e6 : Ex H5 (upd H5 q (.lst (((List.range 9).map fun j => V.int (KX.sgn need i * row i j)) ++ (((List.range m).map fun j => V.int (-KX.sgn need i * (if j = i then 1 else 0))) ++ (((List.range m).map fun j => V.int (need i * (if j = i then 1 else 0))) ++ [V.int (need i)]))))) := Evl.Ex.new nq
        have hq : (upd H5 q (.lst (((List.range 9).map fun j => V.int (KX.sgn need i * row i j)) ++ (((List.range m).map fun j => V.int (-KX.sgn need i * (if j = i then 1 else 0))) ++ (((List.range m).map fun j => V.int (need i * (if j = i then 1 else 0))) ++ [V.int (need i)]))))) q = some (.lst (rowV (9 + m + m) (KX.A0 m row need i))) := by rw [upd_same, hA]
        obtain ⟨acc, hD7, hal, hnew⟩ := ((hacc4.ex e5).ex e6).push hq
        exact ⟨D, acc, _, rfl, rfl, hD7, Evl.sz_lt (by omega), Evl.Ex.mut ((e4'.trans e5).trans e6) nD, hnew, _, _, _, _, _, _, _, _, _, _, _, rfl⟩
    · obtain ⟨e, hacc, x3, x4, x5, x6, x7, x8, x9, x10, x11, x12, x13, rfl⟩ := hp
      have lk : (kinds.map V.str).length = 9 := rfl
      refine ⟨by show 1 ≤ sizeLine; decide, fun z0 nz0 => ?_⟩
      have e1 : Ex H1 (upd H1 z0 (.lst [.int 0])) := Evl.Ex.new nz0
      refine ⟨_, _, rfl, .inr (T.kinds _), _, rfl, la, lvs, rfl, .inl (SqL.of (e1 la _ (e la _ hla))), _, _, rfl, rfl, .inl ⟨by decide, by decide⟩, _, _, rfl, rfl, _, _, rfl, rfl, ?_⟩
      have ez : (((kinds.map V.str).length : Nat) : Int) + 2 * ((lvs.length : Nat) : Int) + 1 = ((9 + m + m + 1 : Nat) : Int) := by rw [hln, lk]; omega
      refine ⟨z0, _, _, rfl, rfl, upd_same, ?_, ?_, ?_, fun g0 ng0 => ?_⟩
      · rw [ez]; omega
      · rw [ez]; omega
      · rw [ez, Int.toNat_natCast]; show 1 * (9 + m + m + 1) ≤ 2 ^ 24; omega
      have e2 := e1.trans (Evl.Ex.new (o := .lst (List.replicate (((kinds.map V.str).length : Nat) + 2 * ((lvs.length : Nat) : Int) + 1 : Int).toNat [V.int 0]).flatten) ng0)
      have hg0 : (upd (upd H1 z0 (.lst [.int 0])) g0 (.lst (List.replicate (((kinds.map V.str).length : Nat) + 2 * ((lvs.length : Nat) : Int) + 1 : Int).toNat [V.int 0]).flatten)) g0 = some (.lst (rowV (9 + m + m) (fun j => KX.S 0 (fun i => need i * KX.A0 m row need i j)))) := by
        rw [upd_same, ez, Int.toNat_natCast, zero_row]
        rfl
      generalize (upd (upd H1 z0 (.lst [.int 0])) g0 (.lst (List.replicate (((kinds.map V.str).length : Nat) + 2 * ((lvs.length : Nat) : Int) + 1 : Int).toNat [V.int 0]).flatten)) = H2 at e2 hg0
      have e2' := e.trans e2
      have hacc2 := hacc.ex e2
      obtain ⟨D', vs, eD, hD, hvl, hvr⟩ := id hacc2
      obtain rfl : D = D' := V.ref.inj eD
      refine ⟨_, rfl, _, rfl, D, b, vs, needV m need, rfl, SqL.of hD, SqL.of (e2' b _ hB), ?_⟩
      refine for_it (walk_zip (n := m) (by rw [hvl, needV_len]; omega)) (fun i σ H' => Ex H2 H' ∧ ∃ g x3 x4 x5 x6 x7 x8 x10 x11 x12 x13, H' g = some (.lst (rowV (9 + m + m) (fun j => KX.S i (fun i => need i * KX.A0 m row need i j)))) ∧ σ = [some (.ref la), some (.ref b), some (.ref D), x3, x4, x5, x6, x7, x8, some (.ref g), x10, x11, x12, x13])
        ⟨Ex.refl _, g0, _, _, _, _, _, _, _, _, _, _, hg0, rfl⟩ (fun i σ H' _ h => ⟨SqL.of (h.1 D _ hD), SqL.of (h.1 b _ (e2' b _ hB))⟩) (fun i x σ H3 H' hi hp y => ?_) (fun σ H3 hp => ?_)
      · obtain ⟨e3, g, x3, x4, x5, x6, x7, x8, x10, x11, x12, x13, hg, rfl⟩ := hp
        obtain ⟨T1, y1, y2, rfl, nT, rfl, h1, h2⟩ := y
        replace h1 : vs[i]? = some y1 := h1
        replace h2 : (needV m need)[i]? = some y2 := h2
        obtain ⟨p, h3, hp⟩ := hvr i hi
        rw [h3] at h1
        obtain rfl := Option.some.inj h1
        rw [needV_at _ hi] at h2
        obtain rfl := Option.some.inj h2
        have eT : Ex H3 (upd H3 T1 (.tup [.ref p, .int (need i)])) := Evl.Ex.new nT
        refine ⟨T1, _, rfl, SqT.of upd_same, rfl, _, _, rfl, _, _, rfl, rfl, ?_⟩
        generalize (upd H3 T1 (.tup [.ref p, .int (need i)])) = H4 at eT
        have e4 := e3.trans eT
        refine ⟨_, rfl, _, rfl, g, p, _, _, rfl, SqL.of (eT g _ hg), SqL.of (e4 p _ hp), fun D2 nD2 => lc_val (walk_zip (n := 9 + m + m + 1) (by rw [rowV_len, rowV_len]; omega)) (fun j => .int (KX.S (i + 1) (fun i => need i * KX.A0 m row need i j))) nD2 (by omega)
          (fun H e => ⟨SqL.of (e g _ (eT g _ hg)), SqL.of (e p _ (e4 p _ hp))⟩) (fun j x H0 H'' Qe hj e2 y kq => ?_) (fun H5 e5 hD2 => ?_)⟩
        · obtain ⟨T2, z1, z2, rfl, nT2, rfl, q1, q2⟩ := y
          have hj' : j ≤ 9 + m + m := by omega
          replace q1 : (rowV (9 + m + m) (fun j => KX.S i (fun i => need i * KX.A0 m row need i j)))[j]? = some z1 := q1
          replace q2 : (rowV (9 + m + m) (KX.A0 m row need i))[j]? = some z2 := q2
          rw [rowV_at _ hj'] at q1 q2
          obtain rfl := Option.some.inj q1
          obtain rfl := Option.some.inj q2
          refine ⟨T2, _, rfl, SqT.of upd_same, rfl, _, _, rfl, _, _, rfl, rfl, rfl, _, rfl, _, rfl, _, rfl, _, _, rfl, rfl, ?_, _, _, rfl, rfl, kq _ (Evl.Ex.new nT2)⟩
          rcases hn i hi with z | z <;> rw [z] <;> exact .inl ⟨by decide, by decide⟩
        · exact ⟨e4.trans e5, D2, _, _, _, _, _, _, _, _, _, _, hD2, rfl⟩
      · obtain ⟨e3, g, x3, x4, x5, x6, x7, x8, x10, x11, x12, x13, hg, rfl⟩ := hp
        have e4 := e2'.trans e3
        refine ⟨_, rfl, D, vs, rfl, .inr (SqL.of (e3 D _ hD)), _, rfl, ?_, fun F nF => ?_⟩
        · show (vs ++ [V.ref g]).length ≤ 2 ^ 24
          rw [List.length_append, hvl]
          show m + 1 ≤ 2 ^ 24
          omega
        · have e5 : Ex H3 (upd H3 F (.lst (vs ++ [V.ref g]))) := Evl.Ex.new nF
          refine k F _ ?_ (e4.trans e5) ⟨F, vs ++ [.ref g], rfl, upd_same, by rw [List.length_append, hvl]; rfl, fun i hi => ?_⟩
          · cases hF : H F with
            | none => rfl
            | some o => rw [e4 F _ hF] at nF; cases nF
          · by_cases c : i < m
            · obtain ⟨p, h3, hp⟩ := hvr i c
              refine ⟨p, by rw [List.getElem?_append_left (by omega)]; exact h3, ?_⟩
              rw [lin_lt c]
              exact e5 _ _ (e3 _ _ hp)
            · have : i = m := by omega
              subst this
              refine ⟨g, by rw [List.getElem?_append_right (by omega), hvl, Nat.sub_self]; rfl, ?_⟩
              rw [lin_m, e5 _ _ hg]
              refine congrArg (fun l => some (HO.lst l)) (rowV_congr fun j _ => ?_)
              exact (KX.s0_goal hn j).symm
end
end HX
end

section
set_option Elab.async false
set_option linter.all false
set_option maxRecDepth 100000
set_option maxHeartbeats 4000000
/-! The solver: solved_rows. -/
namespace HX
open PySem PySem.Spec PyProof.Rows L2
open Evl (Ex)
/-! ### sizes -/
theorem S_abs {n : Nat} {f : Nat → Int} {B : Nat} (h : ∀ i, i < n → (f i).natAbs ≤ B) : (KX.S n f).natAbs ≤ n * B := by
  induction n with
  | zero => simp [KX.S]
  | succ n IH =>
    have a := IH fun i hi => h i (by omega)
    have b := h n (by omega)
    have e : KX.S (n + 1) f = KX.S n f + f n := rfl
    rw [e, Nat.succ_mul]
    omega
theorem pow7 : ∀ m, m < 8 → (m * 2) ^ m ≤ 105413504 := by decide +kernel
section
variable {m : Nat} {row : Nat → Nat → Int} {need : Nat → Int} {st : KX.Stt}
theorem good_small (Z : KX.Good m (KX.A0 m row need) st) (hm : m ≤ 7) (hn : ∀ i, i < m → need i = 0 ∨ need i = 1) (hr : ∀ i j, i < m → j < 9 → (row i j).natAbs ≤ 2) :
    Small m (9 + m + m) (lin m st) ∧ st.u ≠ 0 ∧ st.u.natAbs < 1073741824 ∧ 0 < st.u := by
  have hA := fun q j hq hj => KX.A0_le (m := m) (row := row) (need := need) (E := 2) (by decide) hn hr q j hq hj
  have b := pow7 m (by omega)
  have l : ∀ k j, k < m → j ≤ 9 + m + m → (st.L k j).natAbs ≤ 105413504 := fun k j hk hj => Nat.le_trans (Z.tab.le hA hk hj) b
  refine ⟨fun i j hi hj => ?_, by have := Z.tab.pos; omega, Nat.lt_of_le_of_lt (Nat.le_trans (Z.tab.ule hA) b) (by decide), Z.tab.pos⟩
  by_cases c : i < m
  · rw [lin_lt c]
    exact Nat.lt_of_le_of_lt (l i j c hj) (by decide)
  · have : i = m := by omega
    subst this
    rw [lin_m]
    have := S_abs (n := i) (f := fun k => if 9 + i ≤ st.o k then st.L k j else 0) (B := 105413504) fun k hk => by
      show (if 9 + i ≤ st.o k then st.L k j else 0).natAbs ≤ _
      by_cases c : 9 + i ≤ st.o k
      · rw [if_pos c]; exact l k j hk hj
      · rw [if_neg c]; decide
    have e : st.g i j = KX.S i (fun k => if 9 + i ≤ st.o k then st.L k j else 0) := rfl
    rw [e]
    omega
end
/-- a turned state's lines -/
theorem trn_next {m : Nat} {A : Nat → Nat → Int} {st : KX.Stt} (Z : KX.Good m A st) {r c : Nat} (hr : r < m) (hc : c < 9 + m) (hp : 0 < st.L r c) (i j : Nat) (hi : i < m + 1) (hj : j ≤ 9 + m + m) : trn (lin m st) r c st.u i j = lin m (st.next r c) i j := by
  by_cases c1 : i < m
  · rw [lin_lt c1]
    unfold trn
    rw [lin_lt hr, lin_lt c1]
    rfl
  · have : i = m := by omega
    subst this
    rw [lin_m]
    unfold trn
    rw [if_neg (by omega), lin_lt hr, lin_m]
    exact Z.goal hr hc hp hj
theorem ownV_upd {m r c : Nat} (o : Nat → Nat) : (ownV m o).set r (.int (c : Nat)) = ownV m (KX.upd o r c) := by
  refine List.ext_getElem? fun i => ?_
  by_cases hi : i < m
  · rw [ownV_at _ hi, List.getElem?_set, ownV_len]
    by_cases e : r = i
    · subst e
      rw [if_pos rfl, if_pos hi]
      unfold KX.upd
      rw [if_pos rfl]
    · rw [if_neg e, ownV_at _ hi]
      unfold KX.upd
      rw [if_neg (fun z => e z.symm)]
  · rw [List.getElem?_eq_none (by simp [ownV_len]; omega), List.getElem?_eq_none (by simp [ownV_len]; omega)]
theorem LinesAt.but {H : Hp} {v : V} {n R : Nat} {F : Nat → Nat → Int} {ow : Addr} {xs : List V} {o : HO} (h : LinesAt H v n R F) (hl : H ow = some (.lst xs)) (h1 : xs.length ≠ n) (h2 : xs.length ≠ R + 1) : LinesAt (upd H ow o) v n R F := by
  obtain ⟨a, vs, rfl, g1, g2, g3⟩ := h
  refine ⟨a, vs, rfl, ?_, g2, fun i hi => let ⟨p, h4, h5⟩ := g3 i hi; ⟨p, h4, ?_⟩⟩
  · rw [upd_ne (fun z => ?_)]
    · exact g1
    · rw [z, hl] at g1
      injection g1 with g1
      injection g1 with g1
      exact h1 (by rw [g1]; exact g2)
  · rw [upd_ne (fun z => ?_)]
    · exact h5
    · rw [z, hl] at h5
      injection h5 with h5
      injection h5 with h5
      exact h2 (by rw [h5, rowV_len])
/-- a kind's place -/
def kIx (k : Str) : Nat := kinds.idxOf k
theorem kIx_at : ∀ i, i < 9 → kIx (kAt i) = i := by decide +kernel
theorem told_val (o : Nat → Nat) (f : Nat → V) (j : Nat) : ∀ l : List Nat, valV (l.map fun i => ((Sum.inl ((o i : Nat) : Int) : Key), f i)) (Sum.inl ((j : Nat) : Int) : Key) = (l.find? fun i => o i == j).map f
  | [] => rfl
  | i :: l => by
    rw [List.map_cons, List.find?_cons]
    by_cases c : o i = j
    · subst c
      rw [valV_pos rfl]
      simp
    · rw [valV_neg (fun z => c (by have := Sum.inl.inj z; omega)), told_val o f j l]
      have : (o i == j) = false := by simpa using c
      rw [this]
theorem told_nums {m : Nat} {row : Nat → Nat → Int} {need : Nat → Int} {st : KX.Stt} (Z : KX.Good m (KX.A0 m row need) st) (j : Nat) :
    (valV ((List.range m).map fun i => ((Sum.inl ((st.o i : Nat) : Int) : Key), V.int (st.L i (9 + m + m)))) (Sum.inl ((j : Nat) : Int) : Key)).getD (.int 0) = .int (st.nums m j) := by
  rw [told_val st.o (fun i => V.int (st.L i (9 + m + m))) j]
  cases h : (List.range m).find? (fun i => st.o i == j) with
  | some i =>
    have h1 : st.o i = j := by simpa using List.find?_some h
    have h2 : i < m := List.mem_range.mp (List.mem_of_find?_eq_some h)
    rw [← h1, Z.nums_own h2]
    rfl
  | none =>
    rw [KX.Good.nums_no fun i hi z => by
      have := List.find?_eq_none.mp h i (List.mem_range.mpr hi)
      exact this (by simpa using z)]
    rfl
/-- what solved_rows gives -/
def SolAt (H : Hp) (v : V) (m : Nat) (row : Nat → Nat → Int) (need : Nat → Int) : Prop := ∃ (t : Addr) (x y : V) (st : KX.Stt), v = .ref t ∧ H t = some (.tup [x, y]) ∧ KX.Good m (KX.A0 m row need) st ∧ KX.enter (st.g m) (9 + m) = none ∧
  ((0 < st.g m (9 + m + m) ∧ x = .non ∧ ∃ (p : Addr) (ns : List Int), y = .ref p ∧ H p = some (.lst (ns.map V.int)) ∧ ns.length = m) ∨ (st.g m (9 + m + m) ≤ 0 ∧ NumAt H x (fun k => st.nums m (kIx k)) ∧ y = .non))
section
variable {P : Program} {w : World} {K : PySem.W.Frag} {mg : Str → Option Value} {base : Heap}
def spSolved : Sp := fun vs H Q _ => ∃ (v : V) (b : Addr) (m : Nat) (row : Nat → Nat → Int) (need : Nat → Int), vs = [v, .ref b] ∧ LinesAt H v m 8 row ∧ H b = some (.lst (needV m need)) ∧ m ≤ 7 ∧ (∀ i, i < m → need i = 0 ∨ need i = 1) ∧ (∀ i j, i < m → j < 9 → (row i j).natAbs ≤ 2) ∧
  ∀ v' H', Ex H H' → SolAt H' v' m row need → Q v' H'
abbrev nSolved : List Str := ["rows", "needs", "lines", "many", "owners", "unit", "column", "at", "goal", "told", "index", "need", "k", "owner", "kind"]
theorem scSolved : FnScope nSolved ["rows", "needs"] (defScope sSolved) := ⟨rfl, rfl, rfl, by decide +kernel, rfl, by decide +kernel, by decide +kernel⟩
theorem ok_solved (T : Tx w K mg) : FnR P w K mg base CX0 2 (He.ga K "solved_rows") spSolved := by
  have GF := ok_first (P := P) (base := base) T
  have GE := ok_enter (P := P) (base := base) T
  have GL := ok_leave (P := P) (base := base) T
  have GT := ok_turned (P := P) (base := base) T
  refine fnr (T.fnG1 11 dSolved rfl) rfl scSolved (fun _ _ _ _ _ _ us hl => match us, hl with | [_, _], _ => rfl) (fun vs H Q E h => ?_) (fun cdv A outer s H vs Q E hr h => ?_)
  · obtain ⟨_, _, _, _, _, rfl, _⟩ := h
    rfl
  · obtain ⟨v, b, m, row, need, rfl, hL, hB, hm, hn, hrow, k⟩ := h
    have nd := scSolved.nd
    have hu := hu_of hr
    refine ⟨_, pss_cons (ps_asg (pe_cR GF hr (T.g "first_lines") (T.k "first_lines") pass0 (pa_cons (pv 0) (pa_cons (pv 1) pa_nil))) (pg_name (i := 2) nd rfl (Or.inr rfl)))
      (pss_cons (ps_asg (pe_op op_add (pe_callB call_len_seq (by rfl) (T.f "len") PySem.boot_len (pa_cons (pe_glob (v := .ref (He.ga K "KINDS")) rfl (T.g "KINDS") rfl) pa_nil)) (pe_callB call_len_seq (by rfl) (T.f "len") PySem.boot_len (pa_cons (pv 0) pa_nil))) (pg_name (i := 3) nd rfl (Or.inr rfl)))
      (pss_cons (ps_setLc (i := 4) (own := [("index", 10), ("need", 11)]) rfl nd rfl rfl (sw_true rfl rfl rfl (by decide +kernel)) (pi_enum rfl (T.f "enumerate") (pa_cons (pv 1) pa_nil)) (blkOk_by (own := [("index", 10), ("need", 11)]) (N := nSolved) (sc := defScope sSolved) (by decide +kernel))
          (fun _ _ _ _ _ => pg_tupK (K := K) rfl (n := 2) rfl (pgs_cons (pg_name (i := 10) nd rfl (Or.inl rfl)) (pgs_cons (pg_name (i := 11) nd rfl (Or.inl rfl)) pgs_nil))) (fun _ _ _ _ _ => pts_nil)
          (fun _ _ _ _ _ => pe_ifExp (pt_cmpR op_gt (pv 11) pe_int (nomark _)) (pe_op op_add (pv 3) (pv 10)) (pe_op op_add (pe_callB (r := Evl.rLenS K) call_len_seq (by rfl) (T.f "len") PySem.boot_len (pa_cons (pe_glob (v := .ref (He.ga K "KINDS")) rfl (T.g "KINDS") rfl) pa_nil)) (pv 10))))
      (pss_cons (ps_asg pe_int (pg_name (i := 5) nd rfl (Or.inl rfl)))
      (pss_cons (ps_asg (pe_cR GE hr (T.g "entering") (T.k "entering") pass0 (pa_cons (pv 2) (pa_cons (pv 3) pa_nil))) (pg_name (i := 6) nd rfl (Or.inl rfl)))
      (pss_cons (ps_while PassesOwn.never (pt_cmpR op_notN (pv 6) pe_non (nomark _))
        (pss_cons (ps_asg (pe_cR GL hr (T.g "leaving") (T.k "leaving") pass0 (pa_cons (pv 2) (pa_cons (pv 4) (pa_cons (pv 6) pa_nil)))) (pg_name (i := 7) nd rfl (Or.inl rfl)))
        (pss_cons (ps_asg (pe_cR GT hr (T.g "turned_lines") (T.k "turned_lines") pass0 (pa_cons (pv 2) (pa_cons (pv 7) (pa_cons (pv 6) (pa_cons (pv 5) pa_nil))))) (pg_name (i := 2) nd rfl (Or.inr rfl)))
        (pss_cons (ps_asg (pe_ix ix_list (pe_ix ix_list (pv 2) (pv 7) (fun _ _ => rfl)) (pv 6) (fun _ _ => rfl)) (pg_name (i := 5) nd rfl (Or.inl rfl)))
        (pss_cons (ps_asg (pv 6) (pg_sub (pv 4) (pv 7) set_list))
        (pss_one (ps_asg (pe_cR GE hr (T.g "entering") (T.k "entering") pass0 (pa_cons (pv 2) (pa_cons (pv 3) pa_nil))) (pg_name (i := 6) nd rfl (Or.inl rfl)))))))))
      (pss_cons (ps_asg (pe_ix ix_list (pv 2) (pe_un un_neg pe_int) (fun _ _ => rfl)) (pg_name (i := 8) nd rfl (Or.inr rfl)))
      (pss_cons (ps_if (pt_cmpR op_gt (pe_ix ix_list (pv 8) (pe_un un_neg pe_int) (fun _ _ => rfl)) pe_int (nomark _))
          (pss_one (ps_ret (pe_tup (pa_cons pe_non (pa_cons (pe_lc (own := [("k", 12), ("need", 11)]) rfl nd (pi_enum rfl (T.f "enumerate") (pa_cons (pv 1) pa_nil)) (blkOk_by (own := [("k", 12), ("need", 11)]) (N := nSolved) (sc := defScope sSolved) (by decide +kernel))
            (fun _ _ _ _ _ => pg_tupK (K := K) rfl (n := 2) rfl (pgs_cons (pg_name (i := 12) nd rfl (Or.inl rfl)) (pgs_cons (pg_name (i := 11) nd rfl (Or.inl rfl)) pgs_nil))) (fun _ _ _ _ _ => pts_nil)
            (fun _ _ _ _ _ => pe_ifExp (pt_cmpR op_gt (pv 11) pe_int (nomark _)) (pe_ix (r := rIxL K) ix_list (pv 8) (pe_op op_add (pv 3) (pv 12)) (fun _ _ => rfl))
              (pe_un un_neg (pe_ix (r := rIxL K) ix_list (pv 8) (pe_op op_add (pe_callB (r := Evl.rLenS K) call_len_seq (by rfl) (T.f "len") PySem.boot_len (pa_cons (pe_glob (v := .ref (He.ga K "KINDS")) rfl (T.g "KINDS") rfl) pa_nil)) (pv 12)) (fun _ _ => rfl))))) pa_nil))))) pss_nil)
      (pss_cons (ps_asg (pe_dc (own := [("at", 7), ("owner", 13)]) rfl nd (pi_enum rfl (T.f "enumerate") (pa_cons (pv 4) pa_nil)) (blkOk_by (own := [("at", 7), ("owner", 13)]) (N := nSolved) (sc := defScope sSolved) (by decide +kernel))
          (fun _ _ _ _ _ => pg_tupK (K := K) rfl (n := 2) rfl (pgs_cons (pg_name (i := 7) nd rfl (Or.inl rfl)) (pgs_cons (pg_name (i := 13) nd rfl (Or.inl rfl)) pgs_nil))) (fun _ _ _ _ _ => pts_nil)
          (fun _ _ _ _ _ => pv 13) (fun _ _ _ _ _ => pe_ix (r := rIxL K) ix_list (pe_ix (r := rIxL K) ix_list (pv 2) (pv 7) (fun _ _ => rfl)) (pe_un un_neg pe_int) (fun _ _ => rfl))) (pg_name (i := 9) nd rfl (Or.inr rfl)))
      (pss_one (ps_ret (pe_tup (pa_cons (pe_dc (own := [("index", 10), ("kind", 14)]) rfl nd (pi_enT rfl (T.f "enumerate") (pa_cons (pe_glob (v := .ref (He.ga K "KINDS")) rfl (T.g "KINDS") rfl) pa_nil)) (blkOk_by (own := [("index", 10), ("kind", 14)]) (N := nSolved) (sc := defScope sSolved) (by decide +kernel))
          (fun _ _ _ _ _ => pg_tupK (K := K) rfl (n := 2) rfl (pgs_cons (pg_name (i := 10) nd rfl (Or.inl rfl)) (pgs_cons (pg_name (i := 14) nd rfl (Or.inl rfl)) pgs_nil))) (fun _ _ _ _ _ => pts_nil)
          (fun _ _ _ _ _ => pv 14) (fun _ _ _ _ _ => pe_dget2 hu (pv 9) (pv 10) pe_int ⟨rfl, rfl, rfl, rfl⟩)) (pa_cons pe_non pa_nil))))))))))))), ?_⟩
    obtain ⟨la, lvs, ev, hla, hln, hlr⟩ := id hL
    subst ev
    have lk : (kinds.map V.str).length = 9 := rfl
    have hsub : ∀ (xs : List V) (x : V), xs.set 0 x = xs.set 0 x := fun _ _ => rfl
    refine ⟨_, rfl, _, rfl, .ref la, b, m, row, need, rfl, hL, hB, by omega, hn, fun D1 H1 nD1 e1 hL1 => ?_⟩
    have hmany : Vl (tOp (rI0 fun i j => .int (i + j)) (tCB (Evl.rLenS K) (tCons (tC (.ref (He.ga K "KINDS"))) tNil)) (tCB (Evl.rLenS K) (tCons (tVar 0) tNil))) [some (.ref la), some (.ref b), some (.ref D1), none, none, none, none, none, none, none, none, none, none, none, none] H1 (.int ((9 + m : Nat) : Int)) := by
      intro Qv q
      refine ⟨_, _, rfl, .inr (T.kinds _), _, rfl, la, lvs, rfl, .inl (SqL.of (e1 la _ hla)), _, _, rfl, rfl, ?_⟩
      have : (((kinds.map V.str).length : Nat) : Int) + ((lvs.length : Nat) : Int) = ((9 + m : Nat) : Int) := by rw [hln, lk]; omega
      show Qv (.int ((((kinds.map V.str).length : Nat) : Int) + ((lvs.length : Nat) : Int))) H1
      rw [this]
      exact q
    refine hmany _ ?_
    refine ⟨_, rfl, b, needV m need, rfl, SqL.of (e1 b _ hB), fun ow now => lc_val (walk_enum (xs := needV m need)) (fun i => .int ((KX.o0 m need i : Nat) : Int)) now (by rw [needV_len]; omega) (fun H e => SqL.of (e b _ (e1 b _ hB))) (fun i x H0 H' Qe hi e2 y kq => ?_) (fun H2 e2 hO => ?_)⟩
    · rw [needV_len] at hi
      obtain ⟨T1, y1, y2, rfl, nT, rfl, h1, h2⟩ := y
      obtain rfl := Option.some.inj h1
      replace h2 : (needV m need)[i]? = some y2 := h2
      rw [needV_at _ hi] at h2
      obtain rfl := Option.some.inj h2
      refine ⟨T1, _, rfl, SqT.of upd_same, rfl, _, _, rfl, _, _, rfl, rfl, rfl, _, rfl, _, _, rfl, rfl, _, rfl, ?_⟩
      have kq' := kq _ (Evl.Ex.new (o := .tup [.int (i : Nat), .int (need i)]) nT)
      unfold KX.o0 at kq'
      by_cases c : 0 < need i
      · rw [if_pos c] at kq'
        refine ite_t (decide_eq_true c) ⟨_, rfl, _, rfl, _, _, rfl, rfl, ?_⟩
        have : ((9 + m : Nat) : Int) + ((i : Nat) : Int) = ((9 + m + i : Nat) : Int) := by omega
        show Qe (.int (((9 + m : Nat) : Int) + ((i : Nat) : Int))) _
        rw [this]
        exact kq'
      · rw [if_neg c] at kq'
        refine ite_f (decide_eq_false c) ⟨_, _, rfl, .inr (T.kinds _), _, rfl, _, _, rfl, rfl, ?_⟩
        have : (((kinds.map V.str).length : Nat) : Int) + ((i : Nat) : Int) = ((9 + i : Nat) : Int) := by rw [lk]; omega
        show Qe (.int ((((kinds.map V.str).length : Nat) : Int) + ((i : Nat) : Int))) _
        rw [this]
        exact kq'
    rw [needV_len] at hO
    have hO : H2 ow = some (.lst (ownV m (KX.s0 m row need).o)) := hO
    have e12 := e1.trans e2
    have now0 : H ow = none := by
      cases hF : H ow with
      | none => rfl
      | some o => rw [e1 ow _ hF] at now; cases now
    have Z0 := KX.s0_good (m := m) (row := row) (need := need) hn
    obtain ⟨n0, hn0⟩ := Z0.ends (E := 2) fun q j hq hj => KX.A0_le (by decide) hn hrow q j hq hj
    refine ⟨_, rfl, _, rfl, .ref D1, m, 9 + m + m, 9 + m, lin m (KX.s0 m row need), rfl, hL1.ex e2, by omega, by omega, ?_⟩
    rw [lin_m]
    refine ⟨fun n σ H' => ∃ (st : KX.Stt) (D : Addr), KX.Good m (KX.A0 m row need) st ∧ KX.Ends m n st ∧ Ex H H' ∧ LinesAt H' (.ref D) (m + 1) (9 + m + m) (lin m st) ∧ H' ow = some (.lst (ownV m st.o)) ∧
      ∃ x7 x8 x9 x10 x11 x12 x13 x14, σ = [some (.ref la), some (.ref b), some (.ref D), some (.int ((9 + m : Nat) : Int)), some (.ref ow), some (.int st.u), some (optV (KX.enter (st.g m) (9 + m))), x7, x8, x9, x10, x11, x12, x13, x14],
      ⟨n0, _, D1, Z0, hn0, e12, hL1.ex e2, hO, _, _, _, _, _, _, _, _, rfl⟩, fun n σ H3 hw => ?_⟩
    obtain ⟨st, D, Z, hE, e3, hLn, hOw, x7, x8, x9, x10, x11, x12, x13, x14, rfl⟩ := hw
    obtain ⟨hS, hu0, hu1, hup⟩ := good_small Z hm hn hrow
    cases he : KX.enter (st.g m) (9 + m) with
    | some c =>
      refine ⟨_, rfl, rfl, _, rfl, ite_t rfl ?_⟩
      obtain ⟨n', rfl, r, hlv, hE'⟩ : ∃ n', n = n' + 1 ∧ ∃ r, KX.leave st (9 + m + m) c m = some r ∧ KX.Ends m n' (st.next r c) := by
        cases n with
        | zero =>
          have : KX.enter (st.g m) (9 + m) = none := hE
          rw [this] at he; cases he
        | succ n =>
          rcases hE with z | ⟨c', r, z1, z2, z3⟩
          · rw [z] at he; cases he
          · rw [he] at z1
            obtain rfl := Option.some.inj z1
            exact ⟨n, rfl, r, z2, z3⟩
      obtain ⟨r', hr', hb⟩ := Z.line he
      rw [hlv] at hr'
      obtain rfl := Option.some.inj hr'
      have hc := (KX.enter_some he).1
      have hrm : r < m := hb.1
      have hpp : 0 < st.L r c := hb.2.1
      refine ⟨fun σ' H' => ∃ (st : KX.Stt) (D : Addr), KX.Good m (KX.A0 m row need) st ∧ KX.Ends m n' st ∧ Ex H H' ∧ LinesAt H' (.ref D) (m + 1) (9 + m + m) (lin m st) ∧ H' ow = some (.lst (ownV m st.o)) ∧
        ∃ x7 x8 x9 x10 x11 x12 x13 x14, σ' = [some (.ref la), some (.ref b), some (.ref D), some (.int ((9 + m : Nat) : Int)), some (.ref ow), some (.int st.u), some (optV (KX.enter (st.g m) (9 + m))), x7, x8, x9, x10, x11, x12, x13, x14], fun σ' H' h => ⟨n', Nat.lt_succ_self _, h⟩, ?_⟩
      refine ⟨_, rfl, _, rfl, _, rfl, .ref D, ow, m, 9 + m + m, c, st, rfl, hLn, hOw, by omega, by omega, hS, fun H4 e4 => ?_⟩
      rw [hlv]
      refine ⟨_, rfl, _, rfl, _, rfl, _, rfl, .ref D, m, 9 + m + m, r, c, st.u, lin m st, rfl, hLn.ex e4, by omega, by omega, by omega, by omega, hS, hu0, hu1, fun D3 H5 nD3 e5 hL5 => ?_⟩
      have hL5' := hL5.congr (fun i j hi hj => trn_next Z hrm hc hpp i j hi hj)
      have Z' := Z.next hc hb
      have hun : Vl (tOp (rIxL K) (tOp (rIxL K) (tVar 2) (tVar 7)) (tVar 6)) [some (.ref la), some (.ref b), some (.ref D3), some (.int ((9 + m : Nat) : Int)), some (.ref ow), some (.int st.u), some (.int (c : Nat)), some (.int (r : Nat)), x8, x9, x10, x11, x12, x13, x14] H5 (.int (lin m (st.next r c) r c)) :=
        val_entry (val_v rfl) (val_v rfl) (val_v rfl) hL5' (by omega) (.inl rfl) (by omega) (.inl rfl)
      refine hun _ ?_
      have hu' : lin m (st.next r c) r c = (st.next r c).u := by
        rw [lin_lt hrm]
        show (if r = r then st.L r c else _) = st.L r c
        rw [if_pos rfl]
      rw [hu']
      have hO5 := e5 ow _ (e4 ow _ hOw)
      have hl5 : (ownV m st.o).length = m := ownV_len _ _
      refine ⟨_, rfl, _, rfl, _, rfl, ow, _, _, r, rfl, rfl, hO5, Evl.ixN_nat (by rw [hl5]; exact hrm), ?_⟩
      have hL6 := LinesAt.but (o := .lst ((ownV m st.o).set r (.int (c : Nat)))) hL5' hO5 (by rw [hl5]; omega) (by rw [hl5]; omega)
      have hO6 : (upd H5 ow (.lst ((ownV m st.o).set r (.int (c : Nat))))) ow = some (.lst (ownV m (st.next r c).o)) := by
        rw [upd_same, ownV_upd]
        rfl
      have e6 : Ex H (upd H5 ow (.lst ((ownV m st.o).set r (.int (c : Nat))))) := Evl.Ex.mut ((e3.trans e4).trans e5) now0
      refine ⟨_, rfl, _, rfl, .ref D3, m, 9 + m + m, 9 + m, lin m (st.next r c), rfl, hL6, by omega, by omega, ?_⟩
      rw [lin_m]
      exact ⟨st.next r c, D3, Z', hE', e6, hL6, hO6, _, _, _, _, _, _, _, _, rfl⟩
    | none =>
      refine ⟨_, rfl, rfl, _, rfl, ite_f rfl ?_⟩
      obtain ⟨p, hrow', hp⟩ := val_row (K := K) (tl := tVar 2) (ti := tUn (rU fun i => .int (-i)) (tC (.int 1))) (σ := [some (.ref la), some (.ref b), some (.ref D), some (.int ((9 + m : Nat) : Int)), some (.ref ow), some (.int st.u), some (optV none), x7, x8, x9, x10, x11, x12, x13, x14]) (val_v rfl) val_m1 hLn (Nat.lt_succ_self m) (.inr ⟨rfl, rfl⟩)
      refine hrow' _ ?_
      rw [lin_m] at hp
      refine ⟨_, rfl, 1, rfl, p, _, _, _, rfl, rfl, SqL.of hp, rowV_last _, _, _, rfl, rfl, _, rfl, ?_⟩
      by_cases c : 0 < st.g m (9 + m + m)
      · refine ite_t (decide_eq_true c) ?_
        refine ⟨_, rfl, b, needV m need, rfl, SqL.of (e3 b _ hB), fun D5 nD5 => lc_val (walk_enum (xs := needV m need)) (fun i => .int (if 0 < need i then st.g m (9 + m + i) else -st.g m (9 + i))) nD5 (by rw [needV_len]; omega) (fun H e => SqL.of (e b _ (e3 b _ hB))) (fun i x H0 H' Qe hi e2 y kq => ?_) (fun H4 e4 hD5 => ?_)⟩
        · rw [needV_len] at hi
          obtain ⟨T1, y1, y2, rfl, nT, rfl, h1, h2⟩ := y
          obtain rfl := Option.some.inj h1
          replace h2 : (needV m need)[i]? = some y2 := h2
          rw [needV_at _ hi] at h2
          obtain rfl := Option.some.inj h2
          have eT := e2.trans (Evl.Ex.new (o := .tup [.int (i : Nat), .int (need i)]) nT)
          refine ⟨T1, _, rfl, SqT.of upd_same, rfl, _, _, rfl, _, _, rfl, rfl, rfl, _, rfl, _, _, rfl, rfl, _, rfl, ?_⟩
          have kq' := kq _ (Evl.Ex.new (o := .tup [.int (i : Nat), .int (need i)]) nT)
          by_cases c : 0 < need i
          · rw [if_pos c] at kq'
            refine ite_t (decide_eq_true c) ⟨_, rfl, _, rfl, _, rfl, _, _, rfl, rfl, p, _, _, _, rfl, rfl, SqL.of (eT p _ hp), ?_, kq'⟩
            rw [show ((9 + m : Nat) : Int) + ((i : Nat) : Int) = ((9 + m + i : Nat) : Int) by omega]
            exact rowV_nat _ (by omega)
          · rw [if_neg c] at kq'
            refine ite_f (decide_eq_false c) ⟨_, rfl, _, _, rfl, .inr (T.kinds _), _, rfl, _, _, rfl, rfl, p, _, _, .int (st.g m (9 + i)), rfl, rfl, SqL.of (eT p _ hp), ?_, _, rfl, kq'⟩
            rw [show (((kinds.map V.str).length : Nat) : Int) + ((i : Nat) : Int) = ((9 + i : Nat) : Int) by rw [lk]; omega]
            exact rowV_nat _ (by omega)
        · rw [needV_len] at hD5
          refine ⟨by show 2 ≤ sizeLine; decide, fun t nt => ?_⟩
          have e5 : Ex H4 (upd H4 t (.tup [.non, .ref D5])) := Evl.Ex.new nt
          refine k _ _ ((e3.trans e4).trans e5) ⟨t, .non, .ref D5, st, rfl, upd_same, Z, he, .inl ⟨c, rfl, D5, (List.range m).map fun i => if 0 < need i then st.g m (9 + m + i) else -st.g m (9 + i), rfl, ?_, by simp⟩⟩
          rw [e5 D5 _ hD5, List.map_map]
          rfl
      · refine ite_f (decide_eq_false c) ?_
        refine ⟨_, rfl, ow, ownV m st.o, rfl, SqL.of hOw, fun D5 nD5 => dc_val (walk_enum (xs := ownV m st.o)) (fun i => Sum.inl ((st.o i : Nat) : Int)) (fun i => .int (st.L i (9 + m + m))) nD5 (by rw [ownV_len]; omega) (fun i j hi hj e => ?_) (fun H e => SqL.of (e ow _ hOw)) (fun i x H0 H' Qe hi e2 y kq => ?_) (fun H4 e4 hD5 => ?_)⟩
        · rw [ownV_len] at hi hj
          exact Z.tab.inj hj hi (by have := Sum.inl.inj e; omega)
        · rw [ownV_len] at hi
          obtain ⟨T1, y1, y2, rfl, nT, rfl, h1, h2⟩ := y
          obtain rfl := Option.some.inj h1
          replace h2 : (ownV m st.o)[i]? = some y2 := h2
          rw [ownV_at _ hi] at h2
          obtain rfl := Option.some.inj h2
          have eT := e2.trans (Evl.Ex.new (o := .tup [.int (i : Nat), .int ((st.o i : Nat) : Int)]) nT)
          refine ⟨T1, _, rfl, SqT.of upd_same, rfl, _, _, rfl, _, _, rfl, rfl, rfl, _, rfl, ?_⟩
          obtain ⟨a, vs, ea, g1, g2, g3⟩ := hLn
          obtain rfl := V.ref.inj ea
          obtain ⟨q, g4, g5⟩ := g3 i (by omega)
          rw [lin_lt hi] at g5
          exact ⟨_, rfl, _, rfl, D, vs, _, _, rfl, rfl, SqL.of (eT D _ g1), atI_nat g4, 1, rfl, q, _, _, _, rfl, rfl, SqL.of (eT q _ g5), rowV_last _, kq _ (Evl.Ex.new nT)⟩
        · rw [ownV_len] at hD5
          have lk' : (kinds.map V.str).length = 9 := rfl
          refine ⟨_, _, rfl, T.kinds _, fun D6 nD6 => dc_val (walk_enT (xs := kinds.map V.str)) (fun i => Sum.inr (kAt i)) (fun i => .int (st.nums m i)) nD6 (by decide) (fun i j hi hj e => kAt_inj i j hi hj (Sum.inr.inj e)) (fun H e => T.kinds H) (fun i x H0 H' Qe hi e yy kq => ?_) (fun H5 e5 hD6 => ?_)⟩
          · obtain ⟨T1, y1, y2, rfl, nT, rfl, h1, h2⟩ := yy
            obtain rfl := Option.some.inj h1
            obtain ⟨hi9, rfl, hm9⟩ := kAt_some h2
            have eT := e.trans (Evl.Ex.new (o := .tup [.int (i : Nat), .str (kAt i)]) nT)
            refine ⟨T1, _, rfl, SqT.of upd_same, rfl, _, _, rfl, _, _, rfl, rfl, rfl, _, rfl, _, rfl, D5, rfl, .inl ⟨_, .inl (eT D5 _ hD5)⟩, _, rfl, _, DGet.k (k := Sum.inl ((i : Nat) : Int)) (eT D5 _ hD5), ?_⟩
            rw [told_nums Z i]
            exact kq _ (Evl.Ex.new nT)
          · refine ⟨by show 2 ≤ sizeLine; decide, fun t nt => ?_⟩
            have e6 : Ex H5 (upd H5 t (.tup [.ref D6, .non])) := Evl.Ex.new nt
            refine k _ _ (((e3.trans e4).trans e5).trans e6) ⟨t, .ref D6, .non, st, rfl, upd_same, Z, he, .inr ⟨by omega, ⟨D6, rfl, ?_⟩, rfl⟩⟩
            rw [e6 D6 _ hD6]
            have : ((List.range 9).map fun i => ((Sum.inr (kAt i) : Key), V.int (st.nums m i))) = d9 fun k => .int (st.nums m (kIx k)) := by
              rw [← d9_range]
              refine List.map_congr_left fun i hi => ?_
              rw [kIx_at i (List.mem_range.mp hi)]
            exact congrArg (fun l => some (HO.dK l)) this
end
end HX
end

section
set_option Elab.async false
set_option linter.all false
set_option maxRecDepth 100000
set_option maxHeartbeats 4000000
/-! SizeFacts: solve. -/
namespace HX
open PySem PySem.Spec PyProof.Rows L2
open Evl (Ex)
/-! ### what a solution is -/
abbrev Rw := (Str → Int) × Int
def Fit (l : List Rw) (n : Str → Int) : Prop := (∀ k, 0 ≤ n k) ∧ ∀ t ∈ l, t.2 ≤ tot t.1 n
def rowF (l : List Rw) (i j : Nat) : Int := (l.getD i (fun _ => 0, 0)).1 (kAt j)
def needF (l : List Rw) (i : Nat) : Int := (l.getD i (fun _ => 0, 0)).2
structure RwOk (l : List Rw) : Prop where
  len : l.length ≤ 7
  need : ∀ t ∈ l, t.2 = 0 ∨ t.2 = 1
  row : ∀ t ∈ l, ∀ k, -2 ≤ t.1 k ∧ t.1 k ≤ 2
theorem getD_mem {α : Type} {l : List α} {i : Nat} {d : α} (h : i < l.length) : l.getD i d ∈ l := by
  rw [List.getD_eq_getElem?_getD, List.getElem?_eq_getElem h]
  exact List.getElem_mem h
theorem getD_at {α : Type} {l : List α} {i : Nat} {d a : α} (h : l[i]? = some a) : l.getD i d = a := by
  rw [List.getD_eq_getElem?_getD, h]; rfl
theorem S9 (f : Str → Int) (x : Nat → Int) (n : Str → Int) (h : ∀ j, j < 9 → n (kAt j) = x j) : KX.S 9 (fun j => f (kAt j) * x j) = tot f n := by
  have e : KX.S 9 (fun j => f (kAt j) * x j) = KX.S 9 (fun j => f (kAt j) * n (kAt j)) := KX.S_congr fun j hj => by rw [h j hj]
  rw [e]
  show 0 + _ + _ + _ + _ + _ + _ + _ + _ + _ = _
  unfold tot
  have : kinds = [kAt 0, kAt 1, kAt 2, kAt 3, kAt 4, kAt 5, kAt 6, kAt 7, kAt 8] := by decide +kernel
  rw [this]
  simp only [List.map_cons, List.map_nil, List.sum_cons, List.sum_nil]
  omega
def ResAt (H : Hp) (v : V) (l : List Rw) : Prop := ∃ (t : Addr) (x y : V), v = .ref t ∧ H t = some (.tup [x, y]) ∧
  ((x = .non ∧ (¬ ∃ n, Fit l n) ∧ ∃ (p : Addr) (ns : List Int), y = .ref p ∧ H p = some (.lst (ns.map V.int)) ∧ ns.length = l.length) ∨ (y = .non ∧ ∃ n, NumAt H x n ∧ Fit l n))
theorem res_of {H : Hp} {v : V} {l : List Rw} (ok : RwOk l) (h : SolAt H v l.length (rowF l) (needF l)) : ResAt H v l := by
  obtain ⟨t, x, y, st, rfl, h1, Z, he, h2⟩ := h
  have hn : ∀ i, i < l.length → needF l i = 0 ∨ needF l i = 1 := fun i hi => ok.need _ (getD_mem hi)
  refine ⟨t, x, y, rfl, h1, ?_⟩
  rcases h2 with ⟨g, rfl, p, ns, rfl, h3, h4⟩ | ⟨g, h3, rfl⟩
  · refine .inl ⟨rfl, ?_, p, ns, rfl, h3, h4⟩
    rintro ⟨n, hn0, hf⟩
    refine Z.no hn he g (fun j => n (kAt j)) (fun j _ => hn0 _) fun r hr => ?_
    have := hf _ (getD_mem (d := (fun _ => 0, 0)) hr)
    have e := S9 (l.getD r (fun _ => 0, 0)).1 (fun j => n (kAt j)) n (fun j _ => rfl)
    show (l.getD r (fun _ => 0, 0)).2 ≤ KX.S 9 (fun j => (l.getD r (fun _ => 0, 0)).1 (kAt j) * n (kAt j))
    rw [e]
    exact this
  · refine .inr ⟨rfl, _, h3, fun k => Z.nums_nn _, fun t ht => ?_⟩
    obtain ⟨r, hr, rfl⟩ := List.mem_iff_getElem.mp ht
    have gd : l.getD r (fun _ => 0, 0) = l[r] := getD_at (List.getElem?_eq_getElem hr)
    obtain ⟨f1, f2⟩ := Z.fits hn g r hr
    have e := S9 l[r].1 (fun j => st.nums l.length j) (fun k => st.nums l.length (kIx k)) (fun j hj => by rw [kIx_at j hj])
    have e' : KX.S 9 (fun j => rowF l r j * st.nums l.length j) = tot l[r].1 (fun k => st.nums l.length (kIx k)) := by
      rw [← e]
      unfold rowF
      rw [gd]
    rw [e'] at f1 f2
    have hnr : needF l r = l[r].2 := by unfold needF; rw [gd]
    rw [hnr] at f2
    rcases ok.need _ ht with z | z
    · rw [z]; exact f1
    · rw [z]; exact f2 z
theorem ResAt.ex {H H' : Hp} {v : V} {l : List Rw} (e : Ex H H') (h : ResAt H v l) : ResAt H' v l := by
  obtain ⟨t, x, y, rfl, h1, h2⟩ := h
  refine ⟨t, x, y, rfl, e _ _ h1, ?_⟩
  rcases h2 with ⟨rfl, a, p, ns, rfl, b, c⟩ | ⟨rfl, n, ⟨d, rfl, hd⟩, f⟩
  · exact .inl ⟨rfl, a, p, ns, rfl, e _ _ b, c⟩
  · exact .inr ⟨rfl, n, ⟨d, rfl, e _ _ hd⟩, f⟩
/-! ### a SizeFacts -/
def sf2 (a b : Addr) : List (Str × V) := putF "strict" (.ref b) (putF "weak" (.ref a) [])
theorem ksw : ¬ (("strict" : Str) = "weak") := by decide +kernel
theorem sf2_weak (a b : Addr) : (sf2 a b).lookup ("weak" : Str) = some (.ref a) := by
  unfold sf2
  rw [lookup_putF, if_neg (fun z => ksw z.symm), lookup_putF, if_pos rfl]
theorem sf2_strict (a b : Addr) : (sf2 a b).lookup ("strict" : Str) = some (.ref b) := by
  unfold sf2
  rw [lookup_putF, if_pos rfl]
theorem sf2_no (a b : Addr) {m : Str} (h1 : ¬ m = "strict") (h2 : ¬ m = "weak") : (sf2 a b).lookup m = none := by
  unfold sf2
  rw [lookup_putF, if_neg h1, lookup_putF, if_neg h2]
  all_goals rfl
def SfAt (C D : Addr) (H : Hp) (v : V) (ws ss : List (Str → Int)) : Prop := ∃ (p dx a b : Addr) (us vs : List V), v = .ref p ∧ H p = some (.ins C dx (sf2 a b)) ∧ H a = some (.tup us) ∧ H b = some (.tup vs) ∧ AllAt (ClAt D) H us ws ∧ AllAt (ClAt D) H vs ss
theorem SfAt.mono {C D : Addr} {H H' : Hp} {v : V} {ws ss : List (Str → Int)} (e : ExN H H') (h : SfAt C D H v ws ss) : SfAt C D H' v ws ss := by
  obtain ⟨p, dx, a, b, us, vs, rfl, h1, h2, h3, h4, h5⟩ := h
  exact ⟨p, dx, a, b, us, vs, rfl, e _ _ (fun _ z => by cases z) h1, e _ _ (fun _ z => by cases z) h2, e _ _ (fun _ z => by cases z) h3, h4.mono fun v a h => h.mono e, h5.mono fun v a h => h.mono e⟩
theorem SfAt.ex {C D : Addr} {H H' : Hp} {v : V} {ws ss : List (Str → Int)} (e : Ex H H') (h : SfAt C D H v ws ss) : SfAt C D H' v ws ss := h.mono (.of e)
/-- the rows of the facts -/
def baseR (ws ss : List (Str → Int)) : List Rw := ws.map (fun f => (f, 0)) ++ ss.map (fun f => (f, 1))
def RwAt (H : Hp) (v : V) (t : Rw) : Prop := ∃ p, v = .ref p ∧ H p = some (.lst (row9 t.1))
theorem row9_V (f : Str → Int) : row9 f = rowV 8 (fun j => f (kAt j)) := rfl
theorem AllAt.app {α : Type} {R : Hp → V → α → Prop} {H : Hp} {us vs : List V} {l k : List α} (h : AllAt R H us l) (g : AllAt R H vs k) : AllAt R H (us ++ vs) (l ++ k) := by
  refine ⟨by simp [h.1, g.1], fun i v a hv ha => ?_⟩
  by_cases c : i < us.length
  · rw [List.getElem?_append_left c] at hv
    rw [List.getElem?_append_left (by rw [← h.1]; exact c)] at ha
    exact h.2 i v a hv ha
  · rw [List.getElem?_append_right (by omega)] at hv
    rw [List.getElem?_append_right (by rw [← h.1]; omega), ← h.1] at ha
    exact g.2 _ v a hv ha
theorem AllAt.map {α β : Type} {R : Hp → V → α → Prop} {S : Hp → V → β → Prop} {H : Hp} {us : List V} {l : List α} {F : α → β} (h : AllAt R H us l) (k : ∀ v a, R H v a → S H v (F a)) : AllAt S H us (l.map F) := by
  refine ⟨by simp [h.1], fun i v a hv ha => ?_⟩
  rw [List.getElem?_map] at ha
  obtain ⟨b, hb, rfl⟩ := Option.map_eq_some_iff.mp ha
  exact k v b (h.2 i v b hv hb)
theorem lines_of {H : Hp} {a : Addr} {vs : List V} {l : List Rw} (h : H a = some (.lst vs)) (A : AllAt RwAt H vs l) : LinesAt H (.ref a) l.length 8 (rowF l) := by
  refine ⟨a, vs, rfl, h, A.1, fun i hi => ?_⟩
  have hv : vs[i]? = some (vs[i]'(by rw [A.1]; exact hi)) := List.getElem?_eq_getElem (by rw [A.1]; exact hi)
  have hl : l[i]? = some l[i] := List.getElem?_eq_getElem hi
  obtain ⟨p, e, hp⟩ := A.2 i _ _ hv hl
  refine ⟨p, by rw [hv, e], ?_⟩
  rw [hp, row9_V]
  unfold rowF
  rw [getD_at hl]
theorem need_of (l : List Rw) : l.map (fun t => V.int t.2) = needV l.length (needF l) := by
  unfold needV needF
  exact (range_getD l (fun _ => 0, 0) fun t => V.int t.2).symm
section
variable {P : Program} {w : World} {K : PySem.W.Frag} {mg : Str → Option Value} {base : Heap}
def spSolve (C D : Addr) : Sp := fun vs H Q _ => ∃ (v : V) (rl nl : Addr) (rv : List V) (ws ss : List (Str → Int)) (es : List Rw), vs = [v, .ref rl, .ref nl] ∧ SfAt C D H v ws ss ∧ H rl = some (.lst rv) ∧ H nl = some (.lst (es.map fun t => .int t.2)) ∧ AllAt RwAt H rv es ∧ RwOk (baseR ws ss ++ es) ∧
  ∀ v' H', Ex H H' → ResAt H' v' (baseR ws ss ++ es) → Q v' H'
abbrev nSolve : List Str := ["self", "rows", "needs", "told", "wanted", "claim"]
theorem scSolve : FnScope nSolve ["self", "rows", "needs"] (defScope sSolve) := ⟨rfl, rfl, rfl, by decide +kernel, rfl, by decide +kernel, by decide +kernel⟩
theorem ok_solve (T : Tx w K mg) : FnR P w K mg base CX0 3 (He.ma K (He.ga K "SizeFacts") "solve") (spSolve (He.ga K "SizeFacts") (He.ga K "Claim")) := by
  have G := ok_solved (P := P) (base := base) T
  have GR := ok_rowOf (P := P) (base := base) T
  refine fnr (T.fnM1 4 dSolve rfl) rfl scSolve (fun _ _ _ _ _ _ us hl => match us, hl with | [_, _, _], _ => rfl) (fun vs H Q E h => ?_) (fun cdv A outer s H vs Q E hr h => ?_)
  · obtain ⟨_, _, _, _, _, _, _, rfl, _⟩ := h
    rfl
  · obtain ⟨v, rl, nl, rv, ws, ss, es, rfl, ⟨p, dx, a, b, us, vs, rfl, hp, ha, hb, hU, hV⟩, hrl, hnl, hE, ok, k⟩ := h
    have nd := scSolve.nd
    have cS := T.c "SizeFacts"
    have nW := T.noat "SizeFacts" "weak" (by decide +kernel)
    have nS := T.noat "SizeFacts" "strict" (by decide +kernel)
    have hr1 : Room 1 _ := hr.mono (by decide)
    refine ⟨_, pss_cons (ps_setLc (i := 3) (own := [("claim", 5)]) rfl nd rfl rfl (sw_true rfl rfl rfl (by decide +kernel)) (pi_tup (pe_tup (StX.pa_star (pe_fld (pv 0) rfl) (StX.pa_star (pe_fld (pv 0) rfl) pa_nil)))) (blkOk_by (own := [("claim", 5)]) (N := nSolve) (sc := defScope sSolve) (by decide +kernel))
          (fun _ _ _ _ _ => pg_name (i := 5) nd rfl (Or.inl rfl)) (fun _ _ _ _ _ => pts_nil)
          (fun _ _ _ _ _ => pe_cR GR hr1 (T.g "row_of") (T.k "row_of") pass0 (pa_cons (pv 5) pa_nil)))
      (pss_cons (ps_asg (pe_op op_cat (pe_op op_rep (pe_lst (pa_cons pe_int pa_nil)) (pe_callB call_len_seq (by rfl) (T.f "len") PySem.boot_len (pa_cons (pe_fld (pv 0) rfl) pa_nil)))
          (pe_op op_rep (pe_lst (pa_cons pe_int pa_nil)) (pe_callB call_len_seq (by rfl) (T.f "len") PySem.boot_len (pa_cons (pe_fld (pv 0) rfl) pa_nil)))) (pg_name (i := 4) nd rfl (Or.inl rfl)))
      (pss_one (ps_ret (pe_cR G hr (T.g "solved_rows") (T.k "solved_rows") pass0 (pa_cons (pe_lst (StX.pa_star (pv 3) (StX.pa_star (pv 1) pa_nil))) (pa_cons (pe_lst (StX.pa_star (pv 4) (StX.pa_star (pv 2) pa_nil))) pa_nil)))))), ?_⟩
    have hlen : ws.length + ss.length + es.length ≤ 7 := by
      have := ok.len
      simp [baseR] at this
      omega
    have lu : us.length = ws.length := hU.1
    have lv : vs.length = ss.length := hV.1
    refine ⟨_, rfl, p, _, dx, _, _, rfl, hp, cS, nW, sf2_weak _ _, a, us, rfl, .inl (SqT.of ha), _, rfl, p, _, dx, _, _, rfl, hp, cS, nS, sf2_strict _ _, b, vs, rfl, .inl (SqT.of hb), ?_, fun t nt => ?_⟩
    · show (us ++ (vs ++ [])).length ≤ 2 ^ 24
      rw [List.append_nil, List.length_append]
      omega
    rw [List.append_nil]
    have e1 : Ex H (upd H t (.tup (us ++ vs))) := Evl.Ex.new nt
    generalize hH1 : upd H t (.tup (us ++ vs)) = H1 at e1
    have ht : H1 t = some (.tup (us ++ vs)) := by rw [← hH1, upd_same]
    have hUV : AllAt (ClAt (He.ga K "Claim")) H1 (us ++ vs) (ws ++ ss) := (hU.app hV).mono fun v a h => h.mono (.of e1)
    have hR : AllAt (fun H v f => ClAt (He.ga K "Claim") H v f) H1 (us ++ vs) (ws ++ ss) := hUV
    refine ⟨t, rfl, ⟨_, SqT.of ht⟩, fun D1 nD1 => lc_map (walk_tup (xs := us ++ vs)) (fun i v H => ∀ f, (ws ++ ss)[i]? = some f → ∃ q, v = .ref q ∧ H q = some (.lst (row9 f)) ∧ q ≠ D1) nD1 (by rw [List.length_append]; omega) (fun H e => SqT.of (e t _ ht))
      (fun i v H H' xs hx e h f hf => let ⟨q, h1, h2, h3⟩ := h f hf; ⟨q, h1, e q _ h3 h2, h3⟩) (fun i x H0 H' Q hi e hDl y kq => ?_) (fun ys H2 e2 hD1 hyl hy => ?_)⟩
    · obtain ⟨rfl, hx⟩ := y
      obtain ⟨f, hf, hcl⟩ := hUV.get hx
      refine ⟨rfl, _, rfl, x, f, rfl, hcl.mono (.of e), fun q H4 nq e4 hq => kq _ H4 e4 fun f' hf' => ?_⟩
      rw [hf] at hf'
      obtain rfl := Option.some.inj hf'
      obtain ⟨xs, hDl⟩ := hDl
      exact ⟨q, rfl, hq, fun z => by rw [z, hDl] at nq; cases nq⟩
    have e12 := e1.trans e2
    have hA : AllAt RwAt H2 ys (baseR ws ss) := by
      have h0 : AllAt (fun H v (f : Str → Int) => ∃ q, v = .ref q ∧ H q = some (.lst (row9 f))) H2 ys (ws ++ ss) := ⟨by rw [hyl, List.length_append, List.length_append, lu, lv], fun i v f hv hf => let ⟨q, h1, h2, _⟩ := hy i v hv f hf; ⟨q, h1, h2⟩⟩
      have hw : AllAt (fun H v (f : Str → Int) => ∃ q, v = .ref q ∧ H q = some (.lst (row9 f))) H2 (ys.take ws.length) ws := ⟨by simp [hyl, lu, lv], fun i v f hv hf => by
        have hi := (List.getElem?_eq_some_iff.mp hf).1
        rw [List.getElem?_take, if_pos hi] at hv
        exact h0.2 i v f hv (by rw [List.getElem?_append_left hi]; exact hf)⟩
      have hs : AllAt (fun H v (f : Str → Int) => ∃ q, v = .ref q ∧ H q = some (.lst (row9 f))) H2 (ys.drop ws.length) ss := ⟨by simp [hyl, lu, lv], fun i v f hv hf => by
        rw [List.getElem?_drop] at hv
        exact h0.2 _ v f hv (by rw [List.getElem?_append_right (by omega), Nat.add_sub_cancel_left]; exact hf)⟩
      have := (hw.map (S := RwAt) (F := fun f => ((f, 0) : Rw)) fun v f h => h).app (hs.map (S := RwAt) (F := fun f => ((f, 1) : Rw)) fun v f h => h)
      rw [List.take_append_drop] at this
      exact this
    -- wanted
    have rep1 : ∀ (n : Nat) (x : V), (List.replicate ((n : Nat) : Int).toNat [x]).flatten = List.replicate n x := fun n x => by rw [Int.toNat_natCast, List.flatten_replicate_singleton]
    refine ⟨by show 1 ≤ sizeLine; decide, fun z1 nz1 => ?_⟩
    have e3 := e12.trans (Evl.Ex.new (o := .lst [.int 0]) nz1)
    refine ⟨_, rfl, p, _, dx, _, _, rfl, e3 p _ hp, cS, nW, sf2_weak _ _, a, us, rfl, .inr (SqT.of (e3 a _ ha)), z1, _, _, rfl, rfl, upd_same, by omega, by omega, ?_, fun z2 nz2 => ?_⟩
    · show 1 * ((us.length : Nat) : Int).toNat ≤ 2 ^ 24
      rw [Int.toNat_natCast]; omega
    rw [rep1]
    have e4 := e3.trans (Evl.Ex.new (o := .lst (List.replicate us.length (V.int 0))) nz2)
    refine ⟨by show 1 ≤ sizeLine; decide, fun z3 nz3 => ?_⟩
    have e5 := e4.trans (Evl.Ex.new (o := .lst [.int 1]) nz3)
    refine ⟨_, rfl, p, _, dx, _, _, rfl, e5 p _ hp, cS, nS, sf2_strict _ _, b, vs, rfl, .inr (SqT.of (e5 b _ hb)), z3, _, _, rfl, rfl, upd_same, by omega, by omega, ?_, fun z4 nz4 => ?_⟩
    · show 1 * ((vs.length : Nat) : Int).toNat ≤ 2 ^ 24
      rw [Int.toNat_natCast]; omega
    rw [rep1]
    have x4 : Ex (upd (upd (upd H2 z1 (.lst [.int 0])) z2 (.lst (List.replicate us.length (V.int 0)))) z3 (.lst [.int 1])) (upd (upd (upd (upd H2 z1 (.lst [.int 0])) z2 (.lst (List.replicate us.length (V.int 0)))) z3 (.lst [.int 1])) z4 (.lst (List.replicate vs.length (V.int 1)))) := Evl.Ex.new nz4
    have x3 : Ex (upd (upd H2 z1 (.lst [.int 0])) z2 (.lst (List.replicate us.length (V.int 0)))) (upd (upd (upd H2 z1 (.lst [.int 0])) z2 (.lst (List.replicate us.length (V.int 0)))) z3 (.lst [.int 1])) := Evl.Ex.new nz3
    have e6 := e5.trans x4
    have xx : Ex H2 (upd (upd (upd (upd H2 z1 (.lst [.int 0])) z2 (.lst (List.replicate us.length (V.int 0)))) z3 (.lst [.int 1])) z4 (.lst (List.replicate vs.length (V.int 1)))) := (((Evl.Ex.new nz1).trans (Evl.Ex.new nz2)).trans x3).trans x4
    have hz2 := x4 z2 _ (x3 z2 _ upd_same)
    refine ⟨z2, z4, _, _, rfl, rfl, hz2, upd_same, by simp; show us.length + vs.length ≤ 2 ^ 24; omega, fun wt nwt => ?_⟩
    generalize (upd (upd (upd (upd H2 z1 (.lst [.int 0])) z2 (.lst (List.replicate us.length (V.int 0)))) z3 (.lst [.int 1])) z4 (.lst (List.replicate vs.length (V.int 1)))) = H6 at e6 xx nwt
    have x7 : Ex H6 (upd H6 wt (.lst (List.replicate us.length (V.int 0) ++ List.replicate vs.length (V.int 1)))) := Evl.Ex.new nwt
    have e7 := e6.trans x7
    have hwt : (upd H6 wt (.lst (List.replicate us.length (V.int 0) ++ List.replicate vs.length (V.int 1)))) wt = some (.lst ((baseR ws ss).map fun t => V.int t.2)) := by
      rw [upd_same, lu, lv]
      refine congrArg (fun l => some (HO.lst l)) ?_
      unfold baseR
      rw [List.map_append, List.map_map, List.map_map]
      congr 1
      · exact List.map_const'.symm
      · exact List.map_const'.symm
    generalize (upd H6 wt (.lst (List.replicate us.length (V.int 0) ++ List.replicate vs.length (V.int 1)))) = H7 at e7 x7 hwt
    have hD7 := x7 D1 _ (xx D1 _ hD1)
    refine ⟨_, rfl, D1, ys, rfl, .inr (SqL.of hD7), _, rfl, rl, rv, rfl, .inr (SqL.of (e7 rl _ hrl)), ?_, fun m1 nm1 => ?_⟩
    · show (ys ++ (rv ++ [])).length ≤ 2 ^ 24
      have := hE.1
      rw [List.append_nil, List.length_append, hyl, List.length_append]
      omega
    rw [List.append_nil]
    have x8 : Ex H7 (upd H7 m1 (.lst (ys ++ rv))) := Evl.Ex.new nm1
    have hm1 : (upd H7 m1 (.lst (ys ++ rv))) m1 = some (.lst (ys ++ rv)) := upd_same
    generalize (upd H7 m1 (.lst (ys ++ rv))) = H8 at x8 hm1
    have e8 := e7.trans x8
    refine ⟨_, rfl, wt, _, rfl, .inr (SqL.of (x8 wt _ hwt)), _, rfl, nl, _, rfl, .inr (SqL.of (e8 nl _ hnl)), ?_, fun m2 nm2 => ?_⟩
    · show (_ ++ (_ ++ [])).length ≤ 2 ^ 24
      rw [List.append_nil, List.length_append, List.length_map, List.length_map]
      have : (baseR ws ss).length = ws.length + ss.length := by simp [baseR]
      omega
    rw [List.append_nil]
    have x9 : Ex H8 (upd H8 m2 (.lst ((baseR ws ss).map (fun t => V.int t.2) ++ es.map fun t => V.int t.2))) := Evl.Ex.new nm2
    have e9 := e8.trans x9
    have hAll : AllAt RwAt (upd H8 m2 (.lst ((baseR ws ss).map (fun t => V.int t.2) ++ es.map fun t => V.int t.2))) (ys ++ rv) (baseR ws ss ++ es) :=
      (hA.mono fun v t h => let ⟨q, h1, h2⟩ := h; ⟨q, h1, x9 q _ (x8 q _ (x7 q _ (xx q _ h2)))⟩).app (hE.mono fun v t h => let ⟨q, h1, h2⟩ := h; ⟨q, h1, e9 q _ h2⟩)
    refine ⟨.ref m1, m2, (baseR ws ss ++ es).length, rowF (baseR ws ss ++ es), needF (baseR ws ss ++ es), rfl, lines_of (x9 m1 _ hm1) hAll, ?_, ok.len, fun i hi => ok.need _ (getD_mem hi), fun i j hi hj => ?_, fun v' H' e' hs => k v' H' (e9.trans e') (res_of ok hs)⟩
    · rw [upd_same, ← List.map_append, need_of]
    · have := ok.row _ (getD_mem (d := (fun _ => 0, 0)) hi) (kAt j)
      unfold rowF
      omega
end
end HX
end

section
set_option Elab.async false
set_option linter.all false
set_option maxRecDepth 100000
set_option maxHeartbeats 4000000
/-! SizeFacts: against, model, counter, follows, keep. -/
namespace HX
open PySem PySem.Spec PyProof.Rows L2
open Evl (Ex)
/-! ### defs with one default -/
section
variable {P : Program} {w : World} {K : PySem.W.Frag} {mg : Str → Option Value} {base : Heap} {d : He.DefD} {CX : CXT} {N ps : List Str} {k : Nat} {sp : Sp} {dv : He.Dv}
/-- such a def, by its body -/
theorem fnO (h : FnA K d) (S : FnScope N ps d.scope) (len : ∀ vs H Q E, sp vs H Q E → vs.length = ps.length)
    (hbody : ∀ (cdv : Value) (A : Around) (outer : List Env) (s : Shared) (H : Hp) (vs : List V) (Q : VK) (E : XK), Room k (A.deeper (envOfC d.qual d.scope s.heap.objs.size (He.fAd K d.at_) cdv)) → sp vs H Q E →
      ∃ t, PSs (cxOf CX P w K mg base N d.qual d.scope (He.fAd K d.at_) cdv A outer s H E).nox d.body t ∧ t { nx := fun _ H' => Q .non H', rt := Q } (start N vs) H) :
    ∃ fd, FunD K d.name d.qual d.params d.body d.scope (d.dvs K) (d.kws K) (He.fAd K d.at_) fd ∧ FnOk P w K mg base CX (k + 1) (He.fAd K d.at_) fd ps sp := by
  obtain ⟨fd, F⟩ := h
  exact ⟨fd, F, F.ok S len fun cdv A outer s H vs Q E hr h => let ⟨t, h1, h2⟩ := hbody cdv A outer s H vs Q E hr h; ⟨t, h1.nox, h2⟩⟩
/-- all arguments written -/
theorem fnO_all {fd : FuncData} (F : FunD K d.name d.qual d.params d.body d.scope (d.dvs K) (d.kws K) (He.fAd K d.at_) fd) (O : FnOk P w K mg base CX k (He.fAd K d.at_) fd ps sp) (hd : d.dfl = [dv])
    (hb : ∀ (T : Addr) (kV doc pm : Value) (an : Option Addr) (cdv ct : Value) (us its : List Value), us.length = ps.length → its.length = 1 →
      ∃ k, bindArgs (PySem.W.fnOf d.name d.qual d.params d.body d.scope (.ref T) kV doc pm an cdv ct) ⟨us, []⟩ = seqItems? (.ref T) >>= k ∧ k (some its.toArray) = pure (ps.zip us)) : FnR P w K mg base CX k (He.fAd K d.at_) sp := by
  have ed : d.dvs K = [dv.v K] := by unfold He.DefD.dvs; rw [hd] <;> rfl
  rw [ed] at F
  obtain ⟨ds, rd, B⟩ := F.binds1 (ps := ps) ps.length 1 (List.cons_ne_nil _ _) (by simp) (fun T kV doc pm an cdv ct us its h1 h2 => by
    obtain ⟨k, e1, e2⟩ := hb T kV doc pm an cdv ct us its h1 h2
    refine ⟨k, e1, ?_⟩
    rw [e2]
    have : its.drop 1 = [] := List.drop_eq_nil_of_le (by rw [h2]; exact Nat.le_refl 1)
    rw [this, List.append_nil])
  refine (O.raw B rd).imp fun vs H Q E z => ?_
  show sp (vs ++ []) H Q E
  rw [List.append_nil]
  exact z
/-- the last left out -/
theorem fnO_dfl {fd : FuncData} {n : Nat} (F : FunD K d.name d.qual d.params d.body d.scope (d.dvs K) (d.kws K) (He.fAd K d.at_) fd) (O : FnOk P w K mg base CX k (He.fAd K d.at_) fd ps sp) (hd : d.dfl = [dv]) (hn : n + 1 = ps.length)
    (hb : ∀ (T : Addr) (kV doc pm : Value) (an : Option Addr) (cdv ct : Value) (us its : List Value), us.length = n → its.length = 1 →
      ∃ k, bindArgs (PySem.W.fnOf d.name d.qual d.params d.body d.scope (.ref T) kV doc pm an cdv ct) ⟨us, []⟩ = seqItems? (.ref T) >>= k ∧ k (some its.toArray) = pure (ps.zip (us ++ its))) :
    FnR P w K mg base CX k (He.fAd K d.at_) (fun vs H Q E => sp (vs ++ [dv.v K]) H Q E) := by
  have ed : d.dvs K = [dv.v K] := by unfold He.DefD.dvs; rw [hd] <;> rfl
  rw [ed] at F
  obtain ⟨ds, rd, B⟩ := F.binds1 (ps := ps) n 0 (List.cons_ne_nil _ _) (by simpa using hn) (fun T kV doc pm an cdv ct us its h1 h2 => by
    obtain ⟨k, e1, e2⟩ := hb T kV doc pm an cdv ct us its h1 h2
    exact ⟨k, e1, e2⟩)
  exact O.raw B rd
/-- the last by its name -/
theorem fnO_kw {fd : FuncData} {n : Nat} {x : Str} (F : FunD K d.name d.qual d.params d.body d.scope (d.dvs K) (d.kws K) (He.fAd K d.at_) fd) (hd : d.dfl = [dv])
    (hb : ∀ (T : Addr) (kV doc pm : Value) (an : Option Addr) (cdv ct : Value) (us its ws : List Value), us.length = n → its.length = 1 → ws.length = 1 →
      ∃ k, bindArgs (PySem.W.fnOf d.name d.qual d.params d.body d.scope (.ref T) kV doc pm an cdv ct) ⟨us, [x].zip ws⟩ = seqItems? (.ref T) >>= k ∧ k (some its.toArray) = pure (ps.zip (us ++ ws))) :
    KBn K fd ps n [x] (fun us ws => us ++ ws) (fun vs zs => vs ++ zs) := by
  have ed : d.dvs K = [dv.v K] := by unfold He.DefD.dvs; rw [hd] <;> rfl
  rw [ed] at F
  obtain ⟨oc, od, dV, kV, doc, pm, an, cdv, ct, osl, rfl, lk, hcd, hD, hK⟩ := F.ex
  rcases hD with ⟨e, _⟩ | ⟨_, T, o, its, m, rfl, lT, oT, rT⟩
  · cases e
  · refine ⟨fun s us ws X l1 l2 => BindsTo.of_looks fun M => ?_, fun r1 r2 => r1.append r2⟩
    obtain ⟨k, e1, e2⟩ := hb T kV doc pm an cdv ct us its ws l1 rT.length.symm l2
    rw [e1]
    exact looks_items X lT oT (PySem.W.Looks.of_pure e2)
end
/-- o.m(e, .., k = v, ..) -/
def tMethK (C : Addr) (m : Str) (n j : Nat) (sp : Sp) (gV : List V → List V → List V) (E : XK) (ta : TE) (t tk : TA) : TE := fun σ H Q => ta σ H fun x H1 => ∃ a dx fs, x = .ref a ∧ H1 a = some (.ins C dx fs) ∧ fs.lookup m = none ∧ t σ H1 fun vs H2 => tk σ H2 fun zs H3 => vs.length = n ∧ zs.length = j ∧ sp (gV (x :: vs) zs) H3 Q E
theorem pe_methK {X : Cx} {CX : CXT} {k n : Nat} {C f : Addr} {fd : FuncData} {ps ks : List Str} {m : Str} {sp : Sp} {E : XK} {o e : Expr} {es : List Expr} {kws : List Keyword} {ta : TE} {t tk : TA} {apos pos : Pos} {pl : Sem Bool} {g : List Value → List Value → List Value} {gV : List V → List V → List V}
    (he : PE X o ta) (c : Cls X.K C) (hm : Meth X.K C m f) (F : FnOk X.prog X.w X.K X.mg X.base CX k f fd ps sp) (hr : Room k X.A) (hb : KBn X.K fd ps (n + 1) ks g gV) (hx : Passes CX X E) (ha : PA X (e :: es) t) (hkw : PK X kws tk)
    (hall : (backToKw pos (keywordEach kws X.env)).all (·.1.isSome) = true := by rfl) (hks : (backToKw pos (keywordEach kws X.env)).filterMap (·.1) = ks := by rfl)
    (hst : starEach (e :: es) X.env = (false, eval e X.env) :: starEach es X.env := by rfl) (hpl : ((backTo pos (starEach (e :: es) X.env)).any (·.1) || (backToKw pos (keywordEach kws X.env)).any (·.1.isNone)) = false := by rfl)
    (ht : eval (.Call (.Attribute o m apos) (e :: es) kws pos) X.env = (do
      let ov ← eval o X.env
      standAt apos.atName
      let (f, first) ← holding [ov] (getMethod ov m pl)
      callWith pos f first (backTo pos (starEach (e :: es) X.env)) (backToKw pos (keywordEach kws X.env))) := by rfl) :
    PE X (.Call (.Attribute o m apos) (e :: es) kws pos) (tMethK C m n ks.length sp gV E ta t tk) := by
  refine ⟨fun pins s σ H Q I h => ?_⟩
  refine PySem.W.methodCall_KW (pl := pl) (thn (he.run pins s σ H _ I h) fun u s1 ⟨x, H1, I1, rx, a, dx, fs, ex, ea, l, q⟩ => ?_) ht
  subst ex
  obtain rfl : u = Value.ref a := rx
  refine getmeth_ok I1 ea c hm l ?_
  refine PySem.W.callWith_KW (first := [.ref a]) (h₀ := X.base) I.ok.mod.kin hm.kp hall (thn (ha.run pos pins s1 σ H1 _ I1 q) fun us s2 ⟨vs, H2, I2, r, q2⟩ => ?_) hpl hst
  refine thn (hkw.run pos pins s2 σ H2 _ I2 q2) fun ws s3 ⟨zs, H3, I3, rz, l1, l2, q3⟩ => ⟨I3.kIn, ?_⟩
  rw [hks]
  exact run_fnN (us := .ref a :: us) (vs := .ref a :: vs) F hr hb hx I3 (.cons rfl r) rz (by rw [List.length_cons, l1]) l2 q3
end HX
end

section
set_option Elab.async false
set_option linter.all false
set_option maxRecDepth 100000
set_option maxHeartbeats 4000000
/-! SizeFacts: the methods. -/
namespace HX
open PySem PySem.Spec PyProof.Rows L2
open Evl (Ex)
def neg (f : Str → Int) : Str → Int := fun k => -f k
/-- the row that stands against a claim -/
def agR (f : Str → Int) (b : Bool) : Rw := (neg f, if b = true then 0 else 1)
section
variable {P : Program} {w : World} {K : PySem.W.Frag} {mg : Str → Option Value} {base : Heap}
def spAgainst (C D : Addr) : Sp := fun vs H Q _ => ∃ (v u : V) (b : Bool) (ws ss : List (Str → Int)) (f : Str → Int), vs = [v, u, .bl b] ∧ SfAt C D H v ws ss ∧ ClAt D H u f ∧ RwOk (baseR ws ss ++ [agR f b]) ∧
  ∀ v' H', Ex H H' → ResAt H' v' (baseR ws ss ++ [agR f b]) → Q v' H'
abbrev nAgainst : List Str := ["self", "claim", "strict", "item"]
theorem scAgainst : FnScope nAgainst ["self", "claim", "strict"] (defScope sAgainst) := ⟨rfl, rfl, rfl, by decide +kernel, rfl, by decide +kernel, by decide +kernel⟩
theorem ok_against (T : Tx w K mg) : FnR P w K mg base CX0 4 (He.ma K (He.ga K "SizeFacts") "against") (spAgainst (He.ga K "SizeFacts") (He.ga K "Claim")) := by
  have G := ok_solve (P := P) (base := base) T
  have GR := ok_rowOf (P := P) (base := base) T
  refine fnr (T.fnM1 5 dAgainst rfl) rfl scAgainst (fun _ _ _ _ _ _ us hl => match us, hl with | [_, _, _], _ => rfl) (fun vs H Q E h => ?_) (fun cdv A outer s H vs Q E hr h => ?_)
  · obtain ⟨_, _, _, _, _, _, rfl, _⟩ := h
    rfl
  · obtain ⟨v, u, b, ws, ss, f, rfl, hS, hC, ok, k⟩ := h
    have nd := scAgainst.nd
    have cS := T.c "SizeFacts"
    have mS := T.meth "SizeFacts" "solve" (by decide +kernel)
    have hr1 : Room 1 _ := hr.mono (by decide)
    refine ⟨_, pss_one (ps_ret (pe_methR (pv 0) cS mS G hr pass0 (pa_cons (pe_lst (pa_cons
        (pe_lc (own := [("item", 3)]) rfl nd (pi_list (pe_cR GR hr1 (T.g "row_of") (T.k "row_of") pass0 (pa_cons (pv 1) pa_nil))) (blkOk_by (own := [("item", 3)]) (N := nAgainst) (sc := defScope sAgainst) (by decide +kernel)) (fun _ _ _ _ _ => pg_name (i := 3) nd rfl (Or.inl rfl)) (fun _ _ _ _ _ => pts_nil)
          (fun _ _ _ _ _ => pe_un un_neg (pv 3))) pa_nil)) (pa_cons (pe_lst (pa_cons (pe_ifExp (pt_val (pv 2)) pe_int pe_int) pa_nil)) pa_nil)))), ?_⟩
    obtain ⟨p, dx, a, c, us, vs, rfl, hp, _⟩ := id hS
    refine ⟨_, rfl, p, dx, _, rfl, hp, sf2_no _ _ (by decide +kernel) (by decide +kernel), ?_⟩
    refine ⟨_, rfl, u, f, rfl, hC, fun q H1 nq e1 hq => ⟨q, rfl, ⟨_, SqL.of hq⟩, fun D nD => lc_val (walk_list (xs := row9 f)) (fun j => .int (-f (kAt j))) nD (by show 9 ≤ 99999; decide) (fun H e => SqL.of (e q _ hq)) (fun j x H0 H' Qe hj e2 y kq => ?_) (fun H2 e2 hD => ?_)⟩⟩
    · obtain ⟨rfl, hx⟩ := y
      have hj9 : j ≤ 8 := by
        have : j < 9 := hj
        omega
      replace hx : (rowV 8 (fun j => f (kAt j)))[j]? = some x := hx
      rw [rowV_at _ hj9] at hx
      obtain rfl := Option.some.inj hx
      exact ⟨rfl, _, rfl, _, rfl, kq _ (Ex.refl _)⟩
    have e12 := e1.trans e2
    refine ⟨by show 1 ≤ sizeLine; decide, fun rl nrl => ?_⟩
    have e3 : Ex H2 (upd H2 rl (.lst [.ref D])) := Evl.Ex.new nrl
    have fin : ∀ i : Int, i = (agR f b).2 → 1 ≤ sizeLine ∧ ∀ nl, (upd H2 rl (.lst [.ref D])) nl = none → spSolve (He.ga K "SizeFacts") (He.ga K "Claim") [.ref p, .ref rl, .ref nl] (upd (upd H2 rl (.lst [.ref D])) nl (.lst [.int i])) Q E0 := by
      rintro i rfl
      refine ⟨by decide, fun nl nnl => ?_⟩
      have e4 : Ex (upd H2 rl (.lst [.ref D])) (upd (upd H2 rl (.lst [.ref D])) nl (.lst [.int (agR f b).2])) := Evl.Ex.new nnl
      have e5 := (e12.trans e3).trans e4
      refine ⟨.ref p, rl, nl, [.ref D], ws, ss, [agR f b], rfl, hS.ex e5, e4 rl _ upd_same, upd_same, ⟨rfl, fun i v t hv ht => ?_⟩, ok, fun v' H' e' hs => k v' H' (e5.trans e') hs⟩
      match i, hv, ht with
      | 0, hv, ht =>
        obtain rfl := Option.some.inj hv
        obtain rfl := Option.some.inj ht
        exact ⟨D, rfl, e4 D _ (e3 D _ hD)⟩
    cases b with
    | true =>
      obtain ⟨f1, f2⟩ := fin 0 rfl
      exact ⟨_, rfl, _, rfl, iteT ⟨f1, f2⟩⟩
    | false =>
      obtain ⟨f1, f2⟩ := fin 1 rfl
      exact ⟨_, rfl, _, rfl, iteF ⟨f1, f2⟩⟩
/-! ### model -/
/-- the numbers, or None -/
def NumsAt (H : Hp) (v : V) (l : List Rw) : Prop := (v = .non ∧ ¬ ∃ n, Fit l n) ∨ ∃ n, NumAt H v n ∧ Fit l n
theorem res_num {K : PySem.W.Frag} {H : Hp} {v : V} {l : List Rw} (h : ResAt H v l) : ∃ t x y, v = .ref t ∧ SqT K H t [x, y] ∧ NumsAt H x l := by
  obtain ⟨t, x, y, rfl, h1, h2⟩ := h
  refine ⟨t, x, y, rfl, SqT.of h1, ?_⟩
  rcases h2 with ⟨rfl, a, _⟩ | ⟨rfl, n, a, f⟩
  · exact .inl ⟨rfl, a⟩
  · exact .inr ⟨n, a, f⟩
def spSModel (C D : Addr) : Sp := fun vs H Q _ => ∃ (v : V) (ws ss : List (Str → Int)), vs = [v] ∧ SfAt C D H v ws ss ∧ RwOk (baseR ws ss) ∧ ∀ v' H', Ex H H' → NumsAt H' v' (baseR ws ss) → Q v' H'
theorem scSModel : FnScope ["self"] ["self"] (defScope sSModel) := ⟨rfl, rfl, rfl, by decide +kernel, rfl, by decide +kernel, by decide +kernel⟩
theorem ok_smodel (T : Tx w K mg) : FnR P w K mg base CX0 4 (He.ma K (He.ga K "SizeFacts") "model") (spSModel (He.ga K "SizeFacts") (He.ga K "Claim")) := by
  have G := ok_solve (P := P) (base := base) T
  refine fnr (T.fnM1 6 dSModel rfl) rfl scSModel (fun _ _ _ _ _ _ us hl => match us, hl with | [_], _ => rfl) (fun vs H Q E h => ?_) (fun cdv A outer s H vs Q E hr h => ?_)
  · obtain ⟨_, _, _, rfl, _⟩ := h
    rfl
  · obtain ⟨v, ws, ss, rfl, hS, ok, k⟩ := h
    have cS := T.c "SizeFacts"
    have mS := T.meth "SizeFacts" "solve" (by decide +kernel)
    refine ⟨_, pss_one (ps_ret (pe_ix ix_tup (pe_methR (pv 0) cS mS G hr pass0 (pa_cons (pe_lst pa_nil) (pa_cons (pe_lst pa_nil) pa_nil))) pe_int (fun _ _ => rfl))), ?_⟩
    obtain ⟨p, dx, a, c, us, vs, rfl, hp, _⟩ := id hS
    refine ⟨_, rfl, p, dx, _, rfl, hp, sf2_no _ _ (by decide +kernel) (by decide +kernel), ?_⟩
    refine ⟨Nat.zero_le _, fun rl nrl => ⟨Nat.zero_le _, fun nl nnl => ?_⟩⟩
    have e1 : Ex H (upd H rl (.lst [])) := Evl.Ex.new nrl
    have e2 : Ex (upd H rl (.lst [])) (upd (upd H rl (.lst [])) nl (.lst [])) := Evl.Ex.new nnl
    refine ⟨.ref p, rl, nl, [], ws, ss, [], rfl, hS.ex (e1.trans e2), e2 rl _ upd_same, upd_same, ⟨rfl, fun i v t hv ht => by simp at hv⟩, by rw [List.append_nil]; exact ok, fun v' H' e' hs => ?_⟩
    rw [List.append_nil] at hs
    obtain ⟨t, x, y, rfl, ht, hn⟩ := res_num (K := K) hs
    exact ⟨t, _, _, x, rfl, rfl, ht, rfl, k x H' ((e1.trans e2).trans e') hn⟩
/-! ### counter, follows -/
def spCounter (C D : Addr) : Sp := fun vs H Q _ => ∃ (v u : V) (b : Bool) (ws ss : List (Str → Int)) (f : Str → Int), vs = [v, u, .bl b] ∧ SfAt C D H v ws ss ∧ ClAt D H u f ∧ RwOk (baseR ws ss ++ [agR f b]) ∧
  ∀ v' H', Ex H H' → NumsAt H' v' (baseR ws ss ++ [agR f b]) → Q v' H'
abbrev nCounter : List Str := ["self", "claim", "strict"]
theorem scCounter : FnScope nCounter ["self", "claim", "strict"] (defScope sCounter) := ⟨rfl, rfl, rfl, by decide +kernel, rfl, by decide +kernel, by decide +kernel⟩
theorem ok_counter (T : Tx w K mg) : ∃ fd, FunD K dCounter.name dCounter.qual dCounter.params dCounter.body dCounter.scope (dCounter.dvs K) (dCounter.kws K) (He.fAd K dCounter.at_) fd ∧
    FnOk P w K mg base CX0 5 (He.fAd K dCounter.at_) fd ["self", "claim", "strict"] (spCounter (He.ga K "SizeFacts") (He.ga K "Claim")) := by
  have G := ok_against (P := P) (base := base) T
  refine fnO (T.fnM1 7 dCounter rfl) scCounter (fun vs H Q E h => ?_) (fun cdv A outer s H vs Q E hr h => ?_)
  · obtain ⟨_, _, _, _, _, _, rfl, _⟩ := h
    rfl
  · obtain ⟨v, u, b, ws, ss, f, rfl, hS, hC, ok, k⟩ := h
    have cS := T.c "SizeFacts"
    have mA := T.meth "SizeFacts" "against" (by decide +kernel)
    refine ⟨_, pss_one (ps_ret (pe_ix ix_tup (pe_methR (pv 0) cS mA G hr pass0 (pa_cons (pv 1) (pa_cons (pv 2) pa_nil))) pe_int (fun _ _ => rfl))), ?_⟩
    obtain ⟨p, dx, a, c, us, vs, rfl, hp, _⟩ := id hS
    refine ⟨_, rfl, p, dx, _, rfl, hp, sf2_no _ _ (by decide +kernel) (by decide +kernel), _, rfl, _, rfl, .ref p, u, b, ws, ss, f, rfl, hS, hC, ok, fun v' H' e' hs => ?_⟩
    obtain ⟨t, x, y, rfl, ht, hn⟩ := res_num (K := K) hs
    exact ⟨t, _, _, x, rfl, rfl, ht, rfl, k x H' e' hn⟩
theorem ok_counterA (T : Tx w K mg) : FnR P w K mg base CX0 5 (He.ma K (He.ga K "SizeFacts") "counter") (spCounter (He.ga K "SizeFacts") (He.ga K "Claim")) := by
  obtain ⟨fd, F, O⟩ := ok_counter (P := P) (base := base) T
  exact fnO_all (dv := .bl false) F O rfl (fun T kV doc pm an cdv ct us its h1 h2 => match us, h1 with | [_, _, _], _ => ⟨_, rfl, match its, h2 with | [_], _ => rfl⟩)
theorem ok_counterD (T : Tx w K mg) : FnR P w K mg base CX0 5 (He.ma K (He.ga K "SizeFacts") "counter") (fun vs H Q E => spCounter (He.ga K "SizeFacts") (He.ga K "Claim") (vs ++ [.bl false]) H Q E) := by
  obtain ⟨fd, F, O⟩ := ok_counter (P := P) (base := base) T
  exact fnO_dfl (dv := .bl false) (n := 2) F O rfl rfl (fun T kV doc pm an cdv ct us its h1 h2 => match us, h1 with | [_, _], _ => ⟨_, rfl, match its, h2 with | [_], _ => rfl⟩)
theorem ok_counterK (T : Tx w K mg) : ∃ fd, FnOk P w K mg base CX0 5 (He.ma K (He.ga K "SizeFacts") "counter") fd ["self", "claim", "strict"] (spCounter (He.ga K "SizeFacts") (He.ga K "Claim")) ∧ KBn K fd ["self", "claim", "strict"] 2 ["strict"] (fun us ws => us ++ ws) (fun vs zs => vs ++ zs) := by
  obtain ⟨fd, F, O⟩ := ok_counter (P := P) (base := base) T
  exact ⟨fd, O, fnO_kw (dv := .bl false) (n := 2) F rfl (fun T kV doc pm an cdv ct us its ws h1 h2 h3 => match us, h1, ws, h3 with | [_, _], _, [_], _ => ⟨_, rfl, match its, h2 with | [_], _ => rfl⟩)⟩
def spFollows (C D : Addr) : Sp := fun vs H Q _ => ∃ (v u : V) (b : Bool) (ws ss : List (Str → Int)) (f : Str → Int), vs = [v, u, .bl b] ∧ SfAt C D H v ws ss ∧ ClAt D H u f ∧ RwOk (baseR ws ss ++ [agR f b]) ∧
  ∀ (c : Bool) H', Ex H H' → (c = true ↔ ¬ ∃ n, Fit (baseR ws ss ++ [agR f b]) n) → Q (.bl c) H'
theorem scFollows : FnScope nCounter ["self", "claim", "strict"] (defScope sFollows) := ⟨rfl, rfl, rfl, by decide +kernel, rfl, by decide +kernel, by decide +kernel⟩
theorem ok_follows (T : Tx w K mg) : ∃ fd, FunD K dFollows.name dFollows.qual dFollows.params dFollows.body dFollows.scope (dFollows.dvs K) (dFollows.kws K) (He.fAd K dFollows.at_) fd ∧
    FnOk P w K mg base CX0 6 (He.fAd K dFollows.at_) fd ["self", "claim", "strict"] (spFollows (He.ga K "SizeFacts") (He.ga K "Claim")) := by
  have G := ok_counterA (P := P) (base := base) T
  refine fnO (T.fnM1 8 dFollows rfl) scFollows (fun vs H Q E h => ?_) (fun cdv A outer s H vs Q E hr h => ?_)
  · obtain ⟨_, _, _, _, _, _, rfl, _⟩ := h
    rfl
  · obtain ⟨v, u, b, ws, ss, f, rfl, hS, hC, ok, k⟩ := h
    have cS := T.c "SizeFacts"
    have mA := T.meth "SizeFacts" "counter" (by decide +kernel)
    refine ⟨_, pss_one (ps_ret (pe_cmpR op_isN (pe_methR (pv 0) cS mA G hr pass0 (pa_cons (pv 1) (pa_cons (pv 2) pa_nil))) pe_non (nomark _))), ?_⟩
    obtain ⟨p, dx, a, c, us, vs, rfl, hp, _⟩ := id hS
    refine ⟨_, rfl, p, dx, _, rfl, hp, sf2_no _ _ (by decide +kernel) (by decide +kernel), _, rfl, _, rfl, .ref p, u, b, ws, ss, f, rfl, hS, hC, ok, fun v' H' e' hs => ⟨rfl, ?_⟩⟩
    rcases hs with ⟨rfl, no⟩ | ⟨n, ⟨d, rfl, hd⟩, hf⟩
    · exact k _ H' e' ⟨fun _ => no, fun _ => decide_eq_true rfl⟩
    · exact k _ H' e' ⟨fun h => by simp at h, fun h => absurd ⟨n, hf⟩ h⟩
theorem ok_followsD (T : Tx w K mg) : FnR P w K mg base CX0 6 (He.ma K (He.ga K "SizeFacts") "follows") (fun vs H Q E => spFollows (He.ga K "SizeFacts") (He.ga K "Claim") (vs ++ [.bl false]) H Q E) := by
  obtain ⟨fd, F, O⟩ := ok_follows (P := P) (base := base) T
  exact fnO_dfl (dv := .bl false) (n := 2) F O rfl rfl (fun T kV doc pm an cdv ct us its h1 h2 => match us, h1 with | [_, _], _ => ⟨_, rfl, match its, h2 with | [_], _ => rfl⟩)
theorem ok_followsK (T : Tx w K mg) : ∃ fd, FnOk P w K mg base CX0 6 (He.ma K (He.ga K "SizeFacts") "follows") fd ["self", "claim", "strict"] (spFollows (He.ga K "SizeFacts") (He.ga K "Claim")) ∧ KBn K fd ["self", "claim", "strict"] 2 ["strict"] (fun us ws => us ++ ws) (fun vs zs => vs ++ zs) := by
  obtain ⟨fd, F, O⟩ := ok_follows (P := P) (base := base) T
  exact ⟨fd, O, fnO_kw (dv := .bl false) (n := 2) F rfl (fun T kV doc pm an cdv ct us its ws h1 h2 h3 => match us, h1, ws, h3 with | [_, _], _, [_], _ => ⟨_, rfl, match its, h2 with | [_], _ => rfl⟩)⟩
end
end HX
end

section
set_option Elab.async false
set_option linter.all false
set_option maxRecDepth 100000
set_option maxHeartbeats 4000000
/-! SizeFacts: keep, told_weights, clash_weights. -/
namespace HX
open PySem PySem.Spec PyProof.Rows L2
open Evl (Ex)
def keepB (ws ss : List (Str → Int)) (n : Str → Int) : Bool := (ws.all fun f => decide (0 ≤ tot f n)) && ss.all fun f => decide (0 < tot f n)
theorem AllAt.getF {R : Hp → V → (Str → Int) → Prop} {H : Hp} {vs : List V} {l : List (Str → Int)} (h : AllAt R H vs l) {i : Nat} {v : V} (hv : vs[i]? = some v) : R H v (l.getD i fun _ => 0) ∧ l.getD i (fun _ => 0) ∈ l := by
  obtain ⟨a, ha, r⟩ := h.get hv
  rw [getD_at ha]
  exact ⟨r, List.mem_of_getElem? ha⟩
section
variable {P : Program} {w : World} {K : PySem.W.Frag} {mg : Str → Option Value} {base : Heap}
def spKeep (C D : Addr) : Sp := fun vs H Q _ => ∃ (v u : V) (ws ss : List (Str → Int)) (n : Str → Int), vs = [v, u] ∧ SfAt C D H v ws ss ∧ NumAt H u n ∧ (∀ k, 0 ≤ n k) ∧ (∀ f ∈ ws, SmallF f) ∧ (∀ f ∈ ss, SmallF f) ∧ ws.length ≤ 10 ∧ ss.length ≤ 10 ∧ ∀ H', Ex H H' → Q (.bl (keepB ws ss n)) H'
abbrev nKeep : List Str := ["self", "numbers", "whole", "claim"]
theorem scKeep : FnScope nKeep ["self", "numbers"] (defScope sKeep) := ⟨rfl, rfl, rfl, by decide +kernel, rfl, by decide +kernel, by decide +kernel⟩
theorem ok_keep (T : Tx w K mg) : FnR P w K mg base CX0 4 (He.ma K (He.ga K "SizeFacts") "keep") (spKeep (He.ga K "SizeFacts") (He.ga K "Claim")) := by
  have GF := ok_full (P := P) (base := base) T
  have GT := ok_total (P := P) (base := base) T
  refine fnr (T.fnM1 3 dKeep rfl) rfl scKeep (fun _ _ _ _ _ _ us hl => match us, hl with | [_, _], _ => rfl) (fun vs H Q E h => ?_) (fun cdv A outer s H vs Q E hr h => ?_)
  · obtain ⟨_, _, _, _, _, rfl, _⟩ := h
    rfl
  · obtain ⟨v, u, ws, ss, n, rfl, ⟨p, dx, a, b, us, vs, rfl, hp, ha, hb, hU, hV⟩, hn, hn0, hw, hs, lw, ls, k⟩ := h
    have nd := scKeep.nd
    have cS := T.c "SizeFacts"
    have cC := T.c "Claim"
    have nW := T.noat "SizeFacts" "weak" (by decide +kernel)
    have nS := T.noat "SizeFacts" "strict" (by decide +kernel)
    have mT := T.meth "Claim" "total" (by decide +kernel)
    have hr2 : Room 2 _ := hr.mono (by decide)
    refine ⟨_, pss_cons (ps_asg (pe_cR GF hr2 (T.g "full_numbers") (T.k "full_numbers") pass0 (pa_cons (pv 1) pa_nil)) (pg_name (i := 2) nd rfl (Or.inr rfl)))
      (pss_cons (ps_if (pt_not (pt_val (pe_callB (r := rAll K) (cr_all rfl) (by rfl) (T.f "all") (by decide +kernel) (pa_cons
          (pe_lc (own := [("claim", 3)]) rfl nd (pi_tup (pe_fld (pv 0) rfl)) (blkOk_by (own := [("claim", 3)]) (N := nKeep) (sc := defScope sKeep) (by decide +kernel)) (fun _ _ _ _ _ => pg_name (i := 3) nd rfl (Or.inl rfl)) (fun _ _ _ _ _ => pts_nil)
            (fun _ _ _ _ _ => pe_cmpR op_ge (pe_methR (pv 3) cC mT GT hr pass0 (pa_cons (pv 2) pa_nil)) pe_int (nomark _))) pa_nil)))) (pss_one (ps_ret pe_bl)) pss_nil)
      (pss_one (ps_ret (pe_callB (r := rAll K) (cr_all rfl) (by rfl) (T.f "all") (by decide +kernel) (pa_cons
          (pe_lc (own := [("claim", 3)]) rfl nd (pi_tup (pe_fld (pv 0) rfl)) (blkOk_by (own := [("claim", 3)]) (N := nKeep) (sc := defScope sKeep) (by decide +kernel)) (fun _ _ _ _ _ => pg_name (i := 3) nd rfl (Or.inl rfl)) (fun _ _ _ _ _ => pts_nil)
            (fun _ _ _ _ _ => pe_cmpR op_gt (pe_methR (pv 3) cC mT GT hr pass0 (pa_cons (pv 2) pa_nil)) pe_int (nomark _))) pa_nil))))), ?_⟩
    refine ⟨_, rfl, u, n, rfl, hn, hn0, fun v1 H1 e1 h1 => ?_⟩
    refine ⟨_, rfl, p, _, dx, _, _, rfl, e1 p _ hp, cS, nW, sf2_weak _ _, a, rfl, ⟨_, SqT.of (e1 a _ ha)⟩, fun D nD => lc_val (walk_tup (xs := us)) (fun j => .bl ((fun f : Str → Int => decide (0 ≤ tot f n)) (ws.getD j fun _ => 0))) nD (by rw [hU.1]; omega) (fun H e => SqT.of (e a _ (e1 a _ ha))) (fun j x H0 H' Qe hj e2 y kq => ?_) (fun H2 e2 hD => ?_)⟩
    · obtain ⟨rfl, hx⟩ := y
      obtain ⟨hcl, hm⟩ := hU.getF hx
      obtain ⟨q, dq, t, d, rfl, hq, hd⟩ := id hcl
      have e3 := e1.trans e2
      refine ⟨rfl, _, rfl, q, dq, _, rfl, e3 q _ hq, cf2_no _ _ (by decide +kernel) (by decide +kernel), _, rfl, .ref q, v1, _, n, rfl, hcl.mono (.of e3), hw _ hm, h1.mono (.of e2), hn0, fun H4 e4 => ?_⟩
      exact ⟨_, _, rfl, rfl, kq H4 e4⟩
    have e2' := e1.trans e2
    refine ⟨D, ws.map fun f => decide (0 ≤ tot f n), rfl, SqL.of ?_, _, rfl, ?_⟩
    · rw [hD, hU.1, range_getD ws (fun _ => 0) (fun f => V.bl (decide (0 ≤ tot f n))), List.map_map]
      rfl
    have eall : ((ws.map fun f => decide (0 ≤ tot f n)).all id) = ws.all fun f => decide (0 ≤ tot f n) := by rw [List.all_map]; rfl
    rw [eall]
    cases c : (ws.all fun f => decide (0 ≤ tot f n)) with
    | false =>
      refine ite_t rfl ?_
      have := k H2 e2'
      unfold keepB at this
      rw [c] at this
      exact this
    | true =>
      refine ite_f rfl ?_
      refine ⟨_, rfl, p, _, dx, _, _, rfl, e2' p _ hp, cS, nS, sf2_strict _ _, b, rfl, ⟨_, SqT.of (e2' b _ hb)⟩, fun D2 nD2 => lc_val (walk_tup (xs := vs)) (fun j => .bl ((fun f : Str → Int => decide (0 < tot f n)) (ss.getD j fun _ => 0))) nD2 (by rw [hV.1]; omega) (fun H e => SqT.of (e b _ (e2' b _ hb))) (fun j x H0 H' Qe hj e3 y kq => ?_) (fun H3 e3 hD2 => ?_)⟩
      · obtain ⟨rfl, hx⟩ := y
        obtain ⟨hcl, hm⟩ := hV.getF hx
        obtain ⟨q, dq, t, d, rfl, hq, hd⟩ := id hcl
        have e4 := e2'.trans e3
        refine ⟨rfl, _, rfl, q, dq, _, rfl, e4 q _ hq, cf2_no _ _ (by decide +kernel) (by decide +kernel), _, rfl, .ref q, v1, _, n, rfl, hcl.mono (.of e4), hs _ hm, (h1.mono (.of e2)).mono (.of e3), hn0, fun H4 e4 => ?_⟩
        exact ⟨_, _, rfl, rfl, kq H4 e4⟩
      · refine ⟨D2, ss.map fun f => decide (0 < tot f n), rfl, SqL.of ?_, ?_⟩
        · rw [hD2, hV.1, range_getD ss (fun _ => 0) (fun f => V.bl (decide (0 < tot f n))), List.map_map]
          rfl
        · have := k H3 (e2'.trans e3)
          unfold keepB at this
          rw [c] at this
          have eall : ((ss.map fun f => decide (0 < tot f n)).all id) = ss.all fun f => decide (0 < tot f n) := by rw [List.all_map]; rfl
          rw [eall]
          exact this
end
end HX
end

section
set_option Elab.async false
set_option linter.all false
set_option maxRecDepth 100000
set_option maxHeartbeats 4000000
/-! SizeFacts: told_weights, clash_weights. -/
namespace HX
open PySem PySem.Spec PyProof.Rows L2
open Evl (Ex)
section
variable {P : Program} {w : World} {K : PySem.W.Frag} {mg : Str → Option Value} {base : Heap}
def spTold (C D : Addr) : Sp := fun vs H Q _ => ∃ (v u : V) (am : Addr) (ns : List Int) (ws ss : List (Str → Int)) (f : Str → Int), vs = [v, u, .int 0, .ref am] ∧ SfAt C D H v ws ss ∧ ClAt D H u f ∧ H am = some (.lst (ns.map V.int)) ∧ ns.length = ws.length + ss.length ∧ ns.length ≤ 100 ∧ (∀ f ∈ ws, SmallF f) ∧ (∀ f ∈ ss, SmallF f) ∧
  ∀ p H', Ex H H' → Q (.ref p) H'
abbrev nTold : List Str := ["self", "claim", "scale", "amounts", "weak", "strict", "rest", "kind", "used", "amount", "other"]
theorem scTold : FnScope nTold ["self", "claim", "scale", "amounts"] (defScope sTold) := ⟨rfl, rfl, rfl, by decide +kernel, rfl, by decide +kernel, by decide +kernel⟩
theorem ok_told (T : Tx w K mg) : FnR P w K mg base CX0 1 (He.ma K (He.ga K "SizeFacts") "told_weights") (spTold (He.ga K "SizeFacts") (He.ga K "Claim")) := by
  refine fnr (T.fnM1 9 dTold rfl) rfl scTold (fun _ _ _ _ _ _ us hl => match us, hl with | [_, _, _, _], _ => rfl) (fun vs H Q E h => ?_) (fun cdv A outer s H vs Q E hr h => ?_)
  · obtain ⟨_, _, _, _, _, _, _, rfl, _⟩ := h
    rfl
  · obtain ⟨v, u, am, ns, ws, ss, f, rfl, ⟨p, dx, a, b, us, vs, rfl, hp, ha, hb, hU, hV⟩, ⟨q, dq, t, d, rfl, hq, hd⟩, ham, hnl, hnl2, hw, hs, k⟩ := h
    have nd := scTold.nd
    have hu := hu_of hr
    have cS := T.c "SizeFacts"
    have cC := T.c "Claim"
    have nW := T.noat "SizeFacts" "weak" (by decide +kernel)
    have nS := T.noat "SizeFacts" "strict" (by decide +kernel)
    have nU := T.noat "Claim" "sums" (by decide +kernel)
    refine ⟨_, pss_cons (ps_asg (pe_slice sl_list (pv 3) po_none (po_some (pe_callB call_len_seq (by rfl) (T.f "len") PySem.boot_len (pa_cons (pe_fld (pv 0) rfl) pa_nil)))) (pg_name (i := 4) nd rfl (Or.inl rfl)))
      (pss_cons (ps_asg (pe_slice sl_list (pv 3) (po_some (pe_callB call_len_seq (by rfl) (T.f "len") PySem.boot_len (pa_cons (pe_fld (pv 0) rfl) pa_nil))) po_none) (pg_name (i := 5) nd rfl (Or.inl rfl)))
      (pss_cons (ps_asg pe_dnewK (pg_name (i := 6) nd rfl (Or.inl rfl)))
      (pss_cons (ps_for PassesOwn.never rfl (pi_tup (pe_glob (v := .ref (He.ga K "KINDS")) rfl (T.g "KINDS") rfl)) (pg_name (i := 7) nd rfl (Or.inr rfl))
        (pss_cons (ps_setLc (i := 8) (own := [("amount", 9), ("other", 10)]) rfl nd rfl rfl (sw_true rfl rfl rfl (by decide +kernel)) (pi_zipM rfl (T.f "zip") (pa_cons (pv 3) (pa_cons (pe_tup (StX.pa_star (pe_fld (pv 0) rfl) (StX.pa_star (pe_fld (pv 0) rfl) pa_nil))) pa_nil))) (blkOk_by (own := [("amount", 9), ("other", 10)]) (N := nTold) (sc := defScope sTold) (by decide +kernel))
          (fun _ _ _ _ _ => pg_tupK (K := K) rfl (n := 2) rfl (pgs_cons (pg_name (i := 9) nd rfl (Or.inl rfl)) (pgs_cons (pg_name (i := 10) nd rfl (Or.inl rfl)) pgs_nil))) (fun _ _ _ _ _ => pts_nil)
          (fun _ _ _ _ _ => pe_op op_mul (pv 9) (pe_dget hu (pe_fldK (K := K) rfl (pv 10) rfl) (pv 7) (fun _ _ => rfl))))
        (pss_one (ps_dput hu (pv 6) (pv 7) (pe_op op_sub (pe_op op_mul (pv 2) (pe_dget hu (pe_fld (pv 1) rfl) (pv 7) (fun _ _ => rfl))) (pe_callB (r := rSum K) (cr_sum rfl) (by rfl) (T.f "sum") (by decide +kernel) (pa_cons (pv 8) pa_nil))) rfl))))
      (pss_one (ps_ret (pe_tup (pa_cons (pv 2) (pa_cons (pv 4) (pa_cons (pv 5) (pa_cons (pv 6) pa_nil)))))))))), ?_⟩
    have lu : us.length = ws.length := hU.1
    have lv : vs.length = ss.length := hV.1
    refine ⟨_, rfl, _, rfl, p, _, dx, _, _, rfl, hp, cS, nW, sf2_weak _ _, a, us, rfl, .inr (SqT.of ha), _, rfl, am, _, rfl, SqL.of ham, fun D1 nD1 => ?_⟩
    have e1 : Ex H (upd H D1 (.lst (cutV (ns.map V.int) none (some ((us.length : Nat) : Int))))) := Evl.Ex.new nD1
    generalize (upd H D1 (.lst (cutV (ns.map V.int) none (some ((us.length : Nat) : Int))))) = H1 at e1
    refine ⟨_, rfl, _, rfl, p, _, dx, _, _, rfl, e1 p _ hp, cS, nW, sf2_weak _ _, a, us, rfl, .inr (SqT.of (e1 a _ ha)), _, rfl, am, _, rfl, SqL.of (e1 am _ ham), fun D2 nD2 => ?_⟩
    have e2 : Ex H (upd H1 D2 (.lst (cutV (ns.map V.int) (some ((us.length : Nat) : Int)) none))) := e1.trans (Evl.Ex.new nD2)
    generalize (upd H1 D2 (.lst (cutV (ns.map V.int) (some ((us.length : Nat) : Int)) none))) = H2 at e2
    refine fun D3 nD3 => ?_
    have e3 := e2.trans (Evl.Ex.new (o := .dK []) nD3)
    have nD30 : H D3 = none := by
      cases hF : H D3 with
      | none => rfl
      | some o => rw [e2 D3 _ hF] at nD3; cases nD3
    have hlen : (us ++ vs).length = ns.length := by rw [List.length_append, lu, lv]; exact hnl.symm
    have hUV : AllAt (ClAt (He.ga K "Claim")) H (us ++ vs) (ws ++ ss) := hU.app hV
    have hsm : ∀ f ∈ ws ++ ss, SmallF f := fun f hf => (List.mem_append.mp hf).elim (hw f) (hs f)
    refine ⟨_, rfl, ⟨_, T.kinds _⟩, ?_⟩
    refine for_it (walk_tup (xs := kinds.map V.str)) (fun i σ H' => Ex H H' ∧ (∃ kvs, H' D3 = some (.dK kvs) ∧ kvs.length ≤ i) ∧ ∃ x7 x8 x9 x10, σ = [some (.ref p), some (.ref q), some (.int 0), some (.ref am), some (.ref D1), some (.ref D2), some (.ref D3), x7, x8, x9, x10])
      ⟨e3, ⟨[], upd_same, Nat.le_refl _⟩, none, none, none, none, rfl⟩ (fun i σ H' _ h => T.kinds H') (fun i x σ H4 H' hi hp' y => ?_) (fun σ H4 hp' => ?_)
    · obtain ⟨rfl, hx⟩ := y
      obtain ⟨hi9, rfl, hm⟩ := kAt_some hx
      obtain ⟨e4, ⟨kvs, hD3, hkl⟩, x7, x8, x9, x10, rfl⟩ := hp'
      refine ⟨_, rfl, _, rfl, p, _, dx, _, _, rfl, e4 p _ hp, cS, nW, sf2_weak _ _, a, us, rfl, .inl (SqT.of (e4 a _ ha)), _, rfl, p, _, dx, _, _, rfl, e4 p _ hp, cS, nS, sf2_strict _ _, b, vs, rfl, .inl (SqT.of (e4 b _ hb)), ?_, fun t1 nt1 => ?_⟩
      · show (us ++ (vs ++ [])).length ≤ 2 ^ 24
        rw [List.append_nil, hlen]
        omega
      rw [List.append_nil]
      have x5 : Ex H' (upd H' t1 (.tup (us ++ vs))) := Evl.Ex.new nt1
      have ht1 : (upd H' t1 (.tup (us ++ vs))) t1 = some (.tup (us ++ vs)) := upd_same
      generalize (upd H' t1 (.tup (us ++ vs))) = H5 at x5 ht1
      have e5 := e4.trans x5
      refine ⟨am, t1, _, _, rfl, SqL.of (e5 am _ ham), SqT.of ht1, fun D nD => lc_val (walk_zipM (n := ns.length) (by simp) (by rw [hlen])) (fun j => .int (ns.getD j 0 * ((ws ++ ss).getD j fun _ => 0) (kAt i))) nD (by omega) (fun H e => ⟨SqL.of (e am _ (e5 am _ ham)), SqT.of (e t1 _ ht1)⟩) (fun j x H0 H'' Qe hj e6 y kq => ?_) (fun H6 e6 hD => ?_)⟩
      · obtain ⟨T2, z1, z2, rfl, nT2, rfl, q1, q2⟩ := y
        replace q1 : (ns.map V.int)[j]? = some z1 := q1
        replace q2 : (us ++ vs)[j]? = some z2 := q2
        have en : ns[j]? = some (ns.getD j 0) := by rw [List.getD_eq_getElem?_getD, List.getElem?_eq_getElem hj]; rfl
        rw [List.getElem?_map, en] at q1
        obtain rfl := Option.some.inj q1
        obtain ⟨hcl, hmem⟩ := hUV.getF q2
        obtain ⟨q', dq', t', d', rfl, hq', hd'⟩ := hcl
        have x7 : Ex H0 (upd H0 T2 (.tup [.int (ns.getD j 0), .ref q'])) := Evl.Ex.new nT2
        have e7 := (e5.trans e6).trans x7
        have g := DGet.k (k := Sum.inr (kAt i)) (e7 d' _ hd')
        rw [d9_at _ hm] at g
        have sm := hsm _ hmem (kAt i)
        exact ⟨T2, _, rfl, SqT.of upd_same, rfl, _, _, rfl, _, _, rfl, rfl, rfl, _, rfl, _, rfl, q', _, dq', _, _, rfl, e7 q' _ hq', cC, nU, cf2_sums _ _, _, rfl, d', _, rfl, g, _, _, rfl, rfl, .inr ⟨by omega, by omega⟩, kq _ x7⟩
      · have e7 := e5.trans e6
        have g := DGet.k (k := Sum.inr (kAt i)) (e7 d _ hd)
        rw [d9_at _ hm] at g
        have hD3' := e6 D3 _ (x5 D3 _ hD3)
        refine ⟨_, rfl, _, rfl, q, _, dq, _, _, rfl, e7 q _ hq, cC, nU, cf2_sums _ _, _, rfl, d, _, rfl, g, _, _, rfl, rfl, .inl ⟨by decide, by decide⟩, _, rfl, D, (List.range ns.length).map fun j => ns.getD j 0 * ((ws ++ ss).getD j fun _ => 0) (kAt i), rfl, SqL.of ?_, _, _, rfl, rfl, _, rfl, _, rfl, D3, _, rfl, DPut.k (k := Sum.inr (kAt i)) hD3' (Evl.sz_lt (by omega)), ?_⟩
        · rw [hD, List.map_map]
          rfl
        · refine ⟨Evl.Ex.mut e7 nD30, ⟨_, upd_same, ?_⟩, _, _, _, _, rfl⟩
          have : ∀ (l : List (Key × V)) (k : Key) (v : V), (putK l k v).length ≤ l.length + 1 := by
            intro l k v
            unfold putK
            split <;> simp
          exact Nat.le_trans (this _ _ _) (Nat.succ_le_succ hkl)
    · obtain ⟨e4, _, x7, x8, x9, x10, rfl⟩ := hp'
      exact ⟨_, rfl, _, rfl, _, rfl, _, rfl, by show 4 ≤ sizeLine; decide, fun t nt => k t _ (e4.trans (Evl.Ex.new nt))⟩
end
end HX
end

section
set_option Elab.async false
set_option linter.all false
set_option maxRecDepth 100000
set_option maxHeartbeats 4000000
/-! SizeFacts: clash_weights. -/
namespace HX
open PySem PySem.Spec PyProof.Rows L2
open Evl (Ex)
section
variable {P : Program} {w : World} {K : PySem.W.Frag} {mg : Str → Option Value} {base : Heap}
def spClashW (C D : Addr) : Sp := fun vs H Q _ => ∃ (v : V) (ws ss : List (Str → Int)), vs = [v] ∧ SfAt C D H v ws ss ∧ RwOk (baseR ws ss) ∧
  ∀ v' H', Ex H H' → ((v' = .non ∧ ∃ n, Fit (baseR ws ss) n) ∨ ((∃ p, v' = .ref p) ∧ ¬ ∃ n, Fit (baseR ws ss) n)) → Q v' H'
abbrev nClashW : List Str := ["self", "amounts"]
theorem scClashW : FnScope nClashW ["self"] (defScope sClashW) := ⟨rfl, rfl, rfl, by decide +kernel, rfl, by decide +kernel, by decide +kernel⟩
theorem ok_clashW (T : Tx w K mg) : FnR P w K mg base CX0 27 (He.ma K (He.ga K "SizeFacts") "clash_weights") (spClashW (He.ga K "SizeFacts") (He.ga K "Claim")) := by
  have G := ok_solve (P := P) (base := base) T
  have GT := ok_told (P := P) (base := base) T
  have GI := ok_claimI (P := P) (base := base) T
  refine fnr (T.fnM1 10 dClashW rfl) rfl scClashW (fun _ _ _ _ _ _ us hl => match us, hl with | [_], _ => rfl) (fun vs H Q E h => ?_) (fun cdv A outer s H vs Q E hr h => ?_)
  · obtain ⟨_, _, _, rfl, _⟩ := h
    rfl
  · obtain ⟨v, ws, ss, rfl, hS, ok, k⟩ := h
    have nd := scClashW.nd
    have cS := T.c "SizeFacts"
    have mS := T.meth "SizeFacts" "solve" (by decide +kernel)
    have mT := T.meth "SizeFacts" "told_weights" (by decide +kernel)
    have hr3 : Room 3 _ := hr.mono (by decide)
    have hr1 : Room 1 _ := hr.mono (by decide)
    refine ⟨_, pss_cons (ps_asg (pe_ix ix_tup (pe_methR (pv 0) cS mS G hr3 pass0 (pa_cons (pe_lst pa_nil) (pa_cons (pe_lst pa_nil) pa_nil))) pe_int (fun _ _ => rfl)) (pg_name (i := 1) nd rfl (Or.inl rfl)))
      (pss_one (ps_ret (pe_ifExp (pt_cmpR op_isN (pv 1) pe_non (nomark _)) pe_non
        (pe_methR (pv 0) cS mT GT hr1 pass0 (pa_cons (StX.pe_makeR (T.mkc "Claim") GI hr rfl (T.g "Claim") pass0 (pa_cons (pe_lst pa_nil) pa_nil)) (pa_cons pe_int (pa_cons (pv 1) pa_nil))))))), ?_⟩
    obtain ⟨p, dx, a, c, us, vs, rfl, hp, _⟩ := id hS
    have no1 : (sf2 a c).lookup ("solve" : Str) = none := sf2_no _ _ (by decide +kernel) (by decide +kernel)
    refine ⟨_, rfl, p, dx, _, rfl, hp, no1, ?_⟩
    refine ⟨Nat.zero_le _, fun rl nrl => ⟨Nat.zero_le _, fun nl nnl => ?_⟩⟩
    have e1 : Ex H (upd H rl (.lst [])) := Evl.Ex.new nrl
    have e2 : Ex (upd H rl (.lst [])) (upd (upd H rl (.lst [])) nl (.lst [])) := Evl.Ex.new nnl
    refine ⟨.ref p, rl, nl, [], ws, ss, [], rfl, hS.ex (e1.trans e2), e2 rl _ upd_same, upd_same, ⟨rfl, fun i v t hv ht => by simp at hv⟩, by rw [List.append_nil]; exact ok, fun v' H' e' hs => ?_⟩
    rw [List.append_nil] at hs
    have e3 := (e1.trans e2).trans e'
    obtain ⟨t, x, y, rfl, ht, h2⟩ := hs
    have bl : (baseR ws ss).length = ws.length + ss.length := by simp [baseR]
    have sw : ∀ f ∈ ws, SmallF f := fun f hf k => by
      have := ok.row (f, 0) (List.mem_append_left _ (List.mem_map.mpr ⟨f, hf, rfl⟩)) k
      exact ⟨by have := this.1; show -1000 ≤ f k; have h : (-2 : Int) ≤ f k := this; omega, by have h : f k ≤ (2 : Int) := this.2; omega⟩
    have sst : ∀ f ∈ ss, SmallF f := fun f hf k => by
      have := ok.row (f, 1) (List.mem_append_right _ (List.mem_map.mpr ⟨f, hf, rfl⟩)) k
      exact ⟨by have h : (-2 : Int) ≤ f k := this.1; omega, by have h : f k ≤ (2 : Int) := this.2; omega⟩
    rcases h2 with ⟨rfl, no, q, ns, rfl, hq, hnl⟩ | ⟨rfl, n, hn, hf⟩
    · refine ⟨t, _, 1, .ref q, rfl, rfl, SqT.of ht, rfl, _, rfl, rfl, _, rfl, ite_f rfl ?_⟩
      refine ⟨_, rfl, p, dx, _, rfl, e3 p _ hp, sf2_no _ _ (by decide +kernel) (by decide +kernel), Nat.zero_le _, fun l nl' => ?_⟩
      have e4 : Ex H' (upd H' l (.lst [])) := Evl.Ex.new nl'
      intro xx dx' nx ndx ne
      have e5 : Ex (upd H' l (.lst [])) (upd (upd (upd H' l (.lst [])) dx' (.own xx)) xx (.ins (He.ga K "Claim") dx' [])) := fun b o hb => by
        rw [upd_ne (ne_of_none hb nx), upd_ne (ne_of_none hb ndx)]; exact hb
      refine ⟨xx, dx', l, [], [], rfl, upd_same, e5 l _ upd_same, ⟨rfl, fun i v a hv ha => by simp at hv⟩, (by decide), (fun t ht => by cases ht), fun H2 kp hc => ⟨rfl, ?_⟩⟩
      have e6 : Ex H' H2 := fun b o hb => kp b o (e5 _ _ (e4 _ _ hb)) (ne_of_none (e4 _ _ hb) nx)
      refine ⟨_, rfl, .ref p, .ref xx, q, ns, ws, ss, _, rfl, hS.ex (e3.trans e6), hc, e6 q _ hq, by rw [hnl, bl], by rw [hnl]; exact Nat.le_trans ok.len (by decide), sw, sst, fun r H3 e7 => k _ H3 ((e3.trans e6).trans e7) (.inr ⟨⟨r, rfl⟩, no⟩)⟩
    · refine ⟨t, _, 1, .non, rfl, rfl, SqT.of ht, rfl, _, rfl, rfl, _, rfl, ite_t rfl ?_⟩
      exact k _ H' e3 (.inl ⟨rfl, n, hf⟩)
end
end HX
end

section
set_option Elab.async false
set_option linter.all false
set_option maxRecDepth 100000
set_option maxHeartbeats 4000000
/-! The two keyword-only __init__s. -/
namespace HX
open PySem PySem.Spec PyProof.Rows L2
open Evl (Ex)
/-- further defs of the top -/
structure Ty (w : World) (K : PySem.W.Frag) (mg : Str → Option Value) : Prop where
  sz : FnA K dSizesI
  fa : FnA K dFactsI
theorem kbn0 {K : PySem.W.Frag} {d : He.DefD} {ps : List Str} {n : Nat} {ks : List Str} {fd : FuncData} (F : FunD K d.name d.qual d.params d.body d.scope (d.dvs K) (d.kws K) (He.fAd K d.at_) fd) (hd : d.dfl = [])
    (h : ∀ (kV doc pm : Value) (an : Option Addr) (cdv ct : Value) (us ws : List Value), us.length = n → ws.length = ks.length → bindArgs (PySem.W.fnOf d.name d.qual d.params d.body d.scope .none kV doc pm an cdv ct) ⟨us, ks.zip ws⟩ = pure (ps.zip (us ++ ws))) :
    KBn K fd ps n ks (fun us ws => us ++ ws) (fun vs zs => vs ++ zs) := by
  have ed : d.dvs K = [] := by unfold He.DefD.dvs; rw [hd] <;> rfl
  rw [ed] at F
  obtain ⟨oc, od, dV, kV, doc, pm, an, cdv, ct, osl, rfl, lk, hcd, hD, hK⟩ := F.ex
  rcases hD with ⟨_, rfl⟩ | ⟨e, _⟩
  · exact ⟨fun s us ws X l1 l2 => .of_eq (h kV doc pm an cdv ct us ws l1 l2), fun r1 r2 => r1.append r2⟩
  · exact absurd rfl e
def rTupOf (K : PySem.W.Frag) : List V → Hp → VK → Prop := fun xs H Q => ∃ p ys, xs = [.ref p] ∧ ((SqL K H p ys ∧ ∀ l, H l = none → Q (.ref l) (upd H l (.tup ys))) ∨ (SqT K H p ys ∧ Q (.ref p) H))
section
variable {P : Program} {w : World} {K : PySem.W.Frag} {mg : Str → Option Value} {base : Heap}
/-! ### SizeFacts.__init__ -/
def spSizesI (C : Addr) : Sp := fun vs H Q _ => ∃ (p dx a b : Addr) (us ys : List V), vs = [.ref p, .ref a, .ref b] ∧ H p = some (.ins C dx []) ∧ H a = some (.lst us) ∧ H b = some (.lst ys) ∧
  ∀ t1 t2 H', (∀ b o, H b = some o → b ≠ p → H' b = some o) → H' p = some (.ins C dx (sf2 t1 t2)) → H' t1 = some (.tup us) → H' t2 = some (.tup ys) → Q .non H'
abbrev nSizesI : List Str := ["self", "weak", "strict"]
theorem scSizesI : FnScope nSizesI ["self", "weak", "strict"] (defScope sSizesI) := ⟨rfl, rfl, rfl, by decide +kernel, rfl, by decide +kernel, by decide +kernel⟩
theorem ok_sizesI (T : Tx w K mg) (U : Ty w K mg) : ∃ fd, FnOk P w K mg base CX0 1 (He.ma K (He.ga K "SizeFacts") "__init__") fd ["self", "weak", "strict"] (spSizesI (He.ga K "SizeFacts")) ∧ KBn K fd ["self", "weak", "strict"] 1 ["weak", "strict"] (fun us ws => us ++ ws) (fun vs zs => vs ++ zs) := by
  obtain ⟨fd, F, O⟩ := fnO (P := P) (w := w) (mg := mg) (base := base) (CX := CX0) (N := nSizesI) (ps := ["self", "weak", "strict"]) (k := 0) (sp := spSizesI (He.ga K "SizeFacts")) U.sz scSizesI (fun vs H Q E h => by
    obtain ⟨_, _, _, _, _, _, rfl, _⟩ := h
    rfl) (fun cdv A outer s H vs Q E hr h => by
    obtain ⟨p, dx, a, b, us, ys, rfl, hp, ha, hb, k⟩ := h
    have cS := T.c "SizeFacts"
    have nW := T.noat "SizeFacts" "weak" (by decide +kernel)
    have nS := T.noat "SizeFacts" "strict" (by decide +kernel)
    refine ⟨_, pss_cons (ps_fld (pv 0) (pe_callTy (r := rTupOf K) call_tuple_of (by rfl) (T.f "tuple") (by decide +kernel) (pa_cons (pv 1) pa_nil)) rfl)
      (pss_one (ps_fld (pv 0) (pe_callTy (r := rTupOf K) call_tuple_of (by rfl) (T.f "tuple") (by decide +kernel) (pa_cons (pv 2) pa_nil)) rfl)), ?_⟩
    refine ⟨_, rfl, a, us, rfl, .inl ⟨SqL.of ha, fun t1 n1 => ?_⟩⟩
    have e1 : Ex H (upd H t1 (.tup us)) := Evl.Ex.new n1
    have hp1 := e1 p _ hp
    have npt : p ≠ t1 := fun z => by rw [z, upd_same] at hp1; cases hp1
    refine ⟨_, rfl, p, _, dx, [], rfl, hp1, cS, nW, (by show 0 < 1000; decide), ?_⟩
    generalize hH2 : upd (upd H t1 (.tup us)) p (.ins (He.ga K "SizeFacts") dx (putF "weak" (.ref t1) [])) = H2
    have b2 : ∀ b o, b ≠ p → H b = some o → H2 b = some o := fun b o hb h => by rw [← hH2, upd_ne hb]; exact e1 b o h
    have hp2 : H2 p = some (.ins (He.ga K "SizeFacts") dx (putF "weak" (.ref t1) [])) := by rw [← hH2, upd_same]
    have ht1 : H2 t1 = some (.tup us) := by rw [← hH2, upd_ne npt.symm, upd_same]
    have nbp : b ≠ p := fun z => by rw [z, hp] at hb; cases hb
    refine ⟨_, rfl, b, ys, rfl, .inl ⟨SqL.of (b2 b _ nbp hb), fun t2 n2 => ?_⟩⟩
    have e3 : Ex H2 (upd H2 t2 (.tup ys)) := Evl.Ex.new n2
    have hp3 := e3 p _ hp2
    have npt2 : p ≠ t2 := fun z => by rw [z, upd_same] at hp3; cases hp3
    have n12 : t1 ≠ p := npt.symm
    refine ⟨_, rfl, p, _, dx, _, rfl, hp3, cS, nS, (by show 1 < 1000; decide), ?_⟩
    refine k t1 t2 _ (fun b o hb hne => ?_) upd_same ?_ ?_
    · rw [upd_ne hne]
      exact e3 b o (b2 b o hne hb)
    · rw [upd_ne n12]
      exact e3 t1 _ ht1
    · rw [upd_ne npt2.symm, upd_same])
  exact ⟨fd, O, kbn0 F rfl (fun kV doc pm an cdv ct us ws h1 h2 => match us, h1, ws, h2 with | [_], _, [_, _], _ => rfl)⟩
/-! ### Facts.__init__ -/
def spFactsI (C W : Addr) : Sp := fun vs H Q _ => ∃ (p dx a b : Addr) (ins outs : List Q2) (us ys : List V), vs = [.ref p, .ref a, .ref b] ∧ H p = some (.ins C dx []) ∧ H a = some (.lst us) ∧ H b = some (.lst ys) ∧ AllAt (WPairAt W) H us ins ∧ AllAt (WPairAt W) H ys outs ∧ Dp2 ins ∧ Dp2 outs ∧ ins.length ≤ 100 ∧ outs.length ≤ 100 ∧
  ∀ H', (∀ b o, H b = some o → b ≠ p → H' b = some o) → FaAt C W H' (.ref p) ins outs → Q .non H'
abbrev nFactsI : List Str := ["self", "within", "not_within", "pair"]
theorem scFactsI : FnScope nFactsI ["self", "within", "not_within"] (defScope sFactsI) := ⟨rfl, rfl, rfl, by decide +kernel, rfl, by decide +kernel, by decide +kernel⟩
theorem WPairAt.but {C p : Addr} {H H' : Hp} {v : V} {q : Q2} (hn : ∀ dx s q, H p ≠ some (.ins C dx (wf s q))) (ht : ∀ xs, H p ≠ some (.tup xs)) (e : ∀ b o, b ≠ p → H b = some o → H' b = some o) (h : WPairAt C H v q) : WPairAt C H' v q := by
  obtain ⟨t, x, y, rfl, h1, h2, h3⟩ := h
  exact ⟨t, x, y, rfl, e _ _ (fun z => ht _ (z ▸ h1)) h1, h2.but hn ht e, h3.but hn ht e⟩
theorem getD_all (us : List V) : (List.range us.length).map (fun i => us.getD i .non) = us := by
  have := range_getD us .non (fun x => x)
  simpa using this
theorem ok_factsI (T : Tx w K mg) (U : Ty w K mg) : ∃ fd, FnOk P w K mg base CX0 1 (He.ma K (He.ga K "Facts") "__init__") fd ["self", "within", "not_within"] (spFactsI (He.ga K "Facts") (He.ga K "Word")) ∧ KBn K fd ["self", "within", "not_within"] 1 ["within", "not_within"] (fun us ws => us ++ ws) (fun vs zs => vs ++ zs) := by
  obtain ⟨fd, F, O⟩ := fnO (P := P) (w := w) (mg := mg) (base := base) (CX := CX0) (N := nFactsI) (ps := ["self", "within", "not_within"]) (k := 0) (sp := spFactsI (He.ga K "Facts") (He.ga K "Word")) U.fa scFactsI (fun vs H Q E h => by
    obtain ⟨_, _, _, _, _, _, _, _, rfl, _⟩ := h
    rfl) (fun cdv A outer s H vs Q E hr h => by
    obtain ⟨p, dx, a, b, ins, outs, us, ys, rfl, hp, ha, hb, hI, hO, d1, d2, l1, l2, k⟩ := h
    have nd := scFactsI.nd
    have cS := T.c "Facts"
    have nW := T.noat "Facts" "inside" (by decide +kernel)
    have nS := T.noat "Facts" "outside" (by decide +kernel)
    refine ⟨_, pss_cons (ps_fld (pv 0) (pe_lc (own := [("pair", 3)]) rfl nd (pi_list (pv 1)) (blkOk_by (own := [("pair", 3)]) (N := nFactsI) (sc := defScope sFactsI) (by decide +kernel)) (fun _ _ _ _ _ => pg_name (i := 3) nd rfl (Or.inl rfl)) (fun _ _ _ _ _ => pts_nil)
        (fun _ _ _ _ _ => pe_callTy (r := rTupOf K) call_tuple_of (by rfl) (T.f "tuple") (by decide +kernel) (pa_cons (pv 3) pa_nil))) rfl)
      (pss_one (ps_fld (pv 0) (pe_lc (own := [("pair", 3)]) rfl nd (pi_list (pv 2)) (blkOk_by (own := [("pair", 3)]) (N := nFactsI) (sc := defScope sFactsI) (by decide +kernel)) (fun _ _ _ _ _ => pg_name (i := 3) nd rfl (Or.inl rfl)) (fun _ _ _ _ _ => pts_nil)
        (fun _ _ _ _ _ => pe_callTy (r := rTupOf K) call_tuple_of (by rfl) (T.f "tuple") (by decide +kernel) (pa_cons (pv 3) pa_nil))) rfl)), ?_⟩
    have step : ∀ (l : Addr) (xs : List V) (qs : List Q2) (H1 : Hp), H1 l = some (.lst xs) → AllAt (WPairAt (He.ga K "Word")) H1 xs qs → qs.length ≤ 100 → ∀ D (Qd : Hp → Prop) (σ : L2.St) (j : Nat), H1 D = none → (∀ H2, Ex H1 H2 → H2 D = some (.lst xs) → Qd H2) → True := fun _ _ _ _ _ _ _ _ _ _ _ _ _ => trivial
    refine ⟨_, rfl, a, rfl, ⟨_, SqL.of ha⟩, fun D nD => lc_val (walk_list (xs := us)) (fun i => us.getD i .non) nD (by rw [hI.1]; omega) (fun H e => SqL.of (e a _ ha)) (fun i x H0 H' Qe hi e2 y kq => ?_) (fun H1 e1 hD => ?_)⟩
    · obtain ⟨rfl, hx⟩ := y
      obtain ⟨q, hq, t, x1, x2, rfl, ht, _, _⟩ := hI.get hx
      have : us.getD i .non = .ref t := by rw [List.getD_eq_getElem?_getD, hx]; rfl
      rw [this] at kq
      exact ⟨rfl, _, rfl, t, _, rfl, .inr ⟨SqT.of (e2 t _ ht), kq _ (Ex.refl _)⟩⟩
    rw [getD_all] at hD
    have hp1 := e1 p _ hp
    have nDp : D ≠ p := fun z => by rw [z, hp1] at hD; cases hD
    refine ⟨_, rfl, p, _, dx, [], rfl, hp1, cS, nW, (by show 0 < 1000; decide), ?_⟩
    generalize hH2 : upd H1 p (.ins (He.ga K "Facts") dx (putF "inside" (.ref D) [])) = H2
    have b2 : ∀ b o, b ≠ p → H b = some o → H2 b = some o := fun b o hb h => by rw [← hH2, upd_ne hb]; exact e1 b o h
    have hp2 : H2 p = some (.ins (He.ga K "Facts") dx (putF "inside" (.ref D) [])) := by rw [← hH2, upd_same]
    have hD2 : H2 D = some (.lst us) := by rw [← hH2, upd_ne nDp]; exact hD
    have nbp : b ≠ p := fun z => by rw [z, hp] at hb; cases hb
    have hb2 := b2 b _ nbp hb
    have noin : ∀ dx' s q', H p ≠ some (.ins (He.ga K "Word") dx' (wf s q')) := fun dx' s q' z => by rw [hp] at z; injection z with z; injection z with _ _ z; exact wf_ne _ _ z.symm
    have notp : ∀ xs, H p ≠ some (.tup xs) := fun xs z => by rw [hp] at z; cases z
    refine ⟨_, rfl, b, rfl, ⟨_, SqL.of hb2⟩, fun D' nD' => lc_val (walk_list (xs := ys)) (fun i => ys.getD i .non) nD' (by rw [hO.1]; omega) (fun H e => SqL.of (e b _ hb2)) (fun i x H0 H' Qe hi e3 y kq => ?_) (fun H3 e3 hD' => ?_)⟩
    · obtain ⟨rfl, hx⟩ := y
      obtain ⟨q, hq, t, x1, x2, rfl, ht, _, _⟩ := hO.get hx
      have : ys.getD i .non = .ref t := by rw [List.getD_eq_getElem?_getD, hx]; rfl
      rw [this] at kq
      have nt : t ≠ p := fun z => by rw [z, hp] at ht; cases ht
      exact ⟨rfl, _, rfl, t, _, rfl, .inr ⟨SqT.of (e3 t _ (b2 t _ nt ht)), kq _ (Ex.refl _)⟩⟩
    rw [getD_all] at hD'
    have hp3 := e3 p _ hp2
    have nDp' : D' ≠ p := fun z => by rw [z, hp3] at hD'; cases hD'
    refine ⟨_, rfl, p, _, dx, _, rfl, hp3, cS, nS, (by show 1 < 1000; decide), ?_⟩
    have ball : ∀ b o, b ≠ p → H b = some o → (upd H3 p (.ins (He.ga K "Facts") dx (putF "outside" (.ref D') (putF "inside" (.ref D) [])))) b = some o := fun b o hne hb => by
      rw [upd_ne hne]
      exact e3 b o (b2 b o hne hb)
    refine k _ (fun b o hb hne => ball b o hne hb) ⟨⟨p, dx, D, D', us, ys, rfl, upd_same, ?_, hI.mono fun v q h => h.but noin notp ball, ?_, hO.mono fun v q h => h.but noin notp ball⟩, d1, d2, l1, l2⟩
    · rw [upd_ne nDp]
      exact e3 D _ hD2
    · rw [upd_ne nDp']
      exact hD')
  exact ⟨fd, O, kbn0 F rfl (fun kV doc pm an cdv ct us ws h1 h2 => match us, h1, ws, h2 with | [_], _, [_, _], _ => rfl)⟩
end
end HX
end

section
set_option Elab.async false
set_option linter.all false
set_option maxRecDepth 100000
set_option maxHeartbeats 4000000
/-! The law's draws: tape, pick, shape. -/
namespace HX
open PySem PySem.Spec PyProof.Rows L2
open Evl (Ex)
def TapeAt (H : Hp) (D : Addr) : Prop := ∃ c x y : Int, H D = some (.lst [.int c, .int x, .int y]) ∧ 0 ≤ c ∧ 0 ≤ x ∧ x < 4294967296 ∧ 0 ≤ y ∧ y < 4294967296
theorem TapeAt.ex {H H' : Hp} {D : Addr} (e : Ex H H') (h : TapeAt H D) : TapeAt H' D := by
  obtain ⟨c, x, y, h, r⟩ := h
  exact ⟨c, x, y, e _ _ h, r⟩
theorem ExD.of {D : Addr} {H H' : Hp} (e : Ex H H') : ExD D H H' := fun b o _ h => e b o h
theorem ExD.trans {D : Addr} {H H1 H2 : Hp} (a : ExD D H H1) (b : ExD D H1 H2) : ExD D H H2 := fun x o n h => b x o n (a x o n h)
theorem ExD.refl {D : Addr} {H : Hp} : ExD D H H := fun _ _ _ h => h
theorem ExD.fresh {D : Addr} {H H1 H2 : Hp} (n : H D = none) (e : Ex H H1) (d : ExD D H1 H2) : Ex H H2 := fun b o h => d b o (fun z => by rw [z, n] at h; cases h) (e b o h)
theorem TapeAt.n {D : Addr} {H H' : Hp} (h : TapeAt H D) (e : ExD D H H') : ExN H H' := by
  obtain ⟨c, x, y, h, _⟩ := h
  exact ExD.n h e
section
variable {P : Program} {w : World} {K : PySem.W.Frag} {mg : Str → Option Value} {base : Heap}
/-! ### _law_tape -/
def spTape (K : PySem.W.Frag) : Sp := fun vs H Q _ => ∃ (a : Addr) (ns : List Int) (k : Nat), vs = [.ref a, .int (k : Int)] ∧ SqL K H a (ns.map V.int) ∧ k ≤ 2 ∧ ∀ D H', H D = none → Ex H H' → TapeAt H' D → Q (.ref D) H'
abbrev nTape : List Str := ["_law_script", "_law_k", "_law_cell"]
theorem scTape : FnScope nTape ["_law_script", "_law_k"] (defScope sTape) := ⟨rfl, rfl, rfl, by decide +kernel, rfl, by decide +kernel, by decide +kernel⟩
theorem ok_tape (T : Tx w K mg) : FnR P w K mg base CX0 1 (He.ga K "_law_tape") (spTape K) := by
  refine fnr (T.fnG2 0 dTape rfl) rfl scTape (fun _ _ _ _ _ _ us hl => match us, hl with | [_, _], _ => rfl) (fun vs H Q E h => ?_) (fun cdv A outer s H vs Q E hr h => ?_)
  · obtain ⟨_, _, _, rfl, _⟩ := h
    rfl
  · obtain ⟨a, ns, i, rfl, hs, hi, k⟩ := h
    have nd := scTape.nd
    refine ⟨_, pss_cons (ps_asg pe_int (pg_name (i := 2) nd rfl (Or.inl rfl)))
      (pss_cons (ps_if (pt_cmpR op_lt (pv 1) (pe_callB call_len_seq (by rfl) (T.f "len") PySem.boot_len (pa_cons (pv 0) pa_nil)) (nomark _)) (pss_one (ps_asg (pe_ix ix_list (pv 0) (pv 1) (fun _ _ => rfl)) (pg_name (i := 2) nd rfl (Or.inl rfl)))) pss_nil)
      (pss_one (ps_ret (pe_lst (pa_cons (pe_callB call_abs (by rfl) (T.f "abs") (by decide +kernel) (pa_cons (pv 2) pa_nil)) (pa_cons (pe_op op_add pe_int (pe_op op_mul pe_int (pv 1))) (pa_cons (pe_op op_add pe_int (pe_op op_mul pe_int (pv 1))) pa_nil))))))), ?_⟩
    have fin : ∀ z : Int, (tRet (tLst (tCons (tCB (fun xs H Q => ∃ i, xs = [.int i] ∧ Q (.int (if i < 0 then -i else i)) H) (tCons (tVar 2) tNil)) (tCons (tOp (rI0 fun i j => .int (i + j)) (tC (.int 104729)) (tOp (rI CMul fun i j => .int (i * j)) (tC (.int 7919)) (tVar 1))) (tCons (tOp (rI0 fun i j => .int (i + j)) (tC (.int 15485863)) (tOp (rI CMul fun i j => .int (i * j)) (tC (.int 1299709)) (tVar 1))) tNil)))))
        { nx := fun x H' => Q V.non H', rt := Q } [some (.ref a), some (.int (i : Nat)), some (.int z)] H := by
      intro z
      refine ⟨_, rfl, z, rfl, _, rfl, _, _, rfl, rfl, .inl ⟨by decide, by decide⟩, _, _, rfl, rfl, _, rfl, _, _, rfl, rfl, .inl ⟨by decide, by decide⟩, _, _, rfl, rfl, by show 3 ≤ sizeLine; decide, fun D nD => ?_⟩
      refine k D _ nD (Evl.Ex.new nD) ⟨_, _, _, upd_same, ?_, by omega, by omega, by omega, by omega⟩
      split <;> omega
    refine ⟨_, rfl, _, rfl, a, _, rfl, .inl hs, _, _, rfl, rfl, _, rfl, ?_⟩
    rw [List.length_map]
    by_cases c : (i : Int) < (ns.length : Int)
    · refine ite_t (decide_eq_true c) ?_
      have hin : i < ns.length := by omega
      refine ⟨_, rfl, _, rfl, a, _, _, .int ns[i], rfl, rfl, hs, atI_nat (by rw [List.getElem?_map, List.getElem?_eq_getElem hin]; rfl), fin _⟩
    · exact ite_f (decide_eq_false c) (fin 0)
/-! ### _law_pick -/
def spPick : Sp := fun vs H Q _ => ∃ (D : Addr) (m : Nat), vs = [.ref D, .int (m : Int)] ∧ TapeAt H D ∧ 0 < m ∧ m ≤ 100 ∧ ∀ (r : Nat) H', r < m → TapeAt H' D → ExD D H H' → Q (.int (r : Int)) H'
abbrev nPick : List Str := ["_law_tape_here", "_law_many", "_law_digit"]
theorem scPick : FnScope nPick ["_law_tape_here", "_law_many"] (defScope sPick) := ⟨rfl, rfl, rfl, by decide +kernel, rfl, by decide +kernel, by decide +kernel⟩
theorem ok_pick (T : Tx w K mg) : FnR P w K mg base CX0 1 (He.ga K "_law_pick") spPick := by
  refine fnr (T.fnG2 1 dPick rfl) rfl scPick (fun _ _ _ _ _ _ us hl => match us, hl with | [_, _], _ => rfl) (fun vs H Q E h => ?_) (fun cdv A outer s H vs Q E hr h => ?_)
  · obtain ⟨_, _, rfl, _⟩ := h
    rfl
  · obtain ⟨D, m, rfl, ⟨c, x, y, hD, hc, hx, hx2, hy, hy2⟩, hm, hm2, k⟩ := h
    have nd := scPick.nd
    refine ⟨_, pss_cons (ps_if (pt_cmpR op_ge (pe_ix ix_list (pv 0) pe_int (fun _ _ => rfl)) (pe_op op_pow pe_int pe_int) (nomark _))
        (pss_cons (ps_asg (pe_op op_mod (pe_callTy call_int1 (by rfl) (T.f "int") (by decide +kernel) (pa_cons (pe_ix ix_list (pv 0) pe_int (fun _ _ => rfl)) pa_nil)) (pv 1)) (pg_name (i := 2) nd rfl (Or.inl rfl)))
        (pss_cons (ps_asg (pe_op op_fdiv (pe_ix ix_list (pv 0) pe_int (fun _ _ => rfl)) (pv 1)) (pg_sub (pv 0) pe_int set_list))
        (pss_one (ps_ret (pv 2))))) pss_nil)
      (pss_cons (ps_asg (pe_op op_mod (pe_callTy call_int1 (by rfl) (T.f "int") (by decide +kernel) (pa_cons (pe_op op_add (pe_op op_add (pe_op op_mul (pe_ix ix_list (pv 0) pe_int (fun _ _ => rfl)) pe_int) (pe_op op_mul (pe_ix ix_list (pv 0) pe_int (fun _ _ => rfl)) pe_int)) pe_int) pa_nil)) pe_int) (pg_sub (pv 0) pe_int set_list))
      (pss_cons (ps_asg (pe_op op_mod (pe_callTy call_int1 (by rfl) (T.f "int") (by decide +kernel) (pa_cons (pe_op op_add (pe_op op_add (pe_op op_mul (pe_ix ix_list (pv 0) pe_int (fun _ _ => rfl)) pe_int) (pe_op op_mul (pe_ix ix_list (pv 0) pe_int (fun _ _ => rfl)) pe_int)) pe_int) pa_nil)) pe_int) (pg_sub (pv 0) pe_int set_list))
      (pss_one (ps_ret (pe_op op_mod (pe_callTy call_int1 (by rfl) (T.f "int") (by decide +kernel) (pa_cons (pe_op op_fdiv (pe_op op_mod (pe_callTy call_int1 (by rfl) (T.f "int") (by decide +kernel) (pa_cons (pe_op op_add (pe_op op_mul (pe_ix ix_list (pv 0) pe_int (fun _ _ => rfl)) (pe_ix ix_list (pv 0) pe_int (fun _ _ => rfl))) pe_int) pa_nil)) pe_int) pe_int) pa_nil)) (pv 1)))))), ?_⟩
    have a0 : atI [V.int c, V.int x, V.int y] 0 = some (.int c) := rfl
    refine ⟨_, rfl, D, _, 0, _, rfl, rfl, SqL.of hD, a0, _, _, rfl, rfl, ⟨by decide, by decide, by decide⟩, _, _, rfl, rfl, _, rfl, ?_⟩
    by_cases big : (10 : Int) ^ (18 : Int).toNat ≤ c
    · refine ite_t (decide_eq_true big) ?_
      refine ⟨_, rfl, D, _, 0, _, rfl, rfl, SqL.of hD, a0, .inl ⟨_, rfl, _, rfl, _, _, rfl, rfl, by omega, ?_⟩⟩
      refine ⟨_, rfl, D, _, 0, _, rfl, rfl, SqL.of hD, a0, _, rfl, _, _, rfl, rfl, ⟨by omega, by omega⟩, _, rfl, D, _, 0, 0, rfl, rfl, hD, rfl, _, rfl, ?_⟩
      have hr1 : 0 ≤ c % (m : Int) := Int.emod_nonneg _ (by omega)
      have hr2 : c % (m : Int) < m := Int.emod_lt_of_pos _ (by omega)
      have er : (c % (m : Int)) = (((c % (m : Int)).toNat : Nat) : Int) := by omega
      have := k (c % (m : Int)).toNat (upd H D (.lst [.int (c / (m : Int)), .int x, .int y])) (by omega) ⟨_, x, y, upd_same, Int.ediv_nonneg hc (by omega), hx, hx2, hy, hy2⟩ ExD.upd
      rw [← er] at this
      exact this
    · refine ite_f (decide_eq_false big) ?_
      have a1 : atI [V.int c, V.int x, V.int y] 1 = some (.int x) := rfl
      have x1 : 0 ≤ (x * 69069 + c * 7177 + 12345) % 2147483629 := Int.emod_nonneg _ (by decide)
      have x2 : (x * 69069 + c * 7177 + 12345) % 2147483629 < 2147483629 := Int.emod_lt_of_pos _ (by decide)
      have y1 : 0 ≤ (y * 40014 + c * 3571 + 97) % 2147483563 := Int.emod_nonneg _ (by decide)
      have y2 : (y * 40014 + c * 3571 + 97) % 2147483563 < 2147483563 := Int.emod_lt_of_pos _ (by decide)
      have p1 : (0 : Int) < 2147483629 := by decide
      have p2 : (0 : Int) < 2147483563 := by decide
      have p3 : (0 : Int) < 2147483587 := by decide
      refine ⟨_, rfl, D, _, 1, _, rfl, rfl, SqL.of hD, a1, _, _, rfl, rfl, .inr ⟨by decide, by decide⟩, _, rfl, D, _, 0, _, rfl, rfl, SqL.of hD, a0, _, _, rfl, rfl, .inr ⟨by decide, by decide⟩, _, _, rfl, rfl, _, _, rfl, rfl, .inl ⟨_, rfl, _, _, rfl, rfl, p1, ?_⟩⟩
      refine ⟨_, rfl, D, _, 1, 1, rfl, rfl, hD, rfl, ?_⟩
      refine ⟨_, rfl, D, [.int c, .int ((x * 69069 + c * 7177 + 12345) % 2147483629), .int y], 2, .int y, rfl, rfl, SqL.of upd_same, rfl, _, _, rfl, rfl, .inr ⟨by decide, by decide⟩, _, rfl, D, [.int c, .int ((x * 69069 + c * 7177 + 12345) % 2147483629), .int y], 0, .int c, rfl, rfl, SqL.of upd_same, rfl, _, _, rfl, rfl, .inr ⟨by decide, by decide⟩, _, _, rfl, rfl, _, _, rfl, rfl, .inl ⟨_, rfl, _, _, rfl, rfl, p2, ?_⟩⟩
      refine ⟨_, rfl, D, [.int c, .int ((x * 69069 + c * 7177 + 12345) % 2147483629), .int y], 2, 2, rfl, rfl, upd_same, rfl, ?_⟩
      refine ⟨_, rfl, D, [.int c, .int ((x * 69069 + c * 7177 + 12345) % 2147483629), .int ((y * 40014 + c * 3571 + 97) % 2147483563)], 1, .int ((x * 69069 + c * 7177 + 12345) % 2147483629), rfl, rfl, SqL.of upd_same, rfl, _, rfl, D, [.int c, .int ((x * 69069 + c * 7177 + 12345) % 2147483629), .int ((y * 40014 + c * 3571 + 97) % 2147483563)], 2, .int ((y * 40014 + c * 3571 + 97) % 2147483563), rfl, rfl, SqL.of upd_same, rfl, _, _, rfl, rfl, .inl ⟨by omega, by omega⟩, _, _, rfl, rfl, .inl ⟨_, rfl, _, _, rfl, rfl, p3, _, _, rfl, rfl, ⟨by decide, by decide⟩, .inl ⟨_, rfl, _, rfl, _, _, rfl, rfl, by omega, ?_⟩⟩⟩
      have hr1 : 0 ≤ ((((x * 69069 + c * 7177 + 12345) % 2147483629) * ((y * 40014 + c * 3571 + 97) % 2147483563) + 5) % 2147483587 / 32) % (m : Int) := Int.emod_nonneg _ (by omega)
      have hr2 : ((((x * 69069 + c * 7177 + 12345) % 2147483629) * ((y * 40014 + c * 3571 + 97) % 2147483563) + 5) % 2147483587 / 32) % (m : Int) < m := Int.emod_lt_of_pos _ (by omega)
      have kk := fun (r : Nat) (hr : r < m) (H' : Hp) (h1 : TapeAt H' D) (h2 : ExD D H H') => k r H' hr h1 h2
      have kz : ∀ (z : Int), 0 ≤ z → z < m → ∀ H', TapeAt H' D → ExD D H H' → Q (.int z) H' := fun z h0 h1 H' h2 h3 => by
        have := k z.toNat H' (by omega) h2 h3
        rw [Int.toNat_of_nonneg h0] at this
        exact this
      exact kz _ hr1 hr2 _ ⟨c, _, _, upd_same, hc, x1, by omega, y1, by omega⟩ (ExD.trans ExD.upd ExD.upd)
end
end HX
end

section
set_option Elab.async false
set_option linter.all false
set_option maxRecDepth 100000
set_option maxHeartbeats 4000000
/-! The law's draws: shapes, pairs, words. -/
namespace HX
open PySem PySem.Spec PyProof.Rows L2
open Evl (Ex)
def leafOf (r : Nat) : Wd := [Wd.a, .b, .c, .a, .b, .c, .zero, .one].getD r .a
theorem leafOf_kids : ∀ r, (leafOf r).kids = []
  | 0 => rfl | 1 => rfl | 2 => rfl | 3 => rfl | 4 => rfl | 5 => rfl | 6 => rfl | 7 => rfl | _ + 8 => rfl
theorem leafOf_depth : ∀ r, (leafOf r).depth = 0
  | 0 => rfl | 1 => rfl | 2 => rfl | 3 => rfl | 4 => rfl | 5 => rfl | 6 => rfl | 7 => rfl | _ + 8 => rfl
theorem leafOf_at : ∀ r, r < 8 → atI [V.str "a", V.str "b", V.str "c", V.str "a", V.str "b", V.str "c", V.str "0", V.str "1"] ((r : Nat) : Int) = some (.str (leafOf r).sign) := by decide +kernel
def nodeOf (r : Nat) (l q : Wd) : Wd := if r = 0 then .add l q else .cut l q
theorem nodeOf_at (l q : Wd) : ∀ r, r < 2 → atI [V.str "+", V.str "&"] ((r : Nat) : Int) = some (.str (nodeOf r l q).sign)
  | 0, _ => rfl
  | 1, _ => rfl
theorem nodeOf_kids (r : Nat) (l q : Wd) : (nodeOf r l q).kids = [l, q] := by unfold nodeOf; split <;> rfl
theorem nodeOf_depth (r : Nat) (l q : Wd) : (nodeOf r l q).depth = max l.depth q.depth + 1 := by unfold nodeOf; split <;> rfl
section
variable {P : Program} {w : World} {K : PySem.W.Frag} {mg : Str → Option Value} {base : Heap}
def spShape : Nat → Sp
  | 0 => fun _ _ _ _ => False
  | d + 1 => fun vs H Q _ => ∃ (D : Addr) (m : Nat), vs = [.ref D, .int (m : Int)] ∧ TapeAt H D ∧ 1 ≤ m ∧ m ≤ d ∧ m ≤ 50 ∧ ∀ v q H', ShAt H' v q → q.depth < m → TapeAt H' D → ExD D H H' → Q v H'
abbrev nShape : List Str := ["_law_tape_here", "_law_most", "_law_first"]
theorem scShape : FnScope nShape ["_law_tape_here", "_law_most"] (defScope sShape) := ⟨rfl, rfl, rfl, by decide +kernel, rfl, by decide +kernel, by decide +kernel⟩
theorem ok_shape (T : Tx w K mg) : ∀ d, FnR P w K mg base CX0 (d + 1) (He.ga K "_law_shape") (spShape d)
  | 0 => fun _ _ _ _ _ _ _ _ _ _ _ h => h.elim
  | d + 1 => by
    have G := ok_shape T d
    have GP := ok_pick (P := P) (base := base) T
    refine fnr (T.fnG2 2 dShape rfl) rfl scShape (fun _ _ _ _ _ _ us hl => match us, hl with | [_, _], _ => rfl) (fun vs H Q E h => ?_) (fun cdv A outer s H vs Q E hr h => ?_)
    · obtain ⟨_, _, rfl, _⟩ := h
      rfl
    · obtain ⟨D, m, rfl, hT, h1, hd, hm, k⟩ := h
      have nd := scShape.nd
      have hr1 : Room 1 _ := hr.mono (by omega)
      refine ⟨_, pss_cons (ps_if (PW.pt (pw_or (pt_cmpR op_lt (pv 1) pe_int (nomark _)) (pw_or1 (pt_cmpR op_eq (pe_cR GP hr1 (T.g "_law_pick") (T.k "_law_pick") pass0 (pa_cons (pv 0) (pa_cons pe_int pa_nil))) pe_int (nomark _)))))
          (pss_one (ps_ret (pe_tup (pa_cons (pe_ix ix_list (pe_lst (pa_cons pe_str (pa_cons pe_str (pa_cons pe_str (pa_cons pe_str (pa_cons pe_str (pa_cons pe_str (pa_cons pe_str (pa_cons pe_str pa_nil))))))))) (pe_cR GP hr1 (T.g "_law_pick") (T.k "_law_pick") pass0 (pa_cons (pv 0) (pa_cons pe_int pa_nil))) (fun _ _ => rfl)) pa_nil)))) pss_nil)
        (pss_cons (ps_asg (pe_op op_add pe_int (pe_cR GP hr1 (T.g "_law_pick") (T.k "_law_pick") pass0 (pa_cons (pv 0) (pa_cons (pe_op op_sub (pv 1) pe_int) pa_nil)))) (pg_name (i := 2) nd rfl (Or.inl rfl)))
        (pss_one (ps_ret (pe_tup (pa_cons (pe_ix ix_list (pe_lst (pa_cons pe_str (pa_cons pe_str pa_nil))) (pe_cR GP hr1 (T.g "_law_pick") (T.k "_law_pick") pass0 (pa_cons (pv 0) (pa_cons pe_int pa_nil))) (fun _ _ => rfl))
          (pa_cons (pe_cR G hr (T.g "_law_shape") (T.k "_law_shape") pass0 (pa_cons (pv 0) (pa_cons (pv 2) pa_nil)))
          (pa_cons (pe_cR G hr (T.g "_law_shape") (T.k "_law_shape") pass0 (pa_cons (pv 0) (pa_cons (pe_op op_sub (pv 1) (pv 2)) pa_nil))) pa_nil))))))), ?_⟩
      have leaf : ∀ H1, TapeAt H1 D → ExD D H H1 → (8 ≤ sizeLine ∧ ∀ l, H1 l = none → ∃ x, ([some (V.ref D), some (V.int (m : Int)), none] : L2.St)[0]? = some (some x) ∧ spPick [x, .int 8] (upd H1 l (.lst [V.str "a", V.str "b", V.str "c", V.str "a", V.str "b", V.str "c", V.str "0", V.str "1"])) (fun y H2 => rIxL K (.ref l) y H2 fun z H3 => 1 ≤ sizeLine ∧ ∀ t, H3 t = none → Q (.ref t) (upd H3 t (.tup [z]))) E0) := by
        intro H1 t1 x1
        refine ⟨by decide, fun l nl => ⟨_, rfl, D, 8, rfl, t1.ex (Evl.Ex.new nl), by decide, by decide, fun r H2 hr8 t2 x2 => ?_⟩⟩
        have nlD : l ≠ D := fun z => by
          obtain ⟨_, _, _, e, _⟩ := t1
          rw [z, e] at nl; cases nl
        refine ⟨l, _, _, _, rfl, rfl, SqL.of (x2 l _ nlD upd_same), leafOf_at r hr8, by decide, fun t nt => ?_⟩
        have x3 : ExD D H1 (upd H1 l (.lst [V.str "a", V.str "b", V.str "c", V.str "a", V.str "b", V.str "c", V.str "0", V.str "1"])) := .of (Evl.Ex.new nl)
        refine k _ (leafOf r) _ (.leaf upd_same (leafOf_kids r)) (by rw [leafOf_depth]; omega) (t2.ex (Evl.Ex.new nt)) (((x1.trans x3).trans x2).trans (.of (Evl.Ex.new nt)))
      refine ⟨_, rfl, _, _, rfl, rfl, _, rfl, ?_⟩
      by_cases c : (m : Int) < 2
      · exact ite_t (decide_eq_true c) (iteT (leaf H hT .refl))
      · refine ite_f (decide_eq_false c) ⟨_, rfl, D, 4, rfl, hT, by decide, by decide, fun r1 H1 hr1 t1 x1 => ?_⟩
        refine ⟨rfl, _, rfl, ?_⟩
        by_cases c1 : r1 = 0
        · exact ite_t (decide_eq_true (by rw [c1]; rfl)) (leaf H1 t1 x1)
        · refine ite_f (decide_eq_false (fun z => c1 (by have := V.int.inj z; omega))) ?_
          have e1 : ((m : Int) - 1) = ((m - 1 : Nat) : Int) := by omega
          refine ⟨_, rfl, _, rfl, _, _, rfl, rfl, D, m - 1, congrArg (fun z => [V.ref D, V.int z]) e1, t1, by omega, by omega, fun r2 H2 hr2 t2 x2 => ?_⟩
          refine ⟨_, _, rfl, rfl, ?_⟩
          refine ⟨by show 2 ≤ sizeLine; decide, fun l nl => ⟨_, rfl, D, 2, rfl, t2.ex (Evl.Ex.new nl), by decide, by decide, fun r3 H3 hr3 t3 x3 => ?_⟩⟩
          have nlD : l ≠ D := fun z => by
            obtain ⟨_, _, _, e, _⟩ := t2
            rw [z, e] at nl; cases nl
          have x23 : ExD D H2 H3 := (ExD.of (Evl.Ex.new nl)).trans x3
          have e2 : (1 + (r2 : Int)) = ((1 + r2 : Nat) : Int) := by omega
          have e3 : ((m : Int) - (1 + (r2 : Int))) = ((m - (1 + r2) : Nat) : Int) := by omega
          cases d with
          | zero => omega
          | succ d =>
          refine ⟨l, _, _, _, rfl, rfl, SqL.of (x3 l _ nlD upd_same), nodeOf_at .a .a r3 hr3, _, rfl, _, rfl, D, 1 + r2, congrArg (fun z => [V.ref D, V.int z]) e2, t3, by omega, by omega, by omega, fun v1 q1 H4 s1 d1 t4 x4 => ?_⟩
          refine ⟨_, rfl, _, rfl, _, rfl, _, _, rfl, rfl, D, m - (1 + r2), congrArg (fun z => [V.ref D, V.int z]) e3, t4, by omega, by omega, by omega, fun v2 q2 H5 s2 d2 t5 x5 => ⟨by show 3 ≤ sizeLine; decide, fun t nt => ?_⟩⟩
          have x6 : Ex H5 (upd H5 t (.tup [.str (nodeOf r3 .a .a).sign, v1, v2])) := Evl.Ex.new nt
          have es : (nodeOf r3 .a .a).sign = (nodeOf r3 q1 q2).sign := by unfold nodeOf; split <;> rfl
          have hx4 : ExN H4 H5 := t4.n x5
          refine k _ (nodeOf r3 q1 q2) _ (.node (by rw [upd_same, es]) (nodeOf_kids _ _ _) ((s1.mono hx4).ex x6) (s2.ex x6)) (by rw [nodeOf_depth]; omega) (t5.ex x6) (((((x1.trans x2).trans x23).trans x4).trans x5).trans (.of x6))
end
end HX
end

section
set_option Elab.async false
set_option linter.all false
set_option maxRecDepth 100000
set_option maxHeartbeats 4000000
/-! The law's draws: pairs; words; allowed. -/
namespace HX
open PySem PySem.Spec PyProof.Rows L2
open Evl (Ex)
theorem AllAt.snoc {α : Type} {R : Hp → V → α → Prop} {H : Hp} {vs : List V} {l : List α} {v : V} {a : α} (h : AllAt R H vs l) (hv : R H v a) : AllAt R H (vs ++ [v]) (l ++ [a]) := h.app ⟨rfl, fun i x y hx hy => by
  match i, hx, hy with
  | 0, hx, hy =>
    obtain rfl := Option.some.inj hx
    obtain rfl := Option.some.inj hy
    exact hv⟩
section
variable {P : Program} {w : World} {K : PySem.W.Frag} {mg : Str → Option Value} {base : Heap}
def PairD (q : Wd × Wd) : Prop := q.1.depth ≤ 4 ∧ q.2.depth ≤ 5
def spPairs : Sp := fun vs H Q _ => ∃ (D : Addr), vs = [.ref D, .int 3] ∧ TapeAt H D ∧ ∀ l ps qs H', H l = none → H' l = some (.lst ps) → AllAt PairAt H' ps qs → qs.length ≤ 3 → (∀ q ∈ qs, PairD q) → TapeAt H' D → ExD D H H' → Q (.ref l) H'
abbrev nPairs : List Str := ["_law_tape_here", "_law_most", "_law_found", "_law_k", "_law_one", "_law_other"]
theorem scPairs : FnScope nPairs ["_law_tape_here", "_law_most"] (defScope sPairs) := ⟨rfl, rfl, rfl, by decide +kernel, rfl, by decide +kernel, by decide +kernel⟩
theorem ok_pairs (T : Tx w K mg) : FnR P w K mg base CX0 7 (He.ga K "_law_pairs") spPairs := by
  have G := ok_shape (P := P) (base := base) T 5
  have GP := ok_pick (P := P) (base := base) T
  refine fnr (T.fnG2 6 dPairs rfl) rfl scPairs (fun _ _ _ _ _ _ us hl => match us, hl with | [_, _], _ => rfl) (fun vs H Q E h => ?_) (fun cdv A outer s H vs Q E hr h => ?_)
  · obtain ⟨_, rfl, _⟩ := h
    rfl
  · obtain ⟨D, rfl, hT, k⟩ := h
    have nd := scPairs.nd
    have hr1 : Room 1 _ := hr.mono (by decide)
    refine ⟨_, pss_cons (ps_asg (pe_lst pa_nil) (pg_name (i := 2) nd rfl (Or.inl rfl)))
      (pss_cons (ps_for PassesOwn.never rfl (pi_range1 rfl (T.f "range") (pa_cons (pe_cR GP hr1 (T.g "_law_pick") (T.k "_law_pick") pass0 (pa_cons (pv 0) (pa_cons (pe_op op_add (pv 1) pe_int) pa_nil))) pa_nil)) (pg_name (i := 3) nd rfl (Or.inl rfl))
        (pss_cons (ps_asg (pe_cR G hr (T.g "_law_shape") (T.k "_law_shape") pass0 (pa_cons (pv 0) (pa_cons (pe_op op_add pe_int (pe_cR GP hr1 (T.g "_law_pick") (T.k "_law_pick") pass0 (pa_cons (pv 0) (pa_cons pe_int pa_nil)))) pa_nil))) (pg_name (i := 4) nd rfl (Or.inl rfl)))
        (pss_cons (ps_asg (pe_cR G hr (T.g "_law_shape") (T.k "_law_shape") pass0 (pa_cons (pv 0) (pa_cons (pe_op op_add pe_int (pe_cR GP hr1 (T.g "_law_pick") (T.k "_law_pick") pass0 (pa_cons (pv 0) (pa_cons pe_int pa_nil)))) pa_nil))) (pg_name (i := 5) nd rfl (Or.inl rfl)))
        (pss_one (ps_expr (pe_bm PySem.F.plainAttrs_list PySem.F.slot_list_append PySem.F.type_list_append mt_append (pv 2) (pa_cons
          (pe_ifExp (pt_cmpR op_eq (pe_cR GP hr1 (T.g "_law_pick") (T.k "_law_pick") pass0 (pa_cons (pv 0) (pa_cons pe_int pa_nil))) pe_int (nomark _))
            (pe_tup (pa_cons (pv 4) (pa_cons (pe_tup (pa_cons pe_str (pa_cons (pv 4) (pa_cons (pv 5) pa_nil)))) pa_nil))) (pe_tup (pa_cons (pv 4) (pa_cons (pv 5) pa_nil)))) pa_nil)))))))
      (pss_one (ps_ret (pv 2)))), ?_⟩
    refine ⟨Nat.zero_le _, fun l nl => ?_⟩
    have x0 : ExD D H (upd H l (.lst [])) := .of (Evl.Ex.new nl)
    have t0 := hT.ex (Evl.Ex.new (o := .lst []) nl)
    have nlD : l ≠ D := fun z => by
      obtain ⟨_, _, _, e, _⟩ := hT
      rw [z, e] at nl; cases nl
    refine ⟨_, rfl, _, rfl, _, _, rfl, rfl, D, 4, rfl, t0, by decide, by decide, fun r H1 hr4 t1 x1 => ?_⟩
    refine ⟨(r : Int), rfl, by omega, by omega, ?_⟩
    rw [Int.toNat_natCast]
    refine for_it walk_range (fun i σ H' => (∃ ps qs, H' l = some (.lst ps) ∧ AllAt PairAt H' ps qs ∧ qs.length ≤ i ∧ (∀ q ∈ qs, PairD q) ∧ TapeAt H' D ∧ ExD D H H') ∧ ∃ x3 x4 x5, σ = [some (.ref D), some (.int 3), some (.ref l), x3, x4, x5])
      ⟨⟨[], [], x1 l _ nlD upd_same, ⟨rfl, fun i v a hv ha => by simp at hv⟩, Nat.le_refl _, (fun q hq => by cases hq), t1, x0.trans x1⟩, none, none, none, rfl⟩ (fun _ _ _ _ _ => trivial) (fun i x σ H2 H' hi hp y => ?_) (fun σ H2 hp => ?_)
    · obtain ⟨rfl, rfl⟩ := y
      obtain ⟨⟨ps, qs, hl, hA, hq, hD, tt, xx⟩, x3, x4, x5, rfl⟩ := hp
      have one : ∀ r : Nat, (1 + (r : Int)) = ((1 + r : Nat) : Int) := fun r => by omega
      refine ⟨_, rfl, _, rfl, D, 4, rfl, tt, by decide, by decide, fun r1 H3 hr1 t3 d3 => ?_⟩
      refine ⟨_, _, rfl, rfl, D, 1 + r1, congrArg (fun z => [V.ref D, V.int z]) (one r1), t3, by omega, (by show 1 + r1 ≤ 4; omega), by omega, fun v1 q1 H4 s1 p1 t4 d4 => ?_⟩
      refine ⟨_, rfl, _, rfl, D, 4, rfl, t4, by decide, by decide, fun r2 H5 hr2 t5 d5 => ?_⟩
      refine ⟨_, _, rfl, rfl, D, 1 + r2, congrArg (fun z => [V.ref D, V.int z]) (one r2), t5, by omega, (by show 1 + r2 ≤ 4; omega), by omega, fun v2 q2 H6 s2 p2 t6 d6 => ?_⟩
      have d36 : ExD D H' H6 := ((d3.trans d4).trans d5).trans d6
      have hl6 := d36 l _ nlD hl
      have n46 : ExN H4 H6 := t4.n (d5.trans d6)
      refine ⟨_, rfl, .inl ⟨rfl, _, SqL.of hl6⟩, _, rfl, D, 6, rfl, t6, by decide, by decide, fun r3 H7 hr3 t7 d7 => ?_⟩
      have hl7 := d7 l _ nlD hl6
      have n67 : ExN H6 H7 := t6.n d7
      have s1' := (s1.mono n46).mono n67
      have s2' := s2.mono n67
      have hA7 : AllAt PairAt H7 ps qs := hA.mono fun v q h => h.mono (tt.n (d36.trans d7))
      have x7 : ExD D H H7 := (xx.trans d36).trans d7
      have hp : ps.length = qs.length := hA.1
      have fin : ∀ (u : V) (q : Wd × Wd) H8, Ex H7 H8 → PairAt H8 u q → PairD q → ∃ (l' : Addr) (xs : List V) (y : V), V.ref l = .ref l' ∧ [u] = [y] ∧ H8 l' = some (.lst xs) ∧ xs.length < sizeLine ∧ ((∃ ps qs, (upd H8 l' (.lst (xs ++ [y]))) l = some (.lst ps) ∧ AllAt PairAt (upd H8 l' (.lst (xs ++ [y]))) ps qs ∧ qs.length ≤ i + 1 ∧ (∀ q ∈ qs, PairD q) ∧ TapeAt (upd H8 l' (.lst (xs ++ [y]))) D ∧ ExD D H (upd H8 l' (.lst (xs ++ [y])))) ∧ ∃ x3 x4 x5, ([some (.ref D), some (.int 3), some (.ref l), some (.int (0 + (i : Int))), some v1, some v2] : L2.St) = [some (.ref D), some (.int 3), some (.ref l), x3, x4, x5]) := by
        intro u q H8 e8 hu hd
        have hl8 := e8 l _ hl7
        have n8 : ExN H8 (upd H8 l (.lst (ps ++ [u]))) := ExN.upd hl8
        refine ⟨l, ps, u, rfl, rfl, hl8, Evl.sz_lt (by omega), ⟨ps ++ [u], qs ++ [q], upd_same, ((hA7.mono fun v q h => h.mono (.of e8)).snoc hu).mono fun v q h => h.mono n8, by simp; omega, fun q' hq' => ?_, ?_, ?_⟩, _, _, _, rfl⟩
        · rcases List.mem_append.mp hq' with z | z
          · exact hD q' z
          · rw [List.mem_singleton.mp z]; exact hd
        · obtain ⟨c, x, y, ht, r⟩ := t7.ex e8
          exact ⟨c, x, y, by rw [upd_ne nlD.symm]; exact ht, r⟩
        · intro b o hb ho
          rw [upd_ne (fun z => by rw [z, nl] at ho; cases ho)]
          exact e8 b o (x7 b o hb ho)
      refine ⟨rfl, _, rfl, ?_⟩
      by_cases c : r3 = 0
      · refine ite_t (decide_eq_true (by rw [c]; rfl)) ⟨_, rfl, _, rfl, _, rfl, by show 3 ≤ sizeLine; decide, fun t nt => ⟨by show 2 ≤ sizeLine; decide, fun t2 nt2 => ?_⟩⟩
        have y1 : Ex H7 (upd H7 t (.tup [.str "+", v1, v2])) := Evl.Ex.new nt
        have y2 : Ex (upd H7 t (.tup [.str "+", v1, v2])) (upd (upd H7 t (.tup [.str "+", v1, v2])) t2 (.tup [v1, .ref t])) := Evl.Ex.new nt2
        exact fin (.ref t2) (q1, .add q1 q2) _ (y1.trans y2) ⟨t2, v1, .ref t, rfl, upd_same, (s1'.ex y1).ex y2, .node (y2 t _ upd_same) rfl ((s1'.ex y1).ex y2) ((s2'.ex y1).ex y2)⟩ ⟨by show q1.depth ≤ 4; omega, by show max q1.depth q2.depth + 1 ≤ 5; omega⟩
      · refine ite_f (decide_eq_false (fun z => c (by have := V.int.inj z; omega))) ⟨_, rfl, _, rfl, by show 2 ≤ sizeLine; decide, fun t2 nt2 => ?_⟩
        have y2 : Ex H7 (upd H7 t2 (.tup [v1, v2])) := Evl.Ex.new nt2
        exact fin (.ref t2) (q1, q2) _ y2 ⟨t2, v1, v2, rfl, upd_same, s1'.ex y2, s2'.ex y2⟩ ⟨by show q1.depth ≤ 4; omega, by show q2.depth ≤ 5; omega⟩
    · obtain ⟨⟨ps, qs, hl, hA, hq, hD, tt, xx⟩, x3, x4, x5, rfl⟩ := hp
      exact ⟨_, rfl, k l ps qs H2 nl hl hA (by omega) hD tt xx⟩
/-! ### _law_words -/
def spWords (C : Addr) : Sp := fun vs H Q _ => ∃ (l : Addr) (ps : List V) (qs : List Q2), vs = [.ref l] ∧ H l = some (.lst ps) ∧ AllAt PairAt H ps qs ∧ qs.length ≤ 10 ∧ (∀ q ∈ qs, PairD q) ∧ ∀ l' us H', Ex H H' → H' l' = some (.lst us) → AllAt (WPairAt C) H' us qs → Q (.ref l') H'
abbrev nWords : List Str := ["_law_pairs_here", "_law_one", "_law_other"]
theorem scWords : FnScope nWords ["_law_pairs_here"] (defScope sWords) := ⟨rfl, rfl, rfl, by decide +kernel, rfl, by decide +kernel, by decide +kernel⟩
theorem ok_words (T : Tx w K mg) : FnR P w K mg base CX0 24 (He.ga K "_law_words") (spWords (He.ga K "Word")) := by
  have G := ok_lword (P := P) (base := base) T 21
  refine fnr (T.fnG2 7 dWords rfl) rfl scWords (fun _ _ _ _ _ _ us hl => match us, hl with | [_], _ => rfl) (fun vs H Q E h => ?_) (fun cdv A outer s H vs Q E hr h => ?_)
  · obtain ⟨_, _, _, rfl, _⟩ := h
    rfl
  · obtain ⟨l, ps, qs, rfl, hl, hA, hq, hD, k⟩ := h
    have nd := scWords.nd
    refine ⟨_, pss_one (ps_ret (pe_lc (own := [("_law_one", 1), ("_law_other", 2)]) rfl nd (pi_list (pv 0)) (blkOk_by (own := [("_law_one", 1), ("_law_other", 2)]) (N := nWords) (sc := defScope sWords) (by decide +kernel))
        (fun _ _ _ _ _ => pg_tupK (K := K) rfl (n := 2) rfl (pgs_cons (pg_name (i := 1) nd rfl (Or.inl rfl)) (pgs_cons (pg_name (i := 2) nd rfl (Or.inl rfl)) pgs_nil))) (fun _ _ _ _ _ => pts_nil)
        (fun _ _ _ _ _ => pe_tup (pa_cons (pe_cR G hr (T.g "_law_word") (T.k "_law_word") pass0 (pa_cons (pv 1) pa_nil)) (pa_cons (pe_cR G hr (T.g "_law_word") (T.k "_law_word") pass0 (pa_cons (pv 2) pa_nil)) pa_nil))))), ?_⟩
    refine ⟨_, rfl, l, rfl, ⟨_, SqL.of hl⟩, fun D nD => lc_map (walk_list (xs := ps)) (fun i v H => ∀ q, qs[i]? = some q → WPairAt (He.ga K "Word") H v q) nD (by rw [hA.1]; omega) (fun H e => SqL.of (e l _ hl)) (fun i v H H' xs hx e h q hq => (h q hq).mono (e.n hx)) (fun i x H0 H' Qe hi e hDl y kq => ?_) (fun ys H2 e2 hD2 hyl hy => ?_)⟩
    · obtain ⟨rfl, hx⟩ := y
      obtain ⟨q, hq', t, x1, x2, rfl, ht, s1, s2⟩ := hA.get hx
      have hd := hD q (List.mem_of_getElem? hq')
      have d1 := hd.1
      have d2 := hd.2
      refine ⟨t, _, rfl, SqT.of (e t _ ht), rfl, _, _, rfl, _, _, rfl, rfl, rfl, _, rfl, x1, q.1, rfl, s1.ex e, (by show q.1.depth ≤ 20; omega), fun v1 H3 e3 w1 => ⟨_, rfl, x2, q.2, rfl, (s2.ex e).ex e3, (by show q.2.depth ≤ 20; omega), fun v2 H4 e4 w2 => ⟨by show 2 ≤ sizeLine; decide, fun t2 nt2 => ?_⟩⟩⟩
      have e5 : Ex H4 (upd H4 t2 (.tup [v1, v2])) := Evl.Ex.new nt2
      refine kq _ _ ((e3.trans e4).trans e5) fun q' hq'' => ?_
      rw [hq'] at hq''
      obtain rfl := Option.some.inj hq''
      exact ⟨t2, v1, v2, rfl, upd_same, (w1.ex e4).ex e5, w2.ex e5⟩
    · exact k D ys H2 e2 hD2 ⟨by rw [hyl, hA.1], fun i v q hv hq => hy i v hv q hq⟩
end
end HX
end

section
set_option Elab.async false
set_option linter.all false
set_option maxRecDepth 100000
set_option maxHeartbeats 4000000
/-! _law_allowed. -/
namespace HX
open PySem PySem.Spec PyProof.Rows L2
open Evl (Ex)
theorem inV_str (k : Str) (l : List Str) : inV (.str k) (l.map V.str) = decide (k ∈ l) := by
  induction l with
  | nil => rfl
  | cons x r IH =>
    have e : inV (.str k) ((x :: r).map V.str) = (eqV (.str x) (.str k) || inV (.str k) (r.map V.str)) := rfl
    rw [e, IH]
    by_cases c : x = k
    · subst c
      simp [eqV]
    · have : eqV (.str x) (.str k) = false := by simp [eqV, c]
      rw [this]
      have c' : ¬ k = x := fun z => c z.symm
      simp [c']
theorem flat_strs (l : List Str) : (l.map V.str).all flatV = true := by
  induction l with
  | nil => rfl
  | cons x r IH => simp only [List.map_cons, List.all_cons, IH, Bool.and_true]; rfl
theorem unlock_ex {H H' : Hp} {d : Addr} {od : Obj} {u : HO} (h : H d = some u) (e : Ex (upd H d (.frz od u)) H') : Ex H (upd H' d u) := fun b o hb => by
  by_cases c : b = d
  · subst c
    rw [upd_same]
    rw [h] at hb
    exact hb
  · rw [upd_ne c]
    exact e b o (by rw [upd_ne c]; exact hb)
theorem FaAt.but {C W d : Addr} {H H' : Hp} {v : V} {ins outs : List Q2} (hn : ∀ c dx fs, H d ≠ some (.ins c dx fs)) (ht : ∀ xs, H d ≠ some (.tup xs)) (hl : ∀ xs, H d ≠ some (.lst xs)) (e : ∀ b o, b ≠ d → H b = some o → H' b = some o) (h : FaAt C W H v ins outs) : FaAt C W H' v ins outs := by
  obtain ⟨⟨p, dx, a, b, va, vb, rfl, h1, h2, h3, h4, h5⟩, d1, d2, l1, l2⟩ := h
  exact ⟨⟨p, dx, a, b, va, vb, rfl, e _ _ (fun z => hn _ _ _ (z ▸ h1)) h1, e _ _ (fun z => hl _ (z ▸ h2)) h2, h3.mono fun v a h => h.but (fun _ _ _ => hn _ _ _) ht e, e _ _ (fun z => hl _ (z ▸ h4)) h4, h5.mono fun v a h => h.but (fun _ _ _ => hn _ _ _) ht e⟩, d1, d2, l1, l2⟩
def offB (ins : List Q2) (n : Str → Int) (k : Str) : Bool := decide (0 < n k) && !decide (k ∈ allowed ins)
def allowedB (ins : List Q2) (n : Str → Int) : Bool := (kinds.filter (offB ins n)).isEmpty
section
variable {P : Program} {w : World} {K : PySem.W.Frag} {mg : Str → Option Value} {base : Heap}
def spAllowed (C W : Addr) : Sp := fun vs H Q _ => ∃ (v u : V) (ins outs : List Q2) (n : Str → Int), vs = [v, u] ∧ FaAt C W H v ins outs ∧ NumAt H u n ∧ ∀ H', Ex H H' → Q (.bl (allowedB ins n)) H'
abbrev nAllowed : List Str := ["_law_facts", "_law_amounts", "_law_kind"]
theorem scAllowed : FnScope nAllowed ["_law_facts", "_law_amounts"] (defScope sAllowed) := ⟨rfl, rfl, rfl, by decide +kernel, rfl, by decide +kernel, by decide +kernel⟩
theorem ok_allowed (T : Tx w K mg) : FnR P w K mg base CX0 26 (He.ga K "_law_allowed") (spAllowed (He.ga K "Facts") (He.ga K "Word")) := by
  have G := ok_kinds (P := P) (base := base) T
  refine fnr (T.fnG2 8 dAllowed rfl) rfl scAllowed (fun _ _ _ _ _ _ us hl => match us, hl with | [_, _], _ => rfl) (fun vs H Q E h => ?_) (fun cdv A outer s H vs Q E hr h => ?_)
  · obtain ⟨_, _, _, _, _, rfl, _⟩ := h
    rfl
  · obtain ⟨v, u, ins, outs, n, rfl, hF, ⟨a, rfl, ha⟩, k⟩ := h
    have nd := scAllowed.nd
    have hu := hu_of hr
    have hu0 := hr.units0
    have cF := T.c "Facts"
    have mK := T.meth "Facts" "kinds" (by decide +kernel)
    refine ⟨_, pss_one (ps_ret (pe_cmpR (op_eqL0 hu0) (pe_lock (pe_lc (own := [("_law_kind", 2)]) rfl nd (pi_keys (pv 1)) (blkOk_by (own := [("_law_kind", 2)]) (N := nAllowed) (sc := defScope sAllowed) (by decide +kernel)) (fun _ _ _ _ _ => pg_name (i := 2) nd rfl (Or.inl rfl))
        (fun _ _ _ _ _ => pts_one (PW.pt (pw_and (pt_cmpR op_gt (pe_dget hu (pv 1) (pv 2) (fun _ _ => rfl)) pe_int (nomark _)) (pw_and1 (pt_cmpR (r := rIn K true) op_notIn_seq (pv 2) (pe_mR0 (pv 0) cF mK G hr pass0) rfl))))) (fun _ _ _ _ _ => pv 2))) (pe_lst pa_nil) (nomark _))), ?_⟩
    refine ⟨a, _, ha, trivial, fun od => ?_⟩
    have hal : (upd H a (.frz od (.dK (d9 fun k => .int (n k))))) a = some (.frz od (.dK (d9 fun k => .int (n k)))) := upd_same
    have hF1 : FaAt (He.ga K "Facts") (He.ga K "Word") (upd H a (.frz od (.dK (d9 fun k => .int (n k))))) v ins outs := hF.but (d := a) (fun c dx fs z => by rw [ha] at z; cases z) (fun xs z => by rw [ha] at z; cases z) (fun xs z => by rw [ha] at z; cases z) (fun b o hb h => by rw [upd_ne hb]; exact h)
    generalize hH1 : upd H a (.frz od (.dK (d9 fun k => .int (n k)))) = H1 at hal hF1
    obtain ⟨p, dx, a', b', rfl, hp⟩ := hF1.ref
    refine ⟨_, rfl, a, od, rfl, .inl ⟨_, hal, fun D nD => lc_fil walk_keys (fun i => offB ins n (kAt i)) (fun i => .str (kAt i)) nD (by show 9 ≤ 99999; decide) (fun H e => e a _ hal) (fun i x H0 H' Qy Qn hi e yy ky kn => ?_) (fun H2 e2 hD => ?_)⟩⟩
    · obtain ⟨rfl, kk, vv, hkv, rfl⟩ := yy
      have hi9 : i < 9 := hi
      obtain ⟨rfl, rfl⟩ : kk = Sum.inr (kAt i) ∧ vv = V.int (n (kAt i)) := by
        have h0 : (d9 fun k => V.int (n k))[i]? = some (Sum.inr (kAt i), V.int (n (kAt i))) := by
          rw [← d9_range, List.getElem?_map, List.getElem?_range hi9]
          rfl
        rw [h0] at hkv
        have := Option.some.inj hkv
        injection this with h1 h2
        exact ⟨h1.symm, h2.symm⟩
      have hm : kAt i ∈ kinds := by
        have : ∀ i, i < 9 → kAt i ∈ kinds := by decide +kernel
        exact this i hi9
      have g : DGet H' a (.str (kAt i)) (some (.int (n (kAt i)))) := .inl ⟨_, Sum.inr (kAt i), .inr ⟨od, e a _ hal⟩, rfl, (d9_at (fun k => .int (n k)) hm).symm⟩
      refine ⟨rfl, _, rfl, _, rfl, a, _, rfl, g, _, _, rfl, rfl, _, rfl, ?_⟩
      by_cases c : 0 < n (kAt i)
      · refine ite_t (decide_eq_true c) ?_
        refine ⟨_, rfl, _, rfl, p, dx, _, rfl, e p _ hp, ff_no _ _ (by decide +kernel) (by decide +kernel), .ref p, ins, outs, rfl, hF1.mono e, fun l H4 nl e4 hl => ?_⟩
        refine ⟨l, _, rfl, .inl (SqL.of hl), rfl, flat_strs _, _, rfl, ?_⟩
        have ev : (!inV (.str (kAt i)) ((allowed ins).map V.str)) = offB ins n (kAt i) := by
          rw [inV_str]
          unfold offB
          rw [decide_eq_true c, Bool.true_and]
        show if (!inV (.str (kAt i)) ((allowed ins).map V.str)) = true then _ else _
        rw [ev]
        cases c2 : offB ins n (kAt i) with
        | true => exact iteT ⟨_, rfl, ky c2 H4 e4⟩
        | false => exact iteF (kn c2 H4 e4)
      · refine ite_f (decide_eq_false c) (iteF (kn ?_ H' (Ex.refl _)))
        unfold offB
        rw [decide_eq_false c, Bool.false_and]
    · have hDk : H2 D = some (.lst ((kinds.filter (offB ins n)).map V.str)) := by
        rw [hD]
        refine congrArg (fun l => some (HO.lst l)) ?_
        have : kinds = (List.range 9).map kAt := rfl
        rw [this, List.filter_map, List.map_map]
        rfl
      refine ⟨e2 a _ hal, ?_⟩
      have e3 : Ex H (upd H2 a (.dK (d9 fun k => .int (n k)))) := unlock_ex (od := od) ha (by rw [hH1]; exact e2)
      have nDa : D ≠ a := fun z => by rw [z, hal] at nD; cases nD
      have hD3 : (upd H2 a (.dK (d9 fun k => .int (n k)))) D = some (.lst ((kinds.filter (offB ins n)).map V.str)) := by rw [upd_ne nDa]; exact hDk
      refine ⟨Nat.zero_le _, fun l nl => ?_⟩
      have e4 : Ex (upd H2 a (.dK (d9 fun k => .int (n k)))) (upd (upd H2 a (.dK (d9 fun k => .int (n k)))) l (.lst [])) := Evl.Ex.new nl
      refine ⟨D, l, _, rfl, rfl, SqL.of (e4 D _ hD3), SqL.of upd_same, ?_⟩
      have := k _ (e3.trans e4)
      unfold allowedB at this
      have ee : ((kinds.filter (offB ins n)).map V.str).isEmpty = (kinds.filter (offB ins n)).isEmpty := by cases kinds.filter (offB ins n) <;> rfl
      rw [ee]
      exact this
end
end HX
end

section
set_option Elab.async false
set_option linter.all false
set_option maxRecDepth 100000
set_option maxHeartbeats 4000000
/-! Plain law. -/
namespace HX
open PySem
theorem pl_cases : ∀ x, x ∈ plains → ∀ y, y ∈ plains → psz (inPl "&" x y) - psz x ≤ 0 ∧ (psz (inPl "&" x y) - psz x = 0 ↔ ((x = "0" ∨ x = y) ∨ y = "1")) := by decide +kernel
theorem inner_le (q : Wd × Wd) (k : PySem.Str) : innerF q k ≤ 0 ∧ (innerF q k = 0 ↔ q.1.within q.2 k = true) := by
  unfold innerF Wd.cf Wd.within
  by_cases c : k = "plane"
  · rw [if_pos c, if_pos c, if_pos c]
    have := pl_cases q.1.pm q.1.pm_in q.2.pm q.2.pm_in
    refine ⟨this.1, ?_⟩
    show psz (inPl "&" q.1.pm q.2.pm) - psz q.1.pm = 0 ↔ _
    rw [this.2]
    simp
  · rw [if_neg c, if_neg c, if_neg c]
    show q.1.lm k * q.2.lm k - q.1.lm k ≤ 0 ∧ (q.1.lm k * q.2.lm k - q.1.lm k = 0 ↔ decide (q.1.lm k ≤ q.2.lm k) = true)
    have a := q.1.lm01 k
    have b := q.2.lm01 k
    have a' : q.1.lm k = 0 ∨ q.1.lm k = 1 := by omega
    have b' : q.2.lm k = 0 ∨ q.2.lm k = 1 := by omega
    rcases a' with x | x <;> rcases b' with y | y <;> rw [x, y] <;> simp
/-! ### sums of what is not above nothing -/
theorem sum_np (g : PySem.Str → Int) : ∀ l : List PySem.Str, (∀ k ∈ l, g k ≤ 0) → (l.map g).sum ≤ 0 ∧ (0 ≤ (l.map g).sum ↔ ∀ k ∈ l, g k = 0)
  | [], _ => ⟨by simp, by simp⟩
  | k :: l, h => by
    have a := h k (List.mem_cons_self ..)
    obtain ⟨b, c⟩ := sum_np g l fun k hk => h k (List.mem_cons_of_mem _ hk)
    rw [List.map_cons, List.sum_cons]
    refine ⟨by omega, fun z k' hk' => ?_, fun z => ?_⟩
    · rcases List.mem_cons.mp hk' with rfl | m
      · omega
      · exact c.mp (by omega) k' m
    · have := z k (List.mem_cons_self ..)
      have := c.mpr fun k' hk' => z k' (List.mem_cons_of_mem _ hk')
      omega
theorem tot_np {f n : PySem.Str → Int} (hf : ∀ k, f k ≤ 0) (hn : ∀ k, 0 ≤ n k) : tot f n ≤ 0 ∧ (0 ≤ tot f n ↔ ∀ k ∈ kinds, 0 < n k → f k = 0) := by
  obtain ⟨a, b⟩ := sum_np (fun k => f k * n k) kinds fun k _ => Int.mul_nonpos_of_nonpos_of_nonneg (hf k) (hn k)
  refine ⟨a, ?_⟩
  unfold tot
  rw [b]
  refine ⟨fun h k hk hp => ?_, fun h k hk => ?_⟩
  · have := h k hk
    rcases Int.mul_eq_zero.mp this with z | z
    · exact z
    · omega
  · by_cases z : 0 < n k
    · show f k * n k = 0
      rw [h k hk z, Int.zero_mul]
    · have : n k = 0 := by have := hn k; omega
      show f k * n k = 0
      rw [this, Int.mul_zero]
theorem sum_neg (g : PySem.Str → Int) : ∀ l : List PySem.Str, (l.map fun k => -g k).sum = -(l.map g).sum
  | [] => rfl
  | k :: l => by rw [List.map_cons, List.map_cons, List.sum_cons, List.sum_cons, sum_neg g l]; omega
theorem tot_neg (f n : PySem.Str → Int) : tot (neg f) n = -tot f n := by
  unfold tot neg
  rw [← sum_neg]
  congr 1
  refine List.map_congr_left fun k _ => ?_
  rw [Int.neg_mul]
/-- a claim's sums: weak, strict -/
def wkF (q : Wd × Wd) : PySem.Str → Int := fun k => 1 * innerF q k
def stF (q : Wd × Wd) : PySem.Str → Int := fun k => -1 * innerF q k
theorem wkF_eq (q : Wd × Wd) : wkF q = innerF q := by funext k; unfold wkF; omega
theorem stF_eq (q : Wd × Wd) : stF q = neg (innerF q) := by funext k; unfold stF neg; omega
/-- all kinds that bear a number bear it within -/
def Sup (n : PySem.Str → Int) (q : Wd × Wd) : Prop := ∀ k ∈ kinds, 0 < n k → q.1.within q.2 k = true
theorem tot_sup {n : PySem.Str → Int} (hn : ∀ k, 0 ≤ n k) (q : Wd × Wd) : tot (innerF q) n ≤ 0 ∧ (0 ≤ tot (innerF q) n ↔ Sup n q) := by
  obtain ⟨a, b⟩ := tot_np (fun k => (inner_le q k).1) hn
  refine ⟨a, b.trans ⟨fun h k hk hp => (inner_le q k).2.mp (h k hk hp), fun h k hk hp => (inner_le q k).2.mpr (h k hk hp)⟩⟩
def wsOf (near : List Q2) : List (PySem.Str → Int) := near.map wkF
def ssOf (far : List Q2) : List (PySem.Str → Int) := far.map stF
theorem fit_base (near far : List Q2) (n : PySem.Str → Int) : Fit (baseR (wsOf near) (ssOf far)) n ↔ (∀ k, 0 ≤ n k) ∧ (∀ q ∈ near, Sup n q) ∧ ∀ q ∈ far, ¬ Sup n q := by
  constructor
  · rintro ⟨h0, h⟩
    refine ⟨h0, fun q hq => ?_, fun q hq => ?_⟩
    · have := h (wkF q, 0) (List.mem_append_left _ (List.mem_map.mpr ⟨wkF q, List.mem_map.mpr ⟨q, hq, rfl⟩, rfl⟩))
      rw [show (wkF q, (0 : Int)).1 = innerF q from wkF_eq q] at this
      exact (tot_sup h0 q).2.mp this
    · have := h (stF q, 1) (List.mem_append_right _ (List.mem_map.mpr ⟨stF q, List.mem_map.mpr ⟨q, hq, rfl⟩, rfl⟩))
      rw [show (stF q, (1 : Int)).1 = neg (innerF q) from stF_eq q, tot_neg] at this
      intro z
      have := (tot_sup h0 q).2.mpr z
      omega
  · rintro ⟨h0, h1, h2⟩
    refine ⟨h0, fun t ht => ?_⟩
    rcases List.mem_append.mp ht with ht | ht
    · obtain ⟨f, hf, rfl⟩ := List.mem_map.mp ht
      obtain ⟨q, hq, rfl⟩ := List.mem_map.mp hf
      show 0 ≤ tot (wkF q) n
      rw [wkF_eq]
      exact (tot_sup h0 q).2.mpr (h1 q hq)
    · obtain ⟨f, hf, rfl⟩ := List.mem_map.mp ht
      obtain ⟨q, hq, rfl⟩ := List.mem_map.mp hf
      show 1 ≤ tot (stF q) n
      rw [stF_eq, tot_neg]
      have h3 : ¬ 0 ≤ tot (innerF q) n := fun z => h2 q hq ((tot_sup h0 q).2.mp z)
      omega
/-! ### the facts' side -/
theorem brk_none {ins : List Q2} {k : PySem.Str} : (brk ins k).isNone = true ↔ ∀ q ∈ ins, q.1.within q.2 k = true := by
  unfold brk
  rw [Option.isNone_iff_eq_none, List.findIdx?_eq_none_iff]
  simp
theorem lck_none {outs : List Q2} {ks : List PySem.Str} : (lck outs ks).isNone = true ↔ ∀ q ∈ outs, ∃ k ∈ ks, ¬ q.1.within q.2 k = true := by
  unfold lck
  rw [Option.isNone_iff_eq_none, List.findIdx?_eq_none_iff]
  refine forall_congr' fun q => forall_congr' fun _ => ?_
  simp
theorem mem_allowed {ins : List Q2} {k : PySem.Str} : k ∈ allowed ins ↔ k ∈ kinds ∧ ∀ q ∈ ins, q.1.within q.2 k = true := by
  unfold allowed
  rw [List.mem_filter, brk_none]
theorem mem_kept {ins : List Q2} {q : Q2} {k : PySem.Str} : k ∈ keptK ins q ↔ k ∈ allowed ins ∧ q.1.within q.2 k = true := by
  unfold keptK
  rw [List.mem_filter]
theorem kept_eq {ins : List Q2} {q : Q2} : keptK ins q = allowed ins ↔ ∀ k ∈ allowed ins, q.1.within q.2 k = true := by
  unfold keptK
  exact List.filter_eq_self
theorem clash_no {ins outs : List Q2} : clashB ins outs = false ↔ ∀ q ∈ outs, ∃ k ∈ allowed ins, ¬ q.1.within q.2 k = true := by
  unfold clashB
  rw [← lck_none]
  cases lck outs (allowed ins) <;> simp
/-- the numbers that stand at a list of kinds -/
def indS (S : List PySem.Str) : PySem.Str → Int := fun k => if k ∈ S then 1 else 0
theorem indS_nn (S : List PySem.Str) (k : PySem.Str) : 0 ≤ indS S k := by unfold indS; split <;> omega
theorem indS_pos {S : List PySem.Str} {k : PySem.Str} : 0 < indS S k ↔ k ∈ S := by unfold indS; split <;> simp [*]
theorem sup_ind {S : List PySem.Str} (hS : ∀ k ∈ S, k ∈ kinds) (q : Q2) : Sup (indS S) q ↔ ∀ k ∈ S, q.1.within q.2 k = true :=
  ⟨fun h k hk => h k (hS k hk) (indS_pos.mpr hk), fun h k _ hp => h k (indS_pos.mp hp)⟩
theorem allowed_kinds {ins : List Q2} : ∀ k ∈ allowed ins, k ∈ kinds := fun k hk => (mem_allowed.mp hk).1
theorem kept_kinds {ins : List Q2} {q : Q2} : ∀ k ∈ keptK ins q, k ∈ kinds := fun k hk => allowed_kinds k (mem_kept.mp hk).1
/-- within the near pairs: what bears numbers is allowed -/
theorem sup_allowed {near : List Q2} {n : PySem.Str → Int} (h : ∀ q ∈ near, Sup n q) {k : PySem.Str} (hk : k ∈ kinds) (hp : 0 < n k) : k ∈ allowed near := mem_allowed.mpr ⟨hk, fun q hq => h q hq k hk hp⟩
theorem fit_ind (near far : List Q2) (S : List PySem.Str) (h1 : ∀ k ∈ S, k ∈ allowed near) (h2 : ∀ q ∈ far, ∃ k ∈ S, ¬ q.1.within q.2 k = true) : Fit (baseR (wsOf near) (ssOf far)) (indS S) := by
  have hS : ∀ k ∈ S, k ∈ kinds := fun k hk => allowed_kinds k (h1 k hk)
  refine (fit_base near far _).mpr ⟨indS_nn S, fun q hq => (sup_ind hS q).mpr fun k hk => (mem_allowed.mp (h1 k hk)).2 q hq, fun q hq z => ?_⟩
  obtain ⟨k, hk, nw⟩ := h2 q hq
  exact nw ((sup_ind hS q).mp z k hk)
theorem feas (near far : List Q2) : (∃ n, Fit (baseR (wsOf near) (ssOf far)) n) ↔ clashB near far = false := by
  rw [clash_no]
  constructor
  · rintro ⟨n, hf⟩ q hq
    obtain ⟨h0, h1, h2⟩ := (fit_base near far n).mp hf
    have := h2 q hq
    unfold Sup at this
    rw [Classical.not_forall] at this
    obtain ⟨k, this⟩ := this
    rw [Classical.not_imp, Classical.not_imp] at this
    exact ⟨k, sup_allowed h1 this.1 this.2.1, this.2.2⟩
  · intro h
    exact ⟨_, fit_ind near far (allowed near) (fun k hk => hk) h⟩
/-- a row more -/
theorem fit_app {l : List Rw} {t : Rw} {n : PySem.Str → Int} : Fit (l ++ [t]) n ↔ Fit l n ∧ t.2 ≤ tot t.1 n := by
  constructor
  · rintro ⟨h0, h⟩
    exact ⟨⟨h0, fun s hs => h s (List.mem_append_left _ hs)⟩, h t (List.mem_append_right _ (List.mem_singleton.mpr rfl))⟩
  · rintro ⟨⟨h0, h⟩, ht⟩
    refine ⟨h0, fun s hs => ?_⟩
    rcases List.mem_append.mp hs with z | z
    · exact h s z
    · rw [List.mem_singleton.mp z]; exact ht
theorem ag_inner {n : PySem.Str → Int} (h0 : ∀ k, 0 ≤ n k) (q : Q2) : (agR (wkF q) false).2 ≤ tot (agR (wkF q) false).1 n ↔ ¬ Sup n q := by
  show 1 ≤ tot (neg (wkF q)) n ↔ _
  rw [tot_neg, wkF_eq, ← (tot_sup h0 q).2]
  omega
theorem ag_outer {n : PySem.Str → Int} (h0 : ∀ k, 0 ≤ n k) (q : Q2) : (agR (stF q) true).2 ≤ tot (agR (stF q) true).1 n ↔ Sup n q := by
  show 0 ≤ tot (neg (stF q)) n ↔ _
  rw [tot_neg, stF_eq, tot_neg, ← (tot_sup h0 q).2]
  omega
section
variable {near far : List Q2} {q : Q2}
theorem sure_iff (hc : clashB near far = false) : verd near far q = "sure" ↔ ¬ ∃ n, Fit (baseR (wsOf near) (ssOf far) ++ [agR (wkF q) false]) n := by
  have e1 : verd near far q = "sure" ↔ keptK near q = allowed near := by
    unfold verd
    by_cases c : keptK near q = allowed near
    · simp [c]
    · rw [if_neg c]
      constructor
      · intro z
        split at z
        · exact absurd z (by decide +kernel)
        · exact absurd z (by decide +kernel)
      · intro z; exact absurd z c
  rw [e1, kept_eq]
  constructor
  · rintro h ⟨n, hf⟩
    obtain ⟨hb, ht⟩ := fit_app.mp hf
    obtain ⟨h0, h1, h2⟩ := (fit_base near far n).mp hb
    exact (ag_inner h0 q).mp ht fun k hk hp => h k (sup_allowed h1 hk hp)
  · intro h k hk
    refine Classical.byContradiction fun nw => h ⟨indS (allowed near), fit_app.mpr ⟨fit_ind near far _ (fun k hk => hk) (clash_no.mp hc), (ag_inner (indS_nn _) q).mpr fun z => nw ((sup_ind allowed_kinds q).mp z k hk)⟩⟩
theorem kept_fit : (lck far (keptK near q)).isNone = true ↔ ∃ n, Fit (baseR (wsOf near) (ssOf far) ++ [agR (stF q) true]) n := by
  rw [lck_none]
  constructor
  · intro h
    refine ⟨indS (keptK near q), fit_app.mpr ⟨fit_ind near far _ (fun k hk => (mem_kept.mp hk).1) h, (ag_outer (indS_nn _) q).mpr ((sup_ind kept_kinds q).mpr fun k hk => (mem_kept.mp hk).2)⟩⟩
  · rintro ⟨n, hf⟩ q' hq'
    obtain ⟨hb, ht⟩ := fit_app.mp hf
    obtain ⟨h0, h1, h2⟩ := (fit_base near far n).mp hb
    have hs := (ag_outer h0 q).mp ht
    have := h2 q' hq'
    unfold Sup at this
    rw [Classical.not_forall] at this
    obtain ⟨k, this⟩ := this
    rw [Classical.not_imp, Classical.not_imp] at this
    exact ⟨k, mem_kept.mpr ⟨sup_allowed h1 this.1 this.2.1, hs k this.1 this.2.1⟩, this.2.2⟩
theorem barred_iff (hc : clashB near far = false) : verd near far q = "barred" ↔ ¬ ∃ n, Fit (baseR (wsOf near) (ssOf far) ++ [agR (stF q) true]) n := by
  rw [← kept_fit]
  unfold verd
  by_cases c : keptK near q = allowed near
  · rw [if_pos c, c]
    have : (lck far (allowed near)).isNone = true := lck_none.mpr (clash_no.mp hc)
    rw [this]
    constructor
    · intro z; exact absurd z (by decide +kernel)
    · intro z; exact absurd rfl z
  · rw [if_neg c]
    cases h : (lck far (keptK near q)).isNone with
    | true =>
      rw [if_pos rfl]
      constructor
      · intro z; exact absurd z (by decide +kernel)
      · intro z; exact absurd rfl z
    | false => simp
theorem verd_three : verd near far q = "sure" ∨ verd near far q = "barred" ∨ verd near far q = "open" := by
  unfold verd
  split
  · exact .inl rfl
  · split
    · exact .inr (.inr rfl)
    · exact .inr (.inl rfl)
theorem mdl_ind (b : Bool) (k : PySem.Str) (hk : k ∈ kinds) : mdl near q b k = indS (if b = true then keptK near q else allowed near) k := by
  unfold mdl indS
  have e : (((brk near k).isNone && (!b || q.1.within q.2 k)) = true) ↔ k ∈ (if b = true then keptK near q else allowed near) := by
    cases b with
    | true =>
      rw [if_pos rfl, mem_kept, mem_allowed, Bool.and_eq_true, brk_none]
      simp [hk]
    | false =>
      rw [if_neg (by decide), mem_allowed, Bool.and_eq_true, brk_none]
      simp [hk]
  by_cases c : ((brk near k).isNone && (!b || q.1.within q.2 k)) = true
  · rw [if_pos c, if_pos (e.mp c)]
  · rw [if_neg c, if_neg (fun z => c (e.mpr z))]
theorem tot_congr {f n m : PySem.Str → Int} (h : ∀ k ∈ kinds, n k = m k) : tot f n = tot f m := by
  unfold tot
  congr 1
  exact List.map_congr_left fun k hk => by rw [h k hk]
theorem keepB_iff {n : PySem.Str → Int} (h0 : ∀ k, 0 ≤ n k) : keepB (wsOf near) (ssOf far) n = true ↔ Fit (baseR (wsOf near) (ssOf far)) n := by
  unfold keepB
  rw [Bool.and_eq_true, List.all_eq_true, List.all_eq_true]
  constructor
  · rintro ⟨h1, h2⟩
    refine ⟨h0, fun t ht => ?_⟩
    rcases List.mem_append.mp ht with ht | ht
    · obtain ⟨f, hf, rfl⟩ := List.mem_map.mp ht
      exact of_decide_eq_true (h1 f hf)
    · obtain ⟨f, hf, rfl⟩ := List.mem_map.mp ht
      have := of_decide_eq_true (h2 f hf)
      show 1 ≤ tot f n
      omega
  · rintro ⟨_, h⟩
    refine ⟨fun f hf => decide_eq_true (h (f, 0) (List.mem_append_left _ (List.mem_map.mpr ⟨f, hf, rfl⟩))), fun f hf => decide_eq_true ?_⟩
    have : 1 ≤ tot f n := h (f, 1) (List.mem_append_right _ (List.mem_map.mpr ⟨f, hf, rfl⟩))
    omega
theorem mdl_nn (b : Bool) (k : PySem.Str) : 0 ≤ mdl near q b k := by unfold mdl; split <;> omega
theorem keepB_congr {n m : PySem.Str → Int} (h : ∀ k ∈ kinds, n k = m k) (ws ss : List (PySem.Str → Int)) : keepB ws ss n = keepB ws ss m := by
  unfold keepB
  have e : ∀ f, tot f n = tot f m := fun f => tot_congr h
  simp only [e]
theorem mdl_good (hc : clashB near far = false) (b : Bool) (hv : ¬ verd near far q = (if b = true then ("barred" : PySem.Str) else "sure")) :
    keepB (wsOf near) (ssOf far) (mdl near q b) = true ∧ decide (tot (wkF q) (mdl near q b) = 0) = b := by
  have ek := fun k hk => mdl_ind (near := near) (q := q) b k hk
  rw [keepB_congr ek, tot_congr ek]
  cases b with
  | true =>
    rw [if_pos rfl] at hv
    simp only [if_true]
    have hl : (lck far (keptK near q)).isNone = true := by
      have := fun z => hv ((barred_iff (q := q) hc).mpr z)
      rw [← kept_fit] at this
      exact Classical.not_not.mp this
    have hf := fit_ind near far (keptK near q) (fun k hk => (mem_kept.mp hk).1) (lck_none.mp hl)
    refine ⟨(keepB_iff (indS_nn _)).mpr hf, decide_eq_true ?_⟩
    rw [wkF_eq]
    have a := tot_sup (indS_nn (keptK near q)) q
    have := a.2.mpr ((sup_ind kept_kinds q).mpr fun k hk => (mem_kept.mp hk).2)
    omega
  | false =>
    rw [if_neg (by decide)] at hv
    simp only [Bool.false_eq_true, if_false]
    have hf := fit_ind near far (allowed near) (fun k hk => hk) (clash_no.mp hc)
    refine ⟨(keepB_iff (indS_nn _)).mpr hf, decide_eq_false ?_⟩
    rw [wkF_eq]
    intro z
    have a := tot_sup (indS_nn (allowed near)) q
    have hs := a.2.mp (by omega)
    have : keptK near q = allowed near := kept_eq.mpr ((sup_ind allowed_kinds q).mp hs)
    exact hv (by unfold verd; rw [if_pos this])
theorem allowedB_fit {n : PySem.Str → Int} (h : Fit (baseR (wsOf near) (ssOf far)) n) : allowedB near n = true := by
  obtain ⟨h0, h1, h2⟩ := (fit_base near far n).mp h
  unfold allowedB
  rw [List.isEmpty_iff, List.filter_eq_nil_iff]
  intro k hk
  unfold offB
  by_cases c : 0 < n k
  · have := sup_allowed h1 hk c
    simp [this]
  · simp [c]
theorem row_ok (q : Wd × Wd) (k : PySem.Str) : -2 ≤ innerF q k ∧ innerF q k ≤ 2 := by
  have a := (Wd.cut q.1 q.2).cf02 k
  have b := q.1.cf02 k
  unfold innerF
  omega
theorem base_ok (hl : near.length + far.length ≤ 7) : RwOk (baseR (wsOf near) (ssOf far)) := by
  refine ⟨by simp [baseR, wsOf, ssOf]; omega, fun t ht => ?_, fun t ht k => ?_⟩
  · rcases List.mem_append.mp ht with ht | ht
    · obtain ⟨f, hf, rfl⟩ := List.mem_map.mp ht; exact .inl rfl
    · obtain ⟨f, hf, rfl⟩ := List.mem_map.mp ht; exact .inr rfl
  · rcases List.mem_append.mp ht with ht | ht
    · obtain ⟨f, hf, rfl⟩ := List.mem_map.mp ht
      obtain ⟨q, hq, rfl⟩ := List.mem_map.mp hf
      have := row_ok q k
      show -2 ≤ 1 * innerF q k ∧ 1 * innerF q k ≤ 2
      omega
    · obtain ⟨f, hf, rfl⟩ := List.mem_map.mp ht
      obtain ⟨q, hq, rfl⟩ := List.mem_map.mp hf
      have := row_ok q k
      show -2 ≤ -1 * innerF q k ∧ -1 * innerF q k ≤ 2
      omega
theorem more_ok (hl : near.length + far.length ≤ 6) {f : PySem.Str → Int} (hf : ∀ k, -2 ≤ f k ∧ f k ≤ 2) (b : Bool) : RwOk (baseR (wsOf near) (ssOf far) ++ [agR f b]) := by
  have h := base_ok (near := near) (far := far) (by omega)
  refine ⟨by simp [baseR, wsOf, ssOf]; omega, fun t ht => ?_, fun t ht k => ?_⟩
  · rcases List.mem_append.mp ht with ht | ht
    · exact h.need t ht
    · rw [List.mem_singleton.mp ht]
      show (if b = true then (0 : Int) else 1) = 0 ∨ (if b = true then (0 : Int) else 1) = 1
      cases b
      · exact .inr rfl
      · exact .inl rfl
  · rcases List.mem_append.mp ht with ht | ht
    · exact h.row t ht k
    · rw [List.mem_singleton.mp ht]
      have := hf k
      show -2 ≤ -f k ∧ -f k ≤ 2
      omega
theorem wk_ok (q : Wd × Wd) (k : PySem.Str) : -2 ≤ wkF q k ∧ wkF q k ≤ 2 := by have := row_ok q k; unfold wkF; omega
theorem st_ok (q : Wd × Wd) (k : PySem.Str) : -2 ≤ stF q k ∧ stF q k ≤ 2 := by have := row_ok q k; unfold stF; omega
end
end HX
end

section
set_option Elab.async false
set_option linter.all false
set_option maxRecDepth 100000
set_option maxHeartbeats 4000000
/-! _law_models_right. -/
namespace HX
open PySem PySem.Spec PyProof.Rows L2
open Evl (Ex)
theorem sm_of {f : PySem.Str → Int} (h : ∀ k, -2 ≤ f k ∧ f k ≤ 2) : SmallF f := fun k => by have := h k; omega
theorem wsOf_small (near : List Q2) : ∀ f ∈ wsOf near, SmallF f := fun f hf => by
  obtain ⟨q, _, rfl⟩ := List.mem_map.mp hf
  exact sm_of (wk_ok q)
theorem ssOf_small (far : List Q2) : ∀ f ∈ ssOf far, SmallF f := fun f hf => by
  obtain ⟨q, _, rfl⟩ := List.mem_map.mp hf
  exact sm_of (st_ok q)
section
variable {P : Program} {w : World} {K : PySem.W.Frag} {mg : Str → Option Value} {base : Heap}
def spRight (Fa Sz Cl W : Addr) : Sp := fun vs H Q _ => ∃ (v u pr : V) (near far : List Q2) (q : Q2), vs = [v, u, pr, .str (verd near far q)] ∧ FaAt Fa W H v near far ∧ SfAt Sz Cl H u (wsOf near) (ssOf far) ∧ PairAt H pr q ∧ PairOk q ∧ clashB near far = false ∧ near.length + far.length ≤ 6 ∧ ∀ H', Ex H H' → Q (.bl true) H'
abbrev nRight : List Str := ["_law_facts", "_law_sizes", "_law_pair", "_law_told", "_law_one", "_law_other", "_law_inner_here", "_law_side", "_law_found"]
theorem scRight : FnScope nRight ["_law_facts", "_law_sizes", "_law_pair", "_law_told"] (defScope sRight) := ⟨rfl, rfl, rfl, by decide +kernel, rfl, by decide +kernel, by decide +kernel⟩
theorem ok_right (T : Tx w K mg) : FnR P w K mg base CX0 30 (He.ga K "_law_models_right") (spRight (He.ga K "Facts") (He.ga K "SizeFacts") (He.ga K "Claim") (He.ga K "Word")) := by
  have GW := ok_lword (P := P) (base := base) T 21
  have GI := ok_inner (P := P) (base := base) T
  have GO := ok_outer (P := P) (base := base) T
  have GM := ok_fmodel (P := P) (base := base) T
  have GK := ok_keep (P := P) (base := base) T
  have GT := ok_total (P := P) (base := base) T
  have GC := ok_counterD (P := P) (base := base) T
  obtain ⟨fdC, GC2, GB⟩ := ok_counterK (P := P) (base := base) T
  have GA := ok_allowed (P := P) (base := base) T
  refine fnr (T.fnG2 10 dRight rfl) rfl scRight (fun _ _ _ _ _ _ us hl => match us, hl with | [_, _, _, _], _ => rfl) (fun vs H Q E h => ?_) (fun cdv A outer s H vs Q E hr h => ?_)
  · obtain ⟨_, _, _, _, _, _, rfl, _⟩ := h
    rfl
  · obtain ⟨v, u, pr, near, far, q, rfl, hF, hS, hPr, hq, hc, hlen, k⟩ := h
    have nd := scRight.nd
    have cF := T.c "Facts"
    have cS := T.c "SizeFacts"
    have cC := T.c "Claim"
    have mM := T.meth "Facts" "model" (by decide +kernel)
    have mK := T.meth "SizeFacts" "keep" (by decide +kernel)
    have mC := T.meth "SizeFacts" "counter" (by decide +kernel)
    have mT := T.meth "Claim" "total" (by decide +kernel)
    have r23 : Room 23 _ := hr.mono (by decide)
    have r27 : Room 27 _ := hr.mono (by decide)
    have r26 : Room 26 _ := hr.mono (by decide)
    have r5 : Room 5 _ := hr.mono (by decide)
    have r4 : Room 4 _ := hr.mono (by decide)
    have r3 : Room 3 _ := hr.mono (by decide)
    refine ⟨_, pss_cons (ps_par (i := 4) (j := 5) (by rfl) nd rfl rfl (by decide) rfl rfl (pa_cons (pe_cR GW r23 (T.g "_law_word") (T.k "_law_word") pass0 (pa_cons (pe_ix ix_tup (pv 2) pe_int (fun _ _ => rfl)) pa_nil)) (pa_cons (pe_cR GW r23 (T.g "_law_word") (T.k "_law_word") pass0 (pa_cons (pe_ix ix_tup (pv 2) pe_int (fun _ _ => rfl)) pa_nil)) pa_nil)) (by rfl))
      (pss_cons (ps_asg (pe_cR GI r27 (T.g "_law_inner") (T.k "_law_inner") pass0 (pa_cons (pv 2) pa_nil)) (pg_name (i := 6) nd rfl (Or.inl rfl)))
      (pss_cons (ps_for PassesOwn.never rfl (pi_list (pe_lst (pa_cons pe_bl (pa_cons pe_bl pa_nil)))) (pg_name (i := 7) nd rfl (Or.inl rfl))
        (pss_cons (ps_asg (pe_methR (pv 0) cF mM GM hr pass0 (pa_cons (pv 4) (pa_cons (pv 5) (pa_cons (pv 7) pa_nil)))) (pg_name (i := 8) nd rfl (Or.inl rfl)))
        (pss_cons (ps_if (pt_cmpR op_ne (pe_cmpR op_isN (pv 8) pe_non (nomark _)) (pe_cmpR op_eq (pv 3) (pe_ifExp (pt_val (pv 7)) pe_str pe_str) (nomark _)) (nomark _)) (pss_one (ps_ret pe_bl)) pss_nil)
        (pss_one (ps_if (PW.pt (pw_and (pt_cmpR op_notN (pv 8) pe_non (nomark _)) (pw_and1 (PW.pt (pw_or (pt_not (pt_val (pe_methR (pv 1) cS mK GK r4 pass0 (pa_cons (pv 8) pa_nil))))
            (pw_or1 (pt_cmpR op_ne (pe_cmpR op_eq (pe_methR (pv 6) cC mT GT r3 pass0 (pa_cons (pv 8) pa_nil)) pe_int (nomark _)) (pv 7) (nomark _)))))))) (pss_one (ps_ret pe_bl)) pss_nil)))))
      (pss_cons (ps_asg (pe_methR (pv 1) cS mC GC r5 pass0 (pa_cons (pv 6) pa_nil)) (pg_name (i := 8) nd rfl (Or.inl rfl)))
      (pss_cons (ps_if (pt_cmpR op_ne (pe_cmpR op_isN (pv 8) pe_non (nomark _)) (pe_cmpR op_eq (pv 3) pe_str (nomark _)) (nomark _)) (pss_one (ps_ret pe_bl)) pss_nil)
      (pss_cons (ps_if (PW.pt (pw_and (pt_cmpR op_notN (pv 8) pe_non (nomark _)) (pw_and1 (PW.pt (pw_or (pt_cmpR op_ge (pe_methR (pv 6) cC mT GT r3 pass0 (pa_cons (pv 8) pa_nil)) pe_int (nomark _))
            (pw_or1 (pt_not (pt_val (pe_cR GA r26 (T.g "_law_allowed") (T.k "_law_allowed") pass0 (pa_cons (pv 0) (pa_cons (pv 8) pa_nil))))))))))) (pss_one (ps_ret pe_bl)) pss_nil)
      (pss_cons (ps_asg (pe_methK (n := 1) (ks := ["strict"]) (pv 1) cS mC GC2 r5 GB pass0 (pa_cons (pe_cR GO r27 (T.g "_law_outer") (T.k "_law_outer") pass0 (pa_cons (pv 2) pa_nil)) pa_nil) (pk_cons pe_bl pk_nil)) (pg_name (i := 8) nd rfl (Or.inl rfl)))
      (pss_cons (ps_if (pt_cmpR op_ne (pe_cmpR op_isN (pv 8) pe_non (nomark _)) (pe_cmpR op_eq (pv 3) pe_str (nomark _)) (nomark _)) (pss_one (ps_ret pe_bl)) pss_nil)
      (pss_one (ps_ret (pe_or (pe_cmpR op_isN (pv 8) pe_non (nomark _)) (pe_one (pe_and (pe_cmpR op_eq (pe_methR (pv 6) cC mT GT r3 pass0 (pa_cons (pv 8) pa_nil)) pe_int (nomark _)) (pe_one (pe_cR GA r26 (T.g "_law_allowed") (T.k "_law_allowed") pass0 (pa_cons (pv 0) (pa_cons (pv 8) pa_nil)))))))))))))))), ?_⟩
    obtain ⟨pp, x, y, rfl, hpp, hx, hy⟩ := hPr
    obtain ⟨p, dx, a, b0, rfl, hp⟩ := hF.ref
    have hPr : PairAt H (.ref pp) q := ⟨pp, x, y, rfl, hpp, hx, hy⟩
    obtain ⟨d1, d2⟩ := hq
    have m1 : q.1.depth ≤ maxD := by show q.1.depth ≤ 20; omega
    have m2 : q.2.depth ≤ maxD := by show q.2.depth ≤ 20; omega
    have no1 : ∀ {m : PySem.Str}, ¬ m = "outside" → ¬ m = "inside" → (ff a b0).lookup m = none := fun h1 h2 => ff_no _ _ h1 h2
    refine ⟨_, rfl, pp, _, 0, x, rfl, rfl, SqT.of hpp, rfl, x, q.1, rfl, hx, (by show q.1.depth ≤ 20; omega), fun v1 H1 e1 w1 => ?_⟩
    refine ⟨_, rfl, pp, _, 1, y, rfl, rfl, SqT.of (e1 pp _ hpp), rfl, y, q.2, rfl, hy.ex e1, (by show q.2.depth ≤ 20; omega), fun v2 H2 e2 w2 => ⟨v1, v2, rfl, ?_⟩⟩
    have e12 := e1.trans e2
    refine ⟨_, rfl, .ref pp, q, rfl, hPr.mono (.of e12), ⟨d1, d2⟩, fun vi H3 e3 hI => ?_⟩
    have hI : ClAt (He.ga K "Claim") H3 vi (wkF q) := hI
    have e123 := e12.trans e3
    have w1' := (w1.ex e2).ex e3
    have w2' := w2.ex e3
    obtain ⟨pc, dc, tc, dd, rfl, hpc, hdd⟩ := id hI
    obtain ⟨ps, dxs, sa, sb, us, vs, eu, hps, _⟩ := id hS
    subst eu
    refine ⟨by show 2 ≤ sizeLine; decide, fun l nl => ⟨l, rfl, ⟨_, SqL.of upd_same⟩, ?_⟩⟩
    have e4 : Ex H3 (upd H3 l (.lst [.bl true, .bl false])) := Evl.Ex.new nl
    have hl : (upd H3 l (.lst [.bl true, .bl false])) l = some (.lst [.bl true, .bl false]) := upd_same
    generalize (upd H3 l (.lst [.bl true, .bl false])) = H4 at e4 hl
    have e14 := e123.trans e4
    refine for_it (walk_list (xs := [.bl true, .bl false])) (fun i σ H' => Ex H4 H' ∧ ∃ s7 s8, σ = [some (.ref p), some (.ref ps), some (.ref pp), some (.str (verd near far q)), some v1, some v2, some (.ref pc), s7, s8])
      ⟨Ex.refl _, none, none, rfl⟩ (fun i σ H' _ h => SqL.of (h.1 l _ hl)) (fun i z σ H5 H' hi hp' yy => ?_) (fun σ H5 hp' => ?_)
    · obtain ⟨rfl, hz⟩ := yy
      obtain ⟨e5, s7, s8, rfl⟩ := hp'
      obtain ⟨b, rfl⟩ : ∃ b, z = .bl b := by
        match i, hz with
        | 0, hz => exact ⟨true, (Option.some.inj hz).symm⟩
        | 1, hz => exact ⟨false, (Option.some.inj hz).symm⟩
      have e35 := e4.trans e5
      have e15 := e14.trans e5
      refine ⟨_, rfl, p, dx, _, rfl, e15 p _ hp, no1 (by decide +kernel) (by decide +kernel), _, rfl, _, rfl, _, rfl, .ref p, v1, v2, b, near, far, q, rfl, hF.mono e15, hc, w1'.ex e35, w2'.ex e35, m1, m2, fun vf H6 e6 hf => ?_⟩
      have e16 := e15.trans e6
      have hs : Vl (tIf (tB (tVar 7)) (tC (.str "barred")) (tC (.str "sure"))) [some (.ref p), some (.ref ps), some (.ref pp), some (.str (verd near far q)), some v1, some v2, some (.ref pc), some (.bl b), some vf] H6 (.str (if b = true then ("barred" : PySem.Str) else "sure")) := by
        intro Qv qv
        refine ⟨_, rfl, b, rfl, ?_⟩
        cases b with
        | true => exact iteT qv
        | false => exact iteF qv
      refine ⟨_, rfl, rfl, _, rfl, ?_⟩
      refine hs _ ?_
      refine ⟨rfl, rfl, _, rfl, ?_⟩
      by_cases c : verd near far q = (if b = true then ("barred" : PySem.Str) else "sure")
      · rw [if_pos c] at hf
        subst hf
        refine ite_f (by rw [decide_eq_true (congrArg V.str c)]; rfl) ?_
        refine ⟨_, rfl, rfl, _, rfl, ite_f rfl (iteF ?_)⟩
        exact ⟨e5.trans e6, _, _, rfl⟩
      · rw [if_neg c] at hf
        obtain ⟨df, rfl, hdf⟩ := id hf
        refine ite_f (by rw [decide_eq_false (fun z => c (V.str.inj z))]; rfl) ?_
        obtain ⟨g1, g2⟩ := mdl_good (q := q) hc b c
        refine ⟨_, rfl, rfl, _, rfl, ite_t rfl ?_⟩
        refine ⟨_, rfl, ps, dxs, _, rfl, e16 ps _ hps, sf2_no _ _ (by decide +kernel) (by decide +kernel), _, rfl, .ref ps, .ref df, wsOf near, ssOf far, mdl near q b, rfl, hS.ex e16, hf, mdl_nn b, wsOf_small near, ssOf_small far, by simp [wsOf]; omega, by simp [ssOf]; omega, fun H7 e7 => ⟨_, rfl, ?_⟩⟩
        rw [g1]
        refine iteF ?_
        have e37 := (e35.trans e6).trans e7
        refine ⟨_, rfl, pc, dc, _, rfl, e37 pc _ hpc, cf2_no _ _ (by decide +kernel) (by decide +kernel), _, rfl, .ref pc, .ref df, wkF q, mdl near q b, rfl, hI.mono (.of e37), sm_of (wk_ok q), hf.mono (.of e7), mdl_nn b, fun H8 e8 => ⟨rfl, _, rfl, rfl, _, rfl, ?_⟩⟩
        refine ite_f ?_ ⟨((e5.trans e6).trans e7).trans e8, _, _, rfl⟩
        have : decide (V.int (tot (wkF q) (mdl near q b)) = V.int 0) = b := Eq.trans (decide_eq_decide.mpr ⟨fun z => V.int.inj z, fun z => by rw [z]⟩) g2
        rw [this]
        simp
    · obtain ⟨e5, s7, s8, rfl⟩ := hp'
      have e35 := e4.trans e5
      have e15 := e14.trans e5
      refine ⟨_, rfl, ps, dxs, _, rfl, e15 ps _ hps, sf2_no _ _ (by decide +kernel) (by decide +kernel), _, rfl, .ref ps, .ref pc, false, wsOf near, ssOf far, wkF q, rfl, hS.ex e15, hI.mono (.of e35), more_ok hlen (wk_ok q) false, fun vf H6 e6 hn => ?_⟩
      have e16 := e15.trans e6
      have e36 := e35.trans e6
      refine ⟨_, rfl, rfl, _, rfl, rfl, rfl, _, rfl, ?_⟩
      have total : ∀ (vf : V) (n : PySem.Str → Int) (HH : Hp), Ex H3 HH → NumAt HH vf n → (∀ k, 0 ≤ n k) → ∀ (sg : L2.St) (Qv : VK), sg[6]? = some (some (.ref pc)) → sg[8]? = some (some vf) → (∀ H', Ex HH H' → Qv (.int (tot (wkF q) n)) H') → tMethR (He.ga K "Claim") "total" (spTotal (He.ga K "Claim")) E0 (tVar 6) (tCons (tVar 8) tNil) sg HH Qv := by
        intro vf n HH ee hn h0 sg Qv g6 g8 kk
        exact ⟨_, g6, pc, dc, _, rfl, ee pc _ hpc, cf2_no _ _ (by decide +kernel) (by decide +kernel), _, g8, .ref pc, vf, wkF q, n, rfl, hI.mono (.of ee), sm_of (wk_ok q), hn, h0, kk⟩
      have all : ∀ (vf : V) (n : PySem.Str → Int) (HH : Hp), Ex H HH → NumAt HH vf n → allowedB near n = true → ∀ (sg : L2.St) (Qv : VK), sg[0]? = some (some (.ref p)) → sg[8]? = some (some vf) → (∀ H', Ex HH H' → Qv (.bl true) H') → tCR (spAllowed (He.ga K "Facts") (He.ga K "Word")) E0 (tCons (tVar 0) (tCons (tVar 8) tNil)) sg HH Qv := by
        intro vf n HH ee hn h1 sg Qv g0 g8 kk
        refine ⟨_, g0, _, g8, .ref p, vf, near, far, n, rfl, hF.mono ee, hn, fun H' e' => ?_⟩
        rw [h1]
        exact kk H' e'
      rcases hn with ⟨rfl, no⟩ | ⟨n, hn, hfit⟩
      case' refine_2.refine_2.inl =>
        have hv := (sure_iff (q := q) hc).mpr no
        refine ite_f (by rw [hv]; rfl) ?_
        refine ⟨_, rfl, rfl, _, rfl, ite_f rfl (iteF ?_)⟩
        have e7 : Ex H H6 := e16
        have f7 : Ex H3 H6 := e36
        generalize H6 = H7 at e7 f7
      case' refine_2.refine_2.inr =>
        have hv : ¬ verd near far q = "sure" := fun z => (sure_iff (q := q) hc).mp z ⟨n, hfit⟩
        obtain ⟨df, rfl, hdf⟩ := id hn
        obtain ⟨hb, hrow⟩ := fit_app.mp hfit
        have ht : tot (wkF q) n < 0 := by
          have h1 : 1 ≤ tot (neg (wkF q)) n := hrow
          rw [tot_neg] at h1
          omega
        refine ite_f (by rw [decide_eq_false (fun z => hv (V.str.inj z))]; rfl) ?_
        refine ⟨_, rfl, rfl, _, rfl, ite_t rfl ?_⟩
        refine total _ n H6 e36 hn hfit.1 _ _ (by rfl) (by rfl) fun Ht et => ?_
        refine ⟨_, _, rfl, rfl, _, rfl, ite_f (decide_eq_false (by omega)) ?_⟩
        refine all _ n Ht (e16.trans et) (hn.mono (.of et)) (allowedB_fit hb) _ _ (by rfl) (by rfl) fun Hu eu => ⟨_, rfl, ?_⟩
        refine ite_f rfl ?_
        have e7 : Ex H Hu := (e16.trans et).trans eu
        have f7 : Ex H3 Hu := (e36.trans et).trans eu
        generalize Hu = H7 at e7 f7
      all_goals
        refine ⟨_, rfl, ps, dxs, _, rfl, e7 ps _ hps, sf2_no _ _ (by decide +kernel) (by decide +kernel), ?_⟩
        refine ⟨_, rfl, .ref pp, q, rfl, hPr.mono (.of e7), ⟨d1, d2⟩, fun vo H8 e8 hO => ?_⟩
        have hO : ClAt (He.ga K "Claim") H8 vo (stF q) := hO
        have e18 := e7.trans e8
        refine ⟨rfl, rfl, .ref ps, vo, true, wsOf near, ssOf far, stF q, rfl, hS.ex e18, hO, more_ok hlen (st_ok q) true, fun vg H9 e9 hg => ?_⟩
        have e19 := e18.trans e9
        have e39 := (f7.trans e8).trans e9
        refine ⟨_, rfl, rfl, _, rfl, rfl, rfl, _, rfl, ?_⟩
        rcases hg with ⟨rfl, no⟩ | ⟨n, hn, hfit⟩
        · have hv := (barred_iff (q := q) hc).mpr no
          refine ite_f (by rw [hv]; rfl) ?_
          exact ⟨_, rfl, rfl, _, rfl, iteT (k H9 e19)⟩
        · have hv : ¬ verd near far q = "barred" := fun z => (barred_iff (q := q) hc).mp z ⟨n, hfit⟩
          obtain ⟨df, rfl, hdf⟩ := id hn
          obtain ⟨hb, hrow⟩ := fit_app.mp hfit
          have hs := (ag_outer hfit.1 q).mp hrow
          have a := tot_sup hfit.1 q
          have ht : tot (wkF q) n = 0 := by
            have := a.2.mpr hs
            rw [wkF_eq]
            omega
          refine ite_f (by rw [decide_eq_false (fun z => hv (V.str.inj z))]; rfl) ?_
          refine ⟨_, rfl, rfl, _, rfl, iteF ?_⟩
          refine total _ n H9 e39 hn hfit.1 _ _ (by rfl) (by rfl) fun Ht et => ?_
          refine ⟨rfl, _, rfl, ?_⟩
          rw [ht]
          refine iteT ?_
          exact all _ n Ht (e19.trans et) (hn.mono (.of et)) (allowedB_fit hb) _ _ (by rfl) (by rfl) fun Hu eu => k Hu ((e19.trans et).trans eu)
end
end HX
end

section
set_option Elab.async false
set_option linter.all false
set_option maxRecDepth 100000
set_option maxHeartbeats 4000000
/-! The exception Clash: made, raised, caught. -/
namespace HX
open PySem PySem.Spec PyProof.Rows L2
open Evl (Ex)
/-- what the top says of the exception -/
structure Tz (w : World) (K : PySem.W.Frag) (mg : Str → Option Value) : Prop where
  fn : FnA K dClashI
  oex : OexC K (He.ga K "Clash")
  iC : PySem.W.findIn K (.ref (He.ga K "Clash")) "__init__" = some (some (.ref (He.ma K (He.ga K "Clash") "__init__")))
  tI : PySem.W.typeIn K (.ref (He.ma K (He.ga K "Clash") "__init__")) = some (.type "function")
  te : PySem.W.exmOne K (.ref (He.ga K "Clash")) (.ref (He.ga K "Clash")) = some true
  gH : mg "HandError" = some (.ref (He.ga K "HandError"))
  hga : PySem.W.specialIn K (.ref (He.ga K "HandError")) "__getattribute__" = some (some (.builtin "type.__getattribute__"))
  hrd : PySem.W.readsIn K (He.ga K "HandError") (.type "type") = true
  hfi : PySem.W.findCls K (.ref (He.ga K "HandError")) (.type "type") "__init__" = some (.val (.builtin "ValueError.__init__"))
/-! ### a def that may let something out -/
theorem fnrX {P : Program} {w : World} {K : PySem.W.Frag} {mg : Str → Option Value} {base : Heap} {d : He.DefD} {CX : CXT} {N ps : List Str} {k : Nat} {sp : Sp} (h : FnA K d) (hd : d.dfl = []) (S : FnScope N ps d.scope)
    (hb : ∀ (kV doc pm : Value) (an : Option Addr) (cdv ct : Value) (us : List Value), us.length = ps.length → bindArgs (PySem.W.fnOf d.name d.qual d.params d.body d.scope .none kV doc pm an cdv ct) ⟨us, []⟩ = pure (ps.zip us))
    (len : ∀ vs H Q E, sp vs H Q E → vs.length = ps.length)
    (hbody : ∀ (cdv : Value) (A : Around) (outer : List Env) (s : Shared) (H : Hp) (vs : List V) (Q : VK) (E : XK), Room k (A.deeper (envOfC d.qual d.scope s.heap.objs.size (He.fAd K d.at_) cdv)) → sp vs H Q E →
      ∃ t, PSs (cxOf CX P w K mg base N d.qual d.scope (He.fAd K d.at_) cdv A outer s H E) d.body t ∧ t { nx := fun _ H' => Q .non H', rt := Q } (start N vs) H) : FnR P w K mg base CX (k + 1) (He.fAd K d.at_) sp := by
  obtain ⟨fd, F⟩ := h
  have ed : d.dvs K = [] := by unfold He.DefD.dvs; rw [hd] <;> rfl
  rw [ed] at F
  refine ((FunD.ok F S len fun cdv A outer s H vs Q E hr h => hbody cdv A outer s H vs Q E hr h).raw (F.bindsN hb) .nil).imp fun vs H Q E z => ?_
  rw [List.append_nil]
  exact z
section
variable {X : Cx} {e : Expr} {es : List Expr} {ta : TA} {p p1 p2 pos : Pos}
/-- HandError.__init__(self, ..): it is ValueError's -/
theorem pe_hinit {pl : Sem Bool} {CH : Addr} (hg : Gl X "HandError") (hm : X.mg "HandError" = some (.ref CH))
    (hga : PySem.W.specialIn X.K (.ref CH) "__getattribute__" = some (some (.builtin "type.__getattribute__"))) (hrd : PySem.W.readsIn X.K CH (.type "type") = true) (hfi : PySem.W.findCls X.K (.ref CH) (.type "type") "__init__" = some (.val (.builtin "ValueError.__init__"))) (ha : PA X (e :: es) ta)
    (hc : eval (.Call (.Attribute (.Name "HandError" p1) "__init__" p2) (e :: es) [] pos) X.env = (do
      let ov ← eval (.Name "HandError" p1) X.env
      standAt p2.atName
      let (f, first) ← holding [ov] (getMethod ov "__init__" pl)
      callWith pos f first (backTo pos (starEach (e :: es) X.env)) (backToKw pos (keywordEach [] X.env))) := by rfl)
    (he : starEach (e :: es) X.env = (false, eval e X.env) :: starEach es X.env := by rfl) (hpl : (backTo pos (starEach es X.env)).any (·.1) = false := by rfl) :
    PE X (.Call (.Attribute (.Name "HandError" p1) "__init__" p2) (e :: es) [] pos) (tVeI X.K ta) := by
  refine ⟨fun pins s σ H Q I h => ?_⟩
  refine PySem.W.methodCall_KW (ld_glob I hg hm ?_ (by decide)) hc
  refine PySem.W.method_cls I.kIn hga (PySem.W.cls_value I.kIn hrd hfi (by decide +kernel) ?_)
  show wpAny _ _ (callWith pos (Value.builtin "ValueError.__init__") [] (backTo pos (starEach (e :: es) X.env)) []) _ _ _
  refine PyProof.Rows.callWith_method1 (thn (ha.run pos pins _ σ H _ (I.tok _) h) fun us s1 ⟨vs, H1, I1, r1, a, C, ws, ev, hl, T, ea, q⟩ => ?_) he hpl
  subst ev
  cases r1 with
  | @cons _ u0 _ ur ra rw' =>
    obtain rfl : u0 = Value.ref a := ra
    have hlen : ur.length ≤ sizeLine := by
      rw [← Paired.length rw', sizeLine_eq]
      omega
    exact oinit_ok T I1 ea hlen fun s' J => ⟨.non, H1, J, rfl, q⟩
/-- the end of C(): the exception is let go; it has no dict -/
theorem mk_endN {pins : List (Addr × Obj)} {σ : L2.St} {H1 : Hp} {Q : XK} {hp hp2 h2 : Heap} {g1 g2 : Array GenState} {d1 d2 : Drawn} {t1 t2 : Nat} {os1 os2 : OsState} {a C : Addr} (T : Raises X (.ref C)) (I1 : Inv X pins σ H1 ⟨hp, g1, d1, t1, os1⟩)
    (ha : hp.objs.size ≤ a) (k : ∀ b o, hp.get? b = some o → hp2.get? b = some o) (un : Un (frs X.stack) [] (upd H1 a (exo a C none)) (upd H1 a (exo a C none)) hp2 h2) (hok : HOk X.prog X.w (upd H1 a (exo a C none)) h2) (ho : os2 = os1) (hb : AllBare g2)
    (q : Q (.ref C) none H1) : MkP X pins σ Q (.ref a) ⟨h2, g2, d2, t2, os2⟩ := by
  have ea : (upd H1 a (exo a C none)) a = some (exo a C none) := upd_same
  obtain ⟨t0, hoe⟩ := exo_at hok ea
  have hn : H1 a = none := I1.hok.fresh ha
  obtain ⟨G, g1', g2'⟩ := restrict h2 fun b => decide (b ≠ a)
  have gk : ∀ b, b ≠ a → G.get? b = h2.get? b := fun b hb => g1' b (decide_eq_true hb)
  have ge : G.get? a = none := g2' a (by simp)
  have nha : ∀ {b : Addr} {o : Obj}, hp.get? b = some o → b ≠ a := fun {b o} z => Nat.ne_of_lt (Nat.lt_of_lt_of_le (Heap.lt_size z) ha)
  have up : ∀ {b : Addr}, b ≠ a → H1 b = none → upd H1 a (exo a C none) b = none := fun {b} hb n => by rw [upd_ne hb]; exact n
  have U : Un (frs X.stack) [] H1 H1 hp G := {
    keep := fun b o z n hf hx => by
      rw [gk b (nha z)]
      exact un.keep b o (k b o z) (up (nha z) n) hf hx
    slot := fun b o z n hf hx => by
      rw [gk b (nha z)]
      exact un.slot b o (k b o z) (up (nha z) n) hf hx
    free := fun b o z n hx => n
    there := fun b o z hx => by
      rw [gk b (nha z)]
      exact un.there b o (k b o z) hx
    tups := fun b xs z => z
    frzs := fun b o v z => z
    tbls := fun b ps z => ⟨#[], by rw [z]; simp⟩ }
  have hok3 : HOk X.prog X.w H1 G := fun b o z => by
    have hba : b ≠ a := ne_of_none z hn
    have noa : ∀ {c : Addr}, (upd H1 a (exo a C none)) c = some (.own b) → c ≠ a := fun {c} hc => at_ne ea hc exo_own
    exact (hok b o (by rw [upd_ne hba]; exact z)).stay (fun c v hc y => by
        have hca : c ≠ a := by
          rcases hc with hc | hc
          · rw [hc]
            exact hba
          · exact noa hc
        rw [gk c hca]
        exact y)
      (fun c hc => by rw [upd_ne (noa hc)] at hc; exact hc) (fun c xs hc => by rw [upd_ne (at_ne ea hc exo_tup)] at hc; exact hc)
  have J : Inv X pins σ H1 ⟨G, g2, d2, t2, os2⟩ := I1.call' (ch := []) ho U hok3 hb (fun b z => absurd z (by simp))
  refine ⟨a, _, _, ⟨G, g2, d2, t2, os2⟩, _, .ref C, none, rfl, J, fun b o z => ?_, ge, hoe, ⟨rfl, rfl⟩, rfl, rfl, hn, rfl, hb, T, q⟩
  by_cases hba : b = a
  · rw [hba, ge] at z
    cases z
  · exact (gk b hba).symm.trans z
/-- C(): its __init__ leaves it as it is -/
def spX0 (C : Addr) : Sp := fun vs H Q _ => ∃ a, vs = [.ref a] ∧ H a = some (exo a C none) ∧ Q .non H
theorem pmk_oex0 {CX : CXT} {x : Str} {C fI : Addr} {k : Nat} {fd : FuncData} {ps : List Str} (T : OexC X.K C) (iC : PySem.W.findIn X.K (.ref C) "__init__" = some (some (.ref fI))) (tI : PySem.W.typeIn X.K (.ref fI) = some (.type "function"))
    (F1 : FnOk X.prog X.w X.K X.mg X.base CX k fI fd ps (spX0 C)) (hr : Room (k + 1) X.A) (hb : Binds X.K fd ps []) (hx : Passes CX X (fun _ _ _ => False)) (hg : Gl X x) (hm : X.mg x = some (.ref C))
    (hdb : (x == ("__debug__" : Str)) = false := by decide) :
    PMk X (.Call (.Name x p) [] [] pos) (fun _ H Q => Q (.ref C) none H) := by
  intro pins s σ H1 Q I1 h
  obtain ⟨nm, q, N, bs, bm, sn, sub, ab, col, dd, k0, k1, k2, k3, k5, hC, hbm⟩ := T.cls
  refine wpAny_Call_Name_kw (ld_glob I1 hg hm ?_ hdb)
  refine PySem.W.callWith_K0 (first := []) I1.kIn T.kC ?_
  show wpAny _ _ (call (.ref C) []) _ _ _
  obtain ⟨hp, g, dr, tk, os⟩ := s
  have hsz : hp.objs.size ≤ hp.objs.size + 1 := Nat.le_succ _
  have kk : ∀ b o, hp.get? b = some o → ((hp.push (PySem.W.kdv_tup [])).push (PySem.HandSPX.excO C hp.objs.size)).get? b = some o := fun b o e => Heap.get?_push_of_some _ (Heap.get?_push_of_some _ e)
  have hget : ((hp.push (PySem.W.kdv_tup [])).push (PySem.HandSPX.excO C hp.objs.size)).get? (hp.objs.size + 1) = some (PySem.HandSPX.excO C hp.objs.size) := by heap_get
  have I2 : Inv X pins σ (upd H1 (hp.objs.size + 1) (exo (hp.objs.size + 1) C none)) ⟨(hp.push (PySem.W.kdv_tup [])).push (PySem.HandSPX.excO C hp.objs.size), g, dr, tk, os⟩ :=
    I1.laid (t' := tk) (a := hp.objs.size + 1) (o := exo (hp.objs.size + 1) C none) (h' := (hp.push (PySem.W.kdv_tup [])).push (PySem.HandSPX.excO C hp.objs.size)) kk hsz (exo_ok hget)
  have r2 : Vals [V.ref (hp.objs.size + 1)] [Value.ref (hp.objs.size + 1)] := .cons rfl .nil
  have hq : spX0 C [V.ref (hp.objs.size + 1)] (upd H1 (hp.objs.size + 1) (exo (hp.objs.size + 1) C none)) (fun v H2 => v = .non ∧ H2 = upd H1 (hp.objs.size + 1) (exo (hp.objs.size + 1) C none)) (fun _ _ _ => False) := ⟨_, rfl, upd_same, rfl, rfl⟩
  have hl : [Value.ref (hp.objs.size + 1)].length = ps.length := by
    have e := F1.len _ _ _ _ hq
    exact e
  refine wpAny_call (PySem.HandSPX.call_own F.excBase_ValueError (fun Y => PySem.HandSPX.refsVE_contains Y bm hbm) (I1.kIn _ _ hC) (PySem.W.looks_findIn I1.kIn iC) (fun self => PySem.W.bind_fn I1.kIn self tI) (by rw [sizeLine_eq]; decide)
    (codeAny_mono (F1.run _ X.stack _ _ ⟨[Value.ref (hp.objs.size + 1)], []⟩ [Value.ref (hp.objs.size + 1)] _ _ (fun _ _ _ => False) (hr.make C [] []) (I2.env0.make C [] []) (by
      have := hb ⟨(hp.push (PySem.W.kdv_tup [])).push (PySem.HandSPX.excO C hp.objs.size), g, dr, tk, os⟩ [Value.ref (hp.objs.size + 1)] I2.kIn (by simpa using hl)
      simpa using this) r2 hq) fun r s' hq' => ?_))
  cases r with
  | error er => exact hx pins σ _ _ er s' I2 hq'
  | ok fl =>
    cases fl with
    | ret u =>
      obtain ⟨v, H2, os2, bare2, un2, hok2, rv, ev, eH⟩ := hq'
      subst ev eH
      obtain ⟨h2, g2, d2, t2, os'⟩ := s'
      exact ⟨rv, mk_endN (raises_own T.exC T.tyC) I1 hsz kk un2 hok2 os2 bare2 h⟩
    | next => exact False.elim hq'
    | brk => exact False.elim hq'
    | cont => exact False.elim hq'
end
end HX
end

section
set_option Elab.async false
set_option linter.all false
set_option maxRecDepth 100000
set_option maxHeartbeats 4000000
/-! check, verdict where the facts clash; _law_clash. -/
namespace HX
open PySem PySem.Spec PyProof.Rows L2
open Evl (Ex)
section
variable {P : Program} {w : World} {K : PySem.W.Frag} {mg : Str → Option Value} {base : Heap}
theorem scClashI : FnScope ["self"] ["self"] (defScope sClashI) := ⟨rfl, rfl, rfl, by decide +kernel, rfl, by decide +kernel, by decide +kernel⟩
theorem ok_clashI (T : Tx w K mg) (U : Tz w K mg) : ∃ fd, FnOk P w K mg base CX0 1 (He.ma K (He.ga K "Clash") "__init__") fd ["self"] (spX0 (He.ga K "Clash")) ∧ Binds K fd ["self"] [] := by
  obtain ⟨fd, F⟩ := U.fn
  have O := F.ok (P := P) (w := w) (mg := mg) (base := base) (CX := CX0) (N := ["self"]) (ps := ["self"]) (k := 0) (sp := spX0 (He.ga K "Clash")) scClashI (fun vs H Q E h => by
    obtain ⟨_, rfl, _⟩ := h
    rfl) (fun cdv A outer s H vs Q E hr h => by
    obtain ⟨a, rfl, ha, k⟩ := h
    refine ⟨_, (pss_one (ps_expr (pe_hinit (by rfl) U.gH U.hga U.hrd U.hfi (pa_cons (pv 0) (pa_cons pe_str pa_nil)))) : PSs (cxOf CX0 P w K mg base _ _ _ _ cdv A outer s H E).nox _ _).nox, ?_⟩
    exact ⟨_, rfl, a, He.ga K "Clash", [.str "the facts clash"], rfl, by decide, U.oex, ha, k⟩)
  exact ⟨fd, O, F.bindsN (fun kV doc pm an cdv ct us hl => match us, hl with | [_], _ => rfl)⟩
/-! ### check -/
def spCheckX (C W X : Addr) : Sp := fun vs H _ E => ∃ (v : V) (ins outs : List Q2), vs = [v] ∧ FaAt C W H v ins outs ∧ clashB ins outs = true ∧ ∀ H', Ex H H' → E (.ref X) none H'
theorem ok_checkX (T : Tx w K mg) (U : Tz w K mg) : FnR P w K mg base (L2.CX P w) 27 (He.ma K (He.ga K "Facts") "check") (spCheckX (He.ga K "Facts") (He.ga K "Word") (He.ga K "Clash")) := by
  have G := ok_clashes (P := P) (base := base) T
  obtain ⟨fdC, GC, BC⟩ := ok_clashI (P := P) (base := base) T U
  refine fnrX (T.fnM2 4 dCheck rfl) rfl scCheck (fun _ _ _ _ _ _ us hl => match us, hl with | [_], _ => rfl) (fun vs H Q E h => ?_) (fun cdv A outer s H vs Q E hr h => ?_)
  · obtain ⟨_, _, _, rfl, _⟩ := h
    rfl
  · obtain ⟨v, ins, outs, rfl, hF, hc, k⟩ := h
    have cF := T.c "Facts"
    have mC := T.meth "Facts" "clashes" (by decide +kernel)
    have hr2 : Room 2 _ := hr.mono (by decide)
    refine ⟨_, pss_one (ps_if (pt_val (pe_mR0 (pv 0) cF mC G hr pass0)) (pss_one (ps_raise rfl (takes_of rfl rfl rfl rfl) (pmk_oex0 U.oex U.iC U.tI GC hr2 BC pass0 rfl (T.g "Clash")))) pss_nil), ?_⟩
    obtain ⟨p, dx, a, b, rfl, hp⟩ := hF.ref
    refine ⟨_, rfl, p, dx, _, rfl, hp, ff_no _ _ (by decide +kernel) (by decide +kernel), .ref p, ins, outs, rfl, hF, fun H1 e1 => ⟨_, rfl, ite_t hc (k H1 e1)⟩⟩
/-! ### verdict -/
def spVerdictX (C W X : Addr) : Sp := fun vs H _ E => ∃ (v x y : V) (ins outs : List Q2), vs = [v, x, y] ∧ FaAt C W H v ins outs ∧ clashB ins outs = true ∧ ∀ H', Ex H H' → E (.ref X) none H'
theorem ok_verdictX (T : Tx w K mg) (U : Tz w K mg) : FnR P w K mg base (L2.CX P w) 28 (He.ma K (He.ga K "Facts") "verdict") (spVerdictX (He.ga K "Facts") (He.ga K "Word") (He.ga K "Clash")) := by
  have G := ok_checkX (P := P) (base := base) T U
  have GW := ok_within (P := P) (base := base) T
  have GL := ok_lacking (P := P) (base := base) T
  have GK := ok_kinds (P := P) (base := base) T
  refine fnrX (T.fnM2 5 dVerdict rfl) rfl scVerdict (fun _ _ _ _ _ _ us hl => match us, hl with | [_, _, _], _ => rfl) (fun vs H Q E h => ?_) (fun cdv A outer s H vs Q E hr h => ?_)
  · obtain ⟨_, _, _, _, _, rfl, _⟩ := h
    rfl
  · obtain ⟨v, x, y, ins, outs, rfl, hF, hc, k⟩ := h
    have nd := scVerdict.nd
    have cF := T.c "Facts"
    have mC := T.meth "Facts" "check" (by decide +kernel)
    have mL := T.meth "Facts" "lacking" (by decide +kernel)
    have mK := T.meth "Facts" "kinds" (by decide +kernel)
    have hr1 : Room 24 _ := hr.mono (by decide)
    have hr2 : Room 25 _ := hr.mono (by decide)
    have hr3 : Room 23 _ := hr.mono (by decide)
    have hu0 := hr.units0
    refine ⟨_, pss_cons (ps_expr (pe_mR0 (E := E) (pv 0) cF mC G hr (passes_call (takes_of rfl rfl rfl rfl) fun _ _ _ _ h => h)))
      (pss_cons (ps_setLc (i := 3) (own := [("kind", 4)]) rfl nd rfl rfl (sw_true rfl rfl rfl (by decide +kernel)) (pi_list (pe_mR0 (pv 0) cF mK GK hr2 pass0)) (blkOk_by (own := [("kind", 4)]) (N := nVerdict) (sc := defScope sVerdict) (by decide +kernel)) (fun _ _ _ _ _ => pg_name (i := 4) nd rfl (Or.inl rfl))
        (fun _ _ _ _ _ => pts_one (pt_val (pe_cR GW hr3 (T.g "is_within") (T.k "is_within") pass0 (pa_cons (pv 1) (pa_cons (pv 2) (pa_cons (pv 4) pa_nil)))))) (fun _ _ _ _ _ => pv 4))
      (pss_cons (ps_if (pt_cmpR (op_eqLS hu0) (pv 3) (pe_mR0 (pv 0) cF mK GK hr2 pass0) (nomark _)) (pss_one (ps_ret pe_str)) pss_nil)
      (pss_one (ps_ret (pe_ifExp (pt_cmpR op_isN (pe_methR (pv 0) cF mL GL hr1 pass0 (pa_cons (pv 3) pa_nil)) pe_non (nomark _)) pe_str pe_str))))), ?_⟩
    obtain ⟨p, dx, a, b, rfl, hp⟩ := hF.ref
    exact ⟨_, rfl, p, dx, _, rfl, hp, ff_no _ _ (by decide +kernel) (by decide +kernel), .ref p, ins, outs, rfl, hF, hc, k⟩
/-! ### _law_clash -/
def spLClash (C W : Addr) : Sp := fun vs H Q _ => ∃ (v pr : V) (ins outs : List Q2) (q : Q2), vs = [v, pr] ∧ FaAt C W H v ins outs ∧ clashB ins outs = true ∧ PairAt H pr q ∧ PairOk q ∧ ∀ H', Ex H H' → Q (.bl true) H'
abbrev nLClash : List Str := ["_law_facts", "_law_pair"]
theorem scLClash : FnScope nLClash ["_law_facts", "_law_pair"] (defScope sLClash) := ⟨rfl, rfl, rfl, by decide +kernel, rfl, by decide +kernel, by decide +kernel⟩
theorem noX {X : Cx} : Takes X (fun _ _ _ _ => False) := fun _ _ x => by
  obtain ⟨_, _, _, _, _, _, _, _, _, _, _, _, _, _, _, _, w⟩ := x
  exact w.elim
theorem ok_lclash (T : Tx w K mg) (U : Tz w K mg) : FnR P w K mg base CX0 29 (He.ga K "_law_clash") (spLClash (He.ga K "Facts") (He.ga K "Word")) := by
  have G := ok_verdictX (P := P) (base := base) T U
  have GW := ok_lword (P := P) (base := base) T 21
  refine fnr (T.fnG2 9 dLClash rfl) rfl scLClash (fun _ _ _ _ _ _ us hl => match us, hl with | [_, _], _ => rfl) (fun vs H Q E h => ?_) (fun cdv A outer s H vs Q E hr h => ?_)
  · obtain ⟨_, _, _, _, _, rfl, _⟩ := h
    rfl
  · obtain ⟨v, pr, ins, outs, q, rfl, hF, hc, ⟨pp, x, y, rfl, hpp, hx, hy⟩, ⟨d1, d2⟩, k⟩ := h
    have nd := scLClash.nd
    have cF := T.c "Facts"
    have mV := T.meth "Facts" "verdict" (by decide +kernel)
    have r23 : Room 23 _ := hr.mono (by decide)
    refine ⟨_, pss_cons (ps_try_only (tb := fun W => tDrop (tMethR (He.ga K "Facts") "verdict" (spVerdictX (He.ga K "Facts") (He.ga K "Word") (He.ga K "Clash")) (fun cls d H => ∀ σ, W cls d σ H) (tVar 0)
          (tCons (tCR (spLWord (He.ga K "Word") 21) E0 (tCons (tOp (rIxT K) (tVar 1) (tC (.int 0))) tNil)) (tCons (tCR (spLWord (He.ga K "Word") 21) E0 (tCons (tOp (rIxT K) (tVar 1) (tC (.int 1))) tNil)) tNil))))
        (ts := fun _ _ _ => tRet (tC (.bl true))) (Wout := fun _ _ _ _ => False) rfl rfl ⟨rfl, by decide, Or.inl (T.g "Clash")⟩ noX
        (fun W pn xe tk _ => pss_one (ps_expr (pe_methR (pv 0) cF mV G hr (passes_call tk fun _ _ σ _ h => h σ) (pa_cons (pe_cR GW r23 (T.g "_law_word") (T.k "_law_word") pass0 (pa_cons (pe_ix (r := rIxT K) ix_tup (pv 1) pe_int (fun _ _ => rfl)) pa_nil)) (pa_cons (pe_cR GW r23 (T.g "_law_word") (T.k "_law_word") pass0 (pa_cons (pe_ix (r := rIxT K) ix_tup (pv 1) pe_int (fun _ _ => rfl)) pa_nil)) pa_nil)))))
        (fun _ _ _ _ _ _ _ => pss_one (ps_ret pe_bl)))
      (pss_one (ps_ret pe_bl)), ?_⟩
    obtain ⟨p, dx, a, b, rfl, hp⟩ := hF.ref
    refine ⟨_, rfl, p, dx, _, rfl, hp, ff_no _ _ (by decide +kernel) (by decide +kernel), ?_⟩
    refine ⟨_, rfl, pp, _, 0, x, rfl, rfl, SqT.of hpp, rfl, x, q.1, rfl, hx, (by show q.1.depth ≤ 20; omega), fun v1 H1 e1 w1 => ?_⟩
    refine ⟨_, rfl, pp, _, 1, y, rfl, rfl, SqT.of (e1 pp _ hpp), rfl, y, q.2, rfl, hy.ex e1, (by show q.2.depth ≤ 20; omega), fun v2 H2 e2 w2 => ?_⟩
    refine ⟨.ref p, v1, v2, ins, outs, rfl, hF.mono (e1.trans e2), hc, fun H3 e3 σ => ⟨true, U.te, fun _ a0 _ => ?_, fun z => by cases z⟩⟩
    exact k H3 ((e1.trans e2).trans e3)
end
end HX
end

section
set_option Elab.async false
set_option linter.all false
set_option maxRecDepth 100000
set_option maxHeartbeats 4000000
/-! Rules for the law: a list that is not the empty one; str of two truths; the law at the caller's place. -/
namespace HX
open PySem PySem.Spec PyProof.Rows L2
open Evl (Ex)
section
variable {X : Cx}
def rNeL0 (K : PySem.W.Frag) : R2 := fun x y H Q => ∃ (a b : Addr) (xs : List V), x = .ref a ∧ y = .ref b ∧ SqL K H a xs ∧ SqL K H b [] ∧ Q (.bl (!xs.isEmpty)) H
theorem op_neL0 (hu : X.A.units < cLine) : OpR X (compareOp .NotEq) (rNeL0 X.K) := by
  intro pins s σ H x y v u Q I rx ry h
  obtain ⟨a, b, xs, rfl, rfl, h1, h2, q⟩ := h
  obtain rfl : v = Value.ref a := rx
  obtain rfl : u = Value.ref b := ry
  obtain ⟨its, r1, t1, _⟩ := I.list h1
  obtain ⟨its2, r2, t2, _⟩ := I.list h2
  cases r2
  cases r1 with
  | nil =>
    refine (SeqAt.RcNeAt.lists (e := fun _ => true) (pl_is t1) (pl_is t2) rfl hu (fun j h1 h2 => absurd h2 (by simp))) _ _ _ _ ?_
    exact ⟨.bl _, H, I, rfl, q⟩
  | cons _ _ =>
    refine (SeqAt.RcNeAt.lists_lengths (pl_is t1) (pl_is t2) (by simp) hu) _ _ _ _ ?_
    exact ⟨.bl _, H, I, rfl, q⟩
def shB (b c : Bool) : PySem.Str := (PyData.list [.bool b, .bool c]).shown
def rStrB (K : PySem.W.Frag) : List V → Hp → VK → Prop := fun xs H Q => ∃ (a : Addr) (b c : Bool), xs = [.ref a] ∧ SqL K H a [.bl b, .bl c] ∧ Q (.str (shB b c)) H
theorem call_strB (hg : X.A.guards = some []) (hu : X.A.units + 10 < cLine) : CallR X (.type "str") (rStrB X.K) := by
  intro pins s σ H xs us Q I r h
  obtain ⟨a, b, c, rfl, ha, q⟩ := h
  obtain ⟨u, rfl, rx⟩ := vals1 r
  cases rx
  obtain ⟨its, rv, p, hz⟩ := I.list ha
  cases rv with
  | cons r1 rr =>
    cases rr with
    | cons r2 rr =>
      cases rr
      cases r1
      cases r2
      obtain ⟨o, n, h1, h2, _, h3⟩ := p
      have rd : Reads s.heap (.ref a) (.list [.bool b, .bool c]) [a] := .list h1 h2 h3 (.cons (.bool b) (.cons (.bool c) .nil))
      refine str_of_reads (h₀ := s.heap) rd ?_ (fun z => ?_) hg ?_ (fun _ _ e => e) (fun h' u tk k => ?_) ?_
      · cases b <;> cases c <;> rfl
      · cases b <;> cases c <;> cases z
      · have : (PyData.list [.bool b, .bool c]).depth ≤ 5 := by cases b <;> cases c <;> decide
        omega
      · exact ⟨.str _, H, I.kept (t' := tk) k, ⟨_, rfl⟩, q⟩
      · cases b <;> cases c <;> decide +kernel
end
theorem shB_tf : shB true false = "[True, False]" := by decide +kernel
theorem shB_ft : shB false true = "[False, True]" := by decide +kernel
theorem shB_ff : shB false false = "[False, False]" := by decide +kernel
theorem cut_to {xs : List V} (n : Nat) : cutV xs none (some ((n : Nat) : Int)) = xs.take n := by
  unfold cutV
  rw [HT.sIx_none, HT.sIx_nat]
  simp
end HX
end

section
set_option Elab.async false
set_option linter.all false
set_option maxRecDepth 100000
set_option maxHeartbeats 4000000
/-! The law's def at the caller's place alone (there the guards are known): HandS's fn_of, law_call and walk_ofE turned to callerA. -/
namespace HX
open PySem PySem.Spec PyProof.Rows L2
/-- the promise of a def, at the caller's place -/
structure FnOkC (P : Program) (w : World) (K : PySem.W.Frag) (mg : Str → Option Value) (base : Heap) (CX : CXT) (f : Addr) (fd : FuncData) (ps : List Str) (sp : Sp) : Prop where
  len : ∀ vs H Q E, sp vs H Q E → vs.length = ps.length
  run : ∀ (outer : List Env) (s : Shared) (H : Hp) (args : Args) (us : List Value) (vs : List V) (Q : VK) (E : XK), Env0 P w K mg base callerA outer s H → BindsTo s fd args (ps.zip us) → Vals vs us → sp vs H Q E →
    codeAny (model P w) callerA (.call (.ref f) args) (CR CX outer P w H s Q E) s
theorem fnC_of {CX : CXT} {P : Program} {w : World} {K : PySem.W.Frag} {mg : Str → Option Value} {base : Heap} {k : Nat} {f : Addr} {name qual : Str} {params : Arguments} {body : List Stmt} {scope : Scope} {dV kV doc pm cdv ct oc : Value} {an od : Option Addr}
    {osl : Array (Option Value)} {N ps : List Str} {sp : Sp} (lk : K.lookup f = some ⟨oc, od, .func (PySem.W.fnOf name qual params body scope dV kV doc pm an cdv ct), osl⟩) (hcd : PySem.W.codeIn K cdv qual = true) (S : FnScope N ps scope)
    (len : ∀ vs H Q E, sp vs H Q E → vs.length = ps.length)
    (hr : Room (k + 1) callerA)
    (hbody : ∀ (outer : List Env) (s : Shared) (H : Hp) (vs : List V) (Q : VK) (E : XK), Room k (callerA.deeper (envOfC qual scope s.heap.objs.size f cdv)) → sp vs H Q E →
      ∃ t, PSs (cxOf CX P w K mg base N qual scope f cdv callerA outer s H E) body t ∧ t { nx := fun _ H' => Q .non H', rt := Q } (start N vs) H) :
    FnOkC P w K mg base CX f (PySem.W.fnOf name qual params body scope dV kV doc pm an cdv ct) ps sp := by
  refine ⟨len, fun outer s H args us vs Q E e0 hb r hsp => ?_⟩
  have hl := len _ _ _ _ hsp
  have KX : K.In s.heap := e0.mod.kin.keeps fun b o e => (e0.bs b o e).1
  have lim : s.heap.NoLimit := e0.mod.nolimit.keeps fun b o e => (e0.bs b o e).1
  have hkind : ∀ y ∈ ps.zip us, scope.names.lookup y.1 = some .local ∨ (scope.names.lookup y.1 = some .cell ∧ ((cellsFrom (s.heap.objs.size + 1) scope.names []).lookup y.1).isSome = true) := fun ⟨n, v⟩ hy => by
    rcases S.par n (List.of_mem_zip hy).1 with q | q
    · exact .inl q
    · exact .inr ⟨q, PySem.W.cellsFrom_some _ _ _ (.inl q)⟩
  refine codeAny_call_function hr.depth (KX _ _ lk) rfl S.co S.gen rfl (PySem.W.codeRec_of KX hcd) (hb _ _ _ _ ?_)
  refine wpAny_newFunctionEnv_cells S.kind hkind fun env he s1 x => ?_
  subst he
  refine ⟨lim.keeps x.toInCall.keep, codeAny_func ?_⟩
  obtain ⟨t, ht, hq⟩ := hbody outer s H vs Q E (hr.deeper _) hsp
  have I : Inv (cxOf CX P w K mg base N qual scope f cdv callerA outer s H E) [] (start N vs) H s1 := inv_start S hr.hd e0 hl r x
  refine wpAny_mono (ht.run [] s1 (start N vs) H _ I hq) (fun fl s' hs => ?_) fun e s' hs => hs
  have fin : ∀ {σ' : L2.St} {H' : Hp} {v : V} {u : Value}, Inv (cxOf CX P w K mg base N qual scope f cdv callerA outer s H E) [] σ' H' s' → RelV v u → Q v H' → CE outer P w H s Q u s' :=
    fun {σ' H' v u} J rv q => ⟨v, H', J.os, J.bare, J.base, J.hok, rv, q⟩
  cases fl with
  | ret u =>
    obtain ⟨v, σ', H', J, rv, q⟩ := hs
    exact fin J rv q
  | next =>
    obtain ⟨σ', H', J, q⟩ := hs
    exact fin (v := V.non) (u := Value.none) J rfl q
  | brk =>
    obtain ⟨_, _, _, q⟩ := hs
    exact False.elim q
  | cont =>
    obtain ⟨_, _, _, q⟩ := hs
    exact False.elim q
theorem law_callC {P : Program} {w : World} {K : PySem.W.Frag} {mg mb : Str → Option Value} {CX : CXT} {fa a : Addr} {fd : FuncData} {x : Str} {sp : Sp} {s₁ : Shared} {vs : List Value} {ns : List Int}
    (KX : K.In s₁.heap) (hns : s₁.heap.Ns mainGlobals mg) (hb : s₁.heap.Ns builtinsNs mb) (hbb : ∀ x : Str, x ≠ "__name__" → mb x = bootBuiltins x) (hlim : s₁.heap.NoLimit) (hg : s₁.gens = #[])
    (ha : s₁.heap.get? a = some { cls := .type "list", data := .seq vs.toArray }) (hi : IntsAre vs ns) (hl : ns.length ≤ sizeLine)
    (F : ∀ base : Heap, K.In base → base.Ns mainGlobals mg → FnOkC P w K mg base CX fa fd [x] sp) (hbind : ∀ (s : Shared) (u : Value), BindsTo s fd ⟨[u], []⟩ [(x, u)])
    (hsp : ∀ H : Hp, Only H → SqL K H a (ns.map V.int) → sp [.ref a] H (fun v _ => v = .bl true) fun _ _ _ => False)
    (hCX : ∀ H e s', CX [] H s₁ (fun _ _ _ => False) e s' → False) :
    codeAny (model P w) callerA (.call (.ref fa) ⟨[.ref a], []⟩) (fun r s' => r = .ok (.ret (.bool true)) ∧ OldK s₁.heap s'.heap ∧ s'.os = s₁.os ∧ AllBare s'.gens) s₁ := by
  have rv := vals_ints hi
  have lenV := hi.length
  -- from an abstract heap in which nothing but the script may be tracked
  have core : ∀ H : Hp, Only H → SqL K H a (ns.map V.int) → HOk P w H s₁.heap → (∀ b, H b ≠ none → b = a) → (H a ≠ none → K.lookup a = none) →
      codeAny (model P w) callerA (.call (.ref fa) ⟨[.ref a], []⟩) (fun r s' => r = .ok (.ret (.bool true)) ∧ OldK s₁.heap s'.heap ∧ s'.os = s₁.os ∧ AllBare s'.gens) s₁ := by
    intro H hO hS hok hA hK
    have base_of : ∀ {b : Addr} {o : Obj}, s₁.heap.get? b = some o → H b = none → (hidT s₁.heap H).get? b = some o := fun e n => hidT_get e n
    have noA : ∀ {b : Addr} {o : Obj} {es : Array DictEntry} {ep : Nat}, s₁.heap.get? b = some o → o.data = .dict es ep → H b = none := fun {b o es ep} e d => by
      cases q : H b with
      | none => rfl
      | some u =>
        have e' : b = a := hA b (by rw [q]; simp)
        subst e'
        rw [ha] at e; cases e
        have d' : Data.seq vs.toArray _ = Data.dict es ep := d
        cases d'
    have nsK : ∀ {b : Addr} {m : Str → Option Value}, s₁.heap.Ns b m → (hidT s₁.heap H).Ns b m := fun {b m} ⟨o, es, ep, e, d, r⟩ => ⟨o, es, ep, base_of e (noA e d), d, r⟩
    have hKb : K.In (hidT s₁.heap H) := fun b o e => base_of (KX b o e) (by
      cases q : H b with
      | none => rfl
      | some u =>
        have e' : b = a := hA b (by rw [q]; simp)
        subst e'
        rw [hK (by rw [q]; simp)] at e; cases e)
    have hM : Mod K mg (hidT s₁.heap H) := ⟨hKb, nsK hns, ⟨mb, nsK hb, hbb⟩, let ⟨mc, h1, h2⟩ := hlim; ⟨mc, nsK h1, h2⟩⟩
    have e0 : Env0 P w K mg (hidT s₁.heap H) callerA [] s₁ H := ⟨rfl, hM, fun b o e => of_hidT e, Nat.le_of_eq (hidT_size _ _), trivial, fun b hb => absurd (show b ∈ ([] : List Addr) from hb) (by simp), hok, .of_eq hg⟩
    refine codeAny_mono ((F _ hKb (nsK hns)).run [] s₁ H ⟨[.ref a], []⟩ [.ref a] [.ref a] _ _ e0 (hbind s₁ (.ref a)) (.cons rfl .nil) (hsp H hO hS)) fun r s' h => ?_
    cases r with
    | error e => exact (hCX H e s' h).elim
    | ok fl =>
      cases fl with
      | next => exact False.elim h
      | brk => exact False.elim h
      | cont => exact False.elim h
      | ret u =>
        obtain ⟨v, H', os, bare, un, hok', r', q⟩ := h
        have q' : v = .bl true := q
        subst q'
        obtain rfl : u = Value.bool true := r'
        refine ⟨rfl, OldK.of_keep fun b o e => ?_, os, bare⟩
        cases q : H b with
        | none => exact un.keep b o e q (by intro z; exact absurd (show b ∈ ([] : List Addr) from z) (by simp)) (by simp)
        | some u =>
          rcases hO b with z | ⟨ob, xs, z⟩
          · rw [q] at z; cases z
          · have z2 := un.frzs b ob _ z
            obtain ⟨e1, _⟩ := hok b _ z
            obtain ⟨e2, _⟩ := hok' b _ z2
            rw [e] at e1; cases e1
            exact e2
  cases hk : K.lookup a with
  | some o =>
    -- the script is one of the module's own objects
    have e := KX a o hk
    rw [ha] at e
    cases e
    refine core (fun _ => none) (fun _ => .inl rfl) (.inr ⟨_, vs.toArray, _, hk, rfl, rfl, rfl, by rw [List.size_toArray, lenV]; exact hl, by simpa using rv⟩) (fun b u z => by have z' : (none : Option HO) = some u := z; cases z') (fun b z => absurd rfl z) fun z => absurd rfl z
  | none =>
    refine core (fun b => if b = a then some (.frz { cls := .type "list", data := .seq vs.toArray } (.lst (ns.map V.int))) else none) (fun b => ?_) (.inl (.inr ⟨{ cls := .type "list", data := .seq vs.toArray }, if_pos rfl⟩)) (fun b u z => ?_) (fun b z => ?_) fun _ => hk
    · by_cases hb : b = a
      · exact .inr ⟨_, _, if_pos hb⟩
      · exact .inl (if_neg hb)
    · by_cases hb : b = a
      · have z' := (if_pos hb).symm.trans z
        cases z'
        subst hb
        exact ⟨ha, by rw [List.length_map]; exact hl, vs, _, rv, ha⟩
      · have z' := (if_neg hb).symm.trans z
        cases z'
    · by_cases hb : b = a
      · exact hb
      · exact absurd (if_neg hb) z
theorem walk_ofC {l : PySem.W.OpenLaw} {n : Nat} {q : Program} {loose : List Str} {XP : (Str → Option Value) → Heap → Prop} {YP : World → Heap → Prop} {d : DefRec} {CX : CXT} {x : Str}
    (hn : l.most = some n) (hn2 : n ≤ sizeLine) (hdf : d.params.defaults = [])
    (F : ∀ (w : World) (mg : Str → Option Value) (fa : Addr) (h : Heap), YP w h → h.Ns mainGlobals mg → mg d.name = some (.ref fa) →
      ∃ (K : PySem.W.Frag) (fd : FuncData) (sp : Sp), K.In h ∧ (∀ (s : Shared) (u : Value), BindsTo s fd ⟨[u], []⟩ [(x, u)]) ∧
        (∀ (H : Hp) (a : Addr) (ns : List Int), ns.length ≤ n → Only H → SqL K H a (ns.map V.int) → sp [.ref a] H (fun v _ => v = .bl true) fun _ _ _ => False) ∧
        ∀ base : Heap, K.In base → base.Ns mainGlobals mg → FnOkC l.prog w K mg base CX fa fd [x] sp)
    (hCX : ∀ (H : Hp) (s : Shared) (e : Value) (s' : Shared), CX [] H s (fun _ _ _ => False) e s' → False) :
    PySem.W.WalkO q loose XP YP l.row.toRowW d [] (fun f vs => PySem.call f vs) := by
  refine Att.attach_call hn hdf fun w s₀ s₁ mg mb fa o pm cd doc a vs ns G Y ho hd hcd hmg hobj hints hlen hg => ?_
  obtain ⟨K, fd, sp, KX, hb, hsp, hF⟩ := F w mg fa _ Y G.T.g hmg
  exact law_callC KX G.T.g G.T.b G.T.builtins G.T.nolimit hg hobj hints (Nat.le_trans hlen hn2) hF hb (fun H hO hS => hsp H a ns hlen hO hS) fun H e s' => hCX H s₁ e s'

end HX
end

section
set_option Elab.async false
set_option linter.all false
set_option maxRecDepth 100000
set_option maxHeartbeats 8000000
/-! The law's def. -/
namespace HX
open PySem PySem.Spec PyProof.Rows L2
open Evl (Ex)
section
variable {P : Program} {w : World} {K : PySem.W.Frag} {mg : Str → Option Value} {base : Heap}
theorem seq_split {t u : TS} {D : Ends} {σ : L2.St} {H : Hp} (R : L2.St → Hp → Prop) (h1 : ∀ N : L2.St → Hp → Prop, (∀ σ' H', R σ' H' → N σ' H') → t { D with nx := N } σ H) (h2 : ∀ σ' H', R σ' H' → u D σ' H') : tSeq t u D σ H := h1 _ h2
def spLaw (K : PySem.W.Frag) : Sp := fun vs H Q _ => ∃ (a : Addr) (ns : List Int), vs = [.ref a] ∧ SqL K H a (ns.map V.int) ∧ ∀ H', Q (.bl true) H'
abbrev nLaw : List Str := ["_law_script", "_law_tape_here", "_law_near", "_law_far", "_law_facts", "_law_sizes", "_law_amounts", "_law_asked", "_law_pair", "_law_told", "_law_words_here", "_law_sides"]
theorem scLaw : FnScope nLaw ["_law_script"] (defScope sLaw) := ⟨rfl, rfl, rfl, by decide +kernel, rfl, by decide +kernel, by decide +kernel⟩
theorem room_law : Room 32 callerA := ⟨rfl, by decide, by decide⟩
theorem ok_law (T : Tx w K mg) (U : Ty w K mg) (Z : Tz w K mg) : ∃ fd, FunD K dLaw.name dLaw.qual dLaw.params dLaw.body dLaw.scope (dLaw.dvs K) (dLaw.kws K) (He.fAd K dLaw.at_) fd ∧ FnOkC P w K mg base CX0 (He.fAd K dLaw.at_) fd ["_law_script"] (spLaw K) := by
  have GTp := ok_tape (P := P) (base := base) T
  have GPk := ok_pick (P := P) (base := base) T
  have GPs := ok_pairs (P := P) (base := base) T
  have GWs := ok_words (P := P) (base := base) T
  have GW := ok_lword (P := P) (base := base) T 21
  have GI := ok_inner (P := P) (base := base) T
  have GO := ok_outer (P := P) (base := base) T
  have GA := ok_allowed (P := P) (base := base) T
  have GK := ok_keep (P := P) (base := base) T
  have GM := ok_smodel (P := P) (base := base) T
  have GCl := ok_clashes (P := P) (base := base) T
  have GCw := ok_clashW (P := P) (base := base) T
  have GLC := ok_lclash (P := P) (base := base) T Z
  have GV := ok_verdict (P := P) (base := base) T
  have GR := ok_right (P := P) (base := base) T
  have GF := ok_followsD (P := P) (base := base) T
  obtain ⟨fdF, GFK, BFK⟩ := ok_followsK (P := P) (base := base) T
  obtain ⟨fdS, GSI, BSI⟩ := ok_sizesI (P := P) (base := base) T U
  obtain ⟨fdA, GAI, BAI⟩ := ok_factsI (P := P) (base := base) T U
  obtain ⟨fd, F⟩ := T.fnG2 11 dLaw rfl
  refine ⟨fd, F, ?_⟩
  obtain ⟨oc, od, dV, kV, doc, pm, an, cdv, ct, osl, rfl, lk, hcd, hD, hK⟩ := id F.ex
  refine fnC_of (N := nLaw) (k := 31) lk hcd scLaw (fun vs H Q E h => ?_) room_law (fun outer s H vs Q E hr h => ?_)
  · obtain ⟨_, _, rfl, _⟩ := h
    rfl
  · obtain ⟨a, ns, rfl, hs, k⟩ := h
    have nd := scLaw.nd
    have hu := hu_of hr
    have hu0 := hr.units0
    have cF := T.c "Facts"
    have cS := T.c "SizeFacts"
    have mCl := T.meth "Facts" "clashes" (by decide +kernel)
    have mV := T.meth "Facts" "verdict" (by decide +kernel)
    have mM := T.meth "SizeFacts" "model" (by decide +kernel)
    have mCw := T.meth "SizeFacts" "clash_weights" (by decide +kernel)
    have mK := T.meth "SizeFacts" "keep" (by decide +kernel)
    have mF := T.meth "SizeFacts" "follows" (by decide +kernel)
    have r1 : Room 1 _ := hr.mono (by decide)
    have r2 : Room 2 _ := hr.mono (by decide)
    have r4 : Room 4 _ := hr.mono (by decide)
    have r6 : Room 6 _ := hr.mono (by decide)
    have r7 : Room 7 _ := hr.mono (by decide)
    have r23 : Room 23 _ := hr.mono (by decide)
    have r24 : Room 24 _ := hr.mono (by decide)
    have r26 : Room 26 _ := hr.mono (by decide)
    have r27 : Room 27 _ := hr.mono (by decide)
    have r28 : Room 28 _ := hr.mono (by decide)
    have r29 : Room 29 _ := hr.mono (by decide)
    have r30 : Room 30 _ := hr.mono (by decide)
    have hgu : (cxOf CX0 P w K mg base nLaw "law" (defScope sLaw) (He.fAd K dLaw.at_) cdv callerA outer s H E).nox.A.guards = some [] := rfl
    have hu10 : (cxOf CX0 P w K mg base nLaw "law" (defScope sLaw) (He.fAd K dLaw.at_) cdv callerA outer s H E).nox.A.units + 10 < cLine := Nat.lt_of_le_of_lt (by rw [Nat.add_assoc]; exact Nat.add_le_add_left (by decide) _) hr.un
    have ht : ∃ t, PSs (cxOf CX0 P w K mg base nLaw "law" (defScope sLaw) (He.fAd K dLaw.at_) cdv callerA outer s H E).nox (defBody sLaw) t ∧ t { nx := fun _ H' => Q .non H', rt := Q } (start nLaw [.ref a]) H := by
      refine ⟨_, pss_cons (ps_asg (pe_cR GTp r1 (T.g "_law_tape") (T.k "_law_tape") pass0 (pa_cons (pv 0) (pa_cons pe_int pa_nil))) (pg_name (i := 1) nd rfl (Or.inl rfl)))
        (pss_cons (ps_par (i := 2) (j := 3) (by rfl) nd rfl rfl (by decide) rfl rfl (pa_cons (pe_cR GPs r7 (T.g "_law_pairs") (T.k "_law_pairs") pass0 (pa_cons (pv 1) (pa_cons pe_int pa_nil))) (pa_cons (pe_cR GPs r7 (T.g "_law_pairs") (T.k "_law_pairs") pass0 (pa_cons (pe_cR GTp r1 (T.g "_law_tape") (T.k "_law_tape") pass0 (pa_cons (pv 0) (pa_cons pe_int pa_nil))) (pa_cons pe_int pa_nil))) pa_nil)) (by rfl))
        (pss_cons (ps_if (PW.pt (pw_and (pt_cmpR (op_neL0 hu0) (pv 2) (pe_lst pa_nil) (nomark _)) (pw_and1 (pt_cmpR op_eq (pe_cR GPk r1 (T.g "_law_pick") (T.k "_law_pick") pass0 (pa_cons (pv 1) (pa_cons pe_int pa_nil))) pe_int (nomark _)))))
            (pss_one (ps_asg (pe_op op_cat (pe_slice sl_list (pv 3) po_none (po_some pe_int)) (pe_lst (pa_cons (pe_ix ix_list (pv 2) pe_int (fun _ _ => rfl)) pa_nil))) (pg_name (i := 3) nd rfl (Or.inl rfl)))) pss_nil)
        (pss_cons (ps_asg (pe_makeK0 (T.mkc "Facts") GAI r2 rfl (T.g "Facts") BAI pass0 (pk_cons (pe_cR GWs r24 (T.g "_law_words") (T.k "_law_words") pass0 (pa_cons (pv 2) pa_nil)) (pk_cons (pe_cR GWs r24 (T.g "_law_words") (T.k "_law_words") pass0 (pa_cons (pv 3) pa_nil)) pk_nil))) (pg_name (i := 4) nd rfl (Or.inr rfl)))
        (pss_cons (ps_asg (pe_makeK0 (T.mkc "SizeFacts") GSI r2 rfl (T.g "SizeFacts") BSI pass0
            (pk_cons (pe_lc (own := [("_law_pair", 8)]) rfl nd (pi_list (pv 2)) (blkOk_by (own := [("_law_pair", 8)]) (N := nLaw) (sc := defScope sLaw) (by decide +kernel)) (fun _ _ _ _ _ => pg_name (i := 8) nd rfl (Or.inl rfl)) (fun _ _ _ _ _ => pts_nil) (fun _ _ _ _ _ => pe_cR GI r27 (T.g "_law_inner") (T.k "_law_inner") pass0 (pa_cons (pv 8) pa_nil)))
            (pk_cons (pe_lc (own := [("_law_pair", 8)]) rfl nd (pi_list (pv 3)) (blkOk_by (own := [("_law_pair", 8)]) (N := nLaw) (sc := defScope sLaw) (by decide +kernel)) (fun _ _ _ _ _ => pg_name (i := 8) nd rfl (Or.inl rfl)) (fun _ _ _ _ _ => pts_nil) (fun _ _ _ _ _ => pe_cR GO r27 (T.g "_law_outer") (T.k "_law_outer") pass0 (pa_cons (pv 8) pa_nil))) pk_nil))) (pg_name (i := 5) nd rfl (Or.inl rfl)))
        (pss_cons (ps_asg (pe_mR0 (pv 5) cS mM GM r4 pass0) (pg_name (i := 6) nd rfl (Or.inl rfl)))
        (pss_cons (ps_if (PW.pt (pw_or (pt_cmpR op_ne (pe_mR0 (pv 4) cF mCl GCl r26 pass0) (pe_cmpR op_isN (pv 6) pe_non (nomark _)) (nomark _)) (pw_or1 (pt_cmpR op_ne (pe_mR0 (pv 4) cF mCl GCl r26 pass0) (pe_cmpR op_notN (pe_mR0 (pv 5) cS mCw GCw r27 pass0) pe_non (nomark _)) (nomark _))))) (pss_one (ps_ret pe_bl)) pss_nil)
        (pss_cons (ps_asg (pe_op op_cat (pe_op op_cat (pe_cR GPs r7 (T.g "_law_pairs") (T.k "_law_pairs") pass0 (pa_cons (pe_cR GTp r1 (T.g "_law_tape") (T.k "_law_tape") pass0 (pa_cons (pv 0) (pa_cons pe_int pa_nil))) (pa_cons pe_int pa_nil))) (pe_slice sl_list (pv 2) po_none (po_some pe_int))) (pe_slice sl_list (pv 3) po_none (po_some pe_int))) (pg_name (i := 7) nd rfl (Or.inl rfl)))
        (pss_cons (ps_if (pt_cmpR op_isN (pv 6) pe_non (nomark _)) (pss_one (ps_ret (pe_cmpR (op_eqL0 hu0) (pe_lc (own := [("_law_pair", 8)]) rfl nd (pi_list (pv 7)) (blkOk_by (own := [("_law_pair", 8)]) (N := nLaw) (sc := defScope sLaw) (by decide +kernel)) (fun _ _ _ _ _ => pg_name (i := 8) nd rfl (Or.inl rfl))
            (fun _ _ _ _ _ => pts_one (pt_not (pt_val (pe_cR GLC r29 (T.g "_law_clash") (T.k "_law_clash") pass0 (pa_cons (pv 4) (pa_cons (pv 8) pa_nil)))))) (fun _ _ _ _ _ => pv 8)) (pe_lst pa_nil) (nomark _)))) pss_nil)
        (pss_cons (ps_if (PW.pt (pw_or (pt_not (pt_val (pe_methR (pv 5) cS mK GK r4 pass0 (pa_cons (pv 6) pa_nil)))) (pw_or1 (pt_not (pt_val (pe_cR GA r26 (T.g "_law_allowed") (T.k "_law_allowed") pass0 (pa_cons (pv 4) (pa_cons (pv 6) pa_nil)))))))) (pss_one (ps_ret pe_bl)) pss_nil)
        (pss_cons (ps_for PassesOwn.never rfl (pi_list (pv 7)) (pg_name (i := 8) nd rfl (Or.inl rfl))
          (pss_cons (ps_asg (pe_methR (pv 4) cF mV GV r28 pass0 (pa_cons (pe_cR GW r23 (T.g "_law_word") (T.k "_law_word") pass0 (pa_cons (pe_ix ix_tup (pv 8) pe_int (fun _ _ => rfl)) pa_nil)) (pa_cons (pe_cR GW r23 (T.g "_law_word") (T.k "_law_word") pass0 (pa_cons (pe_ix ix_tup (pv 8) pe_int (fun _ _ => rfl)) pa_nil)) pa_nil))) (pg_name (i := 9) nd rfl (Or.inl rfl)))
          (pss_cons (ps_asg (pe_disp (pps_cons pe_str pe_str (pps_cons pe_str pe_str (pps_cons pe_str pe_str pps_nil))) (by rfl) (by rfl) (by intro z; cases z) (by decide)) (pg_name (i := 10) nd rfl (Or.inl rfl)))
          (pss_cons (ps_asg (pe_lst (pa_cons (pe_methR (pv 5) cS mF GF r6 pass0 (pa_cons (pe_cR GI r27 (T.g "_law_inner") (T.k "_law_inner") pass0 (pa_cons (pv 8) pa_nil)) pa_nil))
              (pa_cons (pe_methK (n := 1) (ks := ["strict"]) (pv 5) cS mF GFK r6 BFK pass0 (pa_cons (pe_cR GO r27 (T.g "_law_outer") (T.k "_law_outer") pass0 (pa_cons (pv 8) pa_nil)) pa_nil) (pk_cons pe_bl pk_nil)) pa_nil))) (pg_name (i := 11) nd rfl (Or.inl rfl)))
          (pss_one (ps_if (PW.pt (pw_or (pt_cmpR op_ne (pe_dget1 hu (pv 10) (pe_callTy (call_strB hgu hu10) (by rfl) (T.f "str") (by decide +kernel) (pa_cons (pv 11) pa_nil)) ⟨rfl, rfl, rfl, rfl⟩) (pv 9) (nomark _))
              (pw_or1 (pt_not (pt_val (pe_cR GR r30 (T.g "_law_models_right") (T.k "_law_models_right") pass0 (pa_cons (pv 4) (pa_cons (pv 5) (pa_cons (pv 8) (pa_cons (pv 9) pa_nil)))))))))) (pss_one (ps_ret pe_bl)) pss_nil))))))
        (pss_one (ps_ret pe_bl)))))))))))), ?_⟩
      refine ⟨_, rfl, a, ns, 0, rfl, hs, by decide, fun D1 H1 nD1 e1 t1 => ?_⟩
      refine ⟨_, rfl, D1, rfl, t1, fun l1 ps1 near H2 nl1 hl1 A1 len1 dep1 t2 x2 => ?_⟩
      have e02 : Ex H H2 := ExD.fresh nD1 e1 x2
      refine ⟨_, rfl, a, ns, 1, rfl, Evl.ex_l e02 hs, by decide, fun D2 H3 nD2 e3 t3 => ?_⟩
      refine ⟨D2, rfl, t3, fun l2 ps2 far H4 nl2 hl2 A2 len2 dep2 t4 x4 => ⟨.ref l1, .ref l2, rfl, ?_⟩⟩
      have e24 : Ex H2 H4 := ExD.fresh nD2 e3 x4
      have e04 := e02.trans e24
      have hl1 := e24 l1 _ hl1
      have A1 := A1.mono fun v q h => PairAt.mono (.of e24) h
      have t2 := t2.ex e24
      clear t1 t3 t4 x2 x4 nD2 e1 e3 nl1 nl2 e02 e24
      dsimp only
      refine seq_split (t := tIfS _ _ _) (fun σ' H7 => ∃ (lf : Addr) (pf : List V) (far2 : List Q2), Ex H H7 ∧ H7 l1 = some (.lst ps1) ∧ AllAt PairAt H7 ps1 near ∧ H7 lf = some (.lst pf) ∧ AllAt PairAt H7 pf far2 ∧ far2.length ≤ 3 ∧ (∀ q ∈ far2, PairD q) ∧
        σ' = [some (.ref a), some (.ref D1), some (.ref l1), some (.ref lf), none, none, none, none, none, none, none, none]) (fun N hN => ?_) (fun σ' H7 hR => ?_)
      rotate_left
      · obtain ⟨lf, pf, far2, e0, hl1', A1', hlf, AB, lenB, depB, rfl⟩ := hR
        clear hl1 A1 hl2 A2 t2 nD1 e04 len2 dep2
        have dpN : Dp2 near := fun q hq => by have := dep1 q hq; unfold PairD at this; show q.1.depth ≤ 20 ∧ q.2.depth ≤ 20; omega
        have dpF : Dp2 far2 := fun q hq => by have := depB q hq; unfold PairD at this; show q.1.depth ≤ 20 ∧ q.2.depth ≤ 20; omega
        have hlen : near.length + far2.length ≤ 6 := by omega
        -- the facts
        refine ⟨_, rfl, l1, ps1, near, rfl, hl1', A1', by omega, dep1, fun lw us H8 e8 hlw AW => ?_⟩
        refine ⟨_, rfl, lf, pf, far2, rfl, e8 lf _ hlf, AB.mono fun v q h => PairAt.mono (.of e8) h, by omega, depB, fun lx ys H9 e9 hlx AX => ⟨rfl, rfl, fun xf dxf nxf ndxf nef => ?_⟩⟩
        have eM : Ex H9 (upd (upd H9 dxf (.own xf)) xf (.ins (He.ga K "Facts") dxf [])) := fun b o hb => by
          rw [upd_ne (ne_of_none hb nxf), upd_ne (ne_of_none hb ndxf)]; exact hb
        refine ⟨xf, dxf, lw, lx, near, far2, us, ys, rfl, upd_same, eM lw _ (e9 lw _ hlw), eM lx _ hlx, (AW.mono fun v q h => h.mono (.of e9)).mono fun v q h => h.mono (.of eM), AX.mono fun v q h => h.mono (.of eM), dpN, dpF, by omega, by omega, fun HF kp hF => ⟨rfl, ?_⟩⟩
        have eF : Ex H9 HF := fun b o hb => kp b o (eM b o hb) (ne_of_none hb nxf)
        have e7F : Ex H7 HF := (e8.trans e9).trans eF
        have e0F := e0.trans e7F
        clear kp eM e8 e9 eF hlw AW hlx AX
        -- the sizes
        refine ⟨_, rfl, l1, rfl, ⟨_, SqL.of (e7F l1 _ hl1')⟩, fun Dw nDw => lc_map (walk_list (xs := ps1)) (fun i v H => ∀ q, near[i]? = some q → ClAt (He.ga K "Claim") H v (wkF q)) nDw (by rw [A1'.1]; omega) (fun H e => SqL.of (e l1 _ (e7F l1 _ hl1'))) (fun i v H H' xs hx e h q hq => (h q hq).mono (e.n hx)) (fun i x H0 H' Qe hi e hDl y kq => ?_) (fun zs HA eA hDw hzl hz => ?_)⟩
        · obtain ⟨rfl, hx⟩ := y
          obtain ⟨q, hq, hp⟩ := A1'.get hx
          have hd := dep1 q (List.mem_of_getElem? hq)
          unfold PairD at hd
          refine ⟨rfl, _, rfl, x, q, rfl, hp.mono (.of (e7F.trans e)), (by show q.1.depth ≤ 10 ∧ q.2.depth ≤ 10; omega), fun v' H4 e4 hc => kq v' H4 e4 fun q' hq' => ?_⟩
          rw [hq] at hq'
          obtain rfl := Option.some.inj hq'
          exact hc
        have e7A := e7F.trans eA
        refine ⟨_, rfl, lf, rfl, ⟨_, SqL.of (e7A lf _ hlf)⟩, fun Ds nDs => lc_map (walk_list (xs := pf)) (fun i v H => ∀ q, far2[i]? = some q → ClAt (He.ga K "Claim") H v (stF q)) nDs (by rw [AB.1]; omega) (fun H e => SqL.of (e lf _ (e7A lf _ hlf))) (fun i v H H' xs hx e h q hq => (h q hq).mono (e.n hx)) (fun i x H0 H' Qe hi e hDl y kq => ?_) (fun xs HB eB hDs hxl hx => ?_)⟩
        · obtain ⟨rfl, hx⟩ := y
          obtain ⟨q, hq, hp⟩ := AB.get hx
          have hd := depB q (List.mem_of_getElem? hq)
          unfold PairD at hd
          refine ⟨rfl, _, rfl, x, q, rfl, hp.mono (.of (e7A.trans e)), (by show q.1.depth ≤ 10 ∧ q.2.depth ≤ 10; omega), fun v' H4 e4 hc => kq v' H4 e4 fun q' hq' => ?_⟩
          rw [hq] at hq'
          obtain rfl := Option.some.inj hq'
          exact hc
        refine ⟨rfl, rfl, fun x2 dx2 nx2 ndx2 ne2 => ?_⟩
        have eM : Ex HB (upd (upd HB dx2 (.own x2)) x2 (.ins (He.ga K "SizeFacts") dx2 [])) := fun b o hb => by
          rw [upd_ne (ne_of_none hb nx2), upd_ne (ne_of_none hb ndx2)]; exact hb
        refine ⟨x2, dx2, Dw, Ds, zs, xs, rfl, upd_same, eM Dw _ (eB Dw _ hDw), eM Ds _ hDs, fun tw ts HS kp h1 h2 h3 => ⟨rfl, ?_⟩⟩
        have eS : Ex HB HS := fun b o hb => kp b o (eM b o hb) (ne_of_none hb nx2)
        have zA : AllAt (fun H v q => ClAt (He.ga K "Claim") H v (wkF q)) HA zs near := ⟨by rw [hzl, A1'.1], fun i v q hv hq => hz i v hv q hq⟩
        have xA : AllAt (fun H v q => ClAt (He.ga K "Claim") H v (stF q)) HB xs far2 := ⟨by rw [hxl, AB.1], fun i v q hv hq => hx i v hv q hq⟩
        have hS : SfAt (He.ga K "SizeFacts") (He.ga K "Claim") HS (.ref x2) (wsOf near) (ssOf far2) :=
          ⟨x2, dx2, tw, ts, zs, xs, rfl, h1, h2, h3, (zA.mono fun v q h => h.mono (.of (eB.trans eS))).map fun v q h => h, (xA.mono fun v q h => h.mono (.of eS)).map fun v q h => h⟩
        have eFS : Ex HF HS := (eA.trans eB).trans eS
        have hF := hF.mono eFS
        have e7S := e7F.trans eFS
        have hx2 := h1
        obtain ⟨_, dxf', fa, fb, efx, hxf⟩ := hF.ref
        obtain rfl := V.ref.inj efx
        clear kp h1 h2 h3 eM eS zA xA eA eB hDw hDs hz hx hzl hxl eFS e7A e7F e0F nDw nDs nx2 ndx2 ne2 nxf ndxf nef
        -- the model
        have nos : ∀ {m : PySem.Str}, ¬ m = "strict" → ¬ m = "weak" → (sf2 tw ts).lookup m = none := fun h1 h2 => sf2_no _ _ h1 h2
        have nof : ∀ {m : PySem.Str}, ¬ m = "outside" → ¬ m = "inside" → (ff fa fb).lookup m = none := fun h1 h2 => ff_no _ _ h1 h2
        have bok : RwOk (baseR (wsOf near) (ssOf far2)) := base_ok (by omega)
        refine ⟨_, rfl, x2, dx2, _, rfl, hx2, nos (by decide +kernel) (by decide +kernel), .ref x2, wsOf near, ssOf far2, rfl, hS, bok, fun va HM eM hn => ?_⟩
        have hcv : clashB near far2 = decide (va = .non) := by
          rcases hn with ⟨rfl, no⟩ | ⟨n, ⟨d, rfl, _⟩, hf⟩
          · rw [feas] at no
            rw [decide_eq_true rfl]
            exact Bool.not_eq_false _ |>.mp no
          · have := (feas near far2).mp ⟨n, hf⟩
            rw [this]
            exact (decide_eq_false (fun z => by cases z)).symm
        refine ⟨_, rfl, xf, dxf', _, rfl, eM xf _ hxf, nof (by decide +kernel) (by decide +kernel), .ref xf, near, far2, rfl, hF.mono eM, fun H1 e1 => ⟨_, rfl, rfl, rfl, _, rfl, ?_⟩⟩
        refine ite_f (by rw [hcv]; simp) ?_
        have eM1 := eM.trans e1
        refine ⟨_, rfl, xf, dxf', _, rfl, eM1 xf _ hxf, nof (by decide +kernel) (by decide +kernel), .ref xf, near, far2, rfl, hF.mono eM1, fun H2 e2 => ?_⟩
        have eM2 := eM1.trans e2
        refine ⟨_, rfl, x2, dx2, _, rfl, eM2 x2 _ hx2, nos (by decide +kernel) (by decide +kernel), .ref x2, wsOf near, ssOf far2, rfl, hS.ex eM2, bok, fun vw H3 e3 hw => ⟨rfl, rfl, _, rfl, ?_⟩⟩
        have hcw : (!decide (vw = .non)) = clashB near far2 := by
          rcases hw with ⟨rfl, hf⟩ | ⟨⟨r, rfl⟩, no⟩
          · have := (feas near far2).mp hf
            rw [this]; rfl
          · rw [feas] at no
            rw [Bool.not_eq_false _ |>.mp no, decide_eq_false (fun z => by cases z)]
            rfl
        refine ite_f (by rw [hcw]; simp) ?_
        have eM3 := eM2.trans e3
        have e73 := e7S.trans eM3
        have e03 := e0.trans e73
        have hF3 := hF.mono eM3
        have hS3 := hS.ex eM3
        have hx23 := eM3 x2 _ hx2
        have hxf3 := eM3 xf _ hxf
        -- what is asked
        refine ⟨_, rfl, a, ns, 2, rfl, Evl.ex_l e03 hs, by decide, fun D3 H4 nD3 e4 t3 => ?_⟩
        refine ⟨D3, rfl, t3, fun l3 ps3 ask H5 nl3 hl3 A3 len3 dep3 t5 x5 => ?_⟩
        have e35 : Ex H3 H5 := ExD.fresh nD3 e4 x5
        have e75 := e73.trans e35
        refine ⟨_, rfl, 1, rfl, l1, _, rfl, SqL.of (e75 l1 _ hl1'), fun c1 nc1 => ?_⟩
        have ec1 : Ex H5 (upd H5 c1 (.lst (cutV ps1 none (some 1)))) := Evl.Ex.new nc1
        have hc1 : (upd H5 c1 (.lst (cutV ps1 none (some 1)))) c1 = some (.lst (ps1.take 1)) := by rw [upd_same]; exact congrArg (fun l => some (HO.lst l)) (cut_to 1)
        generalize (upd H5 c1 (.lst (cutV ps1 none (some 1)))) = H6 at ec1 hc1
        refine ⟨l3, c1, _, _, rfl, rfl, ec1 l3 _ hl3, hc1, ?_, fun c2 nc2 => ?_⟩
        · show ps3.length + (ps1.take 1).length ≤ 2 ^ 24
          have := A3.1
          rw [List.length_take]
          omega
        have ec2 : Ex H6 (upd H6 c2 (.lst (ps3 ++ ps1.take 1))) := Evl.Ex.new nc2
        have hc2 : (upd H6 c2 (.lst (ps3 ++ ps1.take 1))) c2 = some (.lst (ps3 ++ ps1.take 1)) := upd_same
        generalize (upd H6 c2 (.lst (ps3 ++ ps1.take 1))) = H8 at ec2 hc2
        have e58 := ec1.trans ec2
        refine ⟨_, rfl, 1, rfl, lf, _, rfl, SqL.of (e58 lf _ (e75 lf _ hlf)), fun c3 nc3 => ?_⟩
        have ec3 : Ex H8 (upd H8 c3 (.lst (cutV pf none (some 1)))) := Evl.Ex.new nc3
        have hc3 : (upd H8 c3 (.lst (cutV pf none (some 1)))) c3 = some (.lst (pf.take 1)) := by rw [upd_same]; exact congrArg (fun l => some (HO.lst l)) (cut_to 1)
        generalize (upd H8 c3 (.lst (cutV pf none (some 1)))) = H9 at ec3 hc3
        refine ⟨c2, c3, _, _, rfl, rfl, ec3 c2 _ hc2, hc3, ?_, fun ca nca => ?_⟩
        · show (ps3 ++ ps1.take 1).length + (pf.take 1).length ≤ 2 ^ 24
          have := A3.1
          rw [List.length_append, List.length_take, List.length_take]
          omega
        have ec4 : Ex H9 (upd H9 ca (.lst (ps3 ++ ps1.take 1 ++ pf.take 1))) := Evl.Ex.new nca
        have hca : (upd H9 ca (.lst (ps3 ++ ps1.take 1 ++ pf.take 1))) ca = some (.lst (ps3 ++ ps1.take 1 ++ pf.take 1)) := upd_same
        have e59 := (e58.trans ec3).trans ec4
        generalize (upd H9 ca (.lst (ps3 ++ ps1.take 1 ++ pf.take 1))) = HQ at e59 hca
        have takeA : ∀ (HH : Hp) (ps : List V) (qs : List Q2), AllAt PairAt HH ps qs → AllAt PairAt HH (ps.take 1) (qs.take 1) := fun HH ps qs h => ⟨by rw [List.length_take, List.length_take, h.1], fun i v q hv hq => by
          rw [List.getElem?_take] at hv hq
          by_cases c : i < 1
          · rw [if_pos c] at hv hq; exact h.2 i v q hv hq
          · rw [if_neg c] at hv; cases hv⟩
        have e7Q := e75.trans e59
        have e3Q := e35.trans e59
        have AQ : AllAt PairAt HQ (ps3 ++ ps1.take 1 ++ pf.take 1) (ask ++ near.take 1 ++ far2.take 1) :=
          ((A3.mono fun v q h => PairAt.mono (.of e59) h).app (takeA HQ _ _ (A1'.mono fun v q h => PairAt.mono (.of e7Q) h))).app (takeA HQ _ _ (AB.mono fun v q h => PairAt.mono (.of e7Q) h))
        have dQ : ∀ q ∈ ask ++ near.take 1 ++ far2.take 1, PairOk q := fun q hq => by
          have : PairD q := by
            rcases List.mem_append.mp hq with z | z
            · rcases List.mem_append.mp z with z | z
              · exact dep3 q z
              · exact dep1 q (List.mem_of_mem_take z)
            · exact depB q (List.mem_of_mem_take z)
          unfold PairD at this
          show q.1.depth ≤ 10 ∧ q.2.depth ≤ 10
          omega
        have lQ : (ps3 ++ ps1.take 1 ++ pf.take 1).length ≤ 99999 := by
          have := AQ.1
          have h2 : (ask ++ near.take 1 ++ far2.take 1).length ≤ 100 := by
            rw [List.length_append, List.length_append, List.length_take, List.length_take]
            omega
          omega
        generalize (ps3 ++ ps1.take 1 ++ pf.take 1) = pq at hca AQ lQ
        generalize (ask ++ near.take 1 ++ far2.take 1) = qq at AQ dQ
        have hFQ := hF3.mono e3Q
        have hSQ := hS3.ex e3Q
        have hx2Q := e3Q x2 _ hx23
        have hxfQ := e3Q xf _ hxf3
        have eMQ : Ex HM HQ := ((e1.trans e2).trans e3).trans e3Q
        clear e58 e59 ec1 ec2 ec3 ec4 hc1 hc2 hc3 nc1 nc2 nc3 nca A3 e75 e7Q takeA
        refine ⟨_, rfl, rfl, _, rfl, ?_⟩
        rcases hn with ⟨rfl, no⟩ | ⟨n, hnn, hfit⟩
        · have hc : clashB near far2 = true := by rw [hcv]; rfl
          refine ite_t rfl ?_
          refine ⟨_, rfl, ca, rfl, ⟨_, SqL.of hca⟩, fun DD nDD => lc_fil (walk_list (xs := pq)) (fun _ => false) (fun i => pq.getD i .non) nDD lQ (fun H e => SqL.of (e ca _ hca)) (fun i x H0 H' Qy Qn hi e y ky kn => ?_) (fun HR eR hDD => ⟨Nat.zero_le _, fun l nl => ?_⟩)⟩
          · obtain ⟨rfl, hx⟩ := y
            obtain ⟨q, hq, hp⟩ := AQ.get hx
            exact ⟨rfl, _, rfl, _, rfl, .ref xf, x, near, far2, q, rfl, hFQ.mono e, hc, hp.mono (.of e), dQ q (List.mem_of_getElem? hq), fun H' e' => ⟨_, rfl, ite_f rfl (kn rfl H' e')⟩⟩
          · have hDD' : HR DD = some (.lst []) := by rw [hDD]; simp
            have eL : Ex HR (upd HR l (.lst [])) := Evl.Ex.new nl
            exact ⟨DD, l, [], rfl, rfl, SqL.of (eL DD _ hDD'), SqL.of upd_same, k _⟩
        · obtain ⟨dn, rfl, hdn⟩ := id hnn
          have hc : clashB near far2 = false := by rw [hcv]; exact decide_eq_false (fun z => by cases z)
          refine ite_f rfl ?_
          have hnQ := hnn.mono (.of eMQ)
          refine ⟨_, rfl, x2, dx2, _, rfl, hx2Q, nos (by decide +kernel) (by decide +kernel), _, rfl, .ref x2, .ref dn, wsOf near, ssOf far2, n, rfl, hSQ, hnQ, hfit.1, wsOf_small near, ssOf_small far2, by simp [wsOf]; omega, by simp [ssOf]; omega, fun HK eK => ⟨_, rfl, ?_⟩⟩
          rw [(keepB_iff hfit.1).mpr hfit]
          refine iteF ?_
          refine ⟨_, rfl, _, rfl, .ref xf, .ref dn, near, far2, n, rfl, hFQ.mono eK, hnQ.mono (.of eK), fun HL eL => ⟨_, rfl, ?_⟩⟩
          rw [allowedB_fit hfit]
          refine ite_f rfl ?_
          have eQL := eK.trans eL
          refine ⟨_, rfl, ca, rfl, ⟨_, SqL.of (eQL ca _ hca)⟩, ?_⟩
          refine for_it (walk_list (xs := pq)) (fun i σ H' => Ex HQ H' ∧ ∃ s8 s9 s10 s11, σ = [some (.ref a), some (.ref D1), some (.ref l1), some (.ref lf), some (.ref xf), some (.ref x2), some (.ref dn), some (.ref ca), s8, s9, s10, s11])
            ⟨eQL, _, _, _, _, rfl⟩ (fun i σ H' _ h => SqL.of (h.1 ca _ hca)) (fun i z σ HA H' hi hp' yy => ?_) (fun σ HA hp' => k HA)
          obtain ⟨rfl, hz⟩ := yy
          obtain ⟨eA, s8, s9, s10, s11, rfl⟩ := hp'
          obtain ⟨q, hq, hpz⟩ := AQ.get hz
          have hok := dQ q (List.mem_of_getElem? hq)
          obtain ⟨d1, d2⟩ := id hok
          obtain ⟨pp, x, y, rfl, hpp, hx, hy⟩ := id hpz
          refine ⟨_, rfl, xf, dxf', _, rfl, eA xf _ hxfQ, nof (by decide +kernel) (by decide +kernel), ?_⟩
          refine ⟨_, rfl, pp, _, 0, x, rfl, rfl, SqT.of (eA pp _ hpp), rfl, x, q.1, rfl, hx.ex eA, (by show q.1.depth ≤ 20; omega), fun v1 G1 f1 w1 => ?_⟩
          have g1 := eA.trans f1
          refine ⟨_, rfl, pp, _, 1, y, rfl, rfl, SqT.of (g1 pp _ hpp), rfl, y, q.2, rfl, hy.ex g1, (by show q.2.depth ≤ 20; omega), fun v2 G2 f2 w2 => ?_⟩
          have g2 := g1.trans f2
          refine ⟨.ref xf, v1, v2, near, far2, q, rfl, hFQ.mono g2, hc, w1.ex f2, w2, (by show q.1.depth ≤ 20; omega), (by show q.2.depth ≤ 20; omega), fun G3 f3 => ?_⟩
          have g3 := g2.trans f3
          intro pd npd
          refine ⟨upd_same, [(Sum.inr "[True, False]", .str "sure"), (Sum.inr "[False, True]", .str "barred"), (Sum.inr "[False, False]", .str "open")], rfl, by decide, ?_⟩
          rw [upd_upd]
          have f4 : Ex G3 (upd G3 pd (.dK (mergeK [] [(Sum.inr "[True, False]", .str "sure"), (Sum.inr "[False, True]", .str "barred"), (Sum.inr "[False, False]", .str "open")]))) := Evl.Ex.new npd
          have hpd : (upd G3 pd (.dK (mergeK [] [(Sum.inr "[True, False]", .str "sure"), (Sum.inr "[False, True]", .str "barred"), (Sum.inr "[False, False]", .str "open")]))) pd = some (.dK (mergeK [] [(Sum.inr "[True, False]", .str "sure"), (Sum.inr "[False, True]", .str "barred"), (Sum.inr "[False, False]", .str "open")])) := upd_same
          generalize (upd G3 pd (.dK (mergeK [] [(Sum.inr "[True, False]", .str "sure"), (Sum.inr "[False, True]", .str "barred"), (Sum.inr "[False, False]", .str "open")]))) = G4 at f4 hpd
          have g4 := g3.trans f4
          -- the sides
          refine ⟨_, rfl, x2, dx2, _, rfl, g4 x2 _ hx2Q, nos (by decide +kernel) (by decide +kernel), ?_⟩
          refine ⟨_, rfl, .ref pp, q, rfl, hpz.mono (.of g4), hok, fun vi G5 f5 hI => ?_⟩
          have hI : ClAt (He.ga K "Claim") G5 vi (wkF q) := hI
          have g5 := g4.trans f5
          refine ⟨.ref x2, vi, false, wsOf near, ssOf far2, wkF q, rfl, hSQ.ex g5, hI, more_ok hlen (wk_ok q) false, fun b1 G6 f6 hb1 => ?_⟩
          have g6 := g5.trans f6
          refine ⟨_, rfl, x2, dx2, _, rfl, g6 x2 _ hx2Q, nos (by decide +kernel) (by decide +kernel), ?_⟩
          refine ⟨_, rfl, .ref pp, q, rfl, hpz.mono (.of g6), hok, fun vo G7 f7 hO => ?_⟩
          have hO : ClAt (He.ga K "Claim") G7 vo (stF q) := hO
          have g7 := g6.trans f7
          refine ⟨rfl, rfl, .ref x2, vo, true, wsOf near, ssOf far2, stF q, rfl, hSQ.ex g7, hO, more_ok hlen (st_ok q) true, fun b2 G8 f8 hb2 => ?_⟩
          have g8 := g7.trans f8
          refine ⟨by show 2 ≤ sizeLine; decide, fun ls nls => ?_⟩
          have f9 : Ex G8 (upd G8 ls (.lst [.bl b1, .bl b2])) := Evl.Ex.new nls
          have hls : (upd G8 ls (.lst [.bl b1, .bl b2])) ls = some (.lst [.bl b1, .bl b2]) := upd_same
          generalize (upd G8 ls (.lst [.bl b1, .bl b2])) = G9 at f9 hls
          have g9 := g8.trans f9
          have hpd9 := ((((f5.trans f6).trans f7).trans f8).trans f9) pd _ hpd
          have s1 : b1 = true ↔ verd near far2 q = "sure" := hb1.trans (sure_iff hc).symm
          have s2 : b2 = true ↔ verd near far2 q = "barred" := hb2.trans (barred_iff hc).symm
          have hval : (valV (mergeK [] [((Sum.inr "[True, False]" : Key), V.str "sure"), (Sum.inr "[False, True]", .str "barred"), (Sum.inr "[False, False]", .str "open")]) (Sum.inr (shB b1 b2))).getD .non = .str (verd near far2 q) := by
            rcases verd_three (near := near) (far := far2) (q := q) with z | z | z
            · have h1 : b1 = true := s1.mpr z
              have h2 : b2 = false := Bool.eq_false_iff.mpr fun y => by
                have := s2.mp y
                rw [z] at this
                exact absurd this (by decide +kernel)
              rw [h1, h2, z, shB_tf]
              decide +kernel
            · have h1 : b2 = true := s2.mpr z
              have h2 : b1 = false := Bool.eq_false_iff.mpr fun y => by
                have := s1.mp y
                rw [z] at this
                exact absurd this (by decide +kernel)
              rw [h1, h2, z, shB_ft]
              decide +kernel
            · have h1 : b2 = false := Bool.eq_false_iff.mpr fun y => by
                have := s2.mp y
                rw [z] at this
                exact absurd this (by decide +kernel)
              have h2 : b1 = false := Bool.eq_false_iff.mpr fun y => by
                have := s1.mp y
                rw [z] at this
                exact absurd this (by decide +kernel)
              rw [h1, h2, z, shB_ff]
              decide +kernel
          refine ⟨_, rfl, pd, rfl, .inl ⟨_, .inl hpd9⟩, _, rfl, ls, b1, b2, rfl, SqL.of hls, _, DGet.k (k := Sum.inr (shB b1 b2)) hpd9, ?_⟩
          rw [hval]
          refine ⟨_, rfl, rfl, _, rfl, ite_f (by simp) ?_⟩
          refine ⟨_, rfl, _, rfl, _, rfl, _, rfl, .ref xf, .ref x2, .ref pp, near, far2, q, rfl, hFQ.mono g9, hSQ.ex g9, hpz.mono (.of g9), hok, hc, hlen, fun GA eGA => ⟨_, rfl, ite_f rfl ⟨g9.trans eGA, _, _, _, _, rfl⟩⟩⟩
      refine ⟨_, rfl, Nat.zero_le _, fun z nz => ⟨l1, z, ps1, rfl, rfl, SqL.of (Evl.Ex.new nz l1 _ hl1), SqL.of upd_same, _, rfl, ?_⟩⟩
      have ez : Ex H4 (upd H4 z (.lst [])) := Evl.Ex.new nz
      generalize (upd H4 z (.lst [])) = H5 at ez
      have e05 := e04.trans ez
      have hl1 := ez l1 _ hl1
      have hl2 := ez l2 _ hl2
      have A1 := A1.mono fun v q h => PairAt.mono (.of ez) h
      have A2 := A2.mono fun v q h => PairAt.mono (.of ez) h
      have t5 := t2.ex ez
      clear t2 ez e04 nz
      have nlD : ∀ (l : Addr) (ps : List V) (qs : List (Wd × Wd)), H5 l = some (.lst ps) → AllAt PairAt H5 ps qs → l ≠ D1 := fun l ps qs hl hA e => by
        obtain ⟨c, x, y, ht, _⟩ := t5
        rw [e, ht] at hl
        injection hl with hl
        injection hl with hl
        obtain ⟨q, hq, p, _, _, ep, _⟩ := hA.get (i := 0) (v := .int c) (by rw [← hl]; rfl)
        cases ep
      cases hem : ps1.isEmpty with
      | true =>
        exact ite_f rfl (iteF (hN _ _ ⟨l2, ps2, far, e05, hl1, A1, hl2, A2, len2, dep2, rfl⟩))
      | false =>
        refine ite_t rfl ⟨_, rfl, D1, 4, rfl, t5, by decide, by decide, fun r H6 hr6 t6 x6 => ⟨rfl, _, rfl, ?_⟩⟩
        have n56 : ExN H5 H6 := t5.n x6
        have hl1' := x6 l1 _ (nlD l1 _ _ hl1 A1) hl1
        have hl2' := x6 l2 _ (nlD l2 _ _ hl2 A2) hl2
        have A1' := A1.mono fun v q h => PairAt.mono n56 h
        have A2' := A2.mono fun v q h => PairAt.mono n56 h
        by_cases c : r = 0
        · refine ite_t (decide_eq_true (by rw [c]; rfl)) ?_
          obtain ⟨p0, ps1', rfl⟩ : ∃ p0 r, ps1 = p0 :: r := by
            cases ps1 with
            | nil => cases hem
            | cons p0 r => exact ⟨p0, r, rfl⟩
          obtain ⟨q0, hq0, hp0⟩ := A1'.get (i := 0) (v := p0) rfl
          refine ⟨_, rfl, 2, rfl, l2, _, rfl, SqL.of hl2', fun l3 nl3 => ?_⟩
          have e3 : Ex H6 (upd H6 l3 (.lst (cutV ps2 none (some 2)))) := Evl.Ex.new nl3
          have hl3 : (upd H6 l3 (.lst (cutV ps2 none (some 2)))) l3 = some (.lst (ps2.take 2)) := by rw [upd_same]; exact congrArg (fun l => some (HO.lst l)) (cut_to 2)
          generalize (upd H6 l3 (.lst (cutV ps2 none (some 2)))) = H7 at e3 hl3
          refine ⟨_, rfl, l1, _, 0, p0, rfl, rfl, SqL.of (e3 l1 _ hl1'), atI_nat (j := 0) rfl, by show 1 ≤ sizeLine; decide, fun l4 nl4 => ?_⟩
          have e4 : Ex H7 (upd H7 l4 (.lst [p0])) := Evl.Ex.new nl4
          refine ⟨l3, l4, _, _, rfl, rfl, e4 l3 _ hl3, upd_same, ?_, fun l5 nl5 => ?_⟩
          · show (ps2.take 2).length + 1 ≤ 2 ^ 24
            have := A2.1
            rw [List.length_take]
            omega
          have e5 : Ex (upd H7 l4 (.lst [p0])) (upd (upd H7 l4 (.lst [p0])) l5 (.lst (ps2.take 2 ++ [p0]))) := Evl.Ex.new nl5
          have e66 := (e3.trans e4).trans e5
          have A2t : AllAt PairAt H6 (ps2.take 2) (far.take 2) := ⟨by rw [List.length_take, List.length_take, A2'.1], fun i v q hv hq => by
            rw [List.getElem?_take] at hv hq
            by_cases c : i < 2
            · rw [if_pos c] at hv hq; exact A2'.2 i v q hv hq
            · rw [if_neg c] at hv; cases hv⟩
          refine hN _ _ ⟨l5, ps2.take 2 ++ [p0], far.take 2 ++ [q0], (ExD.fresh nD1 e05 x6).trans e66, e66 l1 _ hl1', A1'.mono fun v q h => PairAt.mono (.of e66) h, upd_same, ((A2t.snoc hp0).mono fun v q h => PairAt.mono (.of e66) h), ?_, fun q hq => ?_, rfl⟩
          · rw [List.length_append, List.length_take]
            show min 2 far.length + 1 ≤ 3
            omega
          · rcases List.mem_append.mp hq with z | z
            · exact dep2 q (List.mem_of_mem_take z)
            · rw [List.mem_singleton.mp z]
              exact dep1 q0 (List.mem_of_getElem? hq0)
        · refine ite_f (decide_eq_false (fun z => c (by have := V.int.inj z; omega))) ?_
          exact hN _ _ ⟨l2, ps2, far, ExD.fresh nD1 e05 x6, hl1', A1', hl2', A2', len2, dep2, rfl⟩
    obtain ⟨t, h1, h2⟩ := ht
    exact ⟨t, h1.nox, h2⟩
end
end HX
end

section
set_option Elab.async false
set_option linter.all false
set_option maxRecDepth 100000
set_option maxHeartbeats 0
/-! What the head says, as the walk wants it. -/
namespace HX
open PySem PySem.Spec PyProof.Rows L2
open PySem.W (Frag)
section
variable {w : World} {K : Frag} {h : Heap} {mg : Str → Option Value}
theorem exAll (b : exB K = true) (i : Nat) {q : Bool} (e : (exL K)[i]? = some q := by rfl) : q = true := List.all_eq_true.mp (show (exL K).all id = true from b) q (List.mem_of_getElem? e)
theorem faM (c : He.SaysT faL fnL tsL w K) {f : He.Fa} (m : f ∈ faL) : f.ok K = true := He.SaysD.facts c.d m
theorem fnM (c : He.SaysT faL fnL tsL w K) {d : He.DefD} (m : d ∈ fnL) : FnA K d := He.SaysD.defs c.d m
theorem mL {α : Type} {a : α} {l r : List α} (m : a ∈ l) : a ∈ l ++ r := List.mem_append.mpr (.inl m)
theorem mR {α : Type} {a : α} {l r : List α} (m : a ∈ r) : a ∈ l ++ r := List.mem_append.mpr (.inr m)
theorem tx_of (X : K.In h) (G : h.Ns mainGlobals mg) (c : He.SaysT faL fnL tsL w K) (b : exB K = true) : Tx w K mg where
  glo := fun x m => He.glo_ok X G (faM c (mL (List.mem_map.mpr ⟨x, m, rfl⟩)))
  kee := fun x m => He.keep_ok (faM c (mR (mL (List.mem_map.mpr ⟨x, m, rfl⟩))))
  fre := fun x m => He.free_ok X G (faM c (mR (mR (mL (List.mem_map.mpr ⟨x, m, rfl⟩)))))
  fnG1 := fun i d e => fnM c (mL (List.mem_of_getElem? e))
  fnG2 := fun i d e => fnM c (mR (mL (List.mem_of_getElem? e)))
  fnM1 := fun i d e => fnM c (mR (mR (mL (List.mem_of_getElem? e))))
  fnM2 := fun i d e => fnM c (mR (mR (mR (mL (List.mem_of_getElem? e)))))
  kinds := fun H => He.tupB_ok (vs := kinds.map .str) (exAll b 0) H
  lines := fun H => He.tupB_ok (vs := lines.map .str) (exAll b 1) H
  hands := fun H => He.tupB_ok (vs := hands.map .str) (exAll b 2) H
  plains := fun H => He.tupB_ok (vs := HX.plains.map .str) (exAll b 3) H
  plane := fun s m => by
    obtain ⟨es, n, D⟩ := He.SaysT.tab c 0
    obtain ⟨u, e, r⟩ := He.valsB_ok (K := K) (a := He.ga K "PLANE_SIZES") (kvs := HX.plains.map fun s => (s, .int (psz s))) (exAll b 4) (q := (s, .int (psz s))) (List.mem_map.mpr ⟨s, m, rfl⟩)
    exact ⟨es, n, u, D.at_, D.lit, e, r⟩
  cls := fun x m => ⟨He.cls_ok (faM c (mR (mR (mR (mL (List.mem_map.mpr ⟨x, m, rfl⟩)))))), He.mkr_ok (faM c (mR (mR (mR (mR (mL (List.mem_map.mpr ⟨x, m, rfl⟩)))))))⟩
  noat := fun x f m => He.noat_ok (faM c (mR (mR (mR (mR (mR (mL (List.mem_map.mpr ⟨(x, f), m, rfl⟩))))))))
  meth := fun x f m => He.meth_ok (faM c (mR (mR (mR (mR (mR (mR (mL (List.mem_map.mpr ⟨(x, f), m, rfl⟩)))))))))
theorem ty_of (c : He.SaysT faL fnL tsL w K) : Ty w K mg where
  sz := fnM c (mR (mR (mR (mR (by simp)))))
  fa := fnM c (mR (mR (mR (mR (by simp)))))
theorem tz_of (X : K.In h) (G : h.Ns mainGlobals mg) (c : He.SaysT faL fnL tsL w K) (b : exB K = true) (T : Tx w K mg) : Tz w K mg where
  fn := fnM c (mR (mR (mR (mR (by simp)))))
  oex := ⟨excB_ok (exAll b 5), He.eqO_ok (exAll b 6), of_decide_eq_true (exAll b 7), of_decide_eq_true (exAll b 8), T.k "Clash"⟩
  iC := He.eqO_ok (exAll b 9)
  tI := of_decide_eq_true (exAll b 10)
  te := of_decide_eq_true (exAll b 11)
  gH := He.glo_ok X G (faM c (mR (mR (mR (mR (mR (mR (mR (List.mem_singleton.mpr rfl)))))))))
  hga := He.eqO_ok (exAll b 12)
  hrd := exAll b 13
  hfi := fiB_ok (exAll b 14)
theorem facts_law {P : Program} {f : Addr} (X : K.In h) (G : h.Ns mainGlobals mg) (hfa : mg ("law" : Str) = some (.ref f)) (c : He.SaysT faL fnL tsL w K) (b : exB K = true) :
    ∃ fd : FuncData, (∀ (s : Shared) (v : Value), BindsTo s fd ⟨[v], []⟩ [("_law_script", v)]) ∧ ∀ base : Heap, K.In base → base.Ns mainGlobals mg → FnOkC P w K mg base CX0 f fd ["_law_script"] (spLaw K) := by
  have T := tx_of X G c b
  have U : Ty w K mg := ty_of c
  have Z := tz_of X G c b T
  have e := hfa.symm.trans (T.g "law")
  cases e
  obtain ⟨fd, F⟩ := fnM c (d := dLaw) (mR (mL (by simp [fnG2])))
  have B := FunD.bindsA (ps := ["_law_script"]) F fun _ _ _ _ _ _ us hl => match us, hl with | [_], _ => rfl
  refine ⟨fd, fun s v => B s [v] rfl, fun base _ _ => ?_⟩
  obtain ⟨fd2, F2, O⟩ := ok_law (P := P) (base := base) T U Z
  have ef : fd2 = fd := by
    obtain ⟨oc, od, dV, kV, doc, pm, an, cdv, ct, osl, e1, l1, _⟩ := F.ex
    obtain ⟨oc', od', dV', kV', doc', pm', an', cdv', ct', osl', e2, l2, _⟩ := F2.ex
    rw [l1] at l2
    injection l2 with z
    injection z with _ _ z _
    injection z with z
    exact z.symm
  subst ef
  exact O
end
end HX
end

section
set_option Elab.async false
set_option linter.all false
set_option maxRecDepth 100000
set_option maxHeartbeats 0
open PySem PySem.W PySem.Calls PyProof.Rows
theorem PySem.Challenge.cw_handspaces_k89_whole_facts_two_ways_holds : PySem.Challenge.rw_handspaces_k89_whole_facts_two_ways.Holds := by
  w_on; o_law
  refine HandSHeadRun.head_any (r := OpenLaw.row PySem.Challenge.rw_handspaces_k89_whole_facts_two_ways) (q := view (OpenLaw.row PySem.Challenge.rw_handspaces_k89_whole_facts_two_ways).prog [79]) (H := HX.hookY) (ob := HX.obY) (M := 15000) (loose := HX.looseL) (d := HandSHeadRun.topDef (OpenLaw.row PySem.Challenge.rw_handspaces_k89_whole_facts_two_ways).prog 79) (kwd := []) HX.obY_eq
    (by kernel_rfl) (fun s => by kernel_rfl) HX.run (by kernel_rfl) (by kernel_rfl) (by kernel_rfl) (by rfl) (by first | assumption | decide +kernel) (by decide +kernel) ⟨rfl, rfl, rfl, rfl, rfl, by decide +kernel⟩ ?hw ?hc
  case hw => w_witness2
  case hc =>
    refine HX.walk_ofC (l := PySem.Challenge.rw_handspaces_k89_whole_facts_two_ways) (n := 63) (x := "_law_script") (CX := L2.CX0) rfl (by decide) (by kernel_rfl) ?F (fun _ _ _ _ z => z)
    intro w mg fa h Y G hmg0
    obtain ⟨K, KX, c, b⟩ := Y
    have hmg : mg ("law" : PySem.Str) = some (.ref fa) := by
      have e : (HandSHeadRun.topDef (OpenLaw.row PySem.Challenge.rw_handspaces_k89_whole_facts_two_ways).prog 79).name = ("law" : PySem.Str) := by kernel_rfl
      rw [← e]
      exact hmg0
    obtain ⟨fd, hb, hF⟩ := HX.facts_law (P := (PySem.Challenge.rw_handspaces_k89_whole_facts_two_ways).prog) (w := w) KX G hmg c b
    exact ⟨K, fd, HX.spLaw K, KX, hb, fun H a ns hl _ hS => ⟨a, ns, rfl, hS, fun _ => rfl⟩, hF⟩
end
