import PyProof.Rows.All
import Wide.All
import OpenK.AllK
import Wide.FinOn
import HandS.ForMost
import HandS.Exc
import HandS.ExcIs
import HandS.HeadHook1
import KE.KStateDown
import Lean
import HandS.Head0
import HandS.Head1
import HandS.Head2
import HandS.TryOnly
import HandS.ExcOwn
import HandS.WordsExc
import HandS.IsInst
import HandS.ExcValue
import HandS.SetFor
import HandS.TupSets
import HandS.ListEq
import HandS.Wide
import HandS.Walk
import HandS.Codes
import HandS.HeadEnd
import PySem.Challenge.RW_satchelmeet_k46_whole_trips
set_option Elab.async false
set_option linter.all false
set_option maxRecDepth 100000
set_option maxHeartbeats 4000000
namespace K46
open PySem L2
/-! ### the text by places (printed by gen_text.py) -/
def top (i : Nat) : Stmt := PySem.Challenge.pw_satchelmeet_k46_whole_trips.main.body.getD i (.Pass ⟨0, 0, 0, 0⟩)
abbrev sIsWhole : Stmt := top 20
abbrev sIsWithin : Stmt := top 21
abbrev sIsNumberOf : Stmt := top 23
abbrev sIsWalker : Stmt := top 25
abbrev sIsDeed : Stmt := top 27
abbrev sLawPurse : Stmt := top 30
abbrev sLawTake : Stmt := top 31
abbrev sLawFar : Stmt := top 32
abbrev sLawRooms : Stmt := top 33
abbrev sLawStep : Stmt := top 34
abbrev sLawMeetings : Stmt := top 35
abbrev sLawBook : Stmt := top 36
abbrev sLawTime : Stmt := top 37
abbrev sLawLetter : Stmt := top 38
abbrev sLawLetters : Stmt := top 39
abbrev sLawAny : Stmt := top 40
abbrev sLawWild : Stmt := top 41
abbrev sLawLikely : Stmt := top 42
abbrev sLawNoted : Stmt := top 43
abbrev sLawWhole : Stmt := top 44
abbrev sLawDoes : Stmt := top 45
abbrev sLawPairsAre : Stmt := top 46
abbrev sLawTimeIs : Stmt := top 47
abbrev sLawNumbersAre : Stmt := top 48
abbrev sLawState : Stmt := top 49
abbrev sLawBag : Stmt := top 50
abbrev sLawDueHere : Stmt := top 51
abbrev sLawApply : Stmt := top 52
abbrev sLawStands : Stmt := top 53
abbrev sLaw : Stmt := top 54
abbrev mInit : Stmt := inClass (top 28) 0
abbrev mLookWhetherCome : Stmt := inClass (top 28) 1
abbrev mLookLetter : Stmt := inClass (top 28) 2
abbrev mTakesRoom : Stmt := inClass (top 28) 3
abbrev mBag : Stmt := inClass (top 28) 4
abbrev mDrop : Stmt := inClass (top 28) 5
abbrev mPassedAt : Stmt := inClass (top 28) 6
abbrev mLookTaker : Stmt := inClass (top 28) 7
abbrev mPassOn : Stmt := inClass (top 28) 8
abbrev mDo : Stmt := inClass (top 28) 9
abbrev mHaving : Stmt := inClass (top 28) 10
abbrev mCome : Stmt := inClass (top 28) 11
abbrev mDone : Stmt := inClass (top 28) 12
def defsF : List (Str × Stmt) := [("is_whole", sIsWhole), ("is_within", sIsWithin), ("is_number_of", sIsNumberOf), ("is_walker", sIsWalker), ("is_deed", sIsDeed), ("_law_purse", sLawPurse), ("_law_take", sLawTake), ("_law_far", sLawFar), ("_law_rooms", sLawRooms), ("_law_step", sLawStep), ("_law_meetings", sLawMeetings), ("_law_book", sLawBook), ("_law_time", sLawTime), ("_law_letter", sLawLetter), ("_law_letters", sLawLetters), ("_law_any", sLawAny), ("_law_wild", sLawWild), ("_law_likely", sLawLikely), ("_law_noted", sLawNoted), ("_law_whole", sLawWhole), ("_law_does", sLawDoes), ("_law_pairs_are", sLawPairsAre), ("_law_time_is", sLawTimeIs), ("_law_numbers_are", sLawNumbersAre), ("_law_state", sLawState), ("_law_bag", sLawBag), ("_law_due_here", sLawDueHere), ("_law_apply", sLawApply), ("_law_stands", sLawStands), ("law", sLaw)]
def defsM : List (Str × Str × Stmt) := [("__init__", "Trip.__init__", mInit), ("look_whether_come", "Trip.look_whether_come", mLookWhetherCome), ("look_letter", "Trip.look_letter", mLookLetter), ("takes_room", "Trip.takes_room", mTakesRoom), ("bag", "Trip.bag", mBag), ("drop", "Trip.drop", mDrop), ("passed_at", "Trip.passed_at", mPassedAt), ("look_taker", "Trip.look_taker", mLookTaker), ("pass_on", "Trip.pass_on", mPassOn), ("do", "Trip.do", mDo), ("having", "Trip.having", mHaving), ("come", "Trip.come", mCome), ("done", "Trip.done", mDone)]
def raised : List Str := ["NoDeed", "NoMeeting", "NoLetter", "NoWalker", "NotThere", "HasIt", "NoPass", "NoRoom"]
def others : List Str := ["NoBook", "NoRule", "TooMany", "NoDay", "NoClaim", "NoText", "NoRow", "NoName", "Twice"]
def frees : List Str := ["len", "isinstance", "int", "bool", "str", "tuple", "all", "list", "enumerate", "range", "sorted", "max", "min", "ValueError"]
def fields : List Str := ["book", "letters", "holders", "arrived", "passed", "latest", "deeds"]
def loose0 : List PySem.Str := ["MeetError", "NoBook", "NoMeeting", "NoDeed", "NoLetter", "NoWalker", "NotThere", "HasIt", "NoPass", "NoRoom", "NoRule", "TooMany", "NoDay", "NoClaim", "NoText", "NoRow", "NoName", "Twice", "is_whole", "is_within"]
def loose1 : List PySem.Str := ["is_number_of", "is_walker", "is_deed", "_law_purse", "_law_take", "_law_far", "_law_rooms", "_law_step", "_law_meetings", "_law_book", "_law_time", "_law_letter", "_law_letters", "_law_any", "_law_wild", "_law_likely", "_law_noted", "_law_whole", "_law_does", "_law_pairs_are"]
def loose2 : List PySem.Str := ["_law_time_is", "_law_numbers_are", "_law_state", "_law_bag", "_law_due_here", "_law_apply", "_law_stands", "Trip"]
def loose : List PySem.Str := loose0 ++ loose1 ++ loose2
def lawAt : Nat := 54

/-! ### what the head is asked for -/
def fnsF : List He.FnD := defsF.map fun p => ⟨(p.1, none), p.1, p.1, defArgs p.2, defBody p.2, defScope p.2⟩
def fnsM : List He.FnD := defsM.map fun p => ⟨("Trip", some p.1), p.1, p.2.1, defArgs p.2.2, defBody p.2.2, defScope p.2.2⟩
def fns : List He.FnD := fnsF ++ fnsM
def fas : List He.Fa := defsF.map (fun p => He.Fa.glo p.1) ++ (frees.map He.Fa.free ++ (fields.map (He.Fa.noat "Trip") ++ (defsM.map (fun p => He.Fa.meth "Trip" p.1) ++ (raised.map He.Fa.exc ++ ((("MeetError" : Str) :: (raised ++ others)).map He.Fa.glo ++ [He.Fa.glo "Trip", He.Fa.cls "Trip", He.Fa.mkr "Trip"])))))
/-- a class of ours that is raised, as isinstance and except ask of it -/
def excB (K : PySem.W.Frag) (x : Str) : Bool :=
  decide (PySem.W.findIn K (.ref (He.ga K x)) "__getattribute__" = some (some (.builtin "BaseException.__getattribute__"))) && (decide (PySem.W.findIn K (.ref (He.ga K x)) "__getattr__" = some none) && (decide (PySem.W.subIn K (.ref (He.ga K x)) (.type "BaseException") = some true) && (PySem.W.hasDictIn K (He.ga K x) &&
  (decide (PySem.W.findIn K (.ref (He.ga K x)) "__class__" = some (some (.builtin "object.__class__"))) && (decide (PySem.W.specialIn K (.builtin "object.__class__") "__get__" = some (some (.builtin "getset_descriptor.__get__"))) && (decide (PySem.W.takesIn K (.builtin "object.__class__") = some true) && (decide (PySem.W.mroIn K (He.ga K x) (.type "object") = some true) &&
  (decide (PySem.W.exmOne K (.ref (He.ga K x)) (.ref (He.ga K "MeetError")) = some true) && (decide (PySem.W.kitOne K (.ref (He.ga K x)) (.type "ValueError") = some true) && ((raised.all fun y => decide (PySem.W.kitOne K (.ref (He.ga K x)) (.ref (He.ga K y)) = some (decide (x = y)))) &&
  (others.all fun y => decide (PySem.W.kitOne K (.ref (He.ga K x)) (.ref (He.ga K y)) = some false))))))))))))
def allB (K : PySem.W.Frag) : Bool := raised.all (excB K) && (fns.all fun d => PySem.W.keepIn K (.ref (He.fAd K d.at_)))
/-- what the end leans on -/
def Says (K : PySem.W.Frag) : Prop := He.SaysE fas fns K ∧ allB K = true
def obsX (g : Addr → Option Obj) : He.Al × Bool := (He.obsG 5 fas fns g, allB (He.frG g (He.asG g 5)))
def hk : PySem.W.Hook where
  α := He.Al × Bool
  obs := fun s => obsX s.heap.get?
  val := fun _ => (He.valE fns, true)
  says := fun _ h => ∃ K : PySem.W.Frag, K.In h ∧ Says K
  of := fun _ _ e => ⟨_, He.frG_in, congrArg (fun z : He.Al × Bool => z.1) e, congrArg (fun z : He.Al × Bool => z.2) e⟩
  keeps := fun _ _ _ ⟨K, hK, c⟩ k => ⟨K, PySem.W.Frag.In.keeps hK k, c⟩
end K46
set_option Elab.async false
set_option linter.all false
set_option maxRecDepth 100000
set_option maxHeartbeats 0
namespace K46
open PySem
abbrev R : PySem.W.OpenRow := PySem.W.OpenLaw.row PySem.Challenge.rw_satchelmeet_k46_whole_trips
def ob (s : PySem.W.SharedT) : He.Al × Bool := obsX (HandSHeadRun.getT s)
theorem ob_eq (s : PySem.W.SharedT) : ob s = hk.obs s.abs := by
  have e : HandSHeadRun.getT s = s.abs.heap.get? := funext (HandSHeadRun.getT_eq s)
  show obsX (HandSHeadRun.getT s) = obsX s.abs.heap.get?
  rw [e]
theorem run (w : World) : HandSHeadRun.RunEq R (PySem.W.view R.prog [lawAt]) hk ob 40000 loose w := by
  intro os
  kernel_rfl
end K46
set_option Elab.async false
set_option linter.all false
set_option maxRecDepth 100000
set_option maxHeartbeats 4000000
namespace K46
open PySem L2 PyProof.Rows
/-! ### a def of the module, a method of Trip, with what callers need -/
section
variable (P : Program) (w : World) (K : PySem.W.Frag) (mg : Str → Option Value) (base : Heap)
/-- the module's def x keeps the promise sp, by k levels -/
def OkF (CX : CXT) (k : Nat) (x : Str) (ps : List Str) (sp : Sp) : Prop :=
  ∃ fd, mg x = some (.ref (He.ga K x)) ∧ PySem.W.keepIn K (.ref (He.ga K x)) = true ∧ Binds K fd ps [] ∧ FnOk P w K mg base CX k (He.ga K x) fd ps sp
abbrev CT : Addr := He.ga K "Trip"
/-- Trip's method m keeps the promise sp, by k levels -/
def OkM (CX : CXT) (k : Nat) (m : Str) (ps : List Str) (sp : Sp) : Prop :=
  ∃ fd, Cls K (CT K) ∧ Meth K (CT K) m (He.ma K (CT K) m) ∧ Binds K fd ps [] ∧ FnOk P w K mg base CX k (He.ma K (CT K) m) fd ps sp
/-- where a def stands -/
def AtF (x : Str) (st : Stmt) : Prop := mg x = some (.ref (He.ga K x)) ∧ ∃ fd, Fun K x x st (He.ga K x) fd
def AtM (m q : Str) (st : Stmt) : Prop := Meth K (CT K) m (He.ma K (CT K) m) ∧ ∃ fd, Fun K m q st (He.ma K (CT K) m) fd
end
section
variable {X : Cx} {k : Nat} {sp : Sp} {ps : List Str} {CX : CXT}
theorem pe_cf {x : Str} {e : Expr} {es : List Expr} {p pos : Pos} {t : TA} {E : XK} (G : OkF X.prog X.w X.K X.mg X.base CX k x ps sp) (hr : Room k X.A) (hx : Passes CX X E) (ha : PA X (e :: es) t) (hg : Gl X x := by rfl)
    (hdb : (x == ("__debug__" : Str)) = false := by decide) (hst : starEach (e :: es) X.env = (false, eval e X.env) :: starEach es X.env := by rfl) (hpl : (backTo pos (starEach es X.env)).any (·.1) = false := by rfl) :
    PE X (.Call (.Name x p) (e :: es) [] pos) (tCall sp [] E t) := by
  obtain ⟨fd, h1, h2, h3, h4⟩ := G
  exact pe_call h4 hr hg h1 h2 h3 .nil hx ha hdb hst hpl
theorem pe_cm {m : Str} {o e : Expr} {es : List Expr} {apos pos : Pos} {t : TA} {ta : TE} {E : XK} {pl : Sem Bool} (G : OkM X.prog X.w X.K X.mg X.base CX k m ps sp) (hr : Room k X.A) (hx : Passes CX X E) (ho : PE X o ta) (ha : PA X (e :: es) t)
    (hst : starEach (e :: es) X.env = (false, eval e X.env) :: starEach es X.env := by rfl) (hpl : (backTo pos (starEach es X.env)).any (·.1) = false := by rfl)
    (ht : eval (.Call (.Attribute o m apos) (e :: es) [] pos) X.env = (do
      let ov ← eval o X.env
      standAt apos.atName
      let (f, first) ← holding [ov] (getMethod ov m pl)
      callWith pos f first (backTo pos (starEach (e :: es) X.env)) (backToKw pos (keywordEach [] X.env))) := by rfl) :
    PE X (.Call (.Attribute o m apos) (e :: es) [] pos) (tMeth (CT X.K) m sp [] E ta t) := by
  obtain ⟨fd, h1, h2, h3, h4⟩ := G
  exact pe_meth ho h1 h2 h4 hr h3 .nil hx ha hst hpl ht
theorem pe_cm0 {m : Str} {o : Expr} {apos pos : Pos} {ta : TE} {E : XK} {pl : Sem Bool} (G : OkM X.prog X.w X.K X.mg X.base CX k m ps sp) (hr : Room k X.A) (hx : Passes CX X E) (ho : PE X o ta)
    (ht : eval (.Call (.Attribute o m apos) [] [] pos) X.env = (do
      let ov ← eval o X.env
      standAt apos.atName
      let (f, first) ← holding [ov] (getMethod ov m pl)
      callWith pos f first (backTo pos (starEach [] X.env)) (backToKw pos (keywordEach [] X.env))) := by rfl) :
    PE X (.Call (.Attribute o m apos) [] [] pos) (tMeth (CT X.K) m sp [] E ta tNil) := by
  obtain ⟨fd, h1, h2, h3, h4⟩ := G
  exact pe_meth0 ho h1 h2 h4 hr h3 .nil hx ht
end
/-! ### what stands: all but the objects of S that are no tuples -/
def isTup : HO → Prop
  | .tup _ => True
  | _ => False
def Kp (S : List Addr) (H H' : Hp) : Prop := ∀ b o, H b = some o → (isTup o ∨ b ∉ S) → H' b = some o
section
variable {S S' : List Addr} {H H1 H2 : Hp} {a b p : Addr} {o o' : HO}
theorem Kp.refl : Kp S H H := fun _ _ h _ => h
theorem Kp.trans (x : Kp S H H1) (y : Kp S H1 H2) : Kp S H H2 := fun b o h z => y b o (x b o h z) z
theorem Kp.mono (x : Kp S H H1) (h : ∀ b ∈ S, b ∈ S') : Kp S' H H1 := fun b o e z => x b o e (z.imp id fun n m => n (h b m))
theorem Kp.nil (x : Kp [] H H1) : Kp S H H1 := x.mono fun _ m => nomatch m
theorem Kp.same (x : Kp [] H H1) : Same H H1 := fun b o e => x b o e (.inr (fun m => nomatch m))
theorem Kp.of_same (x : Same H H1) : Kp S H H1 := fun b o e _ => x b o e
theorem Kp.free (x : Kp [] H H1) (h : H1 b = none) : H b = none := x.same.free h
/-- a new object -/
theorem Kp.nw (x : Kp S H H1) (h : H1 p = none) : Kp S H (upd H1 p o) := fun b u e z => by
  have q := x b u e z
  rw [upd_ne (ne_of_none q h)]
  exact q
/-- an object of S, that is no tuple, is written -/
theorem Kp.wr (x : Kp S H H1) (h : H1 p = some o) (hn : ¬ isTup o) (hp : p ∈ S) : Kp S H (upd H1 p o') := fun b u e z => by
  have q := x b u e z
  rcases z with z | z
  · rw [upd_ne (ne_of q h fun r => hn (r ▸ z))]
    exact q
  · rw [upd_ne fun r => z (by rw [r]; exact hp)]
    exact q
/-- an object that is new is written -/
theorem Kp.wn (x : Kp S H H1) (h : H p = none) : Kp S H (upd H1 p o') := fun b u e z => by
  rw [upd_ne (ne_of_none e h)]
  exact x b u e z
theorem Kp.at (x : Kp S H H1) (h : H b = some o) (hb : b ∉ S) : H1 b = some o := x b o h (.inr hb)
theorem Kp.at0 (x : Kp [] H H1) (h : H b = some o) : H1 b = some o := x b o h (.inr fun m => nomatch m)
theorem Kp.tup {xs : List V} (x : Kp S H H1) (h : H b = some (.tup xs)) : H1 b = some (.tup xs) := x b _ h (.inl True.intro)
theorem Kp.sqT {K : PySem.W.Frag} {xs : List V} (x : Kp [] H H1) (h : SqL K H a xs) : SqL K H1 a xs := x.same.seq h
end
theorem upd_of {H : Hp} {a b : Addr} {o u : HO} (h : H b = some u) (hn : b ≠ a) : upd H a o b = some u := by
  rw [upd_ne hn]
  exact h
theorem upd_new {H : Hp} {a b : Addr} {o u : HO} (h : H b = some u) (hn : H a = none) : upd H a o b = some u := upd_of h (ne_of_none h hn)
/-! ### rules of our own -/
section
variable {X : Cx}
/-- xs[i], 0 ≤ i, by values, for xs[i] op= e -/
def rGetN (K : PySem.W.Frag) : V → V → Hp → VK → Prop := fun x y H Q => ∃ p xs i v, x = .ref p ∧ y = .int i ∧ 0 ≤ i ∧ SqL K H p xs ∧ atI xs i = some v ∧ Q v H
theorem pget_list : PGet X (rGetN X.K) := by
  intro pins s σ H o i ov iv Q I ro ri h
  obtain ⟨p, xs, j, z, rfl, rfl, h0, hq, he, q⟩ := h
  obtain rfl : ov = Value.ref p := ro
  obtain ⟨t, rfl⟩ := ri
  obtain ⟨its, r, pl, hz⟩ := I.list hq
  obtain ⟨m, h1, h2, h3, h4, h5⟩ := atI_get he
  obtain ⟨u, eu, ru⟩ := r.get h2
  have hn := line63
  have hj : j.toNat = m := Option.some.inj ((seqIndex_of h0 h5).symm.trans h1)
  exact wpAny_getItem_list pl.isList h0 (by omega) (by rw [hj]; simpa using eu) ⟨z, H, I, ru, q⟩
/-- two lists, ==, of unlike lengths: their items aren't looked at -/
def rEqU : R2 := fun x y H Q => ∃ a b xs ys, x = .ref a ∧ y = .ref b ∧ H a = some (.lst xs) ∧ H b = some (.lst ys) ∧ xs.length ≠ ys.length ∧ Q (.bl false) H
theorem op_eqU (hu : X.A.units + 1 < cLine) : OpR X (compareOp .Eq) rEqU := by
  intro pins s σ H x y v u Q I rx ry h
  obtain ⟨a, b, xs, ys, rfl, rfl, ha, hb, hl, q⟩ := h
  obtain rfl : v = Value.ref a := rx
  obtain rfl : u = Value.ref b := ry
  obtain ⟨us, n1, r1, o1, _⟩ := I.lst ha
  obtain ⟨ws, n2, r2, o2, _⟩ := I.lst hb
  have hne : (us.toArray.size != ws.toArray.size) = true := by
    have e1 := r1.length
    have e2 := r2.length
    simp only [List.size_toArray, bne_iff_ne, ne_eq]
    omega
  refine wpAny_richCompare_same_room (op := .Eq) ⟨_, o1, rfl⟩ ⟨_, o2, rfl⟩ F.slot_list_eq (call_meets F.slot_list_eq ⟨_, o1, rfl⟩ F.entry_list_eq (F.args_list_eq_2 _ _) (AutoSeq1.list___eq___list_list_0 a us.toArray n1 b ws.toArray n2 hne) ⟨o1, o2, ?_⟩) (by omega)
  exact ⟨(fun z => nomatch z), ⟨.bl false, H, I.tok _, rfl, q⟩⟩
/-- xs.count(True), xs a list of truths -/
def eqb (k : Bool) (v : Value) : Bool := match v with
  | .bool b => b == k
  | _ => false
def rCntB (K : PySem.W.Frag) : V → List V → Hp → VK → Prop := fun x vs H Q => ∃ (p : Addr) (bs : List Bool) (k : Bool), x = .ref p ∧ vs = [.bl k] ∧ SqL K H p (bs.map V.bl) ∧ Q (.int (bs.count k)) H
theorem eqb_count {k : Bool} : ∀ {bs : List Bool} {us : List Value}, Vals (bs.map V.bl) us → us.countP (eqb k) = bs.count k
  | [], _, .nil => rfl
  | b :: bs, _, .cons r t => by
    have ih := eqb_count (k := k) t
    obtain rfl := (show _ = Value.bool b from r)
    rw [List.countP_cons, List.count_cons, ih] <;> rfl
theorem eqb_shape : ∀ {bs : List Bool} {us : List Value}, Vals (bs.map V.bl) us → ∀ y ∈ us, ∃ b, y = Value.bool b
  | [], _, .nil => fun _ m => nomatch m
  | b :: bs, _, .cons r t => fun y m => by
    rcases List.mem_cons.mp m with e | m
    · exact ⟨b, e.trans r⟩
    · exact eqb_shape t y m
theorem mt_countB : MtR X "list.count" (rCntB X.K) := by
  intro pins s σ H x xs v us Q I rx rxs h
  obtain ⟨p, bs, k, rfl, rfl, hs, q⟩ := h
  obtain rfl : v = Value.ref p := rx
  obtain ⟨u, rfl, ru⟩ := rxs.one
  obtain rfl : u = Value.bool k := ru
  obtain ⟨its, rv, ⟨⟨cls, dd, data, sl⟩, n, ho, hc, hdn, hd⟩, hlen⟩ := I.list hs
  simp only at hc hd
  subst hc hd
  refine call_meets PySem.F.slot_list_count ⟨_, ho, rfl⟩ PySem.F.entry_list_count (PySem.F.args_list_count_2 _ _) (SeqAt.list_countAt p its.toArray n dd sl (.bool k) (eqb k)) ⟨ho, fun y hy => ?_, ?_⟩
  · obtain ⟨b, rfl⟩ := eqb_shape rv y (by simpa using hy)
    exact SeqAt.EqAt.bool_bool b k
  · have ec : its.toArray.toList.countP (eqb k) = bs.count k := eqb_count rv
    refine ⟨.int (bs.count k : Nat), H, I.tok _, ⟨s.toks, ?_⟩, q⟩
    show Value.int ((its.toArray.toList.countP (eqb k) : Nat) : Int) s.toks = Value.int ((bs.count k : Nat) : Int) s.toks
    rw [ec]
end
/-! ### an exception that a name keeps behind its suite -/
/-- a caught exception of the class cls, without a dict of its own -/
def ExI (cls : Value) (a : Addr) : HO := .ext fun h => ∃ oe vs, h.get? a = some oe ∧ Zc cls none oe ∧ oe.data = .fields vs
theorem exI_ok {P : Program} {w : World} {H : Hp} {h : Heap} {a : Addr} {cls : Value} {oe : Obj} {vs : Array Value} (e : h.get? a = some oe) (z : Zc cls none oe) (d : oe.data = .fields vs) : ObjOk P w H h a (ExI cls a) :=
  ⟨⟨oe, vs, e, z, d⟩, ⟨oe, e⟩, fun _ _ ⟨o, v, q, r⟩ k => ⟨o, v, k o q, r⟩⟩
section
variable {X : Cx} {pins : List (Addr × Obj)} {σ : L2.St} {H : Hp} {s : Shared}
/-- an object of ours that stood untracked is tracked -/
theorem track {a : Addr} {o : HO} (I : Inv X pins σ H s) (n0 : ∀ b u, X.s_0.heap.get? b = some u → b ∉ X.ex → b ≠ a) (na : H a = none) (nl : a ≠ X.env.locals) (nc : ∀ x c, X.env.cells.lookup x = some c → c ≠ a)
    (np : ∀ p ∈ X.pn ++ pins, p.1 ≠ a) (new : ObjOk X.prog X.w (upd H a o) s.heap a o) : Inv X pins σ (upd H a o) s where
  ok := I.ok
  os := I.os
  bare := I.bare
  base := {
    keep := I.base.keep
    slot := I.base.slot
    free := fun b u e n hx => by
      rw [upd_ne (n0 b u e hx)]
      exact I.base.free b u e n hx
    there := I.base.there
    tups := fun b xs e => upd_new (I.base.tups b xs e) na
    frzs := fun b u xs e => upd_new (I.base.frzs b u xs e) na
    tbls := fun b ps e => by
      obtain ⟨m, q⟩ := I.base.tbls b ps e
      exact ⟨m, upd_new q na⟩ }
  loc := I.loc
  cell := I.cell
  free := (upd_ne (Ne.symm nl)).trans I.free
  freeC := fun x c e => (upd_ne (nc x c e)).trans (I.freeC x c e)
  pin := fun p hp => by
    obtain ⟨e, n, r⟩ := I.pin p hp
    exact ⟨e, (upd_ne (np p hp)).trans n, r⟩
  hok := I.hok.laidN (fun _ _ e => e) na new
  len := I.len
/-- what «except c as n: y = n» wishes of each exception of the body: it is one of c's, and behind the suite slot j keeps it -/
def wKeep (K : PySem.W.Frag) (c : Value) (i j : Nat) (D : Ends) : WX := fun cls d σ H =>
  PySem.W.exmOne K cls c = some true ∧ d = none ∧ ∀ a, H a = none → D.nx (((σ.set i (some (.ref a))).set j (some (.ref a))).set i none) (upd H a (ExI cls a))
variable {x n y : Str} {c : Value} {i j : Nat} {body : List Stmt} {np ny nn pos pos' pos'' : Pos} {tb : WX → TS}
theorem ps_try_keep (hs : X.stack = X.env :: X.outer) (hf : X.env.frame = some X.env.locals) (hN : X.N.Nodup) (hi : X.N[i]? = some n) (hj : X.N[j]? = some y) (hln : X.env.kindOf n = some .local) (hly : X.env.kindOf y = some .local) (hc : Names X x c)
    (hdb : (n == ("__debug__" : Str)) = false) (hcd : (n == ("__classdict__" : Str)) = false)
    (hset : ∀ (a : Addr) (pn : List (Addr × Obj)), PS (X.suite a pn) (.Assign [.Name y ny] (.Name n nn) pos'') (tAsg (tVar i) (gName j)))
    (hb : ∀ (W : WX) (pn : List (Addr × Obj)) (xe : Value → Shared → Prop), Takes (X.tr pn xe) W → PassesOwn (model X.prog X.w) X.A X.env xe → PSs (X.tr pn xe) body (tb W)) :
    PS X (.Try body [.ExceptHandler (some (.Name x np)) (some n) [.Assign [.Name y ny] (.Name n nn) pos''] pos'] [] [] pos) (fun D σ H => tb (wKeep X.K c i j D) D σ H) := by
  refine ⟨fun pins s σ H D I h => ?_⟩
  have ok := I.ok
  have hfr : X.A.frames = some (X.env :: X.outer) := ok.frames.trans (congrArg some hs)
  refine wpAny_Try_except (wpAny_mono ((hb (wKeep X.K c i j D) (X.pn ++ pins) _ (fun u s' xx => ?_) PassesOwn.looking).run [] s σ H D (I.toTry _) h) (fun f s1 hsp => ?_) (fun e s1 he => he))
  rotate_left
  · -- the body ran through
    cases f with
    | next => exact wpAny_execs_nil (let ⟨σ', H', J', q⟩ := hsp; ⟨σ', H', J'.ofTry ok, q⟩)
    | brk => exact let ⟨σ', H', J', q⟩ := hsp; ⟨σ', H', J'.ofTry ok, q⟩
    | cont => exact let ⟨σ', H', J', q⟩ := hsp; ⟨σ', H', J'.ofTry ok, q⟩
    | ret u => exact let ⟨v, σ', H', J', r, q⟩ := hsp; ⟨v, σ', H', J'.ofTry ok, r, q⟩
  -- the catch
  obtain ⟨a, B, sI, pinsI, σ1, H1, cls, d, rfl, JI, nb, up, sky, na, eos, ag, hm, hd, hyes⟩ := xx
  subst hd
  have J : Inv X pins σ1 H1 sI := JI.ofTry ok
  rw [show (X.tr (X.pn ++ pins) _).stack = X.env :: X.outer from hs] at sky
  show wpAny (model X.prog X.w) X.A (noteFrame (.ref a) X.env) _ _ _
  refine Sky.land Zc.steady hfr hf sky fun h2 fl2 up2 => ?_
  have J2 : Inv X pins σ1 H1 { s' with heap := h2 } := J.landed nb fl2.1 (up.trans up2) eos ag
  obtain ⟨oe2, vs2, he2, hz2, hd2⟩ := fl2.there
  -- a is no frame, and new
  have nfr : a ∉ frs (X.env :: X.outer) := fun hmem => by
    obtain ⟨_, o', e', hnf⟩ := fl2.2.2.1.mem hmem
    rw [he2] at e'
    cases e'
    exact hnf _ hd2
  have nL : a ≠ X.env.locals := fun z => nfr (List.mem_filterMap.mpr ⟨X.env, List.mem_cons_self, by rw [hf, z]⟩)
  have nF : a ∉ X.fs := fun hmem => by
    obtain ⟨e, he, q⟩ := List.mem_filterMap.mp hmem
    exact nfr (List.mem_filterMap.mpr ⟨e, List.mem_cons_of_mem _ he, q⟩)
  have nB : B.get? a = none := fl2.2.1
  have nI : ∀ b u, sI.heap.get? b = some u → b ≠ a := fun b u e z => by
    have q := nb b u e (by rw [show (X.tr (X.pn ++ pins) _).stack = X.env :: X.outer from hs, z]; exact nfr)
    rw [z, nB] at q
    cases q
  have n0 : ∀ b u, X.s_0.heap.get? b = some u → b ∉ X.ex → b ≠ a := fun b u e hx => by
    obtain ⟨u', q⟩ := J.base.there b u e hx
    exact nI b u' q
  have nc : ∀ z c', X.env.cells.lookup z = some c' → c' ≠ a := fun z c' e => by
    obtain ⟨v, o, q, _⟩ := J.cell z c' e
    exact nI c' o q
  have npn : ∀ p ∈ X.pn ++ pins, p.1 ≠ a := fun p hp => nI p.1 p.2 (J.pin p hp).1
  have S2 := J2.suite he2 hd2 na nL nF
  -- the clause is this one
  refine wpAny_handleBy_cons (codeAny_handlers_test ?_) (by intro q; cases q)
  have LT : PySem.W.Looks (model X.prog X.w) h2 (typeOf (.ref a)) cls := fun A Q E s k q => wpAny_typeOf_ref (k _ _ he2) (by rw [hz2.1]; exact q)
  have LM := PySem.W.exm_one (M := model X.prog X.w) (J2.kIn) LT hm
  have test : ∀ {Q E : Value → Shared → Prop}, Q c { s' with heap := h2 } → wpAny (model X.prog X.w) (X.A.mark (some (.ref a))) (eval (.Name x np) X.env) Q E { s' with heap := h2 } := fun {Q E} q => by
    rcases hc with ⟨hg, hdbg, hmg | ⟨hmg, hv, hnn⟩⟩
    · exact ld_glob (X := X.suite a ((a, oe2) :: (X.pn ++ pins))) S2 hg hmg q hdbg
    · exact ld_blt (X := X.suite a ((a, oe2) :: (X.pn ++ pins))) S2 hg hmg hv q hnn hdbg
  refine test (LM.here (codeAny_handlers_suite_as (HandSPX.lands_againZ fl2 fun h3 fl3 up3 => ?_)))
  have J3 : Inv X pins σ1 H1 { s' with heap := h3 } := J.landed nb fl3.1 ((up.trans up2).trans up3) eos ag
  obtain ⟨oe3, vs3, he3, hz3, hd3⟩ := fl3.there
  have S3 := J3.suite he3 hd3 na nL nF
  refine store_ok (X := X.suite a ((a, oe3) :: (X.pn ++ pins))) (v := .ref a) S3 hN hi (.inl hln) rfl (fun s4 S4 => ?_) (.inr hln)
  have li : i < σ1.length := by
    rw [J.len]
    exact (List.getElem?_eq_some_iff.mp hi).1
  refine wpAny_mono ((pss_one (hset a ((a, oe3) :: (X.pn ++ pins)))).run [] s4 _ H1 { nx := fun σ' H' => σ' = (σ1.set i (some (.ref a))).set j (some (.ref a)) ∧ H' = H1, rt := fun _ _ => False } S4 ⟨.ref a, by rw [List.getElem?_set_self li], rfl, rfl⟩) (fun f s5 hsp => ?_) (fun _ _ z => False.elim z)
  cases f with
  | next =>
    obtain ⟨σ5, H5, S5, e1, e2⟩ := hsp
    rw [e1, e2] at S5
    have p5 : ∀ p ∈ (a, oe3) :: pins, s5.heap.get? p.1 = some p.2 ∧ H1 p.1 = none ∧ p.1 ≠ X.env.locals ∧ p.1 ∉ X.fs ∧ ∀ v, p.2.data ≠ .cell v := fun p hp =>
      S5.pin p (List.mem_append_left _ ((List.mem_cons.mp hp).elim (fun z => z ▸ List.mem_cons_self) fun z => List.mem_cons_of_mem _ (List.mem_append_right _ z)))
    have J5 := (S5.unsuite ok).pins_of p5
    refine gone_ok J5 hN hi hln fun s6 J6 => ?_
    obtain ⟨e6, _⟩ := J6.pin (a, oe3) (List.mem_append_right _ List.mem_cons_self)
    have J7 : Inv X pins _ H1 s6 := J6.pins_of fun p hp => J6.pin p (List.mem_append_right _ (List.mem_cons_of_mem _ hp))
    exact ⟨_, _, track J7 n0 na nL nc npn (exI_ok e6 hz3 hd3), hyes a na⟩
  | brk => exact (let ⟨_, _, _, q⟩ := hsp; q).elim
  | cont => exact (let ⟨_, _, _, q⟩ := hsp; q).elim
  | ret u => exact (let ⟨_, _, _, _, _, q⟩ := hsp; q).elim
end
/-! ### isinstance of such an exception -/
section
variable {X : Cx} {pins : List (Addr × Obj)} {σ : L2.St} {H : Hp} {s : Shared}
theorem instAt_of (I : Inv X pins σ H s) {a D : Addr} (h : H a = some (ExI (.ref D) a)) : ∃ oe, PySem.W.InstAt s.heap a oe D none := by
  obtain ⟨⟨⟨oc, od, dt, sl⟩, vs, e, ⟨z1, z2⟩, d⟩, _, _⟩ := I.hok a _ h
  dsimp only at z1 z2 d
  subst z1 z2 d
  exact ⟨_, e, rfl, rfl, trivial⟩
def rIsX (K : PySem.W.Frag) : List V → Hp → VK → Prop := fun xs H Q => ∃ (a D : Addr) (c : V) (u : Value) (b : Bool), xs = [.ref a, c] ∧ H a = some (ExI (.ref D) a) ∧ ExcC K D ∧ ClsV c u ∧ PySem.W.kitOne K (.ref D) u = some b ∧ Q (.bl b) H
theorem call_isX : CallR X (.builtin "isinstance") (rIsX X.K) := by
  intro pins s σ H xs us Q I r h
  obtain ⟨a, D, c, u, b, rfl, ha, C, k, e, q⟩ := h
  obtain ⟨u1, u2, rfl, r1, r2⟩ := vals2 r
  obtain rfl : u1 = Value.ref a := r1
  have e2 := k.eq r2
  subst e2
  obtain ⟨oe, J⟩ := instAt_of I ha
  exact PySem.W.kia_one (PySem.W.handS_kitx_exc C.hg C.hk C.hs C.hd C.ha C.hn C.ht C.hm) I.kIn J e (fun z => nomatch z) fun tk => ⟨.bl b, H, I.tok tk, rfl, q⟩
def rIsXT (K : PySem.W.Frag) : List V → Hp → VK → Prop := fun xs H Q => ∃ (a D tp : Addr) (cs : List V) (us : List Value) (b : Bool), xs = [.ref a, .ref tp] ∧ H a = some (ExI (.ref D) a) ∧ ExcC K D ∧ H tp = some (.tup cs) ∧ Paired ClsV cs us ∧ PySem.W.kitAny K (.ref D) us = some b ∧ Q (.bl b) H
theorem call_isXT : CallR X (.builtin "isinstance") (rIsXT X.K) := by
  intro pins s σ H xs us Q I r h
  obtain ⟨a, D, tp, cs, ws, b, rfl, ha, C, hT, k, e, q⟩ := h
  obtain ⟨u1, u2, rfl, r1, r2⟩ := vals2 r
  obtain rfl : u1 = Value.ref a := r1
  obtain rfl : u2 = Value.ref tp := r2
  obtain ⟨oe, J⟩ := instAt_of I ha
  obtain ⟨_, its, rv, o, h1, h2, n, h3⟩ := (show ObjOk X.prog X.w H s.heap tp (.tup cs) from I.hok tp _ hT)
  have e3 := ClsV.all k rv
  subst e3
  obtain ⟨oc, od, dt, sl⟩ := o
  simp only at h2 h3
  subst h2 h3
  exact PySem.W.kia_tup (PySem.W.handS_kitx_exc C.hg C.hk C.hs C.hd C.ha C.hn C.ht C.hm) I.kIn J h1 e (fun z => nomatch z) fun tk => ⟨.bl b, H, I.tok tk, rfl, q⟩
end
/-! ### what the top has left, for all the defs below -/
/-- an exception class of ours that is raised -/
structure Exc1 (K : PySem.W.Frag) (mg : Str → Option Value) (x : Str) : Prop where
  g : mg x = some (.ref (He.ga K x))
  q : PySem.W.excIn K (He.ga K x) He.veBase "ValueError.__new__" = true
  k : PySem.W.keepIn K (.ref (He.ga K x)) = true
  b : PySem.W.subIn K (.ref (He.ga K x)) (.type "BaseException") = some true
  t : PySem.W.typeIn K (.ref (He.ga K x)) = some (.type "type")
  C : ExcC K (He.ga K x)
  m : PySem.W.exmOne K (.ref (He.ga K x)) (.ref (He.ga K "MeetError")) = some true
  v : PySem.W.kitOne K (.ref (He.ga K x)) (.type "ValueError") = some true
  r : ∀ y ∈ raised, PySem.W.kitOne K (.ref (He.ga K x)) (.ref (He.ga K y)) = some (decide (x = y))
  o : ∀ y ∈ others, PySem.W.kitOne K (.ref (He.ga K x)) (.ref (He.ga K y)) = some false
structure Txt (K : PySem.W.Frag) (mg : Str → Option Value) : Prop where
  fr : ∀ x ∈ frees, mg x = none
  fn : ∀ p ∈ defsF, AtF K mg p.1 p.2
  me : ∀ p ∈ defsM, AtM K p.1 p.2.1 p.2.2
  na : ∀ f ∈ fields, NoAttr K (CT K) f
  cl : Cls K (CT K)
  tr : mg "Trip" = some (.ref (CT K))
  mak : Mk K (CT K) (He.ma K (CT K) "__init__")
  ex : ∀ x ∈ raised, Exc1 K mg x
  gl : ∀ x ∈ others, mg x = some (.ref (He.ga K x))
  mt : mg "MeetError" = some (.ref (He.ga K "MeetError"))
theorem bAnd {a b : Bool} (h : (a && b) = true) : a = true ∧ b = true := He.ba h
theorem txt_of {K : PySem.W.Frag} {h : Heap} {mg : Str → Option Value} (X : K.In h) (G : h.Ns mainGlobals mg) (c : Says K) : Txt K mg := by
  obtain ⟨c, cb⟩ := c
  have c1 := (bAnd (show ((fas.all fun f => f.ok K) && fns.all fun d => (He.Fa.code d.at_ d.qual).ok K) = true from congrArg (fun z : He.Al => z.1) c)).1
  have F : ∀ f ∈ fas, f.ok K = true := List.all_eq_true.mp c1
  obtain ⟨b1, b2⟩ := bAnd cb
  have keeps : ∀ d ∈ fns, PySem.W.keepIn K (.ref (He.fAd K d.at_)) = true := List.all_eq_true.mp b2
  have i1 : ∀ p ∈ defsF, He.Fa.glo p.1 ∈ fas := fun p m => List.mem_append_left _ (List.mem_map.mpr ⟨p, m, rfl⟩)
  have i2 : ∀ x ∈ frees, He.Fa.free x ∈ fas := fun p m => List.mem_append_right _ (List.mem_append_left _ (List.mem_map.mpr ⟨p, m, rfl⟩))
  have i3 : ∀ x ∈ fields, He.Fa.noat "Trip" x ∈ fas := fun p m => List.mem_append_right _ (List.mem_append_right _ (List.mem_append_left _ (List.mem_map.mpr ⟨p, m, rfl⟩)))
  have i4 : ∀ p ∈ defsM, He.Fa.meth "Trip" p.1 ∈ fas := fun p m => List.mem_append_right _ (List.mem_append_right _ (List.mem_append_right _ (List.mem_append_left _ (List.mem_map.mpr ⟨p, m, rfl⟩))))
  have i5 : ∀ x ∈ raised, He.Fa.exc x ∈ fas := fun p m => List.mem_append_right _ (List.mem_append_right _ (List.mem_append_right _ (List.mem_append_right _ (List.mem_append_left _ (List.mem_map.mpr ⟨p, m, rfl⟩)))))
  have i6 : ∀ x ∈ (("MeetError" : Str) :: (raised ++ others)), He.Fa.glo x ∈ fas := fun p m => List.mem_append_right _ (List.mem_append_right _ (List.mem_append_right _ (List.mem_append_right _ (List.mem_append_right _ (List.mem_append_left _ (List.mem_map.mpr ⟨p, m, rfl⟩))))))
  have i7 : ∀ f ∈ [He.Fa.glo "Trip", He.Fa.cls "Trip", He.Fa.mkr "Trip"], f ∈ fas := fun p m => List.mem_append_right _ (List.mem_append_right _ (List.mem_append_right _ (List.mem_append_right _ (List.mem_append_right _ (List.mem_append_right _ m)))))
  have fdef : ∀ d ∈ fns, ∃ fd, Fun K d.name d.qual (.FunctionDef d.name d.params d.body [] none [] d.scope none d.name ⟨0, 0, 0, 0⟩) (He.fAd K d.at_) fd := fun d m => by
    obtain ⟨i, hi⟩ := List.mem_iff_getElem?.mp m
    obtain ⟨oc, od, osl, kV, doc, pm, an, cdv, ct, lk, hcd⟩ := He.SaysE.def_ c i (d := d) hi
    exact ⟨_, ⟨⟨oc, od, kV, doc, pm, an, cdv, ct, osl, rfl, lk, hcd⟩, keeps d m⟩⟩
  refine ⟨fun x m => He.free_ok X G (F _ (i2 x m)), fun p m => ⟨He.glo_ok X G (F _ (i1 p m)), ?_⟩, fun p m => ⟨He.meth_ok (F _ (i4 p m)), ?_⟩, fun x m => He.noat_ok (F _ (i3 x m)), He.cls_ok (F _ (i7 _ (List.mem_cons_of_mem _ List.mem_cons_self))), He.glo_ok X G (F _ (i7 _ List.mem_cons_self)),
    He.mkr_ok (F _ (i7 _ (List.mem_cons_of_mem _ (List.mem_cons_of_mem _ List.mem_cons_self)))), fun x m => ?_, fun x m => He.glo_ok X G (F _ (i6 x (List.mem_cons_of_mem _ (List.mem_append_right _ m)))), He.glo_ok X G (F _ (i6 _ List.mem_cons_self))⟩
  · obtain ⟨fd, Fd⟩ := fdef ⟨(p.1, none), p.1, p.1, defArgs p.2, defBody p.2, defScope p.2⟩ (List.mem_append_left _ (List.mem_map.mpr ⟨p, m, rfl⟩))
    exact ⟨fd, ⟨Fd.ex, Fd.kp⟩⟩
  · obtain ⟨fd, Fd⟩ := fdef ⟨("Trip", some p.1), p.1, p.2.1, defArgs p.2.2, defBody p.2.2, defScope p.2.2⟩ (List.mem_append_right _ (List.mem_map.mpr ⟨p, m, rfl⟩))
    exact ⟨fd, ⟨Fd.ex, Fd.kp⟩⟩
  · obtain ⟨e1, e2, e3, e4⟩ := He.exc_ok (F _ (i5 x m))
    have eb := List.all_eq_true.mp b1 x m
    unfold excB at eb
    simp only [Bool.and_eq_true, decide_eq_true_eq, List.all_eq_true] at eb
    obtain ⟨q1, q2, q3, q4, q5, q6, q7, q8, q9, q10, q11, q12⟩ := eb
    exact ⟨He.glo_ok X G (F _ (i6 x (List.mem_cons_of_mem _ (List.mem_append_left _ m)))), e1, e2, e3, e4, ⟨q1, q2, q3, q4, q5, q6, q7, q8⟩, q9, q10, q11, q12⟩
end K46
set_option Elab.async false
set_option linter.all false
set_option maxRecDepth 100000
set_option maxHeartbeats 4000000
namespace K46
open PySem L2
/-! ### from the body of a def to what its callers use -/
section
variable {P : Program} {w : World} {K : PySem.W.Frag} {mg : Str → Option Value} {base : Heap} {CX : CXT} {k : Nat} {ps : List Str} {sp : Sp}
theorem mkF {x : Str} {st : Stmt} (T : Txt K mg) (hm : (x, st) ∈ defsF)
    (hb : ∀ (kV doc pm : Value) (an : Option Addr) (cdv ct : Value) (us : List Value), us.length = ps.length → bindArgs (PySem.W.fnOf x x (defArgs st) (defBody st) (defScope st) .none kV doc pm an cdv ct) ⟨us, []⟩ = pure (ps.zip us))
    (G : ∀ fd, Fun K x x st (He.ga K x) fd → FnOk P w K mg base CX k (He.ga K x) fd ps sp) : OkF P w K mg base CX k x ps sp := by
  obtain ⟨h1, fd, F⟩ := T.fn _ hm
  exact ⟨fd, h1, F.kp, F.binds hb, G fd F⟩
theorem mkM {x q : Str} {st : Stmt} (T : Txt K mg) (hm : (x, q, st) ∈ defsM)
    (hb : ∀ (kV doc pm : Value) (an : Option Addr) (cdv ct : Value) (us : List Value), us.length = ps.length → bindArgs (PySem.W.fnOf x q (defArgs st) (defBody st) (defScope st) .none kV doc pm an cdv ct) ⟨us, []⟩ = pure (ps.zip us))
    (G : ∀ fd, Fun K x q st (He.ma K (CT K) x) fd → FnOk P w K mg base CX k (He.ma K (CT K) x) fd ps sp) : OkM P w K mg base CX k x ps sp := by
  obtain ⟨h1, fd, F⟩ := T.me _ hm
  exact ⟨fd, T.cl, h1, F.binds hb, G fd F⟩
theorem OkF.mono {j : Nat} {x : Str} (G : OkF P w K mg base CX j x ps sp) (h : j ≤ k) : OkF P w K mg base CX k x ps sp := by
  obtain ⟨fd, h1, h2, h3, h4⟩ := G
  exact ⟨fd, h1, h2, h3, h4.mono h⟩
theorem OkM.mono {j : Nat} {x : Str} (G : OkM P w K mg base CX j x ps sp) (h : j ≤ k) : OkM P w K mg base CX k x ps sp := by
  obtain ⟨fd, h1, h2, h3, h4⟩ := G
  exact ⟨fd, h1, h2, h3, h4.mono h⟩
end
section
variable {K : PySem.W.Frag} {mg : Str → Option Value}
theorem Txt.tLen (T : Txt K mg) : mg "len" = none := T.fr _ (List.mem_of_getElem? (i := 0) rfl)
theorem Txt.tIs (T : Txt K mg) : mg "isinstance" = none := T.fr _ (List.mem_of_getElem? (i := 1) rfl)
theorem Txt.tInt (T : Txt K mg) : mg "int" = none := T.fr _ (List.mem_of_getElem? (i := 2) rfl)
theorem Txt.tBool (T : Txt K mg) : mg "bool" = none := T.fr _ (List.mem_of_getElem? (i := 3) rfl)
theorem Txt.tStr (T : Txt K mg) : mg "str" = none := T.fr _ (List.mem_of_getElem? (i := 4) rfl)
theorem Txt.tTup (T : Txt K mg) : mg "tuple" = none := T.fr _ (List.mem_of_getElem? (i := 5) rfl)
theorem Txt.tAll (T : Txt K mg) : mg "all" = none := T.fr _ (List.mem_of_getElem? (i := 6) rfl)
theorem Txt.tList (T : Txt K mg) : mg "list" = none := T.fr _ (List.mem_of_getElem? (i := 7) rfl)
theorem Txt.tEnum (T : Txt K mg) : mg "enumerate" = none := T.fr _ (List.mem_of_getElem? (i := 8) rfl)
theorem Txt.tRange (T : Txt K mg) : mg "range" = none := T.fr _ (List.mem_of_getElem? (i := 9) rfl)
theorem Txt.tSorted (T : Txt K mg) : mg "sorted" = none := T.fr _ (List.mem_of_getElem? (i := 10) rfl)
theorem Txt.tMax (T : Txt K mg) : mg "max" = none := T.fr _ (List.mem_of_getElem? (i := 11) rfl)
theorem Txt.tMin (T : Txt K mg) : mg "min" = none := T.fr _ (List.mem_of_getElem? (i := 12) rfl)
theorem Txt.tVE (T : Txt K mg) : mg "ValueError" = none := T.fr _ (List.mem_of_getElem? (i := 13) rfl)
theorem Txt.nBook (T : Txt K mg) : NoAttr K (CT K) "book" := T.na _ (List.mem_of_getElem? (i := 0) rfl)
theorem Txt.nLetters (T : Txt K mg) : NoAttr K (CT K) "letters" := T.na _ (List.mem_of_getElem? (i := 1) rfl)
theorem Txt.nHolders (T : Txt K mg) : NoAttr K (CT K) "holders" := T.na _ (List.mem_of_getElem? (i := 2) rfl)
theorem Txt.nArrived (T : Txt K mg) : NoAttr K (CT K) "arrived" := T.na _ (List.mem_of_getElem? (i := 3) rfl)
theorem Txt.nPassed (T : Txt K mg) : NoAttr K (CT K) "passed" := T.na _ (List.mem_of_getElem? (i := 4) rfl)
theorem Txt.nLatest (T : Txt K mg) : NoAttr K (CT K) "latest" := T.na _ (List.mem_of_getElem? (i := 5) rfl)
theorem Txt.nDeeds (T : Txt K mg) : NoAttr K (CT K) "deeds" := T.na _ (List.mem_of_getElem? (i := 6) rfl)
end
/-! ### is_whole, is_within, is_number_of, is_walker, _law_whole -/
def spWhole : Sp := fun vs H Q _ => ∃ i : Int, vs = [.int i] ∧ Q (.bl true) H
def spWithin : Sp := fun vs H Q _ => ∃ i lo hi : Int, vs = [.int i, .int lo, .int hi] ∧ Q (.bl (decide (lo ≤ i ∧ i ≤ hi))) H
section
variable {P : Program} {w : World} {K : PySem.W.Frag} {mg : Str → Option Value} {base : Heap}
theorem scWhole : FnScope ["thing"] ["thing"] (defScope sIsWhole) := ⟨rfl, rfl, rfl, by decide +kernel, rfl, by decide +kernel, by decide +kernel⟩
theorem ok_whole (T : Txt K mg) : OkF P w K mg base CX0 1 "is_whole" ["thing"] spWhole := by
  refine mkF (st := sIsWhole) T (List.mem_of_getElem? (i := 0) rfl) (fun _ _ _ _ _ _ us hl => match us, hl with | [_], _ => rfl) fun fd F => ?_
  refine F.ok scWhole (fun vs H Q E h => ?_) (fun cdv A outer s H vs Q E hr h => ?_)
  · obtain ⟨i, rfl, _⟩ := h
    rfl
  · obtain ⟨i, rfl, k⟩ := h
    refine ⟨_, pss_one (ps_ret (pe_and (pe_callB call_isi (by rfl) T.tIs (by decide +kernel) (pa_cons (pv 0) (pa_cons (pe_bltn (v := .ty "int") (by rfl) T.tInt (by decide +kernel) rfl) pa_nil)))
      (pe_one (pe_not (pe_callB call_isi (by rfl) T.tIs (by decide +kernel) (pa_cons (pv 0) (pa_cons (pe_bltn (v := .ty "bool") (by rfl) T.tBool (by decide +kernel) rfl) pa_nil))))))), ?_⟩
    refine ⟨_, rfl, _, _, _, _, true, rfl, .ty _, .base (.int i), kit_ty (by decide +kernel), true, rfl, iteT ?_⟩
    refine ⟨_, rfl, _, _, _, _, false, rfl, .ty _, .base (.int i), kit_ty (by decide +kernel), false, rfl, k⟩
end
end K46
set_option Elab.async false
set_option linter.all false
set_option maxRecDepth 100000
set_option maxHeartbeats 4000000
namespace K46
open PySem L2
/-! ### the data -/
/-- a meeting: its two, when, how many may pass -/
structure Mt where
  a : Int
  b : Int
  w : Int
  m : Int
/-- a letter: from whom, since when, to whom, the last time -/
structure Lt where
  fr : Int
  sc : Int
  wi : Int
  la : Int
structure Bk where
  rooms : List Int
  ms : List Mt
abbrev D1 := List (Key × V)
/-- who has which letter since when; what has come; the meetings of the deeds that pass; the greatest of them; the deeds -/
structure Sy where
  hs : List D1
  ar : List V
  ps : List Int
  la : Int
  ds : List Addr
inductive Dd where
  | drop (n w : Int)
  | pass (g : Bool) (m n w : Int)
abbrev vk (w : Int) : Key := Sum.inl w
def has (d : D1) (w : Int) : Bool := (valV d (vk w)).isSome
/-- since when -/
def snc (d : D1) (w : Int) : Option Int := match valV d (vk w) with
  | some (.int t) => some t
  | _ => none
def free (l : Lt) (w : Int) : Bool := decide (w = l.fr) || decide (w = l.wi)
/-- letter i takes room with w -/
def takes (ls : List Lt) (hs : List D1) (w : Int) (i : Nat) : Bool := match ls[i]?, hs[i]? with
  | some l, some d => has d w && !free l w
  | _, _ => false
def bagN (ls : List Lt) (hs : List D1) (w : Int) : List Nat := (List.range ls.length).filter (takes ls hs w)
def bagV (ls : List Lt) (hs : List D1) (w : Int) : List V := (bagN ls hs w).map fun i => V.int (i : Nat)
def mtAt (B : Bk) (m : Int) : Mt := (B.ms[m.toNat]?).getD ⟨0, 0, 0, 0⟩
def ltAt (ls : List Lt) (n : Int) : Lt := (ls[n.toNat]?).getD ⟨0, 0, 0, 0⟩
def dAt (hs : List D1) (n : Int) : D1 := (hs[n.toNat]?).getD []
def inR (n : Int) (k : Nat) : Bool := decide (0 ≤ n ∧ n < (k : Int))
/-- behind the meeting's number and the letter's -/
def dueP (B : Bk) (ls : List Lt) (S : Sy) (mt : Mt) (l : Lt) (h : D1) (m w : Int) : Int :=
  if w ≠ mt.a ∧ w ≠ mt.b then 3 else match snc h w with
  | none => 4
  | some t => if mt.w ≤ t then 4 else if has h (mt.a + mt.b - w) = true then 5 else if mt.m ≤ (S.ps.count m : Int) then 6
    else if free l (mt.a + mt.b - w) = false ∧ (B.rooms[(mt.a + mt.b - w).toNat]?).getD 0 ≤ ((bagN ls S.hs (mt.a + mt.b - w)).length : Int) then 7 else 8
/-- the first due refusal, 8 for done -/
def due (B : Bk) (ls : List Lt) (S : Sy) : Dd → Int
  | .drop n w => if inR n ls.length = false then 2 else if inR w B.rooms.length = false then 3 else if has (dAt S.hs n) w = true then 8 else 4
  | .pass _ m n w => if inR m B.ms.length = false ∨ m < S.la then 1 else if inR n ls.length = false then 2 else dueP B ls S (mtAt B m) (ltAt ls n) (dAt S.hs n) m w
/-- what has come behind w has letter n since t -/
def arNew (l : Lt) (ar : List V) (n : Nat) (w t : Int) : List V := if w = l.wi ∧ ar[n]? = some .non ∧ t ≤ l.la then ar.set n (.int t) else ar
/-- a deed is done -/
def step (B : Bk) (ls : List Lt) (S : Sy) (d : Addr) : Dd → Sy
  | .drop n w => { S with hs := S.hs.set n.toNat (dropK (dAt S.hs n) (vk w)), ds := S.ds ++ [d] }
  | .pass g m n w =>
    let mt := mtAt B m
    let tk := mt.a + mt.b - w
    let h := putK (dAt S.hs n) (vk tk) (.int mt.w)
    { hs := S.hs.set n.toNat (if g = true then dropK h (vk w) else h), ar := arNew (ltAt ls n) S.ar n.toNat tk mt.w, ps := S.ps ++ [m], la := m, ds := S.ds ++ [d] }
def start0 (ls : List Lt) : Sy :=
  ⟨ls.map fun l => [(vk l.fr, V.int l.sc)], ls.map fun l => if l.fr = l.wi ∧ l.sc ≤ l.la then V.int l.sc else .non, [], 0, []⟩
/-! ### what holds of them -/
structure BkOk (B : Bk) : Prop where
  r1 : 1 ≤ B.rooms.length
  r2 : B.rooms.length ≤ 12
  r3 : ∀ r ∈ B.rooms, 0 ≤ r
  m1 : B.ms.length ≤ 60
  m2 : ∀ mt ∈ B.ms, 0 ≤ mt.a ∧ mt.a < (B.rooms.length : Int) ∧ 0 ≤ mt.b ∧ mt.b < (B.rooms.length : Int) ∧ 0 ≤ mt.m
def IntD (d : D1) : Prop := ∀ p ∈ d, ∃ k t, p = (vk k, V.int t)
def IntV (v : V) : Prop := v = .non ∨ ∃ t, v = .int t
structure Good (B : Bk) (ls : List Lt) (S : Sy) : Prop where
  b : BkOk B
  l40 : ls.length ≤ 40
  lh : S.hs.length = ls.length
  lr : S.ar.length = ls.length
  ih : ∀ d ∈ S.hs, IntD d
  ir : ∀ v ∈ S.ar, IntV v
  l0 : 0 ≤ S.la
  l1 : S.la = 0 ∨ S.la ∈ S.ps
  l2 : ∀ y ∈ S.ps, y ≤ S.la
  l3 : ∀ y ∈ S.ps, 0 ≤ y ∧ y < (B.ms.length : Int)
  cn : ∀ (m : Nat) mt, B.ms[m]? = some mt → (S.ps.count (m : Int) : Int) ≤ mt.m
  bg : ∀ (w : Nat) r, B.rooms[w]? = some r → ((bagN ls S.hs (w : Int)).length : Int) ≤ r
  sz : ∀ d ∈ S.hs, d.length ≤ 1 + S.ds.length
/-! ### lemmas -/
theorem inR_nat {n : Int} {k : Nat} (h : inR n k = true) : ∃ i : Nat, n = i ∧ i < k := by
  have q : 0 ≤ n ∧ n < (k : Int) := of_decide_eq_true h
  exact ⟨n.toNat, by omega, by omega⟩
theorem intD_val {d : D1} (h : IntD d) {w : Int} {v : V} (e : valV d (vk w) = some v) : ∃ t, v = .int t := by
  unfold valV at e
  cases q : d.find? fun kv => decide (kv.1 = vk w) with
  | none =>
    rw [q] at e
    cases e
  | some p =>
    rw [q] at e
    obtain ⟨k, t, z⟩ := h p (List.mem_of_find?_eq_some q)
    rw [z] at e
    exact ⟨t, (Option.some.inj e).symm⟩
theorem has_snc {d : D1} (h : IntD d) (w : Int) : (has d w = true ∧ ∃ t, snc d w = some t ∧ valV d (vk w) = some (.int t)) ∨ (has d w = false ∧ snc d w = none ∧ valV d (vk w) = none) := by
  cases e : valV d (vk w) with
  | none => exact .inr ⟨by unfold has; rw [e] <;> rfl, by unfold snc; rw [e] , rfl⟩
  | some v =>
    obtain ⟨t, rfl⟩ := intD_val h e
    exact .inl ⟨by unfold has; rw [e] <;> rfl, t, by unfold snc; rw [e], rfl⟩
theorem snc_has {d : D1} {w t : Int} (h : snc d w = some t) : has d w = true ∧ valV d (vk w) = some (.int t) := by
  unfold snc at h
  unfold has
  cases e : valV d (vk w) with
  | none =>
    rw [e] at h
    cases h
  | some v =>
    rw [e] at h
    cases v <;> first | cases h | skip
    exact ⟨rfl, rfl⟩
theorem intD_put {d : D1} (h : IntD d) (w t : Int) : IntD (putK d (vk w) (.int t)) := fun p hp => by
  unfold putK at hp
  split at hp
  · obtain ⟨q, hq, rfl⟩ := List.mem_map.mp hp
    obtain ⟨k, u, rfl⟩ := h q hq
    by_cases e : (vk k : Key) = vk w
    · exact ⟨k, t, if_pos e⟩
    · exact ⟨k, u, if_neg e⟩
  · rcases List.mem_append.mp hp with hp | hp
    · exact h p hp
    · exact ⟨w, t, List.mem_singleton.mp hp⟩
theorem intD_drop {d : D1} (h : IntD d) (w : Int) : IntD (dropK d (vk w)) := fun p hp => h p (dropK_mem hp)
theorem put_len {d : D1} {w t : Int} : (putK d (vk w) (V.int t)).length ≤ d.length + 1 := by
  unfold putK
  split
  · rw [List.length_map]
    omega
  · rw [List.length_append]
    exact Nat.le_refl _
theorem valV_drop {d : D1} (w x : Int) : valV (dropK d (vk w)) (vk x) = if x = w then none else valV d (vk x) := by
  induction d with
  | nil => simp [dropK, valV]
  | cons p r ih =>
    by_cases e : p.1 = vk w
    · rw [dropK_pos e, ih]
      by_cases q : x = w
      · rw [if_pos q, if_pos q]
      · rw [if_neg q, if_neg q, valV_neg fun z => q (Sum.inl.inj (z.symm.trans e))]
    · rw [dropK_neg e]
      by_cases z : p.1 = vk x
      · rw [valV_pos z, valV_pos z, if_neg fun q => e (by rw [z, q])]
      · rw [valV_neg z, valV_neg z, ih]
theorem has_drop {d : D1} (w x : Int) : has (dropK d (vk w)) x = (decide (x ≠ w) && has d x) := by
  unfold has
  rw [valV_drop]
  by_cases q : x = w
  · rw [if_pos q]
    simp [q]
  · rw [if_neg q]
    simp [q]
theorem has_put {d : D1} (w x : Int) (v : V) : has (putK d (vk w) v) x = (decide (x = w) || has d x) := by
  unfold has
  rw [valV_put]
  by_cases q : x = w
  · rw [if_pos (by rw [q])]
    simp [q]
  · rw [if_neg fun z => q (Sum.inl.inj z)]
    simp [q]
theorem set_mem {α : Type} {l : List α} {n : Nat} {x y : α} (h : y ∈ l.set n x) : y ∈ l ∨ y = x := List.mem_or_eq_of_mem_set h
/-! ### filters of a range: more, fewer -/
theorem filter_le {p q : Nat → Bool} : ∀ {l : List Nat}, (∀ i ∈ l, p i = true → q i = true) → (l.filter p).length ≤ (l.filter q).length
  | [], _ => Nat.le_refl _
  | a :: r, h => by
    have ih := filter_le (l := r) (p := p) (q := q) fun i m => h i (List.mem_cons_of_mem _ m)
    rw [List.filter_cons, List.filter_cons]
    by_cases e : p a = true
    · rw [if_pos e, if_pos (h a List.mem_cons_self e)]
      exact Nat.succ_le_succ ih
    · rw [if_neg e]
      split
      · exact Nat.le_succ_of_le ih
      · exact ih
theorem filter_one {p q : Nat → Bool} {n : Nat} : ∀ {l : List Nat}, l.Nodup → (∀ i ∈ l, p i = true → q i = true ∨ i = n) → (l.filter p).length ≤ (l.filter q).length + 1
  | [], _, _ => Nat.zero_le _
  | a :: r, nd, h => by
    obtain ⟨n1, n2⟩ := List.nodup_cons.mp nd
    have hr : ∀ i ∈ r, p i = true → q i = true ∨ i = n := fun i m => h i (List.mem_cons_of_mem _ m)
    rw [List.filter_cons, List.filter_cons]
    by_cases e : p a = true
    · rw [if_pos e]
      by_cases e2 : q a = true
      · rw [if_pos e2]
        exact Nat.succ_le_succ (filter_one n2 hr)
      · rw [if_neg e2]
        have ea : a = n := (h a List.mem_cons_self e).resolve_left e2
        have k : (r.filter p).length ≤ (r.filter q).length := filter_le fun i m pi => (hr i m pi).resolve_right fun z => n1 (by rw [ea, ← z]; exact m)
        exact Nat.succ_le_succ k
    · rw [if_neg e]
      split
      · exact Nat.le_succ_of_le (filter_one n2 hr)
      · exact filter_one n2 hr
end K46
set_option Elab.async false
set_option linter.all false
set_option maxRecDepth 100000
set_option maxHeartbeats 4000000
namespace K46
open PySem L2
section
variable {B : Bk} {ls : List Lt} {S : Sy}
theorem mtAt_eq {i : Nat} {mt : Mt} (h : B.ms[i]? = some mt) : mtAt B (i : Int) = mt := by
  unfold mtAt
  rw [Int.toNat_natCast, h]
  rfl
theorem ltAt_eq {i : Nat} {l : Lt} (h : ls[i]? = some l) : ltAt ls (i : Int) = l := by
  unfold ltAt
  rw [Int.toNat_natCast, h]
  rfl
theorem dAt_eq {i : Nat} {hs : List D1} {d : D1} (h : hs[i]? = some d) : dAt hs (i : Int) = d := by
  unfold dAt
  rw [Int.toNat_natCast, h]
  rfl
theorem inR_of {i k : Nat} (h : i < k) : inR (i : Int) k = true := decide_eq_true ⟨by omega, by omega⟩
theorem lt_of_get {α : Type} {l : List α} {i : Nat} {x : α} (h : l[i]? = some x) : i < l.length := (List.getElem?_eq_some_iff.mp h).1
theorem get_of_lt {α : Type} {l : List α} {i : Nat} (h : i < l.length) : ∃ x, l[i]? = some x := ⟨_, List.getElem?_eq_getElem h⟩
theorem due_d {n w : Int} : due B ls S (.drop n w) = if inR n ls.length = false then 2 else if inR w B.rooms.length = false then 3 else if has (dAt S.hs n) w = true then 8 else 4 := rfl
theorem due_p {g : Bool} {m n w : Int} : due B ls S (.pass g m n w) = if inR m B.ms.length = false ∨ m < S.la then 1 else if inR n ls.length = false then 2 else dueP B ls S (mtAt B m) (ltAt ls n) (dAt S.hs n) m w := rfl
theorem due_drop {n : Nat} {w : Int} {d : D1} (hn : n < ls.length) (hd : S.hs[n]? = some d) : due B ls S (.drop n w) = if inR w B.rooms.length = false then 3 else if has d w = true then 8 else 4 := by
  rw [due_d, inR_of hn, if_neg (by decide), dAt_eq hd]
theorem due_pass {g : Bool} {m n : Nat} {w : Int} {mt : Mt} {l : Lt} {d : D1} (hm : B.ms[m]? = some mt) (hla : S.la ≤ m) (hl : ls[n]? = some l) (hd : S.hs[n]? = some d) : due B ls S (.pass g m n w) = dueP B ls S mt l d m w := by
  rw [due_p, inR_of (lt_of_get hm), inR_of (lt_of_get hl), if_neg (fun z => z.elim (fun e => Bool.noConfusion e) (fun e => by omega)), if_neg (by decide), dAt_eq hd, ltAt_eq hl, mtAt_eq hm]

/-- what a deed that passes needs to be done -/
theorem due8 {g : Bool} {m n w : Int} (G : Good B ls S) (h : due B ls S (.pass g m n w) = 8) : ∃ (mi ni : Nat) (mt : Mt) (l : Lt) (d : D1) (t : Int), m = mi ∧ n = ni ∧ B.ms[mi]? = some mt ∧ S.la ≤ m ∧ ls[ni]? = some l ∧ S.hs[ni]? = some d ∧
    (w = mt.a ∨ w = mt.b) ∧ snc d w = some t ∧ t < mt.w ∧ has d (mt.a + mt.b - w) = false ∧ (S.ps.count m : Int) < mt.m ∧ (free l (mt.a + mt.b - w) = true ∨ ((bagN ls S.hs (mt.a + mt.b - w)).length : Int) < (B.rooms[(mt.a + mt.b - w).toNat]?).getD 0) := by
  have h1 : ¬ (inR m B.ms.length = false ∨ m < S.la) := fun z => by
    rw [due_p, if_pos z] at h
    exact absurd h (by decide)
  have h2 : inR n ls.length = true := by
    rw [due_p, if_neg h1] at h
    cases e : inR n ls.length with
    | true => rfl
    | false =>
      rw [e, if_pos rfl] at h
      exact absurd h (by decide)
  have h3 : inR m B.ms.length = true := by
    cases e : inR m B.ms.length with
    | true => rfl
    | false => exact (h1 (.inl e)).elim
  obtain ⟨mi, rfl, hmi⟩ := inR_nat h3
  obtain ⟨ni, rfl, hni⟩ := inR_nat h2
  obtain ⟨mt, hm⟩ := get_of_lt hmi
  obtain ⟨l, hl⟩ := get_of_lt hni
  obtain ⟨d, hd⟩ := get_of_lt (l := S.hs) (i := ni) (by rw [G.lh]; exact hni)
  have hla : S.la ≤ mi := by
    have q := fun z => h1 (.inr z)
    omega
  rw [due_pass hm hla hl hd] at h
  unfold dueP at h
  split at h
  · exact absurd h (by decide)
  · rename_i c1
    split at h
    · exact absurd h (by decide)
    · rename_i t ht
      split at h
      · exact absurd h (by decide)
      · rename_i c2
        split at h
        · exact absurd h (by decide)
        · rename_i c3
          split at h
          · exact absurd h (by decide)
          · rename_i c4
            split at h
            · exact absurd h (by decide)
            · rename_i c5
              refine ⟨mi, ni, mt, l, d, t, rfl, rfl, hm, hla, hl, hd, ?_, ht, by omega, Bool.eq_false_iff.mpr c3, by omega, ?_⟩
              · by_cases q : w = mt.a
                · exact .inl q
                · exact .inr (Decidable.byContradiction fun z => c1 ⟨q, z⟩)
              · cases e : free l (mt.a + mt.b - w) with
                | true => exact .inl rfl
                | false =>
                  exact .inr (Int.not_le.mp fun z => c5 ⟨e, z⟩)
/-- a letter's bag behind a change of one letter's dict -/
theorem takes_set {hs : List D1} {n : Nat} {d' : D1} {w : Int} {i : Nat} (hi : i ≠ n) : takes ls (hs.set n d') w i = takes ls hs w i := by
  unfold takes
  rw [List.getElem?_set_ne (Ne.symm hi)]
theorem takes_at {hs : List D1} {n : Nat} {d : D1} {l : Lt} {w : Int} (hl : ls[n]? = some l) (hd : hs[n]? = some d) : takes ls hs w n = (has d w && !free l w) := by
  unfold takes
  rw [hl, hd]
theorem bag_less {hs : List D1} {n : Nat} {d d' : D1} {w : Int} (hd : hs[n]? = some d) (h : has d' w = true → has d w = true) : (bagN ls (hs.set n d') w).length ≤ (bagN ls hs w).length := by
  refine filter_le fun i m q => ?_
  by_cases e : i = n
  · subst e
    have hi : i < ls.length := List.mem_range.mp m
    obtain ⟨l, hl⟩ := get_of_lt hi
    rw [takes_at hl (List.getElem?_set_self (lt_of_get hd))] at q
    rw [takes_at hl hd]
    obtain ⟨q1, q2⟩ := bAnd q
    rw [h q1, q2]
    rfl
  · rw [← takes_set (d' := d') e]
    exact q
theorem bag_more {hs : List D1} {n : Nat} {d' : D1} {w : Int} : (bagN ls (hs.set n d') w).length ≤ (bagN ls hs w).length + 1 := by
  refine filter_one (n := n) List.nodup_range fun i m q => ?_
  by_cases e : i = n
  · exact .inr e
  · rw [takes_set e] at q
    exact .inl q
theorem bag_free {hs : List D1} {n : Nat} {d d' : D1} {l : Lt} {w : Int} (hl : ls[n]? = some l) (hd : hs[n]? = some d) (h : free l w = true) : (bagN ls (hs.set n d') w).length ≤ (bagN ls hs w).length := by
  refine filter_le fun i m q => ?_
  by_cases e : i = n
  · subst e
    rw [takes_at hl (List.getElem?_set_self (lt_of_get hd)), h] at q
    simp at q
  · rw [takes_set e] at q
    exact q
theorem arNew_len {l : Lt} {ar : List V} {n : Nat} {w t : Int} : (arNew l ar n w t).length = ar.length := by
  unfold arNew
  split
  · exact List.length_set
  · rfl
theorem arNew_int {l : Lt} {ar : List V} {n : Nat} {w t : Int} (h : ∀ v ∈ ar, IntV v) : ∀ v ∈ arNew l ar n w t, IntV v := fun v m => by
  unfold arNew at m
  split at m
  · rcases set_mem m with m | m
    · exact h v m
    · exact .inr ⟨t, m⟩
  · exact h v m
theorem count_snoc (l : List Int) (m x : Int) : (l ++ [m]).count x = l.count x + if m = x then 1 else 0 := by
  rw [List.count_append, List.count_singleton]
  by_cases e : m = x
  · rw [if_pos e, e]
    simp
  · rw [if_neg e]
    simp [e]
theorem good_start (b : BkOk B) (h40 : ls.length ≤ 40) : Good B ls (start0 ls) where
  b := b
  l40 := h40
  lh := List.length_map _
  lr := List.length_map _
  ih := fun d m => by
    obtain ⟨l, _, rfl⟩ := List.mem_map.mp m
    intro p hp
    exact ⟨l.fr, l.sc, List.mem_singleton.mp hp⟩
  ir := fun v m => by
    obtain ⟨l, _, rfl⟩ := List.mem_map.mp m
    by_cases c : l.fr = l.wi ∧ l.sc ≤ l.la
    · exact .inr ⟨l.sc, if_pos c⟩
    · exact .inl (if_neg c)
  l0 := Int.le_refl 0
  l1 := .inl rfl
  l2 := fun y m => nomatch m
  l3 := fun y m => nomatch m
  cn := fun m mt e => by
    have q := (b.m2 mt (List.mem_of_getElem? e)).2.2.2.2
    exact q
  bg := fun w r e => by
    have q : bagN ls (start0 ls).hs (w : Int) = [] := by
      refine List.filter_eq_nil_iff.mpr fun i m z => ?_
      have hi : i < ls.length := List.mem_range.mp m
      obtain ⟨l, hl⟩ := get_of_lt hi
      have hd : (start0 ls).hs[i]? = some [(vk l.fr, V.int l.sc)] := by
        show (ls.map fun l => [(vk l.fr, V.int l.sc)])[i]? = _
        rw [List.getElem?_map, hl]
        rfl
      rw [takes_at hl hd] at z
      obtain ⟨z1, z2⟩ := bAnd z
      by_cases e : l.fr = (w : Int)
      · simp [free, e] at z2
      · unfold has at z1
        rw [valV_neg fun q => e (Sum.inl.inj q)] at z1
        cases z1
    rw [q]
    exact b.r3 r (List.mem_of_getElem? e)
  sz := fun d m => by
    obtain ⟨l, _, rfl⟩ := List.mem_map.mp m
    exact Nat.le_refl 1
theorem getD_of {α : Type} {l : List α} {i : Nat} {x y : α} (h : l[i]? = some x) : (l[i]?).getD y = x := by
  rw [h]
  rfl
theorem good_step (G : Good B ls S) {D : Dd} {d0 : Addr} (h : due B ls S D = 8) : Good B ls (step B ls S d0 D) := by
  cases D with
  | drop n w =>
    have hn : inR n ls.length = true := by
      cases e : inR n ls.length with
      | true => rfl
      | false =>
        rw [due_d, e, if_pos rfl] at h
        exact absurd h (by decide)
    obtain ⟨ni, rfl, hni⟩ := inR_nat hn
    obtain ⟨d, hd⟩ := get_of_lt (l := S.hs) (i := ni) (by rw [G.lh]; exact hni)
    have dm : d ∈ S.hs := List.mem_of_getElem? hd
    have hs' : (step B ls S d0 (.drop ni w)).hs = S.hs.set ni (dropK d (vk w)) := by
      show S.hs.set (ni : Int).toNat (dropK (dAt S.hs ni) (vk w)) = _
      rw [dAt_eq hd, Int.toNat_natCast]
    refine ⟨G.b, G.l40, ?_, G.lr, fun x m => ?_, G.ir, G.l0, G.l1, G.l2, G.l3, G.cn, fun x r e => ?_, fun x m => ?_⟩
    · rw [hs', List.length_set]
      exact G.lh
    · rw [hs'] at m
      rcases set_mem m with m | rfl
      · exact G.ih x m
      · exact intD_drop (G.ih d dm) w
    · rw [hs']
      refine Int.le_trans (Int.ofNat_le.mpr (bag_less hd fun z => ?_)) (G.bg x r e)
      rw [has_drop] at z
      exact (bAnd z).2
    · rw [hs'] at m
      have e : (step B ls S d0 (.drop ni w)).ds.length = S.ds.length + 1 := List.length_append
      rcases set_mem m with m | rfl
      · have q := G.sz x m
        omega
      · have q := G.sz d dm
        have q2 := dropK_le d (vk w)
        omega
  | pass g m n w =>
    obtain ⟨mi, ni, mt, l, d, t, rfl, rfl, hm, hla, hl, hd, hw, ht, hlt, hno, hcnt, hroom⟩ := due8 G h
    have dm : d ∈ S.hs := List.mem_of_getElem? hd
    have mm : mt ∈ B.ms := List.mem_of_getElem? hm
    have hs' : (step B ls S d0 (.pass g mi ni w)).hs = S.hs.set ni (if g = true then dropK (putK d (vk (mt.a + mt.b - w)) (.int mt.w)) (vk w) else putK d (vk (mt.a + mt.b - w)) (.int mt.w)) := by
      show S.hs.set (ni : Int).toNat (if g = true then dropK (putK (dAt S.hs ni) (vk ((mtAt B mi).a + (mtAt B mi).b - w)) (.int (mtAt B mi).w)) (vk w) else putK (dAt S.hs ni) (vk ((mtAt B mi).a + (mtAt B mi).b - w)) (.int (mtAt B mi).w)) = _
      rw [dAt_eq hd, mtAt_eq hm, Int.toNat_natCast]
    have ds' : (step B ls S d0 (.pass g mi ni w)).ds.length = S.ds.length + 1 := List.length_append
    refine ⟨G.b, G.l40, ?_, ?_, fun x m => ?_, ?_, Int.natCast_nonneg mi, .inr (List.mem_append_right _ List.mem_cons_self), fun y m => ?_, fun y m => ?_, fun x mx e => ?_, fun x r e => ?_, fun x m => ?_⟩
    · rw [hs', List.length_set]
      exact G.lh
    · show (arNew _ _ _ _ _).length = _
      rw [arNew_len]
      exact G.lr
    · rw [hs'] at m
      rcases set_mem m with m | rfl
      · exact G.ih x m
      · split
        · exact intD_drop (intD_put (G.ih d dm) _ _) _
        · exact intD_put (G.ih d dm) _ _
    · exact arNew_int G.ir
    · show y ≤ (mi : Int)
      rcases List.mem_append.mp m with m | m
      · exact Int.le_trans (G.l2 y m) hla
      · rw [List.mem_singleton.mp m]
        exact Int.le_refl _
    · rcases List.mem_append.mp m with m | m
      · exact G.l3 y m
      · rw [List.mem_singleton.mp m]
        have q := lt_of_get hm
        omega
    · show ((S.ps ++ [(mi : Int)]).count (x : Int) : Int) ≤ _
      rw [count_snoc]
      have q := G.cn x mx e
      by_cases z : (mi : Int) = (x : Int)
      · have z' : mi = x := by omega
        subst z'
        rw [hm] at e
        cases e
        rw [if_pos rfl]
        omega
      · rw [if_neg z]
        omega
    · rw [hs']
      have old := G.bg x r e
      by_cases q : (x : Int) = mt.a + mt.b - w
      · rcases hroom with hf | hb
        · rw [← q] at hf
          exact Int.le_trans (Int.ofNat_le.mpr (bag_free hl hd hf)) old
        · rw [← q, Int.toNat_natCast, getD_of e] at hb
          have k := bag_more (ls := ls) (hs := S.hs) (n := ni) (d' := if g = true then dropK (putK d (vk (mt.a + mt.b - w)) (.int mt.w)) (vk w) else putK d (vk (mt.a + mt.b - w)) (.int mt.w)) (w := (x : Int))
          omega
      · refine Int.le_trans (Int.ofNat_le.mpr (bag_less hd fun z => ?_)) old
        cases g with
        | true =>
          rw [if_pos rfl, has_drop, has_put] at z
          have z2 := (bAnd z).2
          rw [decide_eq_false q] at z2
          exact z2
        | false =>
          rw [if_neg (by decide), has_put, decide_eq_false q] at z
          exact z
    · rw [hs'] at m
      rcases set_mem m with m | rfl
      · have q := G.sz x m
        omega
      · have q := G.sz d dm
        have q2 := put_len (d := d) (w := mt.a + mt.b - w) (t := mt.w)
        split
        · have q3 := dropK_le (putK d (vk (mt.a + mt.b - w)) (.int mt.w)) (vk w)
          omega
        · omega
end
end K46
set_option Elab.async false
set_option linter.all false
set_option maxRecDepth 100000
set_option maxHeartbeats 4000000
namespace K46
open PySem L2
/-! ### how the data stand in the heap -/
theorem pget {α β : Type} {F : α → β → Prop} : ∀ {xs : List α} {ys : List β} {i : Nat} {y : β}, Paired F xs ys → ys[i]? = some y → ∃ x, xs[i]? = some x ∧ F x y
  | _, _, _, _, .nil, e => by simp at e
  | _, _, 0, _, .cons r _, e => by
    simp at e
    subst e
    exact ⟨_, rfl, r⟩
  | _, _, i + 1, y, .cons _ t, e => by
    obtain ⟨x, h1, h2⟩ := pget (i := i) (y := y) t (by simpa using e)
    exact ⟨x, by simpa using h1, h2⟩
theorem pget1 {α β : Type} {F : α → β → Prop} : ∀ {xs : List α} {ys : List β} {i : Nat} {x : α}, Paired F xs ys → xs[i]? = some x → ∃ y, ys[i]? = some y ∧ F x y
  | _, _, _, _, .nil, e => by simp at e
  | _, _, 0, _, .cons r _, e => by
    simp at e
    subst e
    exact ⟨_, rfl, r⟩
  | _, _, i + 1, y, .cons _ t, e => by
    obtain ⟨x, h1, h2⟩ := pget1 (i := i) (x := y) t (by simpa using e)
    exact ⟨x, by simpa using h1, h2⟩
theorem pimp {α β : Type} {F G : α → β → Prop} : ∀ {xs : List α} {ys : List β}, Paired F xs ys → (∀ x y, x ∈ xs → F x y → G x y) → Paired G xs ys
  | _, _, .nil, _ => .nil
  | _, _, .cons r t, h => .cons (h _ _ List.mem_cons_self r) (pimp t fun x y m => h x y (List.mem_cons_of_mem _ m))
theorem plen {α β : Type} {F : α → β → Prop} {xs : List α} {ys : List β} (h : Paired F xs ys) : xs.length = ys.length := Paired.length h
theorem pset {α β : Type} {F G : α → β → Prop} {x : α} {d : β} : ∀ {xs : List α} {ys : List β} {n : Nat}, Paired F xs ys → xs.Nodup → xs[n]? = some x → (∀ a e, a ∈ xs → a ≠ x → F a e → G a e) → G x d → Paired G xs (ys.set n d)
  | _, _, _, .nil, _, e, _, _ => by simp at e
  | _, _, 0, .cons r t, nd, e, h, g => by
    simp at e
    subst e
    obtain ⟨n1, n2⟩ := List.nodup_cons.mp nd
    exact .cons g (pimp t fun a b m => h a b (List.mem_cons_of_mem _ m) fun z => n1 (z ▸ m))
  | _, _, n + 1, .cons r t, nd, e, h, g => by
    obtain ⟨n1, n2⟩ := List.nodup_cons.mp nd
    have e' : _ := (by simpa using e : _)
    exact .cons (h _ _ List.mem_cons_self (fun z => n1 (z ▸ List.mem_of_getElem? e')) r) (pset t n2 e' (fun a b m => h a b (List.mem_cons_of_mem _ m)) g)
def mtV (m : Mt) : List V := [.int m.a, .int m.b, .int m.w, .int m.m]
def ltV (l : Lt) : List V := [.int l.fr, .int l.sc, .int l.wi, .int l.la]
def MtAt (H : Hp) (v : V) (m : Mt) : Prop := ∃ a, v = .ref a ∧ H a = some (.tup (mtV m))
def LtAt (H : Hp) (v : V) (l : Lt) : Prop := ∃ a, v = .ref a ∧ H a = some (.tup (ltV l))
def BookAt (H : Hp) (b : Addr) (B : Bk) : Prop := ∃ r m vs, H b = some (.tup [.ref r, .ref m]) ∧ H r = some (.tup (B.rooms.map V.int)) ∧ H m = some (.tup vs) ∧ Paired (MtAt H) vs B.ms
/-- a list of letters -/
def LtsAt (H : Hp) (p : Addr) (ls : List Lt) : Prop := ∃ vs, H p = some (.lst vs) ∧ Paired (LtAt H) vs ls
def Dd.v : Dd → List V
  | .drop n w => [.str "drop", .int n, .int w]
  | .pass g m n w => [.str (if g = true then "give" else "copy"), .int m, .int n, .int w]
def DeedAt (H : Hp) (d : Addr) (D : Dd) : Prop := H d = some (.tup D.v)
def HsAt (H : Hp) (l : Addr) (as : List Addr) (hs : List D1) : Prop := H l = some (.lst (as.map V.ref)) ∧ Paired (fun a d => H a = some (.dK d)) as hs
/-- a Trip: itself, its dict, its book, its lists; the dicts of its holders -/
structure Lay where
  x : Addr
  dx : Addr
  b : Addr
  ll : Addr
  hl : Addr
  al : Addr
  dl : Addr
  hs : List Addr
def tf (L : Lay) (p l : Int) : List (Str × V) := [("book", .ref L.b), ("letters", .ref L.ll), ("holders", .ref L.hl), ("arrived", .ref L.al), ("passed", .int p), ("latest", .int l), ("deeds", .ref L.dl)]
def Lay.all (L : Lay) : List Addr := L.x :: L.ll :: L.hl :: L.al :: L.dl :: L.hs
structure TripAt (C : Addr) (H : Hp) (L : Lay) (B : Bk) (ls : List Lt) (S : Sy) : Prop where
  ob : H L.x = some (.ins C L.dx (tf L (S.ps.count S.la : Int) S.la))
  bk : BookAt H L.b B
  lt : LtsAt H L.ll ls
  hs : HsAt H L.hl L.hs S.hs
  ar : H L.al = some (.lst S.ar)
  dl : H L.dl = some (.lst (S.ds.map V.ref))
  nd : L.all.Nodup
/-- the law's own state: its dict, its lists; the dicts of its holders -/
structure LaL where
  sd : Addr
  hl : Addr
  cl : Addr
  pl : Addr
  dl : Addr
  hs : List Addr
def LaL.all (L : LaL) : List Addr := L.sd :: L.hl :: L.cl :: L.pl :: L.dl :: L.hs
def sdV (L : LaL) : List (Key × V) := [(.inr "holders", .ref L.hl), (.inr "come", .ref L.cl), (.inr "passes", .ref L.pl), (.inr "done", .ref L.dl)]
structure LawAt (H : Hp) (L : LaL) (S : Sy) : Prop where
  sd : H L.sd = some (.dK (sdV L))
  hs : HsAt H L.hl L.hs S.hs
  cl : H L.cl = some (.lst S.ar)
  pl : H L.pl = some (.lst (S.ps.map V.int))
  dl : H L.dl = some (.lst (S.ds.map V.ref))
  nd : L.all.Nodup
/-- a purse -/
def PurseAt (H : Hp) (p : Addr) : Prop := ∃ a b c : Int, H p = some (.lst [.int a, .int b, .int c]) ∧ 0 ≤ a ∧ 0 ≤ b ∧ b < 2147483647 ∧ 0 ≤ c
section
variable {H H' : Hp} {Z : List Addr} {B : Bk} {ls : List Lt} {S : Sy} {L : Lay} {M : LaL} {C b p d : Addr} {D : Dd}
theorem MtAt.kp (k : Kp Z H H') {v : V} {m : Mt} : MtAt H v m → MtAt H' v m := fun ⟨a, e, h⟩ => ⟨a, e, k.tup h⟩
theorem LtAt.kp (k : Kp Z H H') {v : V} {l : Lt} : LtAt H v l → LtAt H' v l := fun ⟨a, e, h⟩ => ⟨a, e, k.tup h⟩
theorem BookAt.kp (k : Kp Z H H') : BookAt H b B → BookAt H' b B := fun ⟨r, m, vs, h1, h2, h3, h4⟩ => ⟨r, m, vs, k.tup h1, k.tup h2, k.tup h3, pimp h4 fun _ _ _ => MtAt.kp k⟩
theorem LtsAt.kp (k : Kp Z H H') (hp : p ∉ Z) : LtsAt H p ls → LtsAt H' p ls := fun ⟨vs, h1, h2⟩ => ⟨vs, k.at h1 hp, pimp h2 fun _ _ _ => LtAt.kp k⟩
theorem DeedAt.kp (k : Kp Z H H') : DeedAt H d D → DeedAt H' d D := fun h => k.tup h
theorem HsAt.kp (k : Kp Z H H') {l : Addr} {as : List Addr} {hs : List D1} (h1 : l ∉ Z) (h2 : ∀ a ∈ as, a ∉ Z) : HsAt H l as hs → HsAt H' l as hs := fun ⟨e1, e2⟩ => ⟨k.at e1 h1, pimp e2 fun a _ m e => k.at e (h2 a m)⟩
theorem TripAt.kp (k : Kp Z H H') (h : ∀ a ∈ L.all, a ∉ Z) (t : TripAt C H L B ls S) : TripAt C H' L B ls S where
  ob := k.at t.ob (h _ List.mem_cons_self)
  bk := t.bk.kp k
  lt := t.lt.kp k (h _ (List.mem_cons_of_mem _ List.mem_cons_self))
  hs := t.hs.kp k (h _ (List.mem_cons_of_mem _ (List.mem_cons_of_mem _ List.mem_cons_self))) fun a m => h a (List.mem_cons_of_mem _ (List.mem_cons_of_mem _ (List.mem_cons_of_mem _ (List.mem_cons_of_mem _ (List.mem_cons_of_mem _ m)))))
  ar := k.at t.ar (h _ (List.mem_cons_of_mem _ (List.mem_cons_of_mem _ (List.mem_cons_of_mem _ List.mem_cons_self))))
  dl := k.at t.dl (h _ (List.mem_cons_of_mem _ (List.mem_cons_of_mem _ (List.mem_cons_of_mem _ (List.mem_cons_of_mem _ List.mem_cons_self)))))
  nd := t.nd
theorem TripAt.kp0 (k : Kp [] H H') (t : TripAt C H L B ls S) : TripAt C H' L B ls S := t.kp k fun _ _ m => nomatch m
theorem LawAt.kp (k : Kp Z H H') (h : ∀ a ∈ M.all, a ∉ Z) (t : LawAt H M S) : LawAt H' M S where
  sd := k.at t.sd (h _ List.mem_cons_self)
  hs := t.hs.kp k (h _ (List.mem_cons_of_mem _ List.mem_cons_self)) fun a m => h a (List.mem_cons_of_mem _ (List.mem_cons_of_mem _ (List.mem_cons_of_mem _ (List.mem_cons_of_mem _ (List.mem_cons_of_mem _ m)))))
  cl := k.at t.cl (h _ (List.mem_cons_of_mem _ (List.mem_cons_of_mem _ List.mem_cons_self)))
  pl := k.at t.pl (h _ (List.mem_cons_of_mem _ (List.mem_cons_of_mem _ (List.mem_cons_of_mem _ List.mem_cons_self))))
  dl := k.at t.dl (h _ (List.mem_cons_of_mem _ (List.mem_cons_of_mem _ (List.mem_cons_of_mem _ (List.mem_cons_of_mem _ List.mem_cons_self)))))
  nd := t.nd
theorem LawAt.kp0 (k : Kp [] H H') (t : LawAt H M S) : LawAt H' M S := t.kp k fun _ _ m => nomatch m
theorem PurseAt.kp (k : Kp Z H H') (h : p ∉ Z) : PurseAt H p → PurseAt H' p := fun ⟨a, b, c, e, q⟩ => ⟨a, b, c, k.at e h, q⟩
theorem LtsAt.kp0 (k : Kp [] H H') : LtsAt H p ls → LtsAt H' p ls := LtsAt.kp k fun m => nomatch m
end
/-! ### the Trip's attributes -/
theorem tf_book {L : Lay} {p l : Int} : (tf L p l).lookup ("book" : Str) = some (.ref L.b) := rfl
theorem tf_letters {L : Lay} {p l : Int} : (tf L p l).lookup ("letters" : Str) = some (.ref L.ll) := rfl
theorem tf_holders {L : Lay} {p l : Int} : (tf L p l).lookup ("holders" : Str) = some (.ref L.hl) := rfl
theorem tf_arrived {L : Lay} {p l : Int} : (tf L p l).lookup ("arrived" : Str) = some (.ref L.al) := rfl
theorem tf_passed {L : Lay} {p l : Int} : (tf L p l).lookup ("passed" : Str) = some (.int p) := rfl
theorem tf_latest {L : Lay} {p l : Int} : (tf L p l).lookup ("latest" : Str) = some (.int l) := rfl
theorem tf_deeds {L : Lay} {p l : Int} : (tf L p l).lookup ("deeds" : Str) = some (.ref L.dl) := rfl
theorem tf_putP {L : Lay} {p l q : Int} : putF "passed" (.int q) (tf L p l) = tf L q l := rfl
theorem tf_putL {L : Lay} {p l q : Int} : putF "latest" (.int q) (tf L p l) = tf L p q := rfl
theorem tf_no {L : Lay} {p l : Int} {m : Str} (h : fields.all (fun f => !decide (m = f)) = true) : (tf L p l).lookup m = none := by
  have k : ∀ f ∈ fields, m ≠ f := fun f hf => by simpa using List.all_eq_true.mp h f hf
  unfold tf
  simp only [List.lookup]
  rw [show (m == ("book" : Str)) = false from beq_eq_false_iff_ne.mpr (k _ (List.mem_of_getElem? (i := 0) rfl)), show (m == ("letters" : Str)) = false from beq_eq_false_iff_ne.mpr (k _ (List.mem_of_getElem? (i := 1) rfl)), show (m == ("holders" : Str)) = false from beq_eq_false_iff_ne.mpr (k _ (List.mem_of_getElem? (i := 2) rfl)),
    show (m == ("arrived" : Str)) = false from beq_eq_false_iff_ne.mpr (k _ (List.mem_of_getElem? (i := 3) rfl)), show (m == ("passed" : Str)) = false from beq_eq_false_iff_ne.mpr (k _ (List.mem_of_getElem? (i := 4) rfl)), show (m == ("latest" : Str)) = false from beq_eq_false_iff_ne.mpr (k _ (List.mem_of_getElem? (i := 5) rfl)), show (m == ("deeds" : Str)) = false from beq_eq_false_iff_ne.mpr (k _ (List.mem_of_getElem? (i := 6) rfl))]
end K46
set_option Elab.async false
set_option linter.all false
set_option maxRecDepth 100000
set_option maxHeartbeats 4000000
namespace K46
open PySem L2
section
variable {P : Program} {w : World} {K : PySem.W.Frag} {mg : Str → Option Value} {base : Heap}
/-- raise C('..'), C one of ours -/
theorem ps_rz {X : Cx} {x m : Str} {j : Nat} {p p2 pos pos2 : Pos} {W : WX} (hc : X.calm = true) (tk : Takes X W) (X1 : Exc1 X.K X.mg x) (hg : Gl X x := by rfl) (hdb : (x == ("__debug__" : Str)) = false := by decide) :
    PS X (.Raise (some (.Call (.Name x p) [.Constant (.str m) j p2] [] pos)) none pos2) (fun _ σ H => W (.ref (He.ga X.K x)) none σ H) :=
  ps_raise hc tk (pmk_own PySem.F.excBase_ValueError X1.q X1.g X1.k (raises_own X1.b X1.t) hg hdb)
/-! ### the same rules within a comprehension: K is named, so that a reading doesn't hang on the block's context -/
section
variable {X : Cx}
theorem ixl (K : PySem.W.Frag) (e : X.K = K := by rfl) : IxR X (rIxL K) := e ▸ ix_list
theorem ixt (K : PySem.W.Frag) (e : X.K = K := by rfl) : IxR X (rIxT K) := e ▸ ix_tup
theorem pe_fldK (K : PySem.W.Frag) {o : Expr} {ta : TE} {f : Str} {pos : Pos} (he : PE X o ta) (e : X.K = K := by rfl) (hb : attributeBase o f X.env (eval o X.env) = eval o X.env := by rfl) : PE X (.Attribute o f pos) (tFld K ta f) := e ▸ pe_fld he hb
theorem pe_cmK (K : PySem.W.Frag) {k : Nat} {sp : Sp} {ps : List Str} {CX : CXT} {m : Str} {o a : Expr} {es : List Expr} {apos pos : Pos} {t : TA} {ta : TE} {E : XK} {pl : Sem Bool} (G : OkM X.prog X.w X.K X.mg X.base CX k m ps sp) (hr : Room k X.A) (hx : Passes CX X E) (ho : PE X o ta) (ha : PA X (a :: es) t)
    (e : X.K = K := by rfl) (hst : starEach (a :: es) X.env = (false, eval a X.env) :: starEach es X.env := by rfl) (hpl : (backTo pos (starEach es X.env)).any (·.1) = false := by rfl)
    (ht : eval (.Call (.Attribute o m apos) (a :: es) [] pos) X.env = (do
      let ov ← eval o X.env
      standAt apos.atName
      let (f, first) ← holding [ov] (getMethod ov m pl)
      callWith pos f first (backTo pos (starEach (a :: es) X.env)) (backToKw pos (keywordEach [] X.env))) := by rfl) :
    PE X (.Call (.Attribute o m apos) (a :: es) [] pos) (tMeth (CT K) m sp [] E ta t) := e ▸ pe_cm G hr hx ho ha hst hpl ht
end
theorem scLWhole : FnScope ["_law_thing"] ["_law_thing"] (defScope sLawWhole) := ⟨rfl, rfl, rfl, by decide +kernel, rfl, by decide +kernel, by decide +kernel⟩
theorem ok_lwhole (T : Txt K mg) : OkF P w K mg base CX0 1 "_law_whole" ["_law_thing"] spWhole := by
  refine mkF (st := sLawWhole) T (List.mem_of_getElem? (i := 19) rfl) (fun _ _ _ _ _ _ us hl => match us, hl with | [_], _ => rfl) fun fd F => ?_
  refine F.ok scLWhole (fun vs H Q E h => ?_) (fun cdv A outer s H vs Q E hr h => ?_)
  · obtain ⟨i, rfl, _⟩ := h
    rfl
  · obtain ⟨i, rfl, k⟩ := h
    refine ⟨_, pss_one (ps_ret (pe_and (pe_callB call_isi (by rfl) T.tIs (by decide +kernel) (pa_cons (pv 0) (pa_cons (pe_bltn (v := .ty "int") (by rfl) T.tInt (by decide +kernel) rfl) pa_nil)))
      (pe_one (pe_not (pe_callB call_isi (by rfl) T.tIs (by decide +kernel) (pa_cons (pv 0) (pa_cons (pe_bltn (v := .ty "bool") (by rfl) T.tBool (by decide +kernel) rfl) pa_nil))))))), ?_⟩
    refine ⟨_, rfl, _, _, _, _, true, rfl, .ty _, .base (.int i), kit_ty (by decide +kernel), true, rfl, iteT ?_⟩
    refine ⟨_, rfl, _, _, _, _, false, rfl, .ty _, .base (.int i), kit_ty (by decide +kernel), false, rfl, k⟩
theorem scWithin : FnScope ["thing", "low", "high"] ["thing", "low", "high"] (defScope sIsWithin) := ⟨rfl, rfl, rfl, by decide +kernel, rfl, by decide +kernel, by decide +kernel⟩
theorem ok_within (T : Txt K mg) : OkF P w K mg base CX0 2 "is_within" ["thing", "low", "high"] spWithin := by
  have G := ok_whole (P := P) (w := w) (base := base) T
  refine mkF (st := sIsWithin) T (List.mem_of_getElem? (i := 1) rfl) (fun _ _ _ _ _ _ us hl => match us, hl with | [_, _, _], _ => rfl) fun fd F => ?_
  refine F.ok scWithin (fun vs H Q E h => ?_) (fun cdv A outer s H vs Q E hr h => ?_)
  · obtain ⟨i, lo, hi, rfl, _⟩ := h
    rfl
  · obtain ⟨i, lo, hi, rfl, k⟩ := h
    refine ⟨_, pss_one (ps_ret (pe_and (pe_cf G hr pass0 (pa_cons (pv 0) pa_nil)) (pe_one (pe_chain op_le op_le (pv 1) (pv 0) (pv 2))))), ?_⟩
    refine ⟨_, rfl, i, rfl, true, rfl, iteT ?_⟩
    refine ⟨_, rfl, _, rfl, lo, i, rfl, rfl, _, rfl, ?_⟩
    by_cases h1 : lo ≤ i
    · rw [decide_eq_true h1]
      refine iteT ⟨_, rfl, i, hi, rfl, rfl, ?_⟩
      show Q (.bl (decide (i ≤ hi))) H
      rw [show decide (i ≤ hi) = decide (lo ≤ i ∧ i ≤ hi) by simp [h1]]
      exact k
    · rw [decide_eq_false h1]
      refine iteF ?_
      show Q (.bl false) H
      rw [show false = decide (lo ≤ i ∧ i ≤ hi) by simp [h1]]
      exact k
def spNumOf : Sp := fun vs H Q _ => ∃ (b : Addr) (B : Bk) (i : Int), vs = [.ref b, .int i] ∧ BookAt H b B ∧ Q (.bl (inR i B.ms.length)) H
def spWalker : Sp := fun vs H Q _ => ∃ (b : Addr) (B : Bk) (i : Int), vs = [.ref b, .int i] ∧ BookAt H b B ∧ Q (.bl (inR i B.rooms.length)) H
theorem inR_dec (i : Int) (k : Nat) : decide (0 ≤ i ∧ i ≤ (k : Int) - 1) = inR i k := by
  unfold inR
  congr 1
  exact propext ⟨fun h => ⟨h.1, by omega⟩, fun h => ⟨h.1, by omega⟩⟩
theorem scNumOf : FnScope ["book", "thing"] ["book", "thing"] (defScope sIsNumberOf) := ⟨rfl, rfl, rfl, by decide +kernel, rfl, by decide +kernel, by decide +kernel⟩
theorem ok_numOf (T : Txt K mg) : OkF P w K mg base CX0 3 "is_number_of" ["book", "thing"] spNumOf := by
  have G := ok_within (P := P) (w := w) (base := base) T
  refine mkF (st := sIsNumberOf) T (List.mem_of_getElem? (i := 2) rfl) (fun _ _ _ _ _ _ us hl => match us, hl with | [_, _], _ => rfl) fun fd F => ?_
  refine F.ok scNumOf (fun vs H Q E h => ?_) (fun cdv A outer s H vs Q E hr h => ?_)
  · obtain ⟨b, B, i, rfl, _⟩ := h
    rfl
  · obtain ⟨b, B, i, rfl, ⟨r, m, vs, h1, h2, h3, h4⟩, k⟩ := h
    refine ⟨_, pss_one (ps_ret (pe_cf G hr pass0 (pa_cons (pv 1) (pa_cons pe_int (pa_cons (pe_op op_sub (pe_callB call_len_seq (by rfl) T.tLen PySem.boot_len (pa_cons (pe_ix ix_tup (pv 0) pe_int (fun _ _ => rfl)) pa_nil)) pe_int) pa_nil))))), ?_⟩
    refine ⟨_, rfl, _, rfl, b, _, 1, _, rfl, rfl, SqT.of h1, rfl, m, vs, rfl, .inr (SqT.of h3), _, _, rfl, rfl, i, 0, _, rfl, ?_⟩
    rw [plen h4, inR_dec]
    exact k
theorem scWalker : FnScope ["book", "thing"] ["book", "thing"] (defScope sIsWalker) := ⟨rfl, rfl, rfl, by decide +kernel, rfl, by decide +kernel, by decide +kernel⟩
theorem ok_walker (T : Txt K mg) : OkF P w K mg base CX0 3 "is_walker" ["book", "thing"] spWalker := by
  have G := ok_within (P := P) (w := w) (base := base) T
  refine mkF (st := sIsWalker) T (List.mem_of_getElem? (i := 3) rfl) (fun _ _ _ _ _ _ us hl => match us, hl with | [_, _], _ => rfl) fun fd F => ?_
  refine F.ok scWalker (fun vs H Q E h => ?_) (fun cdv A outer s H vs Q E hr h => ?_)
  · obtain ⟨b, B, i, rfl, _⟩ := h
    rfl
  · obtain ⟨b, B, i, rfl, ⟨r, m, vs, h1, h2, h3, h4⟩, k⟩ := h
    refine ⟨_, pss_one (ps_ret (pe_cf G hr pass0 (pa_cons (pv 1) (pa_cons pe_int (pa_cons (pe_op op_sub (pe_callB call_len_seq (by rfl) T.tLen PySem.boot_len (pa_cons (pe_ix ix_tup (pv 0) pe_int (fun _ _ => rfl)) pa_nil)) pe_int) pa_nil))))), ?_⟩
    refine ⟨_, rfl, _, rfl, b, _, 0, _, rfl, rfl, SqT.of h1, rfl, r, _, rfl, .inr (SqT.of h2), _, _, rfl, rfl, i, 0, _, rfl, ?_⟩
    rw [List.length_map, inR_dec]
    exact k
/-! ### the small methods of Trip -/
/-- the letter's number is one, or NoLetter -/
def spLookLetter (K : PySem.W.Frag) : Sp := fun vs H Q E => ∃ (L : Lay) (B : Bk) (ls : List Lt) (S : Sy) (n : Int), vs = [.ref L.x, .int n] ∧ TripAt (CT K) H L B ls S ∧ (inR n ls.length = true → Q .non H) ∧ (inR n ls.length = false → E (.ref (He.ga K "NoLetter")) none H)
theorem scLookL : FnScope ["self", "number"] ["self", "number"] (defScope mLookLetter) := ⟨rfl, rfl, rfl, by decide +kernel, rfl, by decide +kernel, by decide +kernel⟩
theorem ok_lookL (T : Txt K mg) : OkM P w K mg base (L2.CX P w) 3 "look_letter" ["self", "number"] (spLookLetter K) := by
  have G := ok_within (P := P) (w := w) (base := base) T
  have X1 := T.ex "NoLetter" (List.mem_of_getElem? (i := 2) rfl)
  refine mkM (st := mLookLetter) T (List.mem_of_getElem? (i := 2) rfl) (fun _ _ _ _ _ _ us hl => match us, hl with | [_, _], _ => rfl) fun fd F => ?_
  refine F.okX scLookL (fun vs H Q E h => ?_) (fun cdv A outer s H vs Q E hr h => ?_)
  · obtain ⟨L, B, ls, S, n, rfl, _⟩ := h
    rfl
  · obtain ⟨L, B, ls, S, n, rfl, TA, k1, k2⟩ := h
    obtain ⟨vs, hl, pl⟩ := TA.lt
    refine ⟨_, pss_one (ps_if (pt_not (pt_val (pe_cf G hr pass0 (pa_cons (pv 1) (pa_cons pe_int (pa_cons (pe_op op_sub (pe_callB call_len_seq (by rfl) T.tLen PySem.boot_len (pa_cons (pe_fld (pv 0) rfl) pa_nil)) pe_int) pa_nil))))))
      (pss_one (ps_rz rfl (takes_of rfl rfl rfl rfl) X1)) pss_nil), ?_⟩
    refine ⟨_, rfl, _, rfl, L.x, _, L.dx, _, _, rfl, TA.ob, T.cl, T.nLetters, tf_letters, L.ll, vs, rfl, .inl (SqL.of hl), _, _, rfl, rfl, n, 0, _, rfl, _, rfl, ?_⟩
    rw [plen pl, inR_dec]
    cases e : inR n ls.length with
    | true => exact iteF (k1 e)
    | false => exact iteT (k2 e)
def spTakesRoom (K : PySem.W.Frag) : Sp := fun vs H Q _ => ∃ (L : Lay) (B : Bk) (ls : List Lt) (S : Sy) (n : Nat) (l : Lt) (x : Int), vs = [.ref L.x, .int n, .int x] ∧ TripAt (CT K) H L B ls S ∧ ls[n]? = some l ∧ Q (.bl (!free l x)) H
theorem scTakes : FnScope ["self", "number", "walker"] ["self", "number", "walker"] (defScope mTakesRoom) := ⟨rfl, rfl, rfl, by decide +kernel, rfl, by decide +kernel, by decide +kernel⟩
theorem ok_takes (T : Txt K mg) : OkM P w K mg base CX0 1 "takes_room" ["self", "number", "walker"] (spTakesRoom K) := by
  refine mkM (st := mTakesRoom) T (List.mem_of_getElem? (i := 3) rfl) (fun _ _ _ _ _ _ us hl => match us, hl with | [_, _, _], _ => rfl) fun fd F => ?_
  refine F.ok scTakes (fun vs H Q E h => ?_) (fun cdv A outer s H vs Q E hr h => ?_)
  · obtain ⟨L, B, ls, S, n, l, x, rfl, _⟩ := h
    rfl
  · obtain ⟨L, B, ls, S, n, l, x, rfl, TA, hl, k⟩ := h
    obtain ⟨vs, hv, pl⟩ := TA.lt
    obtain ⟨_, h1, a, rfl, h2⟩ := pget pl hl
    refine ⟨_, pss_one (ps_ret (pe_and (pe_cmpR op_ne (pv 2) (pe_ix ix_tup (pe_ix ix_list (pe_fld (pv 0) rfl) (pv 1) (fun _ _ => rfl)) pe_int (fun _ _ => rfl)) (nomark _))
      (pe_one (pe_cmpR op_ne (pv 2) (pe_ix ix_tup (pe_ix ix_list (pe_fld (pv 0) rfl) (pv 1) (fun _ _ => rfl)) pe_int (fun _ _ => rfl)) (nomark _))))), ?_⟩
    refine ⟨_, rfl, _, rfl, L.x, _, L.dx, _, _, rfl, TA.ob, T.cl, T.nLetters, tf_letters, _, rfl, L.ll, _, _, _, rfl, rfl, SqL.of hv, atI_nat h1, a, _, 0, _, rfl, rfl, SqT.of h2, rfl, rfl, _, rfl, ?_⟩
    unfold free at k
    by_cases e1 : x = l.fr
    · rw [show (!decide (V.int x = V.int l.fr)) = false by simp [e1]]
      refine iteF ?_
      rw [show (!(decide (x = l.fr) || decide (x = l.wi))) = false by simp [e1]] at k
      exact k
    · rw [show (!decide (V.int x = V.int l.fr)) = true by simp [e1]]
      refine iteT ?_
      refine ⟨_, rfl, _, rfl, L.x, _, L.dx, _, _, rfl, TA.ob, T.cl, T.nLetters, tf_letters, _, rfl, L.ll, _, _, _, rfl, rfl, SqL.of hv, atI_nat h1, a, _, 2, _, rfl, rfl, SqT.of h2, rfl, rfl, ?_⟩
      rw [show (!decide (V.int x = V.int l.wi)) = (!(decide (x = l.fr) || decide (x = l.wi))) by simp [e1]]
      exact k
end
end K46
set_option Elab.async false
set_option linter.all false
set_option maxRecDepth 100000
set_option maxHeartbeats 4000000
namespace K46
open PySem L2
theorem small62 {n : Nat} (h : n ≤ 1000) : -(2 ^ 62) ≤ (n : Int) ∧ (n : Int) < 2 ^ 62 := ⟨by omega, by omega⟩
theorem line_of {n : Nat} (h : n ≤ 100000) : n < sizeLine := Nat.lt_of_le_of_lt h (by decide)
theorem filter_len_le {α : Type} {p : α → Bool} {l : List α} : (l.filter p).length ≤ l.length := List.length_filter_le _ _
section
variable {P : Program} {w : World} {K : PySem.W.Frag} {mg : Str → Option Value} {base : Heap}
/-- how many passed at a meeting that is not over -/
def spPassedAt (K : PySem.W.Frag) : Sp := fun vs H Q _ => ∃ (L : Lay) (B : Bk) (ls : List Lt) (S : Sy) (m : Int), vs = [.ref L.x, .int m] ∧ TripAt (CT K) H L B ls S ∧ Good B ls S ∧ S.la ≤ m ∧ Q (.int (S.ps.count m : Int)) H
theorem scPassed : FnScope ["self", "meeting"] ["self", "meeting"] (defScope mPassedAt) := ⟨rfl, rfl, rfl, by decide +kernel, rfl, by decide +kernel, by decide +kernel⟩
theorem ok_passed (T : Txt K mg) : OkM P w K mg base CX0 1 "passed_at" ["self", "meeting"] (spPassedAt K) := by
  refine mkM (st := mPassedAt) T (List.mem_of_getElem? (i := 6) rfl) (fun _ _ _ _ _ _ us hl => match us, hl with | [_, _], _ => rfl) fun fd F => ?_
  refine F.ok scPassed (fun vs H Q E h => ?_) (fun cdv A outer s H vs Q E hr h => ?_)
  · obtain ⟨L, B, ls, S, m, rfl, _⟩ := h
    rfl
  · obtain ⟨L, B, ls, S, m, rfl, TA, G, hm, k⟩ := h
    refine ⟨_, pss_cons (ps_if (pt_cmpR op_eq (pv 1) (pe_fld (pv 0) rfl) (nomark _)) (pss_one (ps_ret (pe_fld (pv 0) rfl))) pss_nil) (pss_one (ps_ret pe_int)), ?_⟩
    refine ⟨_, rfl, _, rfl, L.x, _, L.dx, _, _, rfl, TA.ob, T.cl, T.nLatest, tf_latest, rfl, _, rfl, ?_⟩
    refine ite2 (fun c => ?_) (fun c => ?_)
    · have e : m = S.la := V.int.inj (of_decide_eq_true c)
      subst e
      exact ⟨_, rfl, L.x, _, L.dx, _, _, rfl, TA.ob, T.cl, T.nPassed, tf_passed, k⟩
    · have e : m ≠ S.la := fun z => c (decide_eq_true (congrArg V.int z))
      have z : S.ps.count m = 0 := List.count_eq_zero.mpr fun q => by
        have := G.l2 m q
        omega
      rw [z] at k
      exact k
def spCome (K : PySem.W.Frag) : Sp := fun vs H Q _ => ∃ (L : Lay) (B : Bk) (ls : List Lt) (S : Sy) (n : Nat) (v : V), vs = [.ref L.x, .int n] ∧ TripAt (CT K) H L B ls S ∧ S.ar[n]? = some v ∧ Q v H
theorem scCome : FnScope ["self", "letter"] ["self", "letter"] (defScope mCome) := ⟨rfl, rfl, rfl, by decide +kernel, rfl, by decide +kernel, by decide +kernel⟩
theorem ok_come (T : Txt K mg) : OkM P w K mg base CX0 1 "come" ["self", "letter"] (spCome K) := by
  refine mkM (st := mCome) T (List.mem_of_getElem? (i := 11) rfl) (fun _ _ _ _ _ _ us hl => match us, hl with | [_, _], _ => rfl) fun fd F => ?_
  refine F.ok scCome (fun vs H Q E h => ?_) (fun cdv A outer s H vs Q E hr h => ?_)
  · obtain ⟨L, B, ls, S, n, v, rfl, _⟩ := h
    rfl
  · obtain ⟨L, B, ls, S, n, v, rfl, TA, hv, k⟩ := h
    refine ⟨_, pss_one (ps_ret (pe_ix ix_list (pe_fld (pv 0) rfl) (pv 1) (fun _ _ => rfl))), ?_⟩
    exact ⟨_, rfl, L.x, _, L.dx, _, _, rfl, TA.ob, T.cl, T.nArrived, tf_arrived, _, rfl, L.al, _, _, _, rfl, rfl, SqL.of TA.ar, atI_nat hv, k⟩
def spDone (K : PySem.W.Frag) : Sp := fun vs H Q _ => ∃ (L : Lay) (B : Bk) (ls : List Lt) (S : Sy), vs = [.ref L.x] ∧ TripAt (CT K) H L B ls S ∧ ∀ p, H p = none → Q (.ref p) (upd H p (.lst (S.ds.map V.ref)))
theorem scDone : FnScope ["self"] ["self"] (defScope mDone) := ⟨rfl, rfl, rfl, by decide +kernel, rfl, by decide +kernel, by decide +kernel⟩
theorem ok_done (T : Txt K mg) : OkM P w K mg base CX0 1 "done" ["self"] (spDone K) := by
  refine mkM (st := mDone) T (List.mem_of_getElem? (i := 12) rfl) (fun _ _ _ _ _ _ us hl => match us, hl with | [_], _ => rfl) fun fd F => ?_
  refine F.ok scDone (fun vs H Q E h => ?_) (fun cdv A outer s H vs Q E hr h => ?_)
  · obtain ⟨L, B, ls, S, rfl, _⟩ := h
    rfl
  · obtain ⟨L, B, ls, S, rfl, TA, k⟩ := h
    refine ⟨_, pss_one (ps_ret (pe_callTy call_list_of (by rfl) T.tList (by decide +kernel) (pa_cons (pe_fld (pv 0) rfl) pa_nil))), ?_⟩
    exact ⟨_, rfl, L.x, _, L.dx, _, _, rfl, TA.ob, T.cl, T.nDeeds, tf_deeds, L.dl, _, rfl, .inl (SqL.of TA.dl), k⟩
/-- the letters that take room with x -/
def spBag (K : PySem.W.Frag) : Sp := fun vs H Q _ => ∃ (L : Lay) (B : Bk) (ls : List Lt) (S : Sy) (x : Int), vs = [.ref L.x, .int x] ∧ TripAt (CT K) H L B ls S ∧ Good B ls S ∧ ∀ (H' : Hp) (p : Addr), Kp [] H H' → H p = none → H' p = some (.lst (bagV ls S.hs x)) → Q (.ref p) H'
theorem scBag : FnScope ["self", "walker", "held", "number"] ["self", "walker"] (defScope mBag) := ⟨rfl, rfl, rfl, by decide +kernel, rfl, by decide +kernel, by decide +kernel⟩
theorem ok_bag (T : Txt K mg) : OkM P w K mg base CX0 2 "bag" ["self", "walker"] (spBag K) := by
  have GT := ok_takes (P := P) (w := w) (base := base) T
  refine mkM (st := mBag) T (List.mem_of_getElem? (i := 4) rfl) (fun _ _ _ _ _ _ us hl => match us, hl with | [_, _], _ => rfl) fun fd F => ?_
  refine F.ok scBag (fun vs H Q E h => ?_) (fun cdv A outer s H vs Q E hr h => ?_)
  · obtain ⟨L, B, ls, S, x, rfl, _⟩ := h
    rfl
  · obtain ⟨L, B, ls, S, x, rfl, TA, G, k⟩ := h
    have hu := hu_of hr
    obtain ⟨vs, hv, pl⟩ := TA.lt
    have l40 := G.l40
    have ln : vs.length = ls.length := plen pl
    refine ⟨_, pss_cons (ps_setLc (i := 2) (own := [("number", 3)]) (g := gName 3) (by rfl) scBag.nd rfl rfl (sw_true rfl rfl rfl (by decide +kernel)) (pi_range1 (by rfl) T.tRange (pa_cons (pe_callB call_len_seq (by rfl) T.tLen PySem.boot_len (pa_cons (pe_fld (pv 0) rfl) pa_nil)) pa_nil))
        (blkOk_by (own := [("number", 3)]) (N := ["self", "walker", "held", "number"]) (sc := defScope mBag) (by decide +kernel)) (fun _ _ _ _ _ => by exact (pg_name (i := 3) scBag.nd rfl (Or.inl rfl)))
        (fun _ _ _ _ _ => by exact (pts_one (pt_cmp (pc_din hu (pv 1) (pe_ix (ixl K) (pe_fldK K (pv 0)) (pv 3) (fun _ _ => rfl)))))) (fun _ _ _ _ _ => by exact (pv 3)))
      (pss_one (ps_ret (by exact (pe_lc (own := [("number", 3)]) (g := gName 3) (by rfl) scBag.nd (pi_list (pv 2))
        (blkOk_by (own := [("number", 3)]) (N := ["self", "walker", "held", "number"]) (sc := defScope mBag) (by decide +kernel)) (fun _ _ _ _ _ => by exact (pg_name (i := 3) scBag.nd rfl (Or.inl rfl)))
        (fun _ _ _ _ _ => by exact (pts_one (pt_val (pe_cmK K GT hr pass0 (pv 0) (pa_cons (pv 3) (pa_cons (pv 1) pa_nil)))))) (fun _ _ _ _ _ => by exact (pv 3)))))), ?_⟩
    let f1 : Nat → Bool := fun j => match S.hs[j]? with
      | some d => has d x
      | none => false
    let f2 : Nat → Bool := fun j => match ls[j]? with
      | some l => !free l x
      | none => false
    have hf : (List.range ls.length).filter (fun j => f1 j && f2 j) = bagN ls S.hs x := by
      refine List.filter_congr fun j m => ?_
      obtain ⟨l, hl⟩ := get_of_lt (List.mem_range.mp m)
      obtain ⟨d, hd⟩ := get_of_lt (l := S.hs) (i := j) (by rw [G.lh]; exact List.mem_range.mp m)
      show ((match S.hs[j]? with | some d => has d x | none => false) && (match ls[j]? with | some l => !free l x | none => false)) = takes ls S.hs x j
      rw [takes_at hl hd, hl, hd]
    refine ⟨_, rfl, L.x, _, L.dx, _, _, rfl, TA.ob, T.cl, T.nLetters, tf_letters, L.ll, vs, rfl, .inl (SqL.of hv), _, rfl, (small62 (by omega)).1, (small62 (by omega)).2, fun D hD => ?_⟩
    refine lc_range (lo := 0) (n := (vs.length : Int).toNat) (fun i H' => Kp [] H H' ∧ H' D = some (.lst (((List.range i).filter f1).map fun j => V.int (j : Nat)))) ⟨Kp.refl.nw hD, upd_same⟩ ?_ ?_
    · rintro i H1 hi ⟨K1, h1⟩
      rw [Int.zero_add]
      have TB := TA.kp0 K1
      have hi' : i < ls.length := by omega
      obtain ⟨d, hd⟩ := get_of_lt (l := S.hs) (i := i) (by rw [G.lh]; exact hi')
      obtain ⟨a, ha, hda⟩ := pget TB.hs.2 hd
      have hai : (L.hs.map V.ref)[i]? = some (.ref a) := by rw [List.getElem?_map, ha] <;> rfl
      refine ⟨rfl, _, rfl, _, rfl, L.x, _, L.dx, _, _, rfl, TB.ob, T.cl, T.nHolders, tf_holders, _, rfl, L.hl, _, _, _, rfl, rfl, SqL.of TB.hs.1, atI_nat hai, a, _, rfl, DGet.k (k := Sum.inl x) hda, _, rfl, ?_⟩
      have ef : f1 i = has d x := by
        show (match S.hs[i]? with | some d => has d x | none => false) = _
        rw [hd]
      have er : (List.range (i + 1)).filter f1 = (List.range i).filter f1 ++ if has d x = true then [i] else [] := by
        rw [List.range_succ, List.filter_append, List.filter_cons, ef]
        split <;> rfl
      refine ite2 (fun c => ?_) (fun c => ?_)
      · refine ⟨_, rfl, _, h1, line_of ?_, (K1.wn hD), ?_⟩
        · rw [List.length_map]
          have := filter_len_le (p := f1) (l := List.range i)
          rw [List.length_range] at this
          omega
        · rw [upd_same, er, if_pos (show has d x = true from c), List.map_append]
          rfl
      · refine ⟨K1, ?_⟩
        rw [h1, er, if_neg (show ¬ has d x = true from c), List.append_nil]
    · rintro H1 ⟨K1, h1⟩
      have en : (vs.length : Int).toNat = ls.length := by omega
      rw [en] at h1
      refine ⟨_, rfl, D, rfl, ⟨_, SqL.of h1⟩, fun D2 hD2 => ?_⟩
      have hD2' : H D2 = none := K1.free hD2
      have ne : D ≠ D2 := ne_of_none h1 hD2
      refine lc_list (K := K) (a := D) (xs := ((List.range ls.length).filter f1).map fun j => V.int (j : Nat)) (fun i H' => Kp [] H H' ∧ H' D = some (.lst (((List.range ls.length).filter f1).map fun j => V.int (j : Nat))) ∧
        H' D2 = some (.lst (((((List.range ls.length).filter f1).take i).filter f2).map fun j => V.int (j : Nat)))) ⟨K1.nw hD2, upd_of h1 ne, upd_same⟩ (fun i H' _ q => SqL.of q.2.1) ?_ ?_
      · rintro i y H2 hy ⟨K2, h2, h3⟩
        rw [List.getElem?_map] at hy
        cases hj : ((List.range ls.length).filter f1)[i]? with
        | none =>
          rw [hj] at hy
          cases hy
        | some j =>
          rw [hj] at hy
          obtain rfl := Option.some.inj hy
          have hjm : j < ls.length := List.mem_range.mp (List.mem_filter.mp (List.mem_of_getElem? hj)).1
          obtain ⟨l, hl⟩ := get_of_lt hjm
          have TB := TA.kp0 K2
          refine ⟨rfl, _, rfl, L.x, L.dx, _, rfl, TB.ob, tf_no (by decide +kernel), _, rfl, _, rfl, L, B, ls, S, j, l, x, rfl, TB, hl, _, rfl, ?_⟩
          have ef : f2 j = !free l x := by
            show (match ls[j]? with | some l => !free l x | none => false) = _
            rw [hl]
          have li : i < ((List.range ls.length).filter f1).length := lt_of_get hj
          have er : (((List.range ls.length).filter f1).take (i + 1)).filter f2 = (((List.range ls.length).filter f1).take i).filter f2 ++ if (!free l x) = true then [j] else [] := by
            rw [List.take_add_one, hj, List.filter_append]
            show _ ++ List.filter f2 [j] = _
            rw [List.filter_cons, ef]
            split <;> rfl
          refine ite2 (fun c => ?_) (fun c => ?_)
          · refine ⟨_, rfl, _, h3, line_of ?_, K2.wn hD2', upd_of h2 ne, ?_⟩
            · rw [List.length_map]
              have q1 := filter_len_le (p := f2) (l := ((List.range ls.length).filter f1).take i)
              have q2 := List.length_take_le i ((List.range ls.length).filter f1)
              have q3 := filter_len_le (p := f1) (l := List.range ls.length)
              rw [List.length_range] at q3
              omega
            · rw [upd_same, er, if_pos c, List.map_append]
              rfl
          · refine ⟨K2, h2, ?_⟩
            rw [h3, er, if_neg c, List.append_nil]
      · rintro H2 ⟨K2, h2, h3⟩
        refine k H2 D2 K2 hD2' ?_
        rw [h3, List.length_map, List.take_length, List.filter_filter]
        show some (HO.lst (List.map _ _)) = some (HO.lst (bagV ls S.hs x))
        unfold bagV
        rw [← hf]
        congr 4
        funext j
        exact Bool.and_comm _ _
end
end K46
set_option Elab.async false
set_option linter.all false
set_option maxRecDepth 100000
set_option maxHeartbeats 4000000
namespace K46
open PySem L2
/-! ### the Trip behind a change -/
section
variable {C : Addr} {H H' : Hp} {L : Lay} {B : Bk} {ls : List Lt} {S : Sy} {a : Addr} {n : Nat}
theorem TripAt.apart (t : TripAt C H L B ls S) : L.x ∉ L.hs ∧ L.ll ∉ L.hs ∧ L.hl ∉ L.hs ∧ L.al ∉ L.hs ∧ L.dl ∉ L.hs ∧ L.hs.Nodup ∧ L.x ≠ L.ll ∧ L.x ≠ L.hl ∧ L.x ≠ L.al ∧ L.x ≠ L.dl ∧ L.ll ≠ L.hl ∧ L.ll ≠ L.al ∧ L.ll ≠ L.dl ∧ L.hl ≠ L.al ∧ L.hl ≠ L.dl ∧ L.al ≠ L.dl := by
  have nd := t.nd
  unfold Lay.all at nd
  simp only [List.nodup_cons, List.mem_cons, not_or] at nd
  obtain ⟨⟨a1, a2, a3, a4, a5⟩, ⟨b1, b2, b3, b4⟩, ⟨c1, c2, c3⟩, ⟨d1, d2⟩, e1, f1⟩ := nd
  exact ⟨a5, b4, c3, d2, e1, f1, a1, a2, a3, a4, b1, b2, b3, c1, c2, d1⟩
/-- one letter's holders -/
theorem TripAt.setH (t : TripAt C H L B ls S) {d' : D1} (k : Kp [a] H H') (ha : L.hs[n]? = some a) (h' : H' a = some (.dK d')) : TripAt C H' L B ls { S with hs := S.hs.set n d' } := by
  have am : a ∈ L.hs := List.mem_of_getElem? ha
  obtain ⟨n1, n2, n3, n4, n5, nd, _⟩ := t.apart
  have ne : ∀ b, b ∉ L.hs → b ∉ [a] := fun b hb m => hb (by rw [List.mem_singleton.mp m]; exact am)
  exact ⟨k.at t.ob (ne _ n1), t.bk.kp k, t.lt.kp k (ne _ n2), ⟨k.at t.hs.1 (ne _ n3), pset t.hs.2 nd ha (fun b e m z q => k.at q fun m' => z (List.mem_singleton.mp m')) h'⟩, k.at t.ar (ne _ n4), k.at t.dl (ne _ n5), t.nd⟩
/-- what has come -/
theorem TripAt.setA (t : TripAt C H L B ls S) {ar' : List V} (k : Kp [L.al] H H') (h' : H' L.al = some (.lst ar')) : TripAt C H' L B ls { S with ar := ar' } := by
  obtain ⟨n1, n2, n3, n4, n5, nd, q1, q2, q3, q4, q5, q6, q7, q8, q9, q10⟩ := t.apart
  have ne : ∀ b, b ≠ L.al → b ∉ [L.al] := fun b hb m => hb (List.mem_singleton.mp m)
  exact ⟨k.at t.ob (ne _ q3), t.bk.kp k, t.lt.kp k (ne _ q6), ⟨k.at t.hs.1 (ne _ q8), pimp t.hs.2 fun b e m q => k.at q (ne _ fun z => n4 (z ▸ m))⟩, h', k.at t.dl (ne _ (Ne.symm q10)), t.nd⟩
/-- the deeds -/
theorem TripAt.setD (t : TripAt C H L B ls S) {ds' : List Addr} (k : Kp [L.dl] H H') (h' : H' L.dl = some (.lst (ds'.map V.ref))) : TripAt C H' L B ls { S with ds := ds' } := by
  obtain ⟨n1, n2, n3, n4, n5, nd, q1, q2, q3, q4, q5, q6, q7, q8, q9, q10⟩ := t.apart
  have ne : ∀ b, b ≠ L.dl → b ∉ [L.dl] := fun b hb m => hb (List.mem_singleton.mp m)
  exact ⟨k.at t.ob (ne _ q4), t.bk.kp k, t.lt.kp k (ne _ q7), ⟨k.at t.hs.1 (ne _ q9), pimp t.hs.2 fun b e m q => k.at q (ne _ fun z => n5 (z ▸ m))⟩, k.at t.ar (ne _ q10), h', t.nd⟩
/-- the meetings so far -/
theorem TripAt.setP (t : TripAt C H L B ls S) {ps' : List Int} {la' : Int} (k : Kp [L.x] H H') (h' : H' L.x = some (.ins C L.dx (tf L (ps'.count la' : Int) la'))) : TripAt C H' L B ls { S with ps := ps', la := la' } := by
  obtain ⟨n1, n2, n3, n4, n5, nd, q1, q2, q3, q4, q5, q6, q7, q8, q9, q10⟩ := t.apart
  have ne : ∀ b, L.x ≠ b → b ∉ [L.x] := fun b hb m => hb (List.mem_singleton.mp m).symm
  exact ⟨h', t.bk.kp k, t.lt.kp k (ne _ q1), ⟨k.at t.hs.1 (ne _ q2), pimp t.hs.2 fun b e m q => k.at q (ne _ fun z => n1 (z ▸ m))⟩, k.at t.ar (ne _ q3), k.at t.dl (ne _ q4), t.nd⟩
end
theorem ixN_nat {n i : Nat} (h : i < n) : ixN n (i : Int) = some i := by
  unfold ixN
  rw [if_pos (by omega), if_pos (by omega), Int.toNat_natCast]
/-- the refusals by number -/
def exn (k : Int) : Str := if k = 0 then "NoDeed" else if k = 1 then "NoMeeting" else if k = 2 then "NoLetter" else if k = 3 then "NoWalker" else if k = 4 then "NotThere" else if k = 5 then "HasIt" else if k = 6 then "NoPass" else "NoRoom"
theorem pcall {X : Cx} {E : XK} (tk : Takes X (fun cls d _ H => E cls d H)) : Passes (L2.CX X.prog X.w) X E := passes_call tk fun _ _ _ _ h => h
section
variable {P : Program} {w : World} {K : PySem.W.Frag} {mg : Str → Option Value} {base : Heap}
def spDrop (K : PySem.W.Frag) : Sp := fun vs H Q E => ∃ (L : Lay) (B : Bk) (ls : List Lt) (S : Sy) (n x : Int), vs = [.ref L.x, .int n, .int x] ∧ TripAt (CT K) H L B ls S ∧ Good B ls S ∧
  (due B ls S (.drop n x) = 8 → ∀ H', TripAt (CT K) H' L B ls { S with hs := S.hs.set n.toNat (dropK (dAt S.hs n) (vk x)) } → Kp L.hs H H' → Q .non H') ∧ (∀ k, due B ls S (.drop n x) = k → k ≠ 8 → E (.ref (He.ga K (exn k))) none H)
theorem scDrop : FnScope ["self", "number", "walker"] ["self", "number", "walker"] (defScope mDrop) := ⟨rfl, rfl, rfl, by decide +kernel, rfl, by decide +kernel, by decide +kernel⟩
theorem ok_drop (T : Txt K mg) : OkM P w K mg base (L2.CX P w) 4 "drop" ["self", "number", "walker"] (spDrop K) := by
  have GL := ok_lookL (P := P) (w := w) (base := base) T
  have GW := ok_walker (P := P) (w := w) (base := base) T
  have X3 := T.ex "NoWalker" (List.mem_of_getElem? (i := 3) rfl)
  have X4 := T.ex "NotThere" (List.mem_of_getElem? (i := 4) rfl)
  refine mkM (st := mDrop) T (List.mem_of_getElem? (i := 5) rfl) (fun _ _ _ _ _ _ us hl => match us, hl with | [_, _, _], _ => rfl) fun fd F => ?_
  refine F.okX scDrop (fun vs H Q E h => ?_) (fun cdv A outer s H vs Q E hr h => ?_)
  · obtain ⟨L, B, ls, S, n, x, rfl, _⟩ := h
    rfl
  · obtain ⟨L, B, ls, S, n, x, rfl, TA, G, kQ, kE⟩ := h
    have hu := hu_of hr
    refine ⟨_, pss_cons (ps_expr (pe_cm GL hr (pcall (takes_of rfl rfl rfl rfl)) (pv 0) (pa_cons (pv 1) pa_nil)))
      (pss_cons (ps_if (pt_not (pt_val (pe_cf GW hr pass0 (pa_cons (pe_fld (pv 0) rfl) (pa_cons (pv 2) pa_nil))))) (pss_one (ps_rz rfl (takes_of rfl rfl rfl rfl) X3)) pss_nil)
      (pss_cons (ps_if (pt_cmp (pc_dnotin hu (pv 2) (pe_ix ix_list (pe_fld (pv 0) rfl) (pv 1) (fun _ _ => rfl)))) (pss_one (ps_rz rfl (takes_of rfl rfl rfl rfl) X4)) pss_nil)
      (pss_one (ps_expr (pe_dpop1 (pe_ix ix_list (pe_fld (pv 0) rfl) (pv 1) (fun _ _ => rfl)) (pv 2) ⟨rfl, rfl, rfl, rfl⟩))))), ?_⟩
    refine ⟨_, rfl, L.x, L.dx, _, rfl, TA.ob, tf_no (by decide +kernel), _, rfl, L, B, ls, S, n, rfl, TA, fun hn => ?_, fun hn => kE 2 (by rw [due_d, if_pos hn]) (by decide)⟩
    refine ⟨_, rfl, L.x, _, L.dx, _, _, rfl, TA.ob, T.cl, T.nBook, tf_book, _, rfl, L.b, B, x, rfl, TA.bk, _, rfl, ?_⟩
    cases hx : inR x B.rooms.length with
    | false => exact iteT (kE 3 (by rw [due_d, hn, if_neg (by decide), if_pos hx]) (by decide))
    | true =>
      refine iteF ?_
      obtain ⟨i, rfl, hi⟩ := inR_nat hn
      obtain ⟨d, hd⟩ := get_of_lt (l := S.hs) (i := i) (by rw [G.lh]; exact hi)
      obtain ⟨a, ha, hda⟩ := pget TA.hs.2 hd
      have hai : (L.hs.map V.ref)[i]? = some (.ref a) := by rw [List.getElem?_map, ha] <;> rfl
      have de : dAt S.hs (i : Int) = d := dAt_eq hd
      refine ⟨_, rfl, _, rfl, L.x, _, L.dx, _, _, rfl, TA.ob, T.cl, T.nHolders, tf_holders, _, rfl, L.hl, _, _, _, rfl, rfl, SqL.of TA.hs.1, atI_nat hai, a, _, rfl, DGet.k (k := Sum.inl x) hda, _, rfl, ?_⟩
      rcases has_snc (G.ih d (List.mem_of_getElem? hd)) x with ⟨h1, t, h2, h3⟩ | ⟨h1, h2, h3⟩
      · rw [h3]
        refine iteF ?_
        refine ⟨_, rfl, L.x, _, L.dx, _, _, rfl, TA.ob, T.cl, T.nHolders, tf_holders, _, rfl, L.hl, _, _, _, rfl, rfl, SqL.of TA.hs.1, atI_nat hai, a, rfl, .inl ⟨_, .of hda⟩, _, rfl, d, Sum.inl x, _, hda, rfl, h3, ?_⟩
        refine kQ (by rw [due_drop hi hd, hx, if_neg (by decide), if_pos h1]) _ ?_ (Kp.refl.wr hda (fun z => z) (List.mem_of_getElem? ha))
        rw [de, Int.toNat_natCast]
        exact TA.setH (Kp.refl.wr hda (fun z => z) (List.mem_singleton.mpr rfl)) ha upd_same
      · rw [h3]
        exact iteT (kE 4 (by rw [due_drop hi hd, hx, if_neg (by decide), h1, if_neg (by decide)]) (by decide))
/-- what has come is noted -/
def spLookCome (K : PySem.W.Frag) : Sp := fun vs H Q _ => ∃ (L : Lay) (B : Bk) (ls : List Lt) (S : Sy) (n : Nat) (x t : Int) (l : Lt) (d : D1) (v : V), vs = [.ref L.x, .int n, .int x] ∧ TripAt (CT K) H L B ls S ∧ ls[n]? = some l ∧ S.hs[n]? = some d ∧ valV d (vk x) = some (.int t) ∧ S.ar[n]? = some v ∧
  ∀ H', TripAt (CT K) H' L B ls { S with ar := arNew l S.ar n x t } → Kp [L.al] H H' → Q .non H'
theorem scCom : FnScope ["self", "number", "walker", "wish", "last"] ["self", "number", "walker"] (defScope mLookWhetherCome) := ⟨rfl, rfl, rfl, by decide +kernel, rfl, by decide +kernel, by decide +kernel⟩
theorem ok_lookC (T : Txt K mg) : OkM P w K mg base CX0 1 "look_whether_come" ["self", "number", "walker"] (spLookCome K) := by
  refine mkM (st := mLookWhetherCome) T (List.mem_of_getElem? (i := 1) rfl) (fun _ _ _ _ _ _ us hl => match us, hl with | [_, _, _], _ => rfl) fun fd F => ?_
  refine F.ok scCom (fun vs H Q E h => ?_) (fun cdv A outer s H vs Q E hr h => ?_)
  · obtain ⟨L, B, ls, S, n, x, t, l, d, v, rfl, _⟩ := h
    rfl
  · obtain ⟨L, B, ls, S, n, x, t, l, d, v, rfl, TA, hl, hd, ht, hv, k⟩ := h
    have hu := hu_of hr
    obtain ⟨vs, hvs, pl⟩ := TA.lt
    obtain ⟨_, h1, a, rfl, h2⟩ := pget pl hl
    refine ⟨_, pss_cons (ps_asg (pe_slice sl_tup (pe_ix ix_list (pe_fld (pv 0) rfl) (pv 1) (fun _ _ => rfl)) (po_some pe_int) po_none) (pg_tup (by rfl) (pgs_cons (pg_name (i := 3) scCom.nd rfl (.inl rfl)) (pgs_cons (pg_name (i := 4) scCom.nd rfl (.inl rfl)) pgs_nil))))
      (pss_one (ps_if (PW.pt (pw_and (pt_cmpR op_eq (pv 2) (pv 3) (nomark _)) (pw_and (pt_cmpR op_isN (pe_ix ix_list (pe_fld (pv 0) rfl) (pv 1) (fun _ _ => rfl)) pe_non (nomark _))
        (pw_and1 (pt_cmpR op_le (pe_dget hu (pe_ix ix_list (pe_fld (pv 0) rfl) (pv 1) (fun _ _ => rfl)) (pv 2) (fun _ _ => rfl)) (pv 4) (nomark _))))))
        (pss_one (ps_asg (pe_dget hu (pe_ix ix_list (pe_fld (pv 0) rfl) (pv 1) (fun _ _ => rfl)) (pv 2) (fun _ _ => rfl)) (pg_sub (pe_fld (pv 0) rfl) (pv 1) set_list))) pss_nil)), ?_⟩
    refine ⟨_, rfl, L.x, _, L.dx, _, _, rfl, TA.ob, T.cl, T.nLetters, tf_letters, _, rfl, L.ll, _, _, _, rfl, rfl, SqL.of hvs, atI_nat h1, 2, rfl, a, _, rfl, SqT.of h2, (by show ¬ (HT.sIx 4 0 (some 2) = 0 ∧ HT.sIx 4 4 none = 4); decide), fun p hp => ?_⟩
    refine ⟨p, [.int l.wi, .int l.la], rfl, SqT.of upd_same, rfl, _, _, rfl, _, _, rfl, rfl, ?_⟩
    have K1 : Kp [] H (upd H p (.tup (cutV (ltV l) (some 2) none))) := Kp.refl.nw hp
    have TB := TA.kp0 K1
    obtain ⟨b, hb, hdb⟩ := pget TB.hs.2 hd
    have hbi : (L.hs.map V.ref)[n]? = some (.ref b) := by rw [List.getElem?_map, hb] <;> rfl
    have ln : n < S.ar.length := lt_of_get hv
    refine ⟨_, rfl, _, rfl, rfl, _, rfl, ite2 (fun c => ?_) (fun c => ?_)⟩
    · have c1 : x = l.wi := V.int.inj (of_decide_eq_true c)
      refine ⟨_, rfl, L.x, _, L.dx, _, _, rfl, TB.ob, T.cl, T.nArrived, tf_arrived, _, rfl, L.al, _, _, _, rfl, rfl, SqL.of TB.ar, atI_nat hv, rfl, _, rfl, ite2 (fun c => ?_) (fun c => ?_)⟩
      · have c2 : v = .non := of_decide_eq_true c
        refine ⟨_, rfl, L.x, _, L.dx, _, _, rfl, TB.ob, T.cl, T.nHolders, tf_holders, _, rfl, L.hl, _, _, _, rfl, rfl, SqL.of TB.hs.1, atI_nat hbi, _, rfl, b, _, rfl, ht ▸ DGet.k (k := Sum.inl x) hdb, _, rfl, t, l.la, rfl, rfl, _, rfl, ite2 (fun c => ?_) (fun c => ?_)⟩
        · have c3 : t ≤ l.la := of_decide_eq_true c
          refine ⟨_, rfl, L.x, _, L.dx, _, _, rfl, TB.ob, T.cl, T.nHolders, tf_holders, _, rfl, L.hl, _, _, _, rfl, rfl, SqL.of TB.hs.1, atI_nat hbi, _, rfl, b, _, rfl, ht ▸ DGet.k (k := Sum.inl x) hdb, _, rfl, L.x, _, L.dx, _, _, rfl, TB.ob, T.cl, T.nArrived, tf_arrived, _, rfl, L.al, _, n, n, rfl, rfl, TB.ar, ixN_nat ln, ?_⟩
          have K2 : ∀ o, Kp [L.al] H (upd (upd H p (.tup (cutV (ltV l) (some 2) none))) L.al o) := fun o => K1.nil.wr TB.ar (fun z => z) (List.mem_singleton.mpr rfl)
          refine k _ ?_ (K2 _)
          have e : arNew l S.ar n x t = S.ar.set n (.int t) := if_pos ⟨c1, by rw [hv, c2], c3⟩
          rw [e]
          exact TB.setA (Kp.refl.wr TB.ar (fun z => z) (List.mem_singleton.mpr rfl)) upd_same
        · have e : arNew l S.ar n x t = S.ar := if_neg fun z => c (decide_eq_true z.2.2)
          rw [e] at k
          exact k _ TB K1.nil
      · have e : arNew l S.ar n x t = S.ar := if_neg fun z => c (decide_eq_true (Option.some.inj (hv.symm.trans z.2.1)))
        rw [e] at k
        exact k _ TB K1.nil
    · have e : arNew l S.ar n x t = S.ar := if_neg fun z => c (decide_eq_true (congrArg V.int z.1))
      rw [e] at k
      exact k _ TB K1.nil
end
end K46
set_option Elab.async false
set_option linter.all false
set_option maxRecDepth 100000
set_option maxHeartbeats 4000000
namespace K46
open PySem L2
theorem bagV_len {ls : List Lt} {hs : List D1} {x : Int} : (bagV ls hs x).length = (bagN ls hs x).length := List.length_map _
section
variable {P : Program} {w : World} {K : PySem.W.Frag} {mg : Str → Option Value} {base : Heap}
def spLookTaker (K : PySem.W.Frag) : Sp := fun vs H Q E => ∃ (L : Lay) (B : Bk) (ls : List Lt) (S : Sy) (m n : Nat) (tk r : Int) (mt : Mt) (l : Lt) (d : D1), vs = [.ref L.x, .int m, .int n, .int tk] ∧ TripAt (CT K) H L B ls S ∧ Good B ls S ∧
  B.ms[m]? = some mt ∧ S.la ≤ m ∧ ls[n]? = some l ∧ S.hs[n]? = some d ∧ 0 ≤ tk ∧ B.rooms[tk.toNat]? = some r ∧
  (has d tk = true → E (.ref (He.ga K "HasIt")) none H) ∧
  (has d tk = false → mt.m ≤ (S.ps.count (m : Int) : Int) → E (.ref (He.ga K "NoPass")) none H) ∧
  (has d tk = false → (S.ps.count (m : Int) : Int) < mt.m → free l tk = false → r ≤ ((bagN ls S.hs tk).length : Int) → ∀ H', Kp [] H H' → E (.ref (He.ga K "NoRoom")) none H') ∧
  (has d tk = false → (S.ps.count (m : Int) : Int) < mt.m → (free l tk = true ∨ ((bagN ls S.hs tk).length : Int) < r) → ∀ H', Kp [] H H' → Q .non H')
theorem scLookT : FnScope ["self", "meeting", "number", "taker"] ["self", "meeting", "number", "taker"] (defScope mLookTaker) := ⟨rfl, rfl, rfl, by decide +kernel, rfl, by decide +kernel, by decide +kernel⟩
theorem ok_lookT (T : Txt K mg) : OkM P w K mg base (L2.CX P w) 3 "look_taker" ["self", "meeting", "number", "taker"] (spLookTaker K) := by
  have GP := ok_passed (P := P) (w := w) (base := base) T
  have GR := ok_takes (P := P) (w := w) (base := base) T
  have GB := ok_bag (P := P) (w := w) (base := base) T
  have X5 := T.ex "HasIt" (List.mem_of_getElem? (i := 5) rfl)
  have X6 := T.ex "NoPass" (List.mem_of_getElem? (i := 6) rfl)
  have X7 := T.ex "NoRoom" (List.mem_of_getElem? (i := 7) rfl)
  refine mkM (st := mLookTaker) T (List.mem_of_getElem? (i := 7) rfl) (fun _ _ _ _ _ _ us hl => match us, hl with | [_, _, _, _], _ => rfl) fun fd F => ?_
  refine F.okX scLookT (fun vs H Q E h => ?_) (fun cdv A outer s H vs Q E hr h => ?_)
  · obtain ⟨L, B, ls, S, m, n, tk, r, mt, l, d, rfl, _⟩ := h
    rfl
  · obtain ⟨L, B, ls, S, m, n, tk, r, mt, l, d, rfl, TA, G, hm, hla, hl, hd, h0, hrm, k5, k6, k7, k8⟩ := h
    have hu := hu_of hr
    have hr1 : Room 1 _ := hr.mono (by decide)
    refine ⟨_, pss_cons (ps_if (pt_cmp (pc_din hu (pv 3) (pe_ix ix_list (pe_fld (pv 0) rfl) (pv 2) (fun _ _ => rfl)))) (pss_one (ps_rz rfl (takes_of rfl rfl rfl rfl) X5)) pss_nil)
      (pss_cons (ps_if (pt_cmpR op_eq (pe_cm GP hr1 pass0 (pv 0) (pa_cons (pv 1) pa_nil)) (pe_ix ix_tup (pe_ix ix_tup (pe_ix ix_tup (pe_fld (pv 0) rfl) pe_int (fun _ _ => rfl)) (pv 1) (fun _ _ => rfl)) pe_int (fun _ _ => rfl)) (nomark _)) (pss_one (ps_rz rfl (takes_of rfl rfl rfl rfl) X6)) pss_nil)
      (pss_one (ps_if (PW.pt (pw_and (pt_val (pe_cm GR hr1 pass0 (pv 0) (pa_cons (pv 2) (pa_cons (pv 3) pa_nil)))) (pw_and1 (pt_cmpR op_eq (pe_callB call_len_seq (by rfl) T.tLen PySem.boot_len (pa_cons (pe_cm GB hr pass0 (pv 0) (pa_cons (pv 3) pa_nil)) pa_nil))
        (pe_ix ix_tup (pe_ix ix_tup (pe_fld (pv 0) rfl) pe_int (fun _ _ => rfl)) (pv 3) (fun _ _ => rfl)) (nomark _))))) (pss_one (ps_rz rfl (takes_of rfl rfl rfl rfl) X7)) pss_nil))), ?_⟩
    obtain ⟨a, ha, hda⟩ := pget TA.hs.2 hd
    have hai : (L.hs.map V.ref)[n]? = some (.ref a) := by rw [List.getElem?_map, ha] <;> rfl
    refine ⟨_, rfl, _, rfl, L.x, _, L.dx, _, _, rfl, TA.ob, T.cl, T.nHolders, tf_holders, _, rfl, L.hl, _, _, _, rfl, rfl, SqL.of TA.hs.1, atI_nat hai, a, _, rfl, DGet.k (k := Sum.inl tk) hda, _, rfl, ?_⟩
    refine ite2 (fun c => k5 c) (fun c => ?_)
    have c5 : has d tk = false := Bool.eq_false_iff.mpr c
    obtain ⟨rb, mb, vms, b1, b2, b3, b4⟩ := TA.bk
    obtain ⟨_, m1, am, rfl, m2⟩ := pget b4 hm
    have cnt := G.cn m mt hm
    refine ⟨_, rfl, L.x, L.dx, _, rfl, TA.ob, tf_no (by decide +kernel), _, rfl, L, B, ls, S, m, rfl, TA, G, hla, _, rfl, L.x, _, L.dx, _, _, rfl, TA.ob, T.cl, T.nBook, tf_book, L.b, _, 1, _, rfl, rfl, SqT.of b1, rfl, _, rfl, mb, _, _, _, rfl, rfl, SqT.of b3, atI_nat m1, am, _, 3, _, rfl, rfl, SqT.of m2, rfl, rfl, _, rfl, ?_⟩
    refine ite2 (fun c => ?_) (fun c => ?_)
    · have e : ((S.ps.count (m : Int) : Nat) : Int) = mt.m := V.int.inj (of_decide_eq_true c)
      exact k6 c5 (by omega)
    · have e : ((S.ps.count (m : Int) : Nat) : Int) ≠ mt.m := fun z => c (decide_eq_true (congrArg V.int z))
      have c6 : (S.ps.count (m : Int) : Int) < mt.m := by omega
      refine ⟨_, rfl, L.x, L.dx, _, rfl, TA.ob, tf_no (by decide +kernel), _, rfl, _, rfl, L, B, ls, S, n, l, tk, rfl, TA, hl, _, rfl, ?_⟩
      cases hf : free l tk with
      | true =>
        refine iteF (iteF ?_)
        exact k8 c5 c6 (.inl hf) H Kp.refl
      | false =>
        refine iteT ⟨_, rfl, L.x, L.dx, _, rfl, TA.ob, tf_no (by decide +kernel), _, rfl, L, B, ls, S, tk, rfl, TA, G, fun H1 p K1 np hp => ?_⟩
        have TB := TA.kp0 K1
        have htk : (B.rooms.map V.int)[tk.toNat]? = some (.int r) := by rw [List.getElem?_map, hrm] <;> rfl
        have htk' : atI (B.rooms.map V.int) tk = some (.int r) := at_of (by omega) htk
        have bg := G.bg tk.toNat r hrm
        rw [show ((tk.toNat : Nat) : Int) = tk by omega] at bg
        refine ⟨p, _, rfl, .inl (SqL.of hp), _, rfl, L.x, _, L.dx, _, _, rfl, TB.ob, T.cl, T.nBook, tf_book, L.b, _, 0, _, rfl, rfl, SqT.of (K1.tup b1), rfl, _, rfl, rb, _, _, _, rfl, rfl, SqT.of (K1.tup b2), htk', rfl, _, rfl, ?_⟩
        rw [bagV_len]
        refine ite2 (fun c => ?_) (fun c => ?_)
        · have e : ((bagN ls S.hs tk).length : Int) = r := V.int.inj (of_decide_eq_true c)
          exact k7 c5 c6 hf (by omega) H1 K1
        · have e : ((bagN ls S.hs tk).length : Int) ≠ r := fun z => c (decide_eq_true (congrArg V.int z))
          exact k8 c5 c6 (.inr (by omega)) H1 K1
/-- a deed that passes, but for what a give takes and the list of deeds -/
def stepA (B : Bk) (ls : List Lt) (S : Sy) (m n x : Int) : Sy :=
  { hs := S.hs.set n.toNat (putK (dAt S.hs n) (vk ((mtAt B m).a + (mtAt B m).b - x)) (.int (mtAt B m).w)), ar := arNew (ltAt ls n) S.ar n.toNat ((mtAt B m).a + (mtAt B m).b - x) (mtAt B m).w, ps := S.ps ++ [m], la := m, ds := S.ds }
theorem dueP_out {B : Bk} {ls : List Lt} {S : Sy} {mt : Mt} {l : Lt} {d : D1} {m x : Int} (h : x ≠ mt.a ∧ x ≠ mt.b) : dueP B ls S mt l d m x = 3 := if_pos h
theorem dueP_no {B : Bk} {ls : List Lt} {S : Sy} {mt : Mt} {l : Lt} {d : D1} {m x : Int} (h : x = mt.a ∨ x = mt.b) (e : snc d x = none) : dueP B ls S mt l d m x = 4 := by
  unfold dueP
  rw [if_neg (fun z => h.elim z.1 z.2), e]
theorem dueP_in {B : Bk} {ls : List Lt} {S : Sy} {mt : Mt} {l : Lt} {d : D1} {m x t : Int} (h : x = mt.a ∨ x = mt.b) (e : snc d x = some t) : dueP B ls S mt l d m x =
    if mt.w ≤ t then 4 else if has d (mt.a + mt.b - x) = true then 5 else if mt.m ≤ (S.ps.count m : Int) then 6 else if free l (mt.a + mt.b - x) = false ∧ (B.rooms[(mt.a + mt.b - x).toNat]?).getD 0 ≤ ((bagN ls S.hs (mt.a + mt.b - x)).length : Int) then 7 else 8 := by
  unfold dueP
  rw [if_neg (fun z => h.elim z.1 z.2), e]
theorem taker_room {B : Bk} (b : BkOk B) {mt : Mt} (hm : mt ∈ B.ms) {x : Int} (h : x = mt.a ∨ x = mt.b) : 0 ≤ mt.a + mt.b - x ∧ ∃ r, B.rooms[(mt.a + mt.b - x).toNat]? = some r := by
  obtain ⟨h1, h2, h3, h4, _⟩ := b.m2 mt hm
  have q : 0 ≤ mt.a + mt.b - x ∧ mt.a + mt.b - x < (B.rooms.length : Int) := by omega
  exact ⟨q.1, get_of_lt (by omega)⟩
def spPass (K : PySem.W.Frag) : Sp := fun vs H Q E => ∃ (L : Lay) (B : Bk) (ls : List Lt) (S : Sy) (m n x : Int), vs = [.ref L.x, .int m, .int n, .int x] ∧ TripAt (CT K) H L B ls S ∧ Good B ls S ∧ S.ds.length ≤ 100 ∧
  (due B ls S (.pass false m n x) = 8 → ∀ H', TripAt (CT K) H' L B ls (stepA B ls S m n x) → Kp (L.x :: L.al :: L.hs) H H' → Q .non H') ∧ (∀ k, due B ls S (.pass false m n x) = k → k ≠ 8 → ∀ H', Kp [] H H' → E (.ref (He.ga K (exn k))) none H')
theorem scPass : FnScope ["self", "meeting", "number", "giver", "one", "other", "when", "many"] ["self", "meeting", "number", "giver"] (defScope mPassOn) := ⟨rfl, rfl, rfl, by decide +kernel, rfl, by decide +kernel, by decide +kernel⟩
theorem ok_pass (T : Txt K mg) : OkM P w K mg base (L2.CX P w) 4 "pass_on" ["self", "meeting", "number", "giver"] (spPass K) := by
  have GN := ok_numOf (P := P) (w := w) (base := base) T
  have GL := ok_lookL (P := P) (w := w) (base := base) T
  have GT := ok_lookT (P := P) (w := w) (base := base) T
  have GP := ok_passed (P := P) (w := w) (base := base) T
  have GC := ok_lookC (P := P) (w := w) (base := base) T
  have X1 := T.ex "NoMeeting" (List.mem_of_getElem? (i := 1) rfl)
  have X3 := T.ex "NoWalker" (List.mem_of_getElem? (i := 3) rfl)
  have X4 := T.ex "NotThere" (List.mem_of_getElem? (i := 4) rfl)
  refine mkM (st := mPassOn) T (List.mem_of_getElem? (i := 8) rfl) (fun _ _ _ _ _ _ us hl => match us, hl with | [_, _, _, _], _ => rfl) fun fd F => ?_
  refine F.okX scPass (fun vs H Q E h => ?_) (fun cdv A outer s H vs Q E hr h => ?_)
  · obtain ⟨L, B, ls, S, m, n, x, rfl, _⟩ := h
    rfl
  · obtain ⟨L, B, ls, S, m, n, x, rfl, TA, G, hds, kQ, kE⟩ := h
    have hu := hu_of hr
    have hr1 : Room 1 _ := hr.mono (by decide)
    refine ⟨_, pss_cons (ps_if (PW.pt (pw_or (pt_not (pt_val (pe_cf GN hr pass0 (pa_cons (pe_fld (pv 0) rfl) (pa_cons (pv 1) pa_nil))))) (pw_or1 (pt_cmpR op_lt (pv 1) (pe_fld (pv 0) rfl) (nomark _))))) (pss_one (ps_rz rfl (takes_of rfl rfl rfl rfl) X1)) pss_nil)
      (pss_cons (ps_expr (pe_cm GL hr (pcall (takes_of rfl rfl rfl rfl)) (pv 0) (pa_cons (pv 2) pa_nil)))
      (pss_cons (ps_asg (pe_ix ix_tup (pe_ix ix_tup (pe_fld (pv 0) rfl) pe_int (fun _ _ => rfl)) (pv 1) (fun _ _ => rfl)) (pg_tup (by rfl) (pgs_cons (pg_name (i := 4) scPass.nd rfl (.inl rfl)) (pgs_cons (pg_name (i := 5) scPass.nd rfl (.inl rfl)) (pgs_cons (pg_name (i := 6) scPass.nd rfl (.inl rfl)) (pgs_cons (pg_name (i := 7) scPass.nd rfl (.inl rfl)) pgs_nil))))))
      (pss_cons (ps_if (PW.pt (pw_and (pt_cmpR op_ne (pv 3) (pv 4) (nomark _)) (pw_and1 (pt_cmpR op_ne (pv 3) (pv 5) (nomark _))))) (pss_one (ps_rz rfl (takes_of rfl rfl rfl rfl) X3)) pss_nil)
      (pss_cons (ps_if (PW.pt (pw_or (pt_cmp (pc_dnotin hu (pv 3) (pe_ix ix_list (pe_fld (pv 0) rfl) (pv 2) (fun _ _ => rfl)))) (pw_or1 (pt_cmpR op_ge (pe_dget hu (pe_ix ix_list (pe_fld (pv 0) rfl) (pv 2) (fun _ _ => rfl)) (pv 3) (fun _ _ => rfl)) (pv 6) (nomark _))))) (pss_one (ps_rz rfl (takes_of rfl rfl rfl rfl) X4)) pss_nil)
      (pss_cons (ps_expr (pe_cm GT hr (pcall (takes_of rfl rfl rfl rfl)) (pv 0) (pa_cons (pv 1) (pa_cons (pv 2) (pa_cons (pe_op op_sub (pe_op op_add (pv 4) (pv 5)) (pv 3)) pa_nil)))))
      (pss_cons (ps_fld (pv 0) (pe_op op_add (pe_cm GP hr1 pass0 (pv 0) (pa_cons (pv 1) pa_nil)) pe_int) rfl)
      (pss_cons (ps_fld (pv 0) (pv 1) rfl)
      (pss_cons (ps_dput hu (pe_ix ix_list (pe_fld (pv 0) rfl) (pv 2) (fun _ _ => rfl)) (pe_op op_sub (pe_op op_add (pv 4) (pv 5)) (pv 3)) (pv 6) rfl)
      (pss_one (ps_expr (pe_cm GC hr1 pass0 (pv 0) (pa_cons (pv 2) (pa_cons (pe_op op_sub (pe_op op_add (pv 4) (pv 5)) (pv 3)) pa_nil))))))))))))), ?_⟩
    refine ⟨_, rfl, L.x, _, L.dx, _, _, rfl, TA.ob, T.cl, T.nBook, tf_book, _, rfl, L.b, B, m, rfl, TA.bk, _, rfl, ?_⟩
    cases hm : inR m B.ms.length with
    | false => exact iteT (iteT (kE 1 (by rw [due_p, if_pos (.inl hm)]) (by decide) H Kp.refl))
    | true =>
    refine iteF ⟨_, rfl, _, rfl, L.x, _, L.dx, _, _, rfl, TA.ob, T.cl, T.nLatest, tf_latest, m, S.la, rfl, rfl, _, rfl, ite2 (fun c => kE 1 (by rw [due_p, if_pos (.inr (of_decide_eq_true c))]) (by decide) H Kp.refl) (fun c => ?_)⟩
    have hla : ¬ m < S.la := fun z => c (decide_eq_true z)
    have h1 : ¬ (inR m B.ms.length = false ∨ m < S.la) := fun z => z.elim (fun e => by rw [hm] at e; cases e) hla
    refine ⟨_, rfl, L.x, L.dx, _, rfl, TA.ob, tf_no (by decide +kernel), _, rfl, L, B, ls, S, n, rfl, TA, fun hn => ?_, fun hn => kE 2 (by rw [due_p, if_neg h1, if_pos hn]) (by decide) H Kp.refl⟩
    obtain ⟨mi, rfl, hmi⟩ := inR_nat hm
    obtain ⟨ni, rfl, hni⟩ := inR_nat hn
    obtain ⟨mt, hmt⟩ := get_of_lt hmi
    obtain ⟨l, hl⟩ := get_of_lt hni
    obtain ⟨d, hd⟩ := get_of_lt (l := S.hs) (i := ni) (by rw [G.lh]; exact hni)
    obtain ⟨v, hv⟩ := get_of_lt (l := S.ar) (i := ni) (by rw [G.lr]; exact hni)
    have hla : S.la ≤ (mi : Int) := by omega
    have hdue : due B ls S (.pass false mi ni x) = dueP B ls S mt l d mi x := due_pass hmt hla hl hd
    have hsa : stepA B ls S mi ni x = { hs := S.hs.set ni (putK d (vk (mt.a + mt.b - x)) (.int mt.w)), ar := arNew l S.ar ni (mt.a + mt.b - x) mt.w, ps := S.ps ++ [(mi : Int)], la := mi, ds := S.ds } := by
      unfold stepA
      rw [dAt_eq hd, ltAt_eq hl, mtAt_eq hmt, Int.toNat_natCast]
    obtain ⟨rb, mb, vms, b1, b2, b3, b4⟩ := TA.bk
    obtain ⟨_, m1, am, rfl, m2⟩ := pget b4 hmt
    obtain ⟨a, ha, hda⟩ := pget TA.hs.2 hd
    have hai : (L.hs.map V.ref)[ni]? = some (.ref a) := by rw [List.getElem?_map, ha] <;> rfl
    refine ⟨_, rfl, L.x, _, L.dx, _, _, rfl, TA.ob, T.cl, T.nBook, tf_book, L.b, _, 1, _, rfl, rfl, SqT.of b1, rfl, _, rfl, mb, _, _, _, rfl, rfl, SqT.of b3, atI_nat m1, am, mtV mt, rfl, SqT.of m2, rfl, _, _, rfl, _, _, rfl, _, _, rfl, _, _, rfl, rfl, ?_⟩
    -- one of the two
    refine (fun (r : (x = mt.a ∨ x = mt.b) → _) => ⟨_, rfl, _, rfl, rfl, _, rfl, ite2 (fun c1 => ⟨_, rfl, _, rfl, rfl, _, rfl, ite2 (fun c2 => ?A) (fun c2 => r (.inr ?B))⟩) (fun c1 => iteF (r (.inl ?C)))⟩) (fun hw => ?R)
    case A =>
      refine kE 3 (hdue.trans (dueP_out ⟨fun z => ?_, fun z => ?_⟩)) (by decide) H Kp.refl
      · rw [z] at c1
        simp at c1
      · rw [z] at c2
        simp at c2
    case B => simpa using c2
    case C => simpa using c1
    -- it has the letter by then
    refine ⟨_, rfl, _, rfl, L.x, _, L.dx, _, _, rfl, TA.ob, T.cl, T.nHolders, tf_holders, _, rfl, L.hl, _, _, _, rfl, rfl, SqL.of TA.hs.1, atI_nat hai, a, _, rfl, DGet.k (k := Sum.inl x) hda, _, rfl, ?_⟩
    rcases has_snc (G.ih d (List.mem_of_getElem? hd)) x with ⟨g1, t, g2, g3⟩ | ⟨g1, g2, g3⟩
    rotate_left
    · rw [g3]
      exact iteT (iteT (kE 4 (hdue.trans (dueP_no hw g2)) (by decide) H Kp.refl))
    rw [g3]
    have hin := hdue.trans (dueP_in (B := B) (ls := ls) (S := S) (l := l) (m := mi) hw g2)
    refine iteF ⟨_, rfl, L.x, _, L.dx, _, _, rfl, TA.ob, T.cl, T.nHolders, tf_holders, _, rfl, L.hl, _, _, _, rfl, rfl, SqL.of TA.hs.1, atI_nat hai, _, rfl, a, _, rfl, g3 ▸ DGet.k (k := Sum.inl x) hda, _, rfl, t, mt.w, rfl, rfl, _, rfl, ite2 (fun c => kE 4 (hin.trans (if_pos (of_decide_eq_true c))) (by decide) H Kp.refl) (fun c => ?_)⟩
    have c4 : ¬ mt.w ≤ t := fun z => c (decide_eq_true z)
    obtain ⟨t0, r, hr0⟩ := taker_room G.b (List.mem_of_getElem? hmt) hw
    refine ⟨_, rfl, L.x, L.dx, _, rfl, TA.ob, tf_no (by decide +kernel), _, rfl, _, rfl, _, rfl, _, rfl, mt.a, mt.b, rfl, rfl, _, rfl, _, x, rfl, rfl, L, B, ls, S, mi, ni, mt.a + mt.b - x, r, mt, l, d, rfl, TA, G, hmt, hla, hl, hd, t0, hr0,
      fun h => kE 5 (hin.trans (by rw [if_neg c4, if_pos h])) (by decide) H Kp.refl, fun h h6 => kE 6 (hin.trans (by rw [if_neg c4, h, if_neg (by decide), if_pos h6])) (by decide) H Kp.refl,
      fun h h6 h7 h8 H1 K1 => kE 7 (hin.trans (by rw [if_neg c4, h, if_neg (by decide), if_neg (by omega), h7, hr0, if_pos ⟨rfl, h8⟩])) (by decide) H1 K1, fun h5 h6 h7 H1 K1 => ?_⟩
    have d8 : due B ls S (.pass false mi ni x) = 8 := hin.trans (by
      rw [if_neg c4, h5, if_neg (by decide), if_neg (by omega), hr0]
      refine if_neg fun z => ?_
      rcases h7 with h7 | h7
      · rw [h7] at z
        exact Bool.noConfusion z.1
      · have q : r ≤ ((bagN ls S.hs (mt.a + mt.b - x)).length : Int) := z.2
        omega)
    have TB := TA.kp0 K1
    -- passed, latest
    refine ⟨_, rfl, L.x, L.dx, _, rfl, TB.ob, tf_no (by decide +kernel), _, rfl, L, B, ls, S, mi, rfl, TB, G, hla, _, _, rfl, rfl, _, rfl, L.x, _, L.dx, _, rfl, TB.ob, T.cl, T.nPassed, (by show 7 < 1000; decide), ?_⟩
    refine ⟨_, rfl, _, rfl, L.x, _, L.dx, _, rfl, upd_same, T.cl, T.nLatest, (by show 7 < 1000; decide), ?_⟩
    have TC : TripAt (CT K) (upd (upd H1 L.x (.ins (CT K) L.dx (putF "passed" (.int ((S.ps.count (mi : Int) : Int) + 1)) (tf L (S.ps.count S.la : Int) S.la)))) L.x (.ins (CT K) L.dx (putF "latest" (.int mi) (putF "passed" (.int ((S.ps.count (mi : Int) : Int) + 1)) (tf L (S.ps.count S.la : Int) S.la))))) L B ls { S with ps := S.ps ++ [(mi : Int)], la := mi } := by
      refine TB.setP ?_ ?_
      · rw [upd_upd]
        exact Kp.refl.wr TB.ob (fun z => z) (List.mem_singleton.mpr rfl)
      · rw [upd_same, tf_putP, tf_putL, count_snoc, if_pos rfl]
        rfl
    obtain ⟨a', ha', hda'⟩ := pget TC.hs.2 hd
    obtain rfl : a' = a := Option.some.inj (ha'.symm.trans ha)
    have dl := G.sz d (List.mem_of_getElem? hd)
    refine ⟨_, rfl, _, rfl, L.x, _, L.dx, _, _, rfl, TC.ob, T.cl, T.nHolders, tf_holders, _, rfl, L.hl, _, _, _, rfl, rfl, SqL.of TC.hs.1, atI_nat hai, _, rfl, _, rfl, mt.a, mt.b, rfl, rfl, _, rfl, _, x, rfl, rfl, a', _, rfl, DPut.k (k := Sum.inl (mt.a + mt.b - x)) hda' (line_of (by omega)), ?_⟩
    have TD := TC.setH (d' := putK d (vk (mt.a + mt.b - x)) (.int mt.w)) (Kp.refl.wr hda' (fun z => z) (List.mem_singleton.mpr rfl)) ha upd_same
    refine ⟨_, rfl, L.x, L.dx, _, rfl, TD.ob, tf_no (by decide +kernel), _, rfl, _, rfl, _, rfl, mt.a, mt.b, rfl, rfl, _, rfl, _, x, rfl, rfl, L, B, ls, _, ni, mt.a + mt.b - x, mt.w, l, _, v, rfl, TD, hl, List.getElem?_set_self (lt_of_get hd), ?_, hv, fun H5 T5 K5 => ?_⟩
    · rw [valV_put, if_pos rfl]
    · refine kQ d8 H5 ?_ ?_
      · rw [hsa]
        exact T5
      · have k1 : Kp (L.x :: L.al :: L.hs) H H1 := K1.nil
        have k2 := k1.wr (o' := .ins (CT K) L.dx (putF "passed" (.int ((S.ps.count (mi : Int) : Int) + 1)) (tf L (S.ps.count S.la : Int) S.la))) TB.ob (fun z => z) List.mem_cons_self
        have k3 := k2.wr (o' := .ins (CT K) L.dx (putF "latest" (.int mi) (putF "passed" (.int ((S.ps.count (mi : Int) : Int) + 1)) (tf L (S.ps.count S.la : Int) S.la)))) upd_same (fun z => z) List.mem_cons_self
        have k4 := k3.wr (o' := .dK (putK d (vk (mt.a + mt.b - x)) (.int mt.w))) hda' (fun z => z) (List.mem_cons_of_mem _ (List.mem_cons_of_mem _ (List.mem_of_getElem? ha)))
        exact k4.trans (K5.mono fun b m => by rw [List.mem_singleton.mp m]; exact List.mem_cons_of_mem _ List.mem_cons_self)
end
end K46
set_option Elab.async false
set_option linter.all false
set_option maxRecDepth 100000
set_option maxHeartbeats 4000000
namespace K46
open PySem L2
theorem ifT {c : Bool} {A B : Prop} (e : c = true) (h : A) : if c = true then A else B := by
  rw [if_pos e]
  exact h
theorem ifF {c : Bool} {A B : Prop} (e : c = false) (h : B) : if c = true then A else B := by
  rw [e]
  exact iteF h
section
variable {P : Program} {w : World} {K : PySem.W.Frag} {mg : Str → Option Value} {base : Heap}
def spIsDeed : Sp := fun vs H Q _ => ∃ (d : Addr) (D : Dd), vs = [.ref d] ∧ DeedAt H d D ∧ ∀ H', Kp [] H H' → Q (.bl true) H'
theorem scIsDeed : FnScope ["thing", "part"] ["thing"] (defScope sIsDeed) := ⟨rfl, rfl, rfl, by decide +kernel, rfl, by decide +kernel, by decide +kernel⟩
/-- the word of a deed, and its numbers -/
def Dd.wd : Dd → Str
  | .drop _ _ => "drop"
  | .pass g _ _ _ => if g = true then "give" else "copy"
def Dd.ns : Dd → List Int
  | .drop n x => [n, x]
  | .pass _ m n x => [m, n, x]
theorem dd_v (D : Dd) : D.v = .str D.wd :: D.ns.map V.int := by
  cases D <;> rfl
theorem ok_isDeed (T : Txt K mg) : OkF P w K mg base CX0 2 "is_deed" ["thing"] spIsDeed := by
  have G := ok_whole (P := P) (w := w) (base := base) T
  refine mkF (st := sIsDeed) T (List.mem_of_getElem? (i := 4) rfl) (fun _ _ _ _ _ _ us hl => match us, hl with | [_], _ => rfl) fun fd F => ?_
  refine F.ok scIsDeed (fun vs H Q E h => ?_) (fun cdv A outer s H vs Q E hr h => ?_)
  · obtain ⟨d, D, rfl, _⟩ := h
    rfl
  · obtain ⟨d, D, rfl, hD, k⟩ := h
    have hu := hu_of hr
    refine ⟨_, pss_cons (ps_if (PW.pt (pw_or (pt_not (pt_val (pe_callB call_isi (by rfl) T.tIs (by decide +kernel) (pa_cons (pv 0) (pa_cons (pe_bltn (v := .ty "tuple") (by rfl) T.tTup (by decide +kernel) rfl) pa_nil)))))
        (pw_or (pt_cmpR op_notIn_seq (pe_callB call_len_seq (by rfl) T.tLen PySem.boot_len (pa_cons (pv 0) pa_nil)) (pe_tup (pa_cons pe_int (pa_cons pe_int pa_nil))) (by rfl))
        (pw_or1 (pt_not (pt_val (pe_callB call_isi (by rfl) T.tIs (by decide +kernel) (pa_cons (pe_ix ix_tup (pv 0) pe_int (fun _ _ => rfl)) (pa_cons (pe_bltn (v := .ty "str") (by rfl) T.tStr (by decide +kernel) rfl) pa_nil)))))))))
        (pss_one (ps_ret pe_bl)) pss_nil)
      (pss_cons (ps_if (pt_not (pt_val (pe_callB (cr_all rfl) (by rfl) T.tAll (by decide +kernel) (pa_cons (by exact (pe_lc (own := [("part", 1)]) (g := gName 1) (by rfl) scIsDeed.nd (pi_tup (pe_slice sl_tup (pv 0) (po_some pe_int) po_none))
          (blkOk_by (own := [("part", 1)]) (N := ["thing", "part"]) (sc := defScope sIsDeed) (by decide +kernel)) (fun _ _ _ _ _ => by exact (pg_name (i := 1) scIsDeed.nd rfl (Or.inl rfl))) (fun _ _ _ _ _ => pts_nil)
          (fun _ _ _ _ _ => by exact (pe_cf G hr pass0 (pa_cons (pv 1) pa_nil))))) pa_nil)))) (pss_one (ps_ret pe_bl)) pss_nil)
      (pss_cons (ps_if (pt_cmpR op_eq (pe_callB call_len_seq (by rfl) T.tLen PySem.boot_len (pa_cons (pv 0) pa_nil)) pe_int (nomark _)) (pss_one (ps_ret (pe_cmpR op_eq (pe_ix ix_tup (pv 0) pe_int (fun _ _ => rfl)) pe_str (nomark _)))) pss_nil)
      (pss_one (ps_ret (pe_or (pe_cmpR op_eq (pe_ix ix_tup (pv 0) pe_int (fun _ _ => rfl)) pe_str (nomark _)) (pe_one (pe_cmpR op_eq (pe_ix ix_tup (pv 0) pe_int (fun _ _ => rfl)) pe_str (nomark _)))))))), ?_⟩
    have hD' : H d = some (.tup (.str D.wd :: D.ns.map V.int)) := by rw [← dd_v]; exact hD
    refine ⟨_, rfl, _, _, _, _, true, rfl, .ty _, .base (.tup hD'), kit_ty (by decide +kernel), _, rfl, iteF ?_⟩
    refine ⟨_, rfl, d, _, rfl, .inr (SqT.of hD'), (by show 2 ≤ sizeLine; decide), fun t1 ht1 => ?_⟩
    refine ⟨t1, _, rfl, .inr (SqT.of upd_same), rfl, rfl, _, rfl, ?_⟩
    have K1 : Kp [] H (upd H t1 (.tup [.int 3, .int 4])) := Kp.refl.nw ht1
    have h1 := K1.tup hD'
    refine ifF (by cases D <;> rfl) ?_
    refine ⟨_, rfl, d, _, 0, .str D.wd, rfl, rfl, SqT.of h1, atI_nat (j := 0) rfl, _, _, _, _, true, rfl, .ty _, .base (.str D.wd), kit_ty (by decide +kernel), _, rfl, iteF ?_⟩
    -- all([is_whole(part) for part in thing[1:]])
    refine ⟨_, rfl, 1, rfl, d, _, rfl, SqT.of h1, ?_, fun t2 ht2 => ?_⟩
    · cases D with
      | drop n x =>
        show ¬ (HT.sIx 3 0 (some 1) = 0 ∧ HT.sIx 3 3 none = 3)
        decide
      | pass g m n x =>
        show ¬ (HT.sIx 4 0 (some 1) = 0 ∧ HT.sIx 4 4 none = 4)
        decide
    have K2 := K1.nw (o := .tup (cutV (V.str D.wd :: D.ns.map V.int) (some 1) none)) ht2
    have ec : cutV (V.str D.wd :: D.ns.map V.int) (some 1) none = D.ns.map V.int := by cases D <;> rfl
    rw [ec] at K2 ⊢
    refine ⟨t2, rfl, ⟨_, SqT.of upd_same⟩, fun L hL => ?_⟩
    have nt : t2 ≠ L := ne_of_none upd_same hL
    refine lc_tup (K := K) (a := t2) (xs := D.ns.map V.int) (fun i H' => Kp [] H H' ∧ H' t2 = some (.tup (D.ns.map V.int)) ∧ H' L = some (.lst ((List.replicate i true).map V.bl))) ⟨K2.nw hL, upd_of upd_same nt, upd_same⟩ (fun i H' _ q => SqT.of q.2.1) ?_ ?_
    · rintro i y H3 hy ⟨K3, h3, h4⟩
      rw [List.getElem?_map] at hy
      cases hz : D.ns[i]? with
      | none =>
        rw [hz] at hy
        cases hy
      | some z =>
        rw [hz] at hy
        obtain rfl := Option.some.inj hy
        refine ⟨rfl, ?_⟩
        refine ⟨_, rfl, z, rfl, _, h4, line_of ?_, K3.wn ((K2).free hL), upd_of h3 nt, ?_⟩
        · have := lt_of_get hz
          rw [List.length_map, List.length_replicate]
          cases D <;> (simp [Dd.ns] at this; omega)
        · rw [upd_same, List.replicate_succ', List.map_append]
          rfl
    · rintro H3 ⟨K3, h3, h4⟩
      refine ⟨L, _, rfl, SqL.of h4, _, rfl, ?_⟩
      have et : ((List.replicate (D.ns.map V.int).length true).all id) = true := by
        rw [List.all_eq_true]
        intro b hb
        rw [(List.mem_replicate.mp hb).2]
        rfl
      refine ifF (by rw [et] <;> rfl) ?_
      have h5 := K3.tup hD'
      refine ⟨_, rfl, d, _, rfl, .inr (SqT.of h5), rfl, _, rfl, ?_⟩
      cases D with
      | drop n x =>
        refine ifT rfl ⟨_, rfl, d, _, 0, _, rfl, rfl, SqT.of h5, rfl, rfl, ?_⟩
        exact k H3 K3
      | pass g m n x =>
        refine ifF rfl ⟨_, rfl, d, _, 0, _, rfl, rfl, SqT.of h5, rfl, rfl, _, rfl, ?_⟩
        cases g with
        | true => exact ifT rfl (k H3 K3)
        | false => exact ifF rfl ⟨_, rfl, d, _, 0, _, rfl, rfl, SqT.of h5, rfl, rfl, k H3 K3⟩
/-- a deed is done, or refused -/
def spDo (K : PySem.W.Frag) : Sp := fun vs H Q E => ∃ (L : Lay) (B : Bk) (ls : List Lt) (S : Sy) (d : Addr) (D : Dd), vs = [.ref L.x, .ref d] ∧ TripAt (CT K) H L B ls S ∧ Good B ls S ∧ S.ds.length ≤ 100 ∧ DeedAt H d D ∧
  (due B ls S D = 8 → ∀ H', TripAt (CT K) H' L B ls (step B ls S d D) → Kp L.all H H' → Q .non H') ∧ (∀ k, due B ls S D = k → k ≠ 8 → ∀ H', Kp [] H H' → E (.ref (He.ga K (exn k))) none H')
theorem scDo : FnScope ["self", "deed"] ["self", "deed"] (defScope mDo) := ⟨rfl, rfl, rfl, by decide +kernel, rfl, by decide +kernel, by decide +kernel⟩
theorem due_g {B : Bk} {ls : List Lt} {S : Sy} {g : Bool} {m n x : Int} : due B ls S (.pass g m n x) = due B ls S (.pass false m n x) := rfl
theorem ok_do (T : Txt K mg) : OkM P w K mg base (L2.CX P w) 5 "do" ["self", "deed"] (spDo K) := by
  have GI := ok_isDeed (P := P) (w := w) (base := base) T
  have GD := ok_drop (P := P) (w := w) (base := base) T
  have GP := ok_pass (P := P) (w := w) (base := base) T
  have X0 := T.ex "NoDeed" (List.mem_of_getElem? (i := 0) rfl)
  refine mkM (st := mDo) T (List.mem_of_getElem? (i := 9) rfl) (fun _ _ _ _ _ _ us hl => match us, hl with | [_, _], _ => rfl) fun fd F => ?_
  refine F.okX scDo (fun vs H Q E h => ?_) (fun cdv A outer s H vs Q E hr h => ?_)
  · obtain ⟨L, B, ls, S, d, D, rfl, _⟩ := h
    rfl
  · obtain ⟨L, B, ls, S, d, D, rfl, TA, G, hds, hD, kQ, kE⟩ := h
    have hu := hu_of hr
    have hr2 : Room 2 _ := hr.mono (by decide)
    refine ⟨_, pss_cons (ps_if (pt_not (pt_val (pe_cf GI hr2 pass0 (pa_cons (pv 1) pa_nil)))) (pss_one (ps_rz rfl (takes_of rfl rfl rfl rfl) X0)) pss_nil)
      (pss_cons (ps_if (pt_cmpR op_eq (pe_ix ix_tup (pv 1) pe_int (fun _ _ => rfl)) pe_str (nomark _))
        (pss_one (ps_expr (pe_cm GD hr (pcall (takes_of rfl rfl rfl rfl)) (pv 0) (pa_cons (pe_ix ix_tup (pv 1) pe_int (fun _ _ => rfl)) (pa_cons (pe_ix ix_tup (pv 1) pe_int (fun _ _ => rfl)) pa_nil)))))
        (pss_one (ps_expr (pe_cm GP hr (pcall (takes_of rfl rfl rfl rfl)) (pv 0) (pa_cons (pe_ix ix_tup (pv 1) pe_int (fun _ _ => rfl)) (pa_cons (pe_ix ix_tup (pv 1) pe_int (fun _ _ => rfl)) (pa_cons (pe_ix ix_tup (pv 1) pe_int (fun _ _ => rfl)) pa_nil)))))))
      (pss_cons (ps_if (pt_cmpR op_eq (pe_ix ix_tup (pv 1) pe_int (fun _ _ => rfl)) pe_str (nomark _))
        (pss_one (ps_expr (pe_dpop1 (pe_ix ix_list (pe_fld (pv 0) rfl) (pe_ix ix_tup (pv 1) pe_int (fun _ _ => rfl)) (fun _ _ => rfl)) (pe_ix ix_tup (pv 1) pe_int (fun _ _ => rfl)) ⟨rfl, rfl, rfl, rfl⟩))) pss_nil)
      (pss_one (ps_expr (pe_bm PySem.F.plainAttrs_list PySem.F.slot_list_append PySem.F.type_list_append mt_append (pe_fld (pv 0) rfl) (pa_cons (pv 1) pa_nil)))))), ?_⟩
    refine ⟨_, rfl, d, D, rfl, hD, fun H1 K1 => ⟨_, rfl, iteF ?_⟩⟩
    have TB := TA.kp0 K1
    have h1 := K1.tup hD
    -- the last row
    have fin : ∀ (S2 : Sy) (H2 : Hp), TripAt (CT K) H2 L B ls S2 → S2.ds.length ≤ 100 → Kp L.all H1 H2 → (TripAt (CT K) H2 L B ls S2 → ∀ H3, TripAt (CT K) H3 L B ls { S2 with ds := S2.ds ++ [d] } → Kp L.all H1 H3 → Q .non H3) →
        tDrop (tBM K "list" rAppend (tFld K (tVar 0) "deeds") (tCons (tVar 1) tNil)) { nx := fun _ H' => Q .non H', rt := Q } (L2.start ["self", "deed"] [.ref L.x, .ref d]) H2 := fun S2 H2 T2 hl K2 kk => by
      refine ⟨_, rfl, L.x, _, L.dx, _, _, rfl, T2.ob, T.cl, T.nDeeds, tf_deeds, .inl ⟨rfl, _, .inl (.inl T2.dl)⟩, _, rfl, L.dl, _, _, rfl, rfl, T2.dl, (by rw [List.length_map]; exact line_of (by omega)), ?_⟩
      refine kk T2 _ (T2.setD (Kp.refl.wr T2.dl (fun z => z) (List.mem_singleton.mpr rfl)) (by rw [upd_same, List.map_append] <;> rfl)) (K2.wr T2.dl (fun z => z) ?_)
      exact List.mem_cons_of_mem _ (List.mem_cons_of_mem _ (List.mem_cons_of_mem _ (List.mem_cons_of_mem _ List.mem_cons_self)))
    cases D with
    | drop n x =>
      refine ⟨_, rfl, d, _, 0, _, rfl, rfl, SqT.of h1, rfl, rfl, _, rfl, ifT (decide_eq_true rfl) ?_⟩
      refine ⟨_, rfl, L.x, L.dx, _, rfl, TB.ob, tf_no (by decide +kernel), _, rfl, d, _, 1, _, rfl, rfl, SqT.of h1, rfl, _, rfl, d, _, 2, _, rfl, rfl, SqT.of h1, rfl, L, B, ls, S, n, x, rfl, TB, G, fun d8 H2 T2 K2 => ?_, fun k e h => kE k e h H1 K1⟩
      refine ⟨_, rfl, d, _, 0, _, rfl, rfl, SqT.of (K2.tup h1), rfl, rfl, _, rfl, ifF (by decide +kernel) ?_⟩
      exact fin _ H2 T2 hds (K2.mono fun b hb => List.mem_cons_of_mem _ (List.mem_cons_of_mem _ (List.mem_cons_of_mem _ (List.mem_cons_of_mem _ (List.mem_cons_of_mem _ hb))))) fun _ H3 T3 K3 => kQ d8 H3 T3 (K1.nil.trans K3)
    | pass g m n x =>
      refine ⟨_, rfl, d, _, 0, _, rfl, rfl, SqT.of h1, rfl, rfl, _, rfl, ifF (by cases g <;> decide +kernel) ?_⟩
      refine ⟨_, rfl, L.x, L.dx, _, rfl, TB.ob, tf_no (by decide +kernel), _, rfl, d, _, 1, _, rfl, rfl, SqT.of h1, rfl, _, rfl, d, _, 2, _, rfl, rfl, SqT.of h1, rfl, _, rfl, d, _, 3, _, rfl, rfl, SqT.of h1, rfl, L, B, ls, S, m, n, x, rfl, TB, G, hds, fun d8 H2 T2 K2 => ?_, fun k e h H' K' => kE k e h H' (K1.trans K')⟩
      have h2 := K2.tup h1
      have K2' : Kp L.all H1 H2 := K2.mono fun b hb => by
        rcases List.mem_cons.mp hb with z | hb
        · rw [z]
          exact List.mem_cons_self
        · rcases List.mem_cons.mp hb with z | hb
          · rw [z]
            exact List.mem_cons_of_mem _ (List.mem_cons_of_mem _ (List.mem_cons_of_mem _ List.mem_cons_self))
          · exact List.mem_cons_of_mem _ (List.mem_cons_of_mem _ (List.mem_cons_of_mem _ (List.mem_cons_of_mem _ (List.mem_cons_of_mem _ hb))))
      have d8' : due B ls S (.pass g m n x) = 8 := d8
      obtain ⟨mi, ni, mt, l, d0, t, rfl, rfl, hmt, _, hl, hd0, _, _, _, _, _, _⟩ := due8 G d8'
      have gs : ∀ {x y : Str}, decide (V.str x = V.str y) = decide (x = y) := fun {x y} => by
        by_cases e : x = y
        · rw [decide_eq_true e, decide_eq_true (congrArg V.str e)]
        · rw [decide_eq_false e, decide_eq_false fun z => e (V.str.inj z)]
      cases g with
      | false =>
        refine ⟨_, rfl, d, _, 0, _, rfl, rfl, SqT.of h2, rfl, rfl, _, rfl, ifF (by decide +kernel) ?_⟩
        exact fin _ H2 T2 hds K2' fun _ H3 T3 K3 => kQ d8' H3 T3 (K1.nil.trans K3)
      | true =>
        refine ⟨_, rfl, d, _, 0, _, rfl, rfl, SqT.of h2, rfl, rfl, _, rfl, ifT (decide_eq_true rfl) ?_⟩
        have hd1 : (stepA B ls S mi ni x).hs[ni]? = some (putK (dAt S.hs ni) (vk ((mtAt B mi).a + (mtAt B mi).b - x)) (.int (mtAt B mi).w)) := by
          show (S.hs.set (ni : Int).toNat _)[ni]? = _
          rw [Int.toNat_natCast, List.getElem?_set_self (lt_of_get hd0)]
        obtain ⟨a, ha, hda⟩ := pget T2.hs.2 hd1
        have hai : (L.hs.map V.ref)[ni]? = some (.ref a) := by rw [List.getElem?_map, ha] <;> rfl
        obtain ⟨v, hv⟩ : ∃ v, valV (putK (dAt S.hs ni) (vk ((mtAt B mi).a + (mtAt B mi).b - x)) (.int (mtAt B mi).w)) (vk x) = some v := by
          rw [valV_put, dAt_eq hd0]
          split
          · exact ⟨_, rfl⟩
          · rename_i ht _ _ _ _ _ _
            exact ⟨_, (snc_has ‹snc d0 x = some t›).2⟩
        refine ⟨_, rfl, L.x, _, L.dx, _, _, rfl, T2.ob, T.cl, T.nHolders, tf_holders, _, rfl, d, _, 2, _, rfl, rfl, SqT.of h2, rfl, L.hl, _, _, _, rfl, rfl, SqL.of T2.hs.1, atI_nat hai, a, rfl, .inl ⟨_, .of hda⟩, _, rfl, d, _, 3, _, rfl, rfl, SqT.of h2, rfl, _, Sum.inl x, v, hda, rfl, hv, ?_⟩
        have T3 := T2.setH (d' := dropK (putK (dAt S.hs ni) (vk ((mtAt B mi).a + (mtAt B mi).b - x)) (.int (mtAt B mi).w)) (vk x)) (Kp.refl.wr hda (fun z => z) (List.mem_singleton.mpr rfl)) ha upd_same
        refine fin _ _ T3 hds (K2'.wr hda (fun z => z) (List.mem_cons_of_mem _ (List.mem_cons_of_mem _ (List.mem_cons_of_mem _ (List.mem_cons_of_mem _ (List.mem_cons_of_mem _ (List.mem_of_getElem? ha))))))) fun _ H4 T4 K4 => kQ d8' H4 ?_ (K1.nil.trans K4)
        have e : (stepA B ls S mi ni x).hs.set ni (dropK (putK (dAt S.hs ni) (vk ((mtAt B mi).a + (mtAt B mi).b - x)) (.int (mtAt B mi).w)) (vk x)) = (step B ls S d (.pass true mi ni x)).hs := by
          show (S.hs.set (ni : Int).toNat _).set ni _ = S.hs.set (ni : Int).toNat _
          rw [Int.toNat_natCast, List.set_set]
          rfl
        rw [e] at T4
        exact T4
end
end K46
set_option Elab.async false
set_option linter.all false
set_option maxRecDepth 100000
set_option maxHeartbeats 4000000
namespace K46
open PySem L2
/-! ### pairs (walker, since), by walkers -/
def PairAt (H : Hp) (v : V) (q : Int × Int) : Prop := ∃ a, v = .ref a ∧ H a = some (.tup [.int q.1, .int q.2])
def PairsAt (H : Hp) (p : Addr) (qs : List (Int × Int)) : Prop := ∃ vs, H p = some (.lst vs) ∧ Paired (PairAt H) vs qs
theorem PairAt.kp {Z : List Addr} {H H' : Hp} (k : Kp Z H H') {v : V} {q : Int × Int} : PairAt H v q → PairAt H' v q := fun ⟨a, e, h⟩ => ⟨a, e, k.tup h⟩
def keysD (d : D1) : List Int := d.filterMap fun p => match p.1 with
  | .inl k => some k
  | .inr _ => none
theorem keysD_eq {d : D1} (h : IntD d) : d.map (·.1) = (keysD d).map Sum.inl := by
  induction d with
  | nil => rfl
  | cons p r ih =>
    obtain ⟨k, t, rfl⟩ := h p List.mem_cons_self
    have ih := ih fun q m => h q (List.mem_cons_of_mem _ m)
    have e : keysD ((vk k, V.int t) :: r) = k :: keysD r := rfl
    rw [List.map_cons, ih, e, List.map_cons]
theorem keysD_len {d : D1} (h : IntD d) : (keysD d).length = d.length := by
  have e := congrArg List.length (keysD_eq h)
  rw [List.length_map, List.length_map] at e
  exact e.symm
def tD (d : D1) (k : Int) : Int := (snc d k).getD 0
theorem keysD_val {d : D1} (h : IntD d) {k : Int} (m : k ∈ keysD d) : valV d (vk k) = some (.int (tD d k)) := by
  have m' : vk k ∈ d.map (·.1) := by
    rw [keysD_eq h]
    exact List.mem_map.mpr ⟨k, m, rfl⟩
  rcases has_snc h k with ⟨_, t, h2, h3⟩ | ⟨_, _, h3⟩
  · unfold tD
    rw [h3, h2]
    rfl
  · exact absurd m' (valV_not h3)
/-- two ascending lists of the same numbers are one -/
theorem sorted_one : ∀ {xs ys : List Int}, xs.Perm ys → xs.Pairwise (· ≤ ·) → ys.Pairwise (· ≤ ·) → xs = ys
  | [], ys, p, _, _ => (List.nil_perm.mp p).symm
  | x :: xs, [], p, _, _ => absurd (List.perm_nil.mp p) (by simp)
  | x :: xs, y :: ys, p, h1, h2 => by
    obtain ⟨a1, a2⟩ := List.pairwise_cons.mp h1
    obtain ⟨b1, b2⟩ := List.pairwise_cons.mp h2
    have e : x = y := by
      have m1 : x ∈ y :: ys := p.mem_iff.mp List.mem_cons_self
      have m2 : y ∈ x :: xs := p.mem_iff.mpr List.mem_cons_self
      have l1 : y ≤ x := by
        rcases List.mem_cons.mp m1 with z | z
        · omega
        · exact b1 x z
      have l2 : x ≤ y := by
        rcases List.mem_cons.mp m2 with z | z
        · omega
        · exact a1 y z
      omega
    subst e
    rw [sorted_one (List.Perm.cons_inv p) a2 b2]
section
variable {P : Program} {w : World} {K : PySem.W.Frag} {mg : Str → Option Value} {base : Heap}
def spHaving (K : PySem.W.Frag) : Sp := fun vs H Q _ => ∃ (L : Lay) (B : Bk) (ls : List Lt) (S : Sy) (n : Nat) (d : D1), vs = [.ref L.x, .int n] ∧ TripAt (CT K) H L B ls S ∧ IntD d ∧ d.length < 64 ∧ S.hs[n]? = some d ∧
  ∀ (H' : Hp) (p : Addr) (ks : List Int), Kp [] H H' → H p = none → ks.Perm (keysD d) → ks.Pairwise (· ≤ ·) → PairsAt H' p (ks.map fun k => (k, tD d k)) → Q (.ref p) H'
theorem scHaving : FnScope ["self", "letter", "walker"] ["self", "letter"] (defScope mHaving) := ⟨rfl, rfl, rfl, by decide +kernel, rfl, by decide +kernel, by decide +kernel⟩
theorem ok_having (T : Txt K mg) : OkM P w K mg base CX0 1 "having" ["self", "letter"] (spHaving K) := by
  refine mkM (st := mHaving) T (List.mem_of_getElem? (i := 10) rfl) (fun _ _ _ _ _ _ us hl => match us, hl with | [_, _], _ => rfl) fun fd F => ?_
  refine F.ok scHaving (fun vs H Q E h => ?_) (fun cdv A outer s H vs Q E hr h => ?_)
  · obtain ⟨L, B, ls, S, n, d, rfl, _⟩ := h
    rfl
  · obtain ⟨L, B, ls, S, n, d, rfl, TA, hI, h64, hd, k⟩ := h
    have hu := hu_of hr
    refine ⟨_, pss_one (ps_ret (by exact (pe_lc (own := [("walker", 2)]) (g := gName 2) (by rfl) scHaving.nd (pi_list (pe_callB (call_sortedDI rfl) (by rfl) T.tSorted (by decide +kernel) (pa_cons (pe_ix ix_list (pe_fld (pv 0) rfl) (pv 1) (fun _ _ => rfl)) pa_nil)))
      (blkOk_by (own := [("walker", 2)]) (N := ["self", "letter", "walker"]) (sc := defScope mHaving) (by decide +kernel)) (fun _ _ _ _ _ => by exact (pg_name (i := 2) scHaving.nd rfl (Or.inl rfl))) (fun _ _ _ _ _ => pts_nil)
      (fun _ _ _ _ _ => by exact (pe_tup (pa_cons (pv 2) (pa_cons (pe_dget hu (pe_ix (ixl K) (pe_fldK K (pv 0)) (pv 1) (fun _ _ => rfl)) (pv 2) (fun _ _ => rfl)) pa_nil))))))), ?_⟩
    obtain ⟨a, ha, hda⟩ := pget TA.hs.2 hd
    have hai : (L.hs.map V.ref)[n]? = some (.ref a) := by rw [List.getElem?_map, ha] <;> rfl
    refine ⟨_, rfl, L.x, _, L.dx, _, _, rfl, TA.ob, T.cl, T.nHolders, tf_holders, _, rfl, L.hl, _, _, _, rfl, rfl, SqL.of TA.hs.1, atI_nat hai, a, d, keysD d, rfl, .of hda, keysD_eq hI, by rw [keysD_len hI]; exact h64, fun ks q pe so hq => ?_⟩
    refine ⟨q, rfl, ⟨_, SqL.of upd_same⟩, fun D hD => ?_⟩
    have nq : q ≠ D := ne_of_none upd_same hD
    have K0 : Kp [] H (upd H q (.lst (ks.map V.int))) := Kp.refl.nw hq
    have nD : H D = none := K0.free hD
    have k64 : ks.length < 64 := by rw [pe.length_eq, keysD_len hI]; exact h64
    refine lc_list (K := K) (a := q) (xs := ks.map V.int) (fun i H' => Kp [] H H' ∧ H' q = some (.lst (ks.map V.int)) ∧ PairsAt H' D ((ks.take i).map fun k => (k, tD d k))) ⟨K0.nw hD, upd_of upd_same nq, [], upd_same, .nil⟩ (fun i H' _ z => SqL.of z.2.1) ?_ ?_
    · rintro i y H1 hy ⟨K1, h1, vs, h2, h3⟩
      rw [List.getElem?_map] at hy
      cases hz : ks[i]? with
      | none =>
        rw [hz] at hy
        cases hy
      | some z =>
        rw [hz] at hy
        obtain rfl := Option.some.inj hy
        have TB := TA.kp0 K1
        have hb := K1.at0 hda
        have hv := keysD_val hI (pe.mem_iff.mp (List.mem_of_getElem? hz))
        refine ⟨rfl, ?_⟩
        refine ⟨_, rfl, _, rfl, L.x, _, L.dx, _, _, rfl, TB.ob, T.cl, T.nHolders, tf_holders, _, rfl, L.hl, _, _, _, rfl, rfl, SqL.of TB.hs.1, atI_nat hai, _, rfl, a, _, rfl, hv ▸ DGet.k (k := Sum.inl z) hb, (by show 2 ≤ sizeLine; decide), fun t ht => ?_⟩
        have nt : D ≠ t := ne_of_none h2 ht
        have K2 : Kp [] H1 (upd H1 t (.tup [.int z, .int (tD d z)])) := Kp.refl.nw ht
        have vl : vs.length = i := by
          rw [plen h3, List.length_map, List.length_take]
          have := lt_of_get hz
          omega
        refine ⟨vs, upd_of h2 nt, line_of (by have := lt_of_get hz; omega), (K1.trans K2).wn nD, upd_of (K2.at0 h1) nq, vs ++ [.ref t], upd_same, ?_⟩
        have K3 : Kp [D] H1 (upd (upd H1 t (.tup [.int z, .int (tD d z)])) D (.lst (vs ++ [.ref t]))) := K2.nil.wr (upd_of h2 nt) (fun z => z) (List.mem_singleton.mpr rfl)
        rw [List.take_add_one, hz, List.map_append]
        exact (pimp h3 fun _ _ _ => PairAt.kp K3).snoc ⟨t, rfl, upd_of upd_same nt.symm⟩
    · rintro H1 ⟨K1, h1, h2⟩
      rw [List.length_map, List.take_length] at h2
      exact k H1 D ks K1 nD pe so h2
theorem Kp.freeX {H H1 : Hp} {x p : Addr} {o : HO} (k : Kp [x] H H1) (hx : H1 x = some o) (h : H1 p = none) : H p = none := by
  cases e : H p with
  | none => rfl
  | some u =>
    have ne : p ≠ x := fun z => by
      rw [z, hx] at h
      cases h
    rw [k.at e fun m => ne (List.mem_singleton.mp m)] at h
    cases h
theorem Kp.comp {H H1 H2 : Hp} {Z W : List Addr} (k : Kp Z H H1) (k' : Kp W H1 H2) (h : ∀ b ∈ W, b ∈ Z ∨ H b = none) : Kp Z H H2 := fun b o e z => by
  refine k' b o (k b o e z) ?_
  rcases z with z | z
  · exact .inl z
  · refine .inr fun m => ?_
    rcases h b m with q | q
    · exact z q
    · rw [e] at q
      cases q
def hs0 (ls : List Lt) : List D1 := ls.map fun l => [(vk l.fr, V.int l.sc)]
def ar0 (ls : List Lt) : List V := ls.map fun l => if l.fr = l.wi ∧ l.sc ≤ l.la then V.int l.sc else .non
def spInit (K : PySem.W.Frag) : Sp := fun vs H Q _ => ∃ (x dx b lp : Addr) (B : Bk) (ls : List Lt), vs = [.ref x, .ref b, .ref lp] ∧ H x = some (.ins (CT K) dx []) ∧ BookAt H b B ∧ LtsAt H lp ls ∧ ls.length ≤ 40 ∧
  ∀ (H' : Hp) (L : Lay), L.x = x → L.dx = dx → TripAt (CT K) H' L B ls (start0 ls) → Kp [x] H H' → (∀ a ∈ L.all, a = x ∨ H a = none) → Q .non H'
theorem scInit : FnScope ["self", "book", "letters", "letter", "number"] ["self", "book", "letters"] (defScope mInit) := ⟨rfl, rfl, rfl, by decide +kernel, rfl, by decide +kernel, by decide +kernel⟩
theorem ok_init (T : Txt K mg) : OkM P w K mg base CX0 2 "__init__" ["self", "book", "letters"] (spInit K) := by
  have GC := ok_lookC (P := P) (w := w) (base := base) T
  refine mkM (st := mInit) T (List.mem_of_getElem? (i := 0) rfl) (fun _ _ _ _ _ _ us hl => match us, hl with | [_, _, _], _ => rfl) fun fd F => ?_
  refine F.ok scInit (fun vs H Q E h => ?_) (fun cdv A outer s H vs Q E hr h => ?_)
  · obtain ⟨x, dx, b, lp, B, ls, rfl, _⟩ := h
    rfl
  · obtain ⟨x, dx, b, lp, B, ls, rfl, hx, hb, hl, l40, k⟩ := h
    have hu := hu_of hr
    refine ⟨_, pss_cons (ps_fld (pv 0) (pv 1) rfl)
      (pss_cons (ps_fld (pv 0) (pe_callTy call_list_of (by rfl) T.tList (by decide +kernel) (pa_cons (pv 2) pa_nil)) rfl)
      (pss_cons (ps_fld (pv 0) (by exact (pe_lc (own := [("letter", 3)]) (g := gName 3) (by rfl) scInit.nd (pi_list (pe_fld (pv 0) rfl))
        (blkOk_by (own := [("letter", 3)]) (N := ["self", "book", "letters", "letter", "number"]) (sc := defScope mInit) (by decide +kernel)) (fun _ _ _ _ _ => by exact (pg_name (i := 3) scInit.nd rfl (Or.inl rfl))) (fun _ _ _ _ _ => pts_nil)
        (fun _ _ _ _ _ => by exact (pe_disp (pps_cons (pe_ix (ixt K) (pv 3) pe_int (fun _ _ => rfl)) (pe_ix (ixt K) (pv 3) pe_int (fun _ _ => rfl)) pps_nil) (by rfl) (by rfl) (fun z => by cases z) (by decide))))) rfl)
      (pss_cons (ps_fld (pv 0) (by exact (pe_lc (own := [("letter", 3)]) (g := gName 3) (by rfl) scInit.nd (pi_list (pe_fld (pv 0) rfl))
        (blkOk_by (own := [("letter", 3)]) (N := ["self", "book", "letters", "letter", "number"]) (sc := defScope mInit) (by decide +kernel)) (fun _ _ _ _ _ => by exact (pg_name (i := 3) scInit.nd rfl (Or.inl rfl))) (fun _ _ _ _ _ => pts_nil)
        (fun _ _ _ _ _ => by exact pe_non))) rfl)
      (pss_cons (ps_fld (pv 0) pe_int rfl)
      (pss_cons (ps_fld (pv 0) pe_int rfl)
      (pss_cons (ps_fld (pv 0) (pe_lst pa_nil) rfl)
      (pss_one (ps_for PassesOwn.never rfl (pi_enum (by rfl) T.tEnum (pa_cons (pe_fld (pv 0) rfl) pa_nil)) (pg_tup (by rfl) (pgs_cons (pg_name (i := 4) scInit.nd rfl (.inl rfl)) (pgs_cons (pg_name (i := 3) scInit.nd rfl (.inl rfl)) pgs_nil)))
        (pss_one (ps_expr (pe_cm GC hr pass0 (pv 0) (pa_cons (pv 4) (pa_cons (pe_ix ix_tup (pv 3) pe_int (fun _ _ => rfl)) pa_nil))))))))))))), ?_⟩
    obtain ⟨vs, hvs, pvs⟩ := hl
    have vl : vs.length = ls.length := plen pvs
    -- book, letters
    refine ⟨_, rfl, _, rfl, x, _, dx, _, rfl, hx, T.cl, T.nBook, (by show 0 < 1000; decide), ?_⟩
    have nlx : lp ≠ x := ne_of hvs hx (fun z => by cases z)
    have K1 : Kp [x] H (upd H x (.ins (CT K) dx (putF "book" (.ref b) []))) := Kp.refl.wr hx (fun z => z) (List.mem_singleton.mpr rfl)
    refine ⟨_, rfl, lp, vs, rfl, .inl (SqL.of (upd_of hvs nlx)), fun ll hll => ?_⟩
    have xl : x ≠ ll := ne_of_none upd_same hll
    have nll : H ll = none := K1.freeX upd_same hll
    refine ⟨_, rfl, x, _, dx, _, rfl, upd_of upd_same xl, T.cl, T.nLetters, (by show 1 < 1000; decide), ?_⟩
    have K2 := (K1.nw (o := .lst vs) hll).wr (o' := .ins (CT K) dx (putF "letters" (.ref ll) (putF "book" (.ref b) []))) (upd_of upd_same xl) (fun z => z) (List.mem_singleton.mpr rfl)
    have l2 : upd (upd (upd H x (.ins (CT K) dx (putF "book" (.ref b) []))) ll (.lst vs)) x (.ins (CT K) dx (putF "letters" (.ref ll) (putF "book" (.ref b) []))) ll = some (.lst vs) := upd_of upd_same xl.symm
    -- holders
    refine ⟨_, rfl, x, _, dx, _, _, rfl, upd_same, T.cl, T.nLetters, rfl, ll, rfl, ⟨_, SqL.of l2⟩, fun hl hhl => ?_⟩
    have nhl : H hl = none := K2.freeX upd_same hhl
    have xh : x ≠ hl := ne_of_none upd_same hhl
    have lh : ll ≠ hl := ne_of_none l2 hhl
    refine lc_list (K := K) (a := ll) (xs := vs) (fun i G => Kp [x] H G ∧ G x = some (.ins (CT K) dx (putF "letters" (.ref ll) (putF "book" (.ref b) []))) ∧ G ll = some (.lst vs) ∧ ∃ as : List Addr, G hl = some (.lst (as.map V.ref)) ∧
      Paired (fun a d => G a = some (.dK d)) as ((ls.take i).map fun l => [(vk l.fr, V.int l.sc)]) ∧ as.Nodup ∧ ∀ a ∈ as, H a = none ∧ a ≠ x ∧ a ≠ ll ∧ a ≠ hl) ⟨K2.nw hhl, upd_of upd_same xh, upd_of l2 lh, [], upd_same, .nil, List.nodup_nil, fun _ m => nomatch m⟩ (fun i G _ z => SqL.of z.2.2.1) ?_ ?_
    · rintro i y G hy ⟨k1, g1, g2, as, g3, g4, g5, g6⟩
      obtain ⟨l, hli, a, rfl, hla⟩ := pget1 pvs hy
      have ilt := lt_of_get hli
      refine ⟨rfl, ?_⟩
      refine fun p hp => ?_
      have np : H p = none := k1.freeX g1 hp
      have hla' : upd G p (.dK []) a = some (.tup (ltV l)) := upd_new (k1.tup hla) hp
      refine ⟨_, rfl, a, _, 0, _, rfl, rfl, SqT.of hla', rfl, _, rfl, a, _, 1, _, rfl, rfl, SqT.of hla', rfl, upd_same, [(vk l.fr, V.int l.sc)], rfl, (by show 1 ≤ 15; decide), ?_⟩
      have hpn : hl ≠ p := ne_of_none g3 hp
      have xp : x ≠ p := ne_of_none g1 hp
      have lp' : ll ≠ p := ne_of_none g2 hp
      have al : as.length = i := by
        rw [plen g4, List.length_map, List.length_take]
        omega
      have em : mergeK [] [(vk l.fr, V.int l.sc)] = [(vk l.fr, V.int l.sc)] := rfl
      rw [em]
      have up : ∀ {c : Addr} {o u v : HO}, G c = some o → upd (upd G p u) p v c = some o := fun {c o u v} e => upd_of (upd_new e hp) (ne_of_none e hp)
      refine ⟨as.map V.ref, up g3, line_of (by rw [List.length_map]; omega), ?_, upd_of (up g1) xh, upd_of (up g2) lh, as ++ [p], by rw [upd_same, List.map_append] <;> rfl, ?_, ?_, ?_⟩
      · exact ((k1.nw hp).wn np).wn nhl
      · rw [List.take_add_one, hli, List.map_append]
        refine (pimp g4 fun c d m e => ?_).snoc ?_
        · exact upd_of (up e) (g6 c m).2.2.2
        · exact upd_of upd_same hpn.symm
      · refine List.nodup_append.mpr ⟨g5, List.nodup_cons.mpr ⟨fun m => (nomatch m), List.nodup_nil⟩, fun c m c' m' => ?_⟩
        rw [List.mem_singleton.mp m']
        obtain ⟨j, hj⟩ := List.mem_iff_getElem?.mp m
        obtain ⟨d, _, e⟩ := pget1 g4 hj
        exact ne_of_none e hp
      · intro c m
        rcases List.mem_append.mp m with m | m
        · exact g6 c m
        · rw [List.mem_singleton.mp m]
          exact ⟨np, xp.symm, lp'.symm, hpn.symm⟩
    rintro G ⟨k3, x3, l3, as, h3, p3, nd3, f3⟩
    rw [vl, List.take_length] at p3
    refine ⟨_, rfl, x, _, dx, _, rfl, x3, T.cl, T.nHolders, (by show 2 < 1000; decide), ?_⟩
    have k4 : Kp [x] H (upd G x (.ins (CT K) dx (putF "holders" (.ref hl) (putF "letters" (.ref ll) (putF "book" (.ref b) []))))) := k3.wr x3 (fun z => z) (List.mem_singleton.mpr rfl)
    have l4 := upd_of (o := .ins (CT K) dx (putF "holders" (.ref hl) (putF "letters" (.ref ll) (putF "book" (.ref b) [])))) l3 xl.symm
    have h4 := upd_of (o := .ins (CT K) dx (putF "holders" (.ref hl) (putF "letters" (.ref ll) (putF "book" (.ref b) [])))) h3 xh.symm
    have p4 : Paired (fun a d => upd G x (.ins (CT K) dx (putF "holders" (.ref hl) (putF "letters" (.ref ll) (putF "book" (.ref b) [])))) a = some (.dK d)) as (hs0 ls) := pimp p3 fun c d m e => upd_of e (f3 c m).2.1
    -- arrived
    refine ⟨_, rfl, x, _, dx, _, _, rfl, upd_same, T.cl, T.nLetters, rfl, ll, rfl, ⟨_, SqL.of l4⟩, fun al hal => ?_⟩
    have nal : H al = none := k4.freeX upd_same hal
    have xa : x ≠ al := ne_of_none upd_same hal
    have la : ll ≠ al := ne_of_none l4 hal
    have ha : hl ≠ al := ne_of_none h4 hal
    have aa : ∀ c ∈ as, c ≠ al := fun c m => by
      obtain ⟨j, hj⟩ := List.mem_iff_getElem?.mp m
      obtain ⟨d, _, e⟩ := pget1 p4 hj
      exact ne_of_none e hal
    refine lc_list (K := K) (a := ll) (xs := vs) (fun i G' => Kp [x] H G' ∧ G' x = some (.ins (CT K) dx (putF "holders" (.ref hl) (putF "letters" (.ref ll) (putF "book" (.ref b) [])))) ∧ G' ll = some (.lst vs) ∧ G' hl = some (.lst (as.map V.ref)) ∧
      Paired (fun a d => G' a = some (.dK d)) as (hs0 ls) ∧ G' al = some (.lst (List.replicate i V.non))) ⟨k4.nw hal, upd_of upd_same xa, upd_of l4 la, upd_of h4 ha, pimp p4 fun c d m e => upd_of e (aa c m), upd_same⟩ (fun i G' _ z => SqL.of z.2.2.1) ?_ ?_
    · rintro i y G' hy ⟨k1, g1, g2, g3, g4, g5⟩
      refine ⟨rfl, ?_⟩
      refine ⟨_, g5, line_of (by have := lt_of_get hy; rw [List.length_replicate]; omega), k1.wn nal, upd_of g1 xa, upd_of g2 la, upd_of g3 ha, pimp g4 fun c d m e => upd_of e (aa c m), ?_⟩
      rw [upd_same, List.replicate_succ']
    rintro G' ⟨k5, x5, l5, h5, p5, a5⟩
    -- arrived, passed, latest, deeds
    refine ⟨_, rfl, x, _, dx, _, rfl, x5, T.cl, T.nArrived, (by show 3 < 1000; decide), ?_⟩
    refine ⟨_, rfl, x, _, dx, _, rfl, upd_same, T.cl, T.nPassed, (by show 4 < 1000; decide), ?_⟩
    refine ⟨_, rfl, x, _, dx, _, rfl, upd_same, T.cl, T.nLatest, (by show 5 < 1000; decide), ?_⟩
    refine ⟨Nat.zero_le _, fun dl hdl => ?_⟩
    simp only [upd_upd] at hdl
    have xd : x ≠ dl := ne_of_none upd_same hdl
    have e6 : ∀ {c : Addr} {o : HO}, c ≠ x → G' c = some o → c ≠ dl := fun {c o} ne e => ne_of_none (upd_of e ne) hdl
    refine ⟨_, rfl, x, _, dx, _, rfl, upd_of upd_same xd, T.cl, T.nDeeds, (by show 6 < 1000; decide), ?_⟩
    simp only [upd_upd]
    let L : Lay := ⟨x, dx, b, ll, hl, al, dl, as⟩
    have k6 : ∀ o, Kp [x] H (upd G' x o) := fun o => k5.wr x5 (fun z => z) (List.mem_singleton.mpr rfl)
    have ndl : H dl = none := (k6 _).freeX upd_same hdl
    have up : ∀ {c : Addr} {o u v q : HO}, c ≠ x → G' c = some o → upd (upd (upd G' x u) dl v) x q c = some o := fun {c o u v q} ne e => upd_of (upd_of (upd_of e ne) (e6 ne e)) ne
    have T0 : TripAt (CT K) (upd (upd (upd G' x (.ins (CT K) dx (putF "latest" (.int 0) (putF "passed" (.int 0) (putF "arrived" (.ref al) (putF "holders" (.ref hl) (putF "letters" (.ref ll) (putF "book" (.ref b) [])))))))) dl (.lst [])) x
        (.ins (CT K) dx (putF "deeds" (.ref dl) (putF "latest" (.int 0) (putF "passed" (.int 0) (putF "arrived" (.ref al) (putF "holders" (.ref hl) (putF "letters" (.ref ll) (putF "book" (.ref b) []))))))))) L B ls ⟨hs0 ls, List.replicate vs.length V.non, [], 0, []⟩ := by
      refine ⟨upd_same, hb.kp (Z := [x]) ?_, ⟨vs, up xl.symm l5, pimp pvs fun _ _ _ => LtAt.kp (Z := [x]) ?_⟩, ⟨up xh.symm h5, pimp p5 fun c d m e => up (f3 c m).2.1 e⟩, up xa.symm a5, upd_of upd_same xd.symm, ?_⟩
      · exact ((k6 _).nw hdl).wr (upd_of upd_same xd) (fun z => z) (List.mem_singleton.mpr rfl)
      · exact ((k6 _).nw hdl).wr (upd_of upd_same xd) (fun z => z) (List.mem_singleton.mpr rfl)
      · show (x :: ll :: hl :: al :: dl :: as).Nodup
        simp only [List.nodup_cons, List.mem_cons, not_or]
        have nx : x ∉ as := fun m => (f3 x m).2.1 rfl
        have nl : ll ∉ as := fun m => (f3 ll m).2.2.1 rfl
        have nh : hl ∉ as := fun m => (f3 hl m).2.2.2 rfl
        have na : al ∉ as := fun m => aa al m rfl
        have nd : dl ∉ as := fun m => by
          obtain ⟨j, hj⟩ := List.mem_iff_getElem?.mp m
          obtain ⟨d, _, e⟩ := pget1 p5 hj
          exact e6 (f3 dl m).2.1 e rfl
        exact ⟨⟨xl, xh, xa, xd, nx⟩, ⟨lh, la, e6 xl.symm l5, nl⟩, ⟨ha, e6 xh.symm h5, nh⟩, ⟨e6 xa.symm a5, na⟩, nd, nd3⟩
    refine ⟨_, rfl, x, _, dx, _, _, rfl, upd_same, T.cl, T.nLetters, rfl, ll, vs, rfl, SqL.of (up xl.symm l5), for_it walk_enum (fun i σ G => ∃ (v3 v4 : Option V) (ar : List V), σ = [some (.ref x), some (.ref b), some (.ref lp), v3, v4] ∧ TripAt (CT K) G L B ls ⟨hs0 ls, ar, [], 0, []⟩ ∧ Kp [x] H G ∧ G ll = some (.lst vs) ∧
      ar.length = ls.length ∧ (∀ j, j < i → ar[j]? = (ar0 ls)[j]?) ∧ (∀ j, i ≤ j → j < ls.length → ar[j]? = some .non)) ?_ (fun i σ G _ ⟨_, _, _, _, _, _, z, _⟩ => SqL.of z) ?_ ?_⟩
    · refine ⟨none, none, _, rfl, T0, ((k6 _).nw hdl).wr (upd_of upd_same xd) (fun z => z) (List.mem_singleton.mpr rfl), up xl.symm l5, by rw [List.length_replicate, vl], fun j q => absurd q (Nat.not_lt_zero j), fun j _ q => ?_⟩
      rw [List.getElem?_replicate, if_pos (by omega)]
    · rintro i y σ G G2 hi ⟨v3, v4, ar, rfl, TA, kG, gl, al1, al2, al3⟩ ⟨t, c, y', rfl, ht, rfl, e1, e2⟩
      obtain rfl := Option.some.inj e1
      obtain ⟨l, hli, a, rfl, hla⟩ := pget1 pvs e2
      have ilt := lt_of_get hli
      have kt : Kp [] G (upd G t (.tup [.int (i : Nat), .ref a])) := Kp.refl.nw ht
      have TB := TA.kp0 kt
      have hd0 : (hs0 ls)[i]? = some [(vk l.fr, V.int l.sc)] := by
        show (ls.map _)[i]? = _
        rw [List.getElem?_map, hli]
        rfl
      have har := al3 i (Nat.le_refl i) ilt
      have hla' : upd G t (.tup [.int (i : Nat), .ref a]) a = some (.tup (ltV l)) := kt.tup (kG.tup hla)
      refine ⟨t, [.int (i : Nat), .ref a], rfl, SqT.of upd_same, rfl, _, _, rfl, _, _, rfl, rfl, ?_⟩
      refine ⟨_, rfl, x, dx, _, rfl, TB.ob, tf_no (by decide +kernel), _, rfl, _, rfl, a, _, 0, _, rfl, rfl, SqT.of hla', rfl, L, B, ls, _, i, l.fr, l.sc, l, _, V.non, rfl, TB, hli, hd0, valV_pos rfl, har, fun G3 T3 K3 => ?_⟩
      refine ⟨_, _, _, rfl, T3, ?_, ?_, ?_, fun j hj => ?_, fun j hj hj2 => ?_⟩
      · exact (kG.trans (Kp.of_same kt.same)).comp K3 fun c m => .inr (by rw [List.mem_singleton.mp m]; exact nal)
      · exact K3.at (kt.at0 gl) fun m => la (List.mem_singleton.mp m)
      · rw [arNew_len]
        exact al1
      · have e0 : (ar0 ls)[i]? = some (if l.fr = l.wi ∧ l.sc ≤ l.la then V.int l.sc else .non) := by
          show (ls.map _)[i]? = _
          rw [List.getElem?_map, hli]
          rfl
        unfold arNew
        by_cases q : j = i
        · subst q
          by_cases cc : l.fr = l.wi ∧ l.sc ≤ l.la
          · rw [if_pos ⟨cc.1, har, cc.2⟩, List.getElem?_set_self (lt_of_get har), e0, if_pos cc]
          · rw [if_neg fun z => cc ⟨z.1, z.2.2⟩, har, e0, if_neg cc]
        · have q2 := al2 j (by omega)
          split
          · rw [List.getElem?_set_ne (Ne.symm q)]
            exact q2
          · exact q2
      · have q2 := al3 j (by omega) hj2
        unfold arNew
        split
        · rw [List.getElem?_set_ne (by omega)]
          exact q2
        · exact q2
    · rintro σ G ⟨v3, v4, ar, rfl, TA, kG, gl, al1, al2, al3⟩
      have e : ar = ar0 ls := by
        refine List.ext_getElem? fun j => ?_
        by_cases q : j < ls.length
        · exact al2 j (by omega)
        · rw [List.getElem?_eq_none (by omega), List.getElem?_eq_none (by show (ls.map _).length ≤ j; rw [List.length_map]; omega)]
      subst e
      refine k G L rfl rfl TA kG fun c m => ?_
      have m : c ∈ x :: ll :: hl :: al :: dl :: as := m
      simp only [List.mem_cons] at m
      rcases m with z | z | z | z | z | z
      · exact .inl z
      · exact .inr (z ▸ nll)
      · exact .inr (z ▸ nhl)
      · exact .inr (z ▸ nal)
      · exact .inr (z ▸ ndl)
      · exact .inr (f3 c z).1
end
end K46
set_option Elab.async false
set_option linter.all false
set_option maxRecDepth 100000
set_option maxHeartbeats 4000000
namespace K46
open PySem L2
section
variable {P : Program} {w : World} {K : PySem.W.Frag} {mg : Str → Option Value} {base : Heap}
/-! ### the law's own draws -/
def spPurse (K : PySem.W.Frag) : Sp := fun vs H Q _ => ∃ (a : Addr) (ns : List Int) (k : Nat), vs = [.ref a, .int k] ∧ SqL K H a (ns.map V.int) ∧ ∀ H' p, Kp [] H H' → H p = none → PurseAt H' p → Q (.ref p) H'
theorem scPurse : FnScope ["_law_script", "_law_k", "_law_cell", "_law_left"] ["_law_script", "_law_k"] (defScope sLawPurse) := ⟨rfl, rfl, rfl, by decide +kernel, rfl, by decide +kernel, by decide +kernel⟩
theorem mod_pos {a b : Int} (h : 0 < b) : 0 ≤ a % b ∧ a % b < b := ⟨Int.emod_nonneg a (by omega), Int.emod_lt_of_pos a h⟩
theorem ok_purse (T : Txt K mg) : OkF P w K mg base CX0 1 "_law_purse" ["_law_script", "_law_k"] (spPurse K) := by
  refine mkF (st := sLawPurse) T (List.mem_of_getElem? (i := 5) rfl) (fun _ _ _ _ _ _ us hl => match us, hl with | [_, _], _ => rfl) fun fd F => ?_
  refine F.ok scPurse (fun vs H Q E h => ?_) (fun cdv A outer s H vs Q E hr h => ?_)
  · obtain ⟨a, ns, k, rfl, _⟩ := h
    rfl
  · obtain ⟨a, ns, k, rfl, hS, kk⟩ := h
    refine ⟨_, pss_cons (ps_set (i := 2) scPurse.nd rfl (.inl rfl) pe_int)
      (pss_cons (ps_if (pt_cmpR op_lt (pv 1) (pe_callB call_len_seq (by rfl) T.tLen PySem.boot_len (pa_cons (pv 0) pa_nil)) (nomark _)) (pss_one (ps_set (i := 2) scPurse.nd rfl (.inl rfl) (pe_ix ix_list (pv 0) (pv 1) (fun _ _ => rfl)))) pss_nil)
      (pss_cons (ps_set (i := 3) scPurse.nd rfl (.inl rfl) pe_int)
      (pss_cons (ps_if (pt_cmpR op_lt (pv 2) pe_int (nomark _)) (pss_one (ps_set (i := 3) scPurse.nd rfl (.inl rfl) (pe_op op_sub (pe_un un_neg pe_int) (pv 2)))) pss_nil)
      (pss_cons (ps_if (pt_cmpR op_ge (pv 2) (pe_op op_pow pe_int pe_int) (nomark _)) (pss_one (ps_set (i := 3) scPurse.nd rfl (.inl rfl) (pv 2))) pss_nil)
      (pss_one (ps_ret (pe_lst (pa_cons (pv 3) (pa_cons (pe_op op_mod (pe_op op_add (pe_op op_add (pe_op op_mul (pv 2) pe_int) (pe_op op_mul (pv 1) pe_int)) pe_int) pe_int) (pa_cons pe_int pa_nil)))))))))), ?_⟩
    have fin : ∀ (c l : Int), 0 ≤ l → ∀ p, H p = none → Q (.ref p) (upd H p (.lst [.int l, .int ((c * 69 + (k : Int) * 40503 + 271) % 2147483647), .int 0])) := fun c l h0 p hp => by
      have m := mod_pos (a := c * 69 + (k : Int) * 40503 + 271) (b := 2147483647) (by decide)
      exact kk _ p (Kp.refl.nw hp) hp ⟨l, _, 0, upd_same, h0, m.1, m.2, Int.le_refl 0⟩
    refine ⟨_, rfl, _, rfl, a, _, rfl, .inl hS, _, _, rfl, rfl, _, rfl, ite2 (fun c => ?_) (fun c => ?_)⟩
    · have hk : k < ns.length := by
        have q := of_decide_eq_true c
        rw [List.length_map] at q
        omega
      obtain ⟨z, hz⟩ := get_of_lt hk
      have hz' : (ns.map V.int)[k]? = some (.int z) := by rw [List.getElem?_map, hz] <;> rfl
      refine ⟨_, rfl, _, rfl, a, _, _, _, rfl, rfl, hS, atI_nat hz', ?_⟩
      refine ⟨_, rfl, _, _, rfl, rfl, _, rfl, ite2 (fun c1 => ⟨1, rfl, _, rfl, _, _, rfl, rfl, ?_⟩) (fun c1 => ?_)⟩
      all_goals
        refine ⟨_, rfl, 10, 18, rfl, rfl, ⟨by decide, by decide, by decide⟩, _, _, rfl, rfl, _, rfl, ite2 (fun c2 => ⟨_, rfl, ?_⟩) (fun c2 => ?_)⟩
        all_goals
          refine ⟨_, rfl, _, rfl, _, _, rfl, rfl, .inr ⟨by decide, by decide⟩, _, rfl, _, _, rfl, rfl, .inr ⟨by decide, by decide⟩, _, _, rfl, rfl, _, _, rfl, rfl, _, _, rfl, rfl, (by show (0 : Int) < 2147483647; decide), (by show 3 ≤ sizeLine; decide), fun p hp => fin _ _ ?_ p hp⟩
          first
            | omega
            | (simp at c1; omega)
            | (simp at c2; omega)
            | (simp at c1 c2; omega)
    · refine ⟨_, rfl, _, _, rfl, rfl, _, rfl, iteF ?_⟩
      refine ⟨_, rfl, 10, 18, rfl, rfl, ⟨by decide, by decide, by decide⟩, _, _, rfl, rfl, _, rfl, iteF ?_⟩
      exact ⟨_, rfl, _, rfl, _, _, rfl, rfl, .inr ⟨by decide, by decide⟩, _, rfl, _, _, rfl, rfl, .inr ⟨by decide, by decide⟩, _, _, rfl, rfl, _, _, rfl, rfl, _, _, rfl, rfl, (by show (0 : Int) < 2147483647; decide), (by show 3 ≤ sizeLine; decide), fun p hp => fin 0 0 (Int.le_refl 0) p hp⟩
def spTake : Sp := fun vs H Q _ => ∃ (p : Addr) (m : Int), vs = [.ref p, .int m] ∧ PurseAt H p ∧ 0 < m ∧ m ≤ 10 ^ 30 ∧ ∀ (H' : Hp) (d : Int), 0 ≤ d → d < m → PurseAt H' p → Kp [p] H H' → Q (.int d) H'
theorem scTake : FnScope ["_law_purse_here", "_law_many", "_law_digit", "_law_mixed"] ["_law_purse_here", "_law_many"] (defScope sLawTake) := ⟨rfl, rfl, rfl, by decide +kernel, rfl, by decide +kernel, by decide +kernel⟩
theorem ok_take (T : Txt K mg) : OkF P w K mg base CX0 1 "_law_take" ["_law_purse_here", "_law_many"] spTake := by
  refine mkF (st := sLawTake) T (List.mem_of_getElem? (i := 6) rfl) (fun _ _ _ _ _ _ us hl => match us, hl with | [_, _], _ => rfl) fun fd F => ?_
  refine F.ok scTake (fun vs H Q E h => ?_) (fun cdv A outer s H vs Q E hr h => ?_)
  · obtain ⟨p, m, rfl, _⟩ := h
    rfl
  · obtain ⟨p, m, rfl, ⟨a, b, c, hp, ha, hb, hb2, hc⟩, m0, m30, k⟩ := h
    refine ⟨_, pss_cons (ps_if (pt_cmpR op_gt (pe_ix ix_list (pv 0) pe_int (fun _ _ => rfl)) pe_int (nomark _))
        (pss_cons (ps_set (i := 2) scTake.nd rfl (.inl rfl) (pe_op op_mod (pe_ix ix_list (pv 0) pe_int (fun _ _ => rfl)) (pv 1)))
        (pss_cons (ps_asg (pe_op op_fdivW (pe_ix ix_list (pv 0) pe_int (fun _ _ => rfl)) (pv 1)) (pg_sub (pv 0) pe_int set_list))
        (pss_one (ps_ret (pv 2))))) pss_nil)
      (pss_cons (ps_augS (pv 0) pe_int pget_list pe_int ip_add set_list)
      (pss_cons (ps_set (i := 3) scTake.nd rfl (.inl rfl) (pe_op op_mod (pe_op op_mul (pe_op op_add (pe_ix ix_list (pv 0) pe_int (fun _ _ => rfl)) (pe_op op_mul (pe_ix ix_list (pv 0) pe_int (fun _ _ => rfl)) pe_int)) pe_int) pe_int))
      (pss_cons (ps_set (i := 3) scTake.nd rfl (.inl rfl) (pe_op op_mod (pe_op op_add (pe_op op_add (pe_op op_mul (pv 3) (pv 3)) (pe_op op_mul (pe_ix ix_list (pv 0) pe_int (fun _ _ => rfl)) pe_int)) (pe_ix ix_list (pv 0) pe_int (fun _ _ => rfl))) pe_int))
      (pss_one (ps_ret (pe_op op_mod (pe_op op_fdiv (pe_op op_mod (pe_op op_mul (pv 3) pe_int) pe_int) pe_int) (pv 1))))))), ?_⟩
    refine ⟨_, rfl, p, _, 0, _, rfl, rfl, SqL.of hp, rfl, a, 0, rfl, rfl, _, rfl, ite2 (fun c1 => ?_) (fun c1 => ?_)⟩
    · have h1 := mod_pos (a := a) m0
      refine ⟨_, rfl, p, _, 0, _, rfl, rfl, SqL.of hp, rfl, _, rfl, a, m, rfl, rfl, m0, ?_⟩
      refine ⟨_, rfl, p, _, 0, _, rfl, rfl, SqL.of hp, rfl, _, rfl, a, m, rfl, rfl, wide_div (b := 101) m0 (by omega) (by decide) (by decide), _, rfl, p, _, 0, 0, rfl, rfl, hp, rfl, ?_⟩
      exact ⟨_, rfl, k _ _ h1.1 h1.2 ⟨a / m, b, c, upd_same, Int.ediv_nonneg ha (by omega), hb, hb2, hc⟩ (Kp.refl.wr hp (fun z => z) (List.mem_singleton.mpr rfl))⟩
    · refine ⟨_, rfl, p, _, 2, _, rfl, rfl, by decide, SqL.of hp, rfl, c, 1, rfl, rfl, p, _, 2, 2, rfl, rfl, hp, rfl, ?_⟩
      have hq : upd H p (.lst (([.int a, .int b, .int c] : List V).set 2 (.int (c + 1)))) p = some (.lst [.int a, .int b, .int (c + 1)]) := upd_same
      refine ⟨_, rfl, p, _, 1, _, rfl, rfl, SqL.of hq, rfl, _, rfl, p, _, 2, _, rfl, rfl, SqL.of hq, rfl, c + 1, 362437, rfl, rfl, .inr ⟨by decide, by decide⟩, b, _, rfl, rfl, _, 48271, rfl, rfl, .inr ⟨by decide, by decide⟩, _, _, rfl, rfl, (by show (0 : Int) < 2147483647; decide), ?_⟩
      have hx := mod_pos (a := (b + (c + 1) * 362437) * 48271) (b := 2147483647) (by decide)
      refine ⟨_, rfl, _, rfl, _, _, rfl, rfl, .inl ⟨by omega, by omega⟩, _, rfl, p, _, 2, _, rfl, rfl, SqL.of hq, rfl, c + 1, 104729, rfl, rfl, .inr ⟨by decide, by decide⟩, _, _, rfl, rfl, _, rfl, p, _, 1, _, rfl, rfl, SqL.of hq, rfl, _, b, rfl, rfl, _, _, rfl, rfl, (by show (0 : Int) < 2147483629; decide), ?_⟩
      refine ⟨_, rfl, _, 16807, rfl, rfl, .inr ⟨by decide, by decide⟩, _, _, rfl, rfl, (by show (0 : Int) < 2147483563; decide), _, 3, rfl, rfl, ⟨by decide, by decide⟩, _, rfl, _, m, rfl, rfl, m0, ?_⟩
      exact k _ _ (mod_pos m0).1 (mod_pos m0).2 ⟨a, b, c + 1, hq, ha, hb, hb2, by omega⟩ (Kp.refl.wr hp (fun z => z) (List.mem_singleton.mpr rfl))
end
end K46
set_option Elab.async false
set_option linter.all false
set_option maxRecDepth 100000
set_option maxHeartbeats 4000000
namespace K46
open PySem L2
/-! ### rows of numbers and texts, as data -/
def scD : V → PyData
  | .int i => .int i
  | .str x => .str x
  | _ => .none
def ScOk (v : V) : Prop := (∃ i, v = .int i) ∨ ∃ x, v = .str x ∧ PyData.strOk x = true
def RowOk (r : List V) : Prop := ∀ v ∈ r, ScOk v
def rowD (r : List V) : PyData := .tuple (r.map scD)
theorem sc_dp {K : PySem.W.Frag} {H : Hp} {v : V} (h : ScOk v) : Dp K H v (scD v) := by
  rcases h with ⟨i, rfl⟩ | ⟨x, rfl, _⟩
  · exact .int i
  · exact .str x
theorem sc_can {v : V} (h : ScOk v) : (scD v).canLay0 = true := by
  rcases h with ⟨i, rfl⟩ | ⟨x, rfl, q⟩
  · rfl
  · exact q
theorem row_dp {K : PySem.W.Frag} {H : Hp} : ∀ {r : List V}, RowOk r → DpAll K H r (r.map scD)
  | [], _ => .nil
  | v :: r, h => .cons (sc_dp (h v List.mem_cons_self)) (row_dp fun u m => h u (List.mem_cons_of_mem _ m))
theorem row_can : ∀ {r : List V}, RowOk r → PyData.canLayAll0 (r.map scD) = true
  | [], _ => rfl
  | v :: r, h => by
    show (PyData.canLay0 (scD v) && PyData.canLayAll0 (r.map scD)) = true
    rw [sc_can (h v List.mem_cons_self), row_can fun u m => h u (List.mem_cons_of_mem _ m)]
    rfl
theorem sc_depth (v : V) : (scD v).depth = 0 := by
  cases v <;> rfl
theorem row_depth : ∀ (r : List V), PyData.depthAll (r.map scD) = 0
  | [] => rfl
  | v :: r => by
    show max (PyData.depth (scD v)) (PyData.depthAll (r.map scD)) = 0
    rw [sc_depth v, row_depth r]
    rfl
theorem rows_can : ∀ {rs : List (List V)}, (∀ r ∈ rs, RowOk r) → PyData.canLayAll0 (rs.map rowD) = true
  | [], _ => rfl
  | r :: rs, h => by
    show (PyData.canLayAll0 (r.map scD) && PyData.canLayAll0 (rs.map rowD)) = true
    rw [row_can (h r List.mem_cons_self), rows_can fun u m => h u (List.mem_cons_of_mem _ m)]
    rfl
theorem rows_depth : ∀ (rs : List (List V)), PyData.depthAll (rs.map rowD) ≤ 1
  | [] => Nat.zero_le _
  | r :: rs => by
    show max (PyData.depthAll (r.map scD) + 1) (PyData.depthAll (rs.map rowD)) ≤ 1
    have := rows_depth rs
    rw [row_depth r]
    omega
theorem rows_shaped {rs : List (List V)} (h : ∀ r ∈ rs, RowOk r) : SeqAt.shaped (.list (rs.map rowD)) = true ∧ SeqAt.shaped (.tuple (rs.map rowD)) = true := by
  have d := rows_depth rs
  have e : decide (PyData.depthAll (rs.map rowD) + 1 ≤ 64) = true := decide_eq_true (by omega)
  constructor
  · show (PyData.canLayAll0 (rs.map rowD) && decide (PyData.depthAll (rs.map rowD) + 1 ≤ 64)) = true
    rw [rows_can h, e]
    rfl
  · show (PyData.canLayAll0 (rs.map rowD) && decide (PyData.depthAll (rs.map rowD) + 1 ≤ 64)) = true
    rw [rows_can h, e]
    rfl
def RowAt (H : Hp) (v : V) (r : List V) : Prop := ∃ a, v = .ref a ∧ H a = some (.tup r)
theorem rows_dp {K : PySem.W.Frag} {H : Hp} : ∀ {vs : List V} {rs : List (List V)}, Paired (RowAt H) vs rs → (∀ r ∈ rs, RowOk r) → DpAll K H vs (rs.map rowD)
  | _, _, .nil, _ => .nil
  | _, _, .cons ⟨a, e, h⟩ t, q => by
    subst e
    exact .cons (.tup (SqT.of h) (row_dp (q _ List.mem_cons_self))) (rows_dp t fun u m => q u (List.mem_cons_of_mem _ m))
theorem eqv_same {rs : List (List V)} (h : ∀ r ∈ rs, RowOk r) : PyData.eqv (.list (rs.map rowD)) (.list (rs.map rowD)) = true := SeqAt.eqv_refl _ (SeqAt.canLay_of_shaped (rows_shaped h).1)
theorem eqv_nil {ds : List PyData} : PyData.eqv (.tuple ds) (.tuple []) = ds.isEmpty := by
  cases ds <;> simp [PyData.eqv, PyData.eqvAll]
theorem rowOk_ints {ns : List Int} : RowOk (ns.map V.int) := fun v m => by
  obtain ⟨i, _, rfl⟩ := List.mem_map.mp m
  exact .inl ⟨i, rfl⟩
theorem rowOk_dd (D : Dd) : RowOk D.v := fun v m => by
  rw [dd_v] at m
  rcases List.mem_cons.mp m with z | m
  · refine .inr ⟨_, z, ?_⟩
    cases D with
    | drop n x => exact (by decide +kernel : PyData.strOk ("drop" : Str) = true)
    | pass g m n x =>
      cases g with
      | true => exact (by decide +kernel : PyData.strOk ("give" : Str) = true)
      | false => exact (by decide +kernel : PyData.strOk ("copy" : Str) = true)
  · exact rowOk_ints v m
end K46
set_option Elab.async false
set_option linter.all false
set_option maxRecDepth 100000
set_option maxHeartbeats 4000000
namespace K46
open PySem L2
section
variable {P : Program} {w : World} {K : PySem.W.Frag} {mg : Str → Option Value} {base : Heap}
theorem Kp.p1 {H H1 : Hp} {p q : Addr} {o : HO} (k : Kp [p] H H1) (h : H q = some o) (ne : q ≠ p) : H1 q = some o := k.at h fun m => ne (List.mem_singleton.mp m)
def spFar : Sp := fun vs H Q _ => ∃ (p : Addr), vs = [.ref p] ∧ PurseAt H p ∧ ∀ (H' : Hp) (d : Int), PurseAt H' p → Kp [p] H H' → Q (.int d) H'
theorem scFar : FnScope ["_law_purse_here", "_law_high"] ["_law_purse_here"] (defScope sLawFar) := ⟨rfl, rfl, rfl, by decide +kernel, rfl, by decide +kernel, by decide +kernel⟩
theorem ok_far (T : Txt K mg) : OkF P w K mg base CX0 2 "_law_far" ["_law_purse_here"] spFar := by
  have G := ok_take (P := P) (w := w) (base := base) T
  refine mkF (st := sLawFar) T (List.mem_of_getElem? (i := 7) rfl) (fun _ _ _ _ _ _ us hl => match us, hl with | [_], _ => rfl) fun fd F => ?_
  refine F.ok scFar (fun vs H Q E h => ?_) (fun cdv A outer s H vs Q E hr h => ?_)
  · obtain ⟨p, rfl, _⟩ := h
    rfl
  · obtain ⟨p, rfl, hp, k⟩ := h
    refine ⟨_, pss_cons (ps_set (i := 1) scFar.nd rfl (.inl rfl) (pe_cf G hr pass0 (pa_cons (pv 0) (pa_cons pe_int pa_nil))))
      (pss_one (ps_ret (pe_op op_mod (pe_op op_add (pe_op op_mul (pv 1) pe_int) (pe_cf G hr pass0 (pa_cons (pv 0) (pa_cons pe_int pa_nil)))) (pe_op op_add (pe_op op_pow pe_int pe_int) pe_int)))), ?_⟩
    refine ⟨_, rfl, p, 32768, rfl, hp, by decide, by decide, fun H1 d1 _ _ P1 K1 => ?_⟩
    refine ⟨_, rfl, _, _, rfl, rfl, .inr ⟨by decide, by decide⟩, _, rfl, p, 32768, rfl, P1, by decide, by decide, fun H2 d2 _ _ P2 K2 => ?_⟩
    exact ⟨_, _, rfl, rfl, 10, 9, rfl, rfl, ⟨by decide, by decide, by decide⟩, _, _, rfl, rfl, _, _, rfl, rfl, (by show (0 : Int) < 10 ^ (9 : Int).toNat + 1; decide), k H2 _ P2 (K1.trans K2)⟩
def spStep : Sp := fun vs H Q _ => ∃ (p : Addr), vs = [.ref p] ∧ PurseAt H p ∧ ∀ (H' : Hp) (d : Int), 0 ≤ d → d ≤ 16000000 → PurseAt H' p → Kp [p] H H' → Q (.int d) H'
theorem scStep : FnScope ["_law_purse_here", "_law_way"] ["_law_purse_here"] (defScope sLawStep) := ⟨rfl, rfl, rfl, by decide +kernel, rfl, by decide +kernel, by decide +kernel⟩
theorem ok_step (T : Txt K mg) : OkF P w K mg base CX0 2 "_law_step" ["_law_purse_here"] spStep := by
  have G := ok_take (P := P) (w := w) (base := base) T
  refine mkF (st := sLawStep) T (List.mem_of_getElem? (i := 9) rfl) (fun _ _ _ _ _ _ us hl => match us, hl with | [_], _ => rfl) fun fd F => ?_
  refine F.ok scStep (fun vs H Q E h => ?_) (fun cdv A outer s H vs Q E hr h => ?_)
  · obtain ⟨p, rfl, _⟩ := h
    rfl
  · obtain ⟨p, rfl, hp, k⟩ := h
    refine ⟨_, pss_cons (ps_set (i := 1) scStep.nd rfl (.inl rfl) (pe_cf G hr pass0 (pa_cons (pv 0) (pa_cons pe_int pa_nil))))
      (pss_cons (ps_if (pt_cmpR op_lt (pv 1) pe_int (nomark _)) (pss_one (ps_ret (pe_ix ix_list (pe_lst (pa_cons pe_int (pa_cons pe_int (pa_cons pe_int pa_nil)))) (pv 1) (fun _ _ => rfl)))) pss_nil)
      (pss_cons (ps_if (pt_cmpR op_eq (pv 1) pe_int (nomark _)) (pss_one (ps_ret (pe_op op_add pe_int (pe_cf G hr pass0 (pa_cons (pv 0) (pa_cons pe_int pa_nil)))))) pss_nil)
      (pss_one (ps_ret (pe_op op_add pe_int (pe_cf G hr pass0 (pa_cons (pv 0) (pa_cons (pe_op op_mul pe_int (pe_op op_pow pe_int pe_int)) pa_nil)))))))), ?_⟩
    refine ⟨_, rfl, p, 5, rfl, hp, by decide, by decide, fun H1 d d0 d5 P1 K1 => ?_⟩
    refine ⟨_, rfl, _, _, rfl, rfl, _, rfl, ite2 (fun c => ?_) (fun c => ?_)⟩
    · have c : d < 3 := of_decide_eq_true c
      obtain ⟨v, hv, h0, h1⟩ : ∃ v : Int, atI ([.int 0, .int 1, .int 1] : List V) d = some (.int v) ∧ 0 ≤ v ∧ v ≤ 16000000 := by
        have q : d = 0 ∨ d = 1 ∨ d = 2 := by omega
        rcases q with rfl | rfl | rfl
        · exact ⟨0, rfl, by decide, by decide⟩
        · exact ⟨1, rfl, by decide, by decide⟩
        · exact ⟨1, rfl, by decide, by decide⟩
      refine ⟨by show 3 ≤ sizeLine; decide, fun l hl => ⟨_, rfl, l, _, d, _, rfl, rfl, SqL.of upd_same, hv, ?_⟩⟩
      exact k _ v h0 h1 (P1.kp (Z := []) (Kp.refl.nw hl) (fun m => nomatch m)) (K1.nw hl)
    · refine ⟨_, rfl, rfl, _, rfl, ite2 (fun c => ?_) (fun c => ?_)⟩
      · refine ⟨_, rfl, p, 9, rfl, P1, by decide, by decide, fun H2 e e0 e9 P2 K2 => ⟨1, e, rfl, rfl, ?_⟩⟩
        exact k H2 _ (by omega) (by omega) P2 (K1.trans K2)
      · refine ⟨_, rfl, 10, 6, rfl, rfl, ⟨by decide, by decide, by decide⟩, 16, _, rfl, rfl, .inl ⟨by decide, by decide⟩, p, 16 * 10 ^ (6 : Int).toNat, rfl, P1, by decide, by decide, fun H2 e e0 e9 P2 K2 => ⟨1, e, rfl, rfl, ?_⟩⟩
        have e9' : e < 16000000 := e9
        exact k H2 _ (by omega) (by omega) P2 (K1.trans K2)
def spRooms : Sp := fun vs H Q _ => ∃ (p : Addr) (n : Nat), vs = [.ref p, .int n] ∧ PurseAt H p ∧ n ≤ 12 ∧ ∀ (H' : Hp) (t : Addr) (rs : List Int), rs.length = n → (∀ r ∈ rs, 0 ≤ r) → H' t = some (.tup (rs.map V.int)) → PurseAt H' p → Kp [p] H H' → Q (.ref t) H'
theorem scRooms : FnScope ["_law_purse_here", "_law_walkers", "_law_rooms_here", "_law_walker", "_law_room"] ["_law_purse_here", "_law_walkers"] (defScope sLawRooms) := ⟨rfl, rfl, rfl, by decide +kernel, rfl, by decide +kernel, by decide +kernel⟩
theorem ok_rooms (T : Txt K mg) : OkF P w K mg base CX0 2 "_law_rooms" ["_law_purse_here", "_law_walkers"] spRooms := by
  have G := ok_take (P := P) (w := w) (base := base) T
  refine mkF (st := sLawRooms) T (List.mem_of_getElem? (i := 8) rfl) (fun _ _ _ _ _ _ us hl => match us, hl with | [_, _], _ => rfl) fun fd F => ?_
  refine F.ok scRooms (fun vs H Q E h => ?_) (fun cdv A outer s H vs Q E hr h => ?_)
  · obtain ⟨p, n, rfl, _⟩ := h
    rfl
  · obtain ⟨p, n, rfl, hp, h12, k⟩ := h
    refine ⟨_, pss_cons (ps_set (i := 2) scRooms.nd rfl (.inl rfl) (pe_lst pa_nil))
      (pss_cons (ps_for PassesOwn.never rfl (pi_range1 (by rfl) T.tRange (pa_cons (pv 1) pa_nil)) (pg_name (i := 3) scRooms.nd rfl (Or.inl rfl))
        (pss_cons (ps_set (i := 4) scRooms.nd rfl (.inl rfl) (pe_op op_fdiv (pe_cf G hr pass0 (pa_cons (pv 0) (pa_cons pe_int pa_nil))) pe_int))
        (C8.pss_cut (ps_if (pt_cmpR op_eq (pv 4) pe_int (nomark _)) (pss_one (ps_set (i := 4) scRooms.nd rfl (.inl rfl) (pe_cf G hr pass0 (pa_cons (pv 0) (pa_cons pe_int pa_nil))))) pss_nil)
        (pss_one (ps_expr (pe_bm PySem.F.plainAttrs_list PySem.F.slot_list_append PySem.F.type_list_append mt_append (pv 2) (pa_cons (pv 4) pa_nil)))))))
      (pss_one (ps_ret (pe_callTy call_tuple_of (by rfl) T.tTup (by decide +kernel) (pa_cons (pv 2) pa_nil))))), ?_⟩
    refine ⟨Nat.zero_le _, fun f hf => ?_⟩
    have fp : f ≠ p := fun z => by
      obtain ⟨a, b, c, e, _⟩ := hp
      rw [z, e] at hf
      cases hf
    refine ⟨_, rfl, n, rfl, (small62 (by omega)).1, (small62 (by omega)).2, for_range (lo := 0) (n := (n : Int).toNat) (fun i σ G => ∃ (v3 v4 : Option V) (rs : List Int), σ = [some (.ref p), some (.int n), some (.ref f), v3, v4] ∧ G f = some (.lst (rs.map V.int)) ∧ rs.length = i ∧ (∀ r ∈ rs, 0 ≤ r) ∧ PurseAt G p ∧ Kp [p] H G)
      ⟨none, none, [], rfl, upd_same, rfl, (fun _ m => nomatch m), hp.kp (Z := []) (Kp.refl.nw hf) (fun m => nomatch m), Kp.refl.nw hf⟩ ?_ ?_⟩
    · rintro i σ G1 hi ⟨v3, v4, rs, rfl, g1, g2, g3, g4, g5⟩
      refine ⟨_, rfl, p, 8, rfl, g4, by decide, by decide, fun H1 d d0 d8 P1 K1 => ⟨d, 2, rfl, rfl, ⟨by decide, by decide⟩, ?_⟩⟩
      refine ⟨fun σ' H' => ∃ (v3 : Option V) (r : Int), σ' = [some (.ref p), some (.int n), some (.ref f), v3, some (.int r)] ∧ 0 ≤ r ∧ PurseAt H' p ∧ Kp [p] G1 H', ?_, ?_⟩
      · refine ⟨_, rfl, rfl, _, rfl, ite2 (fun c => ?_) (fun c => ?_)⟩
        · refine ⟨_, rfl, p, 100, rfl, P1, by decide, by decide, fun H2 e e0 _ P2 K2 => ?_⟩
          exact ⟨_, e, rfl, e0, P2, K1.trans K2⟩
        · exact ⟨_, d / 2, rfl, Int.ediv_nonneg d0 (by decide), P1, K1⟩
      · rintro σ' H' ⟨v3, r, rfl, r0, P2, K2⟩
        have gf := K2.p1 g1 fp
        refine ⟨_, rfl, .inl ⟨rfl, _, SqL.of gf⟩, _, rfl, f, _, _, rfl, rfl, gf, line_of (by rw [List.length_map]; omega), ?_⟩
        refine ⟨_, _, rs ++ [r], rfl, by rw [upd_same, List.map_append] <;> rfl, by rw [List.length_append, g2] <;> rfl, fun x m => ?_, ?_, (g5.trans K2).wn hf⟩
        · rcases List.mem_append.mp m with m | m
          · exact g3 x m
          · rw [List.mem_singleton.mp m]
            exact r0
        · exact P2.kp (Z := [f]) (Kp.refl.wr gf (fun z => z) (List.mem_singleton.mpr rfl)) fun m => fp (List.mem_singleton.mp m).symm
    · rintro σ G1 ⟨v3, v4, rs, rfl, g1, g2, g3, g4, g5⟩
      refine ⟨_, rfl, f, _, rfl, .inl ⟨SqL.of g1, fun t ht => ?_⟩⟩
      exact k _ t rs (by omega) g3 upd_same (g4.kp (Z := []) (Kp.refl.nw ht) (fun m => nomatch m)) (g5.nw ht)
end
end K46
set_option Elab.async false
set_option linter.all false
set_option maxRecDepth 100000
set_option maxHeartbeats 4000000
namespace K46
open PySem L2
/-- a found meeting, with its time first -/
def FtAt (n : Nat) (H : Hp) (v : V) : Prop := ∃ (a : Addr) (t lo hi m : Int), v = .ref a ∧ H a = some (.tup [.int t, .int lo, .int hi, .int m]) ∧ (0 ≤ t ∧ t < 10 ^ 10) ∧ (0 ≤ lo ∧ lo < (n : Int)) ∧ (0 ≤ hi ∧ hi < (n : Int)) ∧ 0 ≤ m ∧ m < 1000
theorem FtAt.kp {n : Nat} {Z : List Addr} {H H' : Hp} (k : Kp Z H H') {v : V} : FtAt n H v → FtAt n H' v := fun ⟨a, t, lo, hi, m, e, h, r⟩ => ⟨a, t, lo, hi, m, e, k.tup h, r⟩
def MtOk (n : Nat) (mt : Mt) : Prop := 0 ≤ mt.a ∧ mt.a < (n : Int) ∧ 0 ≤ mt.b ∧ mt.b < (n : Int) ∧ 0 ≤ mt.m
theorem flat_ints (l : List Int) : (l.map V.int).all flatV = true := List.all_eq_true.mpr fun v m => by
  obtain ⟨i, _, rfl⟩ := List.mem_map.mp m
  rfl
theorem ft_rows {n : Nat} {H : Hp} : ∀ {fs : List V}, (∀ v ∈ fs, FtAt n H v) → ∃ rs, Paired (RowAt H) fs rs ∧ ∀ r ∈ rs, RowOk r
  | [], _ => ⟨[], .nil, fun _ m => nomatch m⟩
  | v :: fs, h => by
    obtain ⟨rs, h1, h2⟩ := ft_rows (fs := fs) fun u m => h u (List.mem_cons_of_mem _ m)
    obtain ⟨a, t, lo, hi, m, e, q, _⟩ := h v List.mem_cons_self
    refine ⟨_ :: rs, .cons ⟨a, e, q⟩ h1, fun r m' => ?_⟩
    rcases List.mem_cons.mp m' with z | z
    · rw [z]
      exact rowOk_ints (ns := [t, lo, hi, m])
    · exact h2 r z
section
variable {P : Program} {w : World} {K : PySem.W.Frag} {mg : Str → Option Value} {base : Heap}
theorem pgt {X : Cx} (K : PySem.W.Frag) {es : List Expr} {k : Nat} {pos : Pos} {t : TGs} {n : Nat} (hc : X.calm = true) (h : PGs X es t) (e : X.K = K := by rfl)
    (hn : (assignEach es X.env).length = n := by rfl) (hst : (assignEach es X.env).findIdx? (·.1) = none := by rfl) : PG X (.Tuple es k pos) (gTup K n t) := e ▸ pg_tup hc h hn hst
def spMeets : Sp := fun vs H Q _ => ∃ (p : Addr) (n o : Nat), vs = [.ref p, .int n, .int o] ∧ PurseAt H p ∧ 1 ≤ n ∧ n ≤ 12 ∧ o ≤ 60 ∧ (n = 1 → o = 0) ∧
  ∀ (H' : Hp) (t : Addr) (vs : List V) (ms : List Mt), ms.length ≤ 60 → (∀ mt ∈ ms, MtOk n mt) → H' t = some (.tup vs) → Paired (MtAt H') vs ms → PurseAt H' p → Kp [p] H H' → Q (.ref t) H'
abbrev mN : List Str := ["_law_purse_here", "_law_walkers", "_law_most", "_law_found", "_law_when", "_law_busy", "_law_k", "_law_one", "_law_other", "_law_gap", "_law_passed", "_law_late", "_law_then", "_law_low", "_law_high", "_law_room"]
theorem scMeets : FnScope mN ["_law_purse_here", "_law_walkers", "_law_most"] (defScope sLawMeetings) := ⟨rfl, rfl, rfl, by decide +kernel, rfl, by decide +kernel, by decide +kernel⟩
abbrev mOwn : List (Str × Nat) := [("_law_then", 12), ("_law_low", 13), ("_law_high", 14), ("_law_room", 15)]
theorem ok_meets (T : Txt K mg) : OkF P w K mg base CX0 3 "_law_meetings" ["_law_purse_here", "_law_walkers", "_law_most"] spMeets := by
  have G := ok_take (P := P) (w := w) (base := base) T
  have GS := ok_step (P := P) (w := w) (base := base) T
  refine mkF (st := sLawMeetings) T (List.mem_of_getElem? (i := 10) rfl) (fun _ _ _ _ _ _ us hl => match us, hl with | [_, _, _], _ => rfl) fun fd F => ?_
  refine F.ok scMeets (fun vs H Q E h => ?_) (fun cdv A outer s H vs Q E hr h => ?_)
  · obtain ⟨p, n, o, rfl, _⟩ := h
    rfl
  · obtain ⟨p, n, o, rfl, hp, h1, h12, h60, hn1, k⟩ := h
    have hr1 : Room 1 _ := hr.mono (by decide)
    have hu64 := hr.units
    refine ⟨_, (pss_cons (ps_set (i := 3) scMeets.nd rfl (.inl rfl) (pe_lst pa_nil))
      (pss_cons (ps_set (i := 4) scMeets.nd rfl (.inl rfl) (pe_op op_add pe_int (pe_op op_mul (pe_op op_fdiv (pe_cf G hr1 pass0 (pa_cons (pv 0) (pa_cons pe_int pa_nil))) pe_int) (pe_cf G hr1 pass0 (pa_cons (pv 0) (pa_cons (pe_op op_pow pe_int pe_int) pa_nil))))))
      (pss_cons (ps_set (i := 5) scMeets.nd rfl (.inl rfl) (pe_lst pa_nil))
      (pss_cons (ps_for PassesOwn.never rfl (pi_range1 (by rfl) T.tRange (pa_cons (pv 2) pa_nil)) (pg_name (i := 6) scMeets.nd rfl (Or.inl rfl)) (pss_cons (ps_set (i := 7) scMeets.nd rfl (.inl rfl) (pe_cf G hr1 pass0 (pa_cons (pv 0) (pa_cons (pv 1) pa_nil))))
      (pss_cons (ps_set (i := 8) scMeets.nd rfl (.inl rfl) (pe_op op_mod (pe_op op_add (pe_op op_add (pv 7) pe_int) (pe_cf G hr1 pass0 (pa_cons (pv 0) (pa_cons (pe_op op_sub (pv 1) pe_int) pa_nil)))) (pv 1)))
      (pss_cons (ps_set (i := 9) scMeets.nd rfl (.inl rfl) (pe_cf GS hr pass0 (pa_cons (pv 0) pa_nil)))
      (C8.pss_cut (ps_if (PW.pt (pw_or (pt_cmpR op_in_seq (pv 7) (pv 5) (by rfl)) (pw_or1 (pt_cmpR op_in_seq (pv 8) (pv 5) (by rfl)))))
               (pss_one (ps_set (i := 9) scMeets.nd rfl (.inl rfl) (pe_callB (call_max2 rfl) (by rfl) T.tMax (by decide +kernel) (pa_cons pe_int (pa_cons (pv 9) pa_nil))))) pss_nil)
      (C8.pss_cut (ps_if (pt_cmpR op_gt (pv 9) pe_int (nomark _)) (pss_one (ps_set (i := 5) scMeets.nd rfl (.inl rfl) (pe_lst pa_nil))) pss_nil)
      (pss_cons (ps_set (i := 4) scMeets.nd rfl (.inl rfl) (pe_op op_add (pv 4) (pv 9)))
      (pss_cons (ps_set (i := 5) scMeets.nd rfl (.inl rfl) (pe_op op_cat (pv 5) (pe_lst (pa_cons (pv 7) (pa_cons (pv 8) pa_nil)))))
      (pss_cons (ps_set (i := 10) scMeets.nd rfl (.inl rfl) (pe_op op_add pe_int (pe_op op_fdiv (pe_cf G hr1 pass0 (pa_cons (pv 0) (pa_cons pe_int pa_nil))) pe_int)))
      (C8.pss_cut (ps_if (pt_cmpR op_eq (pe_cf G hr1 pass0 (pa_cons (pv 0) (pa_cons pe_int pa_nil))) pe_int (nomark _)) (pss_one (ps_set (i := 10) scMeets.nd rfl (.inl rfl) (pe_op op_add pe_int (pe_cf G hr1 pass0 (pa_cons (pv 0) (pa_cons pe_int pa_nil)))))) pss_nil)
      (pss_one (ps_expr (pe_bm PySem.F.plainAttrs_list PySem.F.slot_list_append PySem.F.type_list_append mt_append (pv 3) (pa_cons (pe_tup (pa_cons (pv 4) (pa_cons (pe_callB (call_min2 rfl) (by rfl) T.tMin (by decide +kernel) (pa_cons (pv 7) (pa_cons (pv 8) pa_nil)))
              (pa_cons (pe_callB (call_max2 rfl) (by rfl) T.tMax (by decide +kernel) (pa_cons (pv 7) (pa_cons (pv 8) pa_nil))) (pa_cons (pv 10) pa_nil))))) pa_nil))))))))))))))
      (pss_cons (ps_set (i := 11) scMeets.nd rfl (.inr rfl) pe_int)
      (C8.pss_cut (ps_if (PW.pt (pw_and (pt_cmpR op_eq (pe_cf G hr1 pass0 (pa_cons (pv 0) (pa_cons pe_int pa_nil))) pe_int (nomark _)) (pw_and1 (pt_cmpR (op_neD hu64) (pv 3) (pe_lst pa_nil) (nomark _)))))
           (pss_one (ps_set (i := 11) scMeets.nd rfl (.inr rfl) (pe_op op_sub (pe_op op_pow pe_int pe_int) (pv 4)))) pss_nil)
      (pss_one (ps_ret (pe_callTy call_tuple_of (by rfl) T.tTup (by decide +kernel) (pa_cons (by exact (pe_lc (own := mOwn) (by rfl) scMeets.nd (pi_list (pe_callB (cr_sortT (d := 4) (B := 10 ^ 10) (by decide)) (by rfl) T.tSorted (by decide +kernel) (pa_cons (pv 3) pa_nil)))
        (blkOk_by (own := mOwn) (N := mN) (sc := defScope sLawMeetings) (by decide +kernel))
        (fun _ _ _ _ _ => by exact (pgt (n := 4) K (by rfl) (pgs_cons (pg_name (i := 12) scMeets.nd rfl (.inl rfl)) (pgs_cons (pg_name (i := 13) scMeets.nd rfl (.inl rfl)) (pgs_cons (pg_name (i := 14) scMeets.nd rfl (.inl rfl)) (pgs_cons (pg_name (i := 15) scMeets.nd rfl (.inl rfl)) pgs_nil))))))
        (fun _ _ _ _ _ => pts_nil) (fun _ _ _ _ _ => by exact (pe_tup (pa_cons (pv 13) (pa_cons (pv 14) (pa_cons (pe_op op_add (pv 12) (pv 11)) (pa_cons (pv 15) pa_nil)))))))) pa_nil)))))))))), ?_⟩
    refine ⟨Nat.zero_le _, fun f hf => ?_⟩
    have fp : f ≠ p := fun z => by
      obtain ⟨a, b, c, e, _⟩ := hp
      rw [z, e] at hf
      cases hf
    have P0 : PurseAt (upd H f (.lst [])) p := hp.kp (Z := []) (Kp.refl.nw hf) (fun m => nomatch m)
    have K0 : Kp [p] H (upd H f (.lst [])) := Kp.refl.nw hf
    refine ⟨_, rfl, p, 3, rfl, P0, by decide, by decide, fun H1 d d0 d3 P1 K1 => ⟨d, 2, rfl, rfl, ⟨by decide, by decide⟩, _, rfl, 10, 7, rfl, rfl, ⟨by decide, by decide, by decide⟩, p, 10 ^ (7 : Int).toNat, rfl, P1, by decide, by decide, fun H2 e e0 e7 P2 K2 => ?_⟩⟩
    have d2 : d / 2 = 0 ∨ d / 2 = 1 := by omega
    refine ⟨_, _, rfl, rfl, .inl ⟨by omega, by omega⟩, 1, _, rfl, rfl, ?_⟩
    have w0 : 1 ≤ 1 + d / 2 * e ∧ 1 + d / 2 * e ≤ 10000001 := by
      have e7' : e < 10000000 := e7
      rcases d2 with z | z
      · rw [z]
        omega
      · rw [z]
        omega
    have f2 : H2 f = some (.lst []) := K2.p1 (K1.p1 upd_same fp) fp
    have K02 : Kp [p] H H2 := (K0.trans K1).trans K2
    refine ⟨Nat.zero_le _, fun b0 hb0 => ?_⟩
    have bf : b0 ≠ f := (ne_of_none f2 hb0).symm
    have bp : b0 ≠ p := fun z => by
      obtain ⟨_, _, _, e', _⟩ := P2
      rw [z, e'] at hb0
      cases hb0
    refine ⟨_, rfl, o, rfl, (small62 (by omega)).1, (small62 (by omega)).2, for_range (lo := 0) (n := (o : Int).toNat) (fun i σ G => ∃ (wh : Int) (bz : List Int) (ba : Addr) (fs : List V) (v6 v7 v8 v9 v10 : Option V),
      σ = [some (.ref p), some (.int n), some (.int o), some (.ref f), some (.int wh), some (.ref ba), v6, v7, v8, v9, v10, none, none, none, none, none] ∧ G f = some (.lst fs) ∧ fs.length = i ∧ (∀ v ∈ fs, FtAt n G v) ∧
      G ba = some (.lst (bz.map V.int)) ∧ bz.length ≤ 2 * i ∧ ba ≠ f ∧ ba ≠ p ∧ PurseAt G p ∧ Kp [p] H G ∧ 1 ≤ wh ∧ wh ≤ 10000001 + 16000001 * (i : Int))
      ⟨_, [], b0, [], none, none, none, none, none, rfl, upd_of f2 bf.symm, rfl, (fun _ m => nomatch m), upd_same, Nat.zero_le _, bf, bp, P2.kp (Z := []) (Kp.refl.nw hb0) (fun m => nomatch m), K02.nw hb0, w0.1, by have := w0.2; omega⟩ ?_ ?_⟩
    · rintro i σ G hi ⟨wh, bz, ba, fs, v6, v7, v8, v9, v10, rfl, gf, gl, gi, gb, gz, nf, np, PG, KG, wl, wu⟩
      have hn2 : 2 ≤ n := by
        rcases Nat.lt_or_ge n 2 with z | z
        · have := hn1 (by omega)
          omega
        · exact z
      refine ⟨_, rfl, _, rfl, p, n, rfl, PG, by omega, by omega, fun H1 one o0 o1 P1 K1 => ?_⟩
      refine ⟨_, rfl, _, _, rfl, rfl, _, rfl, _, rfl, _, _, rfl, rfl, p, (n : Int) - 1, rfl, P1, by omega, by omega, fun H2 x x0 x1 P2 K2 => ⟨_, _, rfl, rfl, _, rfl, _, _, rfl, rfl, (by show (0 : Int) < n; omega), ?_⟩⟩
      have ot := mod_pos (a := one + 1 + x) (b := (n : Int)) (by omega)
      refine ⟨_, rfl, p, rfl, P2, fun H3 gp g0 g1 P3 K3 => ?_⟩
      have K13 : Kp [p] G H3 := (K1.trans K2).trans K3
      have b3 : H3 ba = some (.lst (bz.map V.int)) := K13.p1 gb np
      have f3 : H3 f = some (.lst fs) := K13.p1 gf fp
      refine ⟨fun σ' H' => ∃ g : Int, 0 ≤ g ∧ g ≤ 16000001 ∧ σ' = [some (.ref p), some (.int n), some (.int o), some (.ref f), some (.int wh), some (.ref ba), some (.int (0 + (i : Int))), some (.int one), some (.int ((one + 1 + x) % (n : Int))), some (.int g), v10, none, none, none, none, none] ∧ H' = H3, ?_, ?_⟩
      · have mx : 0 ≤ (if gp > 1 then gp else 1) ∧ (if gp > 1 then gp else 1) ≤ 16000001 := by
          split <;> omega
        refine ⟨_, rfl, _, rfl, ba, _, rfl, .inl (SqL.of b3), rfl, flat_ints _, _, rfl, ite2 (fun c => ?_) (fun c => ?_)⟩
        · exact ⟨_, rfl, 1, gp, rfl, _, mx.1, mx.2, rfl, rfl⟩
        · refine ⟨_, rfl, _, rfl, ba, _, rfl, .inl (SqL.of b3), rfl, flat_ints _, _, rfl, ite2 (fun c => ?_) (fun c => ?_)⟩
          · exact ⟨_, rfl, 1, gp, rfl, _, mx.1, mx.2, rfl, rfl⟩
          · exact ⟨gp, g0, by omega, rfl, rfl⟩
      rintro _ _ ⟨g, gg0, gg1, rfl, rfl⟩
      refine ⟨fun σ' H' => ∃ (ba' : Addr) (bz' : List Int), σ' = [some (.ref p), some (.int n), some (.int o), some (.ref f), some (.int wh), some (.ref ba'), some (.int (0 + (i : Int))), some (.int one), some (.int ((one + 1 + x) % (n : Int))), some (.int g), v10, none, none, none, none, none] ∧
        H' ba' = some (.lst (bz'.map V.int)) ∧ bz'.length ≤ 2 * i ∧ H' f = some (.lst fs) ∧ Kp [p] G H' ∧ PurseAt H' p, ?_, ?_⟩
      · refine ⟨_, rfl, _, _, rfl, rfl, _, rfl, ite2 (fun c => ?_) (fun c => ?_)⟩
        · exact ⟨Nat.zero_le _, fun q hq => ⟨q, [], rfl, upd_same, Nat.zero_le _, upd_new f3 hq, K13.nw hq, P3.kp (Z := []) (Kp.refl.nw hq) (fun m => nomatch m)⟩⟩
        · exact ⟨ba, bz, rfl, b3, gz, f3, K13, P3⟩
      rintro _ H4 ⟨ba', bz', rfl, b4, z4, f4, K4, P4⟩
      refine ⟨_, rfl, _, rfl, _, _, rfl, rfl, ?_⟩
      refine ⟨_, rfl, _, rfl, _, rfl, (by show 2 ≤ sizeLine; decide), fun q hq => ⟨ba', q, _, _, rfl, rfl, upd_new b4 hq, upd_same, (by rw [List.length_map]; exact Nat.le_of_lt (line_of (by show _ + 2 ≤ 100000; omega))), fun q2 hq2 => ?_⟩⟩
      have f5 : upd (upd H4 q (.lst [.int one, .int ((one + 1 + x) % (n : Int))])) q2 (.lst (bz'.map V.int ++ [.int one, .int ((one + 1 + x) % (n : Int))])) f = some (.lst fs) := upd_new (upd_new f4 hq) hq2
      have K5 := (K4.nw (o := .lst [.int one, .int ((one + 1 + x) % (n : Int))]) hq).nw (o := .lst (bz'.map V.int ++ [.int one, .int ((one + 1 + x) % (n : Int))])) hq2
      have P5 := P4.kp (Z := []) ((Kp.refl.nw (o := .lst [.int one, .int ((one + 1 + x) % (n : Int))]) hq).nw (o := .lst (bz'.map V.int ++ [.int one, .int ((one + 1 + x) % (n : Int))])) hq2) (fun m => nomatch m)
      have q2f : q2 ≠ f := (ne_of_none (upd_new f4 hq) hq2).symm
      have q2p : q2 ≠ p := fun z => by
        obtain ⟨_, _, _, e', _⟩ := P4.kp (Z := []) (Kp.refl.nw (o := .lst [.int one, .int ((one + 1 + x) % (n : Int))]) hq) (fun m => nomatch m)
        rw [z, e'] at hq2
        cases hq2
      refine ⟨_, rfl, p, 4, rfl, P5, by decide, by decide, fun H6 y y0 y4 P6 K6 => ⟨y, 2, rfl, rfl, ⟨by decide, by decide⟩, 1, _, rfl, rfl, ?_⟩⟩
      refine ⟨fun σ' H' => ∃ pm : Int, 0 ≤ pm ∧ pm < 1000 ∧ σ' = [some (.ref p), some (.int n), some (.int o), some (.ref f), some (.int (wh + g)), some (.ref q2), some (.int (0 + (i : Int))), some (.int one), some (.int ((one + 1 + x) % (n : Int))), some (.int g), some (.int pm), none, none, none, none, none] ∧ PurseAt H' p ∧ Kp [p] H6 H', ?_, ?_⟩
      · refine ⟨_, rfl, p, 6, rfl, P6, by decide, by decide, fun H7 z z0 z6 P7 K7 => ⟨rfl, _, rfl, ite2 (fun c => ?_) (fun c => ?_)⟩⟩
        · exact ⟨_, rfl, p, 99, rfl, P7, by decide, by decide, fun H8 u u0 u9 P8 K8 => ⟨1, u, rfl, rfl, 1 + u, by omega, by omega, rfl, P8, K7.trans K8⟩⟩
        · exact ⟨1 + y / 2, by omega, by omega, rfl, P7, K7⟩
      rintro _ H9 ⟨pm, m0, m9, rfl, P9, K9⟩
      have K69 := K6.trans K9
      have f9 : H9 f = some (.lst fs) := K69.p1 f5 fp
      have q9 := K69.p1 (q := q2) upd_same q2p
      refine ⟨_, rfl, .inl ⟨rfl, _, SqL.of f9⟩, _, rfl, _, rfl, _, rfl, _, _, rfl, _, rfl, _, rfl, _, _, rfl, _, rfl, (by show 4 ≤ sizeLine; decide), fun r hr9 => ?_⟩
      have fr : f ≠ r := ne_of_none f9 hr9
      refine ⟨f, _, _, rfl, rfl, upd_of f9 fr, line_of (by omega), ?_⟩
      have KA : Kp [p] G H9 := K5.trans K69
      have KB := (KA.nw (o := .tup [.int (wh + g), .int (if (one + 1 + x) % (n : Int) < one then (one + 1 + x) % (n : Int) else one), .int (if (one + 1 + x) % (n : Int) > one then (one + 1 + x) % (n : Int) else one), .int pm]) hr9)
      refine ⟨wh + g, bz' ++ [one, (one + 1 + x) % (n : Int)], q2, fs ++ [.ref r], _, _, _, _, _, rfl, upd_same, by rw [List.length_append, gl] <;> rfl, fun v m => ?_, ?_, by rw [List.length_append]; show _ + 2 ≤ _; omega, q2f, q2p, ?_, ?_, by omega, by omega⟩
      · rcases List.mem_append.mp m with m | m
        · obtain ⟨a, t, lo, hi', mm, e1, e2, e3⟩ := gi v m
          refine ⟨a, t, lo, hi', mm, e1, ?_, e3⟩
          have e4 := KB.tup e2
          rw [upd_ne (ne_of e4 (upd_of f9 fr) (by intro z; cases z))]
          exact e4
        · rw [List.mem_singleton.mp m]
          refine ⟨r, _, _, _, _, rfl, upd_of upd_same fr.symm, ⟨by omega, ?_⟩, ?_, ?_, m0, m9⟩
          · have hi60 : (i : Int) < 60 := by omega
            show wh + g < 10 ^ 10
            have : (10 : Int) ^ 10 = 10000000000 := by decide
            omega
          · split <;> omega
          · split <;> omega
      · rw [List.map_append]
        exact upd_of (upd_new q9 hr9) q2f
      · exact P9.kp (Z := [f]) ((Kp.refl.nw hr9).wr (upd_of f9 fr) (fun z => z) (List.mem_singleton.mpr rfl)) fun m => fp (List.mem_singleton.mp m).symm
      · exact ((KG.trans KA).nw hr9).wn hf
    · rintro σ G ⟨wh, bz, ba, fs, v6, v7, v8, v9, v10, rfl, gf, gl, gi, gb, gz, nf, np, PG, KG, wl, wu⟩
      have l60 : fs.length ≤ 60 := by omega
      refine ⟨fun σ' H' => ∃ lt : Int, σ' = [some (.ref p), some (.int n), some (.int o), some (.ref f), some (.int wh), some (.ref ba), v6, v7, v8, v9, v10, some (.int lt), none, none, none, none] ∧ PurseAt H' p ∧ Kp [p] G H', ?_, ?_⟩
      · refine ⟨_, rfl, p, 8, rfl, PG, by decide, by decide, fun H1 d d0 d8 P1 K1 => ⟨rfl, _, rfl, ite2 (fun c => ?_) (fun c => ?_)⟩⟩
        · refine ⟨_, rfl, Nat.zero_le _, fun q hq => ?_⟩
          have K2 := K1.nw (o := .lst []) hq
          obtain ⟨rs, r1, r2⟩ := ft_rows fun v m => (gi v m).kp K2
          have f2 : upd H1 q (.lst []) f = some (.lst fs) := K2.p1 gf fp
          have P2 := P1.kp (Z := []) (Kp.refl.nw (o := .lst []) hq) (fun m => nomatch m)
          refine ⟨.list (rs.map rowD), .list [], .lst (SqL.of f2) (rows_dp r1 r2), .lst (SqL.of upd_same) .nil, (rows_shaped r2).1, by decide, _, rfl, ite2 (fun c => ?_) (fun c => ?_)⟩
          · exact ⟨10, 9, rfl, rfl, ⟨by decide, by decide, by decide⟩, _, rfl, _, _, rfl, rfl, _, rfl, P2, K2⟩
          · exact ⟨0, rfl, P2, K2⟩
        · exact ⟨0, rfl, P1, K1⟩
      rintro _ H1 ⟨lt, rfl, P1, K1⟩
      have f1 : H1 f = some (.lst fs) := K1.p1 gf fp
      have i1 : ∀ v ∈ fs, FtAt n H1 v := fun v m => (gi v m).kp K1
      refine ⟨_, rfl, f, fs, rfl, SqL.of f1, by omega, fun v m => ?_, fun ys s pe _ hs => ?_⟩
      · obtain ⟨a, t, lo, hi', mm, e1, e2, ⟨t0, t1⟩, ⟨l0, l1⟩, ⟨h0, h1'⟩, m0, m1⟩ := i1 v m
        refine ⟨[t, lo, hi', mm], ⟨a, e1, SqT.of e2⟩, rfl, fun u hu => ?_⟩
        have tt : (10 : Int) ^ 10 = 10000000000 := by decide
        simp only [List.mem_cons, List.not_mem_nil, or_false] at hu
        rcases hu with rfl | rfl | rfl | rfl <;> omega
      refine ⟨s, rfl, ⟨_, SqL.of upd_same⟩, fun D hD => ?_⟩
      have sD : s ≠ D := ne_of_none upd_same hD
      have K2 := (KG.trans K1).nw (o := .lst ys) hs
      have P2 := P1.kp (Z := []) (Kp.refl.nw (o := .lst ys) hs) (fun m => nomatch m)
      have Dp : D ≠ p := fun z => by
        obtain ⟨_, _, _, e', _⟩ := P2
        rw [z, e'] at hD
        cases hD
      have HD : H D = none := by
        cases e : H D with
        | none => rfl
        | some u =>
          have q := K2.p1 e Dp
          rw [hD] at q
          cases q
      have yl : ys.length = fs.length := pe.length_eq
      refine lc_list (K := K) (a := s) (xs := ys) (fun i G' => Kp [p] H G' ∧ PurseAt G' p ∧ G' s = some (.lst ys) ∧ (∀ v ∈ ys, FtAt n G' v) ∧ ∃ vs ms, G' D = some (.lst vs) ∧ Paired (MtAt G') vs ms ∧ ms.length = i ∧ ∀ mt ∈ ms, MtOk n mt)
        ⟨K2.nw hD, P2.kp (Z := []) (Kp.refl.nw hD) (fun m => nomatch m), upd_of upd_same sD, fun v m => (i1 v (pe.mem_iff.mp m)).kp (Z := []) ((Kp.refl.nw hs).nw hD), [], [], upd_same, .nil, rfl, fun _ m => nomatch m⟩ (fun i G' _ z => SqL.of z.2.2.1) ?_ ?_
      · rintro i y G' hy ⟨k1, k2, k3, k4, vs, ms, k5, k6, k7, k8⟩
        obtain ⟨a, t, lo, hi', mm, rfl, e2, ⟨t0, t1⟩, ⟨l0, l1⟩, ⟨h0, h1'⟩, m0, m1⟩ := k4 y (List.mem_of_getElem? hy)
        refine ⟨a, [.int t, .int lo, .int hi', .int mm], rfl, SqT.of e2, rfl, _, _, rfl, _, _, rfl, _, _, rfl, _, _, rfl, rfl, rfl, ?_⟩
        refine ⟨_, rfl, _, rfl, _, rfl, _, rfl, _, _, rfl, rfl, _, rfl, (by show 4 ≤ sizeLine; decide), fun q hq => ?_⟩
        have Dq : D ≠ q := ne_of_none k5 hq
        have vl := plen k6
        have il := lt_of_get hy
        have kk : ∀ o o', Kp [D] G' (upd (upd G' q o) D o') := fun o o' => (Kp.refl.nw hq).wr (upd_of k5 Dq) (fun z => z) (List.mem_singleton.mpr rfl)
        refine ⟨vs, upd_of k5 Dq, line_of (by omega), (k1.nw hq).wn HD, k2.kp (kk _ _) (fun m => Dp (List.mem_singleton.mp m).symm), upd_of (upd_new k3 hq) sD, fun v m => (k4 v m).kp (kk _ _), vs ++ [.ref q], ms ++ [⟨lo, hi', t + lt, mm⟩], upd_same, ?_, by rw [List.length_append, k7] <;> rfl, fun mt m => ?_⟩
        · exact (pimp k6 fun _ _ _ => MtAt.kp (kk _ _)).snoc ⟨q, rfl, upd_of upd_same Dq.symm⟩
        · rcases List.mem_append.mp m with m | m
          · exact k8 mt m
          · rw [List.mem_singleton.mp m]
            exact ⟨l0, l1, h0, h1', m0⟩
      · rintro G' ⟨k1, k2, k3, k4, vs, ms, k5, k6, k7, k8⟩
        refine ⟨D, vs, rfl, .inl ⟨SqL.of k5, fun t ht => ?_⟩⟩
        have kt : Kp [] G' (upd G' t (.tup vs)) := Kp.refl.nw ht
        exact k _ t vs ms (by omega) k8 upd_same (pimp k6 fun _ _ _ => MtAt.kp kt) (k2.kp kt fun m => nomatch m) (k1.nw ht)
def spBook : Sp := fun vs H Q _ => ∃ (p : Addr), vs = [.ref p, .int 12, .int 60] ∧ PurseAt H p ∧ ∀ (H' : Hp) (b : Addr) (B : Bk), BkOk B → BookAt H' b B → Kp [p] H H' → Q (.ref b) H'
theorem scBook : FnScope ["_law_purse_here", "_law_most_walkers", "_law_most_meetings", "_law_walkers", "_law_most"] ["_law_purse_here", "_law_most_walkers", "_law_most_meetings"] (defScope sLawBook) := ⟨rfl, rfl, rfl, by decide +kernel, rfl, by decide +kernel, by decide +kernel⟩
theorem ok_book (T : Txt K mg) : OkF P w K mg base CX0 4 "_law_book" ["_law_purse_here", "_law_most_walkers", "_law_most_meetings"] spBook := by
  have G := ok_take (P := P) (w := w) (base := base) T
  have GR := ok_rooms (P := P) (w := w) (base := base) T
  have GM := ok_meets (P := P) (w := w) (base := base) T
  refine mkF (st := sLawBook) T (List.mem_of_getElem? (i := 11) rfl) (fun _ _ _ _ _ _ us hl => match us, hl with | [_, _, _], _ => rfl) fun fd F => ?_
  refine F.ok scBook (fun vs H Q E h => ?_) (fun cdv A outer s H vs Q E hr h => ?_)
  · obtain ⟨p, rfl, _⟩ := h
    rfl
  · obtain ⟨p, rfl, hp, k⟩ := h
    have hr1 : Room 1 _ := hr.mono (by decide)
    have hr2 : Room 2 _ := hr.mono (by decide)
    refine ⟨_, (pss_cons (ps_set (i := 3) scBook.nd rfl (.inl rfl) (pe_op op_add pe_int (pe_cf G hr1 pass0 (pa_cons (pv 0) (pa_cons (pv 1) pa_nil)))))
      (pss_cons (ps_set (i := 4) scBook.nd rfl (.inl rfl) (pe_callB (call_min2 rfl) (by rfl) T.tMin (by decide +kernel) (pa_cons (pv 2) (pa_cons (pe_cf G hr1 pass0 (pa_cons (pv 0) (pa_cons (pe_op op_add (pv 2) pe_int) pa_nil))) pa_nil))))
      (C8.pss_cut (ps_if (pt_cmpR op_eq (pv 3) pe_int (nomark _)) (pss_one (ps_set (i := 4) scBook.nd rfl (.inl rfl) pe_int)) pss_nil)
      (pss_one (ps_ret (pe_tup (pa_cons (pe_cf GR hr2 pass0 (pa_cons (pv 0) (pa_cons (pv 3) pa_nil))) (pa_cons (pe_cf GM hr pass0 (pa_cons (pv 0) (pa_cons (pv 3) (pa_cons (pv 4) pa_nil)))) pa_nil)))))))), ?_⟩
    refine ⟨_, rfl, _, rfl, p, 12, rfl, hp, by decide, by decide, fun H1 d d0 d12 P1 K1 => ⟨1, d, rfl, rfl, ?_⟩⟩
    refine ⟨_, rfl, _, rfl, _, rfl, 60, 3, rfl, rfl, p, 63, rfl, P1, by decide, by decide, fun H2 e e0 e63 P2 K2 => ⟨60, e, rfl, ?_⟩⟩
    obtain ⟨n, hn⟩ : ∃ n : Nat, 1 + d = n := ⟨(1 + d).toNat, by omega⟩
    refine ⟨fun σ' H' => ∃ o : Nat, σ' = [some (.ref p), some (.int 12), some (.int 60), some (.int n), some (.int o)] ∧ H' = H2 ∧ o ≤ 60 ∧ (n = 1 → o = 0), ?_, ?_⟩
    · refine ⟨_, rfl, rfl, _, rfl, ite2 (fun c => ?_) (fun c => ?_)⟩
      · exact ⟨0, by show [some (V.ref p), some (.int 12), some (.int 60), some (.int (1 + d)), some (.int 0)] = _; rw [hn]; rfl, rfl, by decide, fun _ => rfl⟩
      · have c1 : 1 + d ≠ 1 := fun z => c (decide_eq_true (congrArg V.int z))
        obtain ⟨o, ho⟩ : ∃ o : Nat, (if e < 60 then e else 60) = (o : Int) := ⟨(if e < 60 then e else 60).toNat, by split <;> omega⟩
        refine ⟨o, by show [some (V.ref p), some (.int 12), some (.int 60), some (.int (1 + d)), some (.int (if e < 60 then e else 60))] = _; rw [hn, ho], rfl, ?_, fun z => by omega⟩
        split at ho <;> omega
    rintro _ _ ⟨o, rfl, rfl, o60, o1⟩
    refine ⟨_, rfl, _, rfl, p, n, rfl, P2, by omega, fun H3 t rs r1 r2 r3 P3 K3 => ?_⟩
    refine ⟨_, rfl, _, rfl, _, rfl, p, n, o, rfl, P3, by omega, by omega, o60, o1, fun H4 t2 vs ms m1 m2 m3 m4 P4 K4 => ?_⟩
    refine ⟨by show 2 ≤ sizeLine; decide, fun b hb => ?_⟩
    have kb : Kp [] H4 (upd H4 b (.tup [.ref t, .ref t2])) := Kp.refl.nw hb
    refine k _ b ⟨rs, ms⟩ ⟨?_, ?_, r2, m1, fun mt m => ?_⟩ ⟨t, t2, vs, upd_same, kb.tup (K4.tup r3), kb.tup m3, pimp m4 fun _ _ _ => MtAt.kp kb⟩ ((((K1.trans K2).trans K3).trans K4).trans kb.nil)
    · show 1 ≤ rs.length
      omega
    · show rs.length ≤ 12
      omega
    · have q := m2 mt m
      unfold MtOk at q
      rw [← r1] at q
      exact q
end
end K46
set_option Elab.async false
set_option linter.all false
set_option maxRecDepth 100000
set_option maxHeartbeats 4000000
namespace K46
open PySem L2
theorem PurseAt.kp0 {H H' : Hp} {p : Addr} (h : PurseAt H p) (k : Kp [] H H') : PurseAt H' p := h.kp k fun m => nomatch m
theorem mt_rows {H : Hp} : ∀ {vs : List V} {ms : List Mt}, Paired (MtAt H) vs ms → Paired (RowAt H) vs (ms.map mtV)
  | _, _, .nil => .nil
  | _, _, .cons h t => .cons h (mt_rows t)
theorem mt_rowOk {ms : List Mt} : ∀ r ∈ ms.map mtV, RowOk r := fun r m => by
  obtain ⟨x, _, rfl⟩ := List.mem_map.mp m
  exact rowOk_ints (ns := [x.a, x.b, x.w, x.m])
section
variable {P : Program} {w : World} {K : PySem.W.Frag} {mg : Str → Option Value} {base : Heap}
def spTime : Sp := fun vs H Q _ => ∃ (p b : Addr) (B : Bk) (l : Int), vs = [.ref p, .ref b, .int l] ∧ (l = 0 ∨ l = 1) ∧ PurseAt H p ∧ BookAt H b B ∧ BkOk B ∧ ∀ (H' : Hp) (d : Int), PurseAt H' p → Kp [p] H H' → Q (.int d) H'
theorem scTime : FnScope ["_law_purse_here", "_law_book_here", "_law_later", "_law_way", "_law_at"] ["_law_purse_here", "_law_book_here", "_law_later"] (defScope sLawTime) := ⟨rfl, rfl, rfl, by decide +kernel, rfl, by decide +kernel, by decide +kernel⟩
theorem ok_time (T : Txt K mg) : OkF P w K mg base CX0 3 "_law_time" ["_law_purse_here", "_law_book_here", "_law_later"] spTime := by
  have G := ok_take (P := P) (w := w) (base := base) T
  have GF := ok_far (P := P) (w := w) (base := base) T
  refine mkF (st := sLawTime) T (List.mem_of_getElem? (i := 12) rfl) (fun _ _ _ _ _ _ us hl => match us, hl with | [_, _, _], _ => rfl) fun fd F => ?_
  refine F.ok scTime (fun vs H Q E h => ?_) (fun cdv A outer s H vs Q E hr h => ?_)
  · obtain ⟨p, b, B, l, rfl, _⟩ := h
    rfl
  · obtain ⟨p, b, B, l, rfl, hl, hp, hb, hB, k⟩ := h
    have hr1 : Room 1 _ := hr.mono (by decide)
    have hu64 := hr.units
    refine ⟨_, (pss_cons (ps_set (i := 3) scTime.nd rfl (.inl rfl) (pe_cf G hr1 pass0 (pa_cons (pv 0) (pa_cons pe_int pa_nil))))
      (pss_cons (ps_if (pt_cmpR op_eq (pv 3) pe_int (nomark _)) (pss_one (ps_ret (pe_ix ix_list (pe_lst (pa_cons pe_int (pa_cons (pe_op op_pow pe_int pe_int) pa_nil))) (pv 2) (fun _ _ => rfl)))) pss_nil)
      (pss_cons (ps_if (pt_cmpR op_eq (pv 3) pe_int (nomark _)) (pss_one (ps_ret (pe_cf GF hr pass0 (pa_cons (pv 0) pa_nil)))) pss_nil)
      (pss_cons (ps_if (pt_cmpR (op_eqD hu64) (pe_ix ix_tup (pv 1) pe_int (fun _ _ => rfl)) (pe_tup pa_nil) (nomark _)) (pss_one (ps_ret (pe_cf G hr1 pass0 (pa_cons (pv 0) (pa_cons pe_int pa_nil))))) pss_nil)
      (pss_cons (ps_set (i := 4) scTime.nd rfl (.inl rfl) (pe_cf G hr1 pass0 (pa_cons (pv 0) (pa_cons (pe_callB call_len_seq (by rfl) T.tLen PySem.boot_len (pa_cons (pe_ix ix_tup (pv 1) pe_int (fun _ _ => rfl)) pa_nil)) pa_nil))))
      (C8.pss_cut (ps_if (pt_cmpR op_gt (pv 3) pe_int (nomark _)) (pss_one (ps_set (i := 4) scTime.nd rfl (.inl rfl) (pe_ix ix_list (pe_lst (pa_cons (pe_op op_fdiv (pv 4) pe_int) (pa_cons (pe_op op_fdiv (pe_op op_add (pv 4) (pe_callB call_len_seq (by rfl) T.tLen PySem.boot_len (pa_cons (pe_ix ix_tup (pv 1) pe_int (fun _ _ => rfl)) pa_nil))) pe_int) pa_nil))) (pv 2) (fun _ _ => rfl)))) pss_nil)
      (pss_one (ps_ret (pe_op op_sub (pe_ix ix_tup (pe_ix ix_tup (pe_ix ix_tup (pv 1) pe_int (fun _ _ => rfl)) (pv 4) (fun _ _ => rfl)) pe_int (fun _ _ => rfl)) (pe_ix ix_list (pe_lst (pa_cons pe_int (pa_cons pe_int pa_nil))) (pe_op op_xor (pe_op op_fdiv (pe_cf G hr1 pass0 (pa_cons (pv 0) (pa_cons pe_int pa_nil))) pe_int) (pv 2)) (fun _ _ => rfl))))))))))), ?_⟩
    refine ⟨_, rfl, p, 6, rfl, hp, by decide, by decide, fun H1 d d0 d6 P1 K1 => ?_⟩
    have two : ∀ x y : Int, ∃ z, atI ([.int x, .int y] : List V) l = some (.int z) ∧ (z = x ∨ z = y) := fun x y => by
      rcases hl with rfl | rfl
      · exact ⟨x, rfl, .inl rfl⟩
      · exact ⟨y, rfl, .inr rfl⟩
    have hb1 := hb.kp K1
    refine ⟨_, rfl, rfl, _, rfl, ite2 (fun c => ?_) (fun c => ?_)⟩
    · obtain ⟨z, hz, _⟩ := two 0 (10 ^ (9 : Int).toNat)
      refine ⟨10, 9, rfl, rfl, ⟨by decide, by decide, by decide⟩, (by show 2 ≤ sizeLine; decide), fun q hq => ⟨_, rfl, q, _, l, _, rfl, rfl, SqL.of upd_same, hz, ?_⟩⟩
      exact k _ z (P1.kp0 (Kp.refl.nw hq)) (K1.nw hq)
    refine ⟨_, rfl, rfl, _, rfl, ite2 (fun c => ?_) (fun c => ?_)⟩
    · exact ⟨_, rfl, p, rfl, P1, fun H2 e P2 K2 => k H2 e P2 (K1.trans K2)⟩
    obtain ⟨r, m, vs, b1, b2, b3, b4⟩ := hb1
    refine ⟨_, rfl, b, _, 1, _, rfl, rfl, SqT.of b1, rfl, Nat.zero_le _, fun q hq => ?_⟩
    have kq : Kp [] H1 (upd H1 q (.tup [])) := Kp.refl.nw hq
    refine ⟨.tuple ((B.ms.map mtV).map rowD), .tuple [], .tup (SqT.of (kq.tup b3)) (rows_dp (mt_rows (pimp b4 fun _ _ _ => MtAt.kp kq)) mt_rowOk), .tup (SqT.of upd_same) .nil, (rows_shaped mt_rowOk).2, by decide, _, rfl, ?_⟩
    rw [eqv_nil]
    have P1q := P1.kp0 kq
    cases hms : B.ms with
    | nil =>
      refine ifT rfl ⟨_, rfl, p, 9, rfl, P1q, by decide, by decide, fun H2 e _ _ P2 K2 => ?_⟩
      exact k H2 e P2 ((K1.trans kq.nil).trans K2)
    | cons mt0 mr =>
    refine ifF rfl ?_
    have hlen : 0 < B.ms.length := by
      rw [hms]
      exact Nat.succ_pos _
    have vl : vs.length = B.ms.length := plen b4
    have m60 := hB.m1
    refine ⟨_, rfl, _, rfl, b, _, 1, _, rfl, rfl, SqT.of (kq.tup b1), rfl, m, vs, rfl, .inr (SqT.of (kq.tup b3)), p, (vs.length : Int), rfl, P1q, by omega, by omega, fun H2 at_ a0 a1 P2 K2 => ?_⟩
    have b2' := K2.tup (kq.tup b1)
    have b3' := K2.tup (kq.tup b3)
    refine ⟨fun σ' H' => ∃ a' : Int, 0 ≤ a' ∧ a' < (vs.length : Int) ∧ σ' = [some (.ref p), some (.ref b), some (.int l), some (.int d), some (.int a')] ∧ PurseAt H' p ∧ Kp [] H2 H', ?_, ?_⟩
    · refine ⟨_, rfl, _, _, rfl, rfl, _, rfl, ite2 (fun c => ?_) (fun c => ?_)⟩
      · obtain ⟨z, hz, hz2⟩ := two (at_ / 2) ((at_ + (vs.length : Int)) / 2)
        refine ⟨_, rfl, _, 2, rfl, rfl, ⟨by decide, by decide⟩, _, rfl, _, rfl, b, _, 1, _, rfl, rfl, SqT.of b2', rfl, m, vs, rfl, .inr (SqT.of b3'), _, _, rfl, rfl, _, 2, rfl, rfl, ⟨by decide, by decide⟩, (by show 2 ≤ sizeLine; decide), fun q2 hq2 => ⟨_, rfl, q2, _, l, _, rfl, rfl, SqL.of upd_same, hz, ?_⟩⟩
        refine ⟨z, ?_, ?_, rfl, P2.kp0 (Kp.refl.nw hq2), Kp.refl.nw hq2⟩
        · rcases hz2 with rfl | rfl <;> omega
        · rcases hz2 with rfl | rfl <;> omega
      · exact ⟨at_, a0, a1, rfl, P2, Kp.refl⟩
    rintro _ H3 ⟨a', a0', a1', rfl, P3, K3⟩
    obtain ⟨j, rfl⟩ : ∃ j : Nat, a' = j := ⟨a'.toNat, by omega⟩
    obtain ⟨mt, hmt⟩ := get_of_lt (l := B.ms) (i := j) (by omega)
    obtain ⟨_, m1, am, rfl, m2⟩ := pget b4 hmt
    refine ⟨_, rfl, b, _, 1, _, rfl, rfl, SqT.of (K3.tup b2'), rfl, _, rfl, m, _, _, _, rfl, rfl, SqT.of (K3.tup b3'), atI_nat m1, am, mtV mt, 2, _, rfl, rfl, SqT.of (K3.tup (K2.tup (kq.tup m2))), rfl, (by show 2 ≤ sizeLine; decide), fun q3 hq3 => ?_⟩
    have q3p : q3 ≠ p := fun z => by
      obtain ⟨_, _, _, e', _⟩ := P3
      rw [z, e'] at hq3
      cases hq3
    refine ⟨_, rfl, p, 4, rfl, P3.kp0 (Kp.refl.nw hq3), by decide, by decide, fun H4 x x0 x4 P4 K4 => ?_⟩
    obtain ⟨y, hy⟩ : ∃ y : Int, atI ([.int 1, .int 0] : List V) (Builtin.bitXor (x / 3) l) = some (.int y) := by
      have x3 : x / 3 = 0 ∨ x / 3 = 1 := by omega
      rcases x3 with z | z <;> rcases hl with rfl | rfl <;> rw [z]
      · exact ⟨1, rfl⟩
      · exact ⟨0, rfl⟩
      · exact ⟨0, rfl⟩
      · exact ⟨1, rfl⟩
    refine ⟨x, 3, rfl, rfl, ⟨by decide, by decide⟩, _, rfl, _, l, rfl, rfl, q3, _, _, _, rfl, rfl, SqL.of (K4.p1 upd_same q3p), hy, _, _, rfl, rfl, ?_⟩
    exact k H4 _ P4 ((((K1.trans kq.nil).trans K2).trans (K3.nil.nw hq3)).trans K4)
def spLetter : Sp := fun vs H Q _ => ∃ (p b : Addr) (B : Bk), vs = [.ref p, .ref b] ∧ PurseAt H p ∧ BookAt H b B ∧ BkOk B ∧ ∀ (H' : Hp) (t : Addr) (l : Lt), H' t = some (.tup (ltV l)) → PurseAt H' p → Kp [p] H H' → Q (.ref t) H'
theorem scLetter : FnScope ["_law_purse_here", "_law_book_here", "_law_walkers", "_law_sender", "_law_wish", "_law_since"] ["_law_purse_here", "_law_book_here"] (defScope sLawLetter) := ⟨rfl, rfl, rfl, by decide +kernel, rfl, by decide +kernel, by decide +kernel⟩
theorem ok_letter (T : Txt K mg) : OkF P w K mg base CX0 4 "_law_letter" ["_law_purse_here", "_law_book_here"] spLetter := by
  have G := ok_take (P := P) (w := w) (base := base) T
  have GT := ok_time (P := P) (w := w) (base := base) T
  refine mkF (st := sLawLetter) T (List.mem_of_getElem? (i := 13) rfl) (fun _ _ _ _ _ _ us hl => match us, hl with | [_, _], _ => rfl) fun fd F => ?_
  refine F.ok scLetter (fun vs H Q E h => ?_) (fun cdv A outer s H vs Q E hr h => ?_)
  · obtain ⟨p, b, B, rfl, _⟩ := h
    rfl
  · obtain ⟨p, b, B, rfl, hp, hb, hB, k⟩ := h
    have hr1 : Room 1 _ := hr.mono (by decide)
    refine ⟨_, (pss_cons (ps_set (i := 2) scLetter.nd rfl (.inl rfl) (pe_callB call_len_seq (by rfl) T.tLen PySem.boot_len (pa_cons (pe_ix ix_tup (pv 1) pe_int (fun _ _ => rfl)) pa_nil)))
      (pss_cons (ps_set (i := 3) scLetter.nd rfl (.inl rfl) (pe_cf G hr1 pass0 (pa_cons (pv 0) (pa_cons (pv 2) pa_nil))))
      (pss_cons (ps_set (i := 4) scLetter.nd rfl (.inl rfl) (pe_cf G hr1 pass0 (pa_cons (pv 0) (pa_cons (pv 2) pa_nil))))
      (C8.pss_cut (ps_if (PW.pt (pw_and (pt_cmpR op_eq (pv 3) (pv 4) (nomark _)) (pw_and1 (pt_cmpR op_gt (pe_cf G hr1 pass0 (pa_cons (pv 0) (pa_cons pe_int pa_nil))) pe_int (nomark _))))) (pss_one (ps_set (i := 4) scLetter.nd rfl (.inl rfl) (pe_op op_mod (pe_op op_add (pv 4) pe_int) (pv 2)))) pss_nil)
      (pss_cons (ps_set (i := 5) scLetter.nd rfl (.inl rfl) (pe_cf GT hr pass0 (pa_cons (pv 0) (pa_cons (pv 1) (pa_cons pe_int pa_nil)))))
      (pss_one (ps_ret (pe_tup (pa_cons (pv 3) (pa_cons (pv 5) (pa_cons (pv 4) (pa_cons (pe_cf GT hr pass0 (pa_cons (pv 0) (pa_cons (pv 1) (pa_cons pe_int pa_nil)))) pa_nil)))))))))))), ?_⟩
    obtain ⟨r, m, vs, b1, b2, b3, b4⟩ := id hb
    have r1 := hB.r1
    have r2 := hB.r2
    have rl : (B.rooms.map V.int).length = B.rooms.length := List.length_map _
    refine ⟨_, rfl, b, _, 0, _, rfl, rfl, SqT.of b1, rfl, r, _, rfl, .inr (SqT.of b2), ?_⟩
    refine ⟨_, rfl, _, rfl, p, _, rfl, hp, by omega, by omega, fun H1 d d0 d1 P1 K1 => ?_⟩
    refine ⟨_, rfl, _, rfl, p, _, rfl, P1, by omega, by omega, fun H2 e e0 e1 P2 K2 => ?_⟩
    refine ⟨fun σ' H' => ∃ wi : Int, σ' = [some (.ref p), some (.ref b), some (.int ((B.rooms.map V.int).length : Nat)), some (.int d), some (.int wi), none] ∧ PurseAt H' p ∧ Kp [p] H2 H', ?_, ?_⟩
    · refine ⟨_, rfl, _, rfl, rfl, _, rfl, ite2 (fun c => ?_) (fun c => ?_)⟩
      · refine ⟨_, rfl, p, 3, rfl, P2, by decide, by decide, fun H3 x _ _ P3 K3 => ⟨_, _, rfl, rfl, _, rfl, ite2 (fun c => ?_) (fun c => ?_)⟩⟩
        · exact ⟨_, rfl, _, _, rfl, rfl, _, rfl, _, _, rfl, rfl, (by show (0 : Int) < ((B.rooms.map V.int).length : Nat); omega), _, rfl, P3, K3⟩
        · exact ⟨e, rfl, P3, K3⟩
      · exact ⟨e, rfl, P2, Kp.refl⟩
    rintro _ H3 ⟨wi, rfl, P3, K3⟩
    have k3 := (K1.trans K2).trans K3
    refine ⟨_, rfl, _, rfl, p, b, B, 0, rfl, .inl rfl, P3, hb.kp k3, hB, fun H4 sc P4 K4 => ?_⟩
    refine ⟨_, rfl, _, rfl, _, rfl, _, rfl, _, rfl, p, b, B, 1, rfl, .inr rfl, P4, hb.kp (k3.trans K4), hB, fun H5 la P5 K5 => ⟨(by show 4 ≤ sizeLine; decide), fun t ht => ?_⟩⟩
    exact k _ t ⟨d, sc, wi, la⟩ upd_same (P5.kp0 (Kp.refl.nw ht)) (((k3.trans K4).trans K5).nw ht)
end
end K46
set_option Elab.async false
set_option linter.all false
set_option maxRecDepth 100000
set_option maxHeartbeats 4000000
namespace K46
open PySem L2
section
variable {P : Program} {w : World} {K : PySem.W.Frag} {mg : Str → Option Value} {base : Heap}
def spLetters : Sp := fun vs H Q _ => ∃ (p b : Addr) (B : Bk), vs = [.ref p, .ref b] ∧ PurseAt H p ∧ BookAt H b B ∧ BkOk B ∧ ∀ (H' : Hp) (q : Addr) (ls : List Lt), ls.length ≤ 40 → LtsAt H' q ls → H q = none → PurseAt H' p → Kp [p] H H' → Q (.ref q) H'
abbrev lN : List Str := ["_law_purse_here", "_law_book_here", "_law_many", "_law_k"]
theorem scLetters : FnScope lN ["_law_purse_here", "_law_book_here"] (defScope sLawLetters) := ⟨rfl, rfl, rfl, by decide +kernel, rfl, by decide +kernel, by decide +kernel⟩
theorem ok_letters (T : Txt K mg) : OkF P w K mg base CX0 5 "_law_letters" ["_law_purse_here", "_law_book_here"] spLetters := by
  have G := ok_take (P := P) (w := w) (base := base) T
  have GL := ok_letter (P := P) (w := w) (base := base) T
  refine mkF (st := sLawLetters) T (List.mem_of_getElem? (i := 14) rfl) (fun _ _ _ _ _ _ us hl => match us, hl with | [_, _], _ => rfl) fun fd F => ?_
  refine F.ok scLetters (fun vs H Q E h => ?_) (fun cdv A outer s H vs Q E hr h => ?_)
  · obtain ⟨p, b, B, rfl, _⟩ := h
    rfl
  · obtain ⟨p, b, B, rfl, hp, hb, hB, k⟩ := h
    have hr1 : Room 1 _ := hr.mono (by decide)
    refine ⟨_, (pss_cons (ps_set (i := 2) scLetters.nd rfl (.inl rfl) (pe_cf G hr1 pass0 (pa_cons (pv 0) (pa_cons pe_int pa_nil))))
      (C8.pss_cut (ps_if (pt_cmpR op_eq (pe_cf G hr1 pass0 (pa_cons (pv 0) (pa_cons pe_int pa_nil))) pe_int (nomark _)) (pss_one (ps_set (i := 2) scLetters.nd rfl (.inl rfl) (pe_cf G hr1 pass0 (pa_cons (pv 0) (pa_cons pe_int pa_nil))))) pss_nil)
      (pss_one (ps_ret (by exact (pe_lc (own := [("_law_k", 3)]) (g := gName 3) (by rfl) scLetters.nd (pi_range1 (by rfl) T.tRange (pa_cons (pv 2) pa_nil))
        (blkOk_by (own := [("_law_k", 3)]) (N := lN) (sc := defScope sLawLetters) (by decide +kernel)) (fun _ _ _ _ _ => by exact (pg_name (i := 3) scLetters.nd rfl (Or.inl rfl))) (fun _ _ _ _ _ => pts_nil)
        (fun _ _ _ _ _ => by exact (pe_cf GL hr pass0 (pa_cons (pv 0) (pa_cons (pv 1) pa_nil)))))))))), ?_⟩
    refine ⟨_, rfl, p, 7, rfl, hp, by decide, by decide, fun H1 d d0 d7 P1 K1 => ?_⟩
    refine ⟨fun σ' H' => ∃ n : Nat, n ≤ 40 ∧ σ' = [some (.ref p), some (.ref b), some (.int n), none] ∧ PurseAt H' p ∧ Kp [p] H1 H', ?_, ?_⟩
    · obtain ⟨n, rfl⟩ : ∃ n : Nat, d = n := ⟨d.toNat, by omega⟩
      refine ⟨_, rfl, p, 8, rfl, P1, by decide, by decide, fun H2 x _ _ P2 K2 => ⟨rfl, _, rfl, ite2 (fun c => ?_) (fun c => ?_)⟩⟩
      · refine ⟨_, rfl, p, 41, rfl, P2, by decide, by decide, fun H3 e e0 e41 P3 K3 => ?_⟩
        obtain ⟨m, rfl⟩ : ∃ m : Nat, e = m := ⟨e.toNat, by omega⟩
        exact ⟨m, by omega, rfl, P3, K2.trans K3⟩
      · exact ⟨n, by omega, rfl, P2, K2⟩
    rintro _ H2 ⟨n, n40, rfl, P2, K2⟩
    have k2 := K1.trans K2
    refine ⟨_, rfl, n, rfl, (small62 (by omega)).1, (small62 (by omega)).2, fun D hD => ?_⟩
    have Dp : D ≠ p := fun z => by
      obtain ⟨_, _, _, e', _⟩ := P2
      rw [z, e'] at hD
      cases hD
    have HD : H D = none := by
      cases e : H D with
      | none => rfl
      | some u =>
        have q := k2.p1 e Dp
        rw [hD] at q
        cases q
    refine lc_range (lo := 0) (n := (n : Int).toNat) (fun i G => Kp [p] H G ∧ PurseAt G p ∧ ∃ ls, LtsAt G D ls ∧ ls.length = i) ⟨k2.nw hD, P2.kp0 (Kp.refl.nw hD), [], ⟨[], upd_same, .nil⟩, rfl⟩ ?_ ?_
    · rintro i G' hi ⟨g1, g2, ls, ⟨vs, g3, g4⟩, g5⟩
      refine ⟨rfl, ?_⟩
      refine ⟨_, rfl, _, rfl, p, b, B, rfl, g2, hb.kp g1, hB, fun H3 t l ht P3 K3 => ?_⟩
      have vl := plen g4
      have h3 := K3.p1 g3 Dp
      have kk : ∀ o, Kp [D] H3 (upd H3 D o) := fun o => Kp.refl.wr h3 (fun z => z) (List.mem_singleton.mpr rfl)
      refine ⟨vs, h3, line_of (by omega), (g1.trans K3).wn HD, P3.kp (kk _) (fun m => Dp (List.mem_singleton.mp m).symm), ls ++ [l], ⟨vs ++ [.ref t], upd_same, ?_⟩, by rw [List.length_append, g5] <;> rfl⟩
      exact (pimp g4 fun _ _ _ q => LtAt.kp (kk _) (LtAt.kp K3 q)).snoc ⟨t, rfl, (kk _).tup ht⟩
    · rintro G' ⟨g1, g2, ls, g3, g5⟩
      exact k G' D ls (by omega) g3 HD g2 g1
def spAny : Sp := fun vs H Q _ => ∃ (p : Addr) (m : Nat), vs = [.ref p, .int m] ∧ m ≤ 1000 ∧ PurseAt H p ∧ ∀ (H' : Hp) (d : Int), PurseAt H' p → Kp [p] H H' → Q (.int d) H'
theorem scAny : FnScope ["_law_purse_here", "_law_many", "_law_way"] ["_law_purse_here", "_law_many"] (defScope sLawAny) := ⟨rfl, rfl, rfl, by decide +kernel, rfl, by decide +kernel, by decide +kernel⟩
theorem ok_any (T : Txt K mg) : OkF P w K mg base CX0 2 "_law_any" ["_law_purse_here", "_law_many"] spAny := by
  have G := ok_take (P := P) (w := w) (base := base) T
  refine mkF (st := sLawAny) T (List.mem_of_getElem? (i := 15) rfl) (fun _ _ _ _ _ _ us hl => match us, hl with | [_, _], _ => rfl) fun fd F => ?_
  refine F.ok scAny (fun vs H Q E h => ?_) (fun cdv A outer s H vs Q E hr h => ?_)
  · obtain ⟨p, m, rfl, _⟩ := h
    rfl
  · obtain ⟨p, m, rfl, hm, hp, k⟩ := h
    refine ⟨_, (pss_cons (ps_set (i := 2) scAny.nd rfl (.inl rfl) (pe_cf G hr pass0 (pa_cons (pv 0) (pa_cons pe_int pa_nil))))
      (pss_cons (ps_if (pt_cmpR op_eq (pv 2) pe_int (nomark _)) (pss_one (ps_ret (pe_op op_sub (pe_un un_neg pe_int) (pe_cf G hr pass0 (pa_cons (pv 0) (pa_cons pe_int pa_nil)))))) pss_nil)
      (pss_cons (ps_if (pt_cmpR op_eq (pv 2) pe_int (nomark _)) (pss_one (ps_ret (pe_op op_add (pv 1) (pe_cf G hr pass0 (pa_cons (pv 0) (pa_cons pe_int pa_nil)))))) pss_nil)
      (pss_cons (ps_if (pt_cmpR op_eq (pv 2) pe_int (nomark _)) (pss_one (ps_ret (pe_op op_sub (pe_cf G hr pass0 (pa_cons (pv 0) (pa_cons (pe_op op_pow pe_int pe_int) pa_nil))) (pe_op op_mul pe_int (pe_op op_pow pe_int pe_int))))) pss_nil)
      (pss_cons (ps_if (pt_cmpR op_eq (pv 2) pe_int (nomark _)) (pss_one (ps_ret (pe_cf G hr pass0 (pa_cons (pv 0) (pa_cons (pe_op op_pow pe_int pe_int) pa_nil))))) pss_nil)
      (pss_one (ps_ret (pe_cf G hr pass0 (pa_cons (pv 0) (pa_cons (pe_callB (call_max2 rfl) (by rfl) T.tMax (by decide +kernel) (pa_cons pe_int (pa_cons (pv 1) pa_nil))) pa_nil)))))))))), ?_⟩
    refine ⟨_, rfl, p, 8, rfl, hp, by decide, by decide, fun H1 d d0 d8 P1 K1 => ?_⟩
    refine ⟨_, rfl, rfl, _, rfl, ite2 (fun c => ?_) (fun c => ?_)⟩
    · exact ⟨1, rfl, _, rfl, p, 3, rfl, P1, by decide, by decide, fun H2 e _ _ P2 K2 => ⟨_, _, rfl, rfl, k H2 _ P2 (K1.trans K2)⟩⟩
    refine ⟨_, rfl, rfl, _, rfl, ite2 (fun c => ?_) (fun c => ?_)⟩
    · exact ⟨_, rfl, _, rfl, p, 3, rfl, P1, by decide, by decide, fun H2 e _ _ P2 K2 => ⟨_, _, rfl, rfl, k H2 _ P2 (K1.trans K2)⟩⟩
    refine ⟨_, rfl, rfl, _, rfl, ite2 (fun c => ?_) (fun c => ?_)⟩
    · exact ⟨_, rfl, 10, 30, rfl, rfl, ⟨by decide, by decide, by decide⟩, p, 10 ^ (30 : Int).toNat, rfl, P1, by decide, by decide, fun H2 e _ _ P2 K2 => ⟨10, 29, rfl, rfl, ⟨by decide, by decide, by decide⟩, 5, _, rfl, rfl, .inl ⟨by decide, by decide⟩, _, _, rfl, rfl, k H2 _ P2 (K1.trans K2)⟩⟩
    refine ⟨_, rfl, rfl, _, rfl, ite2 (fun c => ?_) (fun c => ?_)⟩
    · exact ⟨_, rfl, 10, 30, rfl, rfl, ⟨by decide, by decide, by decide⟩, p, 10 ^ (30 : Int).toNat, rfl, P1, by decide, by decide, fun H2 e _ _ P2 K2 => k H2 _ P2 (K1.trans K2)⟩
    refine ⟨_, rfl, _, rfl, 1, (m : Int), rfl, p, _, rfl, P1, ?_, ?_, fun H2 e _ _ P2 K2 => k H2 _ P2 (K1.trans K2)⟩
    · split <;> omega
    · split <;> omega
def spWild : Sp := fun vs H Q _ => ∃ (p b : Addr) (B : Bk) (m : Nat), vs = [.ref p, .ref b, .int m] ∧ m ≤ 1000 ∧ PurseAt H p ∧ BookAt H b B ∧ BkOk B ∧ ∀ (H' : Hp) (d : Addr) (D : Dd), DeedAt H' d D → PurseAt H' p → Kp [p] H H' → Q (.ref d) H'
theorem scWild : FnScope ["_law_purse_here", "_law_book_here", "_law_many", "_law_word", "_law_meeting", "_law_number", "_law_walker"] ["_law_purse_here", "_law_book_here", "_law_many"] (defScope sLawWild) := ⟨rfl, rfl, rfl, by decide +kernel, rfl, by decide +kernel, by decide +kernel⟩
theorem ok_wild (T : Txt K mg) : OkF P w K mg base CX0 3 "_law_wild" ["_law_purse_here", "_law_book_here", "_law_many"] spWild := by
  have G := ok_take (P := P) (w := w) (base := base) T
  have GA := ok_any (P := P) (w := w) (base := base) T
  refine mkF (st := sLawWild) T (List.mem_of_getElem? (i := 16) rfl) (fun _ _ _ _ _ _ us hl => match us, hl with | [_, _, _], _ => rfl) fun fd F => ?_
  refine F.ok scWild (fun vs H Q E h => ?_) (fun cdv A outer s H vs Q E hr h => ?_)
  · obtain ⟨p, b, B, m, rfl, _⟩ := h
    rfl
  · obtain ⟨p, b, B, m, rfl, hm, hp, hb, hB, k⟩ := h
    have hr1 : Room 1 _ := hr.mono (by decide)
    refine ⟨_, (pss_cons (ps_set (i := 3) scWild.nd rfl (.inl rfl) (pe_ix ix_list (pe_lst (pa_cons pe_str (pa_cons pe_str (pa_cons pe_str pa_nil)))) (pe_cf G hr1 pass0 (pa_cons (pv 0) (pa_cons pe_int pa_nil))) (fun _ _ => rfl)))
      (pss_cons (ps_set (i := 4) scWild.nd rfl (.inl rfl) (pe_cf GA hr pass0 (pa_cons (pv 0) (pa_cons (pe_callB call_len_seq (by rfl) T.tLen PySem.boot_len (pa_cons (pe_ix ix_tup (pv 1) pe_int (fun _ _ => rfl)) pa_nil)) pa_nil))))
      (pss_cons (ps_set (i := 5) scWild.nd rfl (.inl rfl) (pe_cf GA hr pass0 (pa_cons (pv 0) (pa_cons (pv 2) pa_nil))))
      (pss_cons (ps_set (i := 6) scWild.nd rfl (.inl rfl) (pe_cf GA hr pass0 (pa_cons (pv 0) (pa_cons (pe_callB call_len_seq (by rfl) T.tLen PySem.boot_len (pa_cons (pe_ix ix_tup (pv 1) pe_int (fun _ _ => rfl)) pa_nil)) pa_nil))))
      (pss_cons (ps_if (pt_cmpR op_eq (pv 3) pe_str (nomark _)) (pss_one (ps_ret (pe_tup (pa_cons (pv 3) (pa_cons (pv 5) (pa_cons (pv 6) pa_nil)))))) pss_nil)
      (pss_one (ps_ret (pe_tup (pa_cons (pv 3) (pa_cons (pv 4) (pa_cons (pv 5) (pa_cons (pv 6) pa_nil)))))))))))), ?_⟩
    obtain ⟨r, mb, vs, b1, b2, b3, b4⟩ := id hb
    have r2 := hB.r2
    have m1 := hB.m1
    have vl := plen b4
    have rl : (B.rooms.map V.int).length = B.rooms.length := List.length_map _
    refine ⟨(by show 3 ≤ sizeLine; decide), fun q hq => ?_⟩
    have qp : q ≠ p := fun z => by
      obtain ⟨_, _, _, e', _⟩ := hp
      rw [z, e'] at hq
      cases hq
    refine ⟨_, rfl, p, 3, rfl, hp.kp0 (Kp.refl.nw hq), by decide, by decide, fun H1 x x0 x3 P1 K1 => ?_⟩
    have k1 : Kp [p] H H1 := (Kp.refl.nw hq).trans K1
    obtain ⟨wd, hwd, hc⟩ : ∃ wd : Str, atI ([.str "give", .str "copy", .str "drop"] : List V) x = some (.str wd) ∧ (wd = "drop" ∨ ∃ g : Bool, wd = (if g = true then ("give" : Str) else "copy") ∧ decide (V.str wd = V.str "drop") = false) := by
      have x3 : x = 0 ∨ x = 1 ∨ x = 2 := by omega
      rcases x3 with rfl | rfl | rfl
      · exact ⟨"give", rfl, .inr ⟨true, rfl, by decide +kernel⟩⟩
      · exact ⟨"copy", rfl, .inr ⟨false, rfl, by decide +kernel⟩⟩
      · exact ⟨"drop", rfl, .inl rfl⟩
    refine ⟨q, _, x, _, rfl, rfl, SqL.of (K1.p1 upd_same qp), hwd, ?_⟩
    refine ⟨_, rfl, _, rfl, b, _, 1, _, rfl, rfl, SqT.of (k1.tup b1), rfl, mb, vs, rfl, .inr (SqT.of (k1.tup b3)), p, vs.length, rfl, by omega, P1, fun H2 mm P2 K2 => ?_⟩
    have k2 := k1.trans K2
    refine ⟨_, rfl, _, rfl, p, m, rfl, hm, P2, fun H3 nn P3 K3 => ?_⟩
    have k3 := k2.trans K3
    refine ⟨_, rfl, _, rfl, b, _, 0, _, rfl, rfl, SqT.of (k3.tup b1), rfl, r, _, rfl, .inr (SqT.of (k3.tup b2)), p, _, rfl, by omega, P3, fun H4 ww P4 K4 => ?_⟩
    have k4 := k3.trans K4
    refine ⟨_, rfl, rfl, _, rfl, ?_⟩
    rcases hc with rfl | ⟨g, rfl, hg⟩
    · refine ifT (decide_eq_true rfl) ⟨_, rfl, _, rfl, _, rfl, (by show 3 ≤ sizeLine; decide), fun d hd => ?_⟩
      exact k _ d (.drop nn ww) upd_same (P4.kp0 (Kp.refl.nw hd)) (k4.nw hd)
    · refine ifF hg ⟨_, rfl, _, rfl, _, rfl, _, rfl, (by show 4 ≤ sizeLine; decide), fun d hd => ?_⟩
      exact k _ d (.pass g mm nn ww) upd_same (P4.kp0 (Kp.refl.nw hd)) (k4.nw hd)
end
end K46
set_option Elab.async false
set_option linter.all false
set_option maxRecDepth 100000
set_option maxHeartbeats 4000000
namespace K46
open PySem L2
section
variable {X : Cx}
theorem insK (K : PySem.W.Frag) (e : X.K = K := by rfl) : OpR X (compareOp .In) (rIn K false) := e ▸ op_in_seq
theorem sltK (K : PySem.W.Frag) (e : X.K = K := by rfl) : SlR X (rSlT K) := e ▸ sl_tup
end
theorem purse_apart {H : Hp} {p hl : Addr} {as : List Addr} {hs : List D1} (hp : PurseAt H p) (hh : HsAt H hl as hs) : hl ∉ [p] ∧ ∀ a ∈ as, a ∉ [p] := by
  obtain ⟨x, y, z, e, _⟩ := hp
  refine ⟨fun m => ?_, fun a m m' => ?_⟩
  · have q := hh.1
    rw [List.mem_singleton.mp m, e] at q
    have q := HO.lst.inj (Option.some.inj q)
    cases as with
    | nil => cases q
    | cons a r => cases (List.cons.inj q).1
  · obtain ⟨j, hj⟩ := List.mem_iff_getElem?.mp m
    obtain ⟨d, _, q⟩ := pget1 hh.2 hj
    rw [List.mem_singleton.mp m', e] at q
    cases q
section
variable {P : Program} {w : World} {K : PySem.W.Frag} {mg : Str → Option Value} {base : Heap}
def spLikely : Sp := fun vs H Q _ => ∃ (p b hl : Addr) (B : Bk) (as : List Addr) (hs : List D1) (la : Nat), vs = [.ref p, .ref b, .ref hl, .int la] ∧ PurseAt H p ∧ BookAt H b B ∧ BkOk B ∧ HsAt H hl as hs ∧ (∀ d ∈ hs, IntD d ∧ d.length < 64) ∧ hs.length ≤ 40 ∧ (la = 0 ∨ la < B.ms.length) ∧
  ∀ (H' : Hp) (d : Addr) (D : Dd), DeedAt H' d D → PurseAt H' p → Kp [p] H H' → Q (.ref d) H'
abbrev kN : List Str := ["_law_purse_here", "_law_book_here", "_law_holders", "_law_at", "_law_number", "_law_some", "_law_walker", "_law_word", "_law_near", "_law_k"]
theorem scLikely : FnScope kN ["_law_purse_here", "_law_book_here", "_law_holders", "_law_at"] (defScope sLawLikely) := ⟨rfl, rfl, rfl, by decide +kernel, rfl, by decide +kernel, by decide +kernel⟩
theorem ok_likely (T : Txt K mg) : OkF P w K mg base CX0 4 "_law_likely" ["_law_purse_here", "_law_book_here", "_law_holders", "_law_at"] spLikely := by
  have G := ok_take (P := P) (w := w) (base := base) T
  have GW := ok_wild (P := P) (w := w) (base := base) T
  refine mkF (st := sLawLikely) T (List.mem_of_getElem? (i := 17) rfl) (fun _ _ _ _ _ _ us hl => match us, hl with | [_, _, _, _], _ => rfl) fun fd F => ?_
  refine F.ok scLikely (fun vs H Q E h => ?_) (fun cdv A outer s H vs Q E hr h => ?_)
  · obtain ⟨p, b, hl, B, as, hs, la, rfl, _⟩ := h
    rfl
  · obtain ⟨p, b, hl, B, as, hs, la, rfl, hp, hb, hB, hh, hI, h40, hla, k⟩ := h
    have hr1 : Room 1 _ := hr.mono (by decide)
    have hu := hu_of hr
    have hu64 := hr.units
    refine ⟨_, (pss_cons (ps_if (PW.pt (pw_or (pt_cmpR (OpR.or (op_eqU hu) (op_eqD hu64)) (pv 2) (pe_lst pa_nil) (nomark _)) (pw_or1 (pt_cmpR op_eq (pe_cf G hr1 pass0 (pa_cons (pv 0) (pa_cons pe_int pa_nil))) pe_int (nomark _)))))
          (pss_one (ps_ret (pe_cf GW hr pass0 (pa_cons (pv 0) (pa_cons (pv 1) (pa_cons (pe_callB call_len_seq (by rfl) T.tLen PySem.boot_len (pa_cons (pv 2) pa_nil)) pa_nil)))))) pss_nil)
      (pss_cons (ps_set (i := 4) scLikely.nd rfl (.inr rfl) (pe_cf G hr1 pass0 (pa_cons (pv 0) (pa_cons (pe_callB call_len_seq (by rfl) T.tLen PySem.boot_len (pa_cons (pv 2) pa_nil)) pa_nil))))
      (pss_cons (ps_set (i := 5) scLikely.nd rfl (.inl rfl) (pe_callB (call_sortedDI rfl) (by rfl) T.tSorted (by decide +kernel) (pa_cons (pe_ix ix_list (pv 2) (pv 4) (fun _ _ => rfl)) pa_nil)))
      (pss_cons (ps_if (pt_cmpR (OpR.or (op_eqU hu) (op_eqD hu64)) (pv 5) (pe_lst pa_nil) (nomark _)) (pss_one (ps_ret (pe_tup (pa_cons pe_str (pa_cons (pv 4) (pa_cons (pe_cf G hr1 pass0 (pa_cons (pv 0) (pa_cons (pe_callB call_len_seq (by rfl) T.tLen PySem.boot_len (pa_cons (pe_ix ix_tup (pv 1) pe_int (fun _ _ => rfl)) pa_nil)) pa_nil))) pa_nil)))))) pss_nil)
      (pss_cons (ps_set (i := 6) scLikely.nd rfl (.inr rfl) (pe_ix ix_list (pv 5) (pe_cf G hr1 pass0 (pa_cons (pv 0) (pa_cons (pe_callB call_len_seq (by rfl) T.tLen PySem.boot_len (pa_cons (pv 5) pa_nil)) pa_nil))) (fun _ _ => rfl)))
      (pss_cons (ps_set (i := 7) scLikely.nd rfl (.inl rfl) (pe_ix ix_list (pe_lst (pa_cons pe_str (pa_cons pe_str (pa_cons pe_str (pa_cons pe_str (pa_cons pe_str (pa_cons pe_str pa_nil))))))) (pe_cf G hr1 pass0 (pa_cons (pv 0) (pa_cons pe_int pa_nil))) (fun _ _ => rfl)))
      (pss_cons (ps_setLc (i := 8) (own := [("_law_k", 9)]) (g := gName 9) (by rfl) scLikely.nd rfl rfl (sw_true rfl rfl rfl (by decide +kernel)) (pi_range2 (by rfl) T.tRange (pa_cons (pv 3) (pa_cons (pe_callB call_len_seq (by rfl) T.tLen PySem.boot_len (pa_cons (pe_ix ix_tup (pv 1) pe_int (fun _ _ => rfl)) pa_nil)) pa_nil)))
          (blkOk_by (own := [("_law_k", 9)]) (N := kN) (sc := defScope sLawLikely) (by decide +kernel)) (fun _ _ _ _ _ => by exact (pg_name (i := 9) scLikely.nd rfl (Or.inl rfl)))
          (fun _ _ _ _ _ => by exact (pts_one (PW.pt (pw_and (pt_cmpR (insK K) (pv 6) (pe_slice (sltK K) (pe_ix (ixt K) (pe_ix (ixt K) (pv 1) pe_int (fun _ _ => rfl)) (pv 9) (fun _ _ => rfl)) po_none (po_some pe_int)) (by rfl))
            (pw_and1 (pt_cmpR op_gt (pe_ix (ixt K) (pe_ix (ixt K) (pe_ix (ixt K) (pv 1) pe_int (fun _ _ => rfl)) (pv 9) (fun _ _ => rfl)) pe_int (fun _ _ => rfl)) (pe_dget hu (pe_ix (ixl K) (pv 2) (pv 4) (fun _ _ => rfl)) (pv 6) (fun _ _ => rfl)) (nomark _)))))))
          (fun _ _ _ _ _ => by exact (pv 9)))
      (pss_cons (ps_if (pt_cmpR op_eq (pv 7) pe_str (nomark _)) (pss_one (ps_ret (pe_tup (pa_cons (pv 7) (pa_cons (pv 4) (pa_cons (pv 6) pa_nil)))))) pss_nil)
      (C8.pss_cut (ps_if (PW.pt (pw_and (pt_cmpR op_gt (pv 3) pe_int (nomark _)) (pw_and1 (pt_cmpR op_eq (pe_cf G hr1 pass0 (pa_cons (pv 0) (pa_cons pe_int pa_nil))) pe_int (nomark _)))))
          (pss_one (ps_ret (pe_tup (pa_cons pe_str (pa_cons (pe_op op_sub (pv 3) pe_int) (pa_cons (pv 4) (pa_cons (pe_ix ix_tup (pe_ix ix_tup (pe_ix ix_tup (pv 1) pe_int (fun _ _ => rfl)) (pe_op op_sub (pv 3) pe_int) (fun _ _ => rfl)) pe_int (fun _ _ => rfl)) pa_nil))))))) pss_nil)
      (pss_cons (ps_if (pt_cmpR (OpR.or (op_eqU hu) (op_eqD hu64)) (pv 8) (pe_lst pa_nil) (nomark _)) (pss_one (ps_ret (pe_cf GW hr pass0 (pa_cons (pv 0) (pa_cons (pv 1) (pa_cons (pe_callB call_len_seq (by rfl) T.tLen PySem.boot_len (pa_cons (pv 2) pa_nil)) pa_nil)))))) pss_nil)
      (pss_one (ps_ret (pe_tup (pa_cons (pv 7) (pa_cons (pe_ix ix_list (pv 8) (pe_callB (call_min2 rfl) (by rfl) T.tMin (by decide +kernel) (pa_cons (pe_cf G hr1 pass0 (pa_cons (pv 0) (pa_cons pe_int pa_nil))) (pa_cons (pe_op op_sub (pe_callB call_len_seq (by rfl) T.tLen PySem.boot_len (pa_cons (pv 8) pa_nil)) pe_int) pa_nil))) (fun _ _ => rfl)) (pa_cons (pv 4) (pa_cons (pv 6) pa_nil))))))))))))))))), ?_⟩
    obtain ⟨r, mb, vs, b1, b2, b3, b4⟩ := id hb
    have r1 := hB.r1
    have r2 := hB.r2
    have m1 := hB.m1
    have vl := plen b4
    have rl : (B.rooms.map V.int).length = B.rooms.length := List.length_map _
    have al : as.length = hs.length := plen hh.2
    have all : (as.map V.ref).length = as.length := List.length_map _
    obtain ⟨na, nas⟩ := purse_apart hp hh
    have HH : ∀ {G : Hp}, Kp [p] H G → HsAt G hl as hs := fun K1 => hh.kp K1 na nas
    have np : ∀ {G : Hp} {q : Addr}, PurseAt G p → G q = none → q ≠ p := fun {G q} hG hq z => by
      obtain ⟨_, _, _, e', _⟩ := hG
      rw [z, e'] at hq
      cases hq
    refine ⟨_, rfl, Nat.zero_le _, fun q hq => ?_⟩
    have K0 : Kp [p] H (upd H q (.lst [])) := Kp.refl.nw hq
    have P0 := hp.kp0 (Kp.refl.nw (o := .lst []) hq)
    have h0 := HH K0
    cases hs with
    | nil =>
      cases as with
      | cons _ _ => cases al
      | nil =>
      refine .inr ⟨.list [], .list [], .lst (SqL.of h0.1) .nil, .lst (SqL.of upd_same) .nil, by decide, by decide, _, rfl, ifT rfl ?_⟩
      exact ⟨_, rfl, _, rfl, _, rfl, hl, _, rfl, .inl (SqL.of h0.1), p, b, B, 0, rfl, by decide, P0, hb.kp K0, hB, fun H' d D hD P' K' => k H' d D hD P' (K0.trans K')⟩
    | cons d0 hs0 =>
    have hpos : 0 < as.length := by
      rw [al]
      exact Nat.succ_pos _
    refine .inl ⟨hl, q, _, _, rfl, rfl, h0.1, upd_same, by rw [all]; show _ ≠ 0; omega, _, rfl, iteF ?_⟩
    refine ⟨_, rfl, p, 5, rfl, P0, by decide, by decide, fun H1 x _ _ P1 K1 => ⟨rfl, _, rfl, ite2 (fun c => ?_) (fun c => ?_)⟩⟩
    · have k1 := K0.trans K1
      exact ⟨_, rfl, _, rfl, _, rfl, hl, _, rfl, .inl (SqL.of (HH k1).1), p, b, B, _, rfl, by rw [all]; omega, P1, hb.kp k1, hB, fun H' d D hD P' K' => k H' d D hD P' (k1.trans K')⟩
    have k1 := K0.trans K1
    refine ⟨_, rfl, _, rfl, hl, _, rfl, .inl (SqL.of (HH k1).1), p, _, rfl, P1, by rw [all]; omega, by rw [all]; omega, fun H2 nn n0 n1 P2 K2 => ?_⟩
    have k2 := k1.trans K2
    rw [all] at n1
    obtain ⟨n, rfl⟩ : ∃ n : Nat, nn = n := ⟨nn.toNat, by omega⟩
    obtain ⟨d, hd⟩ := get_of_lt (l := d0 :: hs0) (i := n) (by omega)
    obtain ⟨hID, h64⟩ := hI d (List.mem_of_getElem? hd)
    obtain ⟨a, ha, hda⟩ := pget (HH k2).2 hd
    have hai : (as.map V.ref)[n]? = some (.ref a) := by rw [List.getElem?_map, ha] <;> rfl
    refine ⟨_, rfl, _, rfl, hl, _, _, _, rfl, rfl, SqL.of (HH k2).1, atI_nat hai, a, d, keysD d, rfl, .of hda, keysD_eq hID, by rw [keysD_len hID]; exact h64, fun ks s pe so hs' => ?_⟩
    have k3 := k2.nw (o := .lst (ks.map V.int)) hs'
    have P3 := P2.kp0 (Kp.refl.nw (o := .lst (ks.map V.int)) hs')
    have s3 : upd H2 s (.lst (ks.map V.int)) s = some (.lst (ks.map V.int)) := upd_same
    have sp' := np P2 hs'
    have kl : (ks.map V.int).length = ks.length := List.length_map _
    have k64 : ks.length < 64 := by
      rw [pe.length_eq, keysD_len hID]
      exact h64
    refine ⟨_, rfl, Nat.zero_le _, fun q2 hq2 => ?_⟩
    have k4 := k3.nw (o := .lst []) hq2
    have P4 := P3.kp0 (Kp.refl.nw (o := .lst []) hq2)
    have s4 := upd_new (o := .lst []) s3 hq2
    cases hks : ks with
    | nil =>
      rw [hks] at s4
      refine .inr ⟨.list [], .list [], .lst (SqL.of s4) .nil, .lst (SqL.of upd_same) .nil, by decide, by decide, _, rfl, ifT rfl ?_⟩
      rw [hks] at k4 P4
      refine ⟨_, rfl, _, rfl, _, rfl, b, _, 0, _, rfl, rfl, SqT.of (k4.tup b1), rfl, r, _, rfl, .inr (SqT.of (k4.tup b2)), p, _, rfl, P4, by rw [rl]; omega, by rw [rl]; omega, fun H3 z _ _ P5 K5 => ⟨(by show 3 ≤ sizeLine; decide), fun d' hd' => ?_⟩⟩
      exact k _ d' (.drop n z) upd_same (P5.kp0 (Kp.refl.nw hd')) ((k4.trans K5).nw hd')
    | cons z0 ks0 =>
    rw [← hks]
    have kpos : 0 < ks.length := by
      rw [hks]
      exact Nat.succ_pos _
    refine .inl ⟨s, q2, _, _, rfl, rfl, s4, upd_same, by rw [kl]; show _ ≠ 0; omega, _, rfl, iteF ?_⟩
    refine ⟨_, rfl, _, rfl, _, rfl, s, _, rfl, .inl (SqL.of s4), p, _, rfl, P4, by rw [kl]; omega, by rw [kl]; omega, fun H5 y y0 y1 P5 K5 => ?_⟩
    rw [kl] at y1
    obtain ⟨yn, rfl⟩ : ∃ n : Nat, y = n := ⟨y.toNat, by omega⟩
    obtain ⟨wk, hwk⟩ := get_of_lt (l := ks) (i := yn) (by omega)
    have hwk' : (ks.map V.int)[yn]? = some (.int wk) := by rw [List.getElem?_map, hwk] <;> rfl
    have k5 := k4.trans K5
    refine ⟨s, _, _, _, rfl, rfl, SqL.of (K5.p1 s4 sp'), atI_nat hwk', ?_⟩
    have hval := keysD_val hID (pe.mem_iff.mp (List.mem_of_getElem? hwk))
    refine ⟨(by show 6 ≤ sizeLine; decide), fun q3 hq3 => ?_⟩
    have q3p := np P5 hq3
    have P5' := P5.kp0 (Kp.refl.nw (o := .lst [.str "copy", .str "give", .str "copy", .str "give", .str "copy", .str "drop"]) hq3)
    refine ⟨_, rfl, p, 6, rfl, P5', by decide, by decide, fun H6 u u0 u6 P6 K6 => ?_⟩
    have k6 : Kp [p] H H6 := (k5.nw (o := .lst [.str "copy", .str "give", .str "copy", .str "give", .str "copy", .str "drop"]) hq3).trans K6
    obtain ⟨wd, hwd, hc⟩ : ∃ wd : Str, atI ([.str "copy", .str "give", .str "copy", .str "give", .str "copy", .str "drop"] : List V) u = some (.str wd) ∧ (wd = "drop" ∨ ∃ g : Bool, wd = (if g = true then ("give" : Str) else "copy") ∧ decide (V.str wd = V.str "drop") = false) := by
      have u3 : u = 0 ∨ u = 1 ∨ u = 2 ∨ u = 3 ∨ u = 4 ∨ u = 5 := by omega
      rcases u3 with rfl | rfl | rfl | rfl | rfl | rfl
      · exact ⟨"copy", rfl, .inr ⟨false, rfl, by decide +kernel⟩⟩
      · exact ⟨"give", rfl, .inr ⟨true, rfl, by decide +kernel⟩⟩
      · exact ⟨"copy", rfl, .inr ⟨false, rfl, by decide +kernel⟩⟩
      · exact ⟨"give", rfl, .inr ⟨true, rfl, by decide +kernel⟩⟩
      · exact ⟨"copy", rfl, .inr ⟨false, rfl, by decide +kernel⟩⟩
      · exact ⟨"drop", rfl, .inl rfl⟩
    refine ⟨q3, _, _, _, rfl, rfl, SqL.of (K6.p1 upd_same q3p), hwd, ?_⟩
    -- near
    refine ⟨_, rfl, _, rfl, b, _, 1, _, rfl, rfl, SqT.of (k6.tup b1), rfl, mb, vs, rfl, .inr (SqT.of (k6.tup b3)), (la : Int), (vs.length : Int), rfl, ⟨by omega, by omega, by omega, by omega⟩, fun D hD => ?_⟩
    have Dp := np P6 hD
    refine lc_range (lo := (la : Int)) (n := ((vs.length : Int) - (la : Int)).toNat) (fun i G' => Kp [] H6 G' ∧ ∃ ns : List Int, G' D = some (.lst (ns.map V.int)) ∧ ns.length ≤ i) ⟨Kp.refl.nw hD, [], upd_same, Nat.le_refl _⟩ ?_ ?_
    · rintro i G' hi ⟨g1, ns, g2, g3⟩
      have kG : Kp [p] H G' := k6.trans g1.nil
      have hj : la + i < B.ms.length := by omega
      obtain ⟨mt, hmt⟩ := get_of_lt hj
      obtain ⟨_, m2, am, rfl, m3⟩ := pget b4 hmt
      have m2' : atI vs ((la : Int) + (i : Int)) = some (.ref am) := at_of (by omega) m2
      refine ⟨rfl, ?_⟩
      refine ⟨_, rfl, _, rfl, b, _, 1, _, rfl, rfl, SqT.of (kG.tup b1), rfl, _, rfl, mb, _, _, _, rfl, rfl, SqT.of (kG.tup b3), m2', 2, rfl, am, mtV mt, rfl, SqT.of (kG.tup m3), (by show ¬ (HT.sIx 4 0 none = 0 ∧ HT.sIx 4 4 (some 2) = 4); decide), fun q4 hq4 => ?_⟩
      have g4 : Kp [] H6 (upd G' q4 (.tup (cutV (mtV mt) none (some 2)))) := g1.nw hq4
      have kG4 := kG.nw (o := .tup (cutV (mtV mt) none (some 2))) hq4
      have Dq : D ≠ q4 := ne_of_none g2 hq4
      have fin : ∀ c : Bool, (if c = true then tVar 9 [some (.ref p), some (.ref b), some (.ref hl), some (.int la), some (.int n), some (.ref s), some (.int wk), some (.str wd), none, some (.int ((la : Int) + (i : Int)))] (upd G' q4 (.tup (cutV (mtV mt) none (some 2)))) (fun y H4 => ∃ acc, H4 D = some (.lst acc) ∧ acc.length < sizeLine ∧
          (Kp [] H6 (upd H4 D (.lst (acc ++ [y]))) ∧ ∃ ns : List Int, upd H4 D (.lst (acc ++ [y])) D = some (.lst (ns.map V.int)) ∧ ns.length ≤ i + 1)) else (Kp [] H6 (upd G' q4 (.tup (cutV (mtV mt) none (some 2)))) ∧ ∃ ns : List Int, upd G' q4 (.tup (cutV (mtV mt) none (some 2))) D = some (.lst (ns.map V.int)) ∧ ns.length ≤ i + 1)) := fun c => by
        refine ite2 (fun _ => ?_) (fun _ => ⟨g4, ns, upd_of g2 Dq, by omega⟩)
        exact ⟨_, rfl, _, upd_of g2 Dq, line_of (by rw [List.length_map]; omega), g4.wn hD, ns ++ [(la : Int) + (i : Int)], by rw [upd_same, List.map_append] <;> rfl, by rw [List.length_append]; show _ + 1 ≤ _; omega⟩
      refine ⟨q4, [.int mt.a, .int mt.b], rfl, .inr (SqT.of upd_same), rfl, rfl, _, rfl, ite2 (fun c => ?_) (fun c => fin false)⟩
      refine ⟨_, rfl, b, _, 1, _, rfl, rfl, SqT.of (kG4.tup b1), rfl, _, rfl, mb, _, _, _, rfl, rfl, SqT.of (kG4.tup b3), m2', am, mtV mt, 2, _, rfl, rfl, SqT.of (kG4.tup m3), rfl, _, rfl, _, rfl, hl, _, _, _, rfl, rfl, SqL.of (HH kG4).1, atI_nat hai, _, rfl, a, _, rfl, hval ▸ DGet.k (k := Sum.inl wk) ?_, _, _, rfl, rfl, _, rfl, fin _⟩
      obtain ⟨a2, ha2, hda2⟩ := pget (HH kG4).2 hd
      rw [ha] at ha2
      cases ha2
      exact hda2
    rintro H7 ⟨g1, ns, g2, g3⟩
    have k7 : Kp [p] H H7 := k6.trans g1.nil
    have P7 := P6.kp0 g1
    have nl : (ns.map V.int).length = ns.length := List.length_map _
    refine ⟨_, rfl, rfl, _, rfl, ?_⟩
    have ret : ∀ (D : Dd) (G' : Hp) (d' : Addr), Kp [p] H G' → PurseAt G' p → G' d' = none → Q (.ref d') (upd G' d' (.tup D.v)) := fun D G' d' hk hP hd' => k _ d' D upd_same (hP.kp0 (Kp.refl.nw hd')) (hk.nw hd')
    rcases hc with rfl | ⟨g, rfl, hg⟩
    · exact ifT (decide_eq_true rfl) ⟨_, rfl, _, rfl, _, rfl, (by show 3 ≤ sizeLine; decide), fun d' hd' => ret (.drop n wk) H7 d' k7 P7 hd'⟩
    refine ifF hg ?_
    refine ⟨fun σ' H' => σ' = [some (.ref p), some (.ref b), some (.ref hl), some (.int la), some (.int n), some (.ref s), some (.int wk), some (.str (if g = true then ("give" : Str) else "copy")), some (.ref D), none] ∧ PurseAt H' p ∧ Kp [p] H7 H', ?_, ?_⟩
    · refine ⟨_, rfl, _, _, rfl, rfl, _, rfl, ite2 (fun c => ?_) (fun c => ?_)⟩
      · have c : 0 < (la : Int) := of_decide_eq_true c
        refine ⟨_, rfl, p, 8, rfl, P7, by decide, by decide, fun H8 x _ _ P8 K8 => ⟨rfl, _, rfl, ite2 (fun c2 => ?_) (fun c2 => ?_)⟩⟩
        · have hj : la - 1 < B.ms.length := by omega
          obtain ⟨mt, hmt⟩ := get_of_lt hj
          obtain ⟨_, m2, am, rfl, m3⟩ := pget b4 hmt
          have m2' : atI vs ((la : Int) - 1) = some (.ref am) := at_of (by omega) m2
          have k8 := k7.trans K8
          refine ⟨_, rfl, _, _, rfl, rfl, _, rfl, _, rfl, b, _, 1, _, rfl, rfl, SqT.of (k8.tup b1), rfl, _, rfl, _, _, rfl, rfl, mb, _, _, _, rfl, rfl, SqT.of (k8.tup b3), m2', am, mtV mt, 0, _, rfl, rfl, SqT.of (k8.tup m3), rfl, (by show 4 ≤ sizeLine; decide), fun d' hd' => ?_⟩
          exact ret (.pass false ((la : Int) - 1) n mt.a) H8 d' k8 P8 hd'
        · exact ⟨rfl, P8, K8⟩
      · exact ⟨rfl, P7, Kp.refl⟩
    rintro _ H8 ⟨rfl, P8, K8⟩
    have k8 := k7.trans K8
    have g8 := K8.p1 g2 Dp
    refine ⟨_, rfl, Nat.zero_le _, fun q5 hq5 => ?_⟩
    have k9 := k8.nw (o := .lst []) hq5
    have P9 := P8.kp0 (Kp.refl.nw (o := .lst []) hq5)
    have g9 := upd_new (o := .lst []) g8 hq5
    cases hns : ns with
    | nil =>
      rw [hns] at g9
      refine .inr ⟨.list [], .list [], .lst (SqL.of g9) .nil, .lst (SqL.of upd_same) .nil, by decide, by decide, _, rfl, ifT rfl ?_⟩
      exact ⟨_, rfl, _, rfl, _, rfl, hl, _, rfl, .inl (SqL.of (HH k9).1), p, b, B, _, rfl, by rw [all]; omega, P9, hb.kp k9, hB, fun H' d D hD P' K' => k H' d D hD P' (k9.trans K')⟩
    | cons z0 ns0 =>
    have npos : 0 < ns.length := by
      rw [hns]
      exact Nat.succ_pos _
    refine .inl ⟨D, q5, _, _, rfl, rfl, g9, upd_same, by rw [nl]; show _ ≠ 0; omega, _, rfl, iteF ?_⟩
    refine ⟨_, rfl, _, rfl, _, rfl, p, 3, rfl, P9, by decide, by decide, fun HA x x0 x3 PA KA => ?_⟩
    have gA := KA.p1 g9 Dp
    have kA := k9.trans KA
    obtain ⟨z, hz⟩ : ∃ z : Int, atI (ns.map V.int) (if ((ns.map V.int).length : Int) - 1 < x then ((ns.map V.int).length : Int) - 1 else x) = some (.int z) := by
      rw [nl]
      obtain ⟨j, hj, hjl⟩ : ∃ j : Nat, (if (ns.length : Int) - 1 < x then (ns.length : Int) - 1 else x) = j ∧ j < ns.length := by
        split
        · exact ⟨ns.length - 1, by omega, by omega⟩
        · exact ⟨x.toNat, by omega, by omega⟩
      obtain ⟨z, hz⟩ := get_of_lt hjl
      exact ⟨z, at_of hj (by rw [List.getElem?_map, hz] <;> rfl)⟩
    refine ⟨_, rfl, D, _, rfl, .inl (SqL.of gA), _, _, rfl, rfl, _, _, rfl, D, _, _, _, rfl, rfl, SqL.of gA, hz, _, rfl, _, rfl, (by show 4 ≤ sizeLine; decide), fun d' hd' => ?_⟩
    exact ret (.pass g z n wk) HA d' kA PA hd'
end
end K46
set_option Elab.async false
set_option linter.all false
set_option maxRecDepth 100000
set_option maxHeartbeats 4000000
namespace K46
open PySem L2
theorem HsAt.set {H H' : Hp} {hl a : Addr} {as : List Addr} {hs : List D1} {n : Nat} {d' : D1} (h : HsAt H hl as hs) (k : Kp [a] H H') (nd : as.Nodup) (hn : hl ∉ as) (ha : as[n]? = some a) (h' : H' a = some (.dK d')) : HsAt H' hl as (hs.set n d') :=
  ⟨k.at h.1 fun m => hn (by rw [List.mem_singleton.mp m]; exact List.mem_of_getElem? ha), pset h.2 nd ha (fun b e m z q => k.at q fun m' => z (List.mem_singleton.mp m')) h'⟩
theorem due8d {B : Bk} {ls : List Lt} {S : Sy} {n x : Int} (G : Good B ls S) (h : due B ls S (.drop n x) = 8) : ∃ (ni : Nat) (d : D1) (t : Int), n = ni ∧ ni < ls.length ∧ S.hs[ni]? = some d ∧ valV d (vk x) = some (.int t) := by
  rw [due_d] at h
  cases e : inR n ls.length with
  | false =>
    rw [e, if_pos rfl] at h
    exact absurd h (by decide)
  | true =>
    obtain ⟨ni, rfl, hni⟩ := inR_nat e
    obtain ⟨d, hd⟩ := get_of_lt (l := S.hs) (i := ni) (by rw [G.lh]; exact hni)
    rw [e, if_neg (by decide), dAt_eq hd] at h
    split at h
    · exact absurd h (by decide)
    · split at h
      · rename_i c
        rcases has_snc (G.ih d (List.mem_of_getElem? hd)) x with ⟨_, t, _, h3⟩ | ⟨h1, _⟩
        · exact ⟨ni, d, t, rfl, hni, hd, h3⟩
        · rw [h1] at c
          cases c
      · exact absurd h (by decide)
section
variable {P : Program} {w : World} {K : PySem.W.Frag} {mg : Str → Option Value} {base : Heap}
def spNoted : Sp := fun vs H Q _ => ∃ (b hl d : Addr) (B : Bk) (ls : List Lt) (S : Sy) (as : List Addr) (D : Dd), vs = [.ref b, .ref hl, .ref d] ∧ BookAt H b B ∧ HsAt H hl as S.hs ∧ as.Nodup ∧ hl ∉ as ∧ DeedAt H d D ∧ Good B ls S ∧ due B ls S D = 8 ∧ S.ds.length ≤ 100 ∧
  ∀ H', HsAt H' hl as (step B ls S d D).hs → Kp as H H' → Q .non H'
theorem scNoted : FnScope ["_law_book_here", "_law_holders", "_law_deed", "_law_meeting"] ["_law_book_here", "_law_holders", "_law_deed"] (defScope sLawNoted) := ⟨rfl, rfl, rfl, by decide +kernel, rfl, by decide +kernel, by decide +kernel⟩
theorem ok_noted (T : Txt K mg) : OkF P w K mg base CX0 1 "_law_noted" ["_law_book_here", "_law_holders", "_law_deed"] spNoted := by
  refine mkF (st := sLawNoted) T (List.mem_of_getElem? (i := 18) rfl) (fun _ _ _ _ _ _ us hl => match us, hl with | [_, _, _], _ => rfl) fun fd F => ?_
  refine F.ok scNoted (fun vs H Q E h => ?_) (fun cdv A outer s H vs Q E hr h => ?_)
  · obtain ⟨b, hl, d, B, ls, S, as, D, rfl, _⟩ := h
    rfl
  · obtain ⟨b, hl, d, B, ls, S, as, D, rfl, hb, hh, nd, hn, hD, G, d8, hds, k⟩ := h
    have hu := hu_of hr
    refine ⟨_, (pss_cons (ps_if (pt_cmpR op_eq (pe_ix ix_tup (pv 2) pe_int (fun _ _ => rfl)) pe_str (nomark _))
          (pss_cons (ps_expr (pe_dpop1 (pe_ix ix_list (pv 1) (pe_ix ix_tup (pv 2) pe_int (fun _ _ => rfl)) (fun _ _ => rfl)) (pe_ix ix_tup (pv 2) pe_int (fun _ _ => rfl)) ⟨rfl, rfl, rfl, rfl⟩))
      (pss_one (ps_retN))) pss_nil)
      (pss_cons (ps_set (i := 3) scNoted.nd rfl (.inl rfl) (pe_ix ix_tup (pe_ix ix_tup (pv 0) pe_int (fun _ _ => rfl)) (pe_ix ix_tup (pv 2) pe_int (fun _ _ => rfl)) (fun _ _ => rfl)))
      (pss_cons (ps_dput hu (pe_ix ix_list (pv 1) (pe_ix ix_tup (pv 2) pe_int (fun _ _ => rfl)) (fun _ _ => rfl)) (pe_op op_sub (pe_op op_add (pe_ix ix_tup (pv 3) pe_int (fun _ _ => rfl)) (pe_ix ix_tup (pv 3) pe_int (fun _ _ => rfl))) (pe_ix ix_tup (pv 2) pe_int (fun _ _ => rfl))) (pe_ix ix_tup (pv 3) pe_int (fun _ _ => rfl)) rfl)
      (pss_one (ps_if (pt_cmpR op_eq (pe_ix ix_tup (pv 2) pe_int (fun _ _ => rfl)) pe_str (nomark _))
          (pss_one (ps_expr (pe_dpop1 (pe_ix ix_list (pv 1) (pe_ix ix_tup (pv 2) pe_int (fun _ _ => rfl)) (fun _ _ => rfl)) (pe_ix ix_tup (pv 2) pe_int (fun _ _ => rfl)) ⟨rfl, rfl, rfl, rfl⟩))) pss_nil))))), ?_⟩
    cases D with
    | drop n x =>
      obtain ⟨ni, dd, t, rfl, hni, hd, hv⟩ := due8d G d8
      obtain ⟨a, ha, hda⟩ := pget hh.2 hd
      have hai : (as.map V.ref)[ni]? = some (.ref a) := by rw [List.getElem?_map, ha] <;> rfl
      refine ⟨_, rfl, d, _, 0, _, rfl, rfl, SqT.of hD, rfl, rfl, _, rfl, ifT (decide_eq_true rfl) ?_⟩
      refine ⟨_, rfl, _, rfl, d, _, 1, _, rfl, rfl, SqT.of hD, rfl, hl, _, _, _, rfl, rfl, SqL.of hh.1, atI_nat hai, a, rfl, .inl ⟨_, .of hda⟩, _, rfl, d, _, 2, _, rfl, rfl, SqT.of hD, rfl, dd, Sum.inl x, _, hda, rfl, hv, ?_⟩
      refine k _ ?_ (Kp.refl.wr hda (fun z => z) (List.mem_of_getElem? ha))
      have e : (step B ls S d (.drop ni x)).hs = S.hs.set ni (dropK dd (vk x)) := by
        show S.hs.set (ni : Int).toNat (dropK (dAt S.hs ni) (vk x)) = _
        rw [dAt_eq hd, Int.toNat_natCast]
      rw [e]
      exact hh.set (Kp.refl.wr hda (fun z => z) (List.mem_singleton.mpr rfl)) nd hn ha upd_same
    | pass g m n x =>
      obtain ⟨mi, ni, mt, l, dd, t, rfl, rfl, hm, hla, hlt, hd, hw, ht, htw, hno, hcnt, hroom⟩ := due8 G d8
      obtain ⟨a, ha, hda⟩ := pget hh.2 hd
      have hai : (as.map V.ref)[ni]? = some (.ref a) := by rw [List.getElem?_map, ha] <;> rfl
      obtain ⟨r, mb, vs, b1, b2, b3, b4⟩ := hb
      obtain ⟨_, m1, am, rfl, m2⟩ := pget b4 hm
      have dl := G.sz dd (List.mem_of_getElem? hd)
      refine ⟨_, rfl, d, _, 0, _, rfl, rfl, SqT.of hD, rfl, rfl, _, rfl, ifF (by cases g <;> decide +kernel) ?_⟩
      refine ⟨_, rfl, b, _, 1, _, rfl, rfl, SqT.of b1, rfl, _, rfl, d, _, 1, _, rfl, rfl, SqT.of hD, rfl, mb, _, _, _, rfl, rfl, SqT.of b3, atI_nat m1, ?_⟩
      refine ⟨_, rfl, am, mtV mt, 2, _, rfl, rfl, SqT.of m2, rfl, _, rfl, _, rfl, d, _, 2, _, rfl, rfl, SqT.of hD, rfl, hl, _, _, _, rfl, rfl, SqL.of hh.1, atI_nat hai,
        _, rfl, am, mtV mt, 0, _, rfl, rfl, SqT.of m2, rfl, _, rfl, am, mtV mt, 1, _, rfl, rfl, SqT.of m2, rfl, _, _, rfl, rfl, _, rfl, d, _, 3, _, rfl, rfl, SqT.of hD, rfl, _, x, rfl, rfl, a, _, rfl, DPut.k (k := Sum.inl (mt.a + mt.b - x)) hda (line_of (by omega)), ?_⟩
      have k1 : Kp [a] H (upd H a (.dK (putK dd (vk (mt.a + mt.b - x)) (.int mt.w)))) := Kp.refl.wr hda (fun z => z) (List.mem_singleton.mpr rfl)
      have k1' : Kp as H (upd H a (.dK (putK dd (vk (mt.a + mt.b - x)) (.int mt.w)))) := Kp.refl.wr hda (fun z => z) (List.mem_of_getElem? ha)
      have h1 := hh.set (d' := putK dd (vk (mt.a + mt.b - x)) (.int mt.w)) k1 nd hn ha upd_same
      have hD1 := k1.tup hD
      have e : (step B ls S d (.pass g mi ni x)).hs = S.hs.set ni (if g = true then dropK (putK dd (vk (mt.a + mt.b - x)) (.int mt.w)) (vk x) else putK dd (vk (mt.a + mt.b - x)) (.int mt.w)) := by
        show S.hs.set (ni : Int).toNat (if g = true then dropK (putK (dAt S.hs ni) (vk ((mtAt B mi).a + (mtAt B mi).b - x)) (.int (mtAt B mi).w)) (vk x) else putK (dAt S.hs ni) (vk ((mtAt B mi).a + (mtAt B mi).b - x)) (.int (mtAt B mi).w)) = _
        rw [dAt_eq hd, mtAt_eq hm, Int.toNat_natCast]
      cases g with
      | false =>
        refine ⟨_, rfl, d, _, 0, _, rfl, rfl, SqT.of hD1, rfl, rfl, _, rfl, ifF (by decide +kernel) ?_⟩
        refine k _ ?_ k1'
        rw [e]
        exact h1
      | true =>
        refine ⟨_, rfl, d, _, 0, _, rfl, rfl, SqT.of hD1, rfl, rfl, _, rfl, ifT (decide_eq_true rfl) ?_⟩
        obtain ⟨v, hv⟩ : ∃ v, valV (putK dd (vk (mt.a + mt.b - x)) (.int mt.w)) (vk x) = some v := by
          rw [valV_put]
          split
          · exact ⟨_, rfl⟩
          · exact ⟨_, (snc_has ht).2⟩
        refine ⟨_, rfl, _, rfl, d, _, 2, _, rfl, rfl, SqT.of hD1, rfl, hl, _, _, _, rfl, rfl, SqL.of h1.1, atI_nat hai, a, rfl, .inl ⟨_, .of upd_same⟩, _, rfl, d, _, 3, _, rfl, rfl, SqT.of hD1, rfl, _, Sum.inl x, v, upd_same, rfl, hv, ?_⟩
        refine k _ ?_ (k1'.wr upd_same (fun z => z) (List.mem_of_getElem? ha))
        have h2 := h1.set (d' := dropK (putK dd (vk (mt.a + mt.b - x)) (.int mt.w)) (vk x)) (Kp.refl.wr upd_same (fun z => z) (List.mem_singleton.mpr rfl)) nd hn ha upd_same
        rw [List.set_set] at h2
        rw [e]
        exact h2
end
end K46
set_option Elab.async false
set_option linter.all false
set_option maxRecDepth 100000
set_option maxHeartbeats 4000000
namespace K46
open PySem L2
section
variable {P : Program} {w : World} {K : PySem.W.Frag} {mg : Str → Option Value} {base : Heap}
def spLBag : Sp := fun vs H Q _ => ∃ (lp hl : Addr) (ls : List Lt) (hs : List D1) (as : List Addr) (x : Int), vs = [.ref lp, .ref hl, .int x] ∧ LtsAt H lp ls ∧ HsAt H hl as hs ∧ hs.length = ls.length ∧ ls.length ≤ 40 ∧ ∀ (H' : Hp) (p : Addr), Kp [] H H' → H p = none → H' p = some (.lst (bagV ls hs x)) → Q (.ref p) H'
theorem scLBag : FnScope ["_law_letters_here", "_law_holders", "_law_walker", "_law_found", "_law_number", "_law_free"] ["_law_letters_here", "_law_holders", "_law_walker"] (defScope sLawBag) := ⟨rfl, rfl, rfl, by decide +kernel, rfl, by decide +kernel, by decide +kernel⟩
theorem ok_lbag (T : Txt K mg) : OkF P w K mg base CX0 1 "_law_bag" ["_law_letters_here", "_law_holders", "_law_walker"] spLBag := by
  refine mkF (st := sLawBag) T (List.mem_of_getElem? (i := 25) rfl) (fun _ _ _ _ _ _ us hl => match us, hl with | [_, _, _], _ => rfl) fun fd F => ?_
  refine F.ok scLBag (fun vs H Q E h => ?_) (fun cdv A outer s H vs Q E hr h => ?_)
  · obtain ⟨lp, hl, ls, hs, as, x, rfl, _⟩ := h
    rfl
  · obtain ⟨lp, hl, ls, hs, as, x, rfl, ⟨vs, hv, pl⟩, hh, le, l40, k⟩ := h
    have hu := hu_of hr
    have ln : vs.length = ls.length := plen pl
    refine ⟨_, (pss_cons (ps_set (i := 3) scLBag.nd rfl (.inl rfl) (pe_lst pa_nil))
      (pss_cons (ps_for PassesOwn.never rfl (pi_range1 (by rfl) T.tRange (pa_cons (pe_callB call_len_seq (by rfl) T.tLen PySem.boot_len (pa_cons (pv 0) pa_nil)) pa_nil)) (pg_name (i := 4) scLBag.nd rfl (Or.inl rfl))
        (pss_cons (ps_set (i := 5) scLBag.nd rfl (.inl rfl) (pe_cmpR op_in_seq (pv 2) (pe_tup (pa_cons (pe_ix ix_tup (pe_ix ix_list (pv 0) (pv 4) (fun _ _ => rfl)) pe_int (fun _ _ => rfl)) (pa_cons (pe_ix ix_tup (pe_ix ix_list (pv 0) (pv 4) (fun _ _ => rfl)) pe_int (fun _ _ => rfl)) pa_nil))) (by rfl)))
      (pss_one (ps_if (PW.pt (pw_and (pt_cmp (pc_din hu (pv 2) (pe_ix ix_list (pv 1) (pv 4) (fun _ _ => rfl)))) (pw_and1 (pt_not (pt_val (pv 5))))))
            (pss_one (ps_expr (pe_bm PySem.F.plainAttrs_list PySem.F.slot_list_append PySem.F.type_list_append mt_append (pv 3) (pa_cons (pv 4) pa_nil)))) pss_nil))))
      (pss_one (ps_ret (pv 3))))), ?_⟩
    refine ⟨Nat.zero_le _, fun q hq => ?_⟩
    have K0 : Kp [] H (upd H q (.lst [])) := Kp.refl.nw hq
    refine ⟨_, rfl, lp, vs, rfl, .inl (SqL.of (K0.at0 hv)), _, rfl, (small62 (by omega)).1, (small62 (by omega)).2, for_range (lo := 0) (n := (vs.length : Int).toNat) (fun i σ G => ∃ (v4 v5 : Option V), σ = [some (.ref lp), some (.ref hl), some (.int x), some (.ref q), v4, v5] ∧ Kp [] H G ∧ G q = some (.lst (((List.range i).filter (takes ls hs x)).map fun j => V.int (j : Nat))))
      ⟨none, none, rfl, K0, upd_same⟩ ?_ ?_⟩
    · rintro i σ G hi ⟨v4, v5, rfl, kG, gq⟩
      rw [Int.zero_add]
      have hi' : i < ls.length := by omega
      obtain ⟨l, hl'⟩ := get_of_lt hi'
      obtain ⟨d, hd⟩ := get_of_lt (l := hs) (i := i) (by omega)
      obtain ⟨_, h1, a, rfl, h2⟩ := pget pl hl'
      obtain ⟨b, hb, hdb⟩ := pget hh.2 hd
      have hbi : (as.map V.ref)[i]? = some (.ref b) := by rw [List.getElem?_map, hb] <;> rfl
      refine ⟨_, rfl, _, rfl, _, rfl, lp, _, _, _, rfl, rfl, SqL.of (kG.at0 hv), atI_nat h1, a, ltV l, 0, _, rfl, rfl, SqT.of (kG.tup h2), rfl, _, rfl, _, rfl, lp, _, _, _, rfl, rfl, SqL.of (kG.at0 hv), atI_nat h1, a, ltV l, 2, _, rfl, rfl, SqT.of (kG.tup h2), rfl, (by show 2 ≤ sizeLine; decide), fun t ht => ?_⟩
      have k1 : Kp [] H (upd G t (.tup [.int l.fr, .int l.wi])) := kG.nw ht
      have gq1 := upd_new (o := .tup [.int l.fr, .int l.wi]) gq ht
      refine ⟨t, _, rfl, .inr (SqT.of upd_same), rfl, rfl, ?_⟩
      have ef : inV (V.int x) [V.int l.fr, V.int l.wi] = free l x := by
        unfold free
        show ((l.fr == x) || ((l.wi == x) || false)) = _
        rw [Bool.or_false, BEq.comm (a := l.fr), BEq.comm (a := l.wi)]
        rfl
      have er : (List.range (i + 1)).filter (takes ls hs x) = (List.range i).filter (takes ls hs x) ++ if (has d x && !free l x) = true then [i] else [] := by
        rw [List.range_succ, List.filter_append, List.filter_cons, takes_at hl' hd]
        split <;> rfl
      refine ⟨_, rfl, _, rfl, _, rfl, hl, _, _, _, rfl, rfl, SqL.of (k1.at0 hh.1), atI_nat hbi, b, _, rfl, DGet.k (k := Sum.inl x) (k1.at0 hdb), _, rfl, ?_⟩
      refine ite2 (fun c => ?_) (fun c => ?_)
      · have c : has d x = true := c
        refine ⟨_, rfl, _, rfl, ?_⟩
        rw [show (if false = true then !inV (V.int x) [V.int l.fr, V.int l.wi] else inV (V.int x) [V.int l.fr, V.int l.wi]) = free l x from ef]
        rw [c] at er
        cases hf : free l x with
        | true =>
          rw [hf] at er
          refine iteF ⟨_, _, rfl, k1, ?_⟩
          rw [gq1, er, if_neg (by decide), List.append_nil]
        | false =>
          rw [hf] at er
          refine iteT ⟨_, rfl, .inl ⟨rfl, _, .inl (.inl gq1)⟩, _, rfl, q, _, _, rfl, rfl, gq1, line_of ?_, _, _, rfl, k1.wn hq, ?_⟩
          · rw [List.length_map]
            have := filter_len_le (p := takes ls hs x) (l := List.range i)
            rw [List.length_range] at this
            omega
          · rw [upd_same, er, if_pos (by decide), List.map_append]
            rfl
      · have c : has d x = false := Bool.eq_false_iff.mpr c
        rw [c] at er
        refine ⟨_, _, rfl, k1, ?_⟩
        rw [gq1, er, if_neg (by simp), List.append_nil]
    · rintro σ G ⟨v4, v5, rfl, kG, gq⟩
      refine ⟨_, rfl, k G q kG hq ?_⟩
      rw [gq, show (vs.length : Int).toNat = ls.length by omega]
      rfl
end
end K46
set_option Elab.async false
set_option linter.all false
set_option maxRecDepth 100000
set_option maxHeartbeats 4000000
namespace K46
open PySem L2
section
variable {P : Program} {w : World} {K : PySem.W.Frag} {mg : Str → Option Value} {base : Heap}
/-- both are the same: so they are found alike -/
def spTimeIs : Sp := fun vs H Q _ => ∃ v : V, vs = [v, v] ∧ IntV v ∧ Q (.bl true) H
theorem scTimeIs : FnScope ["_law_found", "_law_due_here"] ["_law_found", "_law_due_here"] (defScope sLawTimeIs) := ⟨rfl, rfl, rfl, by decide +kernel, rfl, by decide +kernel, by decide +kernel⟩
theorem ok_timeIs (T : Txt K mg) : OkF P w K mg base CX0 2 "_law_time_is" ["_law_found", "_law_due_here"] spTimeIs := by
  have G := ok_lwhole (P := P) (w := w) (base := base) T
  refine mkF (st := sLawTimeIs) T (List.mem_of_getElem? (i := 22) rfl) (fun _ _ _ _ _ _ us hl => match us, hl with | [_, _], _ => rfl) fun fd F => ?_
  refine F.ok scTimeIs (fun vs H Q E h => ?_) (fun cdv A outer s H vs Q E hr h => ?_)
  · obtain ⟨v, rfl, _⟩ := h
    rfl
  · obtain ⟨v, rfl, hv, k⟩ := h
    refine ⟨_, (pss_cons (ps_if (PW.pt (pw_or (pt_cmpR op_isN (pv 1) pe_non (nomark _)) (pw_or1 (pt_cmpR op_isN (pv 0) pe_non (nomark _)))))
        (pss_one (ps_ret (pe_and (pe_cmpR op_isN (pv 1) pe_non (nomark _)) (pe_one (pe_cmpR op_isN (pv 0) pe_non (nomark _)))))) pss_nil)
      (pss_one (ps_ret (pe_and (pe_cf G hr pass0 (pa_cons (pv 0) pa_nil)) (pe_one (pe_cmpR op_eq (pv 0) (pv 1) (nomark _))))))), ?_⟩
    rcases hv with rfl | ⟨t, rfl⟩
    · refine ⟨_, rfl, rfl, _, rfl, ifT (decide_eq_true rfl) (ifT rfl ?_)⟩
      refine ⟨_, rfl, rfl, _, rfl, ifT (decide_eq_true rfl) ⟨_, rfl, rfl, ?_⟩⟩
      rw [decide_eq_true rfl]
      exact k
    · refine ⟨_, rfl, rfl, _, rfl, ifF (decide_eq_false (fun z => by cases z)) ⟨_, rfl, rfl, _, rfl, ifF (decide_eq_false (fun z => by cases z)) ?_⟩⟩
      refine ⟨_, rfl, t, rfl, true, rfl, iteT ⟨_, rfl, _, rfl, rfl, ?_⟩⟩
      rw [decide_eq_true rfl]
      exact k
def spNumsAre : Sp := fun vs H Q _ => ∃ (p q : Addr) (ns : List Int), vs = [.ref p, .ref q] ∧ H p = some (.lst (ns.map V.int)) ∧ H q = some (.lst (ns.map V.int)) ∧ ns.length ≤ 100 ∧ ∀ H', Kp [] H H' → Q (.bl true) H'
theorem scNumsAre : FnScope ["_law_found", "_law_due_here", "_law_one"] ["_law_found", "_law_due_here"] (defScope sLawNumbersAre) := ⟨rfl, rfl, rfl, by decide +kernel, rfl, by decide +kernel, by decide +kernel⟩
theorem eqv_ints (ns : List Int) : PyData.eqv (.list ((ns.map V.int).map scD)) (.list ((ns.map V.int).map scD)) = true ∧ SeqAt.shaped (.list ((ns.map V.int).map scD)) = true := by
  have h : SeqAt.shaped (.list ((ns.map V.int).map scD)) = true := by
    show (PyData.canLayAll0 ((ns.map V.int).map scD) && decide (PyData.depthAll ((ns.map V.int).map scD) + 1 ≤ 64)) = true
    rw [row_can rowOk_ints, row_depth]
    rfl
  exact ⟨SeqAt.eqv_refl _ (SeqAt.canLay_of_shaped h), h⟩
theorem ok_numsAre (T : Txt K mg) : OkF P w K mg base CX0 2 "_law_numbers_are" ["_law_found", "_law_due_here"] spNumsAre := by
  have G := ok_lwhole (P := P) (w := w) (base := base) T
  refine mkF (st := sLawNumbersAre) T (List.mem_of_getElem? (i := 23) rfl) (fun _ _ _ _ _ _ us hl => match us, hl with | [_, _], _ => rfl) fun fd F => ?_
  refine F.ok scNumsAre (fun vs H Q E h => ?_) (fun cdv A outer s H vs Q E hr h => ?_)
  · obtain ⟨p, q, ns, rfl, _⟩ := h
    rfl
  · obtain ⟨p, q, ns, rfl, hp, hq, hn, k⟩ := h
    have hu64 := hr.units
    refine ⟨_, (pss_cons (ps_if (PW.pt (pw_or (pt_not (pt_val (pe_callB call_isi (by rfl) T.tIs (by decide +kernel) (pa_cons (pv 0) (pa_cons (pe_bltn (v := .ty "list") (by rfl) T.tList (by decide +kernel) rfl) pa_nil)))))
        (pw_or1 (pt_not (pt_val (pe_callB (cr_all rfl) (by rfl) T.tAll (by decide +kernel) (pa_cons (by exact (pe_lc (own := [("_law_one", 2)]) (g := gName 2) (by rfl) scNumsAre.nd (pi_list (pv 0))
          (blkOk_by (own := [("_law_one", 2)]) (N := ["_law_found", "_law_due_here", "_law_one"]) (sc := defScope sLawNumbersAre) (by decide +kernel)) (fun _ _ _ _ _ => by exact (pg_name (i := 2) scNumsAre.nd rfl (Or.inl rfl))) (fun _ _ _ _ _ => pts_nil)
          (fun _ _ _ _ _ => by exact (pe_cf G hr pass0 (pa_cons (pv 2) pa_nil))))) pa_nil)))))))
        (pss_one (ps_ret pe_bl)) pss_nil)
      (pss_one (ps_ret (pe_cmpR (op_eqD hu64) (pv 0) (pv 1) (nomark _))))), ?_⟩
    refine ⟨_, rfl, _, _, _, _, true, rfl, .ty _, .base (.lst hp), kit_ty (by decide +kernel), _, rfl, iteF ?_⟩
    refine ⟨_, rfl, p, rfl, ⟨_, SqL.of hp⟩, fun L hL => ?_⟩
    have np : p ≠ L := ne_of_none hp hL
    refine lc_list (K := K) (a := p) (xs := ns.map V.int) (fun i H' => Kp [] H H' ∧ H' p = some (.lst (ns.map V.int)) ∧ H' L = some (.lst ((List.replicate i true).map V.bl))) ⟨Kp.refl.nw hL, upd_of hp np, upd_same⟩ (fun i H' _ q => SqL.of q.2.1) ?_ ?_
    · rintro i y H3 hy ⟨K3, h3, h4⟩
      have hi := lt_of_get hy
      rw [List.getElem?_map] at hy
      cases hz : ns[i]? with
      | none =>
        rw [hz] at hy
        cases hy
      | some z =>
        rw [hz] at hy
        obtain rfl := Option.some.inj hy
        refine ⟨rfl, ?_⟩
        refine ⟨_, rfl, z, rfl, _, h4, line_of ?_, K3.wn hL, upd_of h3 np, ?_⟩
        · rw [List.length_map] at hi
          rw [List.length_map, List.length_replicate]
          omega
        · rw [upd_same, List.replicate_succ', List.map_append]
          rfl
    · rintro H3 ⟨K3, h3, h4⟩
      refine ⟨L, _, rfl, SqL.of h4, _, rfl, ?_⟩
      have et : ((List.replicate (ns.map V.int).length true).all id) = true := by
        rw [List.all_eq_true]
        intro b hb
        rw [(List.mem_replicate.mp hb).2]
        rfl
      refine ifF (by rw [et] <;> rfl) ?_
      refine ⟨_, rfl, _, rfl, .list ((ns.map V.int).map scD), .list ((ns.map V.int).map scD), .lst (SqL.of h3) (row_dp rowOk_ints), .lst (SqL.of (K3.at0 hq)) (row_dp rowOk_ints), (eqv_ints ns).2, (eqv_ints ns).2, ?_⟩
      rw [(eqv_ints ns).1]
      exact k H3 K3
def spPairsAre : Sp := fun vs H Q _ => ∃ (p q : Addr) (qs : List (Int × Int)), vs = [.ref p, .ref q] ∧ PairsAt H p qs ∧ PairsAt H q qs ∧ qs.length ≤ 100 ∧ Q (.bl true) H
theorem scPairsAre : FnScope ["_law_found", "_law_due_here", "_law_k"] ["_law_found", "_law_due_here"] (defScope sLawPairsAre) := ⟨rfl, rfl, rfl, by decide +kernel, rfl, by decide +kernel, by decide +kernel⟩
def prV (q : Int × Int) : List V := [.int q.1, .int q.2]
theorem pr_rows {H : Hp} {vs : List V} {qs : List (Int × Int)} (h : Paired (PairAt H) vs qs) : Paired (RowAt H) vs (qs.map prV) := by
  induction h with
  | nil => exact .nil
  | cons r _ ih => exact .cons r ih
theorem pr_rowOk {qs : List (Int × Int)} : ∀ r ∈ qs.map prV, RowOk r := fun r m => by
  obtain ⟨q, _, rfl⟩ := List.mem_map.mp m
  exact rowOk_ints (ns := [q.1, q.2])
theorem ok_pairsAre (T : Txt K mg) : OkF P w K mg base CX0 2 "_law_pairs_are" ["_law_found", "_law_due_here"] spPairsAre := by
  have G := ok_lwhole (P := P) (w := w) (base := base) T
  refine mkF (st := sLawPairsAre) T (List.mem_of_getElem? (i := 21) rfl) (fun _ _ _ _ _ _ us hl => match us, hl with | [_, _], _ => rfl) fun fd F => ?_
  refine F.ok scPairsAre (fun vs H Q E h => ?_) (fun cdv A outer s H vs Q E hr h => ?_)
  · obtain ⟨p, q, qs, rfl, _⟩ := h
    rfl
  · obtain ⟨p, q, qs, rfl, ⟨vp, hp, pp⟩, ⟨vq, hq, pq⟩, hn, k⟩ := h
    have hu64 := hr.units
    have lp := plen pp
    have lq := plen pq
    refine ⟨_, (pss_cons (ps_if (PW.pt (pw_or (pt_not (pt_val (pe_callB call_isi (by rfl) T.tIs (by decide +kernel) (pa_cons (pv 0) (pa_cons (pe_bltn (v := .ty "list") (by rfl) T.tList (by decide +kernel) rfl) pa_nil)))))
        (pw_or1 (pt_cmpR op_ne (pe_callB call_len_seq (by rfl) T.tLen PySem.boot_len (pa_cons (pv 0) pa_nil)) (pe_callB call_len_seq (by rfl) T.tLen PySem.boot_len (pa_cons (pv 1) pa_nil)) (nomark _)))))
        (pss_one (ps_ret pe_bl)) pss_nil)
      (pss_cons (ps_for PassesOwn.never rfl (pi_range1 (by rfl) T.tRange (pa_cons (pe_callB call_len_seq (by rfl) T.tLen PySem.boot_len (pa_cons (pv 1) pa_nil)) pa_nil)) (pg_name (i := 2) scPairsAre.nd rfl (Or.inl rfl))
        (pss_cons (ps_if (PW.pt (pw_or (pt_not (pt_val (pe_callB call_isi (by rfl) T.tIs (by decide +kernel) (pa_cons (pe_ix ix_list (pv 0) (pv 2) (fun _ _ => rfl)) (pa_cons (pe_bltn (v := .ty "tuple") (by rfl) T.tTup (by decide +kernel) rfl) pa_nil)))))
            (pw_or1 (pt_cmpR op_ne (pe_callB call_len_seq (by rfl) T.tLen PySem.boot_len (pa_cons (pe_ix ix_list (pv 0) (pv 2) (fun _ _ => rfl)) pa_nil)) pe_int (nomark _)))))
            (pss_one (ps_ret pe_bl)) pss_nil)
      (pss_one (ps_if (PW.pt (pw_or (pt_not (pt_val (pe_cf G hr pass0 (pa_cons (pe_ix ix_tup (pe_ix ix_list (pv 0) (pv 2) (fun _ _ => rfl)) pe_int (fun _ _ => rfl)) pa_nil))))
            (pw_or1 (pt_not (pt_val (pe_cf G hr pass0 (pa_cons (pe_ix ix_tup (pe_ix ix_list (pv 0) (pv 2) (fun _ _ => rfl)) pe_int (fun _ _ => rfl)) pa_nil)))))))
            (pss_one (ps_ret pe_bl)) pss_nil))))
      (pss_one (ps_ret (pe_cmpR (op_eqD hu64) (pv 0) (pv 1) (nomark _)))))), ?_⟩
    refine ⟨_, rfl, _, _, _, _, true, rfl, .ty _, .base (.lst hp), kit_ty (by decide +kernel), _, rfl, iteF ?_⟩
    refine ⟨_, rfl, p, _, rfl, .inl (SqL.of hp), _, rfl, q, _, rfl, .inl (SqL.of hq), rfl, _, rfl, ifF (by rw [lp, lq, decide_eq_true rfl]; rfl) ?_⟩
    refine ⟨_, rfl, q, _, rfl, .inl (SqL.of hq), _, rfl, (small62 (by omega)).1, (small62 (by omega)).2, for_range (lo := 0) (n := (vq.length : Int).toNat) (fun i σ G' => ∃ v2 : Option V, σ = [some (.ref p), some (.ref q), v2] ∧ G' = H) ⟨none, rfl, rfl⟩ ?_ ?_⟩
    · rintro i σ G' hi ⟨v2, rfl, rfl⟩
      rw [Int.zero_add]
      obtain ⟨x, hx⟩ := get_of_lt (l := qs) (i := i) (by omega)
      obtain ⟨_, h1, a, rfl, h2⟩ := pget pp hx
      refine ⟨_, rfl, _, rfl, p, _, _, _, rfl, rfl, SqL.of hp, atI_nat h1, _, _, _, _, true, rfl, .ty _, .base (.tup h2), kit_ty (by decide +kernel), _, rfl, iteF ?_⟩
      refine ⟨_, rfl, _, rfl, p, _, _, _, rfl, rfl, SqL.of hp, atI_nat h1, a, _, rfl, .inr (SqT.of h2), rfl, _, rfl, ifF (by rfl) ?_⟩
      refine ⟨_, rfl, _, rfl, p, _, _, _, rfl, rfl, SqL.of hp, atI_nat h1, a, _, 0, _, rfl, rfl, SqT.of h2, rfl, x.1, rfl, _, rfl, iteF ?_⟩
      refine ⟨_, rfl, _, rfl, p, _, _, _, rfl, rfl, SqL.of hp, atI_nat h1, a, _, 1, _, rfl, rfl, SqT.of h2, rfl, x.2, rfl, _, rfl, iteF ?_⟩
      exact ⟨_, rfl, rfl⟩
    · rintro σ G' ⟨v2, rfl, rfl⟩
      refine ⟨_, rfl, _, rfl, .list ((qs.map prV).map rowD), .list ((qs.map prV).map rowD), .lst (SqL.of hp) (rows_dp (pr_rows pp) pr_rowOk), .lst (SqL.of hq) (rows_dp (pr_rows pq) pr_rowOk), (rows_shaped pr_rowOk).1, (rows_shaped pr_rowOk).1, ?_⟩
      rw [eqv_same pr_rowOk]
      exact k
end
end K46
set_option Elab.async false
set_option linter.all false
set_option maxRecDepth 100000
set_option maxHeartbeats 4000000
namespace K46
open PySem L2
section
variable {P : Program} {w : World} {K : PySem.W.Frag} {mg : Str → Option Value} {base : Heap}
def spState : Sp := fun vs H Q _ => ∃ (lp : Addr) (ls : List Lt), vs = [.ref lp] ∧ LtsAt H lp ls ∧ ls.length ≤ 40 ∧ ∀ (H' : Hp) (M : LaL), LawAt H' M (start0 ls) → (∀ a ∈ M.all, H a = none) → Kp [] H H' → Q (.ref M.sd) H'
abbrev stN : List Str := ["_law_letters_here", "_law_come", "_law_sender", "_law_since", "_law_wish", "_law_last", "_law_one"]
theorem scState : FnScope stN ["_law_letters_here"] (defScope sLawState) := ⟨rfl, rfl, rfl, by decide +kernel, rfl, by decide +kernel, by decide +kernel⟩
theorem ok_state (T : Txt K mg) : OkF P w K mg base CX0 1 "_law_state" ["_law_letters_here"] spState := by
  refine mkF (st := sLawState) T (List.mem_of_getElem? (i := 24) rfl) (fun _ _ _ _ _ _ us hl => match us, hl with | [_], _ => rfl) fun fd F => ?_
  refine F.ok scState (fun vs H Q E h => ?_) (fun cdv A outer s H vs Q E hr h => ?_)
  · obtain ⟨lp, ls, rfl, _⟩ := h
    rfl
  · obtain ⟨lp, ls, rfl, ⟨vs, hv, pl⟩, l40, k⟩ := h
    have vl : vs.length = ls.length := plen pl
    refine ⟨_, (pss_cons (ps_set (i := 1) scState.nd rfl (.inl rfl) (pe_lst pa_nil))
      (pss_cons (ps_for PassesOwn.never rfl (pi_list (pv 0)) (pg_tup (by rfl) (pgs_cons (pg_name (i := 2) scState.nd rfl (.inl rfl)) (pgs_cons (pg_name (i := 3) scState.nd rfl (.inl rfl)) (pgs_cons (pg_name (i := 4) scState.nd rfl (.inl rfl)) (pgs_cons (pg_name (i := 5) scState.nd rfl (.inl rfl)) pgs_nil)))))
        (pss_one (ps_expr (pe_bm PySem.F.plainAttrs_list PySem.F.slot_list_append PySem.F.type_list_append mt_append (pv 1) (pa_cons (pe_ix ix_list (pe_lst (pa_cons pe_non (pa_cons (pv 3) pa_nil)))
            (pe_callTy call_int1 (by rfl) T.tInt (by decide +kernel) (pa_cons (pe_and (pe_cmpR op_eq (pv 2) (pv 4) (nomark _)) (pe_one (pe_cmpR op_le (pv 3) (pv 5) (nomark _)))) pa_nil)) (fun _ _ => rfl)) pa_nil)))))
      (pss_one (ps_ret (pe_disp (pps_cons pe_str (by exact (pe_lc (own := [("_law_one", 6)]) (g := gName 6) (by rfl) scState.nd (pi_list (pv 0))
          (blkOk_by (own := [("_law_one", 6)]) (N := stN) (sc := defScope sLawState) (by decide +kernel)) (fun _ _ _ _ _ => by exact (pg_name (i := 6) scState.nd rfl (Or.inl rfl))) (fun _ _ _ _ _ => pts_nil)
          (fun _ _ _ _ _ => by exact (pe_disp (pps_cons (pe_ix (ixt K) (pv 6) pe_int (fun _ _ => rfl)) (pe_ix (ixt K) (pv 6) pe_int (fun _ _ => rfl)) pps_nil) (by rfl) (by rfl) (fun z => by cases z) (by decide)))))
          (pps_cons pe_str (pv 1) (pps_cons pe_str (pe_lst pa_nil) (pps_cons pe_str (pe_lst pa_nil) pps_nil)))) (by rfl) (by rfl) (fun z => by cases z) (by decide)))))), ?_⟩
    refine ⟨Nat.zero_le _, fun q hq => ?_⟩
    have K0 : Kp [] H (upd H q (.lst [])) := Kp.refl.nw hq
    have al : (ar0 ls).length = ls.length := List.length_map _
    refine ⟨_, rfl, lp, rfl, ⟨_, SqL.of (K0.at0 hv)⟩, for_it (walk_list (xs := vs)) (fun i σ G => ∃ (v2 v3 v4 v5 : Option V), σ = [some (.ref lp), some (.ref q), v2, v3, v4, v5, none] ∧ Kp [] H G ∧ G q = some (.lst ((ar0 ls).take i))) ⟨none, none, none, none, rfl, K0, upd_same⟩
      (fun i σ G _ ⟨_, _, _, _, _, kG, _⟩ => SqL.of (kG.at0 hv)) ?_ ?_⟩
    · rintro i y σ G G' hi ⟨v2, v3, v4, v5, rfl, kG, gq⟩ ⟨rfl, hy⟩
      obtain ⟨l, hli, a, rfl, hla⟩ := pget1 pl hy
      have ilt := lt_of_get hli
      refine ⟨a, ltV l, rfl, SqT.of (kG.tup hla), rfl, _, _, rfl, _, _, rfl, _, _, rfl, _, _, rfl, rfl, ?_⟩
      have e0 : (ar0 ls)[i]? = some (if l.fr = l.wi ∧ l.sc ≤ l.la then V.int l.sc else .non) := by
        show (ls.map _)[i]? = _
        rw [List.getElem?_map, hli]
        rfl
      have tl : ((ar0 ls).take i).length < sizeLine := line_of (by rw [List.length_take]; omega)
      refine ⟨_, rfl, .inl ⟨rfl, _, .inl (.inl gq)⟩, _, rfl, (by show 2 ≤ sizeLine; decide), fun t ht => ?_⟩
      have nt := upd_new (o := .lst [V.non, V.int l.sc]) gq ht
      have fin : ∀ v : V, (ar0 ls)[i]? = some v → ∃ (v2 v3 v4 v5 : Option V), (List.set (List.set (List.set (List.set [some (.ref lp), some (.ref q), v2, v3, v4, v5, none] 2 (some (.int l.fr))) 3 (some (.int l.sc))) 4 (some (.int l.wi))) 5 (some (.int l.la)) : L2.St) = [some (.ref lp), some (.ref q), v2, v3, v4, v5, none] ∧
          Kp [] H (upd (upd G' t (.lst [V.non, V.int l.sc])) q (.lst ((ar0 ls).take i ++ [v]))) ∧ upd (upd G' t (.lst [V.non, V.int l.sc])) q (.lst ((ar0 ls).take i ++ [v])) q = some (.lst ((ar0 ls).take (i + 1))) := fun v hv' => by
        refine ⟨_, _, _, _, rfl, (kG.nw ht).wn hq, ?_⟩
        rw [upd_same, List.take_add_one, hv']
        rfl
      refine ⟨_, rfl, _, rfl, rfl, _, rfl, ite2 (fun c => ?_) (fun c => ?_)⟩
      · have c1 : l.fr = l.wi := V.int.inj (of_decide_eq_true c)
        refine ⟨_, rfl, _, rfl, l.sc, l.la, rfl, rfl, .inr ⟨_, rfl, ?_⟩⟩
        by_cases c2 : l.sc ≤ l.la
        · rw [decide_eq_true c2]
          rw [if_pos ⟨c1, c2⟩] at e0
          exact ⟨t, _, 1, _, rfl, rfl, SqL.of upd_same, rfl, q, _, _, rfl, rfl, nt, tl, fin _ e0⟩
        · rw [decide_eq_false c2]
          rw [if_neg fun z => c2 z.2] at e0
          exact ⟨t, _, 0, _, rfl, rfl, SqL.of upd_same, rfl, q, _, _, rfl, rfl, nt, tl, fin _ e0⟩
      · have c1 : l.fr ≠ l.wi := fun z => c (decide_eq_true (congrArg V.int z))
        rw [if_neg fun z => c1 z.1] at e0
        exact .inr ⟨false, rfl, t, _, 0, _, rfl, rfl, SqL.of upd_same, rfl, q, _, _, rfl, rfl, nt, tl, fin _ e0⟩
    rintro σ G ⟨v2, v3, v4, v5, rfl, kG, gq⟩
    rw [vl, ← al, List.take_length] at gq
    intro p hp
    have np : H p = none := kG.free hp
    have k1 : Kp [] H (upd G p (.dK [])) := kG.nw hp
    have pq : p ≠ q := fun z => by
      rw [z, gq] at hp
      cases hp
    have gq1 := upd_of (o := .dK []) gq pq.symm
    refine ⟨_, rfl, lp, rfl, ⟨_, SqL.of (k1.at0 hv)⟩, fun D hD => ?_⟩
    have nD : H D = none := k1.free hD
    have pD : p ≠ D := ne_of_none upd_same hD
    have qD : q ≠ D := ne_of_none gq1 hD
    refine lc_list (K := K) (a := lp) (xs := vs) (fun i G => Kp [] H G ∧ G p = some (.dK []) ∧ G q = some (.lst (ar0 ls)) ∧ ∃ as : List Addr, G D = some (.lst (as.map V.ref)) ∧
      Paired (fun a d => G a = some (.dK d)) as ((ls.take i).map fun l => [(vk l.fr, V.int l.sc)]) ∧ as.Nodup ∧ ∀ a ∈ as, H a = none ∧ a ≠ p ∧ a ≠ q ∧ a ≠ D) ⟨k1.nw hD, upd_of upd_same pD, upd_of gq1 qD, [], upd_same, .nil, List.nodup_nil, fun _ m => nomatch m⟩ (fun i G _ z => SqL.of (z.1.at0 hv)) ?_ ?_
    · rintro i y G2 hy ⟨k2, g1, g2, as, g3, g4, g5, g6⟩
      obtain ⟨l, hli, a, rfl, hla⟩ := pget1 pl hy
      have ilt := lt_of_get hli
      refine ⟨rfl, ?_⟩
      intro r hr'
      have nr : H r = none := k2.free hr'
      have hla' : upd G2 r (.dK []) a = some (.tup (ltV l)) := upd_new (k2.tup hla) hr'
      refine ⟨_, rfl, a, _, 0, _, rfl, rfl, SqT.of hla', rfl, _, rfl, a, _, 1, _, rfl, rfl, SqT.of hla', rfl, upd_same, [(vk l.fr, V.int l.sc)], rfl, (by show 1 ≤ 15; decide), ?_⟩
      have Dr : D ≠ r := ne_of_none g3 hr'
      have pr : p ≠ r := ne_of_none g1 hr'
      have qr : q ≠ r := ne_of_none g2 hr'
      have asl : as.length = i := by
        rw [plen g4, List.length_map, List.length_take]
        omega
      have em : mergeK [] [(vk l.fr, V.int l.sc)] = [(vk l.fr, V.int l.sc)] := rfl
      rw [em]
      have up : ∀ {c : Addr} {o u v : HO}, G2 c = some o → upd (upd G2 r u) r v c = some o := fun {c o u v} e => upd_of (upd_new e hr') (ne_of_none e hr')
      refine ⟨as.map V.ref, up g3, line_of (by rw [List.length_map]; omega), ?_, upd_of (up g1) pD, upd_of (up g2) qD, as ++ [r], by rw [upd_same, List.map_append] <;> rfl, ?_, ?_, ?_⟩
      · exact ((k2.nw hr').wn nr).wn nD
      · rw [List.take_add_one, hli, List.map_append]
        refine (pimp g4 fun c d m e => ?_).snoc ?_
        · exact upd_of (up e) (g6 c m).2.2.2
        · exact upd_of upd_same Dr.symm
      · refine List.nodup_append.mpr ⟨g5, List.nodup_cons.mpr ⟨fun m => (nomatch m), List.nodup_nil⟩, fun c m c' m' => ?_⟩
        rw [List.mem_singleton.mp m']
        obtain ⟨j, hj⟩ := List.mem_iff_getElem?.mp m
        obtain ⟨d, _, e⟩ := pget1 g4 hj
        exact ne_of_none e hr'
      · intro c m
        rcases List.mem_append.mp m with m | m
        · exact g6 c m
        · rw [List.mem_singleton.mp m]
          exact ⟨nr, pr.symm, qr.symm, Dr.symm⟩
    rintro G2 ⟨k3, p3, q3, as, h3, q4, nd3, f3⟩
    rw [vl, List.take_length] at q4
    refine ⟨_, rfl, Nat.zero_le _, fun pl2 hpl => ⟨Nat.zero_le _, fun dl hdl => ?_⟩⟩
    have npl : H pl2 = none := k3.free hpl
    have k4 := k3.nw (o := .lst []) hpl
    have ndl : H dl = none := k4.free hdl
    have k5 := k4.nw (o := .lst []) hdl
    have up : ∀ {c : Addr} {o u v : HO}, G2 c = some o → upd (upd G2 pl2 u) dl v c = some o := fun {c o u v} e => upd_of (upd_new e hpl) (fun z => by
      rw [z] at e
      rw [upd_new e hpl] at hdl
      cases hdl)
    have pld : pl2 ≠ dl := ne_of_none upd_same hdl
    let M : LaL := ⟨p, D, q, pl2, dl, as⟩
    have ee : ∀ {c : Addr} {o : HO}, G2 c = some o → c ≠ pl2 ∧ c ≠ dl := fun {c o} e => ⟨ne_of_none e hpl, fun z => by
      rw [z] at e
      rw [upd_new e hpl] at hdl
      cases hdl⟩
    refine ⟨up p3, sdV M, rfl, (by show 4 ≤ 15; decide), ?_⟩
    refine k _ M ⟨upd_same, ⟨upd_of (up h3) pD.symm, pimp q4 fun c d m e => upd_of (up e) (f3 c m).2.1⟩, upd_of (up q3) pq.symm, upd_of (upd_of upd_same pld) (ee p3).1.symm, upd_of upd_same (ee p3).2.symm, ?_⟩ ?_ (k5.wn np)
    · show (p :: D :: q :: pl2 :: dl :: as).Nodup
      simp only [List.nodup_cons, List.mem_cons, not_or]
      have ein : ∀ c ∈ as, c ≠ pl2 ∧ c ≠ dl := fun c m => by
        obtain ⟨j, hj⟩ := List.mem_iff_getElem?.mp m
        obtain ⟨d, _, e⟩ := pget1 q4 hj
        exact ee e
      exact ⟨⟨pD, pq, (ee p3).1, (ee p3).2, fun m => (f3 p m).2.1 rfl⟩, ⟨qD.symm, (ee h3).1, (ee h3).2, fun m => (f3 D m).2.2.2 rfl⟩, ⟨(ee q3).1, (ee q3).2, fun m => (f3 q m).2.2.1 rfl⟩, ⟨pld, fun m => (ein _ m).1 rfl⟩, fun m => (ein _ m).2 rfl, nd3⟩
    · intro c m
      have m : c ∈ p :: D :: q :: pl2 :: dl :: as := m
      simp only [List.mem_cons] at m
      rcases m with z | z | z | z | z | z
      · exact z ▸ np
      · exact z ▸ nD
      · exact z ▸ hq
      · exact z ▸ npl
      · exact z ▸ ndl
      · exact (f3 c z).1
end
end K46
set_option Elab.async false
set_option linter.all false
set_option maxRecDepth 100000
set_option maxHeartbeats 4000000
namespace K46
open PySem L2
/-! ### a method's call, where what it raises is wished for at the caller's slots -/
section
variable {X : Cx} {k : Nat} {sp : Sp} {ps : List Str} {CX : CXT}
def tMethW (C : Addr) (m : Str) (sp : Sp) (E : L2.St → XK) (ta : TE) (t : TA) : TE := fun σ H Q => ta σ H fun x H1 => ∃ a dx fs, x = .ref a ∧ H1 a = some (.ins C dx fs) ∧ fs.lookup m = none ∧ t σ H1 fun vs H2 => sp (x :: vs) H2 Q (E σ)
theorem pe_cmW {m : Str} {o e : Expr} {es : List Expr} {apos pos : Pos} {t : TA} {ta : TE} {E : L2.St → XK} {pl : Sem Bool} (G : OkM X.prog X.w X.K X.mg X.base CX k m ps sp) (hr : Room k X.A) (hx : ∀ σ, PassesAt CX X σ (E σ)) (ho : PE X o ta) (ha : PA X (e :: es) t)
    (hst : starEach (e :: es) X.env = (false, eval e X.env) :: starEach es X.env := by rfl) (hpl : (backTo pos (starEach es X.env)).any (·.1) = false := by rfl)
    (ht : eval (.Call (.Attribute o m apos) (e :: es) [] pos) X.env = (do
      let ov ← eval o X.env
      standAt apos.atName
      let (f, first) ← holding [ov] (getMethod ov m pl)
      callWith pos f first (backTo pos (starEach (e :: es) X.env)) (backToKw pos (keywordEach [] X.env))) := by rfl) :
    PE X (.Call (.Attribute o m apos) (e :: es) [] pos) (tMethW (CT X.K) m sp E ta t) := by
  obtain ⟨fd, c, hm, hb, F⟩ := G
  refine ⟨fun pins s σ H Q I h => ?_⟩
  refine PySem.W.methodCall_KW (pl := pl) (thn (ho.run pins s σ H _ I h) fun u s1 ⟨x, H1, I1, rx, a, dx, fs, ex, ea, l, q⟩ => ?_) ht
  subst ex
  obtain rfl : u = Value.ref a := rx
  refine getmeth_ok I1 ea c hm l ?_
  refine PySem.W.callWith_K (first := [.ref a]) (h₀ := X.base) I.ok.mod.kin hm.kp (thn (ha.run pos pins s1 σ H1 _ I1 q) fun us s2 ⟨vs, H2, I2, r, q2⟩ => ⟨I2.kIn, ?_⟩) hst hpl
  exact run_fnS (us := .ref a :: us) (vs := .ref a :: vs) F hr hb (hx σ) I2 (.cons rfl r) q2
end
theorem due_range {B : Bk} {ls : List Lt} {S : Sy} (D : Dd) : 1 ≤ due B ls S D ∧ due B ls S D ≤ 8 := by
  cases D with
  | drop n x =>
    rw [due_d]
    repeat' split
    all_goals decide
  | pass g m n x =>
    rw [due_p]
    unfold dueP
    repeat' split
    all_goals decide
def bsK (k : Int) : List Bool := raised.map fun y => decide (exn k = y)
theorem bsK_ok {k : Int} (h1 : 1 ≤ k) (h8 : k ≤ 8) (hne : k ≠ 8) : exn k ∈ raised ∧ (bsK k).count true = 1 ∧ ∃ j : Nat, k = j ∧ (bsK k)[j]? = some true ∧ ∀ (m : Nat) (z : Bool), m < j → (bsK k)[m]? = some z → z = false := by
  have h : k = 1 ∨ k = 2 ∨ k = 3 ∨ k = 4 ∨ k = 5 ∨ k = 6 ∨ k = 7 := by omega
  rcases h with rfl | rfl | rfl | rfl | rfl | rfl | rfl
  · exact ⟨by decide +kernel, by decide +kernel, 1, rfl, by decide +kernel, fun m z hm => (by decide +kernel : ∀ m < 1, ∀ z, (bsK 1)[m]? = some z → z = false) m hm z⟩
  · exact ⟨by decide +kernel, by decide +kernel, 2, rfl, by decide +kernel, fun m z hm => (by decide +kernel : ∀ m < 2, ∀ z, (bsK 2)[m]? = some z → z = false) m hm z⟩
  · exact ⟨by decide +kernel, by decide +kernel, 3, rfl, by decide +kernel, fun m z hm => (by decide +kernel : ∀ m < 3, ∀ z, (bsK 3)[m]? = some z → z = false) m hm z⟩
  · exact ⟨by decide +kernel, by decide +kernel, 4, rfl, by decide +kernel, fun m z hm => (by decide +kernel : ∀ m < 4, ∀ z, (bsK 4)[m]? = some z → z = false) m hm z⟩
  · exact ⟨by decide +kernel, by decide +kernel, 5, rfl, by decide +kernel, fun m z hm => (by decide +kernel : ∀ m < 5, ∀ z, (bsK 5)[m]? = some z → z = false) m hm z⟩
  · exact ⟨by decide +kernel, by decide +kernel, 6, rfl, by decide +kernel, fun m z hm => (by decide +kernel : ∀ m < 6, ∀ z, (bsK 6)[m]? = some z → z = false) m hm z⟩
  · exact ⟨by decide +kernel, by decide +kernel, 7, rfl, by decide +kernel, fun m z hm => (by decide +kernel : ∀ m < 7, ∀ z, (bsK 7)[m]? = some z → z = false) m hm z⟩
theorem oPaired0 {K : PySem.W.Frag} : ∀ ys : List Str, Paired ClsV (ys.map fun y => V.ref (He.ga K y)) (ys.map fun y => Value.ref (He.ga K y))
  | [] => .nil
  | y :: ys => .cons (.own _) (oPaired0 ys)
theorem oPaired {K : PySem.W.Frag} : Paired ClsV (others.map fun y => V.ref (He.ga K y)) (others.map fun y => Value.ref (He.ga K y)) := oPaired0 others
theorem oAny {K : PySem.W.Frag} {t : Value} : ∀ {ys : List Str}, (∀ y ∈ ys, PySem.W.kitOne K t (.ref (He.ga K y)) = some false) → PySem.W.kitAny K t (ys.map fun y => Value.ref (He.ga K y)) = some false
  | [], _ => rfl
  | y :: ys, h => by
    show (match PySem.W.kitOne K t (.ref (He.ga K y)) with
      | some true => some true
      | some false => PySem.W.kitAny K t (ys.map fun y => Value.ref (He.ga K y))
      | none => none) = some false
    rw [h y List.mem_cons_self]
    exact oAny fun z m => h z (List.mem_cons_of_mem _ m)
section
variable {P : Program} {w : World} {K : PySem.W.Frag} {mg : Str → Option Value} {base : Heap}
def spDoes (K : PySem.W.Frag) : Sp := fun vs H Q _ => ∃ (L : Lay) (B : Bk) (ls : List Lt) (S : Sy) (d : Addr) (D : Dd), vs = [.ref L.x, .ref d] ∧ TripAt (CT K) H L B ls S ∧ Good B ls S ∧ S.ds.length ≤ 100 ∧ DeedAt H d D ∧
  (due B ls S D = 8 → ∀ H', TripAt (CT K) H' L B ls (step B ls S d D) → Kp L.all H H' → Q (.int 8) H') ∧ (due B ls S D ≠ 8 → ∀ H', Kp [] H H' → Q (.int (due B ls S D)) H')
theorem scDoes : FnScope ["_law_trip", "_law_deed", "_law_caught", "_law_told", "e", "_law_kinds", "_law_other"] ["_law_trip", "_law_deed"] (defScope sLawDoes) := ⟨rfl, rfl, rfl, by decide +kernel, rfl, by decide +kernel, by decide +kernel⟩
theorem ok_does (T : Txt K mg) : OkF P w K mg base CX0 6 "_law_does" ["_law_trip", "_law_deed"] (spDoes K) := by
  have GD := ok_do (P := P) (w := w) (base := base) T
  refine mkF (st := sLawDoes) T (List.mem_of_getElem? (i := 20) rfl) (fun _ _ _ _ _ _ us hl => match us, hl with | [_, _], _ => rfl) fun fd F => ?_
  refine F.ok scDoes (fun vs H Q E h => ?_) (fun cdv A outer s H vs Q E hr h => ?_)
  · obtain ⟨L, B, ls, S, d, D, rfl, _⟩ := h
    rfl
  · obtain ⟨L, B, ls, S, d, D, rfl, TA, G, hds, hD, k8, kk⟩ := h
    have hr5 : Room 5 _ := hr.mono (by decide)
    refine ⟨_, (pss_cons (ps_set (i := 2) scDoes.nd rfl (.inl rfl) pe_non)
      (pss_cons (ps_set (i := 3) scDoes.nd rfl (.inl rfl) pe_non)
      (pss_cons (ps_try_keep (i := 4) (j := 2) (c := .ref (He.ga K "MeetError")) (tb := fun W => tAsg (tMethW (CT K) "do" (spDo K) (WE W) (tVar 0) (tCons (tVar 1) tNil)) (gName 3)) rfl rfl scDoes.nd rfl rfl rfl rfl ⟨rfl, by decide, .inl T.mt⟩ (by decide) (by decide)
        (fun a pn => ps_set (i := 2) scDoes.nd rfl (.inl rfl) (by exact (pv 4)))
        (fun W pn xe tk _ => pss_one (ps_set (i := 3) scDoes.nd rfl (.inl rfl) (by exact (pe_cmW GD hr5 (fun σ => passAt tk σ) (pv 0) (by exact (pa_cons (pv 1) pa_nil)))))))
      (pss_cons (ps_if (pt_cmpR op_isN (pv 2) pe_non (nomark _)) (pss_one (ps_ret (pe_ix ix_list (pe_lst (pa_cons pe_int (pa_cons pe_int pa_nil))) (pe_callTy call_int1 (by rfl) T.tInt (by decide +kernel) (pa_cons (pe_cmpR op_isN (pv 3) pe_non (nomark _)) pa_nil)) (fun _ _ => rfl)))) pss_nil)
      (pss_cons (ps_set (i := 5) scDoes.nd rfl (.inl rfl) (pe_lst (pa_cons (pe_callB call_isX (by rfl) T.tIs (by decide +kernel) (pa_cons (pv 2) (pa_cons (pe_glob (v := .ref (He.ga K "NoDeed")) (by rfl) (T.ex "NoDeed" (List.mem_of_getElem? (i := 0) rfl)).g rfl) pa_nil))) (pa_cons (pe_callB call_isX (by rfl) T.tIs (by decide +kernel) (pa_cons (pv 2) (pa_cons (pe_glob (v := .ref (He.ga K "NoMeeting")) (by rfl) (T.ex "NoMeeting" (List.mem_of_getElem? (i := 1) rfl)).g rfl) pa_nil))) pa_nil))))
      (pss_cons (ps_set (i := 5) scDoes.nd rfl (.inl rfl) (pe_op op_cat (pv 5) (pe_lst (pa_cons (pe_callB call_isX (by rfl) T.tIs (by decide +kernel) (pa_cons (pv 2) (pa_cons (pe_glob (v := .ref (He.ga K "NoLetter")) (by rfl) (T.ex "NoLetter" (List.mem_of_getElem? (i := 2) rfl)).g rfl) pa_nil))) (pa_cons (pe_callB call_isX (by rfl) T.tIs (by decide +kernel) (pa_cons (pv 2) (pa_cons (pe_glob (v := .ref (He.ga K "NoWalker")) (by rfl) (T.ex "NoWalker" (List.mem_of_getElem? (i := 3) rfl)).g rfl) pa_nil))) pa_nil)))))
      (pss_cons (ps_set (i := 5) scDoes.nd rfl (.inl rfl) (pe_op op_cat (pv 5) (pe_lst (pa_cons (pe_callB call_isX (by rfl) T.tIs (by decide +kernel) (pa_cons (pv 2) (pa_cons (pe_glob (v := .ref (He.ga K "NotThere")) (by rfl) (T.ex "NotThere" (List.mem_of_getElem? (i := 4) rfl)).g rfl) pa_nil))) (pa_cons (pe_callB call_isX (by rfl) T.tIs (by decide +kernel) (pa_cons (pv 2) (pa_cons (pe_glob (v := .ref (He.ga K "HasIt")) (by rfl) (T.ex "HasIt" (List.mem_of_getElem? (i := 5) rfl)).g rfl) pa_nil))) pa_nil)))))
      (pss_cons (ps_set (i := 5) scDoes.nd rfl (.inl rfl) (pe_op op_cat (pv 5) (pe_lst (pa_cons (pe_callB call_isX (by rfl) T.tIs (by decide +kernel) (pa_cons (pv 2) (pa_cons (pe_glob (v := .ref (He.ga K "NoPass")) (by rfl) (T.ex "NoPass" (List.mem_of_getElem? (i := 6) rfl)).g rfl) pa_nil))) (pa_cons (pe_callB call_isX (by rfl) T.tIs (by decide +kernel) (pa_cons (pv 2) (pa_cons (pe_glob (v := .ref (He.ga K "NoRoom")) (by rfl) (T.ex "NoRoom" (List.mem_of_getElem? (i := 7) rfl)).g rfl) pa_nil))) pa_nil)))))
      (pss_cons (ps_set (i := 6) scDoes.nd rfl (.inl rfl) (pe_callB call_isXT (by rfl) T.tIs (by decide +kernel) (pa_cons (pv 2) (pa_cons (pe_tup (pa_cons (pe_glob (v := .ref (He.ga K "NoBook")) (by rfl) (T.gl "NoBook" (List.mem_of_getElem? (i := 0) rfl)) rfl) (pa_cons (pe_glob (v := .ref (He.ga K "NoRule")) (by rfl) (T.gl "NoRule" (List.mem_of_getElem? (i := 1) rfl)) rfl) (pa_cons (pe_glob (v := .ref (He.ga K "TooMany")) (by rfl) (T.gl "TooMany" (List.mem_of_getElem? (i := 2) rfl)) rfl) (pa_cons (pe_glob (v := .ref (He.ga K "NoDay")) (by rfl) (T.gl "NoDay" (List.mem_of_getElem? (i := 3) rfl)) rfl) (pa_cons (pe_glob (v := .ref (He.ga K "NoClaim")) (by rfl) (T.gl "NoClaim" (List.mem_of_getElem? (i := 4) rfl)) rfl) (pa_cons (pe_glob (v := .ref (He.ga K "NoText")) (by rfl) (T.gl "NoText" (List.mem_of_getElem? (i := 5) rfl)) rfl) (pa_cons (pe_glob (v := .ref (He.ga K "NoRow")) (by rfl) (T.gl "NoRow" (List.mem_of_getElem? (i := 6) rfl)) rfl) (pa_cons (pe_glob (v := .ref (He.ga K "NoName")) (by rfl) (T.gl "NoName" (List.mem_of_getElem? (i := 7) rfl)) rfl) (pa_cons (pe_glob (v := .ref (He.ga K "Twice")) (by rfl) (T.gl "Twice" (List.mem_of_getElem? (i := 8) rfl)) rfl) pa_nil)))))))))) pa_nil))))
      (pss_cons (ps_if (PW.pt (pw_or (pt_val (pv 6)) (pw_or (pt_not (pt_val (pe_callB call_isX (by rfl) T.tIs (by decide +kernel) (pa_cons (pv 2) (pa_cons (pe_bltn (v := .ty "ValueError") (by rfl) T.tVE (by decide +kernel) rfl) pa_nil)))))
        (pw_or1 (pt_cmpR op_ne (pe_bm PySem.F.plainAttrs_list PySem.F.slot_list_count PySem.F.type_list_count mt_countB (pv 5) (pa_cons pe_bl pa_nil)) pe_int (nomark _)))))) (pss_one (ps_ret pe_int)) pss_nil)
      (pss_one (ps_ret (pe_bm PySem.F.plainAttrs_list PySem.F.slot_list_index PySem.F.type_list_index mt_index (pv 5) (pa_cons pe_bl pa_nil)))))))))))))), ?_⟩
    refine ⟨_, rfl, L.x, L.dx, _, rfl, TA.ob, tf_no (by decide +kernel), _, rfl, L, B, ls, S, d, D, rfl, TA, G, hds, hD, fun d8 H' T' K' => ?_, fun k ek hne H1 K1 => ?_⟩
    · refine ⟨_, rfl, rfl, _, rfl, ifT (decide_eq_true rfl) ⟨(by show 2 ≤ sizeLine; decide), fun t ht => ⟨_, rfl, rfl, .inr ⟨true, rfl, t, _, 1, _, rfl, rfl, SqL.of upd_same, rfl, ?_⟩⟩⟩⟩
      have kt : Kp [] H' (upd H' t (.lst [V.int 9, V.int 8])) := Kp.refl.nw ht
      exact k8 d8 _ (T'.kp0 kt) (K'.trans kt.nil)
    obtain ⟨e1, e8⟩ := due_range (B := B) (ls := ls) (S := S) D
    rw [ek] at e1 e8
    obtain ⟨hm, hc, j, hj, hj1, hj2⟩ := bsK_ok e1 e8 hne
    have X1 := T.ex (exn k) hm
    refine ⟨X1.m, rfl, fun a na => ?_⟩
    have hX : upd H1 a (ExI (.ref (He.ga K (exn k))) a) a = some (ExI (.ref (He.ga K (exn k))) a) := upd_same
    have kX : Kp [] H (upd H1 a (ExI (.ref (He.ga K (exn k))) a)) := K1.nw na
    refine ⟨_, rfl, rfl, _, rfl, ifF (decide_eq_false fun z => by cases z) ?_⟩
    refine ⟨_, rfl, a, _, _, _, _, rfl, hX, X1.C, .own _, X1.r "NoDeed" (List.mem_of_getElem? (i := 0) rfl), _, rfl, a, _, _, _, _, rfl, hX, X1.C, .own _, X1.r "NoMeeting" (List.mem_of_getElem? (i := 1) rfl), (by show 2 ≤ sizeLine; decide), fun p1 q1 => ?_⟩
    have x1 := upd_new (o := .lst [V.bl (decide (exn k = "NoDeed")), V.bl (decide (exn k = "NoMeeting"))]) hX q1
    have y1 : ∀ G : Hp, upd G p1 (.lst [V.bl (decide (exn k = "NoDeed")), V.bl (decide (exn k = "NoMeeting"))]) p1 = some (.lst [V.bl (decide (exn k = "NoDeed")), V.bl (decide (exn k = "NoMeeting"))]) := fun G => upd_same
    have k1 : Kp [] H _ := (kX.nw (o := .lst [V.bl (decide (exn k = "NoDeed")), V.bl (decide (exn k = "NoMeeting"))]) q1)
    refine ⟨_, rfl, _, rfl, a, _, _, _, _, rfl, x1, X1.C, .own _, X1.r "NoLetter" (List.mem_of_getElem? (i := 2) rfl), _, rfl, a, _, _, _, _, rfl, x1, X1.C, .own _, X1.r "NoWalker" (List.mem_of_getElem? (i := 3) rfl), (by show 2 ≤ sizeLine; decide), fun t2 r2 => ?_⟩
    refine ⟨p1, t2, _, _, rfl, rfl, upd_new (y1 _) r2, upd_same, (by show 4 ≤ sizeLine; decide), fun p2 q2 => ?_⟩
    have x2 := upd_new (o := .lst [V.bl (decide (exn k = "NoDeed")), V.bl (decide (exn k = "NoMeeting")), V.bl (decide (exn k = "NoLetter")), V.bl (decide (exn k = "NoWalker"))]) (upd_new (o := .lst [V.bl (decide (exn k = "NoLetter")), V.bl (decide (exn k = "NoWalker"))]) x1 r2) q2
    have k2 := (k1.nw (o := .lst [V.bl (decide (exn k = "NoLetter")), V.bl (decide (exn k = "NoWalker"))]) r2).nw (o := .lst [V.bl (decide (exn k = "NoDeed")), V.bl (decide (exn k = "NoMeeting")), V.bl (decide (exn k = "NoLetter")), V.bl (decide (exn k = "NoWalker"))]) q2
    have y2 : ∀ G : Hp, upd G p2 (.lst [V.bl (decide (exn k = "NoDeed")), V.bl (decide (exn k = "NoMeeting")), V.bl (decide (exn k = "NoLetter")), V.bl (decide (exn k = "NoWalker"))]) p2 = some (.lst [V.bl (decide (exn k = "NoDeed")), V.bl (decide (exn k = "NoMeeting")), V.bl (decide (exn k = "NoLetter")), V.bl (decide (exn k = "NoWalker"))]) := fun G => upd_same
    refine ⟨_, rfl, _, rfl, a, _, _, _, _, rfl, x2, X1.C, .own _, X1.r "NotThere" (List.mem_of_getElem? (i := 4) rfl), _, rfl, a, _, _, _, _, rfl, x2, X1.C, .own _, X1.r "HasIt" (List.mem_of_getElem? (i := 5) rfl), (by show 2 ≤ sizeLine; decide), fun t3 r3 => ?_⟩
    refine ⟨p2, t3, _, _, rfl, rfl, upd_new (y2 _) r3, upd_same, (by show 6 ≤ sizeLine; decide), fun p3 q3 => ?_⟩
    have x3 := upd_new (o := .lst [V.bl (decide (exn k = "NoDeed")), V.bl (decide (exn k = "NoMeeting")), V.bl (decide (exn k = "NoLetter")), V.bl (decide (exn k = "NoWalker")), V.bl (decide (exn k = "NotThere")), V.bl (decide (exn k = "HasIt"))]) (upd_new (o := .lst [V.bl (decide (exn k = "NotThere")), V.bl (decide (exn k = "HasIt"))]) x2 r3) q3
    have k3 := (k2.nw (o := .lst [V.bl (decide (exn k = "NotThere")), V.bl (decide (exn k = "HasIt"))]) r3).nw (o := .lst [V.bl (decide (exn k = "NoDeed")), V.bl (decide (exn k = "NoMeeting")), V.bl (decide (exn k = "NoLetter")), V.bl (decide (exn k = "NoWalker")), V.bl (decide (exn k = "NotThere")), V.bl (decide (exn k = "HasIt"))]) q3
    have y3 : ∀ G : Hp, upd G p3 (.lst [V.bl (decide (exn k = "NoDeed")), V.bl (decide (exn k = "NoMeeting")), V.bl (decide (exn k = "NoLetter")), V.bl (decide (exn k = "NoWalker")), V.bl (decide (exn k = "NotThere")), V.bl (decide (exn k = "HasIt"))]) p3 = some (.lst [V.bl (decide (exn k = "NoDeed")), V.bl (decide (exn k = "NoMeeting")), V.bl (decide (exn k = "NoLetter")), V.bl (decide (exn k = "NoWalker")), V.bl (decide (exn k = "NotThere")), V.bl (decide (exn k = "HasIt"))]) := fun G => upd_same
    refine ⟨_, rfl, _, rfl, a, _, _, _, _, rfl, x3, X1.C, .own _, X1.r "NoPass" (List.mem_of_getElem? (i := 6) rfl), _, rfl, a, _, _, _, _, rfl, x3, X1.C, .own _, X1.r "NoRoom" (List.mem_of_getElem? (i := 7) rfl), (by show 2 ≤ sizeLine; decide), fun t4 r4 => ?_⟩
    refine ⟨p3, t4, _, _, rfl, rfl, upd_new (y3 _) r4, upd_same, (by show 8 ≤ sizeLine; decide), fun p4 q4 => ?_⟩
    have x4 := upd_new (o := .lst [V.bl (decide (exn k = "NoDeed")), V.bl (decide (exn k = "NoMeeting")), V.bl (decide (exn k = "NoLetter")), V.bl (decide (exn k = "NoWalker")), V.bl (decide (exn k = "NotThere")), V.bl (decide (exn k = "HasIt")), V.bl (decide (exn k = "NoPass")), V.bl (decide (exn k = "NoRoom"))]) (upd_new (o := .lst [V.bl (decide (exn k = "NoPass")), V.bl (decide (exn k = "NoRoom"))]) x3 r4) q4
    have k4 := (k3.nw (o := .lst [V.bl (decide (exn k = "NoPass")), V.bl (decide (exn k = "NoRoom"))]) r4).nw (o := .lst [V.bl (decide (exn k = "NoDeed")), V.bl (decide (exn k = "NoMeeting")), V.bl (decide (exn k = "NoLetter")), V.bl (decide (exn k = "NoWalker")), V.bl (decide (exn k = "NotThere")), V.bl (decide (exn k = "HasIt")), V.bl (decide (exn k = "NoPass")), V.bl (decide (exn k = "NoRoom"))]) q4
    have y4 : ∀ G : Hp, upd G p4 (.lst [V.bl (decide (exn k = "NoDeed")), V.bl (decide (exn k = "NoMeeting")), V.bl (decide (exn k = "NoLetter")), V.bl (decide (exn k = "NoWalker")), V.bl (decide (exn k = "NotThere")), V.bl (decide (exn k = "HasIt")), V.bl (decide (exn k = "NoPass")), V.bl (decide (exn k = "NoRoom"))]) p4 = some (.lst ((bsK k).map V.bl)) := fun G => upd_same
    refine ⟨_, rfl, (by show 9 ≤ sizeLine; decide), fun t9 r9 => ⟨a, _, t9, _, others.map (fun y => Value.ref (He.ga K y)), false, rfl, upd_new x4 r9, X1.C, upd_same, oPaired, oAny fun y m => X1.o y m, ?_⟩⟩
    refine ⟨_, rfl, _, rfl, iteF ⟨_, rfl, a, _, _, _, true, rfl, upd_new x4 r9, X1.C, .ty _, X1.v, _, rfl, iteF ?_⟩⟩
    have y9 := upd_new (o := .tup (others.map fun y => V.ref (He.ga K y))) (y4 _) r9
    refine ⟨_, rfl, .inl ⟨rfl, _, .inl (.inl y9)⟩, p4, bsK k, true, rfl, rfl, SqL.of y9, rfl, _, rfl, ifF (by rw [hc]; rfl) ?_⟩
    refine ⟨_, rfl, .inl ⟨rfl, _, .inl (.inl y9)⟩, p4, (bsK k).map V.bl, .bl true, j, .bl true, rfl, rfl, SqL.of y9, rfl, ?_, by rw [List.getElem?_map, hj1] <;> rfl, rfl, fun m z hm' hz => ?_, ?_⟩
    · rw [List.all_eq_true]
      intro v hv
      obtain ⟨b, _, rfl⟩ := List.mem_map.mp hv
      rfl
    · rw [List.getElem?_map] at hz
      cases hb : (bsK k)[m]? with
      | none =>
        rw [hb] at hz
        cases hz
      | some b =>
        rw [hb] at hz
        obtain rfl := Option.some.inj hz
        rw [hj2 m b hm' hb]
        rfl
    · have q := kk (by rw [ek]; exact hne) _ (k4.nw (o := .tup (others.map fun y => V.ref (He.ga K y))) r9)
      rw [show due B ls S D = ((j : Nat) : Int) from ek.trans hj] at q
      exact q
end
end K46
set_option Elab.async false
set_option linter.all false
set_option maxRecDepth 100000
set_option maxHeartbeats 4000000
namespace K46
open PySem L2
theorem sd_h {M : LaL} : valV (sdV M) (.inr "holders") = some (.ref M.hl) := rfl
theorem sd_c {M : LaL} : valV (sdV M) (.inr "come") = some (.ref M.cl) := rfl
theorem sd_p {M : LaL} : valV (sdV M) (.inr "passes") = some (.ref M.pl) := rfl
theorem sd_d {M : LaL} : valV (sdV M) (.inr "done") = some (.ref M.dl) := rfl
theorem LawAt.gh {H : Hp} {M : LaL} {S : Sy} (t : LawAt H M S) : DGet H M.sd (.str "holders") (some (.ref M.hl)) := sd_h (M := M) ▸ DGet.k (k := .inr "holders") t.sd
theorem LawAt.gc {H : Hp} {M : LaL} {S : Sy} (t : LawAt H M S) : DGet H M.sd (.str "come") (some (.ref M.cl)) := sd_c (M := M) ▸ DGet.k (k := .inr "come") t.sd
theorem LawAt.gp {H : Hp} {M : LaL} {S : Sy} (t : LawAt H M S) : DGet H M.sd (.str "passes") (some (.ref M.pl)) := sd_p (M := M) ▸ DGet.k (k := .inr "passes") t.sd
theorem LawAt.gd {H : Hp} {M : LaL} {S : Sy} (t : LawAt H M S) : DGet H M.sd (.str "done") (some (.ref M.dl)) := sd_d (M := M) ▸ DGet.k (k := .inr "done") t.sd
theorem max_la {B : Bk} {ls : List Lt} {S : Sy} (G : Good B ls S) {m : Int} (h1 : m ∈ S.ps ++ [0]) (h2 : ∀ y, y ∈ S.ps ++ [0] → y ≤ m) : m = S.la := by
  have a : S.la ≤ m := by
    rcases G.l1 with z | z
    · rw [z]
      exact h2 0 (List.mem_append_right _ (List.mem_singleton.mpr rfl))
    · exact h2 _ (List.mem_append_left _ z)
  have b : m ≤ S.la := by
    rcases List.mem_append.mp h1 with z | z
    · exact G.l2 m z
    · rw [List.mem_singleton.mp z]
      exact G.l0
  omega
section
variable {P : Program} {w : World} {K : PySem.W.Frag} {mg : Str → Option Value} {base : Heap}
def spDue : Sp := fun vs H Q _ => ∃ (b lp d : Addr) (M : LaL) (B : Bk) (ls : List Lt) (S : Sy) (D : Dd), vs = [.ref b, .ref lp, .ref M.sd, .ref d] ∧ BookAt H b B ∧ LtsAt H lp ls ∧ LawAt H M S ∧ Good B ls S ∧ S.ps.length ≤ 100 ∧ DeedAt H d D ∧ ∀ H', Kp [] H H' → Q (.int (due B ls S D)) H'
abbrev duN : List Str := ["_law_book_here", "_law_letters_here", "_law_state_here", "_law_deed", "_law_number", "_law_walker", "_law_holders", "_law_one", "_law_other", "_law_when", "_law_passed", "_law_taker", "_law_free", "_law_held"]
theorem scDue : FnScope duN ["_law_book_here", "_law_letters_here", "_law_state_here", "_law_deed"] (defScope sLawDueHere) := ⟨rfl, rfl, rfl, by decide +kernel, rfl, by decide +kernel, by decide +kernel⟩
theorem ok_due (T : Txt K mg) : OkF P w K mg base CX0 2 "_law_due_here" ["_law_book_here", "_law_letters_here", "_law_state_here", "_law_deed"] spDue := by
  have GB := ok_lbag (P := P) (w := w) (base := base) T
  refine mkF (st := sLawDueHere) T (List.mem_of_getElem? (i := 26) rfl) (fun _ _ _ _ _ _ us hl => match us, hl with | [_, _, _, _], _ => rfl) fun fd F => ?_
  refine F.ok scDue (fun vs H Q E h => ?_) (fun cdv A outer s H vs Q E hr h => ?_)
  · obtain ⟨b, lp, d, M, B, ls, S, D, rfl, _⟩ := h
    rfl
  · obtain ⟨b, lp, d, M, B, ls, S, D, rfl, hb, hl, LA, G, hps, hD, k⟩ := h
    have hu := hu_of hr
    refine ⟨_, (pss_cons (ps_asg (pe_slice sl_tup (pv 3) (po_some (pe_un un_neg pe_int)) po_none) (pg_tup (by rfl) (pgs_cons (pg_name (i := 4) scDue.nd rfl (.inl rfl)) (pgs_cons (pg_name (i := 5) scDue.nd rfl (.inl rfl)) pgs_nil))))
      (pss_cons (ps_if (pt_cmpR op_ne (pe_ix ix_tup (pv 3) pe_int (fun _ _ => rfl)) pe_str (nomark _))
          (pss_one (ps_if (PW.pt (pw_or (pt_not (pt_chain op_le op_lt pe_int (pe_ix ix_tup (pv 3) pe_int (fun _ _ => rfl)) (pe_callB call_len_seq (by rfl) T.tLen PySem.boot_len (pa_cons (pe_ix ix_tup (pv 0) pe_int (fun _ _ => rfl)) pa_nil))))
              (pw_or1 (pt_cmpR op_lt (pe_ix ix_tup (pv 3) pe_int (fun _ _ => rfl)) (pe_callB (cr_max rfl) (by rfl) T.tMax (by decide +kernel) (pa_cons (pe_op op_cat (pe_dget hu (pv 2) pe_str (fun _ _ => rfl)) (pe_lst (pa_cons pe_int pa_nil))) pa_nil)) (nomark _)))))
              (pss_one (ps_ret pe_int)) pss_nil)) pss_nil)
      (pss_cons (ps_if (pt_not (pt_chain op_le op_lt pe_int (pv 4) (pe_callB call_len_seq (by rfl) T.tLen PySem.boot_len (pa_cons (pv 1) pa_nil)))) (pss_one (ps_ret pe_int)) pss_nil)
      (pss_cons (ps_set (i := 6) scDue.nd rfl (.inl rfl) (pe_ix ix_list (pe_dget hu (pv 2) pe_str (fun _ _ => rfl)) (pv 4) (fun _ _ => rfl)))
      (pss_cons (ps_if (pt_cmpR op_eq (pe_ix ix_tup (pv 3) pe_int (fun _ _ => rfl)) pe_str (nomark _))
          (pss_cons (ps_if (pt_not (pt_chain op_le op_lt pe_int (pv 5) (pe_callB call_len_seq (by rfl) T.tLen PySem.boot_len (pa_cons (pe_ix ix_tup (pv 0) pe_int (fun _ _ => rfl)) pa_nil)))) (pss_one (ps_ret pe_int)) pss_nil)
      (pss_one (ps_ret (pe_ix ix_list (pe_lst (pa_cons pe_int (pa_cons pe_int pa_nil))) (pe_callTy call_int1 (by rfl) T.tInt (by decide +kernel) (pa_cons (pe_cmp (pc_din hu (pv 5) (pv 6))) pa_nil)) (fun _ _ => rfl))))) pss_nil)
      (pss_cons (ps_asg (pe_ix ix_tup (pe_ix ix_tup (pv 0) pe_int (fun _ _ => rfl)) (pe_ix ix_tup (pv 3) pe_int (fun _ _ => rfl)) (fun _ _ => rfl)) (pg_tup (by rfl) (pgs_cons (pg_name (i := 7) scDue.nd rfl (.inl rfl)) (pgs_cons (pg_name (i := 8) scDue.nd rfl (.inl rfl)) (pgs_cons (pg_name (i := 9) scDue.nd rfl (.inl rfl)) (pgs_cons (pg_name (i := 10) scDue.nd rfl (.inl rfl)) pgs_nil))))))
      (pss_cons (ps_if (PW.pt (pw_and (pt_cmpR op_ne (pv 5) (pv 7) (nomark _)) (pw_and1 (pt_cmpR op_ne (pv 5) (pv 8) (nomark _))))) (pss_one (ps_ret pe_int)) pss_nil)
      (pss_cons (ps_if (PW.pt (pw_or (pt_cmp (pc_dnotin hu (pv 5) (pv 6))) (pw_or1 (pt_cmpR op_ge (pe_dget hu (pv 6) (pv 5) (fun _ _ => rfl)) (pv 9) (nomark _))))) (pss_one (ps_ret pe_int)) pss_nil)
      (pss_cons (ps_set (i := 11) scDue.nd rfl (.inl rfl) (pe_op op_sub (pe_op op_add (pv 7) (pv 8)) (pv 5)))
      (pss_cons (ps_if (pt_cmp (pc_din hu (pv 11) (pv 6))) (pss_one (ps_ret pe_int)) pss_nil)
      (pss_cons (ps_if (pt_cmpR op_ge (pe_bm PySem.F.plainAttrs_list PySem.F.slot_list_count PySem.F.type_list_count mt_lcount (pe_dget hu (pv 2) pe_str (fun _ _ => rfl)) (pa_cons (pe_ix ix_tup (pv 3) pe_int (fun _ _ => rfl)) pa_nil)) (pv 10) (nomark _)) (pss_one (ps_ret pe_int)) pss_nil)
      (pss_cons (ps_set (i := 12) scDue.nd rfl (.inl rfl) (pe_cmpR op_in_seq (pv 11) (pe_tup (pa_cons (pe_ix ix_tup (pe_ix ix_list (pv 1) (pv 4) (fun _ _ => rfl)) pe_int (fun _ _ => rfl)) (pa_cons (pe_ix ix_tup (pe_ix ix_list (pv 1) (pv 4) (fun _ _ => rfl)) pe_int (fun _ _ => rfl)) pa_nil))) (by rfl)))
      (pss_cons (ps_set (i := 13) scDue.nd rfl (.inl rfl) (pe_callB call_len_seq (by rfl) T.tLen PySem.boot_len (pa_cons (pe_cf GB hr pass0 (pa_cons (pv 1) (pa_cons (pe_dget hu (pv 2) pe_str (fun _ _ => rfl)) (pa_cons (pv 11) pa_nil)))) pa_nil)))
      (pss_one (ps_ret (pe_ix ix_list (pe_lst (pa_cons pe_int (pa_cons pe_int pa_nil))) (pe_callTy call_int1 (by rfl) T.tInt (by decide +kernel) (pa_cons (pe_and (pe_not (pv 12)) (pe_one (pe_cmpR op_ge (pv 13) (pe_ix ix_tup (pe_ix ix_tup (pv 0) pe_int (fun _ _ => rfl)) (pv 11) (fun _ _ => rfl)) (nomark _)))) pa_nil)) (fun _ _ => rfl))))))))))))))))), ?_⟩
    obtain ⟨vl, hlv, pl⟩ := hl
    obtain ⟨rb, mb, vm, b1, b2, b3, b4⟩ := hb
    have ll : vl.length = ls.length := plen pl
    have lm : vm.length = B.ms.length := plen b4
    have inr : ∀ (n : Int) (c : Nat), inR n c = true → decide (0 ≤ n) = true ∧ decide (n < (c : Int)) = true := fun n c h => by
      have q : 0 ≤ n ∧ n < (c : Int) := of_decide_eq_true h
      exact ⟨decide_eq_true q.1, decide_eq_true q.2⟩
    cases D with
    | drop n x =>
      refine ⟨_, rfl, 2, rfl, -2, rfl, d, _, rfl, SqT.of hD, (by show ¬ (HT.sIx 3 0 (some (-2)) = 0 ∧ HT.sIx 3 3 none = 3); decide), fun t ht => ?_⟩
      have k1 : Kp [] H (upd H t (.tup [.int n, .int x])) := Kp.refl.nw ht
      have L1 := LA.kp0 k1
      have D1 := k1.tup hD
      refine ⟨t, [.int n, .int x], rfl, SqT.of upd_same, rfl, _, _, rfl, _, _, rfl, rfl, ?_⟩
      refine ⟨_, rfl, d, _, 0, _, rfl, rfl, SqT.of D1, rfl, rfl, _, rfl, ifF (by decide +kernel) ?_⟩
      refine ⟨_, rfl, 0, n, rfl, rfl, _, rfl, ?_⟩
      cases hn : inR n ls.length with
      | false =>
        have q := k _ k1
        rw [due_d, if_pos hn] at q
        refine ite2 (fun c => ⟨_, rfl, lp, vl, rfl, .inl (SqL.of (k1.at0 hlv)), n, _, rfl, rfl, _, rfl, ifT ?_ q⟩) (fun c => ⟨_, rfl, iteT q⟩)
        have c1 : 0 ≤ n := of_decide_eq_true c
        rw [ll]
        rw [Bool.not_eq_true']
        exact decide_eq_false fun z => by
          rw [inR, decide_eq_true (show 0 ≤ n ∧ n < (ls.length : Int) from ⟨c1, z⟩)] at hn
          cases hn
      | true =>
        obtain ⟨i1, i2⟩ := inr _ _ hn
        refine ifT i1 ⟨_, rfl, lp, vl, rfl, .inl (SqL.of (k1.at0 hlv)), n, _, rfl, rfl, _, rfl, ifF (by rw [ll, i2]; rfl) ?_⟩
        obtain ⟨ni, rfl, hni⟩ := inR_nat hn
        obtain ⟨dd, hd⟩ := get_of_lt (l := S.hs) (i := ni) (by rw [G.lh]; exact hni)
        obtain ⟨a, ha, hda⟩ := pget L1.hs.2 hd
        have hai : (M.hs.map V.ref)[ni]? = some (.ref a) := by rw [List.getElem?_map, ha] <;> rfl
        have du := due_drop (B := B) (w := x) hni hd
        refine ⟨_, rfl, M.sd, _, rfl, L1.gh, _, rfl, M.hl, _, _, _, rfl, rfl, SqL.of L1.hs.1, atI_nat hai, ?_⟩
        refine ⟨_, rfl, d, _, 0, _, rfl, rfl, SqT.of D1, rfl, rfl, _, rfl, ifT (decide_eq_true rfl) ?_⟩
        refine ⟨_, rfl, 0, x, rfl, rfl, _, rfl, ?_⟩
        cases hx : inR x B.rooms.length with
        | false =>
          rw [hx, if_pos rfl] at du
          have q := k _ k1
          rw [du] at q
          refine ite2 (fun c => ⟨_, rfl, b, _, 0, _, rfl, rfl, SqT.of (k1.tup b1), rfl, rb, _, rfl, .inr (SqT.of (k1.tup b2)), x, _, rfl, rfl, _, rfl, ifT ?_ q⟩) (fun c => ⟨_, rfl, iteT q⟩)
          have c1 : 0 ≤ x := of_decide_eq_true c
          rw [List.length_map]
          rw [Bool.not_eq_true']
          exact decide_eq_false fun z => by
            rw [inR, decide_eq_true (show 0 ≤ x ∧ x < (B.rooms.length : Int) from ⟨c1, z⟩)] at hx
            cases hx
        | true =>
          obtain ⟨j1, j2⟩ := inr _ _ hx
          rw [hx, if_neg (by decide)] at du
          refine ifT j1 ⟨_, rfl, b, _, 0, _, rfl, rfl, SqT.of (k1.tup b1), rfl, rb, _, rfl, .inr (SqT.of (k1.tup b2)), x, _, rfl, rfl, _, rfl, ifF (by rw [List.length_map, j2]; rfl) ?_⟩
          refine ⟨(by show 2 ≤ sizeLine; decide), fun t2 ht2 => ?_⟩
          have k2 := k1.nw (o := .lst [V.int 4, V.int 8]) ht2
          refine ⟨_, rfl, _, rfl, a, _, rfl, DGet.k (k := Sum.inl x) (upd_new hda ht2), .inr ⟨_, rfl, ?_⟩⟩
          have q := k _ k2
          rw [du] at q
          cases hh : has dd x with
          | true =>
            rw [hh, if_pos rfl] at q
            exact ⟨t2, _, 1, _, rfl, (by rw [show (valV dd (Sum.inl x)).isSome = true from hh] <;> rfl), SqL.of upd_same, rfl, q⟩
          | false =>
            rw [hh, if_neg (by decide)] at q
            exact ⟨t2, _, 0, _, rfl, (by rw [show (valV dd (Sum.inl x)).isSome = false from hh] <;> rfl), SqL.of upd_same, rfl, q⟩
    | pass g m n x =>
      refine ⟨_, rfl, 2, rfl, -2, rfl, d, _, rfl, SqT.of hD, (by show ¬ (HT.sIx 4 0 (some (-2)) = 0 ∧ HT.sIx 4 4 none = 4); decide), fun t ht => ?_⟩
      have k1 : Kp [] H (upd H t (.tup [.int n, .int x])) := Kp.refl.nw ht
      have L1 := LA.kp0 k1
      have D1 := k1.tup hD
      refine ⟨t, [.int n, .int x], rfl, SqT.of upd_same, rfl, _, _, rfl, _, _, rfl, rfl, ?_⟩
      refine ⟨_, rfl, d, _, 0, _, rfl, rfl, SqT.of D1, rfl, rfl, _, rfl, ifT (by cases g <;> decide +kernel) ?_⟩
      refine ⟨_, rfl, d, _, 1, _, rfl, rfl, SqT.of D1, rfl, 0, m, rfl, rfl, _, rfl, ?_⟩
      cases hm : inR m B.ms.length with
      | false =>
        have q := k _ k1
        rw [due_p, if_pos (.inl hm)] at q
        refine ite2 (fun c => ⟨_, rfl, b, _, 1, _, rfl, rfl, SqT.of (k1.tup b1), rfl, mb, vm, rfl, .inr (SqT.of (k1.tup b3)), m, _, rfl, rfl, _, rfl, ifT ?_ (iteT q)⟩) (fun c => ⟨_, rfl, iteT (iteT q)⟩)
        have c1 : 0 ≤ m := of_decide_eq_true c
        rw [lm]
        rw [Bool.not_eq_true']
        exact decide_eq_false fun z => by
          rw [inR, decide_eq_true (show 0 ≤ m ∧ m < (B.ms.length : Int) from ⟨c1, z⟩)] at hm
          cases hm
      | true =>
      obtain ⟨i1, i2⟩ := inr _ _ hm
      refine ifT i1 ⟨_, rfl, b, _, 1, _, rfl, rfl, SqT.of (k1.tup b1), rfl, mb, vm, rfl, .inr (SqT.of (k1.tup b3)), m, _, rfl, rfl, _, rfl, ifF (by rw [lm, i2]; rfl) ?_⟩
      refine ⟨_, rfl, d, _, 1, _, rfl, rfl, SqT.of D1, rfl, _, rfl, M.sd, _, rfl, L1.gp, (by show 1 ≤ sizeLine; decide), fun t2 ht2 => ⟨M.pl, t2, _, _, rfl, rfl, upd_new L1.pl ht2, upd_same, ?_, fun p hp => ?_⟩⟩
      · rw [List.length_map]
        exact Nat.le_of_lt (line_of (by show S.ps.length + 1 ≤ 100000; omega))
      have k2 := (k1.nw (o := .lst [V.int 0]) ht2).nw (o := .lst (S.ps.map V.int ++ [V.int 0])) hp
      have L2 := LA.kp0 k2
      have D2 := k2.tup hD
      have hmp : upd (upd (upd H t (.tup [.int n, .int x])) t2 (.lst [V.int 0])) p (.lst (S.ps.map V.int ++ [V.int 0])) p = some (.lst ((S.ps ++ [0]).map V.int)) := by
        rw [upd_same, List.map_append] <;> rfl
      refine ⟨p, S.ps ++ [0], rfl, SqL.of hmp, by rw [List.length_append]; exact Nat.succ_pos _, fun mx h1 h2 => ?_⟩
      obtain rfl := max_la G h1 h2
      refine ⟨m, S.la, rfl, rfl, _, rfl, ite2 (fun c => ?_) (fun c => ?_)⟩
      · have q := k _ k2
        rw [due_p, if_pos (.inr (of_decide_eq_true c))] at q
        exact q
      have hla : ¬ m < S.la := fun z => c (decide_eq_true z)
      have h1 : ¬ (inR m B.ms.length = false ∨ m < S.la) := fun z => z.elim (fun e => by rw [hm] at e; cases e) hla
      refine ⟨_, rfl, 0, n, rfl, rfl, _, rfl, ?_⟩
      cases hn : inR n ls.length with
      | false =>
        have q := k _ k2
        rw [due_p, if_neg h1, if_pos hn] at q
        refine ite2 (fun c => ⟨_, rfl, lp, vl, rfl, .inl (SqL.of (k2.at0 hlv)), n, _, rfl, rfl, _, rfl, ifT ?_ q⟩) (fun c => ⟨_, rfl, iteT q⟩)
        have c1 : 0 ≤ n := of_decide_eq_true c
        rw [ll]
        rw [Bool.not_eq_true']
        exact decide_eq_false fun z => by
          rw [inR, decide_eq_true (show 0 ≤ n ∧ n < (ls.length : Int) from ⟨c1, z⟩)] at hn
          cases hn
      | true =>
      obtain ⟨j1, j2⟩ := inr _ _ hn
      refine ifT j1 ⟨_, rfl, lp, vl, rfl, .inl (SqL.of (k2.at0 hlv)), n, _, rfl, rfl, _, rfl, ifF (by rw [ll, j2]; rfl) ?_⟩
      obtain ⟨mi, rfl, hmi⟩ := inR_nat hm
      obtain ⟨ni, rfl, hni⟩ := inR_nat hn
      obtain ⟨mt, hmt⟩ := get_of_lt hmi
      obtain ⟨l, hl⟩ := get_of_lt hni
      obtain ⟨dd, hd⟩ := get_of_lt (l := S.hs) (i := ni) (by rw [G.lh]; exact hni)
      obtain ⟨a, ha, hda⟩ := pget L2.hs.2 hd
      have hai : (M.hs.map V.ref)[ni]? = some (.ref a) := by rw [List.getElem?_map, ha] <;> rfl
      have hla : S.la ≤ (mi : Int) := by omega
      have hdue : due B ls S (.pass g mi ni x) = dueP B ls S mt l dd mi x := due_pass hmt hla hl hd
      obtain ⟨_, m1, am, rfl, m2⟩ := pget b4 hmt
      refine ⟨_, rfl, M.sd, _, rfl, L2.gh, _, rfl, M.hl, _, _, _, rfl, rfl, SqL.of L2.hs.1, atI_nat hai, ?_⟩
      refine ⟨_, rfl, d, _, 0, _, rfl, rfl, SqT.of D2, rfl, rfl, _, rfl, ifF (by cases g <;> decide +kernel) ?_⟩
      refine ⟨_, rfl, b, _, 1, _, rfl, rfl, SqT.of (k2.tup b1), rfl, _, rfl, d, _, 1, _, rfl, rfl, SqT.of D2, rfl, mb, _, _, _, rfl, rfl, SqT.of (k2.tup b3), atI_nat m1, am, mtV mt, rfl, SqT.of (k2.tup m2), rfl, _, _, rfl, _, _, rfl, _, _, rfl, _, _, rfl, rfl, ?_⟩
      refine (fun (r : (x = mt.a ∨ x = mt.b) → _) => ⟨_, rfl, _, rfl, rfl, _, rfl, ite2 (fun c1 => ⟨_, rfl, _, rfl, rfl, _, rfl, ite2 (fun c2 => ?A) (fun c2 => r (.inr ?B))⟩) (fun c1 => iteF (r (.inl ?C)))⟩) (fun hw => ?R)
      case A =>
        have q := k _ k2
        rw [hdue, dueP_out ⟨fun z => by rw [z] at c1; simp at c1, fun z => by rw [z] at c2; simp at c2⟩] at q
        exact q
      case B => simpa using c2
      case C => simpa using c1
      refine ⟨_, rfl, _, rfl, a, _, rfl, DGet.k (k := Sum.inl x) hda, _, rfl, ?_⟩
      rcases has_snc (G.ih dd (List.mem_of_getElem? hd)) x with ⟨g1, t0, g2, g3⟩ | ⟨g1, g2, g3⟩
      rotate_left
      · rw [g3]
        have q := k _ k2
        rw [hdue, dueP_no hw g2] at q
        exact iteT (iteT q)
      rw [g3]
      have hin := hdue.trans (dueP_in (B := B) (ls := ls) (S := S) (l := l) (m := mi) hw g2)
      have q := k _ k2
      rw [hin] at q
      refine iteF ⟨_, rfl, _, rfl, a, _, rfl, g3 ▸ DGet.k (k := Sum.inl x) hda, _, rfl, t0, mt.w, rfl, rfl, _, rfl, ite2 (fun c => by rw [if_pos (of_decide_eq_true c)] at q; exact q) (fun c => ?_)⟩
      have c4 : ¬ mt.w ≤ t0 := fun z => c (decide_eq_true z)
      rw [if_neg c4] at q hin
      obtain ⟨u0, r, hr0⟩ := taker_room G.b (List.mem_of_getElem? hmt) hw
      refine ⟨_, rfl, _, rfl, mt.a, mt.b, rfl, rfl, _, rfl, _, x, rfl, rfl, ?_⟩
      refine ⟨_, rfl, _, rfl, a, _, rfl, DGet.k (k := Sum.inl (mt.a + mt.b - x)) hda, _, rfl, ite2 (fun c => ?_) (fun c => ?_)⟩
      · rw [if_pos (show has dd (mt.a + mt.b - x) = true from c)] at q
        exact q
      have c5 : ¬ has dd (mt.a + mt.b - x) = true := c
      rw [if_neg c5] at q hin
      refine ⟨_, rfl, M.sd, _, rfl, L2.gp, .inl ⟨rfl, _, .inl (.inl L2.pl)⟩, _, rfl, d, _, 1, _, rfl, rfl, SqT.of D2, rfl, M.pl, S.ps, mi, rfl, rfl, SqL.of L2.pl, _, rfl, _, mt.m, rfl, rfl, _, rfl, ite2 (fun c => ?_) (fun c => ?_)⟩
      · rw [if_pos (of_decide_eq_true c)] at q
        exact q
      rw [if_neg fun z => c (decide_eq_true z), hr0] at hin
      obtain ⟨_, l1, al, rfl, l2⟩ := pget pl hl
      refine ⟨_, rfl, _, rfl, _, rfl, lp, _, _, _, rfl, rfl, SqL.of (k2.at0 hlv), atI_nat l1, al, ltV l, 0, _, rfl, rfl, SqT.of (k2.tup l2), rfl, _, rfl, _, rfl, lp, _, _, _, rfl, rfl, SqL.of (k2.at0 hlv), atI_nat l1, al, ltV l, 2, _, rfl, rfl, SqT.of (k2.tup l2), rfl, (by show 2 ≤ sizeLine; decide), fun t4 ht4 => ?_⟩
      have k4 := k2.nw (o := .tup [V.int l.fr, V.int l.wi]) ht4
      have L4 := LA.kp0 k4
      refine ⟨t4, _, rfl, .inr (SqT.of upd_same), rfl, rfl, ?_⟩
      refine ⟨_, rfl, _, rfl, M.sd, _, rfl, L4.gh, _, rfl, lp, M.hl, ls, S.hs, M.hs, mt.a + mt.b - x, rfl, ⟨vl, k4.at0 hlv, pimp pl fun _ _ _ => LtAt.kp k4⟩, L4.hs, G.lh, G.l40, fun H5 p5 K5 n5 h5 => ⟨p5, _, rfl, .inl (SqL.of h5), ?_⟩⟩
      have k5 := k4.trans K5
      refine ⟨(by show 2 ≤ sizeLine; decide), fun t6 ht6 => ?_⟩
      have k6 := k5.nw (o := .lst [V.int 8, V.int 7]) ht6
      have q6 := k _ k6
      rw [hin] at q6
      have ef : inV (V.int (mt.a + mt.b - x)) [V.int l.fr, V.int l.wi] = free l (mt.a + mt.b - x) := by
        unfold free
        show ((l.fr == mt.a + mt.b - x) || ((l.wi == mt.a + mt.b - x) || false)) = _
        rw [Bool.or_false, BEq.comm (a := l.fr), BEq.comm (a := l.wi)]
        rfl
      refine ⟨_, rfl, free l (mt.a + mt.b - x), congrArg V.bl ef, ?_⟩
      cases hf : free l (mt.a + mt.b - x) with
      | true =>
        rw [hf, if_neg (fun z => Bool.noConfusion z.1)] at q6
        exact ⟨_, rfl, iteF (.inr ⟨_, rfl, t6, _, 0, _, rfl, rfl, SqL.of upd_same, rfl, q6⟩)⟩
      | false =>
        rw [hf] at q6
        have bl : (bagV ls S.hs (mt.a + mt.b - x)).length = (bagN ls S.hs (mt.a + mt.b - x)).length := List.length_map _
        have hat : atI (B.rooms.map V.int) (mt.a + mt.b - x) = some (.int r) := at_of (by omega) (show (B.rooms.map V.int)[(mt.a + mt.b - x).toNat]? = some (.int r) by rw [List.getElem?_map, hr0] <;> rfl)
        refine ⟨_, rfl, iteT ⟨_, rfl, _, rfl, b, _, 0, _, rfl, rfl, SqT.of (k6.tup b1), rfl, _, rfl, rb, _, _, _, rfl, rfl, SqT.of (k6.tup b2), hat, _, r, rfl, rfl, .inr ⟨_, rfl, ?_⟩⟩⟩
        rw [bl]
        by_cases c8 : r ≤ ((bagN ls S.hs (mt.a + mt.b - x)).length : Int)
        · rw [if_pos ⟨rfl, c8⟩] at q6
          exact ⟨t6, _, 1, _, rfl, (by rw [decide_eq_true c8] <;> rfl), SqL.of upd_same, rfl, q6⟩
        · rw [if_neg fun z => c8 z.2] at q6
          exact ⟨t6, _, 0, _, rfl, (by rw [decide_eq_false c8] <;> rfl), SqL.of upd_same, rfl, q6⟩
end
end K46
set_option Elab.async false
set_option linter.all false
set_option maxRecDepth 100000
set_option maxHeartbeats 4000000
namespace K46
open PySem L2
section
variable {H H' : Hp} {M : LaL} {S : Sy}
theorem LawAt.apart (t : LawAt H M S) : M.sd ∉ M.hs ∧ M.hl ∉ M.hs ∧ M.cl ∉ M.hs ∧ M.pl ∉ M.hs ∧ M.dl ∉ M.hs ∧ M.hs.Nodup ∧ M.sd ≠ M.hl ∧ M.sd ≠ M.cl ∧ M.sd ≠ M.pl ∧ M.sd ≠ M.dl ∧ M.hl ≠ M.cl ∧ M.hl ≠ M.pl ∧ M.hl ≠ M.dl ∧ M.cl ≠ M.pl ∧ M.cl ≠ M.dl ∧ M.pl ≠ M.dl := by
  have nd := t.nd
  unfold LaL.all at nd
  simp only [List.nodup_cons, List.mem_cons, not_or] at nd
  obtain ⟨⟨a1, a2, a3, a4, a5⟩, ⟨b1, b2, b3, b4⟩, ⟨c1, c2, c3⟩, ⟨d1, d2⟩, e1, f1⟩ := nd
  exact ⟨a5, b4, c3, d2, e1, f1, a1, a2, a3, a4, b1, b2, b3, c1, c2, d1⟩
theorem LawAt.setD (t : LawAt H M S) {ds' : List Addr} (k : Kp [M.dl] H H') (h' : H' M.dl = some (.lst (ds'.map V.ref))) : LawAt H' M { S with ds := ds' } := by
  obtain ⟨n1, n2, n3, n4, n5, nd, q1, q2, q3, q4, q5, q6, q7, q8, q9, q10⟩ := t.apart
  have ne : ∀ b, b ≠ M.dl → b ∉ [M.dl] := fun b hb m => hb (List.mem_singleton.mp m)
  exact ⟨k.at t.sd (ne _ q4), ⟨k.at t.hs.1 (ne _ q7), pimp t.hs.2 fun b e m q => k.at q (ne _ fun z => n5 (z ▸ m))⟩, k.at t.cl (ne _ q9), k.at t.pl (ne _ q10), h', t.nd⟩
theorem LawAt.setP (t : LawAt H M S) {ps' : List Int} (k : Kp [M.pl] H H') (h' : H' M.pl = some (.lst (ps'.map V.int))) : LawAt H' M { S with ps := ps' } := by
  obtain ⟨n1, n2, n3, n4, n5, nd, q1, q2, q3, q4, q5, q6, q7, q8, q9, q10⟩ := t.apart
  have ne : ∀ b, b ≠ M.pl → b ∉ [M.pl] := fun b hb m => hb (List.mem_singleton.mp m)
  exact ⟨k.at t.sd (ne _ q3), ⟨k.at t.hs.1 (ne _ q6), pimp t.hs.2 fun b e m q => k.at q (ne _ fun z => n4 (z ▸ m))⟩, k.at t.cl (ne _ q8), h', k.at t.dl (ne _ q10.symm), t.nd⟩
theorem LawAt.setC (t : LawAt H M S) {ar' : List V} (k : Kp [M.cl] H H') (h' : H' M.cl = some (.lst ar')) : LawAt H' M { S with ar := ar' } := by
  obtain ⟨n1, n2, n3, n4, n5, nd, q1, q2, q3, q4, q5, q6, q7, q8, q9, q10⟩ := t.apart
  have ne : ∀ b, b ≠ M.cl → b ∉ [M.cl] := fun b hb m => hb (List.mem_singleton.mp m)
  exact ⟨k.at t.sd (ne _ q2), ⟨k.at t.hs.1 (ne _ q5), pimp t.hs.2 fun b e m q => k.at q (ne _ fun z => n3 (z ▸ m))⟩, h', k.at t.pl (ne _ q8.symm), k.at t.dl (ne _ q9.symm), t.nd⟩
theorem LawAt.setHs (t : LawAt H M S) {hs' : List D1} (k : Kp M.hs H H') (h' : HsAt H' M.hl M.hs hs') : LawAt H' M { S with hs := hs' } := by
  obtain ⟨n1, n2, n3, n4, n5, nd, _⟩ := t.apart
  exact ⟨k.at t.sd n1, h', k.at t.cl n3, k.at t.pl n4, k.at t.dl n5, t.nd⟩
theorem LaL.m_dl {M : LaL} : M.dl ∈ M.all := List.mem_cons_of_mem _ (List.mem_cons_of_mem _ (List.mem_cons_of_mem _ (List.mem_cons_of_mem _ List.mem_cons_self)))
theorem LaL.m_pl {M : LaL} : M.pl ∈ M.all := List.mem_cons_of_mem _ (List.mem_cons_of_mem _ (List.mem_cons_of_mem _ List.mem_cons_self))
theorem LaL.m_cl {M : LaL} : M.cl ∈ M.all := List.mem_cons_of_mem _ (List.mem_cons_of_mem _ List.mem_cons_self)
theorem LaL.m_hs {M : LaL} {a : Addr} (h : a ∈ M.hs) : a ∈ M.all := List.mem_cons_of_mem _ (List.mem_cons_of_mem _ (List.mem_cons_of_mem _ (List.mem_cons_of_mem _ (List.mem_cons_of_mem _ h))))
end
section
variable {P : Program} {w : World} {K : PySem.W.Frag} {mg : Str → Option Value} {base : Heap}
def spApply : Sp := fun vs H Q _ => ∃ (b lp d : Addr) (M : LaL) (B : Bk) (ls : List Lt) (S : Sy) (D : Dd), vs = [.ref b, .ref lp, .ref M.sd, .ref d] ∧ BookAt H b B ∧ LtsAt H lp ls ∧ LawAt H M S ∧ Good B ls S ∧ due B ls S D = 8 ∧ S.ds.length ≤ 100 ∧ S.ps.length ≤ 100 ∧ DeedAt H d D ∧ lp ∉ M.all ∧
  ∀ H', LawAt H' M (step B ls S d D) → Kp M.all H H' → Q .non H'
abbrev apN : List Str := ["_law_book_here", "_law_letters_here", "_law_state_here", "_law_deed", "_law_meeting", "_law_taker", "_law_sender", "_law_since", "_law_wish", "_law_last"]
theorem scApply : FnScope apN ["_law_book_here", "_law_letters_here", "_law_state_here", "_law_deed"] (defScope sLawApply) := ⟨rfl, rfl, rfl, by decide +kernel, rfl, by decide +kernel, by decide +kernel⟩
theorem ok_apply (T : Txt K mg) : OkF P w K mg base CX0 2 "_law_apply" ["_law_book_here", "_law_letters_here", "_law_state_here", "_law_deed"] spApply := by
  have GN := ok_noted (P := P) (w := w) (base := base) T
  refine mkF (st := sLawApply) T (List.mem_of_getElem? (i := 27) rfl) (fun _ _ _ _ _ _ us hl => match us, hl with | [_, _, _, _], _ => rfl) fun fd F => ?_
  refine F.ok scApply (fun vs H Q E h => ?_) (fun cdv A outer s H vs Q E hr h => ?_)
  · obtain ⟨b, lp, d, M, B, ls, S, D, rfl, _⟩ := h
    rfl
  · obtain ⟨b, lp, d, M, B, ls, S, D, rfl, hb, hl, LA, G, d8, hds, hps, hD, hlp, k⟩ := h
    have hu := hu_of hr
    refine ⟨_, (pss_cons (ps_expr (pe_bm PySem.F.plainAttrs_list PySem.F.slot_list_append PySem.F.type_list_append mt_append (pe_dget hu (pv 2) pe_str (fun _ _ => rfl)) (pa_cons (pv 3) pa_nil)))
      (C8.pss_cut (ps_if (pt_cmpR op_ne (pe_ix ix_tup (pv 3) pe_int (fun _ _ => rfl)) pe_str (nomark _))
        (pss_cons (ps_set (i := 4) scApply.nd rfl (.inl rfl) (pe_ix ix_tup (pe_ix ix_tup (pv 0) pe_int (fun _ _ => rfl)) (pe_ix ix_tup (pv 3) pe_int (fun _ _ => rfl)) (fun _ _ => rfl)))
      (pss_cons (ps_set (i := 5) scApply.nd rfl (.inl rfl) (pe_op op_sub (pe_op op_add (pe_ix ix_tup (pv 4) pe_int (fun _ _ => rfl)) (pe_ix ix_tup (pv 4) pe_int (fun _ _ => rfl))) (pe_ix ix_tup (pv 3) pe_int (fun _ _ => rfl))))
      (pss_cons (ps_asg (pe_ix ix_list (pv 1) (pe_ix ix_tup (pv 3) pe_int (fun _ _ => rfl)) (fun _ _ => rfl)) (pg_tup (by rfl) (pgs_cons (pg_name (i := 6) scApply.nd rfl (.inl rfl)) (pgs_cons (pg_name (i := 7) scApply.nd rfl (.inl rfl)) (pgs_cons (pg_name (i := 8) scApply.nd rfl (.inl rfl)) (pgs_cons (pg_name (i := 9) scApply.nd rfl (.inl rfl)) pgs_nil))))))
      (pss_cons (ps_expr (pe_bm PySem.F.plainAttrs_list PySem.F.slot_list_append PySem.F.type_list_append mt_append (pe_dget hu (pv 2) pe_str (fun _ _ => rfl)) (pa_cons (pe_ix ix_tup (pv 3) pe_int (fun _ _ => rfl)) pa_nil)))
      (pss_one (ps_if (PW.pt (pw_and (pt_cmpR op_eq (pv 5) (pv 8) (nomark _)) (pw_and1 (pt_cmpR op_le (pe_ix ix_tup (pv 4) pe_int (fun _ _ => rfl)) (pv 9) (nomark _)))))
            (pss_one (ps_if (pt_cmpR op_isN (pe_ix ix_list (pe_dget hu (pv 2) pe_str (fun _ _ => rfl)) (pe_ix ix_tup (pv 3) pe_int (fun _ _ => rfl)) (fun _ _ => rfl)) pe_non (nomark _))
                (pss_one (ps_asg (pe_ix ix_tup (pv 4) pe_int (fun _ _ => rfl)) (pg_sub (pe_dget hu (pv 2) pe_str (fun _ _ => rfl)) (pe_ix ix_tup (pv 3) pe_int (fun _ _ => rfl)) set_list))) pss_nil)) pss_nil)))))) pss_nil)
      (pss_one (ps_expr (pe_cf GN hr pass0 (pa_cons (pv 0) (pa_cons (pe_dget hu (pv 2) pe_str (fun _ _ => rfl)) (pa_cons (pv 3) pa_nil)))))))), ?_⟩
    obtain ⟨rb, mb, vm, b1, b2, b3, b4⟩ := id hb
    refine ⟨_, rfl, M.sd, _, rfl, LA.gd, .inl ⟨rfl, _, .inl (.inl LA.dl)⟩, _, rfl, M.dl, _, _, rfl, rfl, LA.dl, (by rw [List.length_map]; exact line_of (by omega)), ?_⟩
    have k1 : Kp M.all H (upd H M.dl (.lst (S.ds.map V.ref ++ [.ref d]))) := Kp.refl.wr LA.dl (fun z => z) LaL.m_dl
    have L1 : LawAt (upd H M.dl (.lst (S.ds.map V.ref ++ [.ref d]))) M { S with ds := S.ds ++ [d] } := LA.setD (Kp.refl.wr LA.dl (fun z => z) (List.mem_singleton.mpr rfl)) (by rw [upd_same, List.map_append] <;> rfl)
    have D1 := k1.tup hD
    refine ⟨fun σ' H' => (∃ v4 v5 v6 v7 v8 v9, σ' = [some (.ref b), some (.ref lp), some (.ref M.sd), some (.ref d), v4, v5, v6, v7, v8, v9]) ∧ LawAt H' M { step B ls S d D with hs := S.hs } ∧ Kp M.all H H', ?_, ?_⟩
    · cases D with
      | drop n x => exact ⟨_, rfl, d, _, 0, _, rfl, rfl, SqT.of D1, rfl, rfl, _, rfl, ifF (by decide +kernel) ⟨⟨_, _, _, _, _, _, rfl⟩, L1, k1⟩⟩
      | pass g m n x =>
        obtain ⟨mi, ni, mt, l, dd, t, rfl, rfl, hm, hla, hlt, hd, hw, ht, htw, hno, hcnt, hroom⟩ := due8 G d8
        obtain ⟨_, m1, am, rfl, m2⟩ := pget b4 hm
        obtain ⟨vl, hlv, pl⟩ := hl
        obtain ⟨_, l1, al, rfl, l2⟩ := pget pl hlt
        obtain ⟨v, hv⟩ := get_of_lt (l := S.ar) (i := ni) (by rw [G.lr]; exact lt_of_get hlt)
        have st : ({ step B ls S d (.pass g mi ni x) with hs := S.hs } : Sy) = { S with ar := arNew l S.ar ni (mt.a + mt.b - x) mt.w, ps := S.ps ++ [(mi : Int)], la := mi, ds := S.ds ++ [d] } := by
          show (⟨S.hs, arNew (ltAt ls ni) S.ar (ni : Int).toNat ((mtAt B mi).a + (mtAt B mi).b - x) (mtAt B mi).w, S.ps ++ [(mi : Int)], mi, S.ds ++ [d]⟩ : Sy) = _
          rw [ltAt_eq hlt, mtAt_eq hm, Int.toNat_natCast]
        rw [st]
        refine ⟨_, rfl, d, _, 0, _, rfl, rfl, SqT.of D1, rfl, rfl, _, rfl, ifT (by cases g <;> decide +kernel) ?_⟩
        refine ⟨_, rfl, b, _, 1, _, rfl, rfl, SqT.of (k1.tup b1), rfl, _, rfl, d, _, 1, _, rfl, rfl, SqT.of D1, rfl, mb, _, _, _, rfl, rfl, SqT.of (k1.tup b3), atI_nat m1, ?_⟩
        refine ⟨_, rfl, am, mtV mt, 0, _, rfl, rfl, SqT.of (k1.tup m2), rfl, _, rfl, am, mtV mt, 1, _, rfl, rfl, SqT.of (k1.tup m2), rfl, mt.a, mt.b, rfl, rfl, _, rfl, d, _, 3, _, rfl, rfl, SqT.of D1, rfl, _, x, rfl, rfl, ?_⟩
        refine ⟨_, rfl, _, rfl, d, _, 2, _, rfl, rfl, SqT.of D1, rfl, lp, _, _, _, rfl, rfl, SqL.of (k1.at hlv hlp), atI_nat l1, al, ltV l, rfl, SqT.of (k1.tup l2), rfl, _, _, rfl, _, _, rfl, _, _, rfl, _, _, rfl, rfl, ?_⟩
        refine ⟨_, rfl, M.sd, _, rfl, L1.gp, .inl ⟨rfl, _, .inl (.inl L1.pl)⟩, _, rfl, d, _, 1, _, rfl, rfl, SqT.of D1, rfl, M.pl, _, _, rfl, rfl, L1.pl, (by rw [List.length_map]; exact line_of (by show S.ps.length ≤ 100000; omega)), ?_⟩
        have k2 := k1.wr (o' := .lst (S.ps.map V.int ++ [.int mi])) L1.pl (fun z => z) LaL.m_pl
        have L2 := L1.setP (ps' := S.ps ++ [(mi : Int)]) (Kp.refl.wr (o' := .lst (S.ps.map V.int ++ [.int mi])) L1.pl (fun z => z) (List.mem_singleton.mpr rfl)) (by rw [upd_same, List.map_append] <;> rfl)
        have D2 := k2.tup hD
        refine ⟨_, rfl, _, rfl, rfl, _, rfl, ite2 (fun c => ?_) (fun c => ?_)⟩
        · have c1 : mt.a + mt.b - x = l.wi := V.int.inj (of_decide_eq_true c)
          refine ⟨_, rfl, am, mtV mt, 2, _, rfl, rfl, SqT.of (k2.tup m2), rfl, _, rfl, mt.w, l.la, rfl, rfl, _, rfl, ite2 (fun c => ?_) (fun c => ?_)⟩
          · have c2 : mt.w ≤ l.la := of_decide_eq_true c
            refine ⟨_, rfl, M.sd, _, rfl, L2.gc, _, rfl, d, _, 2, _, rfl, rfl, SqT.of D2, rfl, M.cl, _, _, _, rfl, rfl, SqL.of L2.cl, atI_nat hv, rfl, _, rfl, ite2 (fun c => ?_) (fun c => ?_)⟩
            · have c3 : v = .non := of_decide_eq_true c
              refine ⟨_, rfl, am, mtV mt, 2, _, rfl, rfl, SqT.of (k2.tup m2), rfl, _, rfl, M.sd, _, rfl, L2.gc, _, rfl, d, _, 2, _, rfl, rfl, SqT.of D2, rfl, M.cl, _, ni, ni, rfl, rfl, L2.cl, ixN_nat (lt_of_get hv), ⟨_, _, _, _, _, _, rfl⟩, ?_, ?_⟩
              · have e : arNew l S.ar ni (mt.a + mt.b - x) mt.w = S.ar.set ni (.int mt.w) := if_pos ⟨c1, by rw [hv, c3], c2⟩
                rw [e]
                have L3 := L2.setC (ar' := S.ar.set ni (.int mt.w)) (Kp.refl.wr (o' := .lst (S.ar.set ni (.int mt.w))) L2.cl (fun z => z) (List.mem_singleton.mpr rfl)) upd_same
                exact ⟨L3.sd, L3.hs, L3.cl, L3.pl, L3.dl, L3.nd⟩
              · exact k2.wr L2.cl (fun z => z) LaL.m_cl
            · have e : arNew l S.ar ni (mt.a + mt.b - x) mt.w = S.ar := if_neg fun z => c (decide_eq_true (Option.some.inj (hv.symm.trans z.2.1)))
              rw [e]
              exact ⟨⟨_, _, _, _, _, _, rfl⟩, ⟨L2.sd, L2.hs, L2.cl, L2.pl, L2.dl, L2.nd⟩, k2⟩
          · have e : arNew l S.ar ni (mt.a + mt.b - x) mt.w = S.ar := if_neg fun z => c (decide_eq_true z.2.2)
            rw [e]
            exact ⟨⟨_, _, _, _, _, _, rfl⟩, ⟨L2.sd, L2.hs, L2.cl, L2.pl, L2.dl, L2.nd⟩, k2⟩
        · have e : arNew l S.ar ni (mt.a + mt.b - x) mt.w = S.ar := if_neg fun z => c (decide_eq_true (congrArg V.int z.1))
          rw [e]
          exact ⟨⟨_, _, _, _, _, _, rfl⟩, ⟨L2.sd, L2.hs, L2.cl, L2.pl, L2.dl, L2.nd⟩, k2⟩
    rintro σ2 H2 ⟨⟨v4, v5, v6, v7, v8, v9, rfl⟩, L2, k2⟩
    obtain ⟨n1, n2, n3, n4, n5, nd, _⟩ := L2.apart
    refine ⟨_, rfl, _, rfl, M.sd, _, rfl, L2.gh, _, rfl, b, M.hl, d, B, ls, S, M.hs, D, rfl, hb.kp k2, L2.hs, nd, n2, k2.tup hD, G, d8, hds, fun H3 h3 K3 => ?_⟩
    exact k H3 (L2.setHs K3 h3) (k2.trans (K3.mono fun a m => LaL.m_hs m))
end
end K46
set_option Elab.async false
set_option linter.all false
set_option maxRecDepth 100000
set_option maxHeartbeats 4000000
namespace K46
open PySem L2
theorem PairsAt.kp0 {H H' : Hp} (k : Kp [] H H') {p : Addr} {qs : List (Int × Int)} : PairsAt H p qs → PairsAt H' p qs := fun ⟨vs, h1, h2⟩ => ⟨vs, k.at0 h1, pimp h2 fun _ _ _ => PairAt.kp k⟩
theorem bagV_eq {ls : List Lt} {hs : List D1} {x : Int} : bagV ls hs x = ((bagN ls hs x).map fun i => ((i : Nat) : Int)).map V.int := by
  rw [List.map_map]
  rfl
/-- the deeds that were done -/
def DsAt (H : Hp) (ds : List Addr) (Ds : List Dd) : Prop := Paired (fun d D => DeedAt H d D) ds Ds
theorem DsAt.kp {Z : List Addr} {H H' : Hp} (k : Kp Z H H') {ds : List Addr} {Ds : List Dd} (h : DsAt H ds Ds) : DsAt H' ds Ds := pimp h fun _ _ _ q => q.kp k
theorem ds_rows {H : Hp} {ds : List Addr} {Ds : List Dd} (h : DsAt H ds Ds) : Paired (RowAt H) (ds.map V.ref) (Ds.map Dd.v) := by
  unfold DsAt at h
  induction h with
  | nil => exact .nil
  | cons r _ ih => exact .cons ⟨_, rfl, r⟩ ih
theorem ds_rowOk {Ds : List Dd} : ∀ r ∈ Ds.map Dd.v, RowOk r := fun r m => by
  obtain ⟨q, _, rfl⟩ := List.mem_map.mp m
  exact rowOk_dd q
section
variable {P : Program} {w : World} {K : PySem.W.Frag} {mg : Str → Option Value} {base : Heap}
def spStands (K : PySem.W.Frag) : Sp := fun vs H Q _ => ∃ (L : Lay) (b lp : Addr) (M : LaL) (B : Bk) (ls : List Lt) (S : Sy) (Ds : List Dd), vs = [.ref L.x, .ref b, .ref lp, .ref M.sd] ∧ TripAt (CT K) H L B ls S ∧ BookAt H b B ∧ LtsAt H lp ls ∧ LawAt H M S ∧ Good B ls S ∧ S.ds.length ≤ 62 ∧ DsAt H S.ds Ds ∧ ∀ H', Kp [] H H' → Q (.bl true) H'
abbrev snN : List Str := ["_law_trip", "_law_book_here", "_law_letters_here", "_law_state_here", "_law_number", "_law_holders", "_law_pairs", "_law_one", "_law_walker", "_law_held"]
theorem scStands : FnScope snN ["_law_trip", "_law_book_here", "_law_letters_here", "_law_state_here"] (defScope sLawStands) := ⟨rfl, rfl, rfl, by decide +kernel, rfl, by decide +kernel, by decide +kernel⟩
theorem ok_stands (T : Txt K mg) : OkF P w K mg base CX0 3 "_law_stands" ["_law_trip", "_law_book_here", "_law_letters_here", "_law_state_here"] (spStands K) := by
  have GH := ok_having (P := P) (w := w) (base := base) T
  have GC := ok_come (P := P) (w := w) (base := base) T
  have GG := ok_bag (P := P) (w := w) (base := base) T
  have GD := ok_done (P := P) (w := w) (base := base) T
  have GB := ok_lbag (P := P) (w := w) (base := base) T
  have GP := ok_pairsAre (P := P) (w := w) (base := base) T
  have GT := ok_timeIs (P := P) (w := w) (base := base) T
  have GN := ok_numsAre (P := P) (w := w) (base := base) T
  refine mkF (st := sLawStands) T (List.mem_of_getElem? (i := 28) rfl) (fun _ _ _ _ _ _ us hl => match us, hl with | [_, _, _, _], _ => rfl) fun fd F => ?_
  refine F.ok scStands (fun vs H Q E h => ?_) (fun cdv A outer s H vs Q E hr h => ?_)
  · obtain ⟨L, b, lp, M, B, ls, S, Ds, rfl, _⟩ := h
    rfl
  · obtain ⟨L, b, lp, M, B, ls, S, Ds, rfl, TA, hb, hl, LA, G, hds, hDs, k⟩ := h
    have hu := hu_of hr
    have hu64 := hr.units
    have hr1 : Room 1 _ := hr.mono (by decide)
    refine ⟨_, (pss_cons (ps_for PassesOwn.never rfl (pi_range1 (by rfl) T.tRange (pa_cons (pe_callB call_len_seq (by rfl) T.tLen PySem.boot_len (pa_cons (pv 2) pa_nil)) pa_nil)) (pg_name (i := 4) scStands.nd rfl (Or.inl rfl))
        (pss_cons (ps_set (i := 5) scStands.nd rfl (.inr rfl) (pe_ix ix_list (pe_dget hu (pv 3) pe_str (fun _ _ => rfl)) (pv 4) (fun _ _ => rfl)))
      (pss_cons (ps_setLc (i := 6) (own := [("_law_one", 7)]) (g := gName 7) (by rfl) scStands.nd rfl rfl (sw_true rfl rfl rfl (by decide +kernel)) (pi_list (pe_callB (call_sortedDI rfl) (by rfl) T.tSorted (by decide +kernel) (pa_cons (pv 5) pa_nil)))
            (blkOk_by (own := [("_law_one", 7)]) (N := snN) (sc := defScope sLawStands) (by decide +kernel)) (fun _ _ _ _ _ => by exact (pg_name (i := 7) scStands.nd rfl (Or.inl rfl))) (fun _ _ _ _ _ => pts_nil)
            (fun _ _ _ _ _ => by exact (pe_tup (pa_cons (pv 7) (pa_cons (pe_dget hu (pv 5) (pv 7) (fun _ _ => rfl)) pa_nil)))))
      (pss_cons (ps_if (pt_not (pt_val (pe_cf GP hr pass0 (pa_cons (pe_cm GH hr1 pass0 (pv 0) (pa_cons (pv 4) pa_nil)) (pa_cons (pv 6) pa_nil))))) (pss_one (ps_ret pe_bl)) pss_nil)
      (pss_one (ps_if (pt_not (pt_val (pe_cf GT hr pass0 (pa_cons (pe_cm GC hr1 pass0 (pv 0) (pa_cons (pv 4) pa_nil)) (pa_cons (pe_ix ix_list (pe_dget hu (pv 3) pe_str (fun _ _ => rfl)) (pv 4) (fun _ _ => rfl)) pa_nil))))) (pss_one (ps_ret pe_bl)) pss_nil))))))
      (pss_cons (ps_for PassesOwn.never rfl (pi_range1 (by rfl) T.tRange (pa_cons (pe_callB call_len_seq (by rfl) T.tLen PySem.boot_len (pa_cons (pe_ix ix_tup (pv 1) pe_int (fun _ _ => rfl)) pa_nil)) pa_nil)) (pg_name (i := 8) scStands.nd rfl (Or.inl rfl))
        (pss_cons (ps_set (i := 9) scStands.nd rfl (.inl rfl) (pe_cf GB hr1 pass0 (pa_cons (pv 2) (pa_cons (pe_dget hu (pv 3) pe_str (fun _ _ => rfl)) (pa_cons (pv 8) pa_nil)))))
      (pss_one (ps_if (pt_not (pt_val (pe_cf GN hr pass0 (pa_cons (pe_cm GG hr pass0 (pv 0) (pa_cons (pv 8) pa_nil)) (pa_cons (pv 9) pa_nil))))) (pss_one (ps_ret pe_bl)) pss_nil))))
      (pss_one (ps_ret (pe_and (pe_callB call_isi (by rfl) T.tIs (by decide +kernel) (pa_cons (pe_cm0 GD hr1 pass0 (pv 0)) (pa_cons (pe_bltn (v := .ty "list") (by rfl) T.tList (by decide +kernel) rfl) pa_nil)))
          (pe_one (pe_cmpR (op_eqD hu64) (pe_cm0 GD hr1 pass0 (pv 0)) (pe_dget hu (pv 3) pe_str (fun _ _ => rfl)) (nomark _)))))))), ?_⟩
    obtain ⟨vs, hv, pl⟩ := id hl
    have vl : vs.length = ls.length := plen pl
    have l40 := G.l40
    refine ⟨_, rfl, lp, vs, rfl, .inl (SqL.of hv), _, rfl, (small62 (by omega)).1, (small62 (by omega)).2, for_range (lo := 0) (n := (vs.length : Int).toNat) (fun i σ G' => ∃ v4 v5 v6 v7 v8 v9, σ = [some (.ref L.x), some (.ref b), some (.ref lp), some (.ref M.sd), v4, v5, v6, v7, v8, v9] ∧ Kp [] H G') ⟨_, _, _, _, _, _, rfl, Kp.refl⟩ ?_ ?_⟩
    · rintro i σ G0 hi ⟨v4, v5, v6, v7, v8, v9, rfl, k0⟩
      rw [Int.zero_add]
      have hi' : i < ls.length := by omega
      obtain ⟨d, hd⟩ := get_of_lt (l := S.hs) (i := i) (by rw [G.lh]; exact hi')
      obtain ⟨v, hv'⟩ := get_of_lt (l := S.ar) (i := i) (by rw [G.lr]; exact hi')
      have hI := G.ih d (List.mem_of_getElem? hd)
      have h64 : d.length < 64 := by
        have := G.sz d (List.mem_of_getElem? hd)
        omega
      have L0 := LA.kp0 k0
      obtain ⟨a, ha, hda⟩ := pget L0.hs.2 hd
      have hai : (M.hs.map V.ref)[i]? = some (.ref a) := by rw [List.getElem?_map, ha] <;> rfl
      refine ⟨_, rfl, M.sd, _, rfl, L0.gh, _, rfl, M.hl, _, _, _, rfl, rfl, SqL.of L0.hs.1, atI_nat hai, ?_⟩
      refine ⟨_, rfl, a, d, keysD d, rfl, .of hda, keysD_eq hI, by rw [keysD_len hI]; exact h64, fun ks q pe so hq => ?_⟩
      refine ⟨q, rfl, ⟨_, SqL.of upd_same⟩, fun D hD => ?_⟩
      have nq : q ≠ D := ne_of_none upd_same hD
      have k1 : Kp [] H (upd G0 q (.lst (ks.map V.int))) := k0.nw hq
      have nD : H D = none := k1.free hD
      have k64 : ks.length < 64 := by rw [pe.length_eq, keysD_len hI]; exact h64
      have hdH : H a = some (.dK d) := by
        obtain ⟨a', ha', hda'⟩ := pget LA.hs.2 hd
        obtain rfl : a' = a := Option.some.inj (ha'.symm.trans ha)
        exact hda'
      refine lc_list (K := K) (a := q) (xs := ks.map V.int) (fun i H' => Kp [] H H' ∧ H' q = some (.lst (ks.map V.int)) ∧ PairsAt H' D ((ks.take i).map fun k => (k, tD d k))) ⟨k1.nw hD, upd_of upd_same nq, [], upd_same, .nil⟩ (fun i H' _ z => SqL.of z.2.1) ?_ ?_
      · rintro j y H1 hy ⟨K1, h1, us, h2, h3⟩
        rw [List.getElem?_map] at hy
        cases hz : ks[j]? with
        | none =>
          rw [hz] at hy
          cases hy
        | some z =>
          rw [hz] at hy
          obtain rfl := Option.some.inj hy
          have hb' := K1.at0 hdH
          have hvz := keysD_val hI (pe.mem_iff.mp (List.mem_of_getElem? hz))
          refine ⟨rfl, ?_⟩
          refine ⟨_, rfl, _, rfl, _, rfl, a, _, rfl, hvz ▸ DGet.k (k := Sum.inl z) hb', (by show 2 ≤ sizeLine; decide), fun t ht => ?_⟩
          have nt : D ≠ t := ne_of_none h2 ht
          have K2 : Kp [] H1 (upd H1 t (.tup [.int z, .int (tD d z)])) := Kp.refl.nw ht
          have ul : us.length = j := by
            rw [plen h3, List.length_map, List.length_take]
            have := lt_of_get hz
            omega
          refine ⟨us, upd_of h2 nt, line_of (by have := lt_of_get hz; omega), (K1.trans K2).wn nD, upd_of (K2.at0 h1) nq, us ++ [.ref t], upd_same, ?_⟩
          have K3 : Kp [D] H1 (upd (upd H1 t (.tup [.int z, .int (tD d z)])) D (.lst (us ++ [.ref t]))) := K2.nil.wr (upd_of h2 nt) (fun z => z) (List.mem_singleton.mpr rfl)
          rw [List.take_add_one, hz, List.map_append]
          exact (pimp h3 fun _ _ _ => PairAt.kp K3).snoc ⟨t, rfl, upd_of upd_same nt.symm⟩
      · rintro H1 ⟨K1, h1, h2⟩
        rw [List.length_map, List.take_length] at h2
        have T1 := TA.kp0 K1
        refine ⟨_, rfl, L.x, L.dx, _, rfl, T1.ob, tf_no (by decide +kernel), _, rfl, L, B, ls, S, i, d, rfl, T1, hI, h64, hd, fun H2 p ks2 K2 np pe2 so2 hp2 => ?_⟩
        obtain rfl := sorted_one (pe2.trans pe.symm) so2 so
        refine ⟨_, rfl, p, D, _, rfl, hp2, h2.kp0 K2, by rw [List.length_map]; omega, _, rfl, iteF ?_⟩
        have k2 := K1.trans K2
        have T2 := TA.kp0 k2
        have L2 := LA.kp0 k2
        refine ⟨_, rfl, L.x, L.dx, _, rfl, T2.ob, tf_no (by decide +kernel), _, rfl, L, B, ls, S, i, v, rfl, T2, hv', _, rfl, M.sd, _, rfl, L2.gc, _, rfl, M.cl, _, _, _, rfl, rfl, SqL.of L2.cl, atI_nat hv', v, rfl, G.ir v (List.mem_of_getElem? hv'), _, rfl, iteF ?_⟩
        exact ⟨_, _, _, _, _, _, rfl, k2⟩
    rintro σ G1 ⟨v4, v5, v6, v7, v8, v9, rfl, k1⟩
    obtain ⟨rb, mb, vm, b1, b2, b3, b4⟩ := id hb
    have r12 := G.b.r2
    have rl : (B.rooms.map V.int).length = B.rooms.length := List.length_map _
    refine ⟨_, rfl, b, _, 0, _, rfl, rfl, SqT.of (k1.tup b1), rfl, rb, _, rfl, .inr (SqT.of (k1.tup b2)), _, rfl, (small62 (by omega)).1, (small62 (by omega)).2, for_range (lo := 0) (n := ((B.rooms.map V.int).length : Int).toNat) (fun i σ G' => ∃ v4 v5 v6 v7 v8 v9, σ = [some (.ref L.x), some (.ref b), some (.ref lp), some (.ref M.sd), v4, v5, v6, v7, v8, v9] ∧ Kp [] H G') ⟨_, _, _, _, _, _, rfl, k1⟩ ?_ ?_⟩
    · rintro i σ G0 hi ⟨v4, v5, v6, v7, v8, v9, rfl, k0⟩
      have L0 := LA.kp0 k0
      refine ⟨_, rfl, _, rfl, M.sd, _, rfl, L0.gh, _, rfl, lp, M.hl, ls, S.hs, M.hs, _, rfl, hl.kp0 k0, L0.hs, G.lh, G.l40, fun H2 p2 K2 n2 h2 => ?_⟩
      have k2 := k0.trans K2
      have T2 := TA.kp0 k2
      refine ⟨_, rfl, L.x, L.dx, _, rfl, T2.ob, tf_no (by decide +kernel), _, rfl, L, B, ls, S, _, rfl, T2, G, fun H3 p3 K3 n3 h3 => ?_⟩
      rw [bagV_eq] at h2 h3
      refine ⟨_, rfl, p3, p2, _, rfl, h3, K3.at0 h2, ?_, fun H4 K4 => ⟨_, rfl, iteF ⟨_, _, _, _, _, _, rfl, (k2.trans K3).trans K4⟩⟩⟩
      rw [List.length_map]
      have q := filter_len_le (p := takes ls S.hs (0 + (i : Int))) (l := List.range ls.length)
      rw [List.length_range] at q
      unfold bagN
      omega
    rintro σ G2 ⟨v4, v5, v6, v7, v8, v9, rfl, k2⟩
    have T2 := TA.kp0 k2
    refine ⟨_, rfl, L.x, L.dx, _, rfl, T2.ob, tf_no (by decide +kernel), L, B, ls, S, rfl, T2, fun p hp => ?_⟩
    have k3 := k2.nw (o := .lst (S.ds.map V.ref)) hp
    have T3 := TA.kp0 k3
    refine ⟨_, _, _, _, true, rfl, .ty _, .base (.lst upd_same), kit_ty (by decide +kernel), true, rfl, iteT ?_⟩
    refine ⟨_, rfl, L.x, L.dx, _, rfl, T3.ob, tf_no (by decide +kernel), L, B, ls, S, rfl, T3, fun p2 hp2 => ?_⟩
    have k4 := k3.nw (o := .lst (S.ds.map V.ref)) hp2
    have L4 := LA.kp0 k4
    have R4 := ds_rows (hDs.kp k4)
    refine ⟨_, rfl, M.sd, _, rfl, L4.gd, .list ((Ds.map Dd.v).map rowD), .list ((Ds.map Dd.v).map rowD), .lst (SqL.of upd_same) (rows_dp R4 ds_rowOk), .lst (SqL.of L4.dl) (rows_dp R4 ds_rowOk), (rows_shaped ds_rowOk).1, (rows_shaped ds_rowOk).1, ?_⟩
    rw [eqv_same ds_rowOk]
    exact k _ k4
end
end K46
set_option Elab.async false
set_option linter.all false
set_option maxRecDepth 100000
set_option maxHeartbeats 4000000
namespace K46
open PySem L2
theorem TripAt.there {C : Addr} {H : Hp} {L : Lay} {B : Bk} {ls : List Lt} {S : Sy} (t : TripAt C H L B ls S) {a : Addr} (m : a ∈ L.all) : ∃ o, H a = some o := by
  unfold Lay.all at m
  simp only [List.mem_cons] at m
  rcases m with z | z | z | z | z | z
  · exact ⟨_, z ▸ t.ob⟩
  · obtain ⟨vs, h, _⟩ := t.lt
    exact ⟨_, z ▸ h⟩
  · exact ⟨_, z ▸ t.hs.1⟩
  · exact ⟨_, z ▸ t.ar⟩
  · exact ⟨_, z ▸ t.dl⟩
  · obtain ⟨j, hj⟩ := List.mem_iff_getElem?.mp z
    obtain ⟨d, _, e⟩ := pget1 t.hs.2 hj
    exact ⟨_, e⟩
theorem LawAt.there {H : Hp} {M : LaL} {S : Sy} (t : LawAt H M S) {a : Addr} (m : a ∈ M.all) : ∃ o, H a = some o := by
  unfold LaL.all at m
  simp only [List.mem_cons] at m
  rcases m with z | z | z | z | z | z
  · exact ⟨_, z ▸ t.sd⟩
  · exact ⟨_, z ▸ t.hs.1⟩
  · exact ⟨_, z ▸ t.cl⟩
  · exact ⟨_, z ▸ t.pl⟩
  · exact ⟨_, z ▸ t.dl⟩
  · obtain ⟨j, hj⟩ := List.mem_iff_getElem?.mp z
    obtain ⟨d, _, e⟩ := pget1 t.hs.2 hj
    exact ⟨_, e⟩
/-- what never overlaps, and is new -/
structure Sep (H : Hp) (L : Lay) (M : LaL) (lp : Addr) : Prop where
  lH : ∀ a ∈ L.all, H a = none
  mH : ∀ a ∈ M.all, H a = none
  lm : ∀ a ∈ L.all, a ∉ M.all
  pl : lp ∉ L.all
  pm : lp ∉ M.all
structure LI (K : PySem.W.Frag) (H G : Hp) (L : Lay) (M : LaL) (b lp : Addr) (B : Bk) (ls : List Lt) (S : Sy) (Ds : List Dd) (i : Nat) : Prop where
  k : Kp [] H G
  T : TripAt (CT K) G L B ls S
  bk : BookAt G b B
  lt : LtsAt G lp ls
  A : LawAt G M S
  g : Good B ls S
  d : S.ds.length ≤ i
  p : S.ps.length ≤ i
  D : DsAt G S.ds Ds
theorem LI.kp {K : PySem.W.Frag} {H G G' : Hp} {L : Lay} {M : LaL} {b lp : Addr} {B : Bk} {ls : List Lt} {S : Sy} {Ds : List Dd} {i : Nat} {Z : List Addr} (I : LI K H G L M b lp B ls S Ds i) (k : Kp Z G G') (h1 : ∀ a ∈ L.all, a ∉ Z) (h2 : ∀ a ∈ M.all, a ∉ Z) (h3 : lp ∉ Z) (h4 : ∀ a ∈ Z, H a = none) : LI K H G' L M b lp B ls S Ds i :=
  ⟨I.k.comp k fun a m => .inr (h4 a m), I.T.kp k h1, I.bk.kp k, I.lt.kp k h3, I.A.kp k h2, I.g, I.d, I.p, I.D.kp k⟩
theorem LI.kp0 {K : PySem.W.Frag} {H G G' : Hp} {L : Lay} {M : LaL} {b lp : Addr} {B : Bk} {ls : List Lt} {S : Sy} {Ds : List Dd} {i : Nat} (I : LI K H G L M b lp B ls S Ds i) (k : Kp [] G G') : LI K H G' L M b lp B ls S Ds i :=
  I.kp k (fun _ _ m => nomatch m) (fun _ _ m => nomatch m) (fun m => nomatch m) (fun _ m => nomatch m)
theorem LI.up {K : PySem.W.Frag} {H G : Hp} {L : Lay} {M : LaL} {b lp : Addr} {B : Bk} {ls : List Lt} {S : Sy} {Ds : List Dd} {i j : Nat} (I : LI K H G L M b lp B ls S Ds i) (h : i ≤ j) : LI K H G L M b lp B ls S Ds j :=
  ⟨I.k, I.T, I.bk, I.lt, I.A, I.g, Nat.le_trans I.d h, Nat.le_trans I.p h, I.D⟩
theorem step_ds {B : Bk} {ls : List Lt} {S : Sy} {d : Addr} {D : Dd} : (step B ls S d D).ds = S.ds ++ [d] := by
  cases D <;> rfl
theorem step_ps {B : Bk} {ls : List Lt} {S : Sy} {d : Addr} {D : Dd} : (step B ls S d D).ps.length ≤ S.ps.length + 1 := by
  cases D with
  | drop n x => exact Nat.le_succ _
  | pass g m n x =>
    show (S.ps ++ [m]).length ≤ _
    rw [List.length_append]
    exact Nat.le_refl _
theorem DsAt.snoc {H : Hp} {ds : List Addr} {Ds : List Dd} (h : DsAt H ds Ds) {d : Addr} {D : Dd} (q : DeedAt H d D) : DsAt H (ds ++ [d]) (Ds ++ [D]) := Paired.snoc h q
section
variable {P : Program} {w : World} {K : PySem.W.Frag} {mg : Str → Option Value} {base : Heap}
def spLaw (K : PySem.W.Frag) : Sp := fun vs H Q _ => ∃ (a : Addr) (ns : List Int), vs = [.ref a] ∧ SqL K H a (ns.map V.int) ∧ ns.length ≤ 63 ∧ ∀ H', Q (.bl true) H'
abbrev laN : List Str := ["_law_script_here", "_law_book_here", "_law_letters_here", "_law_trip", "_law_state_here", "_law_k", "_law_head", "_law_at", "_law_deed", "_law_due_here_here", "_law_looked_at"]
theorem scLaw : FnScope laN ["_law_script_here"] (defScope sLaw) := ⟨rfl, rfl, rfl, by decide +kernel, rfl, by decide +kernel, by decide +kernel⟩
theorem ok_law (T : Txt K mg) {fd : FuncData} (F : Fun K "law" "law" sLaw (He.ga K "law") fd) : FnOk P w K mg base CX0 7 (He.ga K "law") fd ["_law_script_here"] (spLaw K) := by
  have GP := ok_purse (P := P) (w := w) (base := base) T
  have GB := ok_book (P := P) (w := w) (base := base) T
  have GL := ok_letters (P := P) (w := w) (base := base) T
  obtain ⟨fdI, _, hmI, hbI, GI⟩ := ok_init (P := P) (w := w) (base := base) T
  have GS := ok_state (P := P) (w := w) (base := base) T
  have GK := ok_likely (P := P) (w := w) (base := base) T
  have GD := ok_due (P := P) (w := w) (base := base) T
  have GX := ok_does (P := P) (w := w) (base := base) T
  have GA := ok_apply (P := P) (w := w) (base := base) T
  have GT := ok_take (P := P) (w := w) (base := base) T
  have GN := ok_stands (P := P) (w := w) (base := base) T
  refine F.ok scLaw (fun vs H Q E h => ?_) (fun cdv A outer s H vs Q E hr h => ?_)
  · obtain ⟨a, ns, rfl, _⟩ := h
    rfl
  · obtain ⟨a, ns, rfl, hs, h63, k⟩ := h
    have hu := hu_of hr
    have hr1 : Room 1 _ := hr.mono (by decide)
    have hr2 : Room 2 _ := hr.mono (by decide)
    have hr3 : Room 3 _ := hr.mono (by decide)
    have hr4 : Room 4 _ := hr.mono (by decide)
    have hr5 : Room 5 _ := hr.mono (by decide)
    have hr6 : Room 6 _ := hr.mono (by decide)
    refine ⟨_, (pss_cons (ps_set (i := 1) scLaw.nd rfl (.inl rfl) (pe_cf GB hr4 pass0 (pa_cons (pe_cf GP hr1 pass0 (pa_cons (pv 0) (pa_cons pe_int pa_nil))) (pa_cons pe_int (pa_cons pe_int pa_nil)))))
      (pss_cons (ps_set (i := 2) scLaw.nd rfl (.inl rfl) (pe_cf GL hr5 pass0 (pa_cons (pe_cf GP hr1 pass0 (pa_cons (pv 0) (pa_cons pe_int pa_nil))) (pa_cons (pv 1) pa_nil))))
      (pss_cons (ps_set (i := 3) scLaw.nd rfl (.inl rfl) (pe_make T.mak GI hr3 (by rfl) T.tr hbI .nil pass0 (pa_cons (pv 1) (pa_cons (pe_callTy call_list_of (by rfl) T.tList (by decide +kernel) (pa_cons (pv 2) pa_nil)) pa_nil))))
      (pss_cons (ps_set (i := 4) scLaw.nd rfl (.inl rfl) (pe_cf GS hr1 pass0 (pa_cons (pv 2) pa_nil)))
      (pss_cons (ps_for PassesOwn.never rfl (pi_range2 (by rfl) T.tRange (pa_cons pe_int (pa_cons (pe_callB (call_min2 rfl) (by rfl) T.tMin (by decide +kernel) (pa_cons (pe_callB call_len_seq (by rfl) T.tLen PySem.boot_len (pa_cons (pv 0) pa_nil)) (pa_cons pe_int pa_nil))) pa_nil))) (pg_name (i := 5) scLaw.nd rfl (Or.inl rfl))
        (pss_cons (ps_set (i := 6) scLaw.nd rfl (.inl rfl) (pe_cf GP hr1 pass0 (pa_cons (pv 0) (pa_cons (pv 5) pa_nil))))
      (pss_cons (ps_set (i := 7) scLaw.nd rfl (.inl rfl) (pe_callB (cr_max rfl) (by rfl) T.tMax (by decide +kernel) (pa_cons (pe_op op_cat (pe_dget hu (pv 4) pe_str (fun _ _ => rfl)) (pe_lst (pa_cons pe_int pa_nil))) pa_nil)))
      (pss_cons (ps_set (i := 8) scLaw.nd rfl (.inl rfl) (pe_cf GK hr4 pass0 (pa_cons (pv 6) (pa_cons (pv 1) (pa_cons (pe_dget hu (pv 4) pe_str (fun _ _ => rfl)) (pa_cons (pv 7) pa_nil))))))
      (pss_cons (ps_set (i := 9) scLaw.nd rfl (.inl rfl) (pe_cf GD hr2 pass0 (pa_cons (pv 1) (pa_cons (pv 2) (pa_cons (pv 4) (pa_cons (pv 8) pa_nil))))))
      (C8.pss_cut (ps_if (pt_cmpR op_ne (pe_cf GX hr6 pass0 (pa_cons (pv 3) (pa_cons (pv 8) pa_nil))) (pv 9) (nomark _)) (pss_one (ps_ret pe_bl)) pss_nil)
      (C8.pss_cut (ps_if (pt_cmpR op_eq (pv 9) pe_int (nomark _)) (pss_one (ps_expr (pe_cf GA hr2 pass0 (pa_cons (pv 1) (pa_cons (pv 2) (pa_cons (pv 4) (pa_cons (pv 8) pa_nil))))))) pss_nil)
      (pss_cons (ps_set (i := 10) scLaw.nd rfl (.inl rfl) (pe_cmpR op_gt (pe_cf GT hr1 pass0 (pa_cons (pv 6) (pa_cons pe_int pa_nil))) pe_int (nomark _)))
      (pss_one (ps_if (PW.pt (pw_and (pt_val (pv 10)) (pw_and1 (pt_not (pt_val (pe_cf GN hr3 pass0 (pa_cons (pv 3) (pa_cons (pv 1) (pa_cons (pv 2) (pa_cons (pv 4) pa_nil)))))))))) (pss_one (ps_ret pe_bl)) pss_nil))))))))))
      (pss_one (ps_ret (pe_cf GN hr3 pass0 (pa_cons (pv 3) (pa_cons (pv 1) (pa_cons (pv 2) (pa_cons (pv 4) pa_nil)))))))))))), ?_⟩
    -- the book
    refine ⟨_, rfl, a, ns, 0, rfl, hs, fun H1 p0 K1 n0 P1 => ⟨p0, rfl, P1, fun H2 b B hB b2 K2 => ?_⟩⟩
    have k2 : Kp [] H H2 := K1.comp K2 fun c m => .inr (by rw [List.mem_singleton.mp m]; exact n0)
    -- the letters
    refine ⟨_, rfl, a, ns, 1, rfl, k2.sqT hs, fun H3 p1 K3 n1 P3 => ⟨_, rfl, p1, b, B, rfl, P3, b2.kp K3, hB, fun H4 lp ls l40 t4 nlp P4 K4 => ?_⟩⟩
    have k3 := k2.trans K3
    have k4 : Kp [] H H4 := k3.comp K4 fun c m => .inr (by rw [List.mem_singleton.mp m]; exact k2.free n1)
    have b4 := (b2.kp K3).kp K4
    -- the Trip
    obtain ⟨vl, hvl, pvl⟩ := id t4
    refine ⟨_, rfl, _, rfl, lp, vl, rfl, .inl (SqL.of hvl), fun lq hlq => ?_⟩
    have K5 : Kp [] H4 (upd H4 lq (.lst vl)) := Kp.refl.nw hlq
    have t5 := t4.kp0 K5
    refine fun x dx hx hdx hne => ?_
    have K6 : Kp [] (upd H4 lq (.lst vl)) (upd (upd (upd H4 lq (.lst vl)) dx (.own x)) x (.ins (CT K) dx [])) := (Kp.refl.nw hdx).wn hx
    have t6 := t5.kp0 K6
    have k6 := (k4.trans K5).trans K6
    have lq6 : LtsAt (upd (upd (upd H4 lq (.lst vl)) dx (.own x)) x (.ins (CT K) dx [])) lq ls := ⟨vl, K6.at0 upd_same, pimp pvl fun _ _ _ q => LtAt.kp K6 (LtAt.kp K5 q)⟩
    refine ⟨x, dx, b, lq, B, ls, rfl, upd_same, (b4.kp K5).kp K6, lq6, l40, fun H7 L Lx Ldx T7 K7 f7 => ⟨rfl, ?_⟩⟩
    have nx : H x = none := (k4.trans K5).free hx
    have k7 : Kp [] H H7 := k6.comp K7 fun c m => .inr (by rw [List.mem_singleton.mp m]; exact nx)
    have lpx : lp ≠ x := by
      obtain ⟨_, e, _⟩ := t5
      exact ne_of_none e hx
    have t7 := t6.kp K7 fun m => lpx (List.mem_singleton.mp m)
    have b7 := ((b4.kp K5).kp K6).kp K7
    have f5 : ∀ c ∈ L.all, (upd H4 lq (.lst vl)) c = none := fun c m => by
      rcases f7 c m with z | z
      · rw [z]
        exact hx
      · exact K6.free z
    -- the law's state
    refine ⟨_, rfl, lp, ls, rfl, t7, l40, fun H8 M A8 f8 K8 => ?_⟩
    have T8 := T7.kp0 K8
    have k8 := k7.trans K8
    have sep : Sep H L M lp := by
      refine ⟨fun c m => (k4.trans K5).free (f5 c m), fun c m => k7.free (f8 c m), fun c m m' => ?_, fun m => ?_, fun m => ?_⟩
      · obtain ⟨o, e⟩ := T7.there m
        rw [f8 c m'] at e
        cases e
      · obtain ⟨_, e, _⟩ := t5
        rw [f5 lp m] at e
        cases e
      · obtain ⟨_, e, _⟩ := t7
        rw [f8 lp m] at e
        cases e
    have I8 : LI K H H8 L M b lp B ls (start0 ls) [] 0 := ⟨k8, T8, b7.kp K8, t7.kp0 K8, A8, good_start hB l40, Nat.le_refl _, Nat.le_refl _, .nil⟩
    have hs8 := k8.sqT hs
    rw [← Lx]
    obtain ⟨mn, hmn, hm62⟩ : ∃ mn : Int, (if (62 : Int) < ((ns.map V.int).length : Int) then 62 else ((ns.map V.int).length : Int)) = mn ∧ mn ≤ 62 ∧ 0 ≤ mn := by
      refine ⟨_, rfl, ?_⟩
      split <;> omega
    refine ⟨_, rfl, a, _, rfl, .inl hs8, _, _, rfl, 2, mn, by rw [hmn], ⟨by decide, by decide, by omega, by omega⟩, for_range (lo := 2) (n := (mn - 2).toNat) (fun i σ G => ∃ (S : Sy) (Ds : List Dd) (v5 v6 v7 v8 v9 v10 : Option V), σ = [some (.ref a), some (.ref b), some (.ref lp), some (.ref L.x), some (.ref M.sd), v5, v6, v7, v8, v9, v10] ∧ LI K H G L M b lp B ls S Ds i) ⟨_, _, _, _, _, _, _, _, rfl, I8⟩ ?_ ?_⟩
    · rintro i σ G0 hi ⟨S, Ds, v5, v6, v7, v8, v9, v10, rfl, I0⟩
      have i60 : i < 60 := by omega
      have ds60 := I0.d
      have ps60 := I0.p
      refine ⟨_, rfl, _, rfl, a, ns, 2 + i, by rw [Int.natCast_add] <;> rfl, I0.k.sqT hs, fun G1 p K1 np P1 => ?_⟩
      have I1 := I0.kp0 K1
      have nL : ∀ c ∈ L.all, c ∉ [p] := fun c m m' => by
        obtain ⟨o, e⟩ := I0.T.there m
        rw [List.mem_singleton.mp m', np] at e
        cases e
      have nM : ∀ c ∈ M.all, c ∉ [p] := fun c m m' => by
        obtain ⟨o, e⟩ := I0.A.there m
        rw [List.mem_singleton.mp m', np] at e
        cases e
      have nlp : lp ∉ [p] := fun m' => by
        obtain ⟨_, e, _⟩ := I0.lt
        rw [List.mem_singleton.mp m', np] at e
        cases e
      have npH : ∀ c ∈ [p], H c = none := fun c m => by
        rw [List.mem_singleton.mp m]
        exact I0.k.free np
      -- at
      refine ⟨_, rfl, M.sd, _, rfl, I1.A.gp, (by show 1 ≤ sizeLine; decide), fun t2 ht2 => ⟨M.pl, t2, _, _, rfl, rfl, upd_new I1.A.pl ht2, upd_same, ?_, fun q hq => ?_⟩⟩
      · rw [List.length_map]
        exact Nat.le_of_lt (line_of (by show S.ps.length + 1 ≤ 100000; omega))
      have K2 := (Kp.refl (S := []).nw (o := .lst [V.int 0]) ht2).nw (o := .lst (S.ps.map V.int ++ [V.int 0])) hq
      have I2 := I1.kp0 K2
      have P2 := P1.kp0 K2
      have hq2 : upd (upd G1 t2 (.lst [V.int 0])) q (.lst (S.ps.map V.int ++ [V.int 0])) q = some (.lst ((S.ps ++ [0]).map V.int)) := by
        rw [upd_same, List.map_append] <;> rfl
      refine ⟨q, S.ps ++ [0], rfl, SqL.of hq2, by rw [List.length_append]; exact Nat.succ_pos _, fun mx h1 h2 => ?_⟩
      obtain rfl := max_la I0.g h1 h2
      obtain ⟨la, hla⟩ : ∃ la : Nat, S.la = la := ⟨S.la.toNat, by have := I0.g.l0; omega⟩
      -- the deed
      refine ⟨_, rfl, _, rfl, _, rfl, M.sd, _, rfl, I2.A.gh, _, rfl, p, b, M.hl, B, M.hs, S.hs, la, by rw [hla] <;> rfl, P2, I2.bk, hB, I2.A.hs, ?_, ?_, ?_, fun G3 d D D3 P3 K3 => ?_⟩
      · intro d m
        have := I0.g.sz d m
        exact ⟨I0.g.ih d m, by omega⟩
      · rw [I0.g.lh]
        exact l40
      · rcases I0.g.l1 with z | z
        · exact .inl (by omega)
        · have := (I0.g.l3 _ z).2
          exact .inr (by omega)
      have I3 := I2.kp K3 nL nM nlp npH
      -- what is due
      refine ⟨_, rfl, _, rfl, _, rfl, _, rfl, b, lp, d, M, B, ls, S, D, rfl, I3.bk, I3.lt, I3.A, I3.g, by omega, D3, fun G4 K4 => ?_⟩
      have I4 := I3.kp0 K4
      have P4 := P3.kp0 K4
      have D4 := DeedAt.kp K4 D3
      -- what the Trip does
      refine ⟨fun σ' G5 => σ' = [some (.ref a), some (.ref b), some (.ref lp), some (.ref L.x), some (.ref M.sd), some (.int (2 + (i : Int))), some (.ref p), some (.int S.la), some (.ref d), some (.int (due B ls S D)), v10] ∧
        ((due B ls S D = 8 ∧ TripAt (CT K) G5 L B ls (step B ls S d D) ∧ Kp L.all G4 G5) ∨ (due B ls S D ≠ 8 ∧ Kp [] G4 G5)), ?_, ?_⟩
      · refine ⟨_, rfl, _, rfl, L, B, ls, S, d, D, rfl, I4.T, I4.g, by omega, D4, fun d8 G5 T5 K5 => ?_, fun d8 G5 K5 => ?_⟩
        · exact ⟨_, rfl, rfl, _, rfl, ifF (by rw [d8, decide_eq_true rfl]; rfl) ⟨rfl, .inl ⟨d8, T5, K5⟩⟩⟩
        · exact ⟨_, rfl, rfl, _, rfl, ifF (by rw [decide_eq_true rfl]; rfl) ⟨rfl, .inr ⟨d8, K5⟩⟩⟩
      rintro _ G5 ⟨rfl, h5⟩
      -- the law's state behind it
      refine ⟨fun σ' G6 => ∃ (S' : Sy) (Ds' : List Dd), σ' = [some (.ref a), some (.ref b), some (.ref lp), some (.ref L.x), some (.ref M.sd), some (.int (2 + (i : Int))), some (.ref p), some (.int S.la), some (.ref d), some (.int (due B ls S D)), v10] ∧
        LI K H G6 L M b lp B ls S' Ds' (i + 1) ∧ PurseAt G6 p, ?_, ?_⟩
      · rcases h5 with ⟨d8, T5, K5⟩ | ⟨d8, K5⟩
        · refine ⟨_, rfl, rfl, _, rfl, ifT (decide_eq_true (congrArg V.int d8)) ?_⟩
          have A5 := I4.A.kp K5 fun c m m' => sep.lm c m' m
          have L5 := I4.lt.kp K5 sep.pl
          have D5 := DeedAt.kp K5 D4
          have b5 := I4.bk.kp K5
          have P5 := P4.kp K5 fun m => nL p m (List.mem_singleton.mpr rfl)
          refine ⟨_, rfl, _, rfl, _, rfl, _, rfl, b, lp, d, M, B, ls, S, D, rfl, b5, L5, A5, I4.g, d8, by omega, by omega, D5, sep.pm, fun G6 A6 K6 => ?_⟩
          refine ⟨step B ls S d D, Ds ++ [D], rfl, ⟨?_, T5.kp K6 sep.lm, b5.kp K6, L5.kp K6 sep.pm, A6, good_step I4.g d8, ?_, ?_, ?_⟩, P5.kp K6 fun m => nM p m (List.mem_singleton.mpr rfl)⟩
          · exact (I4.k.comp K5 fun c m => .inr (sep.lH c m)).comp K6 fun c m => .inr (sep.mH c m)
          · rw [step_ds, List.length_append]
            show S.ds.length + 1 ≤ i + 1
            omega
          · have := step_ps (B := B) (ls := ls) (S := S) (d := d) (D := D)
            omega
          · rw [step_ds]
            exact ((I4.D.kp K5).kp K6).snoc (DeedAt.kp K6 D5)
        · exact ⟨_, rfl, rfl, _, rfl, ifF (decide_eq_false fun z => d8 (V.int.inj z)) ⟨S, Ds, rfl, (I4.kp0 K5).up (Nat.le_succ i), P4.kp0 K5⟩⟩
      rintro _ G6 ⟨S', Ds', rfl, I6, P6⟩
      refine ⟨_, rfl, p, 3, rfl, P6, by decide, by decide, fun G7 z _ _ P7 K7 => ⟨z, 0, rfl, rfl, ?_⟩⟩
      have I7 := I6.kp K7 nL nM nlp npH
      have ds7 := I7.d
      refine ⟨_, rfl, _, rfl, ite2 (fun c => ?_) (fun c => ?_)⟩
      · refine ⟨_, rfl, _, rfl, _, rfl, _, rfl, L, b, lp, M, B, ls, S', Ds', rfl, I7.T, I7.bk, I7.lt, I7.A, I7.g, by omega, I7.D, fun G8 K8 => ⟨_, rfl, iteF ?_⟩⟩
        exact ⟨S', Ds', _, _, _, _, _, _, rfl, I7.kp0 K8⟩
      · exact ⟨S', Ds', _, _, _, _, _, _, rfl, I7⟩
    · rintro σ G0 ⟨S, Ds, v5, v6, v7, v8, v9, v10, rfl, I0⟩
      have ds62 := I0.d
      exact ⟨_, rfl, _, rfl, _, rfl, _, rfl, L, b, lp, M, B, ls, S, Ds, rfl, I0.T, I0.bk, I0.lt, I0.A, I0.g, by omega, I0.D, fun G8 K8 => k G8⟩
end
end K46
set_option Elab.async false
set_option linter.all false
set_option maxRecDepth 100000
set_option maxHeartbeats 4000000
namespace K46
open PySem L2
theorem facts {P : Program} {w : World} {K : PySem.W.Frag} {h : Heap} {mg : Str → Option Value} {f : Addr} (X : K.In h) (G : h.Ns mainGlobals mg) (hfa : mg ("law" : Str) = some (.ref f)) (c : Says K) :
    ∃ fd : FuncData, (∀ (s : Shared) (v : Value), BindsTo s fd ⟨[v], []⟩ [("_law_script_here", v)]) ∧ ∀ base : Heap, K.In base → base.Ns mainGlobals mg → FnOk P w K mg base CX0 7 f fd ["_law_script_here"] (spLaw K) := by
  have T := txt_of X G c
  obtain ⟨h1, fd, F⟩ := T.fn ("law", sLaw) (List.mem_of_getElem? (i := 29) rfl)
  cases hfa.symm.trans h1
  have b : ∀ us : List Value, us.length = 1 → bindArgs fd ⟨us, []⟩ = pure (([("_law_script_here" : Str)]).zip us) := by
    obtain ⟨oc, od, kV, doc, pm, an, cdv, ct, osl, rfl, lk, hcd⟩ := F.ex
    exact fun us hl => match us, hl with | [_], _ => rfl
  refine ⟨fd, fun s v => ?_, fun base _ _ => ok_law T F⟩
  exact .of_eq (b [v] rfl)
end K46
open PySem PySem.W PySem.Calls PyProof.Rows
theorem PySem.Challenge.cw_satchelmeet_k46_whole_trips_holds : PySem.Challenge.rw_satchelmeet_k46_whole_trips.Holds := by
  w_on; o_law
  refine HandSHeadRun.head_any (r := OpenLaw.row PySem.Challenge.rw_satchelmeet_k46_whole_trips) (q := view (OpenLaw.row PySem.Challenge.rw_satchelmeet_k46_whole_trips).prog [K46.lawAt]) (H := K46.hk) (ob := K46.ob) (M := 40000) (loose := K46.loose) (d := HandSHeadRun.topDef (OpenLaw.row PySem.Challenge.rw_satchelmeet_k46_whole_trips).prog K46.lawAt) (kwd := []) K46.ob_eq
    (by kernel_rfl) (fun s => by kernel_rfl) K46.run (by kernel_rfl) (by kernel_rfl) (by kernel_rfl) (by rfl) (by first | assumption | decide +kernel) (by decide +kernel) ⟨rfl, rfl, rfl, rfl, rfl, by decide +kernel⟩ ?hw ?hc
  case hw => w_witness2
  case hc =>
    refine L2.walk_ofE (l := PySem.Challenge.rw_satchelmeet_k46_whole_trips) (n := 63) (k := 7) (x := "_law_script_here") (CX := L2.CX0) rfl (by decide) (by kernel_rfl) ⟨rfl, by decide, by decide⟩ ?F (fun _ _ _ _ z => z)
    intro w mg fa h Y G hmg0
    obtain ⟨K, KX, c⟩ := Y
    have hmg : mg ("law" : PySem.Str) = some (.ref fa) := by
      have e : (HandSHeadRun.topDef (OpenLaw.row PySem.Challenge.rw_satchelmeet_k46_whole_trips).prog K46.lawAt).name = ("law" : PySem.Str) := by kernel_rfl
      rw [← e]
      exact hmg0
    obtain ⟨fd, hb, hF⟩ := K46.facts (P := (PySem.Challenge.rw_satchelmeet_k46_whole_trips).prog) (w := w) KX G hmg c
    exact ⟨K, fd, K46.spLaw K, KX, hb, fun H a ns hl _ hS => ⟨a, ns, rfl, hS, hl, fun _ => rfl⟩, hF⟩
