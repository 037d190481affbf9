import PyProof.Rows.All
import Wide.All
import OpenK.AllK
import Wide.FinOn
import HandS.ForMost
import HandS.ForExc
import HandS.Lambda
import HandS.HeadHook4
import PySem.Challenge.RW_voicefold_k11_ballots_checked
import HandS.Words
import HandS.More
import HandS.Wide
import HandS.TupAny
import HandS.Style
import HandS.IsInst
import HandS.Flow
import HandS.Walk
import HandS.Zip
import HandS.Defaults
import HandS.EndBits
import HandS.HeadEnd
import HandS.Head0
import HandS.Head1
import HandS.Head2
import HandS.HeadHook1
import HandS.HeadHook2
import HandS.ExcInit
import HandS.ExcField
import KE.KExcIs
import HandS.Iter
import HandS.TupLen
import HandS.WordsDict
import HandS.Small
import HandS.DictComp
import KE.KDictWalk
import KE.KDictPairs
import KE.GoesEnum
import PyProof.CollectIter
import HandS.MakeKwOnly
import HandS.SortKw
import HandS.EndOwn
import PyProof.Rows.FactsExc_KeyError
import KE.KNestM
import KE.KSortTupUse
import KE.KDictCopyH
import KE.KDictSum
import KE.KDictZip
import PyProof.ReprRoads
import HandS.Ends
import KE.DataFind
import HandS.Strs
import PyProof.AutoSeq1
import PyProof.EqKinds
import HandS.TupMul
import PyProof.ReprLen
import PyProof.StrLawsRepr
set_option Elab.async false
set_option linter.all false
set_option autoImplicit false
set_option maxRecDepth 100000
set_option maxHeartbeats 0
/-! Hk. -/
namespace VF
open PySem PySem.Spec PyProof.Rows L2
section
variable {fa : List He.Fa} {fb : List (PySem.W.Frag → Bool)} {fn : List He.DefD} {K : PySem.W.Frag}
def obsE (fa : List He.Fa) (fb : List (PySem.W.Frag → Bool)) (fn : List He.DefD) (K : PySem.W.Frag) : He.AlD := (((fa.all fun f => f.ok K) && fn.all fun d => d.ok K) && fb.all fun f => f K, fn.map fun d => He.fnW K d.at_)
def SaysE (fa : List He.Fa) (fb : List (PySem.W.Frag → Bool)) (fn : List He.DefD) (K : PySem.W.Frag) : Prop := obsE fa fb fn K = He.valD fn
def obsEG (n : Nat) (fa : List He.Fa) (fb : List (PySem.W.Frag → Bool)) (fn : List He.DefD) (g : Addr → Option Obj) : He.AlD := obsE fa fb fn (He.frG g (He.asD g n))
def hookE (n : Nat) (fa : List He.Fa) (fb : List (PySem.W.Frag → Bool)) (fn : List He.DefD) : PySem.W.Hook where
  α := He.AlD
  obs := fun s => obsEG n fa fb fn s.heap.get?
  val := fun _ => He.valD fn
  says := fun _ h => ∃ K : PySem.W.Frag, K.In h ∧ SaysE fa fb fn K
  of := fun _ _ e => ⟨_, He.frG_in, e⟩
  keeps := fun _ _ _ ⟨K, hK, c⟩ k => ⟨K, PySem.W.Frag.In.keeps hK k, c⟩
theorem obsEG_eq {n : Nat} {g : Addr → Option Obj} {s : Shared} (h : ∀ a, g a = s.heap.get? a) : obsEG n fa fb fn g = (hookE n fa fb fn).obs s := by
  have e : g = s.heap.get? := funext h
  rw [e] <;> rfl
theorem SaysE.d (c : SaysE fa fb fn K) : He.SaysD fa fn K := by
  have c1 : (((fa.all fun f => f.ok K) && fn.all fun d => d.ok K) && fb.all fun f => f K) = true := congrArg (fun z : He.AlD => z.1) c
  have c2 : (fn.map fun d => He.fnW K d.at_) = fn.map He.DefD.val := congrArg (fun z : He.AlD => z.2) c
  show ((fa.all fun f => f.ok K) && fn.all fun d => d.ok K, fn.map fun d => He.fnW K d.at_) = (true, fn.map He.DefD.val)
  rw [(Bool.and_eq_true_iff.mp c1).1, c2]
theorem SaysE.more (c : SaysE fa fb fn K) (i : Nat) {f : PySem.W.Frag → Bool} (h : fb[i]? = some f) : f K = true := by
  have c1 : (((fa.all fun f => f.ok K) && fn.all fun d => d.ok K) && fb.all fun f => f K) = true := congrArg (fun z : He.AlD => z.1) c
  exact List.all_eq_true.mp (Bool.and_eq_true_iff.mp c1).2 f (List.mem_of_getElem? h)
end
/-- what is asked of the written part about an error's class -/
def oexB (K : PySem.W.Frag) (C : Addr) : Bool := (match K.lookup C with
  | some ⟨.type "type", _, .cls cd, sl⟩ => (match cd.mro, sl.toList with
    | .ref C' :: bm, [_, _, _, _, some (.builtin n), _] => C' == C && n == "ValueError.__new__" && !cd.hasDel && cd.hasDict && PySem.HandSPX.refsVE bm
    | _, _ => false)
  | _ => false) && (He.eqO (PySem.W.findIn K (.ref C) "__setattr__") (some (some (.builtin "object.__setattr__"))) && (decide (PySem.W.subIn K (.ref C) (.type "BaseException") = some true) && (decide (PySem.W.typeIn K (.ref C) = some (.type "type")) && PySem.W.keepIn K (.ref C))))
def excKB (K : PySem.W.Frag) (C : Addr) : Bool := (PySem.W.clsIn K C).isSome && (He.eqO (PySem.W.findIn K (.ref C) "__getattribute__") (some (some (.builtin "BaseException.__getattribute__"))) && (He.eqO (PySem.W.findIn K (.ref C) "__getattr__") (some none) && (decide (PySem.W.subIn K (.ref C) (.type "BaseException") = some true) && (PySem.W.hasDictIn K C && (He.eqO (PySem.W.findIn K (.ref C) "__class__") (some (some (.builtin "object.__class__"))) && (He.eqO (PySem.W.specialIn K (.builtin "object.__class__") "__get__") (some (some (.builtin "getset_descriptor.__get__"))) && (decide (PySem.W.takesIn K (.builtin "object.__class__") = some true) && decide (PySem.W.mroIn K C (.type "object") = some true))))))))
def erB (c top f : Str) (K : PySem.W.Frag) : Bool := oexB K (He.ga K c) && (He.eqO (PySem.W.findIn K (.ref (He.ga K c)) f) (some none) && (He.eqO (PySem.W.findIn K (.ref (He.ga K c)) "__init__") (some (some (.ref (He.fAd K (top, some "__init__"))))) && (decide (PySem.W.typeIn K (.ref (He.fAd K (top, some "__init__"))) = some (.type "function")) && excKB K (He.ga K c))))
def isXB (c d : Str) (b : Bool) (K : PySem.W.Frag) : Bool := decide (PySem.W.kitOne K (.ref (He.ga K c)) (.ref (He.ga K d)) = some b)
def hdB (c d : Str) (b : Bool) (K : PySem.W.Frag) : Bool := decide (PySem.W.exmOne K (.ref (He.ga K d)) (.ref (He.ga K c)) = some b)
def isXBs (c : Str) (ds : List Str) (b : Bool) (K : PySem.W.Frag) : Bool := decide (PySem.W.kitAny K (.ref (He.ga K c)) (ds.map fun x => .ref (He.ga K x)) = some b)
end VF

namespace K11
open PySem PySem.Spec PyProof.Rows L2 VF
def topS (i : Nat) : Stmt := (PySem.Challenge.pw_voicefold_k11_ballots_checked).main.body.getD i (.Pass ⟨0, 0, 0, 0⟩)
abbrev xs_l_cell_at : Stmt := topS 20
abbrev xs_l_well : Stmt := topS 21
abbrev xs_l_draw : Stmt := topS 22
abbrev xs_l_options : Stmt := topS 24
abbrev xs_l_shuffled : Stmt := topS 25
abbrev xs_l_tiers_drawn : Stmt := topS 26
abbrev xs_l_ballot : Stmt := topS 27
abbrev xs_are_unlike : Stmt := topS 11
abbrev xs_are_some_of : Stmt := topS 12
abbrev xs_are_tiers : Stmt := topS 15
abbrev xs_is_whole : Stmt := topS 10
abbrev xs_are_marks : Stmt := topS 16
abbrev xs_is_ballot : Stmt := topS 17
abbrev xs_check_ballot : Stmt := topS 18
abbrev xs_l_told_2 : Stmt := topS 34
abbrev xs_l_one : Stmt := topS 23
abbrev xs_l_odd : Stmt := topS 28
abbrev xs_l_bent_2 : Stmt := topS 29
abbrev xs_l_are_names : Stmt := topS 30
abbrev xs_l_is_order : Stmt := topS 31
abbrev xs_l_are_marks : Stmt := topS 32
abbrev xs_l_is_ballot : Stmt := topS 33
abbrev xs_law_k11 : Stmt := topS 35
/-! ### the head -/
def xd_l_cell_at : He.DefD := ⟨("_law_cell_at", none), "_law_cell_at", "_law_cell_at", defArgs xs_l_cell_at, defBody xs_l_cell_at, defScope xs_l_cell_at, [], []⟩
def xd_l_well : He.DefD := ⟨("_law_well", none), "_law_well", "_law_well", defArgs xs_l_well, defBody xs_l_well, defScope xs_l_well, [], []⟩
def xd_l_draw : He.DefD := ⟨("_law_draw", none), "_law_draw", "_law_draw", defArgs xs_l_draw, defBody xs_l_draw, defScope xs_l_draw, [], []⟩
def xd_l_options : He.DefD := ⟨("_law_options", none), "_law_options", "_law_options", defArgs xs_l_options, defBody xs_l_options, defScope xs_l_options, [], []⟩
def xd_l_shuffled : He.DefD := ⟨("_law_shuffled", none), "_law_shuffled", "_law_shuffled", defArgs xs_l_shuffled, defBody xs_l_shuffled, defScope xs_l_shuffled, [], []⟩
def xd_l_tiers_drawn : He.DefD := ⟨("_law_tiers_drawn", none), "_law_tiers_drawn", "_law_tiers_drawn", defArgs xs_l_tiers_drawn, defBody xs_l_tiers_drawn, defScope xs_l_tiers_drawn, [], []⟩
def xd_l_ballot : He.DefD := ⟨("_law_ballot", none), "_law_ballot", "_law_ballot", defArgs xs_l_ballot, defBody xs_l_ballot, defScope xs_l_ballot, [], []⟩
def xd_are_unlike : He.DefD := ⟨("are_unlike", none), "are_unlike", "are_unlike", defArgs xs_are_unlike, defBody xs_are_unlike, defScope xs_are_unlike, [], []⟩
def xd_are_some_of : He.DefD := ⟨("are_some_of", none), "are_some_of", "are_some_of", defArgs xs_are_some_of, defBody xs_are_some_of, defScope xs_are_some_of, [], []⟩
def xd_are_tiers : He.DefD := ⟨("are_tiers", none), "are_tiers", "are_tiers", defArgs xs_are_tiers, defBody xs_are_tiers, defScope xs_are_tiers, [], []⟩
def xd_is_whole : He.DefD := ⟨("is_whole", none), "is_whole", "is_whole", defArgs xs_is_whole, defBody xs_is_whole, defScope xs_is_whole, [], []⟩
def xd_are_marks : He.DefD := ⟨("are_marks", none), "are_marks", "are_marks", defArgs xs_are_marks, defBody xs_are_marks, defScope xs_are_marks, [], []⟩
def xd_is_ballot : He.DefD := ⟨("is_ballot", none), "is_ballot", "is_ballot", defArgs xs_is_ballot, defBody xs_is_ballot, defScope xs_is_ballot, [], []⟩
def xd_check_ballot : He.DefD := ⟨("check_ballot", none), "check_ballot", "check_ballot", defArgs xs_check_ballot, defBody xs_check_ballot, defScope xs_check_ballot, [], []⟩
def xd_l_told_2 : He.DefD := ⟨("_law_told", none), "_law_told", "_law_told", defArgs xs_l_told_2, defBody xs_l_told_2, defScope xs_l_told_2, [], []⟩
def xd_l_one : He.DefD := ⟨("_law_one", none), "_law_one", "_law_one", defArgs xs_l_one, defBody xs_l_one, defScope xs_l_one, [], []⟩
def xd_l_odd : He.DefD := ⟨("_law_odd", none), "_law_odd", "_law_odd", defArgs xs_l_odd, defBody xs_l_odd, defScope xs_l_odd, [], []⟩
def xd_l_bent_2 : He.DefD := ⟨("_law_bent", none), "_law_bent", "_law_bent", defArgs xs_l_bent_2, defBody xs_l_bent_2, defScope xs_l_bent_2, [], []⟩
def xd_l_are_names : He.DefD := ⟨("_law_are_names", none), "_law_are_names", "_law_are_names", defArgs xs_l_are_names, defBody xs_l_are_names, defScope xs_l_are_names, [], []⟩
def xd_l_is_order : He.DefD := ⟨("_law_is_order", none), "_law_is_order", "_law_is_order", defArgs xs_l_is_order, defBody xs_l_is_order, defScope xs_l_is_order, [], []⟩
def xd_l_are_marks : He.DefD := ⟨("_law_are_marks", none), "_law_are_marks", "_law_are_marks", defArgs xs_l_are_marks, defBody xs_l_are_marks, defScope xs_l_are_marks, [], []⟩
def xd_l_is_ballot : He.DefD := ⟨("_law_is_ballot", none), "_law_is_ballot", "_law_is_ballot", defArgs xs_l_is_ballot, defBody xs_l_is_ballot, defScope xs_l_is_ballot, [], []⟩
def xd_law_k11 : He.DefD := ⟨("law", none), "law", "law", defArgs xs_law_k11, defBody xs_law_k11, defScope xs_law_k11, [], []⟩
abbrev xs_PE : Stmt := inClass (topS 1) 0
def xd_PE : He.DefD := ⟨("PollError", some "__init__"), "__init__", "PollError.__init__", defArgs xs_PE, defBody xs_PE, defScope xs_PE, [.str "refused"], []⟩
def fnL : List He.DefD := [xd_l_cell_at, xd_l_well, xd_l_draw, xd_l_options, xd_l_shuffled, xd_l_tiers_drawn, xd_l_ballot, xd_are_unlike, xd_are_some_of, xd_are_tiers, xd_is_whole, xd_are_marks, xd_is_ballot, xd_check_ballot, xd_l_told_2, xd_l_one, xd_l_odd, xd_l_bent_2, xd_l_are_names, xd_l_is_order, xd_l_are_marks, xd_l_is_ballot, xd_law_k11, xd_PE]
def faL : List He.Fa := [.glo "_law_cell_at", .glo "_law_well", .glo "_law_draw", .glo "_law_options", .glo "_law_shuffled", .glo "_law_tiers_drawn", .glo "_law_ballot", .glo "are_unlike", .glo "are_some_of", .glo "are_tiers", .glo "is_whole", .glo "are_marks", .glo "is_ballot", .glo "check_ballot", .glo "_law_told", .glo "_law_one", .glo "_law_odd", .glo "_law_bent", .glo "_law_are_names", .glo "_law_is_order", .glo "_law_are_marks", .glo "_law_is_ballot", .glo "law", .free "all", .free "bool", .free "enumerate", .free "int", .free "isinstance", .free "len", .free "list", .free "range", .free "repr", .free "str", .free "tuple", .int "MOST_MARK" 9, .glo "BadBallot", .glo "BadClaim", .glo "BadMargins", .glo "BadOrder", .glo "BadPoll", .glo "BadRule", .glo "BadSums", .glo "PollError", .free "ValueError"]
abbrev Rw : PySem.W.OpenRow := PySem.W.OpenLaw.row PySem.Challenge.rw_voicefold_k11_ballots_checked
def fbL : List (PySem.W.Frag → Bool) := [erB "BadBallot" "PollError" "why", hdB "PollError" "BadBallot" true, isXB "BadBallot" "BadBallot" true, isXBs "BadBallot" ["BadClaim", "BadMargins", "BadOrder", "BadPoll", "BadRule", "BadSums"] false]
abbrev hkX : PySem.W.Hook := VF.hookE 4 faL fbL fnL
def obX (s : PySem.W.SharedT) : He.AlD := VF.obsEG 4 faL fbL fnL (HandSHeadRun.getT s)
theorem obX_eq (s : PySem.W.SharedT) : obX s = hkX.obs s.abs := VF.obsEG_eq (HandSHeadRun.getT_eq s)
def nmX : List Str := (["PollError", "BadBallot", "BadPoll", "BadOrder", "BadRule", "BadSums", "BadClaim", "BadMargins", "is_whole", "are_unlike", "are_some_of", "MOST_MARK", "are_tiers", "are_marks", "is_ballot", "check_ballot", "_law_cell_at", "_law_well", "_law_draw", "_law_one", "_law_options", "_law_shuffled", "_law_tiers_drawn", "_law_ballot", "_law_odd", "_law_bent", "_law_are_names", "_law_is_order", "_law_are_marks", "_law_is_ballot"] : List Str) ++ (["_law_told"] : List Str)
theorem runX (w : World) : HandSHeadRun.RunEq Rw (PySem.W.view Rw.prog [35]) hkX obX 20000 nmX w := by
  intro os
  kernel_rfl
end K11

namespace VF
open PySem PySem.Spec PyProof.Rows L2
abbrev St := L2.St

/-- data by value -/
inductive D where
  | non
  | bl (b : Bool)
  | int (i : Int)
  | str (x : Str)
  | tup (xs : List D)
  | lst (xs : List D)
  | dck (ks : List Key) (ds : List D)
  | dct (ks : List (List Key)) (ds : List D)
  | ins (c : Str) (fs : List Str) (ds : List D)
  | exn (c : Str) (fs : List Str) (ds : List D) (a dx : Addr)
  | tpp (xs : List D)

/-- an error that is handled: the slot of its name, its address, its dict's, its fields -/
structure Xn where
  i : Nat
  a : Addr
  dx : Addr
  fs : List Str
  ds : List D
/-- the module: its written part, its names -/
structure Md where
  P : Program
  w : World
  base : Heap
  K : PySem.W.Frag
  mg : Str → Option Value
  cls : List Str
  xn : Option Xn
  T : List (Addr × Str)

/-- a list of the module -/
def KLst (K : PySem.W.Frag) (a : Addr) (vs : List V) : Prop := ∃ (o : Obj) (its : Array Value) (n : Nat), K.lookup a = some o ∧ o.cls = .type "list" ∧ o.dict = none ∧ o.data = .seq its n ∧ its.size ≤ sizeLine ∧ Vals vs its.toList
mutual
/-- d stands at v; F: the addresses that are never written any more -/
def Rep (M : Md) (F : Addr → Prop) (H : Hp) : D → V → Prop
  | .non, v => v = .non
  | .bl b, v => v = .bl b
  | .int i, v => v = .int i
  | .str x, v => v = .str x
  | .tup ds, v => ∃ a vs, v = .ref a ∧ (SqT M.K H a vs ∧ (ds.length = 2 → H a = some (.tup vs))) ∧ RepL M F H ds vs
  | .lst ds, v => ∃ a vs, v = .ref a ∧ ((F a ∧ Rd H a (.lst vs)) ∨ KLst M.K a vs) ∧ RepL M F H ds vs
  | .dck ks ds, v => ∃ a vs, v = .ref a ∧ F a ∧ Rd H a (.dK vs) ∧ vs.map (·.1) = ks ∧ RepL M F H ds (vs.map (·.2))
  | .dct ks ds, v => ∃ a vs, v = .ref a ∧ F a ∧ Rd H a (.dT vs) ∧ vs.map (·.1) = ks ∧ RepL M F H ds (vs.map (·.2))
  | .ins c fs ds, v => ∃ a C dx vs, v = .ref a ∧ F a ∧ (c ∈ M.cls ∧ M.mg c = some (.ref C)) ∧ H a = some (.ins C dx vs) ∧ vs.map (·.1) = fs ∧ RepL M F H ds (vs.map (·.2))
  | .exn c fs ds a dx, v => v = .ref a ∧ ∃ C vs, M.mg c = some (.ref C) ∧ F dx ∧ H dx = some (.xd vs) ∧ vs.map (·.1) = fs ∧ RepL M F H ds (vs.map (·.2))
  | .tpp ds, v => ∃ a vs o, v = .ref a ∧ F a ∧ H a = some (.frz o (.tup vs)) ∧ o.dict = none ∧ RepL M F H ds vs
def RepL (M : Md) (F : Addr → Prop) (H : Hp) : List D → List V → Prop
  | [], vs => vs = []
  | d :: ds, vs => ∃ v r, vs = v :: r ∧ Rep M F H d v ∧ RepL M F H ds r
end

/-- a dict -/
def IsDD : HO → Prop
  | .dK _ => True
  | .dT _ => True
  | _ => False
/-- a dict, or a code object's table -/
def IsDH : HO → Prop
  | .dK _ => True
  | .dT _ => True
  | .tbl _ => True
  | _ => False
def nTB : HO → Prop
  | .tbl _ => False
  | _ => True
theorem IsDD.h {o : HO} (h : IsDD o) : IsDH o := by
  unfold IsDD at h
  split at h
  · trivial
  · trivial
  · exact h.elim
/-- a table of code objects that bear the name q, all of them frozen -/
def TabF (F : Addr → Prop) (H : Hp) (P : Addr) (q : Str) : Prop := F P ∧ ∃ ps : Array Value, H P = some (.tbl ps) ∧ TriplesOk ps.toList ∧ ∀ (pos : Pos) (cv : Value), codeAmong pos ps.toList = some cv → ∃ c, cv = .ref c ∧ F c ∧ H c = some (LamX.CodeO c q)
theorem TabF.kept {F F' : Addr → Prop} {H H' : Hp} (f : ∀ a, F a → F' a) (k : ∀ a o, F a → H a = some o → ¬ IsDD o → H' a = some o) {P : Addr} {q : Str} (t : TabF F H P q) : TabF F' H' P q := by
  unfold TabF at t ⊢
  rcases t with ⟨h0, ps, h1, h2, h3⟩
  have n1 : ¬ IsDD (.tbl ps) := fun z => z
  have e1 : H' P = some (.tbl ps) := k P (.tbl ps) h0 h1 n1
  have e3 : ∀ (pos : Pos) (cv : Value), codeAmong pos ps.toList = some cv → ∃ c, cv = .ref c ∧ F' c ∧ H' c = some (LamX.CodeO c q) := fun pos cv hc => by
    obtain ⟨c, e, hf, hco⟩ := h3 pos cv hc
    have n2 : ¬ IsDD (LamX.CodeO c q) := fun z => z
    exact ⟨c, e, f c hf, k c (LamX.CodeO c q) hf hco n2⟩
  exact And.intro (f P h0) (Exists.intro ps (And.intro e1 (And.intro h2 e3)))
/-- what becomes of an object that nobody writes: it stays; a frozen dict may be locked, a table may grow -/
def Kpd (f : Prop) (o : HO) (x : Option HO) : Prop := x = some o ∨ (f ∧ IsDH o ∧ ((IsDD o ∧ ∃ od, x = some (.frz od o)) ∨ ∃ ps ps', o = .tbl ps ∧ x = some (.tbl ps')))
theorem Kpd.no {f : Prop} {o : HO} {x : Option HO} (h : Kpd f o x) (n : ¬ f) : x = some o := h.elim id fun z => (n z.1).elim
theorem Kpd.nd {f : Prop} {o : HO} {x : Option HO} (h : Kpd f o x) (n : ¬ IsDH o) : x = some o := h.elim id fun z => (n z.2.1).elim
/-- what stands on: the frozen ones and the tuples are as they were -/
structure Ext (F : Addr → Prop) (H : Hp) (F' : Addr → Prop) (H' : Hp) : Prop where
  fro : ∀ a, F a → F' a
  rd : ∀ a u, F a → nTB u → Rd H a u → Rd H' a u
  ex : ∀ a o, F a → ¬ IsDH o → H a = some o → H' a = some o
  tup : ∀ a vs, Rd H a (.tup vs) → Rd H' a (.tup vs)
  tp : ∀ a vs, H a = some (.tup vs) → H' a = some (.tup vs)
theorem Ext.refl (F : Addr → Prop) (H : Hp) : Ext F H F H := ⟨fun _ h => h, fun _ _ _ _ h => h, fun _ _ _ _ h => h, fun _ _ h => h, fun _ _ h => h⟩
theorem Ext.trans {F F1 F2 : Addr → Prop} {H H1 H2 : Hp} (a : Ext F H F1 H1) (b : Ext F1 H1 F2 H2) : Ext F H F2 H2 :=
  ⟨fun x h => b.fro x (a.fro x h), fun x u h n r => b.rd x u (a.fro x h) n (a.rd x u h n r), fun x o h n r => b.ex x o (a.fro x h) n (a.ex x o h n r), fun x vs r => b.tup x vs (a.tup x vs r), fun x vs r => b.tp x vs (a.tp x vs r)⟩
theorem Ext.sqT {F F' : Addr → Prop} {H H' : Hp} (x : Ext F H F' H') {K : PySem.W.Frag} {a : Addr} {vs : List V} (h : SqT K H a vs) : SqT K H' a vs :=
  h.elim (fun r => .inl (x.tup a vs r)) .inr

mutual
theorem Rep.mono {M : Md} {F F' : Addr → Prop} {H H' : Hp} (x : Ext F H F' H') : ∀ (d : D) {v : V}, Rep M F H d v → Rep M F' H' d v
  | .non, _, h => by unfold Rep at h ⊢; exact h
  | .bl _, _, h => by unfold Rep at h ⊢; exact h
  | .int _, _, h => by unfold Rep at h ⊢; exact h
  | .str _, _, h => by unfold Rep at h ⊢; exact h
  | .tup ds, _, h => by
    unfold Rep at h ⊢
    obtain ⟨a, vs, e, q, r⟩ := h
    exact ⟨a, vs, e, ⟨x.sqT q.1, fun z => x.tp a vs (q.2 z)⟩, RepL.mono x ds r⟩
  | .lst ds, _, h => by
    unfold Rep at h ⊢
    obtain ⟨a, vs, e, q, r⟩ := h
    exact ⟨a, vs, e, q.imp (fun q => ⟨x.fro a q.1, x.rd a _ q.1 trivial q.2⟩) id, RepL.mono x ds r⟩
  | .dck ks ds, _, h => by
    unfold Rep at h ⊢
    obtain ⟨a, vs, e, f, q, k, r⟩ := h
    exact ⟨a, vs, e, x.fro a f, x.rd a _ f trivial q, k, RepL.mono x ds r⟩
  | .dct ks ds, _, h => by
    unfold Rep at h ⊢
    obtain ⟨a, vs, e, f, q, k, r⟩ := h
    exact ⟨a, vs, e, x.fro a f, x.rd a _ f trivial q, k, RepL.mono x ds r⟩
  | .ins c fs ds, _, h => by
    unfold Rep at h ⊢
    obtain ⟨a, C, dx, vs, e, f, m, q, k, r⟩ := h
    exact ⟨a, C, dx, vs, e, x.fro a f, m, x.ex a _ f (fun z => z) q, k, RepL.mono x ds r⟩
  | .exn c fs ds a dx, _, h => by
    unfold Rep at h ⊢
    obtain ⟨e, C, vs, m, f, q, k, r⟩ := h
    exact ⟨e, C, vs, m, x.fro dx f, x.ex dx _ f (fun z => z) q, k, RepL.mono x ds r⟩
  | .tpp ds, _, h => by
    unfold Rep at h ⊢
    obtain ⟨a, vs, o, e, f, q, n, r⟩ := h
    exact ⟨a, vs, o, e, x.fro a f, x.ex a _ f (fun z => z) q, n, RepL.mono x ds r⟩
theorem RepL.mono {M : Md} {F F' : Addr → Prop} {H H' : Hp} (x : Ext F H F' H') : ∀ (ds : List D) {vs : List V}, RepL M F H ds vs → RepL M F' H' ds vs
  | [], _, h => by unfold RepL at h ⊢; exact h
  | d :: ds, _, h => by
    unfold RepL at h ⊢
    obtain ⟨v, r, e, p, q⟩ := h
    exact ⟨v, r, e, Rep.mono x d p, RepL.mono x ds q⟩
end

/-- what stands at an address, by what is known of the object there -/
def Cont (M : Md) (F : Addr → Prop) (H : Hp) (P : HO → Prop) : D → Prop
  | .lst ds => ∃ vs, P (.lst vs) ∧ RepL M F H ds vs
  | .dck ks ds => ∃ vs, P (.dK vs) ∧ vs.map (·.1) = ks ∧ RepL M F H ds (vs.map (·.2))
  | .dct ks ds => ∃ vs, P (.dT vs) ∧ vs.map (·.1) = ks ∧ RepL M F H ds (vs.map (·.2))
  | .ins c fs ds => ∃ C dx vs, (c ∈ M.cls ∧ M.mg c = some (.ref C)) ∧ P (.ins C dx vs) ∧ vs.map (·.1) = fs ∧ RepL M F H ds (vs.map (·.2))
  | _ => False
theorem Cont.mono {M : Md} {F F' : Addr → Prop} {H H' : Hp} {P P' : HO → Prop} (x : Ext F H F' H') (hp : ∀ u, P u → P' u) : ∀ {d : D}, Cont M F H P d → Cont M F' H' P' d
  | .lst ds, ⟨vs, p, r⟩ => ⟨vs, hp _ p, RepL.mono x ds r⟩
  | .dck ks ds, ⟨vs, p, k, r⟩ => ⟨vs, hp _ p, k, RepL.mono x ds r⟩
  | .dct ks ds, ⟨vs, p, k, r⟩ => ⟨vs, hp _ p, k, RepL.mono x ds r⟩
  | .ins c fs ds, ⟨C, dx, vs, m, p, k, r⟩ => ⟨C, dx, vs, m, hp _ p, k, RepL.mono x ds r⟩
theorem Cont.some_of {M : Md} {F : Addr → Prop} {H : Hp} {P : HO → Prop} : ∀ {d : D}, Cont M F H P d → ∃ u, P u ∧ Mut (some u)
  | .lst ds, ⟨vs, p, r⟩ => ⟨_, p, trivial⟩
  | .dck ks ds, ⟨vs, p, k, r⟩ => ⟨_, p, trivial⟩
  | .dct ks ds, ⟨vs, p, k, r⟩ => ⟨_, p, trivial⟩
  | .ins c fs ds, ⟨C, dx, vs, m, p, k, r⟩ => ⟨_, p, trivial⟩
/-- frozen -/
theorem Cont.rep {M : Md} {F : Addr → Prop} {H : Hp} {a : Addr} (f : F a) : ∀ {d : D}, Cont M F H (fun u => H a = some u) d → Rep M F H d (.ref a)
  | .lst ds, ⟨vs, p, r⟩ => by unfold Rep; exact ⟨a, vs, rfl, .inl ⟨f, .inl p⟩, r⟩
  | .dck ks ds, ⟨vs, p, k, r⟩ => by unfold Rep; exact ⟨a, vs, rfl, f, .inl p, k, r⟩
  | .dct ks ds, ⟨vs, p, k, r⟩ => by unfold Rep; exact ⟨a, vs, rfl, f, .inl p, k, r⟩
  | .ins c fs ds, ⟨C, dx, vs, m, p, k, r⟩ => by unfold Rep; exact ⟨a, C, dx, vs, rfl, f, m, p, k, r⟩

def noIns : HO → Bool
  | .ins _ _ _ => false
  | _ => true
/-- read, perhaps locked (no instance is) -/
def Rdx (H : Hp) (a : Addr) (u : HO) : Prop := H a = some u ∨ ∃ o, H a = some (.frz o u) ∧ noIns u = true
theorem Rdx.rd {H : Hp} {a : Addr} {u : HO} (h : Rdx H a u) : Rd H a u := h.elim .inl fun ⟨o, e, _⟩ => .inr ⟨o, e⟩
theorem Rdx.ins {H : Hp} {a C dx : Addr} {fs : List (Str × V)} (h : Rdx H a (.ins C dx fs)) : H a = some (.ins C dx fs) := h.elim id fun ⟨o, _, e⟩ => by cases e
/-- a slot: a value; an object of one's own; a caller's object; one that is read alone -/
inductive Sl where
  | val (d : D)
  | own (d : D)
  | ref (d : D)
  | rd (d : D)
def Sl.d : Sl → D
  | .val d => d
  | .own d => d
  | .ref d => d
  | .rd d => d
abbrev En := List (Option Sl)
def gt (ρ : En) (i : Nat) : Option Sl := (ρ[i]?).join
def gv (σ : St) (i : Nat) : Option V := (σ[i]?).join
def SlR (M : Md) (F : Addr → Prop) (H : Hp) : Sl → V → Prop
  | .val d, v => Rep M F H d v
  | .own d, v => ∃ a, v = .ref a ∧ ¬ F a ∧ Cont M F H (fun u => H a = some u) d
  | .ref d, v => ∃ a, v = .ref a ∧ ¬ F a ∧ Cont M F H (fun u => H a = some u) d
  | .rd d, v => ∃ a, v = .ref a ∧ ¬ F a ∧ Cont M F H (Rdx H a) d
def Sl.top : Sl → Bool
  | .val _ => false
  | _ => true
/-- the addresses of own objects, of a caller's -/
def OwnAt (σ : St) (ρ : En) (a : Addr) : Prop := ∃ i d, gt ρ i = some (.own d) ∧ gv σ i = some (.ref a)
def RefAt (σ : St) (ρ : En) (a : Addr) : Prop := ∃ i d, gt ρ i = some (.ref d) ∧ gv σ i = some (.ref a)

/-- what stands of the error that is handled -/
def TabOk (M : Md) (F : Addr → Prop) (H : Hp) : Prop := ∀ p ∈ M.T, TabF F H p.1 p.2
/-- .. and of the tables -/
def XnOk (M : Md) (F : Addr → Prop) (H : Hp) (σ : St) : Prop := (∀ t, M.xn = some t → gv σ t.i = some (.ref t.a) ∧ F t.dx ∧ ∃ vs, H t.dx = some (.xd vs) ∧ vs.map (·.1) = t.fs ∧ RepL M F H t.ds (vs.map (·.2))) ∧ TabOk M F H
theorem XnOk.ext {M : Md} {F F' : Addr → Prop} {H H' : Hp} {σ : St} (h : XnOk M F H σ) (x : Ext F H F' H') (ht : ∀ P q, TabF F H P q → TabF F' H' P q) : XnOk M F' H' σ := ⟨fun t e => by
  obtain ⟨h1, h2, vs, h3, h4, h5⟩ := h.1 t e
  exact ⟨h1, x.fro _ h2, vs, x.ex _ _ h2 (fun z => z) h3, h4, RepL.mono x _ h5⟩, fun p hp => ht _ _ (h.2 p hp)⟩
theorem XnOk.extT {M : Md} {F F' : Addr → Prop} {H H' : Hp} {σ : St} (h : XnOk M F H σ) (x : Ext F H F' H') (ht : TabOk M F' H') : XnOk M F' H' σ := ⟨fun t e => by
  obtain ⟨h1, h2, vs, h3, h4, h5⟩ := h.1 t e
  exact ⟨h1, x.fro _ h2, vs, x.ex _ _ h2 (fun z => z) h3, h4, RepL.mono x _ h5⟩, ht⟩
theorem XnOk.at {M : Md} {F : Addr → Prop} {H : Hp} {σ σ' : St} (h : XnOk M F H σ) (e : ∀ t, M.xn = some t → gv σ' t.i = gv σ t.i) : XnOk M F H σ' := ⟨fun t q => by
  obtain ⟨h1, h2⟩ := h.1 t q
  exact ⟨(e t q).trans h1, h2⟩, h.2⟩
theorem XnOk.no {M : Md} {F : Addr → Prop} {H : Hp} {σ : St} (h : M.xn = none) (t : TabOk M F H) : XnOk M F H σ := ⟨fun t q => (by
  rw [h] at q
  cases q), t⟩
/-- the slots tell the state -/
structure SR (M : Md) (F : Addr → Prop) (H : Hp) (σ : St) (ρ : En) : Prop where
  len : σ.length = ρ.length
  dom : ∀ a, F a → H a ≠ none
  slot : ∀ i s, gt ρ i = some s → ∃ v, gv σ i = some v ∧ SlR M F H s v
  dist : ∀ i j s t a, gt ρ i = some s → gt ρ j = some t → s.top = true → t.top = true → gv σ i = some (.ref a) → gv σ j = some (.ref a) → i = j
  xn : XnOk M F H σ

/-- a step of the heap -/
structure Stp (F : Addr → Prop) (H : Hp) (O R : Addr → Prop) (F' : Addr → Prop) (H' : Hp) (O' R' : Addr → Prop) : Prop where
  fro : ∀ a, F a → F' a
  keep : ∀ a o, H a = some o → ¬ O a → ¬ R a → Kpd (F a) o (H' a)
  dom : ∀ a, H' a = none → H a = none
  new : ∀ a, F' a → F a ∨ H a = none ∨ O a
  own : ∀ a, O' a → O a ∨ H a = none
  ref : ∀ a, R' a → R a
theorem Stp.refl (F : Addr → Prop) (H : Hp) (O R : Addr → Prop) : Stp F H O R F H O R := ⟨fun _ h => h, fun _ _ h _ _ => .inl h, fun _ h => h, fun _ h => .inl h, fun _ h => .inl h, fun _ h => h⟩
theorem Stp.trans {F F1 F2 O R O1 R1 O2 R2 : Addr → Prop} {H H1 H2 : Hp} (x : Stp F H O R F1 H1 O1 R1) (y : Stp F1 H1 O1 R1 F2 H2 O2 R2) : Stp F H O R F2 H2 O2 R2 := by
  refine ⟨fun a h => y.fro a (x.fro a h), fun a o h1 h2 h3 => ?_, fun a h => x.dom a (y.dom a h), fun a h => ?_, fun a h => ?_, fun a h => x.ref a (y.ref a h)⟩
  · have n1 : ¬ O1 a := fun z => by
      rcases x.own a z with q | q
      · exact h2 q
      · rw [h1] at q; cases q
    have n2 : ¬ R1 a := fun z => h3 (x.ref a z)
    have fb : F1 a → F a := fun f => by
      rcases x.new a f with q | q | q
      · exact q
      · rw [h1] at q; cases q
      · exact (h2 q).elim
    rcases x.keep a o h1 h2 h3 with e | ⟨f, id, ⟨dd, od, e⟩ | ⟨ps, ps1, eo, e⟩⟩
    · rcases y.keep a o e n1 n2 with e2 | ⟨f, r⟩
      · exact .inl e2
      · exact .inr ⟨fb f, r⟩
    · exact .inr ⟨f, id, .inl ⟨dd, od, (y.keep a _ e n1 n2).nd fun z => z⟩⟩
    · rcases y.keep a _ e n1 n2 with e2 | ⟨_, _, ⟨z, _⟩ | ⟨_, ps2, _, e2⟩⟩
      · exact .inr ⟨f, id, .inr ⟨ps, ps1, eo, e2⟩⟩
      · exact z.elim
      · exact .inr ⟨f, id, .inr ⟨ps, ps2, eo, e2⟩⟩
  · rcases y.new a h with q | q | q
    · exact x.new a q
    · exact .inr (.inl (x.dom a q))
    · rcases x.own a q with z | z
      · exact .inr (.inr z)
      · exact .inr (.inl z)
  · rcases y.own a h with q | q
    · exact x.own a q
    · exact .inr (x.dom a q)

section
variable {M : Md} {F F' : Addr → Prop} {H H' : Hp} {σ σ' : St} {ρ ρ' : En}
theorem SR.own_at (s : SR M F H σ ρ) {a : Addr} (h : OwnAt σ ρ a) : ¬ F a ∧ ∃ u, H a = some u ∧ Mut (some u) := by
  obtain ⟨i, d, h1, h2⟩ := h
  obtain ⟨v, h3, b, e, nf, c⟩ := s.slot i _ h1
  rw [h2] at h3
  cases h3
  cases e
  exact ⟨nf, c.some_of⟩
theorem SR.ref_at (s : SR M F H σ ρ) {a : Addr} (h : RefAt σ ρ a) : ¬ F a ∧ ∃ u, H a = some u ∧ Mut (some u) := by
  obtain ⟨i, d, h1, h2⟩ := h
  obtain ⟨v, h3, b, e, nf, c⟩ := s.slot i _ h1
  rw [h2] at h3
  cases h3
  cases e
  exact ⟨nf, c.some_of⟩
theorem SR.no_tup (s : SR M F H σ ρ) {a : Addr} {vs : List V} (h : Rd H a (.tup vs)) : ¬ OwnAt σ ρ a ∧ ¬ RefAt σ ρ a := by
  have key : ∀ u, H a = some u → Mut (some u) → False := fun u e m => by
    rcases h with h | ⟨o, h⟩
    · rw [h] at e; cases e; exact m
    · rw [h] at e; cases e; exact m
  exact ⟨fun z => by obtain ⟨_, u, e, m⟩ := s.own_at z; exact key u e m, fun z => by obtain ⟨_, u, e, m⟩ := s.ref_at z; exact key u e m⟩
theorem SR.ext (s : SR M F H σ ρ) {O' R' : Addr → Prop} (x : Stp F H (OwnAt σ ρ) (RefAt σ ρ) F' H' O' R') : Ext F H F' H' := by
  have k : ∀ a o, F a → H a = some o → Kpd (F a) o (H' a) := fun a o f e => x.keep a o e (fun z => (s.own_at z).1 f) fun z => (s.ref_at z).1 f
  refine ⟨x.fro, fun a u f nt r => ?_, fun a o f n e => (k a _ f e).nd n, fun a vs r => ?_, fun a vs r => (x.keep a _ r (s.no_tup (.inl r)).1 (s.no_tup (.inl r)).2).nd fun z => z⟩
  · rcases r with r | ⟨o, r⟩
    · rcases k a _ f r with e | ⟨_, _, ⟨_, od, e⟩ | ⟨ps, _, e, _⟩⟩
      · exact .inl e
      · exact .inr ⟨od, e⟩
      · rw [e] at nt; exact nt.elim
    · exact .inr ⟨o, (k a _ f r).nd fun z => z⟩
  · obtain ⟨n1, n2⟩ := s.no_tup r
    rcases r with r | ⟨o, r⟩
    · exact .inl ((x.keep a _ r n1 n2).nd fun z => z)
    · exact .inr ⟨o, (x.keep a _ r n1 n2).nd fun z => z⟩
end

/-- how a slot may change within an expression -/
def KpS : Option Sl → Option Sl → Prop
  | none, none => True
  | some (.val d), some (.val d') => d = d'
  | some (.own _), some (.own _) => True
  | some (.own _), some (.val _) => True
  | some (.ref _), some (.ref _) => True
  | some (.rd d), some (.rd d') => d = d'
  | _, _ => False
def Kp (ρ ρ' : En) : Prop := ρ.length = ρ'.length ∧ ∀ i, KpS (gt ρ i) (gt ρ' i)
theorem KpS.refl : ∀ s : Option Sl, KpS s s
  | none => trivial
  | some (.val _) => rfl
  | some (.own _) => trivial
  | some (.ref _) => trivial
  | some (.rd _) => rfl
theorem KpS.trans : ∀ {s t u : Option Sl}, KpS s t → KpS t u → KpS s u
  | none, none, none, _, _ => trivial
  | some (.val _), some (.val _), some (.val _), a, b => Eq.trans a b
  | some (.own _), some (.own _), some (.own _), _, _ => trivial
  | some (.own _), some (.own _), some (.val _), _, _ => trivial
  | some (.own _), some (.val _), some (.val _), _, _ => trivial
  | some (.ref _), some (.ref _), some (.ref _), _, _ => trivial
  | some (.rd _), some (.rd _), some (.rd _), a, b => Eq.trans a b
theorem Kp.refl (ρ : En) : Kp ρ ρ := ⟨rfl, fun _ => .refl _⟩
theorem Kp.trans {ρ ρ1 ρ2 : En} (a : Kp ρ ρ1) (b : Kp ρ1 ρ2) : Kp ρ ρ2 := ⟨a.1.trans b.1, fun i => (a.2 i).trans (b.2 i)⟩
theorem Kp.own {ρ ρ' : En} (k : Kp ρ ρ') {σ : St} {a : Addr} (h : OwnAt σ ρ' a) : OwnAt σ ρ a := by
  obtain ⟨i, d, h1, h2⟩ := h
  have z := k.2 i
  rw [h1] at z
  cases e : gt ρ i with
  | none => rw [e] at z; exact z.elim
  | some s =>
    rw [e] at z
    cases s with
    | own d' => exact ⟨i, d', e, h2⟩
    | _ => exact z.elim
theorem Kp.ref {ρ ρ' : En} (k : Kp ρ ρ') {σ : St} {a : Addr} (h : RefAt σ ρ' a) : RefAt σ ρ a := by
  obtain ⟨i, d, h1, h2⟩ := h
  have z := k.2 i
  rw [h1] at z
  cases e : gt ρ i with
  | none => rw [e] at z; exact z.elim
  | some s =>
    rw [e] at z
    cases s with
    | ref d' => exact ⟨i, d', e, h2⟩
    | _ => exact z.elim
/-- behind an expression -/
structure Po (M : Md) (F : Addr → Prop) (H : Hp) (σ : St) (ρ : En) (F' : Addr → Prop) (H' : Hp) (ρ' : En) : Prop where
  stp : Stp F H (OwnAt σ ρ) (RefAt σ ρ) F' H' (OwnAt σ ρ') (RefAt σ ρ')
  sr : SR M F' H' σ ρ'
  kp : Kp ρ ρ'
section
variable {M : Md} {F F1 F2 : Addr → Prop} {H H1 H2 : Hp} {σ : St} {ρ ρ1 ρ2 : En}
theorem Po.refl (s : SR M F H σ ρ) : Po M F H σ ρ F H ρ := ⟨.refl _ _ _ _, s, .refl _⟩
theorem Po.trans (a : Po M F H σ ρ F1 H1 ρ1) (b : Po M F1 H1 σ ρ1 F2 H2 ρ2) : Po M F H σ ρ F2 H2 ρ2 :=
  ⟨a.stp.trans b.stp, b.sr, a.kp.trans b.kp⟩
theorem Po.ext (s : SR M F H σ ρ) (a : Po M F H σ ρ F1 H1 ρ1) : Ext F H F1 H1 := s.ext a.stp
end

/-- an exception: its class's name, its fields -/
structure Ex where
  cls : Str
  fs : List Str
  ds : List D
def ExR (M : Md) (F : Addr → Prop) (H : Hp) (x : Ex) (cls : Value) (d : Option Addr) : Prop :=
  ∃ C dx vs, M.mg x.cls = some (.ref C) ∧ cls = .ref C ∧ d = some dx ∧ F dx ∧ H dx = some (.xd vs) ∧ vs.map (·.1) = x.fs ∧ RepL M F H x.ds (vs.map (·.2))

/-- what an expression comes to: a value, an object just made -/
inductive Rv where
  | val (d : D)
  | own (d : D)
def Rv.d : Rv → D
  | .val d => d
  | .own d => d
def RvR (M : Md) (H0 : Hp) (F : Addr → Prop) (H : Hp) : Rv → V → Prop
  | .val d, v => Rep M F H d v
  | .own d, v => ∃ a, v = .ref a ∧ ¬ F a ∧ H0 a = none ∧ Cont M F H (fun u => H a = some u) d

inductive Out (α : Type) where
  | ok (a : α) (ρ : En)
  | exc (x : Ex) (ρ : En)
  | bad
def Out.bind {α β : Type} (o : Out α) (f : α → En → Out β) : Out β := match o with
  | .ok a ρ => f a ρ
  | .exc x ρ => .exc x ρ
  | .bad => .bad
abbrev ES := En → Out Rv

/-- what is wanted of an outcome -/
def Want {α : Type} (M : Md) (W : WX) (F : Addr → Prop) (H : Hp) (σ : St) (ρ : En) (o : Out α) (Q : α → (Addr → Prop) → Hp → En → Prop) : Prop := match o with
  | .ok a ρ' => ∀ F' H', Po M F H σ ρ F' H' ρ' → Q a F' H' ρ'
  | .exc x ρ' => ∀ F' H' cls d, Po M F H σ ρ F' H' ρ' → ExR M F' H' x cls d → W cls d σ H'
  | .bad => False
/-- the reading of an expression -/
def tE (M : Md) (W : WX) (φ : ES) : TE := fun σ H Q => ∃ F ρ, SR M F H σ ρ ∧ Want M W F H σ ρ (φ ρ) fun r F' H' _ => ∀ v, RvR M H F' H' r v → Q v H'
end VF

namespace VF
open PySem PySem.Spec PyProof.Rows L2

theorem PE_imp {X : Cx} {e : Expr} {t t' : TE} (h : PE X e t) (f : ∀ σ H Q, t' σ H Q → t σ H Q) : PE X e t' := ⟨fun pins s σ H Q I q => h.run pins s σ H Q I (f σ H Q q)⟩
theorem PT_imp {X : Cx} {e : Expr} {t t' : TT} (h : PT X e t) (f : ∀ σ H Q, t' σ H Q → t σ H Q) : PT X e t' := ⟨fun pins s σ H Q I q => h.run pins s σ H Q I (f σ H Q q)⟩
theorem PW_imp {X : Cx} {e : Expr} {t t' : TT} (h : PW X e t) (f : ∀ σ H Q, t' σ H Q → t σ H Q) : PW X e t' := ⟨fun whole pins s σ H Q I q => h.run whole pins s σ H Q I (f σ H Q q)⟩
theorem PS_imp {X : Cx} {e : Stmt} {t t' : TS} (h : PS X e t) (f : ∀ D σ H, t' D σ H → t D σ H) : PS X e t' := ⟨fun pins s σ H D I q => h.run pins s σ H D I (f D σ H q)⟩
theorem PSs_imp {X : Cx} {e : List Stmt} {t t' : TS} (h : PSs X e t) (f : ∀ D σ H, t' D σ H → t D σ H) : PSs X e t' := ⟨fun pins s σ H D I q => h.run pins s σ H D I (f D σ H q)⟩

theorem gt_set_self {ρ : En} {i : Nat} {s : Option Sl} (h : i < ρ.length) : gt (ρ.set i s) i = s := by
  unfold gt
  rw [List.getElem?_set_self h]
  rfl
theorem gt_set_ne {ρ : En} {i j : Nat} {s : Option Sl} (h : i ≠ j) : gt (ρ.set i s) j = gt ρ j := by
  unfold gt
  rw [List.getElem?_set_ne h]
theorem gv_set_self {σ : St} {i : Nat} {s : Option V} (h : i < σ.length) : gv (σ.set i s) i = s := by
  unfold gv
  rw [List.getElem?_set_self h]
  rfl
theorem gv_set_ne {σ : St} {i j : Nat} {s : Option V} (h : i ≠ j) : gv (σ.set i s) j = gv σ j := by
  unfold gv
  rw [List.getElem?_set_ne h]
theorem gt_lt {ρ : En} {i : Nat} {s : Sl} (h : gt ρ i = some s) : i < ρ.length := by
  unfold gt at h
  cases e : ρ[i]? with
  | none => rw [e] at h; cases h
  | some x => exact (List.getElem?_eq_some_iff.mp e).1
theorem gv_some {σ : St} {i : Nat} {v : V} (h : gv σ i = some v) : σ[i]? = some (some v) := by
  unfold gv at h
  cases e : σ[i]? with
  | none => rw [e] at h; cases h
  | some x => rw [e] at h; cases x with
    | none => cases h
    | some y => rw [show y = v from Option.some.inj h]
section
variable {M : Md} {F F' : Addr → Prop} {H H' : Hp} {σ : St} {ρ ρ' : En}
/-- a top slot's address stands in the heap -/
theorem SR.top_at (s : SR M F H σ ρ) {i : Nat} {t : Sl} (h : gt ρ i = some t) (ht : t.top = true) : ∃ a u, gv σ i = some (.ref a) ∧ ¬ F a ∧ H a = some u := by
  obtain ⟨v, e, r⟩ := s.slot i t h
  cases t with
  | val d => cases ht
  | own d =>
    obtain ⟨a, rfl, nf, c⟩ := r
    obtain ⟨u, q, _⟩ := c.some_of
    exact ⟨a, u, e, nf, q⟩
  | ref d =>
    obtain ⟨a, rfl, nf, c⟩ := r
    obtain ⟨u, q, _⟩ := c.some_of
    exact ⟨a, u, e, nf, q⟩
  | rd d =>
    obtain ⟨a, rfl, nf, c⟩ := r
    obtain ⟨u, q, _⟩ := c.some_of
    rcases q with q | ⟨o, q, _⟩
    · exact ⟨a, _, e, nf, q⟩
    · exact ⟨a, _, e, nf, q⟩
theorem Kp.top_of (k : Kp ρ ρ') {i : Nat} {t : Sl} (h : gt ρ' i = some t) (ht : t.top = true) : ∃ t', gt ρ i = some t' ∧ t'.top = true := by
  have z := k.2 i
  rw [h] at z
  cases e : gt ρ i with
  | none => rw [e] at z; exact z.elim
  | some s =>
    rw [e] at z
    refine ⟨s, rfl, ?_⟩
    cases s with
    | val d => cases t with
      | val d' => cases ht
      | _ => exact z.elim
    | _ => rfl
/-- more is frozen, all tops apart -/
theorem SR.froX (s : SR M F H σ ρ) (x : Ext F H F' H') (hk : ∀ i t a o, gt ρ i = some t → t.top = true → gv σ i = some (.ref a) → H a = some o → ¬ F' a ∧ H' a = some o) (hd : ∀ a, F' a → H' a ≠ none) (hx : XnOk M F' H' σ) : SR M F' H' σ ρ := by
  refine ⟨s.len, hd, fun i t h => ?_, s.dist, hx⟩
  obtain ⟨v, e, r⟩ := s.slot i t h
  refine ⟨v, e, ?_⟩
  cases t with
  | val d => exact Rep.mono x d r
  | own d =>
    obtain ⟨a, rfl, nf, c⟩ := r
    obtain ⟨u, q, _⟩ := c.some_of
    obtain ⟨k1, k2⟩ := hk i _ a _ h rfl e q
    exact ⟨a, rfl, k1, c.mono x fun w (hw : H a = some w) => by rw [q] at hw; cases hw; exact k2⟩
  | ref d =>
    obtain ⟨a, rfl, nf, c⟩ := r
    obtain ⟨u, q, _⟩ := c.some_of
    obtain ⟨k1, k2⟩ := hk i _ a _ h rfl e q
    exact ⟨a, rfl, k1, c.mono x fun w (hw : H a = some w) => by rw [q] at hw; cases hw; exact k2⟩
  | rd d =>
    obtain ⟨a, rfl, nf, c⟩ := r
    refine ⟨a, rfl, ?_, c.mono x fun w hw => ?_⟩
    · obtain ⟨b, u, e2, _, q⟩ := s.top_at h rfl
      rw [e] at e2; cases e2
      exact (hk i _ a _ h rfl e q).1
    · rcases hw with q | ⟨o, q, z⟩
      · exact .inl (hk i _ a _ h rfl e q).2
      · exact .inr ⟨o, (hk i _ a _ h rfl e q).2, z⟩

theorem SR.fro (s : SR M F H σ ρ) (x : Ext F H F' H') (hk : ∀ i t a o, gt ρ i = some t → t.top = true → gv σ i = some (.ref a) → H a = some o → ¬ F' a ∧ H' a = some o) (hd : ∀ a, F' a → H' a ≠ none) (ht : ∀ P q, TabF F H P q → TabF F' H' P q) : SR M F' H' σ ρ := s.froX x hk hd (s.xn.ext x ht)
/-- what a primitive may do: it makes new objects -/
structure New (F : Addr → Prop) (H : Hp) (F' : Addr → Prop) (H' : Hp) : Prop where
  keep : ∀ a o, H a = some o → H' a = some o
  fro : ∀ a, F a → F' a
  new : ∀ a, F' a → F a ∨ H a = none
  dom : ∀ a, F' a → H' a ≠ none
theorem New.refl (hd : ∀ a, F a → H a ≠ none) : New F H F H := ⟨fun _ _ h => h, fun _ h => h, fun _ h => .inl h, hd⟩
theorem New.ext (n : New F H F' H') : Ext F H F' H' := ⟨n.fro, fun a u _ _ r => by
  rcases r with r | ⟨o, r⟩
  · exact .inl (n.keep a _ r)
  · exact .inr ⟨o, n.keep a _ r⟩, fun a _ _ _ e => n.keep a _ e, fun a vs r => by
  rcases r with r | ⟨o, r⟩
  · exact .inl (n.keep a _ r)
  · exact .inr ⟨o, n.keep a _ r⟩, fun a vs r => n.keep a _ r⟩
theorem New.tab (n : New F H F' H') : ∀ P q, TabF F H P q → TabF F' H' P q := fun P q t => t.kept n.fro fun a o _ h _ => n.keep a o h
theorem New.po (s : SR M F H σ ρ) (n : New F H F' H') : Po M F H σ ρ F' H' ρ := by
  refine ⟨⟨n.fro, fun a o e _ _ => .inl (n.keep a o e), fun a h => ?_, fun a h => ?_, fun _ h => .inl h, fun _ h => h⟩, s.fro n.ext (fun i t a o h ht e q => ⟨fun z => ?_, n.keep a o q⟩) n.dom n.tab, .refl _⟩
  · cases q : H a with
    | none => rfl
    | some o => rw [n.keep a o q] at h; cases h
  · rcases n.new a h with z | z
    · exact .inl z
    · exact .inr (.inl z)
  · rcases n.new a z with y | y
    · obtain ⟨b, u, e2, nf, _⟩ := s.top_at h ht
      rw [e] at e2; cases e2
      exact nf y
    · rw [q] at y; cases y
/-- a new object, to be owned; to be frozen -/
theorem New.laid (hd : ∀ a, F a → H a ≠ none) {p : Addr} {o : HO} (hp : H p = none) : New F H F (upd H p o) :=
  ⟨fun a u e => by rw [upd_ne (ne_of_none e hp)]; exact e, fun _ h => h, fun _ h => .inl h, fun a h e => by
    have := hd a h
    cases q : H a with
    | none => exact this q
    | some u => rw [upd_ne (ne_of_none q hp), q] at e; cases e⟩

theorem freeze {H0 : Hp} {F0 : Addr → Prop} {ρ0 : En} (s : SR M F0 H0 σ ρ0) (po : Po M F0 H0 σ ρ0 F H ρ) {r : Rv} {v : V} (rv : RvR M H0 F H r v) :
    ∃ F', Po M F0 H0 σ ρ0 F' H ρ ∧ Rep M F' H r.d v ∧ Ext F H F' H := by
  cases r with
  | val d => exact ⟨F, po, rv, .refl _ _⟩
  | own d =>
    obtain ⟨a, rfl, nf, h0, c⟩ := rv
    have x : Ext F H (fun b => F b ∨ b = a) H := ⟨fun _ h => .inl h, fun _ _ _ _ h => h, fun _ _ _ _ h => h, fun _ _ h => h, fun _ _ h => h⟩
    refine ⟨fun b => F b ∨ b = a, ⟨⟨fun b h => .inl (po.stp.fro b h), po.stp.keep, po.stp.dom, fun b h => ?_, po.stp.own, po.stp.ref⟩, po.sr.fro x (fun i t b o h ht e q => ⟨fun z => ?_, q⟩) (fun b h => ?_) (fun P q t => t.kept (fun _ h => .inl h) fun _ _ _ h _ => h), po.kp⟩, (c.mono x fun _ h => h).rep (.inr rfl), x⟩
    · rcases h with h | rfl
      · exact po.stp.new b h
      · exact .inr (.inl h0)
    · obtain ⟨t', h', ht'⟩ := po.kp.top_of h ht
      obtain ⟨b', u, e', _, q'⟩ := s.top_at h' ht'
      rw [e] at e'; cases e'
      rcases z with z | rfl
      · obtain ⟨b', u', e', nf', _⟩ := po.sr.top_at h ht
        rw [e] at e'; cases e'
        exact nf' z
      · rw [h0] at q'; cases q'
    · rcases h with h | rfl
      · exact po.sr.dom b h
      · obtain ⟨u, q, _⟩ := c.some_of
        intro z
        have q' : H b = some u := q
        rw [z] at q'; cases q'
end

/-- an operand: an expression, or a name whose object may be one's own -/
inductive Opd where
  | ex (φ : ES)
  | sl (i : Nat)
inductive Ov where
  | val (d : D)
  | at (i : Nat)
def Opd.ev : Opd → En → Out Ov
  | .ex φ, ρ => (φ ρ).bind fun r ρ' => .ok (.val r.d) ρ'
  | .sl i, ρ => match gt ρ i with
    | some _ => .ok (.at i) ρ
    | none => .bad
def evs : List Opd → En → Out (List Ov)
  | [], ρ => .ok [] ρ
  | o :: os, ρ => (o.ev ρ).bind fun x ρ1 => (evs os ρ1).bind fun xs ρ2 => .ok (x :: xs) ρ2
def Ov.dat (ρ : En) : Ov → Option D
  | .val d => some d
  | .at i => (gt ρ i).map Sl.d
def dats (ρ : En) : List Ov → Option (List D)
  | [] => some []
  | x :: xs => match x.dat ρ, dats ρ xs with
    | some d, some ds => some (d :: ds)
    | _, _ => none
def tO (M : Md) (W : WX) : Opd → TE
  | .ex φ => tE M W φ
  | .sl i => tVar i
def tOs (M : Md) (W : WX) : List Opd → TA
  | [] => tNil
  | o :: os => tCons (tO M W o) (tOs M W os)
def OvR (M : Md) (F : Addr → Prop) (H : Hp) (σ : St) : Ov → V → Prop
  | .val d, v => Rep M F H d v
  | .at i, v => gv σ i = some v
def OvRs (M : Md) (F : Addr → Prop) (H : Hp) (σ : St) : List Ov → List V → Prop
  | [], vs => vs = []
  | x :: xs, vs => ∃ v r, vs = v :: r ∧ OvR M F H σ x v ∧ OvRs M F H σ xs r
theorem OvR.mono {M : Md} {F F' : Addr → Prop} {H H' : Hp} {σ : St} (x : Ext F H F' H') : ∀ {o : Ov} {v : V}, OvR M F H σ o v → OvR M F' H' σ o v
  | .val d, _, h => Rep.mono x d h
  | .at _, _, h => h
theorem OvRs.mono {M : Md} {F F' : Addr → Prop} {H H' : Hp} {σ : St} (x : Ext F H F' H') : ∀ {o : List Ov} {v : List V}, OvRs M F H σ o v → OvRs M F' H' σ o v
  | [], _, h => h
  | _ :: _, _, ⟨v, r, e, p, q⟩ => ⟨v, r, e, p.mono x, q.mono x⟩

section
variable {M : Md} {W : WX} {F : Addr → Prop} {H : Hp} {σ : St} {ρ : En}
theorem tE_of (s : SR M F H σ ρ) {φ : ES} {Q : VK} (h : Want M W F H σ ρ (φ ρ) fun r F' H' _ => ∀ v, RvR M H F' H' r v → Q v H') : tE M W φ σ H Q := ⟨F, ρ, s, h⟩
theorem op_run (s : SR M F H σ ρ) {o : Opd} {Q : VK} (h : Want M W F H σ ρ (o.ev ρ) fun x F' H' _ => ∀ v, OvR M F' H' σ x v → Q v H') : tO M W o σ H Q := by
  cases o with
  | sl i =>
    cases e : gt ρ i with
    | none => simp only [Opd.ev, e] at h; exact h.elim
    | some t =>
      simp only [Opd.ev, e] at h
      obtain ⟨v, hv, _⟩ := s.slot i t e
      exact ⟨v, gv_some hv, h F H (.refl s) v hv⟩
  | ex φ =>
    refine tE_of s ?_
    cases e : φ ρ with
    | bad => simp only [Opd.ev, e] at h; exact h
    | exc x ρ' => simp only [Opd.ev, e] at h; exact h
    | ok r ρ' =>
      simp only [Opd.ev, e] at h
      intro F' H' po v rv
      obtain ⟨F2, po2, rp, _⟩ := freeze s po rv
      exact h F2 H' po2 v rp
theorem ops_run : ∀ (os : List Opd) {F : Addr → Prop} {H : Hp} {ρ : En} (_ : SR M F H σ ρ) {Q : List V → Hp → Prop} (_ : Want M W F H σ ρ (evs os ρ) fun xs F' H' _ => ∀ vs, OvRs M F' H' σ xs vs → Q vs H'), tOs M W os σ H Q
  | [], F, H, ρ, s, Q, h => h F H (.refl s) [] rfl
  | o :: os, F, H, ρ, s, Q, h => by
    show tO M W o σ H fun x H1 => tOs M W os σ H1 fun xs H2 => Q (x :: xs) H2
    refine op_run s ?_
    unfold evs at h
    cases e : o.ev ρ with
    | bad => rw [e] at h; exact h
    | exc x ρ' => rw [e] at h; exact h
    | ok x ρ1 =>
      rw [e] at h
      intro F1 H1 po1 v rv
      refine ops_run os po1.sr ?_
      have h : Want M W F H σ ρ ((evs os ρ1).bind fun xs ρ2 => .ok (x :: xs) ρ2) fun xs F' H' _ => ∀ vs, OvRs M F' H' σ xs vs → Q vs H' := h
      cases e2 : evs os ρ1 with
      | bad => rw [e2] at h; exact h
      | exc y ρ2 =>
        rw [e2] at h
        exact fun F2 H2 cls d po2 xr => h F2 H2 cls d (po1.trans po2) xr
      | ok xs ρ2 =>
        rw [e2] at h
        exact fun F2 H2 po2 vs rs => h F2 H2 (po1.trans po2) (v :: vs) ⟨v, vs, rfl, rv.mono (po2.ext po1.sr), rs⟩
end

/-- an operand as it is read -/
def OdR (M : Md) (F : Addr → Prop) (H : Hp) (d : D) (v : V) : Prop := Rep M F H d v ∨ ∃ a, v = .ref a ∧ ¬ F a ∧ Cont M F H (Rdx H a) d
def OdRs (M : Md) (F : Addr → Prop) (H : Hp) : List D → List V → Prop
  | [], vs => vs = []
  | d :: ds, vs => ∃ v r, vs = v :: r ∧ OdR M F H d v ∧ OdRs M F H ds r
section
variable {M : Md} {F : Addr → Prop} {H : Hp} {σ : St} {ρ : En}
theorem SlR.od : ∀ {s : Sl} {v : V}, SlR M F H s v → OdR M F H s.d v
  | .val d, _, h => .inl h
  | .own d, _, ⟨a, e, nf, c⟩ => .inr ⟨a, e, nf, c.mono (.refl _ _) fun _ h => .inl h⟩
  | .ref d, _, ⟨a, e, nf, c⟩ => .inr ⟨a, e, nf, c.mono (.refl _ _) fun _ h => .inl h⟩
  | .rd d, _, ⟨a, e, nf, c⟩ => .inr ⟨a, e, nf, c⟩
theorem OvR.od (s : SR M F H σ ρ) {x : Ov} {v : V} {d : D} (h : OvR M F H σ x v) (e : x.dat ρ = some d) : OdR M F H d v := by
  cases x with
  | val d' =>
    cases e
    exact .inl h
  | «at» i =>
    cases q : gt ρ i with
    | none => simp only [Ov.dat, q] at e; cases e
    | some t =>
      simp only [Ov.dat, q] at e
      cases e
      obtain ⟨v', hv, r⟩ := s.slot i t q
      have hv2 : gv σ i = some v := h
      rw [hv] at hv2
      cases hv2
      exact r.od
theorem OvRs.od (s : SR M F H σ ρ) : ∀ {xs : List Ov} {vs : List V} {ds : List D}, OvRs M F H σ xs vs → dats ρ xs = some ds → OdRs M F H ds vs
  | [], _, _, h, e => by cases e; exact h
  | x :: xs, _, ds, ⟨v, r, e1, p, q⟩, e => by
    unfold dats at e
    cases e2 : x.dat ρ with
    | none => rw [e2] at e; cases e
    | some d =>
      cases e3 : dats ρ xs with
      | none => rw [e2, e3] at e; cases e
      | some ds' =>
        rw [e2, e3] at e
        cases e
        exact ⟨v, r, e1, p.od s e2, OvRs.od s q e3⟩
end

/-- a primitive of operands -/
def app (f : List D → Option Rv) (os : List Opd) : ES := fun ρ => (evs os ρ).bind fun xs ρ' => match dats ρ' xs with
  | some ds => (match f ds with
    | some r => .ok r ρ'
    | none => .bad)
  | none => .bad
def PrimOK (M : Md) (r : List V → Hp → VK → Prop) (f : List D → Option Rv) : Prop :=
  ∀ (F : Addr → Prop) (H : Hp) (ds : List D) (vs : List V) (rv : Rv) (Q : VK), (∀ a, F a → H a ≠ none) → OdRs M F H ds vs → f ds = some rv → (∀ F' H' v, New F H F' H' → RvR M H F' H' rv v → Q v H') → r vs H Q
theorem RvR.from {M : Md} {H0 H1 H : Hp} {F : Addr → Prop} {r : Rv} {v : V} (h : RvR M H1 F H r v) (k : ∀ a, H1 a = none → H0 a = none) : RvR M H0 F H r v := by
  cases r with
  | val d => exact h
  | own d =>
    obtain ⟨a, e, nf, z, c⟩ := h
    exact ⟨a, e, nf, k a z, c⟩
section
variable {M : Md} {W : WX} {F : Addr → Prop} {H : Hp} {σ : St} {ρ : En}
theorem app_run {r : List V → Hp → VK → Prop} {f : List D → Option Rv} (pk : PrimOK M r f) {os : List Opd} {Q : VK} (h : tE M W (app f os) σ H Q) : tOs M W os σ H fun vs H1 => r vs H1 Q := by
  obtain ⟨F, ρ, s, h⟩ := h
  refine ops_run os s ?_
  cases e : evs os ρ with
  | bad => simp only [app, e] at h; exact h
  | exc x ρ' => simp only [app, e] at h; exact h
  | ok xs ρ1 =>
    simp only [app, e, Out.bind] at h
    intro F1 H1 po1 vs rs
    cases e2 : dats ρ1 xs with
    | none => simp only [e2] at h; exact h.elim
    | some ds =>
      cases e3 : f ds with
      | none => simp only [e2, e3] at h; exact h.elim
      | some rv =>
        simp only [e2, e3] at h
        refine pk F1 H1 ds vs rv Q po1.sr.dom (rs.od po1.sr e2) e3 fun F2 H2 v n rr => ?_
        exact h F2 H2 (po1.trans (n.po po1.sr)) v (rr.from fun a z => po1.stp.dom a z)
end
end VF

namespace VF
open PySem PySem.Spec PyProof.Rows L2

mutual
/-- == as Python has it -/
def D.eq : D → D → Bool
  | .non, .non => true
  | .bl a, .bl b => a == b
  | .bl a, .int j => (if a then 1 else 0) == j
  | .int i, .bl b => i == (if b then 1 else 0)
  | .int i, .int j => i == j
  | .str x, .str y => x == y
  | .lst xs, .lst ys => D.eqs xs ys
  | .tup xs, .tup ys => D.eqs xs ys
  | _, _ => false
def D.eqs : List D → List D → Bool
  | [], [] => true
  | x :: xs, y :: ys => D.eq x y && D.eqs xs ys
  | _, _ => false
end
/-- plain data, of a depth below n -/
def pl : Nat → D → Bool
  | 0, _ => false
  | _ + 1, .non => true
  | _ + 1, .bl _ => true
  | _ + 1, .int _ => true
  | _ + 1, .str _ => true
  | n + 1, .tup ds => ds.all (pl n)
  | n + 1, .lst ds => ds.all (pl n)
  | _ + 1, _ => false
mutual
theorem D.eq_refl : ∀ (d : D) (n : Nat), pl n d = true → D.eq d d = true
  | .non, _, _ => by simp [D.eq]
  | .bl _, _, _ => by simp [D.eq]
  | .int _, _, _ => by simp [D.eq]
  | .str x, _, _ => by simp [D.eq]
  | .tup ds, 0, h => by cases h
  | .lst ds, 0, h => by cases h
  | .tup ds, n + 1, h => by
    unfold D.eq
    exact D.eqs_refl ds n (by simpa [pl] using h)
  | .lst ds, n + 1, h => by
    unfold D.eq
    exact D.eqs_refl ds n (by simpa [pl] using h)
  | .dck _ _, 0, h => by cases h
  | .dck _ _, _ + 1, h => by simp [pl] at h
  | .dct _ _, 0, h => by cases h
  | .dct _ _, _ + 1, h => by simp [pl] at h
  | .ins _ _ _, 0, h => by cases h
  | .ins _ _ _, _ + 1, h => by simp [pl] at h
  | .exn _ _ _ _ _, 0, h => by cases h
  | .exn _ _ _ _ _, _ + 1, h => by simp [pl] at h
  | .tpp _, 0, h => by cases h
  | .tpp _, _ + 1, h => by simp [pl] at h
theorem D.eqs_refl : ∀ (ds : List D) (n : Nat), (∀ d ∈ ds, pl n d = true) → D.eqs ds ds = true
  | [], _, _ => by simp [D.eqs]
  | d :: ds, n, h => by
    unfold D.eqs
    rw [D.eq_refl d n (h d List.mem_cons_self), D.eqs_refl ds n fun x hx => h x (List.mem_cons_of_mem _ hx)]
    rfl
end
def pairD (xs ys : List D) (j : Nat) : Bool := match xs[j]?, ys[j]? with
  | some x, some y => D.eq x y
  | _, _ => true
theorem eqs_range : ∀ xs ys : List D, ((List.range (min xs.length ys.length)).all (pairD xs ys) && xs.length == ys.length) = D.eqs xs ys
  | [], [] => by simp [D.eqs]
  | [], _ :: _ => by simp [D.eqs]
  | _ :: _, [] => by simp [D.eqs]
  | x :: xs, y :: ys => by
    have ih := eqs_range xs ys
    unfold D.eqs
    rw [← ih]
    have e : min (x :: xs).length (y :: ys).length = min xs.length ys.length + 1 := by simp only [List.length_cons]; omega
    rw [e, List.range_succ_eq_map, List.all_cons, List.all_map]
    have e2 : (pairD (x :: xs) (y :: ys) ∘ Nat.succ) = pairD xs ys := by
      funext j
      simp [pairD, Function.comp]
    rw [e2]
    have e3 : pairD (x :: xs) (y :: ys) 0 = D.eq x y := by simp [pairD]
    rw [e3, Bool.and_assoc]
    simp
theorem eqs_len {xs ys : List D} (h : xs.length = ys.length) : (List.range xs.length).all (pairD xs ys) = D.eqs xs ys := by
  rw [← eqs_range xs ys, h, Nat.min_self]
  simp
theorem eqs_ne {xs ys : List D} (h : xs.length ≠ ys.length) : D.eqs xs ys = false := by
  rw [← eqs_range xs ys]
  simp [h]

theorem RepL.length {M : Md} {F : Addr → Prop} {H : Hp} : ∀ {ds : List D} {vs : List V}, RepL M F H ds vs → ds.length = vs.length
  | [], _, h => by unfold RepL at h; subst h; rfl
  | d :: ds, _, h => by
    unfold RepL at h
    obtain ⟨v, r, rfl, _, q⟩ := h
    simp [RepL.length q]
theorem RepL.get {M : Md} {F : Addr → Prop} {H : Hp} : ∀ {ds : List D} {vs : List V} {j : Nat} {d : D}, RepL M F H ds vs → ds[j]? = some d → ∃ v, vs[j]? = some v ∧ Rep M F H d v
  | [], _, _, _, _, e => by simp at e
  | d :: ds, _, j, d', h, e => by
    unfold RepL at h
    obtain ⟨v, r, rfl, p, q⟩ := h
    cases j with
    | zero =>
      simp at e
      subst e
      exact ⟨v, rfl, p⟩
    | succ j =>
      obtain ⟨w, h1, h2⟩ := RepL.get (j := j) (d := d') q (by simpa using e)
      exact ⟨w, by simpa using h1, h2⟩
theorem RepL.getV {M : Md} {F : Addr → Prop} {H : Hp} : ∀ {ds : List D} {vs : List V} {j : Nat} {v : V}, RepL M F H ds vs → vs[j]? = some v → ∃ d, ds[j]? = some d ∧ Rep M F H d v
  | [], _, _, _, h, e => by unfold RepL at h; subst h; simp at e
  | d :: ds, _, j, v', h, e => by
    unfold RepL at h
    obtain ⟨v, r, rfl, p, q⟩ := h
    cases j with
    | zero =>
      simp at e
      subst e
      exact ⟨d, rfl, p⟩
    | succ j =>
      obtain ⟨w, h1, h2⟩ := RepL.getV (j := j) (v := v') q (by simpa using e)
      exact ⟨w, by simpa using h1, h2⟩

section
variable {M : Md} {F : Addr → Prop} {H : Hp}
theorem OdR.non {v : V} (h : OdR M F H .non v) : v = .non := by
  rcases h with h | ⟨_, _, _, c⟩
  · unfold Rep at h; exact h
  · exact c.elim
theorem OdR.bl {b : Bool} {v : V} (h : OdR M F H (.bl b) v) : v = .bl b := by
  rcases h with h | ⟨_, _, _, c⟩
  · unfold Rep at h; exact h
  · exact c.elim
theorem OdR.int {b : Int} {v : V} (h : OdR M F H (.int b) v) : v = .int b := by
  rcases h with h | ⟨_, _, _, c⟩
  · unfold Rep at h; exact h
  · exact c.elim
theorem OdR.str {b : Str} {v : V} (h : OdR M F H (.str b) v) : v = .str b := by
  rcases h with h | ⟨_, _, _, c⟩
  · unfold Rep at h; exact h
  · exact c.elim
theorem OdR.tup2 {ds : List D} {v : V} (h : OdR M F H (.tup ds) v) : ∃ a vs, v = .ref a ∧ (SqT M.K H a vs ∧ (ds.length = 2 → H a = some (.tup vs))) ∧ RepL M F H ds vs := by
  rcases h with h | ⟨_, _, _, c⟩
  · unfold Rep at h; exact h
  · exact c.elim
theorem OdR.tup {ds : List D} {v : V} (h : OdR M F H (.tup ds) v) : ∃ a vs, v = .ref a ∧ SqT M.K H a vs ∧ RepL M F H ds vs := by
  obtain ⟨a, vs, e, q, r⟩ := h.tup2
  exact ⟨a, vs, e, q.1, r⟩
theorem OdR.lst {ds : List D} {v : V} (h : OdR M F H (.lst ds) v) : ∃ a vs, v = .ref a ∧ SqL M.K H a vs ∧ RepL M F H ds vs := by
  rcases h with h | ⟨a, e, _, vs, p, r⟩
  · unfold Rep at h
    obtain ⟨a, vs, e, p, r⟩ := h
    exact ⟨a, vs, e, p.imp (·.2) id, r⟩
  · exact ⟨a, vs, e, .inl p.rd, r⟩
theorem OdR.dck {ks : List Key} {ds : List D} {v : V} (h : OdR M F H (.dck ks ds) v) : ∃ a vs, v = .ref a ∧ Rd H a (.dK vs) ∧ vs.map (·.1) = ks ∧ RepL M F H ds (vs.map (·.2)) := by
  rcases h with h | ⟨a, e, _, vs, p, k, r⟩
  · unfold Rep at h
    obtain ⟨a, vs, e, _, p, k, r⟩ := h
    exact ⟨a, vs, e, p, k, r⟩
  · exact ⟨a, vs, e, p.rd, k, r⟩
theorem OdR.dct {ks : List (List Key)} {ds : List D} {v : V} (h : OdR M F H (.dct ks ds) v) : ∃ a vs, v = .ref a ∧ Rd H a (.dT vs) ∧ vs.map (·.1) = ks ∧ RepL M F H ds (vs.map (·.2)) := by
  rcases h with h | ⟨a, e, _, vs, p, k, r⟩
  · unfold Rep at h
    obtain ⟨a, vs, e, _, p, k, r⟩ := h
    exact ⟨a, vs, e, p, k, r⟩
  · exact ⟨a, vs, e, p.rd, k, r⟩
theorem OdR.ins {c : Str} {fs : List Str} {ds : List D} {v : V} (h : OdR M F H (.ins c fs ds) v) : ∃ a C dx vs, v = .ref a ∧ (c ∈ M.cls ∧ M.mg c = some (.ref C)) ∧ H a = some (.ins C dx vs) ∧ vs.map (·.1) = fs ∧ RepL M F H ds (vs.map (·.2)) := by
  rcases h with h | ⟨a, e, _, C, dx, vs, m, p, k, r⟩
  · unfold Rep at h
    obtain ⟨a, C, dx, vs, e, _, m, p, k, r⟩ := h
    exact ⟨a, C, dx, vs, e, m, p, k, r⟩
  · exact ⟨a, C, dx, vs, e, m, p.ins, k, r⟩
theorem OdR.exn {c : Str} {fs : List Str} {ds : List D} {a dx : Addr} {v : V} (h : OdR M F H (.exn c fs ds a dx) v) : v = .ref a ∧ ∃ C vs, M.mg c = some (.ref C) ∧ F dx ∧ H dx = some (.xd vs) ∧ vs.map (·.1) = fs ∧ RepL M F H ds (vs.map (·.2)) := by
  rcases h with h | ⟨_, _, _, c⟩
  · unfold Rep at h; exact h
  · exact c.elim
theorem OdR.tpp {ds : List D} {v : V} (h : OdR M F H (.tpp ds) v) : ∃ a vs o, v = .ref a ∧ F a ∧ H a = some (.frz o (.tup vs)) ∧ o.dict = none ∧ RepL M F H ds vs := by
  rcases h with h | ⟨_, _, _, c⟩
  · unfold Rep at h; exact h
  · exact c.elim
theorem OdR.tpS {ds : List D} {v : V} (h : OdR M F H (.tpp ds) v) : ∃ a vs, v = .ref a ∧ SqT M.K H a vs ∧ RepL M F H ds vs := by
  obtain ⟨a, vs, o, e, _, p, _, l⟩ := h.tpp
  exact ⟨a, vs, e, .inl (.inr ⟨o, p⟩), l⟩
theorem OdRs.nil {vs : List V} (h : OdRs M F H [] vs) : vs = [] := h
theorem OdRs.one {d : D} {vs : List V} (h : OdRs M F H [d] vs) : ∃ v, vs = [v] ∧ OdR M F H d v := by
  obtain ⟨v, r, rfl, p, q⟩ := h
  rw [show r = [] from q]
  exact ⟨v, rfl, p⟩
theorem OdRs.two {d e : D} {vs : List V} (h : OdRs M F H [d, e] vs) : ∃ v w, vs = [v, w] ∧ OdR M F H d v ∧ OdR M F H e w := by
  obtain ⟨v, r, rfl, p, q⟩ := h
  obtain ⟨w, rfl, p2⟩ := OdRs.one q
  exact ⟨v, w, rfl, p, p2⟩
theorem OdRs.three {d e f : D} {vs : List V} (h : OdRs M F H [d, e, f] vs) : ∃ v w x, vs = [v, w, x] ∧ OdR M F H d v ∧ OdR M F H e w ∧ OdR M F H f x := by
  obtain ⟨v, r, rfl, p, q⟩ := h
  obtain ⟨w, x, rfl, p2, p3⟩ := OdRs.two q
  exact ⟨v, w, x, rfl, p, p2, p3⟩
theorem Rd.inj {a : Addr} {xs ys : List V} (h : Rd H a (.lst xs)) (h' : Rd H a (.lst ys)) : xs = ys := by
  rcases h with h | ⟨o, h⟩ <;> rcases h' with h' | ⟨o', h'⟩ <;> rw [h] at h' <;> cases h' <;> rfl
end

section
variable {M : Md} {X : Cx} {pins : List (Addr × Obj)} {F : Addr → Prop} {σ : St} {H : Hp} {s : Shared}
mutual
theorem rep_inj (I : Inv X pins σ H s) (hK : X.K = M.K) : ∀ (d : D) (n : Nat) (e : D) (v : V), pl n d = true → pl n e = true → Rep M F H d v → Rep M F H e v → d = e
  | d, 0, _, _, h, _, _, _ => by cases d <;> cases h
  | .non, n + 1, e, v, _, h2, r1, r2 => by
    unfold Rep at r1
    subst r1
    cases e <;> first | (exact rfl) | (simp [Rep] at r2) | (simp [pl] at h2)
  | .bl b, n + 1, e, v, _, h2, r1, r2 => by
    unfold Rep at r1
    subst r1
    cases e <;> first | (simp [Rep] at r2; done) | (simp [pl] at h2; done) | (simp [Rep] at r2; rw [r2])
  | .int b, n + 1, e, v, _, h2, r1, r2 => by
    unfold Rep at r1
    subst r1
    cases e <;> first | (simp [Rep] at r2; done) | (simp [pl] at h2; done) | (simp [Rep] at r2; rw [r2])
  | .str b, n + 1, e, v, _, h2, r1, r2 => by
    unfold Rep at r1
    subst r1
    cases e <;> first | (simp [Rep] at r2; done) | (simp [pl] at h2; done) | (simp [Rep] at r2; rw [r2])
  | .tup ds, n + 1, e, v, h1, h2, r1, r2 => by
    unfold Rep at r1
    obtain ⟨a, vs, rfl, ⟨q1, _⟩, l1⟩ := r1
    cases e with
    | tup es =>
      unfold Rep at r2
      obtain ⟨b, ws, e, ⟨q2, _⟩, l2⟩ := r2
      cases e
      rw [← hK] at q1 q2
      have e := I.tuple_inj q1 q2
      subst e
      rw [reps_inj I hK ds n es vs (by simpa [pl] using h1) (by simpa [pl] using h2) l1 l2]
    | lst es =>
      unfold Rep at r2
      obtain ⟨b, ws, e, q2, l2⟩ := r2
      cases e
      obtain ⟨_, _, ⟨o, ho, hc, _⟩, _⟩ := I.tuple (show SqT X.K H a vs by rw [hK]; exact q1)
      obtain ⟨_, _, ⟨o', _, ho', hc', _⟩, _⟩ := I.list (show SqL X.K H a ws by rw [hK]; exact q2.imp (·.2) id)
      rw [ho] at ho'
      cases ho'
      rw [hc] at hc'
      exact absurd hc' (by simp)
    | _ => first | (simp [Rep] at r2; done) | (simp [pl] at h2; done)
  | .lst ds, n + 1, e, v, h1, h2, r1, r2 => by
    unfold Rep at r1
    obtain ⟨a, vs, rfl, q1, l1⟩ := r1
    cases e with
    | lst es =>
      unfold Rep at r2
      obtain ⟨b, ws, e, q2, l2⟩ := r2
      cases e
      have e := I.list_inj (show SqL X.K H a vs by rw [hK]; exact q1.imp (·.2) id) (show SqL X.K H a ws by rw [hK]; exact q2.imp (·.2) id)
      subst e
      rw [reps_inj I hK ds n es vs (by simpa [pl] using h1) (by simpa [pl] using h2) l1 l2]
    | tup es =>
      unfold Rep at r2
      obtain ⟨b, ws, e, q2, l2⟩ := r2
      cases e
      obtain ⟨_, _, ⟨o, ho, hc, _⟩, _⟩ := I.tuple (show SqT X.K H a ws by rw [hK]; exact q2.1)
      obtain ⟨_, _, ⟨o', _, ho', hc', _⟩, _⟩ := I.list (show SqL X.K H a vs by rw [hK]; exact q1.imp (·.2) id)
      rw [ho] at ho'
      cases ho'
      rw [hc] at hc'
      exact absurd hc' (by simp)
    | _ => first | (simp [Rep] at r2; done) | (simp [pl] at h2; done)
  | .dck _ _, _ + 1, _, _, h, _, _, _ => by simp [pl] at h
  | .dct _ _, _ + 1, _, _, h, _, _, _ => by simp [pl] at h
  | .ins _ _ _, _ + 1, _, _, h, _, _, _ => by simp [pl] at h
  | .exn _ _ _ _ _, _ + 1, _, _, h, _, _, _ => by simp [pl] at h
  | .tpp _, _ + 1, _, _, h, _, _, _ => by simp [pl] at h
theorem reps_inj (I : Inv X pins σ H s) (hK : X.K = M.K) : ∀ (ds : List D) (n : Nat) (es : List D) (vs : List V), (∀ d ∈ ds, pl n d = true) → (∀ d ∈ es, pl n d = true) → RepL M F H ds vs → RepL M F H es vs → ds = es
  | [], n, es, vs, _, _, r1, r2 => by
    have l1 := RepL.length r1
    have l2 := RepL.length r2
    cases es with
    | nil => rfl
    | cons e es => simp at l1 l2; omega
  | d :: ds, n, es, vs, h1, h2, r1, r2 => by
    cases es with
    | nil =>
      have l1 := RepL.length r1
      have l2 := RepL.length r2
      simp at l1 l2; omega
    | cons e es =>
      unfold RepL at r1 r2
      obtain ⟨v, r, rfl, p1, q1⟩ := r1
      obtain ⟨v', r', e', p2, q2⟩ := r2
      cases e'
      rw [rep_inj I hK d n e v (h1 d List.mem_cons_self) (h2 e List.mem_cons_self) p1 p2, reps_inj I hK ds n es r (fun x hx => h1 x (List.mem_cons_of_mem _ hx)) (fun x hx => h2 x (List.mem_cons_of_mem _ hx)) q1 q2]
end
end
end VF

namespace VF
open PySem PySem.Spec PyProof.Rows L2
open PySem.SeqAt (EqAt RcAt RcNeAt)

section
variable {M : Md} {X : Cx} {pins : List (Addr × Obj)} {F : Addr → Prop} {σ : St} {H : Hp} {s : Shared}
/-- a list or tuple operand, down to the machine -/
theorem od_list (I : Inv X pins σ H s) (hK : X.K = M.K) {ds : List D} {v : V} {u : Value} (h : OdR M F H (.lst ds) v) (r : RelV v u) : ∃ a vs its, v = .ref a ∧ u = .ref a ∧ SqL X.K H a vs ∧ RepL M F H ds vs ∧ Vals vs its ∧ s.heap.IsList a its.toArray := by
  obtain ⟨a, vs, rfl, q, l⟩ := h.lst
  rw [← hK] at q
  cases r
  obtain ⟨its, rv, p, _⟩ := I.list q
  exact ⟨a, vs, its, rfl, rfl, q, l, rv, p.isList⟩
theorem od_tup (I : Inv X pins σ H s) (hK : X.K = M.K) {ds : List D} {v : V} {u : Value} (h : OdR M F H (.tup ds) v) (r : RelV v u) : ∃ a vs its, v = .ref a ∧ u = .ref a ∧ SqT X.K H a vs ∧ RepL M F H ds vs ∧ Vals vs its ∧ s.heap.IsTuple a its.toArray := by
  obtain ⟨a, vs, rfl, q, l⟩ := h.tup
  rw [← hK] at q
  cases r
  obtain ⟨its, rv, p, _⟩ := I.tuple q
  exact ⟨a, vs, its, rfl, rfl, q, l, rv, p⟩
theorem od_tpS (I : Inv X pins σ H s) (hK : X.K = M.K) {ds : List D} {v : V} {u : Value} (h : OdR M F H (.tpp ds) v) (r : RelV v u) : ∃ a vs its, v = .ref a ∧ u = .ref a ∧ SqT X.K H a vs ∧ RepL M F H ds vs ∧ Vals vs its ∧ s.heap.IsTuple a its.toArray := by
  obtain ⟨a, vs, rfl, q, l⟩ := h.tpS
  rw [← hK] at q
  cases r
  obtain ⟨its, rv, p, _⟩ := I.tuple q
  exact ⟨a, vs, its, rfl, rfl, q, l, rv, p⟩
theorem vals_at : ∀ {vs : List V} {its : List Value} {j : Nat} (h : j < its.length), Vals vs its → ∃ v, vs[j]? = some v ∧ RelV v its[j]
  | _, _, _, h, .nil => absurd h (Nat.not_lt_zero _)
  | _, _, 0, _, .cons r _ => ⟨_, rfl, r⟩
  | _, _, j + 1, h, .cons _ t => by
    obtain ⟨v, e, r⟩ := vals_at (j := j) (Nat.lt_of_succ_lt_succ h) t
    exact ⟨v, by simpa using e, r⟩
theorem od_inj (I : Inv X pins σ H s) (hK : X.K = M.K) {n : Nat} {d e : D} {v : V} (h1 : pl n d = true) (h2 : pl n e = true) (r1 : OdR M F H d v) (r2 : OdR M F H e v) : d = e := by
  rcases r1 with r1 | ⟨a, rfl, nf, c1⟩
  · rcases r2 with r2 | ⟨b, rfl, nf, c2⟩
    · exact rep_inj I hK d n e v h1 h2 r1 r2
    · cases e with
      | lst es =>
        obtain ⟨ws, q2, l2⟩ := c2
        cases d with
        | lst ds =>
          unfold Rep at r1
          obtain ⟨a, vs, e, q1, l1⟩ := r1
          cases e
          have z := I.list_inj (show SqL X.K H b vs by rw [hK]; exact q1.imp (·.2) id) (show SqL X.K H b ws from .inl q2.rd)
          subst z
          cases n with
          | zero => cases h1
          | succ n => rw [reps_inj I hK ds n es vs (by simpa [pl] using h1) (by simpa [pl] using h2) l1 l2]
        | tup ds =>
          unfold Rep at r1
          obtain ⟨a, vs, e, q1, l1⟩ := r1
          cases e
          obtain ⟨_, _, ⟨o, ho, hc, _⟩, _⟩ := I.tuple (show SqT X.K H b vs by rw [hK]; exact q1.1)
          obtain ⟨_, _, ⟨o', _, ho', hc', _⟩, _⟩ := I.list (show SqL X.K H b ws from .inl q2.rd)
          rw [ho] at ho'
          cases ho'
          rw [hc] at hc'
          exact absurd hc' (by simp)
        | _ => cases n <;> first | (simp [Rep] at r1; done) | (simp [pl] at h1; done)
      | _ => first | exact c2.elim | (cases n <;> simp [pl] at h2)
  · cases d with
    | lst ds =>
      obtain ⟨vs, q1, l1⟩ := c1
      cases e with
      | lst es =>
        obtain ⟨b, ws, eb, q2, l2⟩ := r2.lst
        cases eb
        have z := I.list_inj (show SqL X.K H a vs from .inl q1.rd) (show SqL X.K H a ws by rw [hK]; exact q2)
        subst z
        cases n with
        | zero => cases h1
        | succ n => rw [reps_inj I hK ds n es vs (by simpa [pl] using h1) (by simpa [pl] using h2) l1 l2]
      | tup es =>
        obtain ⟨b, ws, eb, q2, l2⟩ := r2.tup
        cases eb
        obtain ⟨_, _, ⟨o, ho, hc, _⟩, _⟩ := I.tuple (show SqT X.K H a ws by rw [hK]; exact q2)
        obtain ⟨_, _, ⟨o', _, ho', hc', _⟩, _⟩ := I.list (show SqL X.K H a vs from .inl q1.rd)
        rw [ho] at ho'
        cases ho'
        rw [hc] at hc'
        exact absurd hc' (by simp)
      | non => have z := r2.non; cases z
      | bl b => have z := r2.bl; cases z
      | int b => have z := r2.int; cases z
      | str b => have z := r2.str; cases z
      | _ => cases n <;> simp [pl] at h2
    | _ => first | exact c1.elim | (cases n <;> simp [pl] at h1)

structure Eq3 (A : Around) (s : Shared) (u w : Value) (b : Bool) : Prop where
  e : EqAt A s u w b
  r : RcAt A s u w b
  n : RcNeAt A s u w (!b)
theorem eqD (I : Inv X pins σ H s) (hK : X.K = M.K) : ∀ (n : Nat) (d e : D) (v w : V) (u u' : Value) (A : Around), OdR M F H d v → OdR M F H e w → RelV v u → RelV w u' → pl n d = true → pl n e = true → A.units + n < cLine → Eq3 A s u u' (D.eq d e) := by
  intro n
  induction n with
  | zero => intro d e v w u u' A _ _ _ _ h _ _; cases d <;> cases h
  | succ n ih =>
    intro d e v w u u' A rd re rv rw' hd he hu
    have hu0 : A.units < cLine := by omega
    have hin : A.in1.units + n < cLine := by
      have : A.in1.units = A.units + 1 := rfl
      omega
    -- items
    have items : ∀ (ds es : List D) (vs ws : List V) (its its2 : List Value), RepL M F H ds vs → RepL M F H es ws → Vals vs its → Vals ws its2 → (∀ d ∈ ds, pl n d = true) → (∀ d ∈ es, pl n d = true) →
        ∀ j (h1 : j < its.toArray.size) (h2 : j < its2.toArray.size), EqAt A.in1 s its.toArray[j] its2.toArray[j] (pairD ds es j) := fun ds es vs ws its its2 l1 l2 r1 r2 p1 p2 j h1 h2 => by
      have h1' : j < its.length := by simpa using h1
      have h2' : j < its2.length := by simpa using h2
      obtain ⟨v, e1, q1⟩ := vals_at h1' r1
      obtain ⟨w, e2, q2⟩ := vals_at h2' r2
      obtain ⟨d, f1, g1⟩ := RepL.getV l1 e1
      obtain ⟨e, f2, g2⟩ := RepL.getV l2 e2
      have z := ih d e v w its[j] its2[j] A.in1 (.inl g1) (.inl g2) q1 q2 (p1 d (List.mem_of_getElem? f1)) (p2 e (List.mem_of_getElem? f2)) hin
      have zz : pairD ds es j = D.eq d e := by unfold pairD; rw [f1, f2]
      rw [zz]
      simpa using z.e
    have same : ∀ a, v = .ref a → w = .ref a → u = u' → EqAt A s u u' (D.eq d e) := fun a e1 e2 e3 => by
      subst e1
      subst e2
      have z := od_inj I hK hd he rd re
      subst z
      rw [D.eq_refl d (n + 1) hd, e3]
      exact EqAt.same _
    cases d with
    | non =>
      cases rd.non
      cases rv
      cases e with
      | non => cases re.non; cases rw'; simp only [D.eq]; exact ⟨.same _, .none_none, .none_none⟩
      | bl b => cases re.bl; cases rw'; simp only [D.eq]; exact ⟨.none_bool b, .none_bool b, .none_bool b⟩
      | int b => cases re.int; obtain ⟨t, rfl⟩ := rw'; simp only [D.eq]; exact ⟨.none_int b t, .none_int b t, .none_int b t⟩
      | str b => cases re.str; obtain ⟨t, rfl⟩ := rw'; simp only [D.eq]; exact ⟨.none_str b t, .none_str b t, .none_str b t⟩
      | lst es => obtain ⟨a, vs, its, rfl, rfl, q, l, r, p⟩ := od_list I hK re rw'; simp only [D.eq]; exact ⟨.none_list p hu0, .none_list p hu0, .none_list p hu0⟩
      | tup es => obtain ⟨a, vs, its, rfl, rfl, q, l, r, p⟩ := od_tup I hK re rw'; simp only [D.eq]; exact ⟨.none_tuple p hu0, .none_tuple p hu0, .none_tuple p hu0⟩
      | _ => simp [pl] at he
    | bl x =>
      cases rd.bl
      cases rv
      cases e with
      | non => cases re.non; cases rw'; simp only [D.eq]; exact ⟨.bool_none x, .bool_none x, .bool_none x⟩
      | bl b => cases re.bl; cases rw'; simp only [D.eq]; exact ⟨.bool_bool x b, .bool_bool x b, .bool_bool x b⟩
      | int b => cases re.int; obtain ⟨t, rfl⟩ := rw'; simp only [D.eq]; exact ⟨.bool_int x b t, .bool_int x b t, .bool_int x b t⟩
      | str b => cases re.str; obtain ⟨t, rfl⟩ := rw'; simp only [D.eq]; exact ⟨.bool_str x b t, .bool_str x b t, .bool_str x b t⟩
      | lst es => obtain ⟨a, vs, its, rfl, rfl, q, l, r, p⟩ := od_list I hK re rw'; simp only [D.eq]; exact ⟨.bool_list x p hu0, .bool_list x p hu0, .bool_list x p hu0⟩
      | tup es => obtain ⟨a, vs, its, rfl, rfl, q, l, r, p⟩ := od_tup I hK re rw'; simp only [D.eq]; exact ⟨.bool_tuple x p hu0, .bool_tuple x p hu0, .bool_tuple x p hu0⟩
      | _ => simp [pl] at he
    | int x =>
      cases rd.int
      obtain ⟨t', rfl⟩ := rv
      cases e with
      | non => cases re.non; cases rw'; simp only [D.eq]; exact ⟨.int_none x t', .int_none x t', .int_none x t'⟩
      | bl b => cases re.bl; cases rw'; simp only [D.eq]; exact ⟨.int_bool x t' b, .int_bool x t' b, .int_bool x t' b⟩
      | int b => cases re.int; obtain ⟨t, rfl⟩ := rw'; simp only [D.eq]; exact ⟨.int_int x t' b t, .int_int x t' b t, .int_int x t' b t⟩
      | str b => cases re.str; obtain ⟨t, rfl⟩ := rw'; simp only [D.eq]; exact ⟨.int_str x t' b t, .int_str x t' b t, .int_str x t' b t⟩
      | lst es => obtain ⟨a, vs, its, rfl, rfl, q, l, r, p⟩ := od_list I hK re rw'; simp only [D.eq]; exact ⟨.int_list x t' p hu0, .int_list x t' p hu0, .int_list x t' p hu0⟩
      | tup es => obtain ⟨a, vs, its, rfl, rfl, q, l, r, p⟩ := od_tup I hK re rw'; simp only [D.eq]; exact ⟨.int_tuple x t' p hu0, .int_tuple x t' p hu0, .int_tuple x t' p hu0⟩
      | _ => simp [pl] at he
    | str x =>
      cases rd.str
      obtain ⟨t', rfl⟩ := rv
      cases e with
      | non => cases re.non; cases rw'; simp only [D.eq]; exact ⟨.str_none x t', .str_none x t', .str_none x t'⟩
      | bl b => cases re.bl; cases rw'; simp only [D.eq]; exact ⟨.str_bool x t' b, .str_bool x t' b, .str_bool x t' b⟩
      | int b => cases re.int; obtain ⟨t, rfl⟩ := rw'; simp only [D.eq]; exact ⟨.str_int x t' b t, .str_int x t' b t, .str_int x t' b t⟩
      | str b => cases re.str; obtain ⟨t, rfl⟩ := rw'; simp only [D.eq]; exact ⟨.str_str x t' b t, .str_str x t' b t, .str_str x t' b t⟩
      | lst es => obtain ⟨a, vs, its, rfl, rfl, q, l, r, p⟩ := od_list I hK re rw'; simp only [D.eq]; exact ⟨.str_list x t' p hu0, .str_list x t' p hu0, .str_list x t' p hu0⟩
      | tup es => obtain ⟨a, vs, its, rfl, rfl, q, l, r, p⟩ := od_tup I hK re rw'; simp only [D.eq]; exact ⟨.str_tuple x t' p hu0, .str_tuple x t' p hu0, .str_tuple x t' p hu0⟩
      | _ => simp [pl] at he
    | lst ds =>
      obtain ⟨a, vs, its, rfl, rfl, q, l, r, p⟩ := od_list I hK rd rv
      cases e with
      | non => cases re.non; cases rw'; simp only [D.eq]; exact ⟨.list_none p hu0, .list_none p hu0, .list_none p hu0⟩
      | bl b => cases re.bl; cases rw'; simp only [D.eq]; exact ⟨.list_bool b p hu0, .list_bool b p hu0, .list_bool b p hu0⟩
      | int b => cases re.int; obtain ⟨t, rfl⟩ := rw'; simp only [D.eq]; exact ⟨.list_int b t p hu0, .list_int b t p hu0, .list_int b t p hu0⟩
      | str b => cases re.str; obtain ⟨t, rfl⟩ := rw'; simp only [D.eq]; exact ⟨.list_str b t p hu0, .list_str b t p hu0, .list_str b t p hu0⟩
      | tup es => obtain ⟨a', vs', its', rfl, rfl, q', l', r', p'⟩ := od_tup I hK re rw'; simp only [D.eq]; exact ⟨.list_tuple p p' hu0, .list_tuple p p' hu0, .list_tuple p p' hu0⟩
      | lst es =>
        obtain ⟨a', vs', its', rfl, rfl, q', l', r', p'⟩ := od_list I hK re rw'
        have it := items ds es vs vs' its its' l l' r r' (by simpa [pl] using hd) (by simpa [pl] using he)
        have n1 : its.toArray.size = ds.length := by rw [List.size_toArray, l.length]; exact r.length.symm
        have n2 : its'.toArray.size = es.length := by rw [List.size_toArray, l'.length]; exact r'.length.symm
        have rr : RcAt A s (.ref a) (.ref a') (D.eq (.lst ds) (.lst es)) ∧ RcNeAt A s (.ref a) (.ref a') (!D.eq (.lst ds) (.lst es)) := by
          simp only [D.eq]
          by_cases hsz : its.toArray.size = its'.toArray.size
          · have z := eqs_len (show ds.length = es.length by omega)
            rw [← z, ← n1]
            exact ⟨.lists p p' hsz hu0 it, .lists p p' hsz hu0 it⟩
          · rw [eqs_ne (show ds.length ≠ es.length by omega)]
            exact ⟨.lists_lengths p p' (by simpa using hsz) hu0, .lists_lengths p p' (by simpa using hsz) hu0⟩
        refine ⟨?_, rr.1, rr.2⟩
        by_cases ha : a = a'
        · subst ha
          exact same a rfl rfl rfl
        · exact .of_refs ha rr.1
      | _ => simp [pl] at he
    | tup ds =>
      obtain ⟨a, vs, its, rfl, rfl, q, l, r, p⟩ := od_tup I hK rd rv
      cases e with
      | non => cases re.non; cases rw'; simp only [D.eq]; exact ⟨.tuple_none p hu0, .tuple_none p hu0, .tuple_none p hu0⟩
      | bl b => cases re.bl; cases rw'; simp only [D.eq]; exact ⟨.tuple_bool b p hu0, .tuple_bool b p hu0, .tuple_bool b p hu0⟩
      | int b => cases re.int; obtain ⟨t, rfl⟩ := rw'; simp only [D.eq]; exact ⟨.tuple_int b t p hu0, .tuple_int b t p hu0, .tuple_int b t p hu0⟩
      | str b => cases re.str; obtain ⟨t, rfl⟩ := rw'; simp only [D.eq]; exact ⟨.tuple_str b t p hu0, .tuple_str b t p hu0, .tuple_str b t p hu0⟩
      | lst es => obtain ⟨a', vs', its', rfl, rfl, q', l', r', p'⟩ := od_list I hK re rw'; simp only [D.eq]; exact ⟨.tuple_list p p' hu0, .tuple_list p p' hu0, .tuple_list p p' hu0⟩
      | tup es =>
        obtain ⟨a', vs', its', rfl, rfl, q', l', r', p'⟩ := od_tup I hK re rw'
        have it := items ds es vs vs' its its' l l' r r' (by simpa [pl] using hd) (by simpa [pl] using he)
        have n1 : its.toArray.size = ds.length := by rw [List.size_toArray, l.length]; exact r.length.symm
        have n2 : its'.toArray.size = es.length := by rw [List.size_toArray, l'.length]; exact r'.length.symm
        have rr : RcAt A s (.ref a) (.ref a') (D.eq (.tup ds) (.tup es)) ∧ RcNeAt A s (.ref a) (.ref a') (!D.eq (.tup ds) (.tup es)) := by
          simp only [D.eq]
          rw [← eqs_range ds es, ← n1, ← n2]
          exact ⟨.tuples p p' hu0 it, .tuples p p' hu0 it⟩
        refine ⟨?_, rr.1, rr.2⟩
        by_cases ha : a = a'
        · subst ha
          exact same a rfl rfl rfl
        · exact .of_refs ha rr.1
      | _ => simp [pl] at he
    | _ => simp [pl] at hd

/-- x in xs, by machine -/
theorem any_eqD (I : Inv X pins σ H s) (hK : X.K = M.K) {n : Nat} {A : Around} {e : D} {w : V} {u' : Value} (re : OdR M F H e w) (rw' : RelV w u') (he : pl n e = true) (hu : A.in1.units + n < cLine) :
    ∀ {ds : List D} {vs : List V} {its : List Value}, RepL M F H ds vs → Vals vs its → (∀ d ∈ ds, pl n d = true) → ∃ f : Value → Bool, (∀ y ∈ its, EqAt A.in1 s y u' (f y)) ∧ its.any f = ds.any fun d => D.eq d e := by
  intro ds vs its l r hp
  -- the answer by a value: by the data that stands there
  have key : ∀ y ∈ its, ∃ b, EqAt A.in1 s y u' b ∧ ∀ (j : Nat) d, its[j]? = some y → ds[j]? = some d → D.eq d e = b := fun y hy => by
    obtain ⟨j, hj, ej⟩ := List.mem_iff_getElem.mp hy
    obtain ⟨v, e1, q1⟩ := vals_at hj r
    obtain ⟨d, f1, g1⟩ := RepL.getV l e1
    rw [ej] at q1
    refine ⟨D.eq d e, (eqD I hK n d e v w y u' A.in1 (.inl g1) re q1 rw' (hp d (List.mem_of_getElem? f1)) he hu).e, fun k d2 h1 h2 => ?_⟩
    obtain ⟨v2, e2, g2⟩ := RepL.get l h2
    obtain ⟨hk, ek⟩ := List.getElem?_eq_some_iff.mp h1
    obtain ⟨v3, e3, q3⟩ := vals_at hk r
    rw [e2] at e3
    cases e3
    rw [ek] at q3
    have z := q3.inj q1
    subst z
    rw [rep_inj I hK d2 n d _ (hp d2 (List.mem_of_getElem? h2)) (hp d (List.mem_of_getElem? f1)) g2 g1]
  refine ⟨fun y => if h : y ∈ its then Classical.choose (key y h) else false, fun y hy => ?_, ?_⟩
  · simp only [hy, dif_pos]
    exact (Classical.choose_spec (key y hy)).1
  · have hl : its.length = ds.length := by rw [l.length]; exact r.length.symm
    have e : its.map (fun y => if h : y ∈ its then Classical.choose (key y h) else false) = ds.map fun d => D.eq d e := by
      apply List.ext_getElem
      · simp [hl]
      · intro j h1 h2
        simp only [List.getElem_map]
        have hj : j < its.length := by simpa using h1
        have hm : its[j] ∈ its := List.getElem_mem hj
        simp only [hm, dif_pos]
        exact ((Classical.choose_spec (key its[j] hm)).2 j (ds[j]'(by omega)) (List.getElem?_eq_getElem hj) (List.getElem?_eq_getElem (by omega))).symm
    have e2 := congrArg (fun l : List Bool => l.any id) e
    simpa [List.any_map, Function.comp] using e2
end
end VF

namespace VF
open PySem PySem.Spec PyProof.Rows L2
open PySem.SeqAt (EqAt RcAt RcNeAt)

/-- the reading of a primitive, by data -/
def rDs (M : Md) (f : List D → Option Rv) : List V → Hp → VK → Prop := fun vs H Q => ∃ F ds rv, (∀ a, F a → H a ≠ none) ∧ OdRs M F H ds vs ∧ f ds = some rv ∧ ∀ F' H' v, New F H F' H' → RvR M H F' H' rv v → Q v H'
def r1D (M : Md) (f : List D → Option Rv) : V → Hp → VK → Prop := fun x H Q => rDs M f [x] H Q
def r2D (M : Md) (f : List D → Option Rv) : R2 := fun x y H Q => rDs M f [x, y] H Q
theorem prim_ok (M : Md) (f : List D → Option Rv) : PrimOK M (rDs M f) f := fun F H ds vs rv Q hd od e q => ⟨F, ds, rv, hd, od, e, q⟩
section
variable {M : Md} {F : Addr → Prop} {H : Hp}
theorem rv_same (hd : ∀ a, F a → H a ≠ none) {rv : Rv} {v : V} {Q : VK} (q : ∀ F' H' v, New F H F' H' → RvR M H F' H' rv v → Q v H') (r : RvR M H F H rv v) : Q v H := q F H v (.refl hd) r
theorem rep_int (i : Int) : RvR M H F H (.val (.int i)) (.int i) := by show Rep M F H (.int i) (.int i); unfold Rep; rfl
theorem rep_bl (i : Bool) : RvR M H F H (.val (.bl i)) (.bl i) := by show Rep M F H (.bl i) (.bl i); unfold Rep; rfl
theorem rep_str (i : Str) : RvR M H F H (.val (.str i)) (.str i) := by show Rep M F H (.str i) (.str i); unfold Rep; rfl
theorem rv_list (hd : ∀ a, F a → H a ≠ none) {p : Addr} {ds : List D} {vs : List V} (hp : H p = none) (l : RepL M F H ds vs) : RvR M H F (upd H p (.lst vs)) (.own (.lst ds)) (.ref p) :=
  ⟨p, rfl, fun z => hd p z hp, hp, vs, upd_same, RepL.mono (New.laid hd hp).ext ds l⟩
theorem rv_tup (hd : ∀ a, F a → H a ≠ none) {p : Addr} {ds : List D} {vs : List V} (hp : H p = none) (l : RepL M F H ds vs) : RvR M H F (upd H p (.tup vs)) (.val (.tup ds)) (.ref p) := by
  show Rep M F _ (.tup ds) (.ref p)
  unfold Rep
  exact ⟨p, vs, rfl, ⟨.of upd_same, fun _ => upd_same⟩, RepL.mono (New.laid hd hp).ext ds l⟩
theorem RepL.append : ∀ {ds es : List D} {vs ws : List V}, RepL M F H ds vs → RepL M F H es ws → RepL M F H (ds ++ es) (vs ++ ws)
  | [], _, _, _, h, g => by unfold RepL at h; subst h; exact g
  | d :: ds, es, _, ws, h, g => by
    unfold RepL at h
    obtain ⟨v, r, rfl, p, q⟩ := h
    show RepL M F H (d :: (ds ++ es)) (v :: (r ++ ws))
    unfold RepL
    exact ⟨v, r ++ ws, rfl, p, RepL.append q g⟩
theorem RepL.drop : ∀ (n : Nat) {ds : List D} {vs : List V}, RepL M F H ds vs → RepL M F H (ds.drop n) (vs.drop n)
  | 0, _, _, h => h
  | _ + 1, [], _, h => by unfold RepL at h; subst h; simp [RepL]
  | n + 1, d :: ds, _, h => by
    unfold RepL at h
    obtain ⟨v, r, rfl, p, q⟩ := h
    exact RepL.drop n q
theorem RepL.take : ∀ (n : Nat) {ds : List D} {vs : List V}, RepL M F H ds vs → RepL M F H (ds.take n) (vs.take n)
  | 0, _, _, h => by simp [RepL]
  | _ + 1, [], _, h => by unfold RepL at h; subst h; simp [RepL]
  | n + 1, d :: ds, _, h => by
    unfold RepL at h
    obtain ⟨v, r, rfl, p, q⟩ := h
    show RepL M F H (d :: ds.take n) (v :: r.take n)
    unfold RepL
    exact ⟨v, r.take n, rfl, p, RepL.take n q⟩
theorem RepL.cons {d : D} {v : V} {ds : List D} {vs : List V} (p : Rep M F H d v) (q : RepL M F H ds vs) : RepL M F H (d :: ds) (v :: vs) := by
  unfold RepL
  exact ⟨v, vs, rfl, p, q⟩
theorem RepL.nil : RepL M F H [] [] := by unfold RepL; rfl
theorem RepL.ints : ∀ {ns : List Int} {vs : List V}, RepL M F H (ns.map D.int) vs → vs = ns.map V.int
  | [], _, h => by unfold RepL at h; exact h
  | n :: ns, _, h => by
    rw [List.map_cons] at h
    unfold RepL at h
    obtain ⟨v, r, rfl, p, q⟩ := h
    unfold Rep at p
    rw [p, RepL.ints q]
    rfl
theorem RepL.bls : ∀ {ns : List Bool} {vs : List V}, RepL M F H (ns.map D.bl) vs → vs = ns.map V.bl
  | [], _, h => by unfold RepL at h; exact h
  | n :: ns, _, h => by
    rw [List.map_cons] at h
    unfold RepL at h
    obtain ⟨v, r, rfl, p, q⟩ := h
    unfold Rep at p
    rw [p, RepL.bls q]
    rfl
end

/-! ### lists of one kind, read off -/
def D.bl? : D → Option Bool
  | .bl i => some i
  | _ => none
def allOf {α : Type} (g : D → Option α) : List D → Option (List α)
  | [] => some []
  | d :: ds => match g d, allOf g ds with
    | some a, some r => some (a :: r)
    | _, _ => none
theorem allOf_map {α : Type} {g : D → Option α} {c : α → D} (hg : ∀ a, g (c a) = some a) : ∀ xs : List α, allOf g (xs.map c) = some xs
  | [] => rfl
  | x :: xs => by
    simp only [List.map_cons, allOf, hg x, allOf_map hg xs]
theorem allOf_eq {α : Type} {g : D → Option α} {c : α → D} (hg : ∀ d a, g d = some a → d = c a) : ∀ {ds : List D} {xs : List α}, allOf g ds = some xs → ds = xs.map c
  | [], xs, h => by cases h; rfl
  | d :: ds, xs, h => by
    cases e1 : g d with
    | none => simp only [allOf, e1] at h; cases h
    | some a =>
      cases e2 : allOf g ds with
      | none => simp only [allOf, e1, e2] at h; cases h
      | some r =>
        simp only [allOf, e1, e2] at h
        cases h
        rw [hg d a e1, allOf_eq hg e2]
        rfl
theorem bls_eq {ds : List D} {xs : List Bool} (h : allOf D.bl? ds = some xs) : ds = xs.map D.bl := allOf_eq (fun d a e => by cases d <;> simp [D.bl?] at e; rw [e]) h

/-! ### operators -/
def fAdd : List D → Option Rv
  | [.int i, .int j] => some (.val (.int (i + j)))
  | [.str x, .str y] => if x.length + y.length ≤ sizeLine then some (.val (.str (x ++ y))) else none
  | [.lst xs, .lst ys] => if xs.length + ys.length ≤ sizeLine then some (.own (.lst (xs ++ ys))) else none
  | [.tup xs, .tup ys] => if xs.length + ys.length ≤ sizeLine then some (.val (.tup (xs ++ ys))) else none
  | _ => none
def fSub : List D → Option Rv
  | [.int i, .int j] => some (.val (.int (i - j)))
  | _ => none
def fMul : List D → Option Rv
  | [.int i, .int j] => if i.natAbs.log2 + j.natAbs.log2 < 1000000 ∨ i.natAbs < 18446744073709551616 ∨ j.natAbs < 18446744073709551616 then some (.val (.int (i * j))) else none
  | _ => none
def fFdiv : List D → Option Rv
  | [.int i, .int j] => if j ≠ 0 ∧ j.natAbs.log2 < 9000 then some (.val (.int (i.fdiv j))) else none
  | _ => none
def fMod : List D → Option Rv
  | [.int i, .int j] => if j ≠ 0 then some (.val (.int (i.fmod j))) else none
  | _ => none
def fPow : List D → Option Rv
  | [.int i, .int j] => if 0 ≤ j ∧ j ≤ 1000000 ∧ i.natAbs < 2 ^ 64 then some (.val (.int (i ^ j.toNat))) else none
  | _ => none
def fNeg : List D → Option Rv
  | [.int i] => some (.val (.int (-i)))
  | _ => none
def fLt : List D → Option Rv
  | [.int i, .int j] => some (.val (.bl (decide (i < j))))
  | [.str i, .str j] => some (.val (.bl (decide (i.cps.toList < j.cps.toList))))
  | _ => none
def fLe : List D → Option Rv
  | [.int i, .int j] => some (.val (.bl (decide (i ≤ j))))
  | [.str i, .str j] => some (.val (.bl (!decide (j.cps.toList < i.cps.toList))))
  | _ => none
def fGt : List D → Option Rv
  | [.int i, .int j] => some (.val (.bl (decide (j < i))))
  | [.str i, .str j] => some (.val (.bl (decide (j.cps.toList < i.cps.toList))))
  | _ => none
def fGe : List D → Option Rv
  | [.int i, .int j] => some (.val (.bl (decide (j ≤ i))))
  | [.str i, .str j] => some (.val (.bl (!decide (i.cps.toList < j.cps.toList))))
  | _ => none
def fEq : List D → Option Rv
  | [d, e] => if pl 60 d = true ∧ pl 60 e = true then some (.val (.bl (D.eq d e))) else none
  | _ => none
def fNe : List D → Option Rv
  | [d, e] => if pl 60 d = true ∧ pl 60 e = true then some (.val (.bl (!D.eq d e))) else none
  | _ => none
def D.isNon : D → Bool
  | .non => true
  | _ => false
def fIs : List D → Option Rv
  | [.bl a, .bl b] => some (.val (.bl (decide (a = b))))
  | [d, .non] => some (.val (.bl d.isNon))
  | _ => none
def fIsNot : List D → Option Rv
  | [.bl a, .bl b] => some (.val (.bl (!decide (a = b))))
  | [d, .non] => some (.val (.bl (!d.isNon)))
  | _ => none
def fIn : List D → Option Rv
  | [.str x, .str y] => some (.val (.bl (!(Builtin.Str.occurrences y x 0 y.length 1).isEmpty)))
  | [d, .lst ds] => if pl 60 d = true ∧ ds.all (pl 60) = true then some (.val (.bl (ds.any fun e => D.eq e d))) else none
  | [d, .tup ds] => if pl 60 d = true ∧ ds.all (pl 60) = true then some (.val (.bl (ds.any fun e => D.eq e d))) else none
  | [d, .tpp ds] => if pl 60 d = true ∧ ds.all (pl 60) = true then some (.val (.bl (ds.any fun e => D.eq e d))) else none
  | _ => none
def fNotIn : List D → Option Rv
  | [.str x, .str y] => some (.val (.bl (!(!(Builtin.Str.occurrences y x 0 y.length 1).isEmpty))))
  | [d, .lst ds] => if pl 60 d = true ∧ ds.all (pl 60) = true then some (.val (.bl (!ds.any fun e => D.eq e d))) else none
  | [d, .tup ds] => if pl 60 d = true ∧ ds.all (pl 60) = true then some (.val (.bl (!ds.any fun e => D.eq e d))) else none
  | [d, .tpp ds] => if pl 60 d = true ∧ ds.all (pl 60) = true then some (.val (.bl (!ds.any fun e => D.eq e d))) else none
  | _ => none

section
variable {M : Md} {X : Cx}
theorem OpR_or {f : Value → Value → Sem Value} {r r' : R2} (a : OpR X f r) (b : OpR X f r') : OpR X f (fun x y H Q => r x y H Q ∨ r' x y H Q) :=
  fun pins s σ H x y v u Q I rx ry h => h.elim (a pins s σ H x y v u Q I rx ry) (b pins s σ H x y v u Q I rx ry)
theorem OpR_imp {f : Value → Value → Sem Value} {r r' : R2} (a : OpR X f r) (h : ∀ x y H Q, r' x y H Q → r x y H Q) : OpR X f r' :=
  fun pins s σ H x y v u Q I rx ry q => a pins s σ H x y v u Q I rx ry (h x y H Q q)
theorem CallR_or {f : Value} {r r' : List V → Hp → VK → Prop} (a : CallR X f r) (b : CallR X f r') : CallR X f (fun xs H Q => r xs H Q ∨ r' xs H Q) :=
  fun pins s σ H xs us Q I rx h => h.elim (a pins s σ H xs us Q I rx) (b pins s σ H xs us Q I rx)
theorem CallR_imp {f : Value} {r r' : List V → Hp → VK → Prop} (a : CallR X f r) (h : ∀ xs H Q, r' xs H Q → r xs H Q) : CallR X f r' :=
  fun pins s σ H xs us Q I rx q => a pins s σ H xs us Q I rx (h xs H Q q)
theorem op_catS : OpR X (binaryOp .Add) (fun x y H Q => ∃ l b xs zs, x = .ref l ∧ y = .ref b ∧ SqL X.K H l xs ∧ SqL X.K H b zs ∧ xs.length + zs.length ≤ sizeLine ∧ ∀ p, H p = none → Q (.ref p) (upd H p (.lst (xs ++ zs)))) := by
  intro pins s σ H x y v u Q I rx ry h
  obtain ⟨l, b, xs, zs, rfl, rfl, hH, hB, hz, q⟩ := h
  cases rx
  cases ry
  obtain ⟨its, r, p1, _⟩ := I.list hH
  obtain ⟨its2, r2, p2, _⟩ := I.list hB
  have hl := r.length
  have hl2 := r2.length
  obtain ⟨⟨cls, dd, data, sl⟩, ho, hc, n, hd⟩ := p1.isList
  obtain ⟨⟨cls2, dd2, data2, sl2⟩, ho2, hc2, n2, hd2⟩ := p2.isList
  simp only at hc hd hc2 hd2
  subst hc hd hc2 hd2
  have e : its.toArray ++ its2.toArray = (its ++ its2).toArray := by simp
  refine concat_meets ⟨_, ho, rfl⟩ ⟨_, ho2, rfl⟩ noFill_list_add seq_list_add PySem.F.slot_list_add PySem.F.entry_list_add (PySem.F.args_list_add_2 _ _) (list_addW l b its.toArray its2.toArray n n2 dd dd2 sl sl2 (by simp; omega)) ⟨ho, ho2, ?_⟩
  rw [e]
  exact ⟨.ref _, _, I.lnew (t' := s.toks) (r.append r2) (by rw [List.length_append]; omega), rfl, q _ I.fresh⟩

theorem o_add (hK : X.K = M.K) : OpR X (binaryOp .Add) (r2D M fAdd) := by
  refine OpR_imp (OpR_or op_add (OpR_or op_add_str (OpR_or op_catS op_catA))) fun x y H Q h => ?_
  obtain ⟨F, ds, rv, hd, od, ef, q⟩ := h
  unfold fAdd at ef
  split at ef
  · obtain ⟨v, w, e, r1, r2⟩ := od.two
    cases e
    cases r1.int
    cases r2.int
    cases ef
    exact .inl ⟨_, _, rfl, rfl, rv_same hd q (rep_int _)⟩
  · obtain ⟨v, w, e, r1, r2⟩ := od.two
    cases e
    cases r1.str
    cases r2.str
    split at ef
    · rename_i hz
      cases ef
      exact .inr (.inl ⟨_, _, rfl, rfl, hz, rv_same hd q (rep_str _)⟩)
    · cases ef
  · obtain ⟨v, w, e, r1, r2⟩ := od.two
    cases e
    obtain ⟨a, vs, rfl, p1, l1⟩ := r1.lst
    obtain ⟨b, ws, rfl, p2, l2⟩ := r2.lst
    split at ef
    · rename_i hz
      cases ef
      refine .inr (.inr (.inl ⟨a, b, vs, ws, rfl, rfl, by rw [hK]; exact p1, by rw [hK]; exact p2, by rw [← l1.length, ← l2.length]; exact hz, fun p hp => ?_⟩))
      exact q F _ _ (New.laid hd hp) (rv_list hd hp (l1.append l2))
    · cases ef
  · obtain ⟨v, w, e, r1, r2⟩ := od.two
    cases e
    obtain ⟨a, vs, rfl, ⟨p1, t1⟩, l1⟩ := r1.tup2
    obtain ⟨b, ws, rfl, ⟨p2, t2⟩, l2⟩ := r2.tup2
    split at ef
    · rename_i hz
      cases ef
      refine .inr (.inr (.inr ⟨a, b, vs, ws, rfl, rfl, by rw [hK]; exact p1, by rw [hK]; exact p2, by rw [← l1.length, ← l2.length]; exact hz, fun e => ?_, fun _ e => ?_, fun _ _ p hp => ?_⟩))
      · subst e
        refine rv_same hd q ?_
        show Rep M F H _ _
        unfold Rep
        exact ⟨b, _, rfl, ⟨p2, fun z => t2 (by have e1 := l1.length; simp at e1 z; simp [e1] at z; exact z)⟩, l1.append l2⟩
      · subst e
        refine rv_same hd q ?_
        show Rep M F H _ _
        unfold Rep
        have z := l1.append l2
        rw [List.append_nil] at z
        exact ⟨a, _, rfl, ⟨p1, fun y => t1 (by have e2 := l2.length; simp at e2 y; simp [e2] at y; exact y)⟩, z⟩
      · exact q F _ _ (New.laid hd hp) (rv_tup hd hp (l1.append l2))
    · cases ef
  · cases ef
/-- two ints -/
theorem r2_ints {f : List D → Option Rv} {x y : V} {H : Hp} {Q : VK} {C : Int → Int → Prop} {g : Int → Int → D} {gv : Int → Int → V} (hf : ∀ ds rv, f ds = some rv → ∃ i j, ds = [.int i, .int j] ∧ C i j ∧ rv = .val (g i j)) (hg : ∀ F i j, RvR M H F H (.val (g i j)) (gv i j))
    (h : r2D M f x y H Q) : rI C gv x y H Q := by
  obtain ⟨F, ds, rv, hd, od, ef, q⟩ := h
  obtain ⟨i, j, rfl, c, rfl⟩ := hf ds rv ef
  obtain ⟨v, w, e, r1, r2⟩ := od.two
  cases e
  cases r1.int
  cases r2.int
  exact ⟨i, j, rfl, rfl, c, rv_same hd q (hg F i j)⟩
theorem o_sub : OpR X (binaryOp .Sub) (r2D M fSub) := by
  refine OpR_imp op_sub fun x y H Q h => ?_
  obtain ⟨i, j, e1, e2, _, q⟩ := r2_ints (C := fun _ _ => True) (g := fun i j => .int (i - j)) (gv := fun i j => .int (i - j)) (fun ds rv e => by
    unfold fSub at e
    split at e
    · cases e; exact ⟨_, _, rfl, trivial, rfl⟩
    · cases e) (fun F i j => rep_int _) h
  exact ⟨i, j, e1, e2, q⟩
def CMulD (i j : Int) : Prop := i.natAbs.log2 + j.natAbs.log2 < 1000000 ∨ i.natAbs < 18446744073709551616 ∨ j.natAbs < 18446744073709551616
theorem CMulD.ok {i j : Int} (h : CMulD i j) : IntMulOk i j := by
  rcases h with h | h | h
  · exact CMulW.ok h
  · exact CMul.ok (.inl (by constructor <;> omega))
  · exact CMul.ok (.inr (by constructor <;> omega))
theorem op_mulD : OpR X (binaryOp .Mult) (rI CMulD fun i j => .int (i * j)) := opI fun _ _ _ _ _ _ _ hc q => mul_int q hc.ok
theorem o_mul : OpR X (binaryOp .Mult) (r2D M fMul) := OpR_imp op_mulD fun x y H Q h => r2_ints (C := CMulD) (g := fun i j => .int (i * j)) (gv := fun i j => .int (i * j)) (fun ds rv e => by
    unfold fMul at e
    split at e
    · split at e
      · rename_i hz
        cases e; exact ⟨_, _, rfl, hz, rfl⟩
      · cases e
    · cases e) (fun F i j => rep_int _) h
theorem op_fdivX : OpR X (binaryOp .FloorDiv) (rI (fun _ j => j ≠ 0 ∧ j.natAbs.log2 < 9000) fun i j => .int (i.fdiv j)) := opI fun i j _ _ _ _ _ hc q => floordiv_int hc.1 q (.inl (PyProof.noPylong_of_log2 hc.2))
theorem o_fdiv : OpR X (binaryOp .FloorDiv) (r2D M fFdiv) := OpR_imp op_fdivX fun x y H Q h => r2_ints (C := fun _ j => j ≠ 0 ∧ j.natAbs.log2 < 9000) (g := fun i j => .int (i.fdiv j)) (gv := fun i j => .int (i.fdiv j)) (fun ds rv e => by
    unfold fFdiv at e
    split at e
    · split at e
      · rename_i hz
        cases e; exact ⟨_, _, rfl, hz, rfl⟩
      · cases e
    · cases e) (fun F i j => rep_int _) h
theorem o_mod : OpR X (binaryOp .Mod) (r2D M fMod) := OpR_imp op_modN fun x y H Q h => r2_ints (C := fun _ j => j ≠ 0) (g := fun i j => .int (i.fmod j)) (gv := fun i j => .int (i.fmod j)) (fun ds rv e => by
    unfold fMod at e
    split at e
    · split at e
      · rename_i hz
        cases e; exact ⟨_, _, rfl, hz, rfl⟩
      · cases e
    · cases e) (fun F i j => rep_int _) h
theorem o_pow : OpR X (binaryOp .Pow) (r2D M fPow) := OpR_imp op_pow fun x y H Q h => r2_ints (C := CPow) (g := fun i j => .int (i ^ j.toNat)) (gv := fun i j => .int (i ^ j.toNat)) (fun ds rv e => by
    unfold fPow at e
    split at e
    · split at e
      · rename_i hz
        cases e; exact ⟨_, _, rfl, hz, rfl⟩
      · cases e
    · cases e) (fun F i j => rep_int _) h
theorem o_neg : UnR X (unaryOp .USub) (r1D M fNeg) := fun pins s σ H x v Q I rx h => by
  obtain ⟨F, ds, rv, hd, od, ef, q⟩ := h
  unfold fNeg at ef
  split at ef
  · obtain ⟨w, e, r1⟩ := od.one
    cases e
    cases r1.int
    cases ef
    exact un_neg pins s σ H _ v Q I rx ⟨_, rfl, rv_same hd q (rep_int _)⟩
  · cases ef
/-- comparisons of ints and of texts -/
theorem r2_cmp {f : List D → Option Rv} {p : Int → Int → Bool} {ps : Str → Str → Bool} (hf : ∀ ds rv, f ds = some rv → (∃ i j, ds = [.int i, .int j] ∧ rv = .val (.bl (p i j))) ∨ ∃ i j, ds = [.str i, .str j] ∧ rv = .val (.bl (ps i j))) {x y : V} {H : Hp} {Q : VK} (h : r2D M f x y H Q) :
    rI0 (fun i j => .bl (p i j)) x y H Q ∨ ∃ i j, x = .str i ∧ y = .str j ∧ Q (.bl (ps i j)) H := by
  obtain ⟨F, ds, rv, hd, od, ef, q⟩ := h
  rcases hf ds rv ef with ⟨i, j, rfl, rfl⟩ | ⟨i, j, rfl, rfl⟩
  · obtain ⟨v, w, e, r1, r2⟩ := od.two
    cases e
    cases r1.int
    cases r2.int
    exact .inl ⟨i, j, rfl, rfl, rv_same hd q (rep_bl _)⟩
  · obtain ⟨v, w, e, r1, r2⟩ := od.two
    cases e
    cases r1.str
    cases r2.str
    exact .inr ⟨i, j, rfl, rfl, rv_same hd q (rep_bl _)⟩
theorem o_lt : OpR X (compareOp .Lt) (r2D M fLt) := OpR_imp (OpR_or op_lt op_lt_str) fun x y H Q h => r2_cmp (p := fun i j => decide (i < j)) (ps := fun i j => decide (i.cps.toList < j.cps.toList)) (fun ds rv e => by
  unfold fLt at e
  split at e
  · cases e; exact .inl ⟨_, _, rfl, rfl⟩
  · cases e; exact .inr ⟨_, _, rfl, rfl⟩
  · cases e) h
theorem o_le : OpR X (compareOp .LtE) (r2D M fLe) := OpR_imp (OpR_or op_le op_le_str) fun x y H Q h => r2_cmp (p := fun i j => decide (i ≤ j)) (ps := fun i j => !decide (j.cps.toList < i.cps.toList)) (fun ds rv e => by
  unfold fLe at e
  split at e
  · cases e; exact .inl ⟨_, _, rfl, rfl⟩
  · cases e; exact .inr ⟨_, _, rfl, rfl⟩
  · cases e) h
theorem o_gt : OpR X (compareOp .Gt) (r2D M fGt) := OpR_imp (OpR_or op_gt op_gt_str) fun x y H Q h => r2_cmp (p := fun i j => decide (j < i)) (ps := fun i j => decide (j.cps.toList < i.cps.toList)) (fun ds rv e => by
  unfold fGt at e
  split at e
  · cases e; exact .inl ⟨_, _, rfl, rfl⟩
  · cases e; exact .inr ⟨_, _, rfl, rfl⟩
  · cases e) h
theorem o_ge : OpR X (compareOp .GtE) (r2D M fGe) := OpR_imp (OpR_or op_ge op_ge_str) fun x y H Q h => r2_cmp (p := fun i j => decide (j ≤ i)) (ps := fun i j => !decide (i.cps.toList < j.cps.toList)) (fun ds rv e => by
  unfold fGe at e
  split at e
  · cases e; exact .inl ⟨_, _, rfl, rfl⟩
  · cases e; exact .inr ⟨_, _, rfl, rfl⟩
  · cases e) h
theorem o_eq (hK : X.K = M.K) (hu : X.A.units + 64 < cLine) : OpR X (compareOp .Eq) (r2D M fEq) := by
  intro pins s σ H x y v u Q I rx ry h
  obtain ⟨F, ds, rv, hd, od, ef, q⟩ := h
  unfold fEq at ef
  split at ef
  · obtain ⟨v, w, e, r1, r2⟩ := od.two
    cases e
    split at ef
    · rename_i hp
      cases ef
      exact (eqD I hK 60 _ _ _ _ _ _ X.A r1 r2 rx ry hp.1 hp.2 (by omega)).r _ _ _ _ ⟨.bl _, H, I, rfl, rv_same hd q (rep_bl _)⟩
    · cases ef
  · cases ef
theorem o_ne (hK : X.K = M.K) (hu : X.A.units + 64 < cLine) : OpR X (compareOp .NotEq) (r2D M fNe) := by
  intro pins s σ H x y v u Q I rx ry h
  obtain ⟨F, ds, rv, hd, od, ef, q⟩ := h
  unfold fNe at ef
  split at ef
  · obtain ⟨v, w, e, r1, r2⟩ := od.two
    cases e
    split at ef
    · rename_i hp
      cases ef
      exact (eqD I hK 60 _ _ _ _ _ _ X.A r1 r2 rx ry hp.1 hp.2 (by omega)).n _ _ _ _ ⟨.bl _, H, I, rfl, rv_same hd q (rep_bl _)⟩
    · cases ef
  · cases ef
theorem od_isnon {F : Addr → Prop} {H : Hp} {d : D} {v : V} (h : OdR M F H d v) : decide (v = .non) = d.isNon := by
  cases d with
  | non => rw [h.non]; simp [D.isNon]
  | bl b => rw [h.bl]; simp [D.isNon]
  | int b => rw [h.int]; simp [D.isNon]
  | str b => rw [h.str]; simp [D.isNon]
  | tup ds => obtain ⟨a, vs, rfl, _⟩ := h.tup; simp [D.isNon]
  | lst ds => obtain ⟨a, vs, rfl, _⟩ := h.lst; simp [D.isNon]
  | dck ks ds => obtain ⟨a, vs, rfl, _⟩ := h.dck; simp [D.isNon]
  | dct ks ds => obtain ⟨a, vs, rfl, _⟩ := h.dct; simp [D.isNon]
  | ins c fs ds => obtain ⟨a, C, dx, vs, rfl, _⟩ := h.ins; simp [D.isNon]
  | exn c fs ds a dx => obtain ⟨rfl, _⟩ := h.exn; simp [D.isNon]
  | tpp ds => obtain ⟨a, vs, o, rfl, _⟩ := h.tpp; simp [D.isNon]
theorem o_isnot : OpR X (compareOp .IsNot) (r2D M fIsNot) := by
  refine OpR_imp (OpR_or op_notBl op_notN) fun x y H Q h => ?_
  obtain ⟨F, ds, rv, hd, od, ef, q⟩ := h
  unfold fIsNot at ef
  split at ef
  · obtain ⟨v, w, e, r1, r2⟩ := od.two
    cases e
    cases r1.bl
    cases r2.bl
    cases ef
    exact .inl ⟨_, _, rfl, rfl, rv_same hd q (rep_bl _)⟩
  · obtain ⟨v, w, e, r1, r2⟩ := od.two
    cases e
    cases r2.non
    cases ef
    refine .inr ⟨rfl, ?_⟩
    rw [od_isnon r1]
    exact rv_same hd q (rep_bl _)
  · cases ef
theorem o_in (hK : X.K = M.K) (hu : X.A.units + 64 < cLine) : OpR X (compareOp .In) (r2D M fIn) := by
  intro pins s σ H x y v u Q I rx ry h
  obtain ⟨F, ds, rv, hd, od, ef, q⟩ := h
  have hin : X.A.in1.units + 60 < cLine := by
    have : X.A.in1.units = X.A.units + 1 := rfl
    omega
  unfold fIn at ef
  split at ef
  · obtain ⟨v, w, e, r1, r2⟩ := od.two
    cases e
    cases r1.str
    cases r2.str
    cases ef
    exact op_in_str pins s σ H _ _ _ _ Q I rx ry ⟨_, _, rfl, rfl, rv_same hd q (rep_bl _)⟩
  · obtain ⟨v, w, e, r1, r2⟩ := od.two
    cases e
    split at ef
    · rename_i hp
      cases ef
      obtain ⟨a, vs, its, rfl, rfl, _, l, r, p⟩ := od_list I hK r2 ry
      obtain ⟨f, h1, h2⟩ := any_eqD (A := X.A) I hK r1 rx hp.1 hin l r (by simpa using hp.2)
      refine PySem.SeqAt.in_listAt f p (fun w hw => h1 w (by simpa using hw)) ⟨.bl _, H, I, rfl, ?_⟩
      rw [show its.toArray.any f = its.any f by simp, h2]
      exact rv_same hd q (rep_bl _)
    · cases ef
  · obtain ⟨v, w, e, r1, r2⟩ := od.two
    cases e
    split at ef
    · rename_i hp
      cases ef
      obtain ⟨a, vs, its, rfl, rfl, _, l, r, p⟩ := od_tup I hK r2 ry
      obtain ⟨f, h1, h2⟩ := any_eqD (A := X.A) I hK r1 rx hp.1 hin l r (by simpa using hp.2)
      refine PySem.SeqAt.in_tupleAt f p (fun w hw => h1 w (by simpa using hw)) ⟨.bl _, H, I, rfl, ?_⟩
      rw [show its.toArray.any f = its.any f by simp, h2]
      exact rv_same hd q (rep_bl _)
    · cases ef
  · obtain ⟨v, w, e, r1, r2⟩ := od.two
    cases e
    split at ef
    · rename_i hp
      cases ef
      obtain ⟨a, vs, its, rfl, rfl, _, l, r, p⟩ := od_tpS I hK r2 ry
      obtain ⟨f, h1, h2⟩ := any_eqD (A := X.A) I hK r1 rx hp.1 hin l r (by simpa using hp.2)
      refine PySem.SeqAt.in_tupleAt f p (fun w hw => h1 w (by simpa using hw)) ⟨.bl _, H, I, rfl, ?_⟩
      rw [show its.toArray.any f = its.any f by simp, h2]
      exact rv_same hd q (rep_bl _)
    · cases ef
  · cases ef
theorem o_notin (hK : X.K = M.K) (hu : X.A.units + 64 < cLine) : OpR X (compareOp .NotIn) (r2D M fNotIn) := by
  intro pins s σ H x y v u Q I rx ry h
  obtain ⟨F, ds, rv, hd, od, ef, q⟩ := h
  have hin : X.A.in1.units + 60 < cLine := by
    have : X.A.in1.units = X.A.units + 1 := rfl
    omega
  unfold fNotIn at ef
  split at ef
  · obtain ⟨v, w, e, r1, r2⟩ := od.two
    cases e
    cases r1.str
    cases r2.str
    cases ef
    exact op_notIn_str pins s σ H _ _ _ _ Q I rx ry ⟨_, _, rfl, rfl, rv_same hd q (rep_bl _)⟩
  · obtain ⟨v, w, e, r1, r2⟩ := od.two
    cases e
    split at ef
    · rename_i hp
      cases ef
      obtain ⟨a, vs, its, rfl, rfl, _, l, r, p⟩ := od_list I hK r2 ry
      obtain ⟨f, h1, h2⟩ := any_eqD (A := X.A) I hK r1 rx hp.1 hin l r (by simpa using hp.2)
      refine PySem.SeqAt.notIn_listAt f p (fun w hw => h1 w (by simpa using hw)) ⟨.bl _, H, I, rfl, ?_⟩
      rw [show its.toArray.any f = its.any f by simp, h2]
      exact rv_same hd q (rep_bl _)
    · cases ef
  · obtain ⟨v, w, e, r1, r2⟩ := od.two
    cases e
    split at ef
    · rename_i hp
      cases ef
      obtain ⟨a, vs, its, rfl, rfl, _, l, r, p⟩ := od_tup I hK r2 ry
      obtain ⟨f, h1, h2⟩ := any_eqD (A := X.A) I hK r1 rx hp.1 hin l r (by simpa using hp.2)
      refine PySem.SeqAt.notIn_tupleAt f p (fun w hw => h1 w (by simpa using hw)) ⟨.bl _, H, I, rfl, ?_⟩
      rw [show its.toArray.any f = its.any f by simp, h2]
      exact rv_same hd q (rep_bl _)
    · cases ef
  · obtain ⟨v, w, e, r1, r2⟩ := od.two
    cases e
    split at ef
    · rename_i hp
      cases ef
      obtain ⟨a, vs, its, rfl, rfl, _, l, r, p⟩ := od_tpS I hK r2 ry
      obtain ⟨f, h1, h2⟩ := any_eqD (A := X.A) I hK r1 rx hp.1 hin l r (by simpa using hp.2)
      refine PySem.SeqAt.notIn_tupleAt f p (fun w hw => h1 w (by simpa using hw)) ⟨.bl _, H, I, rfl, ?_⟩
      rw [show its.toArray.any f = its.any f by simp, h2]
      exact rv_same hd q (rep_bl _)
    · cases ef
  · cases ef
end
end VF

namespace VF
open PySem PySem.Spec PyProof.Rows L2

/-! ### dicts by value -/
def kget {κ : Type} [DecidableEq κ] : List κ → List D → κ → Option D
  | k :: ks, d :: ds, x => if k = x then some d else kget ks ds x
  | _, _, _ => none
def D.key? : D → Option Key
  | .int i => some (.inl i)
  | .str x => some (.inr x)
  | _ => none
section
variable {M : Md} {F : Addr → Prop} {H : Hp}
theorem kget_val {κ : Type} [DecidableEq κ] {x : κ} : ∀ {kvs : List (κ × V)} {ds : List D}, RepL M F H ds (kvs.map (·.2)) →
    (kget (kvs.map (·.1)) ds x = none ∧ valV kvs x = none) ∨ ∃ d v, kget (kvs.map (·.1)) ds x = some d ∧ valV kvs x = some v ∧ Rep M F H d v
  | [], ds, h => by
    cases ds with
    | nil => exact .inl ⟨rfl, rfl⟩
    | cons d ds => unfold RepL at h; obtain ⟨v, r, e, _⟩ := h; cases e
  | (k, w) :: kvs, ds, h => by
    cases ds with
    | nil => unfold RepL at h; cases h
    | cons d ds =>
      unfold RepL at h
      obtain ⟨v, r, e, p, q⟩ := h
      cases e
      simp only [List.map_cons, kget]
      by_cases hk : k = x
      · rw [if_pos hk, valV_pos (p := (k, w)) hk]
        exact .inr ⟨d, w, rfl, rfl, p⟩
      · rw [if_neg hk, valV_neg (p := (k, w)) hk]
        exact kget_val q
theorem key_rep {d : D} {k : Key} {v : V} (e : d.key? = some k) (h : OdR M F H d v) : v = kV k := by
  cases d <;> simp [D.key?] at e
  · rw [h.int, ← e]; rfl
  · rw [h.str, ← e]; rfl
theorem keys_rep : ∀ {ds : List D} {ks : List Key} {vs : List V}, allOf D.key? ds = some ks → RepL M F H ds vs → vs = ks.map kV
  | [], ks, vs, e, h => by cases e; unfold RepL at h; exact h
  | d :: ds, ks, vs, e, h => by
    cases e1 : d.key? with
    | none => simp only [allOf, e1] at e; cases e
    | some k =>
      cases e2 : allOf D.key? ds with
      | none => simp only [allOf, e1, e2] at e; cases e
      | some r =>
        simp only [allOf, e1, e2] at e
        cases e
        unfold RepL at h
        obtain ⟨v, w, rfl, p, q⟩ := h
        rw [key_rep e1 (.inl p), keys_rep e2 q]
        rfl
end

def fItem : List D → Option Rv
  | [.lst ds, .int i] => (atI ds i).map .val
  | [.tup ds, .int i] => (atI ds i).map .val
  | [.str z, .int i] => if z.length ≤ sizeLine then (atI z.cps.toList i).map fun c => .val (.str ⟨#[c]⟩) else none
  | [.dck ks ds, e] => match e.key? with
    | some k => (kget ks ds k).map .val
    | none => none
  | [.tpp ds, .int i] => (atI ds i).map .val
  | _ => none
theorem at_rep {M : Md} {F : Addr → Prop} {H : Hp} {ds : List D} {vs : List V} {i : Int} {d : D} (l : RepL M F H ds vs) (e : atI ds i = some d) : ∃ v, atI vs i = some v ∧ Rep M F H d v := by
  unfold atI at e ⊢
  rw [← l.length]
  cases q : ixN ds.length i with
  | none => rw [q] at e; cases e
  | some j =>
    rw [q] at e
    obtain ⟨v, h1, h2⟩ := RepL.get l (show ds[j]? = some d from e)
    exact ⟨v, h1, h2⟩
section
variable {M : Md} {X : Cx}
theorem ix_dict (hu : X.A.units + 1 < cLine) : IxR X (fun x y H Q => ∃ a v, x = .ref a ∧ DGet H a y (some v) ∧ Q v H) := by
  intro value slice pins s σ H x y v u Q I rx ry h hs
  obtain ⟨a, w, rfl, g, q⟩ := h
  cases rx
  exact tail_any (dict_typeIs I g) PySem.F.slot_dict_getitem.lookup (d_getItem hu I g ry fun w' s' I' rw' => ⟨w, H, I', rw', q⟩) hs
theorem IxR_imp {r r' : R2} (a : IxR X r) (h : ∀ x y H Q, r' x y H Q → r x y H Q) : IxR X r' :=
  fun value slice pins s σ H x y v u Q I rx ry q hs => a value slice pins s σ H x y v u Q I rx ry (h x y H Q q) hs
theorem i_item (hK : X.K = M.K) (hu : X.A.units + 1 < cLine) : IxR X (r2D M fItem) := by
  refine IxR_imp (ix_list.or (ix_tup.or (ix_str.or (ix_dict hu)))) fun x y H Q h => ?_
  obtain ⟨F, ds, rv, hd, od, ef, q⟩ := h
  unfold fItem at ef
  split at ef
  · obtain ⟨v, w, e, r1, r2⟩ := od.two
    cases e
    cases r2.int
    obtain ⟨a, vs, rfl, p1, l1⟩ := r1.lst
    obtain ⟨d, e1, rfl⟩ := Option.map_eq_some_iff.mp ef
    obtain ⟨z, h1, h2⟩ := at_rep l1 e1
    exact .inl ⟨a, vs, _, z, rfl, rfl, by rw [hK]; exact p1, h1, rv_same hd q h2⟩
  · obtain ⟨v, w, e, r1, r2⟩ := od.two
    cases e
    cases r2.int
    obtain ⟨a, vs, rfl, p1, l1⟩ := r1.tup
    obtain ⟨d, e1, rfl⟩ := Option.map_eq_some_iff.mp ef
    obtain ⟨z, h1, h2⟩ := at_rep l1 e1
    exact .inr (.inl ⟨a, vs, _, z, rfl, rfl, by rw [hK]; exact p1, h1, rv_same hd q h2⟩)
  · obtain ⟨v, w, e, r1, r2⟩ := od.two
    cases e
    cases r2.int
    cases r1.str
    split at ef
    · rename_i hz
      obtain ⟨c, e1, rfl⟩ := Option.map_eq_some_iff.mp ef
      exact .inr (.inr (.inl ⟨_, _, c, rfl, rfl, hz, e1, rv_same hd q (rep_str _)⟩))
    · cases ef
  · obtain ⟨v, w, e, r1, r2⟩ := od.two
    cases e
    obtain ⟨a, vs, rfl, p1, k1, l1⟩ := r1.dck
    split at ef
    · rename_i k ek
      obtain ⟨d, e1, rfl⟩ := Option.map_eq_some_iff.mp ef
      subst k1
      rcases kget_val (x := k) l1 with ⟨z, _⟩ | ⟨d', v', z1, z2, z3⟩
      · rw [z] at e1; cases e1
      · rw [z1] at e1
        cases e1
        exact .inr (.inr (.inr ⟨a, v', rfl, .inl ⟨vs, k, p1, key_rep ek r2, z2.symm⟩, rv_same hd q z3⟩))
    · cases ef
  · obtain ⟨v, w, e, r1, r2⟩ := od.two
    cases e
    cases r2.int
    obtain ⟨a, vs, rfl, p1, l1⟩ := r1.tpS
    obtain ⟨d, e1, rfl⟩ := Option.map_eq_some_iff.mp ef
    obtain ⟨z, h1, h2⟩ := at_rep l1 e1
    exact .inr (.inl ⟨a, vs, _, z, rfl, rfl, by rw [hK]; exact p1, h1, rv_same hd q h2⟩)
  · cases ef
end

/-! ### slices -/
def cutD (ds : List D) (lo hi : Option Int) : List D := (ds.drop (HT.sIx ds.length 0 lo)).take (HT.sIx ds.length ds.length hi - HT.sIx ds.length 0 lo)
def fSl : D → Option Int → Option Int → Option Rv
  | .lst ds, lo, hi => some (.own (.lst (cutD ds lo hi)))
  | .tup ds, lo, hi => some (.val (.tup (cutD ds lo hi)))
  | .str z, lo, hi => if z.length ≤ sizeLine then some (.val (.str (cutS z lo hi))) else none
  | .tpp ds, lo, hi => if (cutD ds lo hi).length = ds.length then none else some (.val (.tup (cutD ds lo hi)))
  | _, _, _ => none
def rSlD (M : Md) : V → Option Int → Option Int → Hp → VK → Prop := fun x lo hi H Q => ∃ F d rv, (∀ a, F a → H a ≠ none) ∧ OdR M F H d x ∧ fSl d lo hi = some rv ∧ ∀ F' H' v, New F H F' H' → RvR M H F' H' rv v → Q v H'
theorem cut_rep {M : Md} {F : Addr → Prop} {H : Hp} {ds : List D} {vs : List V} (lo hi : Option Int) (l : RepL M F H ds vs) : RepL M F H (cutD ds lo hi) (cutV vs lo hi) := by
  unfold cutD cutV
  rw [l.length]
  exact (l.drop _).take _
theorem SlR_imp {X : Cx} {r r' : V → Option Int → Option Int → Hp → VK → Prop} (a : L2.SlR X r) (h : ∀ x lo hi H Q, r' x lo hi H Q → r x lo hi H Q) : L2.SlR X r' :=
  fun pins s σ H x v vl vu lo hi sl Q I rx hs pl pu q => a pins s σ H x v vl vu lo hi sl Q I rx hs pl pu (h x lo hi H Q q)
theorem s_slice {M : Md} {X : Cx} (hK : X.K = M.K) : L2.SlR X (rSlD M) := by
  refine SlR_imp (sl_list.or (sl_tupA.or sl_str)) fun x lo hi H Q h => ?_
  obtain ⟨F, d, rv, hd, od, ef, q⟩ := h
  cases d <;> simp only [fSl] at ef
  case lst ds =>
    cases ef
    obtain ⟨a, vs, rfl, p1, l1⟩ := od.lst
    exact .inl ⟨a, vs, rfl, by rw [hK]; exact p1, fun p hp => q F _ _ (New.laid hd hp) (rv_list hd hp (cut_rep lo hi l1))⟩
  case tup ds =>
    cases ef
    obtain ⟨a, vs, rfl, ⟨p1, t1⟩, l1⟩ := od.tup2
    refine .inr (.inl ⟨a, vs, rfl, by rw [hK]; exact p1, fun hw => ?_, fun _ p hp => q F _ _ (New.laid hd hp) (rv_tup hd hp (cut_rep lo hi l1))⟩)
    refine rv_same hd q ?_
    show Rep M F H _ _
    unfold Rep
    have z := cut_rep lo hi l1
    have e : cutV vs lo hi = vs := by
      unfold cutV
      rw [hw.1, hw.2]
      simp
    rw [e] at z
    exact ⟨a, vs, rfl, ⟨p1, fun y => t1 (by rw [l1.length, ← z.length]; exact y)⟩, z⟩
  case str z =>
    split at ef
    · rename_i hz
      cases ef
      cases od.str
      exact .inr (.inr ⟨z, rfl, hz, rv_same hd q (rep_str _)⟩)
    · cases ef
  case tpp ds =>
    split at ef
    · cases ef
    · rename_i hne
      cases ef
      obtain ⟨a, vs, rfl, p1, l1⟩ := od.tpS
      refine .inr (.inl ⟨a, vs, rfl, by rw [hK]; exact p1, fun hw => ?_, fun _ p hp => q F _ _ (New.laid hd hp) (rv_tup hd hp (cut_rep lo hi l1))⟩)
      have z := cut_rep lo hi l1
      have e : cutV vs lo hi = vs := by
        unfold cutV
        rw [hw.1, hw.2]
        simp
      rw [e] at z
      exact absurd (z.length.trans l1.length.symm) hne
  all_goals cases ef

/-! ### built-in calls -/
def fLen : List D → Option Rv
  | [.lst ds] => some (.val (.int ds.length))
  | [.tup ds] => some (.val (.int ds.length))
  | [.str z] => if z.length ≤ sizeLine then some (.val (.int z.length)) else none
  | [.tpp ds] => some (.val (.int ds.length))
  | _ => none
def fInt : List D → Option Rv
  | [.int i] => some (.val (.int i))
  | [.bl k] => some (.val (.int (if k then 1 else 0)))
  | _ => none
def fList : List D → Option Rv
  | [.lst ds] => some (.own (.lst ds))
  | [.tup ds] => some (.own (.lst ds))
  | [.tpp ds] => some (.own (.lst ds))
  | _ => none
def fTuple : List D → Option Rv
  | [.lst ds] => some (.val (.tup ds))
  | [.tup ds] => some (.val (.tup ds))
  | _ => none
def fAll : List D → Option Rv
  | [.lst ds] => match allOf D.bl? ds with
    | some bs => some (.val (.bl (bs.all id)))
    | none => none
  | _ => none
def imin : List Int → Int
  | [] => 0
  | [x] => x
  | x :: xs => min x (imin xs)
section
variable {M : Md} {X : Cx}
theorem c_len (hK : X.K = M.K) : CallR X (.builtin "len") (rDs M fLen) := by
  refine CallR_imp (CallR_or call_len_seq call_len_str) fun xs H Q h => ?_
  obtain ⟨F, ds, rv, hd, od, ef, q⟩ := h
  unfold fLen at ef
  split at ef
  · obtain ⟨v, rfl, r1⟩ := od.one
    obtain ⟨a, vs, rfl, p1, l1⟩ := r1.lst
    cases ef
    refine .inl ⟨a, vs, rfl, .inl (by rw [hK]; exact p1), ?_⟩
    rw [← l1.length]
    exact rv_same hd q (rep_int _)
  · obtain ⟨v, rfl, r1⟩ := od.one
    obtain ⟨a, vs, rfl, p1, l1⟩ := r1.tup
    cases ef
    refine .inl ⟨a, vs, rfl, .inr (by rw [hK]; exact p1), ?_⟩
    rw [← l1.length]
    exact rv_same hd q (rep_int _)
  · obtain ⟨v, rfl, r1⟩ := od.one
    cases r1.str
    split at ef
    · rename_i hz
      cases ef
      exact .inr ⟨_, rfl, hz, rv_same hd q (rep_int _)⟩
    · cases ef
  · obtain ⟨v, rfl, r1⟩ := od.one
    obtain ⟨a, vs, rfl, p1, l1⟩ := r1.tpS
    cases ef
    refine .inl ⟨a, vs, rfl, .inr (by rw [hK]; exact p1), ?_⟩
    rw [← l1.length]
    exact rv_same hd q (rep_int _)
  · cases ef
theorem c_int : CallR X (.type "int") (rDs M fInt) := by
  refine CallR_imp call_int1 fun xs H Q h => ?_
  obtain ⟨F, ds, rv, hd, od, ef, q⟩ := h
  unfold fInt at ef
  split at ef
  · obtain ⟨v, rfl, r1⟩ := od.one
    cases r1.int
    cases ef
    exact .inl ⟨_, rfl, rv_same hd q (rep_int _)⟩
  · obtain ⟨v, rfl, r1⟩ := od.one
    cases r1.bl
    cases ef
    exact .inr ⟨_, rfl, rv_same hd q (rep_int _)⟩
  · cases ef
theorem c_list (hK : X.K = M.K) : CallR X (.type "list") (rDs M fList) := by
  refine CallR_imp call_list_of fun xs H Q h => ?_
  obtain ⟨F, ds, rv, hd, od, ef, q⟩ := h
  unfold fList at ef
  split at ef
  · obtain ⟨v, rfl, r1⟩ := od.one
    obtain ⟨a, vs, rfl, p1, l1⟩ := r1.lst
    cases ef
    exact ⟨a, vs, rfl, .inl (by rw [hK]; exact p1), fun p hp => q F _ _ (New.laid hd hp) (rv_list hd hp l1)⟩
  · obtain ⟨v, rfl, r1⟩ := od.one
    obtain ⟨a, vs, rfl, p1, l1⟩ := r1.tup
    cases ef
    exact ⟨a, vs, rfl, .inr (by rw [hK]; exact p1), fun p hp => q F _ _ (New.laid hd hp) (rv_list hd hp l1)⟩
  · obtain ⟨v, rfl, r1⟩ := od.one
    obtain ⟨a, vs, rfl, p1, l1⟩ := r1.tpS
    cases ef
    exact ⟨a, vs, rfl, .inr (by rw [hK]; exact p1), fun p hp => q F _ _ (New.laid hd hp) (rv_list hd hp l1)⟩
  · cases ef
theorem c_tuple (hK : X.K = M.K) : CallR X (.type "tuple") (rDs M fTuple) := by
  refine CallR_imp call_tuple_of fun xs H Q h => ?_
  obtain ⟨F, ds, rv, hd, od, ef, q⟩ := h
  unfold fTuple at ef
  split at ef
  · obtain ⟨v, rfl, r1⟩ := od.one
    obtain ⟨a, vs, rfl, p1, l1⟩ := r1.lst
    cases ef
    exact ⟨a, vs, rfl, .inl ⟨by rw [hK]; exact p1, fun p hp => q F _ _ (New.laid hd hp) (rv_tup hd hp l1)⟩⟩
  · obtain ⟨v, rfl, r1⟩ := od.one
    obtain ⟨a, vs, rfl, ⟨p1, t1⟩, l1⟩ := r1.tup2
    cases ef
    refine ⟨a, vs, rfl, .inr ⟨by rw [hK]; exact p1, rv_same hd q ?_⟩⟩
    show Rep M F H _ _
    unfold Rep
    exact ⟨a, vs, rfl, ⟨p1, t1⟩, l1⟩
  · cases ef
theorem c_all (hK : X.K = M.K) (hc : X.calm = true) : CallR X (.builtin "all") (rDs M fAll) := by
  refine CallR_imp (cr_all hc) fun xs H Q h => ?_
  obtain ⟨F, ds, rv, hd, od, ef, q⟩ := h
  unfold fAll at ef
  split at ef
  · obtain ⟨v, rfl, r1⟩ := od.one
    obtain ⟨a, vs, rfl, p1, l1⟩ := r1.lst
    split at ef
    · rename_i bs e
      cases ef
      rw [bls_eq e] at l1
      rw [l1.bls] at p1
      exact ⟨a, bs, rfl, by rw [hK]; exact p1, rv_same hd q (rep_bl _)⟩
    · cases ef
  · cases ef
end

/-! ### texts -/
end VF

namespace VF
open PySem PySem.Spec PyProof.Rows L2

/-! ### small combinators -/
def cst (d : D) : ES := fun ρ => .ok (.val d) ρ
/-- a name as a value: an own object is frozen -/
def nm (i : Nat) : ES := fun ρ => match gt ρ i with
  | some (.val d) => .ok (.val d) ρ
  | some (.own d) => .ok (.val d) (ρ.set i (some (.val d)))
  | _ => .bad
def evI : Option Opd → En → Out (Option Int)
  | none, ρ => .ok none ρ
  | some o, ρ => (o.ev ρ).bind fun x ρ' => match x.dat ρ' with
    | some (.int i) => .ok (some i) ρ'
    | _ => .bad
def slc (o : Opd) (lo hi : Option Opd) : ES := fun ρ => (o.ev ρ).bind fun x ρ1 => (evI lo ρ1).bind fun l ρ2 => (evI hi ρ2).bind fun u ρ3 => match x.dat ρ3 with
  | some d => (match fSl d l u with
    | some r => .ok r ρ3
    | none => .bad)
  | none => .bad
def chn (f g : List D → Option Rv) (a b c : Opd) : ES := fun ρ => (a.ev ρ).bind fun x ρ0 => (b.ev ρ0).bind fun y ρ1 => match x.dat ρ1, y.dat ρ1 with
  | some d, some e => (match f [d, e] with
    | some (.val (.bl true)) => (c.ev ρ1).bind fun z ρ2 => (match y.dat ρ2, z.dat ρ2 with
      | some e', some k => (match g [e', k] with
        | some r => .ok r ρ2
        | none => .bad)
      | _, _ => .bad)
    | some (.val (.bl false)) => .ok (.val (.bl false)) ρ1
    | _ => .bad)
  | _, _ => .bad
def vals : List Ov → Option (List D)
  | [] => some []
  | .val d :: xs => (vals xs).map (d :: ·)
  | .at _ :: _ => none
def disp (mk : List D → Rv) (φs : List ES) : ES := fun ρ => (evs (φs.map .ex) ρ).bind fun xs ρ' => match vals xs with
  | some ds => .ok (mk ds) ρ'
  | none => .bad
def D.truth : D → Option Bool
  | .non => some false
  | .bl b => some b
  | .int i => some (i != 0)
  | .str y => if y.length ≤ sizeLine then some ((y.length : Int) != 0) else none
  | .tup ds => some (!ds.isEmpty)
  | .lst ds => some (!ds.isEmpty)
  | _ => none
abbrev BS := En → Out Bool
def tru (o : Opd) : BS := fun ρ => (o.ev ρ).bind fun x ρ' => match x.dat ρ' with
  | some d => (match d.truth with
    | some k => .ok k ρ'
    | none => .bad)
  | none => .bad
def bnot (t : BS) : BS := fun ρ => (t ρ).bind fun b ρ' => .ok (!b) ρ'
def band (t u : BS) : BS := fun ρ => (t ρ).bind fun b ρ' => if b then u ρ' else .ok false ρ'
def bor (t u : BS) : BS := fun ρ => (t ρ).bind fun b ρ' => if b then .ok true ρ' else u ρ'
def iff (t : BS) (a b : ES) : ES := fun ρ => (t ρ).bind fun c ρ' => if c then a ρ' else b ρ'
def andE (a b : ES) : ES := fun ρ => (a ρ).bind fun r ρ' => match r.d.truth with
  | some true => b ρ'
  | some false => .ok r ρ'
  | none => .bad
def orE (a b : ES) : ES := fun ρ => (a ρ).bind fun r ρ' => match r.d.truth with
  | some false => b ρ'
  | some true => .ok r ρ'
  | none => .bad
def notE (o : Opd) : ES := fun ρ => (tru o ρ).bind fun b ρ' => .ok (.val (.bl (!b))) ρ'
/-- the reading of a test -/
def tT (M : Md) (W : WX) (φ : BS) : TT := fun σ H Q => ∃ F ρ, SR M F H σ ρ ∧ Want M W F H σ ρ (φ ρ) fun b _ H' _ => Q b H'

section
variable {M : Md} {W : WX} {F : Addr → Prop} {H : Hp} {σ : St} {ρ : En}
/-- one step behind another -/
theorem Want.bind {α β : Type} {o : Out α} {f : α → En → Out β} {Q : β → (Addr → Prop) → Hp → En → Prop} (h : Want M W F H σ ρ (o.bind f) Q) :
    Want M W F H σ ρ o fun a F1 H1 ρ1 => Po M F H σ ρ F1 H1 ρ1 → Want M W F1 H1 σ ρ1 (f a ρ1) fun b F2 H2 ρ2 => Po M F H σ ρ F2 H2 ρ2 → Q b F2 H2 ρ2 := by
  cases o with
  | bad => exact h
  | exc x ρ' => exact h
  | ok a ρ1 =>
    intro F1 H1 po1 _
    have h : Want M W F H σ ρ (f a ρ1) Q := h
    cases e : f a ρ1 with
    | bad => rw [e] at h; exact h
    | exc x ρ2 => rw [e] at h; exact fun F2 H2 cls d po2 xr => h F2 H2 cls d (po1.trans po2) xr
    | ok b ρ2 => rw [e] at h; exact fun F2 H2 po2 _ => h F2 H2 (po1.trans po2)
theorem Want.mono {α : Type} {o : Out α} {Q Q' : α → (Addr → Prop) → Hp → En → Prop} (h : Want M W F H σ ρ o Q) (k : ∀ a F' H' ρ', Po M F H σ ρ F' H' ρ' → Q a F' H' ρ' → Q' a F' H' ρ') : Want M W F H σ ρ o Q' := by
  cases o with
  | bad => exact h
  | exc x ρ' => exact h
  | ok a ρ' => exact fun F' H' po => k a F' H' ρ' po (h F' H' po)
theorem Want.ok {α : Type} {a : α} {ρ' : En} {Q : α → (Addr → Prop) → Hp → En → Prop} (h : Want M W F H σ ρ (.ok a ρ') Q) {F' : Addr → Prop} {H' : Hp} (po : Po M F H σ ρ F' H' ρ') : Q a F' H' ρ' := h F' H' po
/-- an own object is frozen where it stands -/
theorem freeze_slot (s : SR M F H σ ρ) {i : Nat} {d : D} (e : gt ρ i = some (.own d)) : ∃ F' v, gv σ i = some v ∧ Po M F H σ ρ F' H (ρ.set i (some (.val d))) ∧ Rep M F' H d v := by
  obtain ⟨v, hv, a, rfl, nf, c⟩ := s.slot i _ e
  have hi := gt_lt e
  have x : Ext F H (fun b => F b ∨ b = a) H := ⟨fun _ h => .inl h, fun _ _ _ _ h => h, fun _ _ _ _ h => h, fun _ _ h => h, fun _ _ h => h⟩
  obtain ⟨u, hu, _⟩ := c.some_of
  have ne : ∀ j t, j ≠ i → gt ρ j = some t → t.top = true → gv σ j ≠ some (.ref a) := fun j t hj ht htop z => hj (s.dist j i t _ a ht e htop rfl z hv)
  refine ⟨fun b => F b ∨ b = a, .ref a, hv, ⟨⟨fun b h => .inl h, fun b o h _ _ => .inl h, fun b h => h, fun b h => ?_, fun b h => ?_, fun b h => ?_⟩, ⟨by rw [List.length_set]; exact s.len, fun b h => ?_, fun j t h => ?_, fun j k t t' b h1 h2 h3 h4 h5 h6 => ?_, s.xn.ext x (fun P q t => t.kept (fun _ h => .inl h) fun _ _ _ h _ => h)⟩, ⟨by rw [List.length_set], fun j => ?_⟩⟩, (c.mono x fun _ h => h).rep (.inr rfl)⟩
  · rcases h with h | rfl
    · exact .inl h
    · exact .inr (.inr ⟨i, d, e, hv⟩)
  · obtain ⟨j, d', h1, h2⟩ := h
    by_cases hj : i = j
    · subst hj
      rw [gt_set_self hi] at h1
      cases h1
    · rw [gt_set_ne hj] at h1
      exact .inl ⟨j, d', h1, h2⟩
  · obtain ⟨j, d', h1, h2⟩ := h
    by_cases hj : i = j
    · subst hj
      rw [gt_set_self hi] at h1
      cases h1
    · rw [gt_set_ne hj] at h1
      exact ⟨j, d', h1, h2⟩
  · rcases h with h | rfl
    · exact s.dom b h
    · intro z
      have hu : H b = some u := hu
      rw [z] at hu
      cases hu
  · by_cases hj : i = j
    · subst hj
      rw [gt_set_self hi] at h
      cases h
      exact ⟨.ref a, hv, (c.mono x fun _ h => h).rep (.inr rfl)⟩
    · rw [gt_set_ne hj] at h
      obtain ⟨w, hw, r⟩ := s.slot j t h
      refine ⟨w, hw, ?_⟩
      cases t with
      | val d' => exact Rep.mono x d' r
      | own d' =>
        obtain ⟨b, rfl, nf', c'⟩ := r
        exact ⟨b, rfl, fun z => z.elim nf' fun z => ne j _ (Ne.symm hj) h rfl (by rw [hw, z]), c'.mono x fun _ h => h⟩
      | ref d' =>
        obtain ⟨b, rfl, nf', c'⟩ := r
        exact ⟨b, rfl, fun z => z.elim nf' fun z => ne j _ (Ne.symm hj) h rfl (by rw [hw, z]), c'.mono x fun _ h => h⟩
      | rd d' =>
        obtain ⟨b, rfl, nf', c'⟩ := r
        exact ⟨b, rfl, fun z => z.elim nf' fun z => ne j _ (Ne.symm hj) h rfl (by rw [hw, z]), c'.mono x fun _ h => h⟩
  · by_cases hj : i = j
    · subst hj
      rw [gt_set_self hi] at h1
      cases h1
      cases h3
    · by_cases hk : i = k
      · subst hk
        rw [gt_set_self hi] at h2
        cases h2
        cases h4
      · rw [gt_set_ne hj] at h1
        rw [gt_set_ne hk] at h2
        exact s.dist j k t t' b h1 h2 h3 h4 h5 h6
  · by_cases hj : i = j
    · subst hj
      rw [gt_set_self hi, e]
      trivial
    · rw [gt_set_ne hj]
      exact .refl _
theorem nm_run {i : Nat} {Q : VK} (h : tE M W (nm i) σ H Q) : tVar i σ H Q := by
  obtain ⟨F, ρ, s, h⟩ := h
  cases e : gt ρ i with
  | none => simp only [nm, e] at h; exact h.elim
  | some t =>
    cases t with
    | val d =>
      simp only [nm, e] at h
      obtain ⟨v, hv, r⟩ := s.slot i _ e
      exact ⟨v, gv_some hv, h F H (.refl s) v r⟩
    | own d =>
      simp only [nm, e] at h
      obtain ⟨F', v, hv, po, r⟩ := freeze_slot s e
      exact ⟨v, gv_some hv, h F' H po v r⟩
    | ref d => simp only [nm, e] at h; exact h.elim
    | rd d => simp only [nm, e] at h; exact h.elim
theorem cst_run {d : D} {v : V} {Q : VK} (r : ∀ F H, Rep M F H d v) (h : tE M W (cst d) σ H Q) : Q v H := by
  obtain ⟨F, ρ, s, h⟩ := h
  exact h F H (.refl s) v (r F H)
/-- an operand, then more -/
theorem op_bind (s : SR M F H σ ρ) {o : Opd} {β : Type} {f : Ov → En → Out β} {Q : β → (Addr → Prop) → Hp → En → Prop} {Q' : VK} (h : Want M W F H σ ρ ((o.ev ρ).bind f) Q)
    (k : ∀ x F1 H1 ρ1 v, Po M F H σ ρ F1 H1 ρ1 → OvR M F1 H1 σ x v → Want M W F1 H1 σ ρ1 (f x ρ1) (fun b F2 H2 ρ2 => Po M F H σ ρ F2 H2 ρ2 → Q b F2 H2 ρ2) → Q' v H1) : tO M W o σ H Q' :=
  op_run s ((Want.bind h).mono fun x F1 H1 ρ1 po q v rv => k x F1 H1 ρ1 v po rv (q po))
theorem tE_of' (s : SR M F H σ ρ) {φ : ES} {β : Type} {f : Rv → En → Out β} {Q : β → (Addr → Prop) → Hp → En → Prop} {Q' : VK} (h : Want M W F H σ ρ ((φ ρ).bind f) Q)
    (k : ∀ r F1 H1 ρ1 v, Po M F H σ ρ F1 H1 ρ1 → RvR M H F1 H1 r v → Want M W F1 H1 σ ρ1 (f r ρ1) (fun b F2 H2 ρ2 => Po M F H σ ρ F2 H2 ρ2 → Q b F2 H2 ρ2) → Q' v H1) : tE M W φ σ H Q' :=
  tE_of s ((Want.bind h).mono fun x F1 H1 ρ1 po q v rv => k x F1 H1 ρ1 v po rv (q po))
theorem tT_of (s : SR M F H σ ρ) {φ : BS} {β : Type} {f : Bool → En → Out β} {Q : β → (Addr → Prop) → Hp → En → Prop} {Q' : Bool → Hp → Prop} (h : Want M W F H σ ρ ((φ ρ).bind f) Q)
    (k : ∀ b F1 H1 ρ1, Po M F H σ ρ F1 H1 ρ1 → Want M W F1 H1 σ ρ1 (f b ρ1) (fun c F2 H2 ρ2 => Po M F H σ ρ F2 H2 ρ2 → Q c F2 H2 ρ2) → Q' b H1) : tT M W φ σ H Q' :=
  ⟨F, ρ, s, (Want.bind h).mono fun b F1 H1 ρ1 po q => k b F1 H1 ρ1 po (q po)⟩
theorem od_truth {d : D} {v : V} {k : Bool} (h : OdR M F H d v) (e : d.truth = some k) : TruV M.K v H k := by
  cases d with
  | non => cases h.non; cases e; rfl
  | bl b => cases h.bl; cases e; rfl
  | int b => cases h.int; cases e; rfl
  | str b =>
    cases h.str
    simp only [D.truth] at e
    split at e
    · rename_i hz
      cases e
      exact ⟨hz, rfl⟩
    · cases e
  | tup ds =>
    obtain ⟨a, vs, rfl, q, l⟩ := h.tup
    cases e
    refine .inr (.inl ⟨vs, q, ?_⟩)
    have := l.length
    cases ds <;> cases vs <;> simp at this ⊢
  | lst ds =>
    obtain ⟨a, vs, rfl, q, l⟩ := h.lst
    cases e
    refine .inl ⟨vs, q, ?_⟩
    have := l.length
    cases ds <;> cases vs <;> simp at this ⊢
  | dck ks ds => cases e
  | dct ks ds => cases e
  | ins c fs ds => cases e
  | exn c fs ds a dx => cases e
  | tpp ds => cases e
end

/-! ### the context of a derivation -/
/-- what is written of a def's (or block's) names: by slot, their scope, whose cells are its own -/
structure Cs where
  N : List Str
  sc : Scope
  fb : Str → Bool
structure G0 (M : Md) (cs : Cs) (k : Nat) (X : Cx) : Prop where
  hP : X.prog = M.P
  hw : X.w = M.w
  hb : X.base = M.base
  hK : X.K = M.K
  hmg : X.mg = M.mg
  hN : X.N = cs.N
  nd : cs.N.Nodup
  hsc : X.env.scope = cs.sc
  hfn : X.fn = cs.fb
  un : X.A.units + 16 * k + 200 < cLine
structure G (M : Md) (cs : Cs) (W : WX) (k : Nat) (X : Cx) : Prop extends G0 M cs k X where
  calm : X.calm = true
  tk : Takes X W
  room : Room k X.A
  pass : PassesOwn (model X.prog X.w) X.A X.env X.xe
  nx : M.xn = none
section
variable {M : Md} {cs : Cs} {W : WX} {k : Nat} {X : Cx}
theorem G0.hu (g : G0 M cs k X) : X.A.units + 64 < cLine := by have := g.un; omega
theorem G0.hu1 (g : G0 M cs k X) : X.A.units + 1 < cLine := by have := g.un; omega
theorem G0.vis (g : G0 M cs k X) {x : Str} (h : Vis cs.sc x) : Vis X.env.scope x := by rw [g.hsc]; exact h
theorem G0.gl (g : G0 M cs k X) {x : Str} (h : cs.sc.names.lookup x = some .globalImplicit) : Gl X x := by
  show X.env.scope.names.lookup x = _
  rw [g.hsc]
  exact h

/-! ### rules -/
theorem e_sl (g : G0 M cs k X) {i : Nat} {x : Str} {pos : Pos} (hi : cs.N[i]? = some x) (hv : Vis cs.sc x) (hd : (x == ("__debug__" : Str)) = false) (hcd : (x == ("__classdict__" : Str)) = false) : PE X (.Name x pos) (tO M W (.sl i)) :=
  pe_var (by rw [g.hN]; exact hi) (g.vis hv) hd hcd
theorem e_nm (g : G0 M cs k X) {i : Nat} {x : Str} {pos : Pos} (hi : cs.N[i]? = some x) (hv : Vis cs.sc x) (hd : (x == ("__debug__" : Str)) = false) (hcd : (x == ("__classdict__" : Str)) = false) : PE X (.Name x pos) (tE M W (nm i)) :=
  PE_imp (pe_var (by rw [g.hN]; exact hi) (g.vis hv) hd hcd) fun σ H Q h => nm_run h
theorem e_int {i : Int} {j : Nat} {pos : Pos} : PE X (.Constant (.int i) j pos) (tE M W (cst (.int i))) := PE_imp pe_int fun σ H Q h => cst_run (fun F H => by unfold Rep; rfl) h
theorem e_bl {i : Bool} {j : Nat} {pos : Pos} : PE X (.Constant (.bool i) j pos) (tE M W (cst (.bl i))) := PE_imp pe_bl fun σ H Q h => cst_run (fun F H => by unfold Rep; rfl) h
theorem e_str {i : Str} {j : Nat} {pos : Pos} : PE X (.Constant (.str i) j pos) (tE M W (cst (.str i))) := PE_imp pe_str fun σ H Q h => cst_run (fun F H => by unfold Rep; rfl) h
theorem e_non {j : Nat} {pos : Pos} : PE X (.Constant .none j pos) (tE M W (cst .non)) := PE_imp pe_non fun σ H Q h => cst_run (fun F H => by unfold Rep; rfl) h
/-- a constant of the module -/
def GlobOk (M : Md) (x : Str) (d : D) : Prop := ∃ u v, M.mg x = some u ∧ RelV v u ∧ ∀ F H, Rep M F H d v
theorem e_glob (g : G0 M cs k X) {x : Str} {d : D} {pos : Pos} (h : GlobOk M x d) (hg : cs.sc.names.lookup x = some .globalImplicit) (hd : (x == ("__debug__" : Str)) = false) : PE X (.Name x pos) (tE M W (cst d)) := by
  obtain ⟨u, v, h1, h2, h3⟩ := h
  exact PE_imp (pe_glob (g.gl hg) (by rw [g.hmg]; exact h1) h2 hd) fun σ H Q h => cst_run h3 h
/-- operands -/
theorem o_ex {e : Expr} {φ : ES} (h : PE X e (tE M W φ)) : PE X e (tO M W (.ex φ)) := h
theorem a_nil : PA X [] (tOs M W []) := pa_nil
theorem a_cons {e : Expr} {es : List Expr} {o : Opd} {os : List Opd} (h : PE X e (tO M W o)) (hr : PA X es (tOs M W os)) (hs : starEach (e :: es) X.env = (false, eval e X.env) :: starEach es X.env) : PA X (e :: es) (tOs M W (o :: os)) := pa_cons h hr hs
theorem e_bin {a b : Expr} {op : Operator} {pos : Pos} {f : List D → Option Rv} {oa ob : Opd} (ho : OpR X (binaryOp op) (r2D M f)) (ha : PE X a (tO M W oa)) (hb : PE X b (tO M W ob)) : PE X (.BinOp a op b pos) (tE M W (app f [oa, ob])) :=
  PE_imp (pe_op ho ha hb) fun σ H Q h => app_run (prim_ok M f) h
theorem e_un {a : Expr} {op : UnaryOp} {pos : Pos} {f : List D → Option Rv} {oa : Opd} (ho : UnR X (unaryOp op) (r1D M f)) (ha : PE X a (tO M W oa)) : PE X (.UnaryOp op a pos) (tE M W (app f [oa])) :=
  PE_imp (pe_un ho ha) fun σ H Q h => app_run (prim_ok M f) h
theorem e_cmp {a b : Expr} {op : CmpOp} {pos : Pos} {f : List D → Option Rv} {oa ob : Opd} (ho : OpR X (compareOp op) (r2D M f)) (ha : PE X a (tO M W oa)) (hb : PE X b (tO M W ob)) (hm : behindInMarks op b = false) : PE X (.Compare a [op] [b] pos) (tE M W (app f [oa, ob])) :=
  PE_imp (pe_cmpR ho ha hb hm) fun σ H Q h => app_run (prim_ok M f) h
theorem e_callB (g : G0 M cs k X) {x : Str} {p pos : Pos} {e : Expr} {es : List Expr} {id : String} {f : List D → Option Rv} {os : List Opd} (hc : CallR X (.builtin id) (rDs M f)) (hg : cs.sc.names.lookup x = some .globalImplicit) (hm : M.mg x = none) (hv : bootBuiltins x = some (.builtin id)) (ha : PA X (e :: es) (tOs M W os))
    (hn : x ≠ "__name__") (hdb : (x == ("__debug__" : Str)) = false) (he : starEach (e :: es) X.env = (false, eval e X.env) :: starEach es X.env) (hpl : (backTo pos (starEach es X.env)).any (·.1) = false) : PE X (.Call (.Name x p) (e :: es) [] pos) (tE M W (app f os)) :=
  PE_imp (pe_callB hc (g.gl hg) (by rw [g.hmg]; exact hm) hv ha hn hdb he hpl) fun σ H Q h => app_run (prim_ok M f) h
theorem e_callTy (g : G0 M cs k X) {x : Str} {p pos : Pos} {e : Expr} {es : List Expr} {T : String} {f : List D → Option Rv} {os : List Opd} (hc : CallR X (.type T) (rDs M f)) (hg : cs.sc.names.lookup x = some .globalImplicit) (hm : M.mg x = none) (hv : bootBuiltins x = some (.type T)) (ha : PA X (e :: es) (tOs M W os))
    (hn : x ≠ "__name__") (hdb : (x == ("__debug__" : Str)) = false) (he : starEach (e :: es) X.env = (false, eval e X.env) :: starEach es X.env) (hpl : (backTo pos (starEach es X.env)).any (·.1) = false) : PE X (.Call (.Name x p) (e :: es) [] pos) (tE M W (app f os)) :=
  PE_imp (pe_callTy hc (g.gl hg) (by rw [g.hmg]; exact hm) hv ha hn hdb he hpl) fun σ H Q h => app_run (prim_ok M f) h
/-! slices -/
theorem part_run {F : Addr → Prop} {H : Hp} {σ : St} {ρ : En} (s : SR M F H σ ρ) {o : Opd} {β : Type} {f : Option Int → En → Out β} {Q : β → (Addr → Prop) → Hp → En → Prop} {Q' : Option Int → Hp → Prop} (h : Want M W F H σ ρ ((evI (some o) ρ).bind f) Q)
    (k : ∀ x F1 H1 ρ1, Po M F H σ ρ F1 H1 ρ1 → Want M W F1 H1 σ ρ1 (f x ρ1) (fun b F2 H2 ρ2 => Po M F H σ ρ F2 H2 ρ2 → Q b F2 H2 ρ2) → Q' x H1) : tPart (tO M W o) σ H Q' := by
  have h1 : Want M W F H σ ρ ((o.ev ρ).bind fun x ρ' => (match x.dat ρ' with | some (.int i) => Out.ok (some i) ρ' | _ => .bad).bind f) Q := by
    have e : (evI (some o) ρ).bind f = ((o.ev ρ).bind fun x ρ' => (match x.dat ρ' with | some (.int i) => Out.ok (some i) ρ' | _ => .bad).bind f) := by
      simp only [evI]
      cases o.ev ρ <;> rfl
    rw [← e]
    exact h
  refine op_bind s h1 fun x F1 H1 ρ1 v po rv q => ?_
  cases e : x.dat ρ1 with
  | none => simp only [e] at q; exact q.elim
  | some d =>
    cases d with
    | int i =>
      simp only [e] at q
      exact ⟨i, (rv.od po.sr e).int, k _ F1 H1 ρ1 po q⟩
    | _ => simp only [e] at q; exact q.elim
theorem e_slc (g : G0 M cs k X) {a : Expr} {lo hi : Option Expr} {p2 pos : Pos} {oa : Opd} {ol oh : Option Opd} (ha : PE X a (tO M W oa)) (hl : match lo, ol with | some e, some o => PE X e (tO M W o) | none, none => True | _, _ => False)
    (hh : match hi, oh with | some e, some o => PE X e (tO M W o) | none, none => True | _, _ => False) : PE X (.Subscript a (.Slice lo hi none p2) pos) (tE M W (slc oa ol oh)) := by
  have fin : ∀ {F : Addr → Prop} {H : Hp} {σ : St} {ρ : En} {l u : Option Int} {x : Ov} {v : V} {Q : VK} {F0 : Addr → Prop} {H0 : Hp} {ρ0 : En}, SR M F H σ ρ → (∀ a, H a = none → H0 a = none) → Po M F0 H0 σ ρ0 F H ρ → OvR M F H σ x v →
      Want M W F H σ ρ (match x.dat ρ with | some d => (match fSl d l u with | some r => Out.ok r ρ | none => .bad) | none => .bad) (fun r F2 H2 ρ2 => Po M F0 H0 σ ρ0 F2 H2 ρ2 → ∀ v, RvR M H0 F2 H2 r v → Q v H2) → rSlD M v l u H Q := fun {F H σ ρ l u x v Q F0 H0 ρ0} s hd po0 rv q => by
    cases e : x.dat ρ with
    | none => simp only [e] at q; exact q.elim
    | some d =>
      simp only [e] at q
      cases e2 : fSl d l u with
      | none => simp only [e2] at q; exact q.elim
      | some r =>
        simp only [e2] at q
        exact ⟨F, d, r, s.dom, rv.od s e, e2, fun F' H' w n rr => q F' H' (n.po s) (po0.trans (n.po s)) w (rr.from hd)⟩
  cases lo with
  | none =>
    cases ol with
    | some _ => exact hl.elim
    | none =>
      cases hi with
      | none =>
        cases oh with
        | some _ => exact hh.elim
        | none =>
          refine PE_imp (pe_slice (s_slice g.hK) ha po_none po_none) fun σ H Q h => ?_
          obtain ⟨F, ρ, s, h⟩ := h
          exact op_bind s h fun x F1 H1 ρ1 v po rv q => fin po.sr (fun a => po.stp.dom a) po rv q
      | some ei =>
        cases oh with
        | none => exact hh.elim
        | some o2 =>
          refine PE_imp (pe_slice (s_slice g.hK) ha po_none (po_some hh)) fun σ H Q h => ?_
          obtain ⟨F, ρ, s, h⟩ := h
          refine op_bind s h fun x F1 H1 ρ1 v po rv q => ?_
          show tPart (tO M W o2) σ H1 fun u H3 => rSlD M v none u H3 Q
          refine part_run po.sr q fun j F2 H2 ρ2 po2 q2 => ?_
          exact fin po2.sr (fun a z => po.stp.dom a (po2.stp.dom a z)) (po.trans po2) (rv.mono (po2.ext po.sr)) (q2.mono fun r F3 H3 ρ3 po3 z y => z (po2.trans po3) y)
  | some el =>
    cases ol with
    | none => exact hl.elim
    | some o1 =>
      cases hi with
      | none =>
        cases oh with
        | some _ => exact hh.elim
        | none =>
          refine PE_imp (pe_slice (s_slice g.hK) ha (po_some hl) po_none) fun σ H Q h => ?_
          obtain ⟨F, ρ, s, h⟩ := h
          refine op_bind s h fun x F1 H1 ρ1 v po rv q => ?_
          refine part_run po.sr q fun j F2 H2 ρ2 po2 q2 => ?_
          exact fin po2.sr (fun a z => po.stp.dom a (po2.stp.dom a z)) (po.trans po2) (rv.mono (po2.ext po.sr)) (q2.mono fun r F3 H3 ρ3 po3 z y => z (po2.trans po3) y)
      | some ei =>
        cases oh with
        | none => exact hh.elim
        | some o2 =>
          refine PE_imp (pe_slice (s_slice g.hK) ha (po_some hl) (po_some hh)) fun σ H Q h => ?_
          obtain ⟨F, ρ, s, h⟩ := h
          refine op_bind s h fun x F1 H1 ρ1 v po rv q => ?_
          refine part_run po.sr q fun j F2 H2 ρ2 po2 q2 => ?_
          refine part_run po2.sr q2 fun j3 F3 H3 ρ3 po3 q3 => ?_
          exact fin po3.sr (fun a z => po.stp.dom a (po2.stp.dom a (po3.stp.dom a z))) (po.trans (po2.trans po3)) ((rv.mono (po2.ext po.sr)).mono (po3.ext po2.sr)) (q3.mono fun r F4 H4 ρ4 po4 z y => z (po3.trans po4) (po2.trans (po3.trans po4)) y)
end
end VF

namespace VF
open PySem PySem.Spec PyProof.Rows L2

section
variable {M : Md} {W : WX} {cs : Cs} {k : Nat} {X : Cx}
theorem chn_run {f f' : List D → Option Rv} {oa ob oc : Opd} {σ : St} {H : Hp} {Q : VK} (h : tE M W (chn f f' oa ob oc) σ H Q) : tChain (r2D M f) (r2D M f') (tO M W oa) (tO M W ob) (tO M W oc) σ H Q := by
  obtain ⟨F, ρ, s, h⟩ := h
  refine op_bind s h fun x F0 H0 ρ0 v po0 rv q => ?_
  refine op_bind po0.sr q fun y F1 H1 ρ1 w po1 rw' q => ?_
  cases e1 : x.dat ρ1 with
  | none => simp only [e1] at q; exact q.elim
  | some d =>
    cases e2 : y.dat ρ1 with
    | none => simp only [e1, e2] at q; exact q.elim
    | some e =>
      simp only [e1, e2] at q
      cases e3 : f [d, e] with
      | none => simp only [e3] at q; exact q.elim
      | some r =>
        have od1 := (rv.mono (po1.ext po0.sr)).od po1.sr e1
        have od2 := rw'.od po1.sr e2
        refine ⟨F1, [d, e], r, po1.sr.dom, ⟨v, [w], rfl, od1, w, [], rfl, od2, rfl⟩, e3, fun F2 H2 z n rr => ?_⟩
        cases r with
        | own _ => simp only [e3] at q; exact q.elim
        | val dr =>
          cases dr with
          | bl kk =>
            have ez : z = .bl kk := by
              have rr : Rep M F2 H2 (.bl kk) z := rr
              unfold Rep at rr
              exact rr
            refine ⟨kk, ez, ?_⟩
            cases kk with
            | false =>
              simp only [e3] at q
              rw [if_neg (by decide)]
              refine q F2 H2 (n.po po1.sr) (po1.trans (n.po po1.sr)) (po0.trans (po1.trans (n.po po1.sr))) (.bl false) ?_
              show Rep M F2 H2 (.bl false) _
              unfold Rep
              rfl
            | true =>
              simp only [e3] at q
              rw [if_pos rfl]
              have s2 := (n.po po1.sr).sr
              have rw2 := rw'.mono n.ext
              -- from here on over F2 H2
              have q2 : Want M W F2 H2 σ ρ1 ((oc.ev ρ1).bind fun z ρ2 => match y.dat ρ2, z.dat ρ2 with | some e', some k => (match f' [e', k] with | some r => Out.ok r ρ2 | none => .bad) | _, _ => .bad)
                  (fun b F3 H3 ρ3 => ∀ v, RvR M H F3 H3 b v → Q v H3) := by
                have q' : Want M W F1 H1 σ ρ1 ((oc.ev ρ1).bind fun z ρ2 => match y.dat ρ2, z.dat ρ2 with | some e', some k => (match f' [e', k] with | some r => Out.ok r ρ2 | none => .bad) | _, _ => .bad)
                  (fun b F3 H3 ρ3 => Po M F0 H0 σ ρ0 F3 H3 ρ3 → Po M F H σ ρ F3 H3 ρ3 → ∀ v, RvR M H F3 H3 b v → Q v H3) := q
                revert q'
                cases ((oc.ev ρ1).bind fun z ρ2 => match y.dat ρ2, z.dat ρ2 with | some e', some k => (match f' [e', k] with | some r => Out.ok r ρ2 | none => .bad) | _, _ => .bad) with
                | bad => exact id
                | exc xx ρ9 => exact fun q' F3 H3 cls dd po xr => q' F3 H3 cls dd ((n.po po1.sr).trans po) xr
                | ok b ρ9 => exact fun q' F3 H3 po => q' F3 H3 ((n.po po1.sr).trans po) (po1.trans ((n.po po1.sr).trans po)) (po0.trans (po1.trans ((n.po po1.sr).trans po)))
              refine op_bind s2 q2 fun z2 F3 H3 ρ3 v3 po3 rv3 q3 => ?_
              cases e5 : y.dat ρ3 with
              | none => simp only [e5] at q3; exact q3.elim
              | some e' =>
                cases e6 : z2.dat ρ3 with
                | none => simp only [e5, e6] at q3; exact q3.elim
                | some k' =>
                  simp only [e5, e6] at q3
                  cases e7 : f' [e', k'] with
                  | none => simp only [e7] at q3; exact q3.elim
                  | some r' =>
                    simp only [e7] at q3
                    refine ⟨F3, [e', k'], r', po3.sr.dom, ⟨w, [v3], rfl, (rw2.mono (po3.ext s2)).od po3.sr e5, v3, [], rfl, rv3.od po3.sr e6, rfl⟩, e7, fun F4 H4 v4 n4 rr4 => ?_⟩
                    refine q3 F4 H4 (n4.po po3.sr) (po3.trans (n4.po po3.sr)) v4 (rr4.from fun a z => ?_)
                    exact po0.stp.dom a (po1.stp.dom a ((n.po po1.sr).stp.dom a (po3.stp.dom a z)))
          | _ => simp only [e3] at q; exact q.elim

theorem e_chn {a b c : Expr} {op op' : CmpOp} {pos : Pos} {f f' : List D → Option Rv} {oa ob oc : Opd} (ho : OpR X (compareOp op) (r2D M f)) (ho' : OpR X (compareOp op') (r2D M f')) (ha : PE X a (tO M W oa)) (hb : PE X b (tO M W ob)) (hc : PE X c (tO M W oc))
    (hm : lastMarks [op, op'] [b, c] = false) : PE X (.Compare a [op, op'] [b, c] pos) (tE M W (chn f f' oa ob oc)) :=
  PE_imp (pe_chain ho ho' ha hb hc hm) fun σ H Q h => chn_run h
/-! ### displays -/
theorem evs_length : ∀ {os : List Opd} {ρ ρ' : En} {xs : List Ov}, evs os ρ = .ok xs ρ' → xs.length = os.length
  | [], _, _, _, h => by cases h; rfl
  | o :: os, ρ, ρ', xs, h => by
    unfold evs at h
    cases e : o.ev ρ with
    | bad => rw [e] at h; cases h
    | exc x ρ1 => rw [e] at h; cases h
    | ok x ρ1 =>
      rw [e] at h
      have h : (evs os ρ1).bind (fun xs ρ2 => .ok (x :: xs) ρ2) = .ok xs ρ' := h
      cases e2 : evs os ρ1 with
      | bad => rw [e2] at h; cases h
      | exc x ρ1 => rw [e2] at h; cases h
      | ok ys ρ2 =>
        rw [e2] at h
        cases h
        simp [evs_length e2]
theorem vals_rep {F : Addr → Prop} {H : Hp} {σ : St} : ∀ {xs : List Ov} {ds : List D} {vs : List V}, vals xs = some ds → OvRs M F H σ xs vs → RepL M F H ds vs
  | [], ds, vs, e, h => by cases e; rw [show vs = [] from h]; exact .nil
  | .val d :: xs, ds, vs, e, h => by
    obtain ⟨r, e1, rfl⟩ := Option.map_eq_some_iff.mp (show (vals xs).map (d :: ·) = some ds from e)
    obtain ⟨v, w, rfl, p, q⟩ := h
    exact .cons p (vals_rep e1 q)
  | .at i :: xs, ds, vs, e, h => by cases e
theorem disp_run {mk : List D → Rv} {φs : List ES} {σ : St} {H : Hp} {Q : VK} (h : tE M W (disp mk φs) σ H Q) {R : List V → Hp → Prop}
    (k : ∀ (F : Addr → Prop) (ρ : En) (ds : List D) (vs : List V) (H1 : Hp), (∀ a, F a → H1 a ≠ none) → RepL M F H1 ds vs → vs.length = φs.length → (∀ F' H' v, New F H1 F' H' → RvR M H1 F' H' (mk ds) v → Q v H') → R vs H1) : tOs M W (φs.map .ex) σ H R := by
  obtain ⟨F, ρ, s, h⟩ := h
  refine ops_run _ s ?_
  cases e : evs (φs.map .ex) ρ with
  | bad => simp only [disp, e] at h; exact h
  | exc x ρ' => simp only [disp, e] at h; exact h
  | ok xs ρ1 =>
    simp only [disp, e, Out.bind] at h
    intro F1 H1 po1 vs rs
    cases e2 : vals xs with
    | none => simp only [e2] at h; exact h.elim
    | some ds =>
      simp only [e2] at h
      have hl : vs.length = φs.length := by
        have l1 := evs_length e
        have l2 := (vals_rep e2 rs).length
        have l3 : ∀ {xs : List Ov} {ds : List D}, vals xs = some ds → ds.length = xs.length := by
          intro xs
          induction xs with
          | nil => intro ds e; cases e; rfl
          | cons x xs ih =>
            intro ds e
            cases x with
            | val d =>
              obtain ⟨r, e1, rfl⟩ := Option.map_eq_some_iff.mp (show (vals xs).map (d :: ·) = some ds from e)
              simp [ih e1]
            | «at» i => cases e
        have := l3 e2
        simp at l1
        omega
      exact k F1 ρ1 ds vs H1 po1.sr.dom (vals_rep e2 rs) hl fun F' H' v n rr => h F' H' (po1.trans (n.po po1.sr)) v (rr.from fun a z => po1.stp.dom a z)
def mkT (ds : List D) : Rv := .val (.tup ds)
def mkL (ds : List D) : Rv := .own (.lst ds)
theorem e_tup {es : List Expr} {x1 : Nat} {pos : Pos} {φs : List ES} (h : PA X es (tOs M W (φs.map .ex))) (hz : φs.length ≤ sizeLine) : PE X (.Tuple es x1 pos) (tE M W (disp mkT φs)) :=
  PE_imp (pe_tup h) fun σ H Q h => disp_run h fun F ρ ds vs H1 hd l hl q => ⟨by rw [hl]; exact hz, fun p hp => q F _ _ (New.laid hd hp) (rv_tup hd hp l)⟩
theorem e_lst {es : List Expr} {pos : Pos} {φs : List ES} (h : PA X es (tOs M W (φs.map .ex))) (hz : φs.length ≤ sizeLine) : PE X (.List es pos) (tE M W (disp mkL φs)) :=
  PE_imp (pe_lst h) fun σ H Q h => disp_run h fun F ρ ds vs H1 hd l hl q => ⟨by rw [hl]; exact hz, fun p hp => q F _ _ (New.laid hd hp) (rv_list hd hp l)⟩

/-! ### tests -/
theorem t_tru (g : G0 M cs k X) {a : Expr} {o : Opd} (h : PE X a (tO M W o)) (he : ∀ whole, isTrue a X.env whole = (do let v ← whole; standAt a.pos; holding [v] (truthy v))) : PT X a (tT M W (tru o)) := by
  refine PT_imp (pt_truth h he) fun σ H Q h => ?_
  obtain ⟨F, ρ, s, h⟩ := h
  refine op_bind s h fun x F1 H1 ρ1 v po rv q => ?_
  cases e : x.dat ρ1 with
  | none => simp only [e] at q; exact q.elim
  | some d =>
    simp only [e] at q
    cases e2 : d.truth with
    | none => simp only [e2] at q; exact q.elim
    | some b =>
      simp only [e2] at q
      exact ⟨b, by rw [g.hK]; exact od_truth (rv.od po.sr e) e2, q F1 H1 (.refl po.sr) po⟩
def tst (φ : ES) : BS := fun ρ => (φ ρ).bind fun r ρ' => match r with
  | .val (.bl b) => .ok b ρ'
  | _ => .bad
theorem tst_run {φ : ES} {σ : St} {H : Hp} {Q : Bool → Hp → Prop} (h : tT M W (tst φ) σ H Q) : tE M W φ σ H fun v H' => ∃ b, v = .bl b ∧ Q b H' := by
  obtain ⟨F, ρ, s, h⟩ := h
  refine tE_of' s h fun r F1 H1 ρ1 v po rv q => ?_
  cases r with
  | own _ => exact q.elim
  | val d =>
    cases d with
    | bl b =>
      have rv : Rep M F1 H1 (.bl b) v := rv
      unfold Rep at rv
      exact ⟨b, rv, q F1 H1 (.refl po.sr) po⟩
    | _ => exact q.elim
theorem t_chn {a b c : Expr} {op op' : CmpOp} {pos : Pos} {f f' : List D → Option Rv} {oa ob oc : Opd} (ho : OpR X (compareOp op) (r2D M f)) (ho' : OpR X (compareOp op') (r2D M f')) (ha : PE X a (tO M W oa)) (hb : PE X b (tO M W ob)) (hc : PE X c (tO M W oc))
    (hm : lastMarks [op, op'] [b, c] = false) : PT X (.Compare a [op, op'] [b, c] pos) (tT M W (tst (chn f f' oa ob oc))) :=
  PT_imp (pt_chain ho ho' ha hb hc hm) fun σ H Q h => chn_run (tst_run h)
theorem t_cmp {a b : Expr} {op : CmpOp} {pos : Pos} {f : List D → Option Rv} {oa ob : Opd} (ho : OpR X (compareOp op) (r2D M f)) (ha : PE X a (tO M W oa)) (hb : PE X b (tO M W ob)) (hm : behindInMarks op b = false) : PT X (.Compare a [op] [b] pos) (tT M W (tst (app f [oa, ob]))) :=
  PT_imp (pt_cmpR ho ha hb hm) fun σ H Q h => app_run (prim_ok M f) (tst_run h)
theorem t_w {a : Expr} {t : BS} (h : PW X a (tT M W t)) : PT X a (tT M W t) := ⟨fun pins s σ H Q I hw => h.run _ pins s σ H Q I hw⟩
theorem t_not {a : Expr} {pos : Pos} {t : BS} (h : PT X a (tT M W t)) : PT X (.UnaryOp .Not a pos) (tT M W (bnot t)) := by
  refine PT_imp (pt_not h) fun σ H Q h => ?_
  obtain ⟨F, ρ, s, h⟩ := h
  exact tT_of s h fun b F1 H1 ρ1 po q => q F1 H1 (.refl po.sr) po
theorem w_and1 {a : Expr} {pos : Pos} {t : BS} (h : PT X a (tT M W t)) : PW X (.BoolOp .And [a] pos) (tT M W t) := pw_and1 h
theorem w_or1 {a : Expr} {pos : Pos} {t : BS} (h : PT X a (tT M W t)) : PW X (.BoolOp .Or [a] pos) (tT M W t) := pw_or1 h
theorem w_and {a b : Expr} {rest : List Expr} {pos : Pos} {t u : BS} (h : PT X a (tT M W t)) (hb : PW X (.BoolOp .And (b :: rest) pos) (tT M W u)) : PW X (.BoolOp .And (a :: b :: rest) pos) (tT M W (band t u)) := by
  refine PW_imp (pw_and h hb) fun σ H Q h => ?_
  obtain ⟨F, ρ, s, h⟩ := h
  refine tT_of s h fun b F1 H1 ρ1 po q => ?_
  cases b with
  | true => exact ⟨F1, ρ1, po.sr, (show Want M W F1 H1 σ ρ1 (u ρ1) _ from q).mono fun b F2 H2 ρ2 po2 z => z (po.trans po2)⟩
  | false => exact q F1 H1 (.refl po.sr) po
theorem w_or {a b : Expr} {rest : List Expr} {pos : Pos} {t u : BS} (h : PT X a (tT M W t)) (hb : PW X (.BoolOp .Or (b :: rest) pos) (tT M W u)) : PW X (.BoolOp .Or (a :: b :: rest) pos) (tT M W (bor t u)) := by
  refine PW_imp (pw_or h hb) fun σ H Q h => ?_
  obtain ⟨F, ρ, s, h⟩ := h
  refine tT_of s h fun b F1 H1 ρ1 po q => ?_
  cases b with
  | false => exact ⟨F1, ρ1, po.sr, (show Want M W F1 H1 σ ρ1 (u ρ1) _ from q).mono fun b F2 H2 ρ2 po2 z => z (po.trans po2)⟩
  | true => exact q F1 H1 (.refl po.sr) po
theorem rv_truth {H0 : Hp} {F : Addr → Prop} {H : Hp} {r : Rv} {v : V} {b : Bool} (h : RvR M H0 F H r v) (e : r.d.truth = some b) : TruV M.K v H b := by
  cases r with
  | val d => exact od_truth (.inl h) e
  | own d =>
    obtain ⟨a, rfl, nf, _, c⟩ := h
    exact od_truth (.inr ⟨a, rfl, nf, c.mono (.refl _ _) fun _ h => .inl h⟩) e
theorem e_and1 {a : Expr} {pos : Pos} {φ : ES} (h : PE X a (tE M W φ)) : PE X (.BoolOp .And [a] pos) (tE M W φ) := pe_one h
theorem e_and (g : G0 M cs k X) {a b : Expr} {rest : List Expr} {pos : Pos} {φ ψ : ES} (h : PE X a (tE M W φ)) (hb : PE X (.BoolOp .And (b :: rest) pos) (tE M W ψ)) : PE X (.BoolOp .And (a :: b :: rest) pos) (tE M W (andE φ ψ)) := by
  refine PE_imp (pe_andT h hb) fun σ H Q h => ?_
  obtain ⟨F, ρ, s, h⟩ := h
  refine tE_of' s h fun r F1 H1 ρ1 v po rv q => ?_
  cases e : r.d.truth with
  | none => simp only [e] at q; exact q.elim
  | some b =>
    refine ⟨b, by rw [g.hK]; exact rv_truth rv e, ?_⟩
    cases b with
    | true =>
      simp only [e] at q
      rw [if_pos rfl]
      exact ⟨F1, ρ1, po.sr, (show Want M W F1 H1 σ ρ1 (ψ ρ1) _ from q).mono fun b F2 H2 ρ2 po2 z v rr => z (po.trans po2) v (rr.from fun a y => po.stp.dom a y)⟩
    | false =>
      simp only [e] at q
      rw [if_neg (by decide)]
      exact q F1 H1 (.refl po.sr) po v rv
theorem e_not (g : G0 M cs k X) {a : Expr} {pos : Pos} {o : Opd} (h : PE X a (tO M W o)) : PE X (.UnaryOp .Not a pos) (tE M W (notE o)) := by
  refine PE_imp (pe_notT h) fun σ H Q h => ?_
  obtain ⟨F, ρ, s, h⟩ := h
  have h1 : Want M W F H σ ρ ((o.ev ρ).bind fun x ρ' => (match x.dat ρ' with | some d => (match d.truth with | some k => Out.ok k ρ' | none => .bad) | none => .bad).bind fun b ρ' => .ok (.val (.bl (!b))) ρ') (fun r F' H' _ => ∀ v, RvR M H F' H' r v → Q v H') := by
    have e : notE o ρ = ((o.ev ρ).bind fun x ρ' => (match x.dat ρ' with | some d => (match d.truth with | some k => Out.ok k ρ' | none => .bad) | none => .bad).bind fun b ρ' => .ok (.val (.bl (!b))) ρ') := by
      simp only [notE, tru]
      cases o.ev ρ <;> rfl
    rw [← e]
    exact h
  refine op_bind s h1 fun x F1 H1 ρ1 v po rv q => ?_
  cases e : x.dat ρ1 with
  | none => simp only [e] at q; exact q.elim
  | some d =>
    simp only [e] at q
    cases e2 : d.truth with
    | none => simp only [e2] at q; exact q.elim
    | some b =>
      simp only [e2] at q
      exact ⟨b, by rw [g.hK]; exact od_truth (rv.od po.sr e) e2, q F1 H1 (.refl po.sr) po _ (rep_bl _)⟩
end

/-! ### methods of built-in types -/
def D.ty : D → Option String
  | .str _ => some "str"
  | .lst _ => some "list"
  | .dck _ _ => some "dict"
  | .dct _ _ => some "dict"
  | .tpp _ => some "tuple"
  | _ => none
def meth (T : String) (f : List D → Option Rv) (o : Opd) (os : List Opd) : ES := fun ρ => (o.ev ρ).bind fun x ρ1 => match x.dat ρ1 with
  | some d => if d.ty = some T then (evs os ρ1).bind fun xs ρ2 => (match x.dat ρ2, dats ρ2 xs with
    | some d', some ds => (match f (d' :: ds) with
      | some r => .ok r ρ2
      | none => .bad)
    | _, _ => .bad) else .bad
  | none => .bad
section
variable {M : Md} {W : WX} {cs : Cs} {k : Nat} {X : Cx}
theorem od_type {pins : List (Addr × Obj)} {σ : St} {H : Hp} {s : Shared} {F : Addr → Prop} {d : D} {v : V} {u : Value} {T : String} (I : Inv X pins σ H s) (hK : X.K = M.K) (h : OdR M F H d v) (r : RelV v u) (e : d.ty = some T) :
    s.TypeIs u T ∧ ∀ a, u = .ref a → ∃ ob, s.heap.get? a = some ob ∧ ob.dict = none := by
  cases d with
  | str z =>
    cases h.str
    obtain ⟨t, rfl⟩ := r
    cases e
    exact ⟨typeIs_str s z t, fun _ e => nomatch e⟩
  | lst ds =>
    obtain ⟨a, vs, rfl, q, l⟩ := h.lst
    cases r
    cases e
    rw [← hK] at q
    obtain ⟨its, _, ⟨o, n, z, z1, z2, _⟩, _⟩ := I.list q
    exact ⟨⟨o, z, z1⟩, fun b e => by cases e; exact ⟨o, z, z2⟩⟩
  | dck ks ds =>
    obtain ⟨a, vs, rfl, q, _, l⟩ := h.dck
    cases r
    cases e
    obtain ⟨_, _, _, _, o, _, _, z, ex, _⟩ := q.ok I.hok
    exact ⟨⟨o, z, ex.1⟩, fun b e => by cases e; exact ⟨o, z, ex.2.1⟩⟩
  | dct ks ds =>
    obtain ⟨a, vs, rfl, q, _, l⟩ := h.dct
    cases r
    cases e
    obtain ⟨_, _, _, _, o, _, _, z, ex, _⟩ := q.ok I.hok
    exact ⟨⟨o, z, ex.1⟩, fun b e => by cases e; exact ⟨o, z, ex.2.1⟩⟩
  | tpp ds =>
    obtain ⟨a, vs, o, rfl, _, q, dn, l⟩ := h.tpp
    cases r
    cases e
    obtain ⟨h1, _, its, _, o2, h2, hc, _⟩ := I.hok a _ q
    rw [h1] at h2
    cases h2
    exact ⟨⟨o, h1, hc⟩, fun b e => by cases e; exact ⟨o, h1, dn⟩⟩
  | _ => cases e
end
end VF

namespace VF
open PySem PySem.Spec PyProof.Rows L2

/-! ### sources -/
/-- J walks the items while the operands stand -/
def Wk (M : Md) (J : It) (ds items : List D) (vs : List V) : Prop := ∀ (i : Nat) (F : Addr → Prop) (H : Hp), (∀ a, F a → H a ≠ none) → OdRs M F H ds vs →
  (items.length ≤ i → J.stop i H) ∧ ∀ d, items[i]? = some d → J.go i H ∧ ∀ x H', J.yld i H x H' → ∃ F', New F H F' H' ∧ Rep M F' H' d x
def rIt (M : Md) (f : List D → Option (List D)) : List V → Hp → (It → Hp → Prop) → Prop := fun vs H R => ∃ F ds items, (∀ a, F a → H a ≠ none) ∧ OdRs M F H ds vs ∧ f ds = some items ∧ ∀ J, Wk M J ds items vs → items.length ≤ sizeLine → R J H
structure Src where
  ops : List Opd
  f : List D → Option (List D)
def tI (M : Md) (W : WX) (src : Src) : TI := fun σ H R => tOs M W src.ops σ H fun vs H1 => rIt M src.f vs H1 R
def sSeq : List D → Option (List D)
  | [.lst ds] => some ds
  | [.tup ds] => some ds
  | [.tpp ds] => some ds
  | [.str z] => if z.length ≤ sizeLine then some (z.cps.toList.map fun c => .str ⟨#[c]⟩) else none
  | _ => none
def sRng1 : List D → Option (List D)
  | [.int n] => if n ≤ 16777216 ∧ -(2 ^ 62) ≤ n then some ((List.range n.toNat).map fun i => .int (i : Nat)) else none
  | _ => none
section
variable {M : Md} {X : Cx}
theorem wk_list {K : PySem.W.Frag} {a : Addr} {ds : List D} (hK : K = M.K) : Wk M (Itl K a) [.lst ds] ds [.ref a] := fun i F H hd od => by
  obtain ⟨v, e, r⟩ := od.one
  cases e
  obtain ⟨b, vs, e, p, l⟩ := r.lst
  cases e
  have sq : SqL K H a vs := by rw [hK]; exact p
  refine ⟨fun hi => ⟨vs, sq, by rw [← l.length]; exact hi⟩, fun d hdd => ?_⟩
  obtain ⟨v, h1, h2⟩ := RepL.get l hdd
  refine ⟨⟨vs, v, sq, h1⟩, fun x H' y => ?_⟩
  obtain ⟨rfl, hy⟩ := y
  have z := hy vs sq
  rw [h1] at z
  cases z
  exact ⟨F, .refl hd, h2⟩
theorem wk_tup {K : PySem.W.Frag} {a : Addr} {ds : List D} (hK : K = M.K) : Wk M (Itt K a) [.tup ds] ds [.ref a] := fun i F H hd od => by
  obtain ⟨v, e, r⟩ := od.one
  cases e
  obtain ⟨b, vs, e, p, l⟩ := r.tup
  cases e
  have sq : SqT K H a vs := by rw [hK]; exact p
  refine ⟨fun hi => ⟨vs, sq, by rw [← l.length]; exact hi⟩, fun d hdd => ?_⟩
  obtain ⟨v, h1, h2⟩ := RepL.get l hdd
  refine ⟨⟨vs, v, sq, h1⟩, fun x H' y => ?_⟩
  obtain ⟨rfl, hy⟩ := y
  have z := hy vs sq
  rw [h1] at z
  cases z
  exact ⟨F, .refl hd, h2⟩
theorem wk_tpp {K : PySem.W.Frag} {a : Addr} {ds : List D} : Wk M (Itt K a) [.tpp ds] ds [.ref a] := fun i F H hd od => by
  obtain ⟨v, e, r⟩ := od.one
  cases e
  obtain ⟨b, vs, o, e, f, p, n, l⟩ := r.tpp
  cases e
  have sq : SqT K H a vs := .inl (.inr ⟨o, p⟩)
  refine ⟨fun hi => ⟨vs, sq, by rw [← l.length]; exact hi⟩, fun d hdd => ?_⟩
  obtain ⟨v, h1, h2⟩ := RepL.get l hdd
  refine ⟨⟨vs, v, sq, h1⟩, fun x H' y => ?_⟩
  obtain ⟨rfl, hy⟩ := y
  have z := hy vs sq
  rw [h1] at z
  cases z
  exact ⟨F, .refl hd, h2⟩
theorem wk_str {z : Str} : Wk M (Its z) [.str z] (z.cps.toList.map fun c => .str ⟨#[c]⟩) [.str z] := fun i F H hd od => by
  refine ⟨fun hi => show z.cps.size ≤ i by simpa using hi, fun d hdd => ?_⟩
  rw [List.getElem?_map] at hdd
  obtain ⟨c, h1, rfl⟩ := Option.map_eq_some_iff.mp hdd
  have h2 : z.cps[i]? = some c := by simpa using h1
  refine ⟨(Array.getElem?_eq_some_iff.mp h2).1, fun x H' y => ?_⟩
  obtain ⟨rfl, c', h3, rfl⟩ := y
  rw [h2] at h3
  cases h3
  exact ⟨F, .refl hd, by unfold Rep; rfl⟩
theorem wk_range {lo : Int} {n : Nat} {ds : List D} {vs : List V} : Wk M (Itr lo n) ds ((List.range n).map fun i => .int (lo + (i : Nat))) vs := fun i F H hd od => by
  refine ⟨fun hi => show n ≤ i by simpa using hi, fun d hdd => ?_⟩
  rw [List.getElem?_map] at hdd
  obtain ⟨c, h1, rfl⟩ := Option.map_eq_some_iff.mp hdd
  obtain ⟨h2, h3⟩ := List.getElem?_eq_some_iff.mp h1
  have h4 : i < n := by simpa using h2
  have h5 : c = i := by simpa using h3.symm
  subst h5
  refine ⟨h4, fun x H' y => ?_⟩
  obtain ⟨rfl, rfl⟩ := y
  exact ⟨F, .refl hd, by unfold Rep; rfl⟩
theorem wk_range0 (n : Int) : Wk M (Itr 0 n.toNat) [.int n] ((List.range n.toNat).map fun i => .int (i : Nat)) [.int n] := by
  have z := wk_range (M := M) (lo := 0) (n := n.toNat) (ds := [.int n]) (vs := [.int n])
  simpa using z
/-- a name or expression that is walked -/
theorem pi_seq {tg l : Expr} {tl : TE} (hl : PE X l tl) : PI X tg l (fun σ H R => tl σ H fun x H1 => (∃ a xs, x = .ref a ∧ SqL X.K H1 a xs ∧ (xs.length ≤ sizeLine → R (Itl X.K a) H1)) ∨ (∃ a xs, x = .ref a ∧ SqT X.K H1 a xs ∧ (xs.length ≤ sizeLine → R (Itt X.K a) H1)) ∨ ∃ z, x = .str z ∧ R (Its z) H1) := by
  refine ⟨fun pins s σ H R I h => ?_⟩
  refine thn (hl.run pins s σ H _ I h) fun v s1 ⟨x, H1, I1, r1, q1⟩ => ?_
  rcases q1 with ⟨a, xs, rfl, hq, q⟩ | ⟨a, xs, rfl, hq, q⟩ | ⟨z, rfl, q⟩
  · cases r1
    obtain ⟨its, rv, p, hz⟩ := I1.list hq
    exact wpAny_pyIter_list p.isList (pi_one (tk := s1.toks) I1 _ (turn_list a _) ⟨_, Heap.get?_push_size _ rfl, rfl, rfl⟩ (q hz))
  · cases r1
    obtain ⟨its, rv, p, hz⟩ := I1.tuple hq
    exact wpAny_pyIter_tuple (show s1.heap.IsTuple a its.toArray from p) (pi_one (tk := s1.toks) I1 _ (turn_tuple a _) ⟨_, Heap.get?_push_size _ rfl, rfl, rfl⟩ (q hz))
  · obtain ⟨t, rfl⟩ := r1
    cases ha : z.cps.all (· < 128)
    · exact wpAny_pyIter_wide ha (pi_one (tk := s1.toks) I1 _ (turn_str _ z t "str_iterator" (.inr rfl)) ⟨_, Heap.get?_push_size _ rfl, rfl, rfl⟩ q)
    · exact wpAny_pyIter_ascii ha (pi_one (tk := s1.toks) I1 _ (turn_str _ z t "str_ascii_iterator" (.inl rfl)) ⟨_, Heap.get?_push_size _ rfl, rfl, rfl⟩ q)
theorem PI_imp {tg l : Expr} {w w' : TI} (h : PI X tg l w) (f : ∀ σ H R, w' σ H R → w σ H R) : PI X tg l w' := ⟨fun pins s σ H R I q => h.run pins s σ H R I (f σ H R q)⟩
theorem tO_mono {W : WX} {o : Opd} {σ : St} {H : Hp} {Q Q' : VK} (h : tO M W o σ H Q) (k : ∀ v H', Q v H' → Q' v H') : tO M W o σ H Q' := by
  cases o with
  | sl i =>
    obtain ⟨v, e, q⟩ := h
    exact ⟨v, e, k v H q⟩
  | ex φ =>
    obtain ⟨F, ρ, s, h⟩ := h
    exact ⟨F, ρ, s, h.mono fun r F' H' ρ' po q v rv => k v H' (q v rv)⟩
theorem tOs_mono {W : WX} : ∀ {os : List Opd} {σ : St} {H : Hp} {Q Q' : List V → Hp → Prop}, tOs M W os σ H Q → (∀ v H', Q v H' → Q' v H') → tOs M W os σ H Q'
  | [], _, _, _, _, h, k => k _ _ h
  | o :: os, _, _, _, _, h, k => tO_mono h fun v H' q => tOs_mono (os := os) q fun vs H2 q2 => k (v :: vs) H2 q2
section
variable {cs : Cs} {W : WX} {k : Nat}
theorem i_seq (g : G M cs W k X) {tg l : Expr} {o : Opd} (h : PE X l (tO M W o)) : PI X tg l (tI M W ⟨[o], sSeq⟩) := by
  refine PI_imp (pi_seq h) fun σ H R q => ?_
  have q : tO M W o σ H fun x H1 => rIt M sSeq [x] H1 R := q
  refine tO_mono q fun x H1 ⟨F, ds, items, hd, od, ef, q⟩ => ?_
  unfold sSeq at ef
  split at ef
  · cases ef
    obtain ⟨v, e, r⟩ := od.one
    cases e
    obtain ⟨a, vs, rfl, p, l⟩ := r.lst
    exact .inl ⟨a, vs, rfl, by rw [g.hK]; exact p, fun hz => q _ (wk_list g.hK) (by rw [l.length]; exact hz)⟩
  · cases ef
    obtain ⟨v, e, r⟩ := od.one
    cases e
    obtain ⟨a, vs, rfl, p, l⟩ := r.tup
    exact .inr (.inl ⟨a, vs, rfl, by rw [g.hK]; exact p, fun hz => q _ (wk_tup g.hK) (by rw [l.length]; exact hz)⟩)
  · cases ef
    obtain ⟨v, e, r⟩ := od.one
    cases e
    obtain ⟨a, vs, o, rfl, f, p, n, l⟩ := r.tpp
    exact .inr (.inl ⟨a, vs, rfl, .inl (.inr ⟨o, p⟩), fun hz => q _ wk_tpp (by rw [l.length]; exact hz)⟩)
  · split at ef
    · rename_i hz
      cases ef
      obtain ⟨v, e, r⟩ := od.one
      cases e
      cases r.str
      exact .inr (.inr ⟨_, rfl, q _ wk_str (by rw [List.length_map, Array.length_toList]; exact hz)⟩)
    · cases ef
  · cases ef
theorem i_rng1 (g : G M cs W k X) {tg a : Expr} {p pos : Pos} {o : Opd} (hg : cs.sc.names.lookup ("range" : Str) = some .globalImplicit) (hm : M.mg "range" = none) (ha : PA X [a] (tOs M W [o])) (hs : starEach [a] X.env = [(false, eval a X.env)]) : PI X tg (.Call (.Name "range" p) [a] [] pos) (tI M W ⟨[o], sRng1⟩) := by
  refine PI_imp (pi_range1 (g.gl hg) (by rw [g.hmg]; exact hm) ha hs) fun σ H R q => ?_
  refine tOs_mono (M := M) (W := W) (os := [o]) q fun vs H1 ⟨F, ds, items, hd, od, ef, q⟩ => ?_
  have ef : sRng1 ds = some items := ef
  unfold sRng1 at ef
  split at ef
  · split at ef
    · rename_i hz
      cases ef
      obtain ⟨v, rfl, r⟩ := od.one
      cases r.int
      exact ⟨_, rfl, hz.2, by omega, q _ (wk_range0 _) (by rw [sizeLine_eq]; simp; omega)⟩
    · cases ef
  · cases ef
end
end
end VF

namespace VF
open PySem PySem.Spec PyProof.Rows L2

/-! ### behind a statement -/
/-- a caller's objects stay a caller's, what is read stays as it is -/
def KpT (σ : St) (ρ : En) (σ' : St) (ρ' : En) : Prop := ρ.length = ρ'.length ∧ ∀ i, (∀ d, gt ρ i = some (.ref d) → (∃ d', gt ρ' i = some (.ref d')) ∧ gv σ' i = gv σ i) ∧ (∀ d, gt ρ i = some (.rd d) → gt ρ' i = some (.rd d) ∧ gv σ' i = gv σ i) ∧
  (∀ d, gt ρ' i = some (.ref d) → ∃ d', gt ρ i = some (.ref d')) ∧ ∀ d, gt ρ' i = some (.rd d) → gt ρ i = some (.rd d)
theorem KpT.refl (σ : St) (ρ : En) : KpT σ ρ σ ρ := ⟨rfl, fun i => ⟨fun d h => ⟨⟨d, h⟩, rfl⟩, fun d h => ⟨h, rfl⟩, fun d h => ⟨d, h⟩, fun d h => h⟩⟩
theorem KpT.trans {σ σ1 σ2 : St} {ρ ρ1 ρ2 : En} (a : KpT σ ρ σ1 ρ1) (b : KpT σ1 ρ1 σ2 ρ2) : KpT σ ρ σ2 ρ2 := by
  refine ⟨a.1.trans b.1, fun i => ⟨fun d h => ?_, fun d h => ?_, fun d h => ?_, fun d h => ?_⟩⟩
  · obtain ⟨⟨d1, h1⟩, e1⟩ := (a.2 i).1 d h
    obtain ⟨h2, e2⟩ := (b.2 i).1 d1 h1
    exact ⟨h2, e2.trans e1⟩
  · obtain ⟨h1, e1⟩ := (a.2 i).2.1 d h
    obtain ⟨h2, e2⟩ := (b.2 i).2.1 d h1
    exact ⟨h2, e2.trans e1⟩
  · obtain ⟨d1, h1⟩ := (b.2 i).2.2.1 d h
    exact (a.2 i).2.2.1 d1 h1
  · exact (a.2 i).2.2.2 d ((b.2 i).2.2.2 d h)
theorem Kp.t {σ : St} {ρ ρ' : En} (k : Kp ρ ρ') : KpT σ ρ σ ρ' := by
  refine ⟨k.1, fun i => ?_⟩
  have z := k.2 i
  refine ⟨fun d h => ?_, fun d h => ?_, fun d h => ?_, fun d h => ?_⟩
  · rw [h] at z
    cases e : gt ρ' i with
    | none => rw [e] at z; exact z.elim
    | some t => rw [e] at z; cases t with
      | ref d' => exact ⟨⟨d', rfl⟩, rfl⟩
      | _ => exact z.elim
  · rw [h] at z
    cases e : gt ρ' i with
    | none => rw [e] at z; exact z.elim
    | some t => rw [e] at z; cases t with
      | rd d' => rw [show d = d' from z]; exact ⟨rfl, rfl⟩
      | _ => exact z.elim
  · rw [h] at z
    cases e : gt ρ i with
    | none => rw [e] at z; exact z.elim
    | some t => rw [e] at z; cases t with
      | ref d' => exact ⟨d', rfl⟩
      | _ => exact z.elim
  · rw [h] at z
    cases e : gt ρ i with
    | none => rw [e] at z; exact z.elim
    | some t => rw [e] at z; cases t with
      | rd d' => rw [show d' = d from z]
      | _ => exact z.elim
theorem KpT.ref {σ σ' : St} {ρ ρ' : En} (k : KpT σ ρ σ' ρ') {a : Addr} (h : RefAt σ' ρ' a) : RefAt σ ρ a := by
  obtain ⟨i, d, h1, h2⟩ := h
  obtain ⟨d', h3⟩ := (k.2 i).2.2.1 d h1
  obtain ⟨_, e⟩ := (k.2 i).1 d' h3
  exact ⟨i, d', h3, by rw [← e]; exact h2⟩
structure PoS (M : Md) (F : Addr → Prop) (H : Hp) (σ : St) (ρ : En) (F' : Addr → Prop) (H' : Hp) (σ' : St) (ρ' : En) : Prop where
  stp : Stp F H (OwnAt σ ρ) (RefAt σ ρ) F' H' (OwnAt σ' ρ') (RefAt σ' ρ')
  sr : SR M F' H' σ' ρ'
  kp : KpT σ ρ σ' ρ'
section
variable {M : Md} {F F1 F2 : Addr → Prop} {H H1 H2 : Hp} {σ σ1 σ2 : St} {ρ ρ1 ρ2 : En}
theorem PoS.refl (s : SR M F H σ ρ) : PoS M F H σ ρ F H σ ρ := ⟨.refl _ _ _ _, s, .refl _ _⟩
theorem PoS.trans (a : PoS M F H σ ρ F1 H1 σ1 ρ1) (b : PoS M F1 H1 σ1 ρ1 F2 H2 σ2 ρ2) : PoS M F H σ ρ F2 H2 σ2 ρ2 := ⟨a.stp.trans b.stp, b.sr, a.kp.trans b.kp⟩
theorem Po.s (a : Po M F H σ ρ F1 H1 ρ1) : PoS M F H σ ρ F1 H1 σ ρ1 := ⟨a.stp, a.sr, a.kp.t⟩
theorem PoS.ext (s : SR M F H σ ρ) (a : PoS M F H σ ρ F1 H1 σ1 ρ1) : Ext F H F1 H1 := s.ext a.stp

/-- a slot is set to a value -/
def noRef : Option Sl → Bool
  | some (.ref _) => false
  | some (.rd _) => false
  | _ => true
theorem put_slot (s : SR M F H σ ρ) {i : Nat} {t : Sl} {v : V} (hl : ∀ t, M.xn = some t → t.i ≠ i) (hi : i < ρ.length) (hn : noRef (gt ρ i) = true) (r : SlR M F H t v) (ht : ∀ a, t.top = true → v = .ref a → (∃ d, t = .own d) ∧ ∀ j u, j ≠ i → gt ρ j = some u → u.top = true → gv σ j ≠ some (.ref a)) :
    SR M F H (σ.set i (some v)) (ρ.set i (some t)) ∧ (∀ a, OwnAt (σ.set i (some v)) (ρ.set i (some t)) a → OwnAt σ ρ a ∨ H a = none ∨ ∃ d, t = .own d ∧ v = .ref a) ∧ KpT σ ρ (σ.set i (some v)) (ρ.set i (some t)) := by
  have hi' : i < σ.length := by rw [s.len]; exact hi
  have tn : ∀ d, t ≠ .ref d ∧ t ≠ .rd d := fun d => by
    constructor <;> intro e <;> subst e
    · obtain ⟨a, e, _⟩ := r
      obtain ⟨⟨d', z⟩, _⟩ := ht a rfl e
      cases z
    · obtain ⟨a, e, _⟩ := r
      obtain ⟨⟨d', z⟩, _⟩ := ht a rfl e
      cases z
  refine ⟨⟨by rw [List.length_set, List.length_set]; exact s.len, s.dom, fun j u h => ?_, fun j k u w a h1 h2 h3 h4 h5 h6 => ?_, s.xn.at fun t e => gv_set_ne (Ne.symm (hl t e))⟩, fun a h => ?_, by rw [List.length_set], fun j => ?_⟩
  · by_cases hj : i = j
    · subst hj
      rw [gt_set_self hi] at h
      cases h
      exact ⟨v, gv_set_self hi', r⟩
    · rw [gt_set_ne hj] at h
      rw [gv_set_ne hj]
      exact s.slot j u h
  · by_cases hj : i = j
    · subst hj
      by_cases hk : i = k
      · exact hk
      · exfalso
        rw [gt_set_self hi] at h1
        rw [gt_set_ne hk] at h2
        rw [gv_set_self hi'] at h5
        rw [gv_set_ne hk] at h6
        cases h1
        cases h5
        exact (ht a h3 rfl).2 k w (Ne.symm hk) h2 h4 h6
    · rw [gt_set_ne hj] at h1
      rw [gv_set_ne hj] at h5
      by_cases hk : i = k
      · subst hk
        exfalso
        rw [gt_set_self hi] at h2
        rw [gv_set_self hi'] at h6
        cases h2
        cases h6
        exact (ht a h4 rfl).2 j u (Ne.symm hj) h1 h3 h5
      · rw [gt_set_ne hk] at h2
        rw [gv_set_ne hk] at h6
        exact s.dist j k u w a h1 h2 h3 h4 h5 h6
  · obtain ⟨j, d, h1, h2⟩ := h
    by_cases hj : i = j
    · subst hj
      rw [gt_set_self hi] at h1
      rw [gv_set_self hi'] at h2
      cases h1
      cases h2
      exact .inr (.inr ⟨d, rfl, rfl⟩)
    · rw [gt_set_ne hj] at h1
      rw [gv_set_ne hj] at h2
      exact .inl ⟨j, d, h1, h2⟩
  · by_cases hj : i = j
    · subst hj
      rw [gt_set_self hi]
      refine ⟨fun d h => ?_, fun d h => ?_, fun d h => ?_, fun d h => ?_⟩
      · rw [h] at hn; cases hn
      · rw [h] at hn; cases hn
      · exact absurd (Option.some.inj h) (tn d).1
      · exact absurd (Option.some.inj h) (tn d).2
    · rw [gt_set_ne hj, gv_set_ne hj]
      exact (KpT.refl σ ρ).2 j
theorem put_val (s : SR M F H σ ρ) {i : Nat} {d : D} {v : V} (hl : ∀ t, M.xn = some t → t.i ≠ i) (hi : i < ρ.length) (hn : noRef (gt ρ i) = true) (r : Rep M F H d v) : PoS M F H σ ρ F H (σ.set i (some v)) (ρ.set i (some (.val d))) := by
  obtain ⟨h1, h2, h3⟩ := put_slot (t := .val d) s hl hi hn r (fun a z => by cases z)
  refine ⟨⟨fun _ h => h, fun _ _ h _ _ => .inl h, fun _ h => h, fun _ h => .inl h, fun a h => ?_, fun a h => h3.ref h⟩, h1, h3⟩
  rcases h2 a h with z | z | ⟨d, z, _⟩
  · exact .inl z
  · exact .inr z
  · cases z
/-- an object just made is owned -/
theorem put_own (s : SR M F H σ ρ) {F0 : Addr → Prop} {H0 : Hp} {ρ0 : En} (po : Po M F0 H0 σ ρ0 F H ρ) (s0 : SR M F0 H0 σ ρ0) {i : Nat} {d : D} {v : V} (hl : ∀ t, M.xn = some t → t.i ≠ i) (hi : i < ρ.length) (hn : noRef (gt ρ i) = true) (r : RvR M H0 F H (.own d) v) : PoS M F0 H0 σ ρ0 F H (σ.set i (some v)) (ρ.set i (some (.own d))) := by
  obtain ⟨a, rfl, nf, h0, c⟩ := r
  have ne : ∀ j u, gt ρ j = some u → u.top = true → gv σ j ≠ some (.ref a) := fun j u h ht z => by
    obtain ⟨t', h', ht'⟩ := po.kp.top_of h ht
    obtain ⟨b, w, e, _, q⟩ := s0.top_at h' ht'
    rw [z] at e
    cases e
    rw [h0] at q
    cases q
  obtain ⟨h1, h2, h3⟩ := put_slot (t := .own d) (v := .ref a) s hl hi hn ⟨a, rfl, nf, c⟩ (fun b _ e => ⟨⟨d, rfl⟩, fun j u _ h ht => by cases e; exact ne j u h ht⟩)
  refine ⟨⟨po.stp.fro, po.stp.keep, po.stp.dom, po.stp.new, fun b h => ?_, fun b h => po.stp.ref b (h3.ref h)⟩, h1, po.kp.t.trans h3⟩
  rcases h2 b h with z | z | ⟨d', _, z⟩
  · exact po.stp.own b z
  · exact .inr (po.stp.dom b z)
  · cases z
    exact .inr h0
end

/-! ### targets -/
inductive Tg where
  | nm (i : Nat)
  | tup (ts : List Tg)
mutual
def put : Tg → D → En → Option En
  | .nm i, d, ρ => if noRef (gt ρ i) = true ∧ i < ρ.length then some (ρ.set i (some (.val d))) else none
  | .tup ts, d, ρ => match d with
    | .tup ds => puts ts ds ρ
    | _ => none
def puts : List Tg → List D → En → Option En
  | [], ds, ρ => match ds with
    | [] => some ρ
    | _ => none
  | t :: ts, ds, ρ => match ds with
    | d :: ds => (match put t d ρ with
      | some ρ' => puts ts ds ρ'
      | none => none)
    | [] => none
end
mutual
def tgs : Tg → List Nat
  | .nm i => [i]
  | .tup ts => tgss ts
def tgss : List Tg → List Nat
  | [] => []
  | t :: ts => tgs t ++ tgss ts
end
mutual
def gT (K : PySem.W.Frag) : Tg → TG
  | .nm i => gName i
  | .tup ts => gTup K ts.length (gTs K ts)
def gTs (K : PySem.W.Frag) : List Tg → TGs
  | [] => gNil
  | t :: ts => gCons (gT K t) (gTs K ts)
end
/-- only the slots of S are other ones -/
def Upd (S : List Nat) (σ : St) (ρ : En) (σ' : St) (ρ' : En) : Prop := σ'.length = σ.length ∧ ∀ j, j ∉ S → σ'[j]? = σ[j]? ∧ gt ρ' j = gt ρ j
section
variable {M : Md} {F : Addr → Prop} {H : Hp}
mutual
theorem put_run {K : PySem.W.Frag} (hx : M.xn = none) (hK : K = M.K) : ∀ (t : Tg) {σ : St} {ρ ρ' : En} {d : D} {v : V} {Q : St → Hp → Prop}, SR M F H σ ρ → Rep M F H d v → put t d ρ = some ρ' → (∀ σ', PoS M F H σ ρ F H σ' ρ' → Upd (tgs t) σ ρ σ' ρ' → (∀ j t, gt ρ' j = some t → t.top = true → gt ρ j = some t) → Q σ' H) → gT K t v σ H Q
  | .nm i, σ, ρ, ρ', d, v, Q, s, r, e, q => by
    unfold put at e
    split at e
    · rename_i h
      cases e
      unfold gT
      refine q _ (put_val s (fun t e => by rw [hx] at e; cases e) h.2 h.1 r) ⟨by rw [List.length_set], fun j hj => ?_⟩ fun j t h1 h2 => ?_
      · unfold tgs at hj
        have hj : i ≠ j := fun z => hj (by rw [z]; exact List.mem_singleton_self _)
        exact ⟨List.getElem?_set_ne hj, gt_set_ne hj⟩
      · by_cases hj : i = j
        · subst hj
          rw [gt_set_self h.2] at h1
          cases h1
          cases h2
        · rw [gt_set_ne hj] at h1
          exact h1
    · cases e
  | .tup ts, σ, ρ, ρ', d, v, Q, s, r, e, q => by
    unfold put at e
    split at e
    · unfold Rep at r
      obtain ⟨a, vs, rfl, p, l⟩ := r
      unfold gT
      have hl := puts_len ts e
      exact ⟨a, vs, rfl, by rw [hK]; exact p.1, by rw [← l.length, hl], puts_run hx hK ts s l e fun σ' h1 h2 h3 => q σ' h1 (by unfold tgs; exact h2) h3⟩
    · cases e
theorem puts_run {K : PySem.W.Frag} (hx : M.xn = none) (hK : K = M.K) : ∀ (ts : List Tg) {σ : St} {ρ ρ' : En} {ds : List D} {vs : List V} {Q : St → Hp → Prop}, SR M F H σ ρ → RepL M F H ds vs → puts ts ds ρ = some ρ' → (∀ σ', PoS M F H σ ρ F H σ' ρ' → Upd (tgss ts) σ ρ σ' ρ' → (∀ j t, gt ρ' j = some t → t.top = true → gt ρ j = some t) → Q σ' H) → gTs K ts vs σ H Q
  | [], σ, ρ, ρ', ds, vs, Q, s, r, e, q => by
    unfold puts at e
    split at e
    · cases e
      unfold RepL at r
      unfold gTs
      exact ⟨r, q σ (.refl s) ⟨rfl, fun j _ => ⟨rfl, rfl⟩⟩ fun j t h _ => h⟩
    · cases e
  | t :: ts, σ, ρ, ρ', ds, vs, Q, s, r, e, q => by
    unfold puts at e
    split at e
    · split at e
      · rename_i ρ1 e1
        unfold RepL at r
        obtain ⟨v, w, rfl, p, l⟩ := r
        unfold gTs
        refine ⟨v, w, rfl, put_run hx hK t s p e1 fun σ1 po1 u1 k1 => ?_⟩
        refine puts_run hx hK ts po1.sr l e fun σ2 po2 u2 k2 => ?_
        refine q σ2 (po1.trans po2) ⟨u2.1.trans u1.1, fun j hj => ?_⟩ fun j t h1 h2 => k1 j t (k2 j t h1 h2) h2
        unfold tgss at hj
        obtain ⟨n1, n2⟩ := not_or.mp (fun z => hj (List.mem_append.mpr z))
        exact ⟨(u2.2 j n2).1.trans (u1.2 j n1).1, (u2.2 j n2).2.trans (u1.2 j n1).2⟩
      · cases e
    · cases e
theorem puts_len : ∀ (ts : List Tg) {ds : List D} {ρ ρ' : En}, puts ts ds ρ = some ρ' → ds.length = ts.length
  | [], ds, ρ, ρ', e => by
    unfold puts at e
    split at e
    · rfl
    · cases e
  | t :: ts, ds, ρ, ρ', e => by
    unfold puts at e
    split at e
    · split at e
      · simp [puts_len ts e]
      · cases e
    · cases e
end
end
section
variable {M : Md} {cs : Cs} {W : WX} {k : Nat} {X : Cx}
theorem p_nm (g : G M cs W k X) {i : Nat} {x : Str} {pos : Pos} (hi : cs.N[i]? = some x) (hx : Loc cs.sc x) (hf : cs.fb x = true ∨ cs.sc.names.lookup x = some .local) : PG X (.Name x pos) (gT X.K (.nm i)) := by
  unfold gT
  exact pg_name (by rw [g.hN]; exact g.nd) (by rw [g.hN]; exact hi) (by rw [g.hsc]; exact hx) (by rw [g.hfn, g.hsc]; exact hf)
theorem p_tup (g : G M cs W k X) {es : List Expr} {kk : Nat} {pos : Pos} {ts : List Tg} (h : PGs X es (gTs X.K ts)) (hn : (assignEach es X.env).length = ts.length) (hst : (assignEach es X.env).findIdx? (·.1) = none) : PG X (.Tuple es kk pos) (gT X.K (.tup ts)) := by
  unfold gT
  exact pg_tup g.calm h hn hst
theorem ps_nil : PGs X [] (gTs X.K []) := by unfold gTs; exact pgs_nil
theorem ps_cons {e : Expr} {es : List Expr} {t : Tg} {ts : List Tg} (h1 : PG X e (gT X.K t)) (h2 : PGs X es (gTs X.K ts)) (hs : (assignEach (e :: es) X.env).map (·.2) = assign e X.env :: (assignEach es X.env).map (·.2)) : PGs X (e :: es) (gTs X.K (t :: ts)) := by
  unfold gTs
  exact pgs_cons h1 h2 hs
end

/-! ### masks -/
/-- some slots are not seen, or only read; t: what the slots seen are -/
def Mask (σ : St) (ρ : En) (σm : St) (ρm : En) : Prop := σm.length = σ.length ∧ ρm.length = ρ.length ∧ ∀ j t, gt ρm j = some t → gv σm j = gv σ j ∧ (gt ρ j = some t ∨ ∃ d, t = .rd d ∧ (gt ρ j = some (.own d) ∨ gt ρ j = some (.ref d)))
section
variable {M : Md} {F F' : Addr → Prop} {H H' : Hp} {σ σm σe : St} {ρ ρm ρe : En}
theorem Mask.own (m : Mask σ ρ σm ρm) {a : Addr} (h : OwnAt σm ρm a) : OwnAt σ ρ a := by
  obtain ⟨i, d, h1, h2⟩ := h
  obtain ⟨e, z⟩ := m.2.2 i _ h1
  rw [e] at h2
  rcases z with z | ⟨d', z, _⟩
  · exact ⟨i, d, z, h2⟩
  · cases z
theorem Mask.ref (m : Mask σ ρ σm ρm) {a : Addr} (h : RefAt σm ρm a) : RefAt σ ρ a := by
  obtain ⟨i, d, h1, h2⟩ := h
  obtain ⟨e, z⟩ := m.2.2 i _ h1
  rw [e] at h2
  rcases z with z | ⟨d', z, _⟩
  · exact ⟨i, d, z, h2⟩
  · cases z
theorem Mask.top (m : Mask σ ρ σm ρm) {i : Nat} {t : Sl} (h : gt ρm i = some t) (ht : t.top = true) : ∃ t', gt ρ i = some t' ∧ t'.top = true := by
  obtain ⟨_, z⟩ := m.2.2 i _ h
  rcases z with z | ⟨d', rfl, z | z⟩
  · exact ⟨t, z, ht⟩
  · exact ⟨_, z, rfl⟩
  · exact ⟨_, z, rfl⟩
theorem SR.mask (s : SR M F H σ ρ) (hx : M.xn = none) (m : Mask σ ρ σm ρm) : SR M F H σm ρm := by
  refine ⟨by rw [m.1, m.2.1]; exact s.len, s.dom, fun i t h => ?_, fun i j t u a h1 h2 h3 h4 h5 h6 => ?_, .no hx s.xn.2⟩
  · obtain ⟨e, z⟩ := m.2.2 i _ h
    rw [e]
    rcases z with z | ⟨d', rfl, z | z⟩
    · exact s.slot i t z
    · obtain ⟨v, e1, a, rfl, nf, c⟩ := s.slot i _ z
      exact ⟨_, e1, a, rfl, nf, c.mono (.refl _ _) fun _ h => .inl h⟩
    · obtain ⟨v, e1, a, rfl, nf, c⟩ := s.slot i _ z
      exact ⟨_, e1, a, rfl, nf, c.mono (.refl _ _) fun _ h => .inl h⟩
  · obtain ⟨t', z1, z2⟩ := m.top h1 h3
    obtain ⟨u', y1, y2⟩ := m.top h2 h4
    rw [(m.2.2 i _ h1).1] at h5
    rw [(m.2.2 j _ h2).1] at h6
    exact s.dist i j t' u' a z1 y1 z2 y2 h5 h6
/-- slots taken from another environment -/
def rst (ρ1 : En) : List Nat → En → En
  | [], ρ => ρ
  | i :: S, ρ => rst ρ1 S (ρ.set i (gt ρ1 i))
theorem rst_length {ρ1 : En} : ∀ (S : List Nat) (ρ : En), (rst ρ1 S ρ).length = ρ.length
  | [], _ => rfl
  | i :: S, ρ => by unfold rst; rw [rst_length S, List.length_set]
theorem rst_out {ρ1 : En} {j : Nat} : ∀ (S : List Nat) {ρ : En}, j ∉ S → gt (rst ρ1 S ρ) j = gt ρ j
  | [], _, _ => rfl
  | i :: S, ρ, h => by
    unfold rst
    rw [rst_out S (fun z => h (List.mem_cons_of_mem _ z)), gt_set_ne (fun z => h (by rw [z]; exact List.mem_cons_self))]
theorem rst_in {ρ1 : En} {j : Nat} : ∀ (S : List Nat) {ρ : En}, j ∈ S → j < ρ.length → gt (rst ρ1 S ρ) j = gt ρ1 j
  | [], _, h, _ => by cases h
  | i :: S, ρ, h, hl => by
    unfold rst
    by_cases hj : j ∈ S
    · exact rst_in S hj (by rw [List.length_set]; exact hl)
    · rw [rst_out S hj]
      rcases List.mem_cons.mp h with rfl | h
      · exact gt_set_self hl
      · exact absurd h hj
/-- what was masked stands as it stood -/
theorem SR.unmask (s : SR M F H σ ρ) (hx : M.xn = none) {S : List Nat} (m : Mask σ ρ σm ρm) (ho : ∀ j, j ∉ S → gt ρm j = gt ρ j ∧ gv σm j = gv σ j) (hi : ∀ j t, j ∈ S → gt ρm j = some t → t.top = true → ∃ d, t = .rd d) (st : Stp F H (OwnAt σm ρm) (RefAt σm ρm) F' H' (OwnAt σm ρe) (RefAt σm ρe)) (s' : SR M F' H' σm ρe) (kp : Kp ρm ρe) :
    Po M F H σ ρ F' H' (rst ρ S ρe) := by
  have x : Ext F H F' H' := (s.mask hx m).ext st
  have hl : ρe.length = ρ.length := kp.1.symm.trans m.2.1
  -- the objects of the slots in S are kept
  have kept : ∀ j t a u, j ∈ S → gt ρ j = some t → t.top = true → gv σ j = some (.ref a) → H a = some u → ¬ OwnAt σm ρm a ∧ ¬ RefAt σm ρm a ∧ H' a = some u ∧ ¬ F' a := fun j t a u hj h1 h2 h3 h4 => by
    have ne : ∀ i t', gt ρm i = some t' → t'.top = true → gv σm i = some (.ref a) → ∃ d, t' = .rd d := fun i t' k1 k2 k3 => by
      rw [(m.2.2 i _ k1).1] at k3
      obtain ⟨t2, k4, k5⟩ := m.top k1 k2
      have e := s.dist i j t2 t a k4 h1 k5 h2 k3 h3
      subst e
      exact hi i t' hj k1 k2
    have n1 : ¬ OwnAt σm ρm a := fun ⟨i, d, k1, k2⟩ => by
      obtain ⟨d', z⟩ := ne i _ k1 rfl k2
      cases z
    have n2 : ¬ RefAt σm ρm a := fun ⟨i, d, k1, k2⟩ => by
      obtain ⟨d', z⟩ := ne i _ k1 rfl k2
      cases z
    refine ⟨n1, n2, (st.keep a u h4 n1 n2).no (fun f => by obtain ⟨b, w, e, nf, _⟩ := s.top_at h1 h2; rw [h3] at e; cases e; exact nf f), fun z => ?_⟩
    rcases st.new a z with y | y | y
    · obtain ⟨b, w, e, nf, _⟩ := s.top_at h1 h2
      rw [h3] at e
      cases e
      exact nf y
    · rw [h4] at y; cases y
    · exact n1 y
  have kpS : Kp ρ (rst ρ S ρe) := ⟨by rw [rst_length, hl], fun j => by
    by_cases hj : j ∈ S
    · by_cases hlt : j < ρe.length
      · rw [rst_in S hj hlt]; exact .refl _
      · have e1 : gt ρ j = none := by
          unfold gt
          rw [List.getElem?_eq_none (by omega)]
          rfl
        have e2 : gt (rst ρ S ρe) j = none := by
          unfold gt
          rw [List.getElem?_eq_none (by rw [rst_length]; omega)]
          rfl
        rw [e1, e2]
        trivial
    · rw [rst_out S hj, ← (ho j hj).1]
      exact kp.2 j⟩
  refine ⟨⟨st.fro, fun a o h1 h2 h3 => st.keep a o h1 (fun z => h2 (m.own z)) fun z => h3 (m.ref z), st.dom, fun a h => ?_, fun a h => .inl (kpS.own h), fun a h => kpS.ref h⟩, ⟨?_, s'.dom, fun j t h => ?_, fun i j t u a h1 h2 h3 h4 h5 h6 => ?_, .no hx s'.xn.2⟩, kpS⟩
  · rcases st.new a h with z | z | z
    · exact .inl z
    · exact .inr (.inl z)
    · exact .inr (.inr (m.own z))
  · rw [rst_length, hl]; exact s.len
  · by_cases hj : j ∈ S
    · have hlt : j < ρe.length := by
        have := gt_lt h
        rw [rst_length] at this
        exact this
      rw [rst_in S hj hlt] at h
      obtain ⟨v, e, r⟩ := s.slot j t h
      refine ⟨v, e, ?_⟩
      cases t with
      | val d => exact Rep.mono x d r
      | own d =>
        obtain ⟨a, rfl, nf, c⟩ := r
        obtain ⟨u, q, _⟩ := c.some_of
        obtain ⟨_, _, k1, k2⟩ := kept j _ a u hj h rfl e q
        exact ⟨a, rfl, k2, c.mono x fun w (hw : H a = some w) => by rw [q] at hw; cases hw; exact k1⟩
      | ref d =>
        obtain ⟨a, rfl, nf, c⟩ := r
        obtain ⟨u, q, _⟩ := c.some_of
        obtain ⟨_, _, k1, k2⟩ := kept j _ a u hj h rfl e q
        exact ⟨a, rfl, k2, c.mono x fun w (hw : H a = some w) => by rw [q] at hw; cases hw; exact k1⟩
      | rd d =>
        obtain ⟨a, rfl, nf, c⟩ := r
        obtain ⟨b, u, e2, _, q⟩ := s.top_at h rfl
        rw [e] at e2
        cases e2
        obtain ⟨_, _, k1, k2⟩ := kept j _ a u hj h rfl e q
        refine ⟨a, rfl, k2, c.mono x fun w hw => ?_⟩
        rcases hw with hw | ⟨o, hw, z⟩
        · rw [q] at hw; cases hw; exact .inl k1
        · rw [q] at hw; cases hw; exact .inr ⟨o, k1, z⟩
    · rw [rst_out S hj] at h
      obtain ⟨v, e, r⟩ := s'.slot j t h
      rw [(ho j hj).2] at e
      exact ⟨v, e, r⟩
  · obtain ⟨t', k1, k2⟩ := kpS.top_of h1 h3
    obtain ⟨u', k3, k4⟩ := kpS.top_of h2 h4
    exact s.dist i j t' u' a k1 k3 k2 k4 h5 h6
end
end VF

namespace VF
open PySem PySem.Spec PyProof.Rows L2

def wp : List Nat → En → En
  | [], ρ => ρ
  | i :: S, ρ => wp S (ρ.set i none)
def lk : List Ov → En → En
  | [], ρ => ρ
  | .val _ :: xs, ρ => lk xs ρ
  | .at i :: xs, ρ => lk xs (match gt ρ i with
    | some (.own d) => ρ.set i (some (.rd d))
    | some (.ref d) => ρ.set i (some (.rd d))
    | _ => ρ)
def ats : List Ov → List Nat
  | [] => []
  | .val _ :: xs => ats xs
  | .at i :: xs => i :: ats xs
theorem wp_length : ∀ (S : List Nat) (ρ : En), (wp S ρ).length = ρ.length
  | [], _ => rfl
  | i :: S, ρ => by unfold wp; rw [wp_length S, List.length_set]
theorem wp_out {j : Nat} : ∀ (S : List Nat) {ρ : En}, j ∉ S → gt (wp S ρ) j = gt ρ j
  | [], _, _ => rfl
  | i :: S, ρ, h => by
    unfold wp
    rw [wp_out S (fun z => h (List.mem_cons_of_mem _ z)), gt_set_ne (fun z => h (by rw [z]; exact List.mem_cons_self))]
theorem wp_in {j : Nat} : ∀ (S : List Nat) {ρ : En}, j ∈ S → gt (wp S ρ) j = none
  | [], _, h => by cases h
  | i :: S, ρ, h => by
    unfold wp
    by_cases hj : j ∈ S
    · exact wp_in S hj
    · rw [wp_out S hj]
      rcases List.mem_cons.mp h with rfl | h
      · by_cases hl : j < ρ.length
        · exact gt_set_self hl
        · unfold gt
          rw [List.getElem?_eq_none (by rw [List.length_set]; omega)]
          rfl
      · exact absurd h hj
theorem lk_length : ∀ (xs : List Ov) (ρ : En), (lk xs ρ).length = ρ.length
  | [], _ => rfl
  | .val _ :: xs, ρ => lk_length xs ρ
  | .at i :: xs, ρ => by
    unfold lk
    rw [lk_length xs]
    split <;> simp
theorem lk_out {j : Nat} : ∀ (xs : List Ov) {ρ : En}, j ∉ ats xs → gt (lk xs ρ) j = gt ρ j
  | [], _, _ => rfl
  | .val _ :: xs, ρ, h => lk_out xs h
  | .at i :: xs, ρ, h => by
    unfold ats at h
    have hj : i ≠ j := fun z => h (by rw [z]; exact List.mem_cons_self)
    unfold lk
    rw [lk_out xs fun z => h (List.mem_cons_of_mem _ z)]
    split
    · exact gt_set_ne hj
    · exact gt_set_ne hj
    · rfl
/-- what a locked slot is -/
theorem lk_at {j : Nat} {t : Sl} : ∀ (xs : List Ov) {ρ : En}, gt (lk xs ρ) j = some t → gt ρ j = some t ∨ ∃ d, t = .rd d ∧ (gt ρ j = some (.own d) ∨ gt ρ j = some (.ref d))
  | [], _, h => .inl h
  | .val _ :: xs, ρ, h => lk_at xs h
  | .at i :: xs, ρ, h => by
    unfold lk at h
    by_cases hj : i = j
    · subst hj
      cases e : gt ρ i with
      | none =>
        simp only [e] at h
        have z := lk_at xs h
        rw [e] at z
        exact z
      | some s =>
        have hl := gt_lt e
        cases s with
        | val d => simp only [e] at h; have z := lk_at xs h; rw [e] at z; exact z
        | rd d => simp only [e] at h; have z := lk_at xs h; rw [e] at z; exact z
        | own d =>
          simp only [e] at h
          have z := lk_at xs h
          rw [gt_set_self hl] at z
          rcases z with z | ⟨d', _, z | z⟩
          · cases z; exact .inr ⟨d, rfl, .inl rfl⟩
          · cases z
          · cases z
        | ref d =>
          simp only [e] at h
          have z := lk_at xs h
          rw [gt_set_self hl] at z
          rcases z with z | ⟨d', _, z | z⟩
          · cases z; exact .inr ⟨d, rfl, .inr rfl⟩
          · cases z
          · cases z
    · have z := lk_at xs h
      have e : gt (match gt ρ i with | some (.own d) => ρ.set i (some (.rd d)) | some (.ref d) => ρ.set i (some (.rd d)) | _ => ρ) j = gt ρ j := by
        split
        · exact gt_set_ne hj
        · exact gt_set_ne hj
        · rfl
      rw [e] at z
      exact z
/-- a locked slot is no other's, and the data are the same -/
theorem lk_in {j : Nat} : ∀ (xs : List Ov) {ρ : En}, j ∈ ats xs → (gt (lk xs ρ) j).map Sl.d = (gt ρ j).map Sl.d ∧ ∀ t, gt (lk xs ρ) j = some t → t.top = true → ∃ d, t = .rd d
  | [], _, h => by cases h
  | .val _ :: xs, ρ, h => lk_in xs h
  | .at i :: xs, ρ, h => by
    have same : ∀ {ρ1 : En}, gt ρ1 j = gt ρ j ∨ (∃ d, gt ρ1 j = some (.rd d) ∧ (gt ρ j = some (.own d) ∨ gt ρ j = some (.ref d))) → (gt ρ1 j).map Sl.d = (gt ρ j).map Sl.d := fun z => by
      rcases z with z | ⟨d, z, y | y⟩
      · rw [z]
      · rw [z, y]; rfl
      · rw [z, y]; rfl
    unfold lk
    by_cases hm : j ∈ ats xs
    · obtain ⟨h1, h2⟩ := lk_in xs (ρ := match gt ρ i with | some (.own d) => ρ.set i (some (.rd d)) | some (.ref d) => ρ.set i (some (.rd d)) | _ => ρ) hm
      refine ⟨h1.trans (same ?_), h2⟩
      by_cases hj : i = j
      · subst hj
        cases e : gt ρ i with
        | none => simp only [e]; exact .inl trivial
        | some s =>
          have hl := gt_lt e
          cases s with
          | val d => simp only [e]; exact .inl trivial
          | rd d => simp only [e]; exact .inl trivial
          | own d => simp only; exact .inr ⟨d, gt_set_self hl, .inl rfl⟩
          | ref d => simp only; exact .inr ⟨d, gt_set_self hl, .inr rfl⟩
      · refine .inl ?_
        split
        · exact gt_set_ne hj
        · exact gt_set_ne hj
        · rfl
    · rw [lk_out xs hm]
      have hj : i = j := by
        unfold ats at h
        rcases List.mem_cons.mp h with z | z
        · exact z.symm
        · exact absurd z hm
      subst hj
      cases e : gt ρ i with
      | none => simp only [e]; exact ⟨trivial, fun t z => by cases z⟩
      | some s =>
        have hl := gt_lt e
        cases s with
        | val d => simp only [e]; exact ⟨trivial, fun t z y => by cases z; cases y⟩
        | rd d => simp only [e]; exact ⟨trivial, fun t z y => by cases z; exact ⟨d, rfl⟩⟩
        | own d => simp only; rw [gt_set_self hl]; exact ⟨rfl, fun t z y => by cases z; exact ⟨d, rfl⟩⟩
        | ref d => simp only; rw [gt_set_self hl]; exact ⟨rfl, fun t z y => by cases z; exact ⟨d, rfl⟩⟩
theorem wipe_at {σ : St} {j : Nat} : ∀ {S : List Nat}, j ∈ S → gv (wipe σ S) j = none
  | [], h => by cases h
  | i :: S, h => by
    unfold wipe
    by_cases hj : i = j
    · subst hj
      by_cases hl : i < (wipe σ S).length
      · exact gv_set_self hl
      · unfold gv
        rw [List.getElem?_eq_none (by rw [List.length_set]; omega)]
        rfl
    · rw [gv_set_ne hj]
      rcases List.mem_cons.mp h with z | z
      · exact absurd z.symm hj
      · exact wipe_at z
theorem wipe_gv {σ : St} {j : Nat} {S : List Nat} (h : j ∉ S) : gv (wipe σ S) j = gv σ j := by
  unfold gv
  rw [wipe_out h]
theorem wipe_eq {σ σ' : St} {S S' : List Nat} (hl : σ'.length = σ.length) (h : ∀ j, j ∉ S' → σ'[j]? = σ[j]?) (hs : ∀ j, j ∈ S' → j ∈ S) : wipe σ' S = wipe σ S := by
  apply List.ext_getElem?
  intro j
  by_cases hj : j ∈ S
  · have e1 := wipe_at (σ := σ') hj
    have e2 := wipe_at (σ := σ) hj
    have l1 := wipe_length σ' S
    have l2 := wipe_length σ S
    by_cases hlt : j < σ.length
    · unfold gv at e1 e2
      have a1 : j < (wipe σ' S).length := by rw [l1, hl]; exact hlt
      have a2 : j < (wipe σ S).length := by rw [l2]; exact hlt
      rw [List.getElem?_eq_getElem a1] at e1 ⊢
      rw [List.getElem?_eq_getElem a2] at e2 ⊢
      cases h1 : (wipe σ' S)[j] with
      | some v => rw [h1] at e1; cases e1
      | none =>
        cases h2 : (wipe σ S)[j] with
        | some v => rw [h2] at e2; cases e2
        | none => rfl
    · rw [List.getElem?_eq_none (by rw [l1, hl]; omega), List.getElem?_eq_none (by rw [l2]; omega)]
  · rw [wipe_out hj, wipe_out hj]
    exact h j fun z => hj (hs j z)

theorem wipe_wipe {σ : St} {S : List Nat} : wipe (wipe σ S) S = wipe σ S := by
  apply List.ext_getElem?
  intro j
  by_cases hj : j ∈ S
  · have hl1 := wipe_length (wipe σ S) S
    have hl2 := wipe_length σ S
    have e1 := wipe_at (σ := wipe σ S) hj
    have e2 := wipe_at (σ := σ) hj
    by_cases hlt : j < σ.length
    · unfold gv at e1 e2
      have a1 : j < (wipe (wipe σ S) S).length := by omega
      have a2 : j < (wipe σ S).length := by omega
      rw [List.getElem?_eq_getElem a1] at e1 ⊢
      rw [List.getElem?_eq_getElem a2] at e2 ⊢
      cases h1 : (wipe (wipe σ S) S)[j] with
      | some v => rw [h1] at e1; cases e1
      | none =>
        cases h2 : (wipe σ S)[j] with
        | some v => rw [h2] at e2; cases e2
        | none => rfl
    · rw [List.getElem?_eq_none (by omega), List.getElem?_eq_none (by omega)]
  · rw [wipe_out hj]

/-! ### the comprehension -/
def loopC (tg : Tg) (own : List Nat) (t : BS) (φ : ES) : List D → En → List D → Out (List D)
  | [], ρ, acc => .ok acc ρ
  | d :: ds, ρ, acc => match put tg d ρ with
    | none => .bad
    | some ρ1 => (t ρ1).bind fun b ρ2 => if b then (φ ρ2).bind fun r ρ3 => loopC tg own t φ ds (wp own ρ3) (acc ++ [r.d]) else loopC tg own t φ ds (wp own ρ2) acc
/-- nothing is let out -/
def noX {α : Type} : Out α → Out α
  | .ok a ρ => .ok a ρ
  | _ => .bad
def comp (src : Src) (tg : Tg) (own : List Nat) (t : BS) (φ : ES) : ES := fun ρ => (evs src.ops ρ).bind fun xs ρ1 => match dats ρ1 xs with
  | some ds => (match src.f ds with
    | some items => if (own.all fun i => !(ats xs).contains i) = true then (noX (loopC tg own t φ items (wp own (lk xs ρ1)) [])).bind fun out ρ2 => .ok (.own (.lst out)) (rst ρ1 (own ++ ats xs) ρ2) else .bad
    | none => .bad)
  | none => .bad
def yes : BS := fun ρ => .ok true ρ
def WF : WX := fun _ _ _ _ => False
theorem Stp.weak {F F' O R O' R' O2 R2 : Addr → Prop} {H H' : Hp} (x : Stp F H O R F' H' O' R') (ho : ∀ a, O2 a → O' a) (hr : ∀ a, R2 a → R' a) : Stp F H O R F' H' O2 R2 := ⟨x.fro, x.keep, x.dom, x.new, fun a h => x.own a (ho a h), fun a h => x.ref a (hr a h)⟩

section
variable {M : Md}
/-- the state between two turns: the list at D holds acc -/
structure Btw (M : Md) (own : List Nat) (F1 : Addr → Prop) (H1 : Hp) (σw : St) (ρm : En) (D : Addr) (acc : List VF.D) (F : Addr → Prop) (H : Hp) (ρ : En) : Prop where
  stp : Stp F1 H1 (OwnAt σw ρm) (RefAt σw ρm) F H (OwnAt σw ρ) (RefAt σw ρ)
  sr : SR M F H σw ρ
  kp : Kp ρm ρ
  nf : ¬ F D
  list : ∃ vs, H D = some (.lst vs) ∧ RepL M F H acc vs
/-- what is wanted of the loop's outcome -/
def Fin (M : Md) (own : List Nat) (F1 : Addr → Prop) (H1 : Hp) (σw : St) (ρm : En) (D : Addr) (Q : Hp → Prop) : Out (List VF.D) → Prop
  | .ok out ρ' => ∀ F H, Btw M own F1 H1 σw ρm D out F H ρ' → Q H
  | _ => False
theorem lc_turns {own : List Nat} {tg : Tg} {t : BS} {φ : ES} {F1 : Addr → Prop} {H1 : Hp} {σ : St} {ρm : En} {D : Addr} {Q : Hp → Prop} {J : It} {ds items : List VF.D} {vs : List V} {K : PySem.W.Frag} (hx : M.xn = none) (hK : K = M.K) (hD : H1 D = none) (s1 : SR M F1 H1 (wipe σ own) ρm)
    (hno : ∀ j, j ∈ own → gt ρm j = none) (htg : ∀ j, j ∈ tgs tg → j ∈ own) (wk : Wk M J ds items vs) (hz : items.length ≤ sizeLine) (src : ∀ F H ρ acc, Btw M own F1 H1 (wipe σ own) ρm D acc F H ρ → OdRs M F H ds vs)
    (h : Fin M own F1 H1 (wipe σ own) ρm D Q (loopC tg own t φ items ρm [])) :
    ∃ Wd : Nat → Nat → Hp → Prop, (∃ m, Wd 0 m (upd H1 D (.lst []))) ∧ ∀ i m H, Wd i m H → (J.stop i H ∧ Q H) ∨ (J.go i H ∧ ∃ Nx : Hp → Prop, (∀ H', Nx H' → ∃ m', m' < m ∧ Wd (i + 1) m' H') ∧
      ∀ x H', J.yld i H x H' → gT K tg x (wipe σ own) H' fun σ2 H2 => wipe σ2 own = wipe σ own ∧ tT M WF t σ2 H2 fun b H3 =>
        if b = true then tE M WF φ σ2 H3 fun y H4 => ∃ acc, H4 D = some (.lst acc) ∧ acc.length < sizeLine ∧ Nx (upd H4 D (.lst (acc ++ [y]))) else Nx H3) := by
  let Pv : Nat → Hp → Prop := fun i H => ∃ F ρ acc, Btw M own F1 H1 (wipe σ own) ρm D acc F H ρ ∧ acc.length ≤ i ∧ Fin M own F1 H1 (wipe σ own) ρm D Q (loopC tg own t φ (items.drop i) ρ acc)
  refine ⟨fun i m H => m = items.length - i ∧ i ≤ items.length ∧ Pv i H, ⟨items.length, by simp, Nat.zero_le _, F1, ρm, [], ⟨?_, ?_, .refl _, fun z => s1.dom D z hD, [], upd_same, .nil⟩, Nat.le_refl _, h⟩, ?_⟩
  · exact ⟨fun _ h => h, fun a o e _ _ => by rw [upd_ne (ne_of_none e hD)]; exact .inl e, fun a e => by
      by_cases hb : a = D
      · rw [hb]; exact hD
      · rw [upd_ne hb] at e; exact e, fun _ h => .inl h, fun _ h => .inl h, fun _ h => h⟩
  · exact ((New.laid s1.dom hD).po s1).sr
  rintro i m H ⟨rfl, hi, F, ρ, acc, bt, hacc, fin⟩
  obtain ⟨w1, w2⟩ := wk i F H bt.sr.dom (src F H ρ acc bt)
  by_cases hlt : i < items.length
  · have ed : items[i]? = some items[i] := List.getElem?_eq_getElem hlt
    obtain ⟨go, yl⟩ := w2 _ ed
    refine .inr ⟨go, Pv (i + 1), fun H' p' => ⟨items.length - (i + 1), by omega, rfl, hlt, p'⟩, fun x H' y => ?_⟩
    obtain ⟨F', nw, rx⟩ := yl x H' y
    rw [List.drop_eq_getElem_cons hlt] at fin
    unfold loopC at fin
    cases e1 : put tg items[i] ρ with
    | none => simp only [e1] at fin; exact fin.elim
    | some ρ1 =>
      simp only [e1] at fin
      have pn := nw.po bt.sr
      refine put_run hx hK tg pn.sr rx e1 fun σ2 po2 up top2 => ?_
      -- tops of an environment behind ρ1 are of the outer one
      have hno' : ∀ j, j ∈ own → gt ρ j = none := fun j hj => by
        have z := bt.kp.2 j
        rw [hno j hj] at z
        cases e : gt ρ j with
        | none => rfl
        | some u => rw [e] at z; exact z.elim
      have gv2 : ∀ j, j ∉ own → gv σ2 j = gv (wipe σ own) j := fun j hj => by
        unfold gv
        rw [(up.2 j fun z => hj (htg j z)).1]
      have tops : ∀ {ρ3 : En} {j : Nat} {u : Sl}, Kp ρ1 ρ3 → gt ρ3 j = some u → u.top = true → j ∉ own ∧ ∃ u', gt ρm j = some u' ∧ u'.top = true := fun {ρ3 j u} k3 h1 h2 => by
        obtain ⟨u1, a1, a2⟩ := k3.top_of h1 h2
        have a3 := top2 j u1 a1 a2
        obtain ⟨u2, a4, a5⟩ := bt.kp.top_of a3 a2
        refine ⟨fun z => ?_, u2, a4, a5⟩
        rw [hno' j z] at a3
        cases a3
      have notD : ∀ {ρ3 : En} {j : Nat} {u : Sl}, Kp ρ1 ρ3 → gt ρ3 j = some u → u.top = true → gv σ2 j ≠ some (.ref D) := fun {ρ3 j u} k3 h1 h2 z => by
        obtain ⟨n1, u', a1, a2⟩ := tops k3 h1 h2
        rw [gv2 j n1] at z
        obtain ⟨b, w, e, _, q⟩ := s1.top_at a1 a2
        rw [z] at e
        cases e
        rw [hD] at q
        cases q
      obtain ⟨vs0, hD0, rep0⟩ := bt.list
      -- behind the turn
      have back : ∀ {F3 : Addr → Prop} {H3 : Hp} {ρ3 : En}, Po M F' H' σ2 ρ1 F3 H3 ρ3 → Btw M own F1 H1 (wipe σ own) ρm D acc F3 H3 (wp own ρ3) := fun {F3 H3 ρ3} po3 => by
        have hD' : H' D = some (.lst vs0) := nw.keep D _ hD0
        have nD : ¬ F' D := fun z => by
          rcases nw.new D z with y | y
          · exact bt.nf y
          · rw [hD0] at y; cases y
        have no : ¬ OwnAt σ2 ρ1 D := fun ⟨j, d, h1, h2⟩ => notD (.refl _) h1 rfl h2
        have nr : ¬ RefAt σ2 ρ1 D := fun ⟨j, d, h1, h2⟩ => notD (.refl _) h1 rfl h2
        have hD3 : H3 D = some (.lst vs0) := (po3.stp.keep D _ hD' no nr).nd fun z => z
        have mk : Mask σ2 ρ3 (wipe σ own) (wp own ρ3) := by
          refine ⟨?_, wp_length _ _, fun j u h => ?_⟩
          · rw [up.1]
          · by_cases hj : j ∈ own
            · rw [wp_in own hj] at h; cases h
            · rw [wp_out own hj] at h
              exact ⟨(gv2 j hj).symm, .inl h⟩
        refine ⟨?_, po3.sr.mask hx mk, ⟨?_, fun j => ?_⟩, fun z => ?_, vs0, hD3, ?_⟩
        · exact ((bt.stp.trans pn.stp).trans (po2.stp.trans po3.stp)).weak (fun a z => mk.own z) fun a z => mk.ref z
        · rw [wp_length]
          exact bt.kp.1.trans (po2.kp.1.trans po3.kp.1)
        · by_cases hj : j ∈ own
          · rw [wp_in own hj, hno j hj]
            trivial
          · rw [wp_out own hj]
            refine (bt.kp.2 j).trans ?_
            have z := po3.kp.2 j
            rw [(up.2 j fun z => hj (htg j z)).2] at z
            exact z
        · rcases po3.stp.new D z with y | y | y
          · exact nD y
          · rw [hD'] at y; cases y
          · exact no y
        · exact RepL.mono (po3.ext po2.sr) acc (RepL.mono nw.ext acc rep0)
      refine ⟨(wipe_eq (σ := wipe σ own) (σ' := σ2) (S' := tgs tg) (by rw [up.1]) (fun j hj => (up.2 j hj).1) htg).trans wipe_wipe, F', ρ1, po2.sr, ?_⟩
      · cases e2 : t ρ1 with
        | bad => simp only [e2, Out.bind] at fin; exact fin.elim
        | exc xx ρ9 => simp only [e2, Out.bind] at fin; exact fin.elim
        | ok b ρ2 =>
          simp only [e2, Out.bind] at fin
          intro F3 H3 po3
          cases b with
          | false =>
            simp only [Bool.false_eq_true, if_false] at fin ⊢
            exact ⟨F3, wp own ρ2, acc, back po3, by omega, fin⟩
          | true =>
            simp only [if_true] at fin ⊢
            refine ⟨F3, ρ2, po3.sr, ?_⟩
            cases e3 : φ ρ2 with
            | bad => simp only [e3, Out.bind] at fin; exact fin.elim
            | exc xx ρ9 => simp only [e3, Out.bind] at fin; exact fin.elim
            | ok r ρ3 =>
              simp only [e3, Out.bind] at fin
              intro F4 H4 po4 v rv
              obtain ⟨F5, po5, rp, _⟩ := freeze po3.sr po4 rv
              have bk := back (po3.trans po5)
              obtain ⟨vs4, hD4, rep4⟩ := bk.list
              refine ⟨vs4, hD4, by rw [← rep4.length]; omega, F5, wp own ρ3, acc ++ [r.d], ?_, by simp; omega, fin⟩
              -- the list grows
              have x : Ext F5 H4 F5 (upd H4 D (.lst (vs4 ++ [v]))) := by
                refine ⟨fun _ h => h, fun a u f _ q => ?_, fun a o f _ q => ?_, fun a ws q => ?_, fun a ws q => by rw [upd_ne fun z => by subst z; rw [hD4] at q; cases q]; exact q⟩
                · have ne : a ≠ D := fun z => bk.nf (by rw [← z]; exact f)
                  rcases q with q | ⟨o, q⟩
                  · exact .inl (by rw [upd_ne ne]; exact q)
                  · exact .inr ⟨o, by rw [upd_ne ne]; exact q⟩
                · have ne : a ≠ D := fun z => bk.nf (by rw [← z]; exact f)
                  rw [upd_ne ne]; exact q
                · have ne : a ≠ D := fun z => by
                    subst z
                    rcases q with q | ⟨o, q⟩
                    · rw [hD4] at q; cases q
                    · rw [hD4] at q; cases q
                  rcases q with q | ⟨o, q⟩
                  · exact .inl (by rw [upd_ne ne]; exact q)
                  · exact .inr ⟨o, by rw [upd_ne ne]; exact q⟩
              refine ⟨⟨bk.stp.fro, fun a o e n1 n2 => ?_, fun a e => ?_, bk.stp.new, bk.stp.own, bk.stp.ref⟩, bk.sr.fro x (fun j u a o h1 h2 h3 h4 => ?_) (fun a f => ?_) (fun P q t => t.kept (fun _ h => h) fun a o f q _ => by rw [upd_ne (fun z => bk.nf (by rw [← z]; exact f))]; exact q), bk.kp, bk.nf, vs4 ++ [v], upd_same, ?_⟩
              · rw [upd_ne (ne_of_none e hD)]
                exact bk.stp.keep a o e n1 n2
              · by_cases hb : a = D
                · rw [hb]; exact hD
                · rw [upd_ne hb] at e
                  exact bk.stp.dom a e
              · have ne : a ≠ D := fun z => by
                  subst z
                  obtain ⟨u', a1, a2⟩ := bk.kp.top_of h1 h2
                  obtain ⟨b, w, e, _, q⟩ := s1.top_at a1 a2
                  rw [h3] at e
                  cases e
                  rw [hD] at q
                  cases q
                obtain ⟨b, w, e, nf, _⟩ := bk.sr.top_at h1 h2
                rw [h3] at e
                cases e
                exact ⟨nf, by rw [upd_ne ne]; exact h4⟩
              · by_cases hb : a = D
                · exact absurd (by rw [← hb]; exact f) bk.nf
                · rw [upd_ne hb]; exact bk.sr.dom a f
              · exact RepL.append (RepL.mono x acc rep4) (.cons (Rep.mono x _ rp) .nil)
  · have e : i = items.length := by omega
    subst e
    refine .inl ⟨w1 (Nat.le_refl _), ?_⟩
    rw [List.drop_length] at fin
    exact fin F H bt
end
end VF

namespace VF
open PySem PySem.Spec PyProof.Rows L2

theorem dats_eq {ρ ρ1 : En} : ∀ {xs : List Ov}, (∀ j, j ∈ ats xs → (gt ρ j).map Sl.d = (gt ρ1 j).map Sl.d) → dats ρ xs = dats ρ1 xs
  | [], _ => rfl
  | .val d :: xs, h => by
    unfold dats
    rw [dats_eq (xs := xs) h]
    rfl
  | .at i :: xs, h => by
    unfold dats
    rw [dats_eq (xs := xs) fun j hj => h j (List.mem_cons_of_mem _ hj)]
    have e : (Ov.at i).dat ρ = (Ov.at i).dat ρ1 := h i List.mem_cons_self
    rw [e]
theorem OvRs.upd {M : Md} {F F' : Addr → Prop} {H H' : Hp} {σ σ' : St} (x : Ext F H F' H') : ∀ {xs : List Ov} {vs : List V}, (∀ j, j ∈ ats xs → gv σ' j = gv σ j) → OvRs M F H σ xs vs → OvRs M F' H' σ' xs vs
  | [], _, _, h => h
  | .val d :: xs, _, k, ⟨v, r, e, p, q⟩ => ⟨v, r, e, Rep.mono x d p, OvRs.upd x (xs := xs) k q⟩
  | .at i :: xs, _, k, ⟨v, r, e, p, q⟩ => ⟨v, r, e, (k i List.mem_cons_self).trans p, OvRs.upd x (xs := xs) (fun j hj => k j (List.mem_cons_of_mem _ hj)) q⟩

section
variable {M : Md} {W : WX} {F : Addr → Prop} {H : Hp} {σ : St} {ρ : En}
/-- the masked environment of a block -/
theorem mask_blk {own : List Nat} {xs : List Ov} : Mask σ ρ (wipe σ own) (wp own (lk xs ρ)) := by
  refine ⟨wipe_length _ _, by rw [wp_length, lk_length], fun j t h => ?_⟩
  by_cases hj : j ∈ own
  · rw [wp_in own hj] at h; cases h
  · rw [wp_out own hj] at h
    exact ⟨wipe_gv hj, lk_at xs h⟩
theorem comp_run {src : Src} {tg : Tg} {own : List Nat} {t : BS} {φ : ES} {K : PySem.W.Frag} (hx : M.xn = none) (hK : K = M.K) (htg : ∀ j, j ∈ tgs tg → j ∈ own) {Q : VK} (h : tE M W (comp src tg own t φ) σ H Q) :
    tLc (tI M W src) (gT K tg) (tT M WF t) (tE M WF φ) own σ H Q := by
  obtain ⟨F, ρ, s, h⟩ := h
  show tOs M W src.ops σ H fun vs H1 => rIt M src.f vs H1 _
  refine ops_run _ s ((Want.bind h).mono fun xs F1 H1 ρ1 po1 q vs rs => ?_)
  have q := q po1
  cases e1 : dats ρ1 xs with
  | none => simp only [e1] at q; exact q.elim
  | some ds =>
    simp only [e1] at q
    cases e2 : src.f ds with
    | none => simp only [e2] at q; exact q.elim
    | some items =>
      simp only [e2] at q
      by_cases hdis : (own.all fun i => !(ats xs).contains i) = true
      · rw [if_pos hdis] at q
        have dis : ∀ j, j ∈ ats xs → j ∉ own := fun j h1 h2 => by
          have z := List.all_eq_true.mp hdis j h2
          simp at z
          exact z h1
        refine ⟨F1, ds, items, po1.sr.dom, rs.od po1.sr e1, e2, fun J wk hz => fun D hD => ?_⟩
        have mk : Mask σ ρ1 (wipe σ own) (wp own (lk xs ρ1)) := mask_blk
        have sm := po1.sr.mask hx mk
        refine lc_turns (M := M) (σ := σ) (ρm := wp own (lk xs ρ1)) (Q := fun H => Q (.ref D) H) hx hK hD sm (fun j hj => wp_in own hj) htg wk hz (fun F2 H2 ρ2 acc bt => ?_) ?_
        · have x : Ext F1 H1 F2 H2 := sm.ext bt.stp
          refine (rs.upd x (σ' := wipe σ own) fun j hj => wipe_gv (dis j hj)).od bt.sr ?_
          rw [← e1]
          refine dats_eq fun j hj => ?_
          obtain ⟨z1, z2⟩ := lk_in xs (ρ := ρ1) hj
          have z3 := bt.kp.2 j
          rw [wp_out own (dis j hj)] at z3
          rw [← z1]
          cases e3 : gt (lk xs ρ1) j with
          | none =>
            rw [e3] at z3
            cases e4 : gt ρ2 j with
            | none => rfl
            | some u => rw [e4] at z3; exact z3.elim
          | some t1 =>
            rw [e3] at z3
            cases t1 with
            | val d => cases e4 : gt ρ2 j with
              | none => rw [e4] at z3; exact z3.elim
              | some u => rw [e4] at z3; cases u with
                | val d' => rw [show d = d' from z3]
                | _ => exact z3.elim
            | rd d => cases e4 : gt ρ2 j with
              | none => rw [e4] at z3; exact z3.elim
              | some u => rw [e4] at z3; cases u with
                | rd d' => rw [show d = d' from z3]
                | _ => exact z3.elim
            | own d => obtain ⟨d', z⟩ := z2 _ e3 rfl; cases z
            | ref d => obtain ⟨d', z⟩ := z2 _ e3 rfl; cases z
        · cases e3 : loopC tg own t φ items (wp own (lk xs ρ1)) [] with
          | bad => simp only [e3, noX, Out.bind] at q; exact q.elim
          | exc x ρ9 => simp only [e3, noX, Out.bind] at q; exact q.elim
          | ok out ρ2 =>
            simp only [e3, noX, Out.bind] at q
            intro F2 H2 bt
            have po2 := po1.sr.unmask hx (S := own ++ ats xs) mk (fun j hj => ?_) (fun j t1 hj h1 h2 => ?_) bt.stp bt.sr bt.kp
            · obtain ⟨vs2, hD2, rep2⟩ := bt.list
              refine q F2 H2 po2 (po1.trans po2) (.ref D) ⟨D, rfl, bt.nf, po1.stp.dom D hD, vs2, hD2, rep2⟩
            · obtain ⟨n1, n2⟩ := not_or.mp (fun z => hj (List.mem_append.mpr z))
              exact ⟨by rw [wp_out own n1, lk_out xs n2], wipe_gv n1⟩
            · have n1 : j ∉ own := fun z => by rw [wp_in own z] at h1; cases h1
              rw [wp_out own n1] at h1
              rcases List.mem_append.mp hj with z | z
              · exact absurd z n1
              · exact (lk_in xs z).2 t1 h1 h2
      · rw [if_neg hdis] at q
        exact q.elim
end

section
variable {M : Md} {cs : Cs} {W : WX} {k : Nat} {X : Cx}
/-- the context of a block -/
def Cs.blk (cs : Cs) (scope : Scope) : Cs := ⟨cs.N, relS scope cs.sc, fun x => scope.names.lookup x == some .cell⟩
theorem G.blk (g : G M cs W k X) (s : Shared) (H : Hp) (scope : Scope) (cl : List (Str × Addr)) (C : Addr) (fp : List Addr) : G M (cs.blk scope) WF k (X.blk s H scope (compEnvC scope cl C X.env) fp) :=
  ⟨⟨g.hP, g.hw, g.hb, g.hK, g.hmg, g.hN, g.nd, by show relS scope X.env.scope = relS scope cs.sc; rw [g.hsc], rfl, g.un⟩, g.calm, takes0, g.room, PassesOwn.never, g.nx⟩
/-- what is written of a comprehension's parts -/
structure LcOk (M : Md) (cs : Cs) (k : Nat) (scope : Scope) (tg elt : Expr) (ifs : List Expr) (T : Tg) (t : BS) (φ : ES) : Prop where
  hg : ∀ X, G M (cs.blk scope) WF k X → PG X tg (gT X.K T)
  ht : ∀ X, G M (cs.blk scope) WF k X → PTs X ifs (tT M WF t)
  he : ∀ X, G M (cs.blk scope) WF k X → PE X elt (tE M WF φ)
theorem ts_nil {X : Cx} : PTs X [] (tT M W yes) := ⟨fun pins s σ H Q I h => pts_nil.run pins s σ H Q I (by
  obtain ⟨F, ρ, sr, h⟩ := h
  exact h F H (.refl sr))⟩
theorem ts_one {X : Cx} {c : Expr} {t : BS} (h : PT X c (tT M W t)) : PTs X [c] (tT M W t) := pts_one h
theorem e_lc (g : G M cs W k X) {elt tg iter : Expr} {ifs : List Expr} {scope : Scope} {own : List (Str × Nat)} {pos : Pos} {src : Src} {T : Tg} {t : BS} {φ : ES} (hi : PI X tg iter (tI M W src)) (ok : blkC cs.N cs.sc scope own = true) (htg : ((tgs T).all fun j => (own.map (·.2)).contains j) = true) (lc : LcOk M cs k scope tg elt ifs T t φ) (hs : ∀ x, foldedSetIterable iter X.env x = pure x) :
    PE X (.ListComp elt [⟨tg, iter, ifs, 0⟩] scope pos) (tE M W (comp src T (own.map (·.2)) t φ)) := by
  refine PE_imp (pe_lc (g := gT X.K T) (tt := tT M WF t) (te := tE M WF φ) g.calm (by rw [g.hN]; exact g.nd) hi (blkOk_by (by rw [g.hN, g.hsc]; exact ok)) (fun s H C cl fp => lc.hg _ (g.blk s H scope cl C fp)) (fun s H C cl fp => lc.ht _ (g.blk s H scope cl C fp)) (fun s H C cl fp => lc.he _ (g.blk s H scope cl C fp)) hs) fun σ H Q h => ?_
  exact comp_run g.nx g.hK (fun j hj => by
    have z := List.all_eq_true.mp htg j hj
    exact List.contains_iff_mem.mp z) h
end
end VF

namespace VF
open PySem PySem.Spec PyProof.Rows L2

inductive SO where
  | nx (ρ : En)
  | rt (r : Rv) (ρ : En)
  | bk (ρ : En)
  | ct (ρ : En)
  | exc (x : Ex) (ρ : En)
  | bad
abbrev SS := En → SO
/-- what is returned: an own object is new since the start, or was owned at it -/
def RtR (M : Md) (O : Addr → Prop) (H0 : Hp) (F : Addr → Prop) (H : Hp) : Rv → V → Prop
  | .val d, v => Rep M F H d v
  | .own d, v => ∃ a, v = .ref a ∧ ¬ F a ∧ (H0 a = none ∨ O a) ∧ Cont M F H (fun u => H a = some u) d
def WantS (M : Md) (W : WX) (F : Addr → Prop) (H : Hp) (σ : St) (ρ : En) (o : SO) (D : Ends) : Prop := match o with
  | .nx ρ' => ∀ F' H' σ', PoS M F H σ ρ F' H' σ' ρ' → D.nx σ' H'
  | .bk ρ' => ∀ F' H' σ', PoS M F H σ ρ F' H' σ' ρ' → D.bk σ' H'
  | .ct ρ' => ∀ F' H' σ', PoS M F H σ ρ F' H' σ' ρ' → D.ct σ' H'
  | .rt r ρ' => ∀ F' H' σ' v, PoS M F H σ ρ F' H' σ' ρ' → RtR M (OwnAt σ ρ) H F' H' r v → D.rt v H'
  | .exc x ρ' => ∀ F' H' σ' cls d, PoS M F H σ ρ F' H' σ' ρ' → ExR M F' H' x cls d → W cls d σ' H'
  | .bad => False
def tS (M : Md) (W : WX) (φ : SS) : TS := fun D σ H => ∃ F ρ, SR M F H σ ρ ∧ WantS M W F H σ ρ (φ ρ) D
def Out.bindS {α : Type} (o : Out α) (f : α → En → SO) : SO := match o with
  | .ok a ρ => f a ρ
  | .exc x ρ => .exc x ρ
  | .bad => .bad
section
variable {M : Md} {W : WX} {F F1 : Addr → Prop} {H H1 : Hp} {σ σ1 : St} {ρ ρ1 : En}
theorem RtR.step {r : Rv} {v : V} {F' : Addr → Prop} {H' : Hp} (st : Stp F H (OwnAt σ ρ) (RefAt σ ρ) F1 H1 (OwnAt σ1 ρ1) (RefAt σ1 ρ1)) (h : RtR M (OwnAt σ1 ρ1) H1 F' H' r v) : RtR M (OwnAt σ ρ) H F' H' r v := by
  cases r with
  | val d => exact h
  | own d =>
    obtain ⟨a, e, nf, z, c⟩ := h
    refine ⟨a, e, nf, ?_, c⟩
    rcases z with z | z
    · exact .inl (st.dom a z)
    · exact (st.own a z).symm
theorem WantS.step {o : SO} {D : Ends} (po : PoS M F H σ ρ F1 H1 σ1 ρ1) (h : WantS M W F H σ ρ o D) : WantS M W F1 H1 σ1 ρ1 o D := by
  cases o with
  | nx ρ' => exact fun F' H' σ' p => h F' H' σ' (po.trans p)
  | bk ρ' => exact fun F' H' σ' p => h F' H' σ' (po.trans p)
  | ct ρ' => exact fun F' H' σ' p => h F' H' σ' (po.trans p)
  | rt r ρ' => exact fun F' H' σ' v p rt => h F' H' σ' v (po.trans p) (rt.step po.stp)
  | exc x ρ' => exact fun F' H' σ' cls d p xr => h F' H' σ' cls d (po.trans p) xr
  | bad => exact h
/-- other ends -/
theorem WantS.ends {o : SO} {D D' : Ends} (h : WantS M W F H σ ρ o D) (h1 : ∀ σ' H', D.nx σ' H' → D'.nx σ' H') (h2 : ∀ σ' H', D.bk σ' H' → D'.bk σ' H') (h3 : ∀ σ' H', D.ct σ' H' → D'.ct σ' H') (h4 : ∀ v H', D.rt v H' → D'.rt v H') : WantS M W F H σ ρ o D' := by
  cases o with
  | nx ρ' => exact fun F' H' σ' p => h1 _ _ (h F' H' σ' p)
  | bk ρ' => exact fun F' H' σ' p => h2 _ _ (h F' H' σ' p)
  | ct ρ' => exact fun F' H' σ' p => h3 _ _ (h F' H' σ' p)
  | rt r ρ' => exact fun F' H' σ' v p rt => h4 _ _ (h F' H' σ' v p rt)
  | exc x ρ' => exact h
  | bad => exact h
/-- an expression, then a statement's rest -/
theorem bindS_want {α : Type} {o : Out α} {f : α → En → SO} {D : Ends} (h : WantS M W F H σ ρ (o.bindS f) D) :
    Want M W F H σ ρ o fun a _ _ ρ1 => WantS M W F H σ ρ (f a ρ1) D := by
  cases o with
  | bad => exact h
  | exc x ρ' => exact fun F' H' cls d po xr => h F' H' σ cls d po.s xr
  | ok a ρ1 => exact fun F1 H1 po => h
end

/-! ### small statements -/
def skip : SS := fun ρ => .nx ρ
def seq (a b : SS) : SS := fun ρ => match a ρ with
  | .nx ρ' => b ρ'
  | o => o
def ifS (t : BS) (a b : SS) : SS := fun ρ => (t ρ).bindS fun c ρ' => if c then a ρ' else b ρ'
def retE (φ : ES) : SS := fun ρ => (φ ρ).bindS fun r ρ' => .rt r ρ'
/-- return of a name: an own object is given away -/
def retI (i : Nat) : SS := fun ρ => match gt ρ i with
  | some (.own d) => .rt (.own d) (ρ.set i none)
  | some (.val d) => .rt (.val d) ρ
  | _ => .bad
def dropE (φ : ES) : SS := fun ρ => (φ ρ).bindS fun _ ρ' => .nx ρ'
def setI (i : Nat) (φ : ES) : SS := fun ρ => (φ ρ).bindS fun r ρ' => if noRef (gt ρ' i) = true ∧ i < ρ'.length then (match r with
  | .val d => .nx (ρ'.set i (some (.val d)))
  | .own d => .nx (ρ'.set i (some (.own d)))) else .bad
def putS (tg : Tg) (φ : ES) : SS := fun ρ => (φ ρ).bindS fun r ρ' => match put tg r.d ρ' with
  | some ρ2 => .nx ρ2
  | none => .bad
/-- a slot is forgotten -/
def kill (i : Nat) (a : SS) : SS := fun ρ => match gt ρ i with
  | some (.ref _) => .bad
  | some (.rd _) => .bad
  | _ => a (ρ.set i none)
section
variable {M : Md} {cs : Cs} {W : WX} {k : Nat} {X : Cx}
theorem s_nil : PSs X [] (tS M W skip) := PSs_imp pss_nil fun D σ H ⟨F, ρ, s, h⟩ => h F H σ (.refl s)
theorem s_cons {st : Stmt} {rest : List Stmt} {a b : SS} (h1 : PS X st (tS M W a)) (h2 : PSs X rest (tS M W b)) : PSs X (st :: rest) (tS M W (seq a b)) := by
  refine PSs_imp (pss_cons h1 h2) fun D σ H ⟨F, ρ, s, h⟩ => ⟨F, ρ, s, ?_⟩
  unfold seq at h
  cases e : a ρ with
  | nx ρ1 =>
    simp only [e] at h
    exact fun F1 H1 σ1 po => ⟨F1, ρ1, po.sr, h.step po⟩
  | bk ρ1 => simp only [e] at h; exact h
  | ct ρ1 => simp only [e] at h; exact h
  | rt r ρ1 => simp only [e] at h; exact h
  | exc x ρ1 => simp only [e] at h; exact h
  | bad => simp only [e] at h; exact h
theorem s_one {st : Stmt} {a : SS} (h1 : PS X st (tS M W a)) : PSs X [st] (tS M W a) := pss_one h1
theorem s_if {c : Expr} {a b : List Stmt} {pos : Pos} {t : BS} {p q : SS} (hc : PT X c (tT M W t)) (ha : PSs X a (tS M W p)) (hb : PSs X b (tS M W q)) : PS X (.If c a b pos) (tS M W (ifS t p q)) := by
  refine PS_imp (ps_if hc ha hb) fun D σ H ⟨F, ρ, s, h⟩ => ⟨F, ρ, s, (bindS_want h).mono fun b F1 H1 ρ1 po z => ?_⟩
  have z := z.step po.s
  cases b with
  | true => exact ⟨F1, ρ1, po.sr, z⟩
  | false => exact ⟨F1, ρ1, po.sr, z⟩
theorem s_ret {e : Expr} {pos : Pos} {φ : ES} (he : PE X e (tE M W φ)) : PS X (.Return (some e) pos) (tS M W (retE φ)) := by
  refine PS_imp (ps_ret he) fun D σ H ⟨F, ρ, s, h⟩ => tE_of s ((bindS_want h).mono fun r F1 H1 ρ1 po z v rv => ?_)
  refine z F1 H1 σ v po.s ?_
  cases r with
  | val d => exact rv
  | own d =>
    obtain ⟨a, e, nf, h0, c⟩ := rv
    exact ⟨a, e, nf, .inl h0, c⟩
/-- a slot that is no caller's is forgotten -/
theorem forget {F : Addr → Prop} {H : Hp} {σ : St} {ρ : En} (s : SR M F H σ ρ) {i : Nat} (hn : noRef (gt ρ i) = true) : PoS M F H σ ρ F H σ (ρ.set i none) := by
  have key : ∀ {j : Nat} {t : Sl}, gt (ρ.set i none) j = some t → gt ρ j = some t := fun {j t} h => by
    by_cases hj : i = j
    · subst hj
      have hl := gt_lt h
      rw [List.length_set] at hl
      rw [gt_set_self hl] at h
      cases h
    · rw [gt_set_ne hj] at h
      exact h
  refine ⟨⟨fun _ h => h, fun _ _ h _ _ => .inl h, fun _ h => h, fun _ h => .inl h, fun a ⟨j, d, h1, h2⟩ => .inl ⟨j, d, key h1, h2⟩, fun a ⟨j, d, h1, h2⟩ => ⟨j, d, key h1, h2⟩⟩, ⟨by rw [List.length_set]; exact s.len, s.dom, fun j t h => s.slot j t (key h), fun j l t u a h1 h2 => s.dist j l t u a (key h1) (key h2), s.xn⟩, by rw [List.length_set], fun j => ?_⟩
  by_cases hj : i = j
  · subst hj
    have z : ∀ t, gt (ρ.set i none) i ≠ some t := fun t e => by
      have hl := gt_lt e
      rw [List.length_set] at hl
      rw [gt_set_self hl] at e
      cases e
    refine ⟨fun d h => ?_, fun d h => ?_, fun d h => absurd h (z _), fun d h => absurd h (z _)⟩
    · rw [h] at hn; cases hn
    · rw [h] at hn; cases hn
  · rw [gt_set_ne hj]
    exact (KpT.refl σ ρ).2 j
theorem s_retI (g : G0 M cs k X) {i : Nat} {x : Str} {pos p2 : Pos} (hi : cs.N[i]? = some x) (hv : Vis cs.sc x) (hd : (x == ("__debug__" : Str)) = false) (hcd : (x == ("__classdict__" : Str)) = false) : PS X (.Return (some (.Name x pos)) p2) (tS M W (retI i)) := by
  refine PS_imp (ps_ret (pe_var (by rw [g.hN]; exact hi) (g.vis hv) hd hcd)) fun D σ H ⟨F, ρ, s, h⟩ => ?_
  unfold retI at h
  cases e : gt ρ i with
  | none => simp only [e] at h; exact h.elim
  | some t =>
    obtain ⟨v, hv, r⟩ := s.slot i t e
    refine ⟨v, gv_some hv, ?_⟩
    cases t with
    | val d => simp only [e] at h; exact h F H σ v (.refl s) r
    | own d =>
      simp only [e] at h
      obtain ⟨a, rfl, nf, c⟩ := r
      exact h F H σ _ (forget s (by rw [e]; rfl)) ⟨a, rfl, nf, .inr ⟨i, d, e, hv⟩, c⟩
    | ref d => simp only [e] at h; exact h.elim
    | rd d => simp only [e] at h; exact h.elim
theorem s_kill {st : List Stmt} {i : Nat} {a : SS} (h : PSs X st (tS M W a)) : PSs X st (tS M W (kill i a)) := by
  refine PSs_imp h fun D σ H ⟨F, ρ, s, h⟩ => ?_
  unfold kill at h
  have go : noRef (gt ρ i) = true → WantS M W F H σ ρ (a (ρ.set i none)) D → tS M W a D σ H := fun hn h => ⟨F, _, (forget s hn).sr, h.step (forget s hn)⟩
  cases e : gt ρ i with
  | none => simp only [e] at h; exact go (by rw [e]; rfl) h
  | some t => cases t with
    | val d => simp only [e] at h; exact go (by rw [e]; rfl) h
    | own d => simp only [e] at h; exact go (by rw [e]; rfl) h
    | ref d => simp only [e] at h; exact h.elim
    | rd d => simp only [e] at h; exact h.elim
theorem s_expr {e : Expr} {pos : Pos} {φ : ES} (he : PE X e (tE M W φ)) (hs : swapsWith e none pos.line X.env = pure false) : PS X (.Expr e pos) (tS M W (dropE φ)) := by
  refine PS_imp (ps_expr he hs) fun D σ H ⟨F, ρ, s, h⟩ => tE_of s ((bindS_want h).mono fun r F1 H1 ρ1 po z v rv => ?_)
  exact z F1 H1 σ po.s
/-- what a value stored to a name needs -/
theorem set_run {i : Nat} (hl : ∀ t, M.xn = some t → t.i ≠ i) {φ : ES} {D : Ends} {σ : St} {H : Hp} (h : tS M W (setI i φ) D σ H) : tAsg (tE M W φ) (gName i) D σ H := by
  obtain ⟨F, ρ, s, h⟩ := h
  refine tE_of s ((bindS_want h).mono fun r F1 H1 ρ1 po z v rv => ?_)
  show D.nx (σ.set i (some v)) H1
  by_cases hc : noRef (gt ρ1 i) = true ∧ i < ρ1.length
  · rw [if_pos hc] at z
    cases r with
    | val d => exact z F1 H1 _ (po.s.trans (put_val po.sr hl hc.2 hc.1 rv))
    | own d => exact z F1 H1 _ (put_own po.sr po s hl hc.2 hc.1 rv)
  · rw [if_neg hc] at z
    exact z.elim
theorem s_setH (g : G0 M cs k X) {i : Nat} {x : Str} {e : Expr} {pos' pos : Pos} {φ : ES} (hl : ∀ t, M.xn = some t → t.i ≠ i) (hi : cs.N[i]? = some x) (hx : Loc cs.sc x) (he : PE X e (tE M W φ)) (hs : swapsWith e (some (.Name x pos')) pos.line X.env = pure false) (hf : cs.fb x = true ∨ cs.sc.names.lookup x = some .local) :
    PS X (.Assign [.Name x pos'] e pos) (tS M W (setI i φ)) :=
  PS_imp (ps_set (by rw [g.hN]; exact g.nd) (by rw [g.hN]; exact hi) (by rw [g.hsc]; exact hx) he hs (by rw [g.hfn, g.hsc]; exact hf)) fun D σ H h => set_run hl h
theorem G.lk (g : G M cs W k X) (i : Nat) : ∀ t, M.xn = some t → t.i ≠ i := fun t e => by
  rw [g.nx] at e
  cases e
theorem s_set (g : G M cs W k X) {i : Nat} {x : Str} {e : Expr} {pos' pos : Pos} {φ : ES} (hi : cs.N[i]? = some x) (hx : Loc cs.sc x) (he : PE X e (tE M W φ)) (hs : swapsWith e (some (.Name x pos')) pos.line X.env = pure false) (hf : cs.fb x = true ∨ cs.sc.names.lookup x = some .local) :
    PS X (.Assign [.Name x pos'] e pos) (tS M W (setI i φ)) := s_setH g.toG0 (g.lk i) hi hx he hs hf
theorem s_setLc (g : G M cs W k X) {i : Nat} {y : Str} {py : Pos} {elt tg iter : Expr} {ifs : List Expr} {scope : Scope} {own : List (Str × Nat)} {pos spos : Pos} {src : Src} {T : Tg} {t : BS} {φ : ES} (hy : cs.N[i]? = some y) (hyl : cs.sc.names.lookup y = some .local) (hkind : cs.sc.kind = .function) (hl : (py.line == pos.line) = true) (han : (scope.names.any fun (n, k) => n == y && (k == .local || k == .cell)) = false)
    (hi : PI X tg iter (tI M W src)) (ok : blkC cs.N cs.sc scope own = true) (htg : ((tgs T).all fun j => (own.map (·.2)).contains j) = true) (lc : LcOk M cs k scope tg elt ifs T t φ) (hs : ∀ x, foldedSetIterable iter X.env x = pure x) :
    PS X (.Assign [.Name y py] (.ListComp elt [⟨tg, iter, ifs, 0⟩] scope pos) spos) (tS M W (setI i (comp src T (own.map (·.2)) t φ))) := by
  refine PS_imp (ps_setLc (g := gT X.K T) (tt := tT M WF t) (te := tE M WF φ) g.calm (by rw [g.hN]; exact g.nd) (by rw [g.hN]; exact hy) (by rw [g.hsc]; exact hyl) (sw_true (by rw [g.hsc]; exact hkind) (by rw [g.hsc]; exact hyl) hl han) hi (blkOk_by (by rw [g.hN, g.hsc]; exact ok)) (fun s H C cl fp => lc.hg _ (g.blk s H scope cl C fp)) (fun s H C cl fp => lc.ht _ (g.blk s H scope cl C fp)) (fun s H C cl fp => lc.he _ (g.blk s H scope cl C fp)) hs) fun D σ H h => ?_
  have h1 : tE M W (comp src T (own.map (·.2)) t φ) σ H (fun x H1 => gName i x σ H1 D.nx) := set_run (g.lk i) h
  exact comp_run g.nx g.hK (fun j hj => List.contains_iff_mem.mp (List.all_eq_true.mp htg j hj)) h1
theorem s_put (g : G M cs W k X) {tg e : Expr} {pos : Pos} {T : Tg} {φ : ES} (he : PE X e (tE M W φ)) (hg : PG X tg (gT X.K T)) (hs : swapsWithSole [tg] e pos.line X.env = pure false) (hw : swappedStores [tg] e X.env = pure none) (h1 : (assignEach [tg] X.env).map (·.2) = [assign tg X.env]) :
    PS X (.Assign [tg] e pos) (tS M W (putS T φ)) := by
  refine PS_imp (ps_asg he hg hs hw h1) fun D σ H ⟨F, ρ, s, h⟩ => tE_of s ((bindS_want h).mono fun r F1 H1 ρ1 po z v rv => ?_)
  obtain ⟨F2, po2, rp, _⟩ := freeze s po rv
  cases e : put T r.d ρ1 with
  | none => simp only [e] at z; exact z.elim
  | some ρ2 =>
    simp only [e] at z
    exact put_run g.nx g.hK T po2.sr rp e fun σ2 p2 _ _ => z F2 H1 σ2 (po2.s.trans p2)
end
end VF

namespace VF
open PySem PySem.Spec PyProof.Rows L2

/-- the slots that are locked -/
def lks (ρ : En) (xs : List Ov) : List Nat := (ats xs).filter fun i => match gt ρ i with
  | some (.own _) => true
  | some (.ref _) => true
  | _ => false
def unl (ρ1 : En) (S : List Nat) : SO → SO
  | .nx ρ => .nx (rst ρ1 S ρ)
  | .bk ρ => .bk (rst ρ1 S ρ)
  | .ct ρ => .ct (rst ρ1 S ρ)
  | .rt r ρ => .rt r (rst ρ1 S ρ)
  | .exc x ρ => .exc x (rst ρ1 S ρ)
  | .bad => .bad
def loopS (tg : Tg) (body : SS) : List D → SS
  | [], ρ => .nx ρ
  | d :: ds, ρ => match put tg d ρ with
    | none => .bad
    | some ρ1 => (match body ρ1 with
      | .nx ρ2 => loopS tg body ds ρ2
      | .ct ρ2 => loopS tg body ds ρ2
      | .bk ρ2 => .nx ρ2
      | o => o)
def forS (src : Src) (tg : Tg) (body : SS) : SS := fun ρ => (evs src.ops ρ).bindS fun xs ρ1 => match dats ρ1 xs with
  | some ds => (match src.f ds with
    | some items => unl ρ1 (lks ρ1 xs) (loopS tg body items (lk xs ρ1))
    | none => .bad)
  | none => .bad
theorem lk_rd {j : Nat} {d : D} : ∀ (xs : List Ov) {ρ : En}, gt ρ j = some (.rd d) → gt (lk xs ρ) j = some (.rd d)
  | [], _, h => h
  | .val _ :: xs, ρ, h => lk_rd xs h
  | .at i :: xs, ρ, h => by
    unfold lk
    refine lk_rd xs ?_
    by_cases hj : i = j
    · subst hj
      simp only [h]
    · split
      · rw [gt_set_ne hj]; exact h
      · rw [gt_set_ne hj]; exact h
      · exact h
theorem mem_lks {ρ : En} {xs : List Ov} {j : Nat} : j ∈ lks ρ xs ↔ j ∈ ats xs ∧ ∃ d, gt ρ j = some (.own d) ∨ gt ρ j = some (.ref d) := by
  unfold lks
  rw [List.mem_filter]
  refine and_congr_right fun _ => ?_
  constructor
  · intro h
    split at h
    · rename_i d e; exact ⟨d, .inl e⟩
    · rename_i d e; exact ⟨d, .inr e⟩
    · cases h
  · rintro ⟨d, e | e⟩ <;> simp only [e]
/-- a locked slot is read alone -/
theorem lk_own {ρ : En} {xs : List Ov} {j : Nat} {d : D} (hj : j ∈ ats xs) (h : gt ρ j = some (.own d) ∨ gt ρ j = some (.ref d)) : gt (lk xs ρ) j = some (.rd d) := by
  obtain ⟨h1, h2⟩ := lk_in xs (ρ := ρ) hj
  cases e : gt (lk xs ρ) j with
  | none => rw [e] at h1; rcases h with h | h <;> (rw [h] at h1; cases h1)
  | some t =>
    have ed : t.d = d := by
      rw [e] at h1
      rcases h with h | h <;> (rw [h] at h1; cases h1; rfl)
    cases t with
    | val d' =>
      rcases lk_at xs e with z | ⟨d2, z, _⟩
      · rcases h with h | h <;> (rw [h] at z; cases z)
      · cases z
    | own d' => obtain ⟨d2, z⟩ := h2 _ e rfl; cases z
    | ref d' => obtain ⟨d2, z⟩ := h2 _ e rfl; cases z
    | rd d' => rw [show d' = d from ed]
section
variable {M : Md} {W : WX} {F F' : Addr → Prop} {H H' : Hp} {σ σ' : St} {ρ ρe : En}
theorem mask_lk {xs : List Ov} : Mask σ ρ σ (lk xs ρ) := ⟨rfl, lk_length _ _, fun j t h => ⟨rfl, lk_at xs h⟩⟩
/-- behind the loop the locks fall -/
theorem unlock (s : SR M F H σ ρ) (hx : M.xn = none) {xs : List Ov} (po : PoS M F H σ (lk xs ρ) F' H' σ' ρe) : PoS M F H σ ρ F' H' σ' (rst ρ (lks ρ xs) ρe) := by
  have mk : Mask σ ρ σ (lk xs ρ) := mask_lk
  have x : Ext F H F' H' := (s.mask hx mk).ext po.stp
  have hl : ρe.length = ρ.length := po.kp.1.symm.trans (lk_length _ _)
  -- a locked slot
  have lkd : ∀ j, j ∈ lks ρ xs → ∃ d, gt (rst ρ (lks ρ xs) ρe) j = gt ρ j ∧ (gt ρ j = some (.own d) ∨ gt ρ j = some (.ref d)) ∧ gt ρe j = some (.rd d) ∧ gv σ' j = gv σ j := fun j hj => by
    obtain ⟨h1, d, h2⟩ := mem_lks.mp hj
    have h3 := lk_own h1 h2
    obtain ⟨h4, h5⟩ := (po.kp.2 j).2.1 d h3
    exact ⟨d, rst_in _ hj (gt_lt h4), h2, h4, h5⟩
  have out : ∀ j, j ∉ lks ρ xs → gt (rst ρ (lks ρ xs) ρe) j = gt ρe j := fun j hj => rst_out _ hj
  have same : ∀ j d, j ∉ lks ρ xs → gt ρ j = some (.own d) ∨ gt ρ j = some (.ref d) → gt (lk xs ρ) j = gt ρ j := fun j d hj h => by
    refine lk_out xs fun z => hj (mem_lks.mpr ⟨z, d, h⟩)
  refine ⟨⟨x.fro, fun a o h1 h2 h3 => po.stp.keep a o h1 (fun z => h2 (mk.own z)) fun z => h3 (mk.ref z), po.stp.dom, fun a h => ?_, fun a h => ?_, fun a h => ?_⟩, ⟨?_, po.sr.dom, fun j t h => ?_, fun i j t u a h1 h2 h3 h4 h5 h6 => ?_, .no hx po.sr.xn.2⟩, by rw [rst_length, hl], fun j => ?_⟩
  · rcases po.stp.new a h with z | z | z
    · exact .inl z
    · exact .inr (.inl z)
    · exact .inr (.inr (mk.own z))
  · obtain ⟨j, d, h1, h2⟩ := h
    by_cases hj : j ∈ lks ρ xs
    · obtain ⟨d', e1, _, _, e4⟩ := lkd j hj
      rw [e1] at h1
      rw [e4] at h2
      exact .inl ⟨j, d, h1, h2⟩
    · rw [out j hj] at h1
      rcases po.stp.own a ⟨j, d, h1, h2⟩ with z | z
      · exact .inl (mk.own z)
      · exact .inr z
  · obtain ⟨j, d, h1, h2⟩ := h
    by_cases hj : j ∈ lks ρ xs
    · obtain ⟨d', e1, _, _, e4⟩ := lkd j hj
      rw [e1] at h1
      rw [e4] at h2
      exact ⟨j, d, h1, h2⟩
    · rw [out j hj] at h1
      exact mk.ref (po.stp.ref a ⟨j, d, h1, h2⟩)
  · rw [rst_length]; exact po.sr.len
  · by_cases hj : j ∈ lks ρ xs
    · obtain ⟨d, e1, e2, e3, e4⟩ := lkd j hj
      rw [e1] at h
      obtain ⟨v, ev, r⟩ := s.slot j t h
      rw [e4]
      refine ⟨v, ev, ?_⟩
      have key : ∀ (a : Addr) (u : HO), v = .ref a → H a = some u → H' a = some u ∧ ¬ F' a := fun a u ea hu => by
        subst ea
        have top : t.top = true := by rcases e2 with e2 | e2 <;> (rw [e2] at h; cases h; rfl)
        have ne : ∀ i t', gt (lk xs ρ) i = some t' → t'.top = true → gv σ i = some (.ref a) → ∃ d, t' = .rd d := fun i t' k1 k2 k3 => by
          obtain ⟨t2, k4, k5⟩ := mk.top k1 k2
          have e := s.dist i j t2 t a k4 h k5 top k3 ev
          subst e
          exact (lk_in xs (mem_lks.mp hj).1).2 t' k1 k2
        have n1 : ¬ OwnAt σ (lk xs ρ) a := fun ⟨i, d, k1, k2⟩ => by
          obtain ⟨d', z⟩ := ne i _ k1 rfl k2
          cases z
        have n2 : ¬ RefAt σ (lk xs ρ) a := fun ⟨i, d, k1, k2⟩ => by
          obtain ⟨d', z⟩ := ne i _ k1 rfl k2
          cases z
        obtain ⟨b, w, e5, nf, _⟩ := po.sr.top_at e3 rfl
        rw [e4, ev] at e5
        cases e5
        exact ⟨(po.stp.keep a u hu n1 n2).no fun f => nf (po.stp.fro a f), nf⟩
      rcases e2 with e2 | e2
      · rw [e2] at h
        cases h
        obtain ⟨a, rfl, nf, c⟩ := r
        obtain ⟨u, hu, _⟩ := c.some_of
        obtain ⟨k1, k2⟩ := key a u rfl hu
        exact ⟨a, rfl, k2, c.mono x fun w (hw : H a = some w) => (key a w rfl hw).1⟩
      · rw [e2] at h
        cases h
        obtain ⟨a, rfl, nf, c⟩ := r
        obtain ⟨u, hu, _⟩ := c.some_of
        obtain ⟨k1, k2⟩ := key a u rfl hu
        exact ⟨a, rfl, k2, c.mono x fun w (hw : H a = some w) => (key a w rfl hw).1⟩
    · rw [out j hj] at h
      exact po.sr.slot j t h
  · have back : ∀ {i : Nat} {t : Sl}, gt (rst ρ (lks ρ xs) ρe) i = some t → t.top = true → ∃ t', gt ρe i = some t' ∧ t'.top = true := fun {i t} k1 k2 => by
      by_cases hj : i ∈ lks ρ xs
      · obtain ⟨d, _, _, e3, _⟩ := lkd i hj
        exact ⟨_, e3, rfl⟩
      · rw [out i hj] at k1
        exact ⟨t, k1, k2⟩
    obtain ⟨t', k1, k2⟩ := back h1 h3
    obtain ⟨u', k3, k4⟩ := back h2 h4
    exact po.sr.dist i j t' u' a k1 k3 k2 k4 h5 h6
  · by_cases hj : j ∈ lks ρ xs
    · obtain ⟨d, e1, e2, e3, e4⟩ := lkd j hj
      rw [e1, e4]
      exact (KpT.refl σ ρ).2 j
    · rw [out j hj]
      refine ⟨fun d h => ?_, fun d h => ?_, fun d h => ?_, fun d h => ?_⟩
      · exact (po.kp.2 j).1 d ((same j d hj (.inr h)).trans h)
      · exact (po.kp.2 j).2.1 d (lk_rd xs h)
      · obtain ⟨d', z⟩ := (po.kp.2 j).2.2.1 d h
        rcases lk_at xs z with y | ⟨_, y, _⟩
        · exact ⟨d', y⟩
        · cases y
      · have z := (po.kp.2 j).2.2.2 d h
        rcases lk_at xs z with y | ⟨d2, y, y2⟩
        · exact y
        · cases y
          have e := same j _ hj y2
          rw [z] at e
          rcases y2 with y2 | y2 <;> (rw [y2] at e; cases e)
/-- the operands of the loop, later -/
theorem ods_later (s : SR M F H σ ρ) (x : Ext F H F' H') (s' : SR M F' H' σ' ρe) : ∀ {xs : List Ov} {vs : List V} {ds : List D}, OvRs M F H σ xs vs → dats ρ xs = some ds → (∀ j t d, j ∈ ats xs → gt ρ j = some t → t.top = true → t.d = d → gt ρe j = some (.rd d) ∧ gv σ' j = gv σ j) → OdRs M F' H' ds vs
  | [], _, _, h, e, _ => by cases e; exact h
  | x1 :: xs, _, ds, ⟨v, r, e1, p, q⟩, e, k => by
    unfold dats at e
    cases e2 : x1.dat ρ with
    | none => rw [e2] at e; cases e
    | some d =>
      cases e3 : dats ρ xs with
      | none => rw [e2, e3] at e; cases e
      | some ds' =>
        rw [e2, e3] at e
        cases e
        refine ⟨v, r, e1, ?_, ods_later s x s' q e3 fun j t d hj => k j t d ?_⟩
        · cases x1 with
          | val d' =>
            cases e2
            exact .inl (Rep.mono x _ p)
          | «at» i =>
            cases e4 : gt ρ i with
            | none => simp only [Ov.dat, e4] at e2; cases e2
            | some t =>
              simp only [Ov.dat, e4] at e2
              cases e2
              obtain ⟨w, hw, rr⟩ := s.slot i t e4
              have p : gv σ i = some v := p
              rw [p] at hw
              cases hw
              by_cases ht : t.top = true
              · obtain ⟨z1, z2⟩ := k i t _ List.mem_cons_self e4 ht rfl
                obtain ⟨w', hw', rr'⟩ := s'.slot i _ z1
                rw [z2, p] at hw'
                cases hw'
                exact rr'.od
              · cases t with
                | val d => exact .inl (Rep.mono x _ rr)
                | own d => exact absurd rfl ht
                | ref d => exact absurd rfl ht
                | rd d => exact absurd rfl ht
        · cases x1 with
          | val d' => exact hj
          | «at» i => exact List.mem_cons_of_mem _ hj
theorem unl_want (s : SR M F H σ ρ) (hx : M.xn = none) {xs : List Ov} {o : SO} {D : Ends} (h : WantS M W F H σ ρ (unl ρ (lks ρ xs) o) D) : WantS M W F H σ (lk xs ρ) o D := by
  cases o with
  | nx ρ' => exact fun F' H' σ' p => h F' H' σ' (unlock s hx p)
  | bk ρ' => exact fun F' H' σ' p => h F' H' σ' (unlock s hx p)
  | ct ρ' => exact fun F' H' σ' p => h F' H' σ' (unlock s hx p)
  | rt r ρ' =>
    refine fun F' H' σ' v p rt => h F' H' σ' v (unlock s hx p) ?_
    cases r with
    | val d => exact rt
    | own d =>
      obtain ⟨a, e, nf, z, c⟩ := rt
      exact ⟨a, e, nf, z.imp id fun z => mask_lk.own z, c⟩
  | exc x ρ' => exact fun F' H' σ' cls d p xr => h F' H' σ' cls d (unlock s hx p) xr
  | bad => exact h
end

section
variable {M : Md} {cs : Cs} {W : WX} {k : Nat} {X : Cx}
theorem for_run {src : Src} {tg : Tg} {body : SS} {K : PySem.W.Frag} (hx : M.xn = none) (hK : K = M.K) {D : Ends} {σ : St} {H : Hp} (h : tS M W (forS src tg body) D σ H) : tFor (tI M W src) (gT K tg) (tS M W body) D σ H := by
  obtain ⟨F, ρ, s, h⟩ := h
  show tOs M W src.ops σ H fun vs H1 => rIt M src.f vs H1 _
  refine ops_run _ s ((bindS_want h).mono fun xs F1 H1 ρ1 po1 q vs rs => ?_)
  have q := q.step po1.s
  cases e1 : dats ρ1 xs with
  | none => simp only [e1] at q; exact q.elim
  | some ds =>
    simp only [e1] at q
    cases e2 : src.f ds with
    | none => simp only [e2] at q; exact q.elim
    | some items =>
      simp only [e2] at q
      refine ⟨F1, ds, items, po1.sr.dom, rs.od po1.sr e1, e2, fun J wk hz => ?_⟩
      have sm := po1.sr.mask hx (mask_lk (xs := xs))
      have q := unl_want po1.sr hx q
      let Pv : Nat → St → Hp → Prop := fun i σ' H' => ∃ F' ρ', PoS M F1 H1 σ (lk xs ρ1) F' H' σ' ρ' ∧ WantS M W F' H' σ' ρ' (loopS tg body (items.drop i) ρ') D
      refine ⟨fun i m σ' H' => m = items.length - i ∧ i ≤ items.length ∧ Pv i σ' H', ⟨items.length, by simp, Nat.zero_le _, F1, lk xs ρ1, .refl sm, q⟩, ?_⟩
      rintro i m σ2 H2 ⟨rfl, hi, F2, ρ2, po2, w2⟩
      have ods : OdRs M F2 H2 ds vs := ods_later po1.sr (sm.ext po2.stp) po2.sr rs e1 fun j t d hj ht top ed => by
        have z : gt (lk xs ρ1) j = some (.rd d) := by
          cases t with
          | val d' => cases top
          | own d' => cases ed; exact lk_own hj (.inl ht)
          | ref d' => cases ed; exact lk_own hj (.inr ht)
          | rd d' => cases ed; exact lk_rd xs ht
        exact (po2.kp.2 j).2.1 d z
      obtain ⟨w3, w4⟩ := wk i F2 H2 po2.sr.dom ods
      by_cases hlt : i < items.length
      · have ed : items[i]? = some items[i] := List.getElem?_eq_getElem hlt
        obtain ⟨go, yl⟩ := w4 _ ed
        refine .inr ⟨go, Pv (i + 1), fun σ' H' p' => ⟨items.length - (i + 1), by omega, rfl, hlt, p'⟩, fun x H' y => ?_⟩
        obtain ⟨F', nw, rx⟩ := yl x H' y
        rw [List.drop_eq_getElem_cons hlt] at w2
        unfold loopS at w2
        have pn := (nw.po po2.sr).s
        cases e3 : put tg items[i] ρ2 with
        | none => simp only [e3] at w2; exact w2.elim
        | some ρ3 =>
          simp only [e3] at w2
          refine put_run hx hK tg pn.sr rx e3 fun σ3 po3 _ _ => ⟨F', ρ3, po3.sr, ?_⟩
          have w3 := w2.step (pn.trans po3)
          cases e4 : body ρ3 with
          | nx ρ4 =>
            simp only [e4] at w3
            exact fun F4 H4 σ4 po4 => ⟨F4, ρ4, po2.trans (pn.trans (po3.trans po4)), w3.step po4⟩
          | ct ρ4 =>
            simp only [e4] at w3
            exact fun F4 H4 σ4 po4 => ⟨F4, ρ4, po2.trans (pn.trans (po3.trans po4)), w3.step po4⟩
          | bk ρ4 => simp only [e4] at w3; exact w3
          | rt r ρ4 => simp only [e4] at w3; exact w3
          | exc x ρ4 => simp only [e4] at w3; exact w3
          | bad => simp only [e4] at w3; exact w3
      · have e : i = items.length := by omega
        subst e
        rw [List.drop_length] at w2
        exact .inl ⟨w3 (Nat.le_refl _), w2 F2 H2 σ2 (.refl po2.sr)⟩
theorem s_for (g : G M cs W k X) {tg iter : Expr} {body : List Stmt} {pos : Pos} {src : Src} {T : Tg} {b : SS} (hi : PI X tg iter (tI M W src)) (hg : PG X tg (gT X.K T)) (hb : PSs X body (tS M W b)) (hs : ∀ x, foldedSetIterable iter X.env x = pure x) : PS X (.For tg iter body [] pos) (tS M W (forS src T b)) :=
  PS_imp (ps_for g.pass g.calm hi hg hb hs) fun D σ H h => for_run g.nx g.hK h
end
end VF

namespace VF
open PySem PySem.Spec PyProof.Rows L2

def mutS {α : Type} (i : Nat) (f : D → Option (α × D)) (ρ : En) : Option (α × En) := match gt ρ i with
  | some (.own d) => (match f d with
    | some (a, d') => some (a, ρ.set i (some (.own d')))
    | none => none)
  | some (.ref d) => (match f d with
    | some (a, d') => some (a, ρ.set i (some (.ref d')))
    | none => none)
  | _ => none
section
variable {M : Md} {F : Addr → Prop} {H : Hp} {σ : St} {ρ ρ' : En}
theorem mut_core (s : SR M F H σ ρ) {i : Nat} {t t' : Sl} {p : Addr} {u : HO} (e : gt ρ i = some t) (ht : (∃ d d', t = .own d ∧ t' = .own d') ∨ ∃ d d', t = .ref d ∧ t' = .ref d') (hv : gv σ i = some (.ref p)) (c : Cont M F H (fun w => w = u) t'.d) : Po M F H σ ρ F (upd H p u) (ρ.set i (some t')) := by
  have hi := gt_lt e
  have top : t.top = true := by rcases ht with ⟨d, d', rfl, rfl⟩ | ⟨d, d', rfl, rfl⟩ <;> rfl
  obtain ⟨b, u0, e1, nf, hp⟩ := s.top_at e top
  rw [hv] at e1
  cases e1
  have mut0 : Mut (some u0) := by
    obtain ⟨v, e2, r⟩ := s.slot i t e
    rw [hv] at e2
    cases e2
    rcases ht with ⟨d, d', rfl, rfl⟩ | ⟨d, d', rfl, rfl⟩ <;>
    · obtain ⟨a, e3, _, c0⟩ := r
      cases e3
      obtain ⟨w, hw, m⟩ := c0.some_of
      have hw : H p = some w := hw
      rw [hp] at hw
      cases hw
      exact m
  have x : Ext F H F (upd H p u) := by
    have ne : ∀ a, F a → a ≠ p := fun a f z => nf (by rw [← z]; exact f)
    refine ⟨fun _ h => h, fun a w f _ r => ?_, fun a o f _ q => by rw [upd_ne (ne a f)]; exact q, fun a vs r => ?_, fun a vs r => by rw [upd_ne fun z => by subst z; rw [r] at hp; cases hp; exact mut0]; exact r⟩
    · rcases r with r | ⟨o, r⟩
      · exact .inl (by rw [upd_ne (ne a f)]; exact r)
      · exact .inr ⟨o, by rw [upd_ne (ne a f)]; exact r⟩
    · have ne : a ≠ p := fun z => by
        subst z
        rcases r with r | ⟨o, r⟩
        · rw [r] at hp; cases hp; exact mut0
        · rw [r] at hp; cases hp; exact mut0
      rcases r with r | ⟨o, r⟩
      · exact .inl (by rw [upd_ne ne]; exact r)
      · exact .inr ⟨o, by rw [upd_ne ne]; exact r⟩
  have xt : ∀ P q, TabF F H P q → TabF F (upd H p u) P q := fun P q t => t.kept (fun _ h => h) fun a o f q _ => by rw [upd_ne (fun z => nf (by rw [← z]; exact f))]; exact q
  have at_p : (∃ d, t = .own d) ∧ OwnAt σ ρ p ∨ (∃ d, t = .ref d) ∧ RefAt σ ρ p := by
    rcases ht with ⟨d, d', rfl, rfl⟩ | ⟨d, d', rfl, rfl⟩
    · exact .inl ⟨⟨d, rfl⟩, i, d, e, hv⟩
    · exact .inr ⟨⟨d, rfl⟩, i, d, e, hv⟩
  have kp : Kp ρ (ρ.set i (some t')) := ⟨by rw [List.length_set], fun j => by
    by_cases hj : i = j
    · subst hj
      rw [gt_set_self hi, e]
      rcases ht with ⟨d, d', rfl, rfl⟩ | ⟨d, d', rfl, rfl⟩ <;> trivial
    · rw [gt_set_ne hj]; exact .refl _⟩
  refine ⟨⟨fun _ h => h, fun a o h1 h2 h3 => ?_, fun a h => ?_, fun a h => .inl h, fun a h => .inl (kp.own h), fun a h => kp.ref h⟩, ⟨by rw [List.length_set]; exact s.len, fun a h => ?_, fun j w h => ?_, fun j k w y a h1 h2 h3 h4 h5 h6 => ?_, s.xn.ext x xt⟩, kp⟩
  · have ne : a ≠ p := fun z => by
      subst z
      rcases at_p with ⟨_, z⟩ | ⟨_, z⟩
      · exact h2 z
      · exact h3 z
    rw [upd_ne ne]; exact .inl h1
  · by_cases ha : a = p
    · subst ha; rw [upd_same] at h; cases h
    · rw [upd_ne ha] at h; exact h
  · by_cases ha : a = p
    · subst ha; rw [upd_same]; exact fun z => by cases z
    · rw [upd_ne ha]; exact s.dom a h
  · by_cases hj : i = j
    · subst hj
      rw [gt_set_self hi] at h
      cases h
      refine ⟨.ref p, hv, ?_⟩
      have c' : Cont M F (upd H p u) (fun o => upd H p u p = some o) t'.d := c.mono x fun w (hw : w = u) => by rw [hw]; exact upd_same
      rcases ht with ⟨d, d', rfl, rfl⟩ | ⟨d, d', rfl, rfl⟩
      · exact ⟨p, rfl, nf, c'⟩
      · exact ⟨p, rfl, nf, c'⟩
    · rw [gt_set_ne hj] at h
      obtain ⟨v, ev, r⟩ := s.slot j w h
      refine ⟨v, ev, ?_⟩
      have ne : ∀ a, w.top = true → v = .ref a → a ≠ p := fun a hw ea z => by
        subst ea; subst z
        exact hj (s.dist i j t w a e h top hw hv ev)
      cases w with
      | val d => exact Rep.mono x d r
      | own d =>
        obtain ⟨a, rfl, na, c0⟩ := r
        exact ⟨a, rfl, na, c0.mono x fun o (ho : H a = some o) => by rw [upd_ne (ne a rfl rfl)]; exact ho⟩
      | ref d =>
        obtain ⟨a, rfl, na, c0⟩ := r
        exact ⟨a, rfl, na, c0.mono x fun o (ho : H a = some o) => by rw [upd_ne (ne a rfl rfl)]; exact ho⟩
      | rd d =>
        obtain ⟨a, rfl, na, c0⟩ := r
        exact ⟨a, rfl, na, c0.mono x fun o ho => ho.imp (fun z => by rw [upd_ne (ne a rfl rfl)]; exact z) fun ⟨q, z, y⟩ => ⟨q, by rw [upd_ne (ne a rfl rfl)]; exact z, y⟩⟩
  · obtain ⟨w', k1, k2⟩ := kp.top_of h1 h3
    obtain ⟨y', k3, k4⟩ := kp.top_of h2 h4
    exact s.dist j k w' y' a k1 k3 k2 k4 h5 h6
theorem mut_slot (s : SR M F H σ ρ) {α : Type} {i : Nat} {f : D → Option (α × D)} {a : α} (e : mutS i f ρ = some (a, ρ')) : ∃ p d d', gv σ i = some (.ref p) ∧ ¬ F p ∧ f d = some (a, d') ∧ Cont M F H (fun u => H p = some u) d ∧ ∀ u, Cont M F H (fun w => w = u) d' → Po M F H σ ρ F (upd H p u) ρ' := by
  unfold mutS at e
  split at e
  · rename_i d eq
    split at e
    · rename_i a' d' ef
      cases e
      obtain ⟨v, ev, p, rfl, nf, c⟩ := s.slot i _ eq
      exact ⟨p, d, d', ev, nf, ef, c, fun u cu => mut_core s eq (.inl ⟨d, d', rfl, rfl⟩) ev cu⟩
    · cases e
  · rename_i d eq
    split at e
    · rename_i a' d' ef
      cases e
      obtain ⟨v, ev, p, rfl, nf, c⟩ := s.slot i _ eq
      exact ⟨p, d, d', ev, nf, ef, c, fun u cu => mut_core s eq (.inr ⟨d, d', rfl, rfl⟩) ev cu⟩
    · cases e
  · cases e
end

/-! ### x[i] = v of a list, of a dict -/
def stD (v k : D) : D → Option (Unit × D)
  | .lst ds => match k with
    | .int j => (ixN ds.length j).map fun n => ((), .lst (ds.set n v))
    | _ => none
  | _ => none
def storeI (i : Nat) (ix : Opd) (φ : ES) : SS := fun ρ => (φ ρ).bindS fun r ρ1 => ((Opd.sl i).ev ρ1).bindS fun _ ρ1 => (ix.ev ρ1).bindS fun y ρ2 => match y.dat ρ2 with
  | some k => (match mutS i (stD r.d k) ρ2 with
    | some (_, ρ3) => .nx ρ3
    | none => .bad)
  | none => .bad
section
variable {M : Md} {cs : Cs} {W : WX} {k : Nat} {X : Cx}
theorem bindS_op {F : Addr → Prop} {H : Hp} {σ : St} {ρ : En} (s : SR M F H σ ρ) {o : Opd} {f : Ov → En → SO} {D : Ends} {Q' : VK} (h : WantS M W F H σ ρ ((o.ev ρ).bindS f) D)
    (k : ∀ x F1 H1 ρ1 v, Po M F H σ ρ F1 H1 ρ1 → OvR M F1 H1 σ x v → WantS M W F1 H1 σ ρ1 (f x ρ1) D → Q' v H1) : tO M W o σ H Q' :=
  op_run s ((bindS_want h).mono fun x F1 H1 ρ1 po q v rv => k x F1 H1 ρ1 v po rv (q.step po.s))
/-- a slot's value, then more -/
theorem bindS_sl {F : Addr → Prop} {H : Hp} {σ : St} {ρ : En} (s : SR M F H σ ρ) {i : Nat} {f : Ov → En → SO} {D : Ends} {Q' : VK} (h : WantS M W F H σ ρ (((Opd.sl i).ev ρ).bindS f) D)
    (k : ∀ t v, gt ρ i = some t → gv σ i = some v → SlR M F H t v → WantS M W F H σ ρ (f (.at i) ρ) D → Q' v H) : tVar i σ H Q' := by
  cases e : gt ρ i with
  | none => simp only [Opd.ev, e, Out.bindS] at h; exact h.elim
  | some t =>
    simp only [Opd.ev, e, Out.bindS] at h
    obtain ⟨v, hv, r⟩ := s.slot i t e
    exact ⟨v, gv_some hv, k t v e hv r h⟩
theorem bind_sl {F : Addr → Prop} {H : Hp} {σ : St} {ρ : En} (s : SR M F H σ ρ) {i : Nat} {β : Type} {f : Ov → En → Out β} {Q : β → (Addr → Prop) → Hp → En → Prop} {Q' : VK} (h : Want M W F H σ ρ (((Opd.sl i).ev ρ).bind f) Q)
    (k : ∀ t v, gt ρ i = some t → gv σ i = some v → SlR M F H t v → Want M W F H σ ρ (f (.at i) ρ) Q → Q' v H) : tVar i σ H Q' := by
  cases e : gt ρ i with
  | none => simp only [Opd.ev, e, Out.bind] at h; exact h.elim
  | some t =>
    simp only [Opd.ev, e, Out.bind] at h
    obtain ⟨v, hv, r⟩ := s.slot i t e
    exact ⟨v, gv_some hv, k t v e hv r h⟩
theorem RepL_set {M : Md} {F : Addr → Prop} {H : Hp} {d : D} {v : V} (r : Rep M F H d v) : ∀ {ds : List D} {vs : List V} (n : Nat), RepL M F H ds vs → RepL M F H (ds.set n d) (vs.set n v)
  | [], _, _, h => by unfold RepL at h; subst h; exact .nil
  | _ :: _, _, 0, h => by
    unfold RepL at h
    obtain ⟨w, q, rfl, p, l⟩ := h
    exact .cons r l
  | _ :: _, _, n + 1, h => by
    unfold RepL at h
    obtain ⟨w, q, rfl, p, l⟩ := h
    exact .cons p (RepL_set r n l)
/-! ### methods that change their object -/
def mutM (T : String) (f : List D → D → Option (D × D)) (i : Nat) (φs : List ES) : ES := fun ρ => ((Opd.sl i).ev ρ).bind fun x ρ0 => match x.dat ρ0 with
  | some d => if d.ty = some T then (evs (φs.map .ex) ρ0).bind fun xs ρ1 => (match vals xs with
    | some ds => (match mutS i (f ds) ρ1 with
      | some (r, ρ2) => .ok (.val r) ρ2
      | none => .bad)
    | none => .bad) else .bad
  | none => .bad
def rMu (M : Md) (f : List D → D → Option (D × D)) : V → List V → Hp → VK → Prop := fun x xs H Q => ∃ F p d ds r d', x = .ref p ∧ ¬ F p ∧ (∀ a, F a → H a ≠ none) ∧ Cont M F H (fun u => H p = some u) d ∧ RepL M F H ds xs ∧ f ds d = some (r, d') ∧
  ∀ u v, Cont M F H (fun w => w = u) d' → Rep M F H r v → Q v (upd H p u)
theorem mut_tab {F : Addr → Prop} {H : Hp} {p : Addr} {u : HO} (nf : ¬ F p) : ∀ P q, TabF F H P q → TabF F (upd H p u) P q := fun P q t => t.kept (fun _ h => h) fun a o f e _ => by rw [upd_ne (fun z => nf (by rw [← z]; exact f))]; exact e
theorem mut_ext {F : Addr → Prop} {H : Hp} {p : Addr} {u w : HO} (nf : ¬ F p) (hp : H p = some w) (hm : Mut (some w)) : Ext F H F (upd H p u) := by
  have ne : ∀ a, F a → a ≠ p := fun a f z => nf (by rw [← z]; exact f)
  refine ⟨fun _ h => h, fun a w f _ r => ?_, fun a o f _ q => by rw [upd_ne (ne a f)]; exact q, fun a vs r => ?_, fun a vs r => by rw [upd_ne fun z => by subst z; rw [r] at hp; cases hp; exact hm]; exact r⟩
  · rcases r with r | ⟨o, r⟩
    · exact .inl (by rw [upd_ne (ne a f)]; exact r)
    · exact .inr ⟨o, by rw [upd_ne (ne a f)]; exact r⟩
  · have ne : a ≠ p := fun z => by
      subst z
      rcases r with r | ⟨o, r⟩
      · rw [r] at hp; cases hp; exact hm
      · rw [r] at hp; cases hp; exact hm
    rcases r with r | ⟨o, r⟩
    · exact .inl (by rw [upd_ne ne]; exact r)
    · exact .inr ⟨o, by rw [upd_ne ne]; exact r⟩
theorem mutM_run {T : String} {f : List D → D → Option (D × D)} {i : Nat} {φs : List ES} {σ : St} {H : Hp} {Q : VK} (h : tE M W (mutM T f i φs) σ H Q) :
    tVar i σ H fun x H1 => ∃ F d, d.ty = some T ∧ OdR M F H1 d x ∧ tOs M W (φs.map .ex) σ H1 fun xs H2 => rMu M f x xs H2 Q := by
  obtain ⟨F, ρ, s, h⟩ := h
  refine bind_sl s h fun t v et ev r q => ?_
  have ed : Ov.dat ρ (.at i) = some t.d := by simp only [Ov.dat, et]; rfl
  simp only [ed] at q
  by_cases ht : t.d.ty = some T
  · rw [if_pos ht] at q
    refine ⟨F, t.d, ht, r.od, ops_run _ s ((Want.bind q).mono fun xs F1 H1 ρ1 po1 q1 vs rs => ?_)⟩
    have q1 := q1 po1
    cases e1 : vals xs with
    | none => simp only [e1] at q1; exact q1.elim
    | some ds =>
      simp only [e1] at q1
      cases e2 : mutS i (f ds) ρ1 with
      | none => simp only [e2] at q1; exact q1.elim
      | some z =>
        obtain ⟨rd, ρ2⟩ := z
        simp only [e2] at q1
        obtain ⟨p, d, d', ep, nf, ef, c, put⟩ := mut_slot po1.sr e2
        rw [ev] at ep
        cases ep
        refine ⟨F1, p, d, ds, rd, d', rfl, nf, po1.sr.dom, c, vals_rep e1 rs, ef, fun u w cu rw' => ?_⟩
        have po2 := put u cu
        exact q1 F1 _ po2 (po1.trans po2) w (Rep.mono (po2.ext po1.sr) _ rw')
  · rw [if_neg ht] at q
    exact q.elim
theorem e_mut (g : G M cs W k X) {i : Nat} {x name : Str} {e : Expr} {es : List Expr} {p1 apos cpos : Pos} {T id : String} {f : List D → D → Option (D × D)} {φs : List ES} (pa : PlainAttrs T) (slot : Slot T name id) (hty : typeOf (.builtin id) = pure (.type "method_descriptor")) (hm : MtR X id (rMu M f)) (hi : cs.N[i]? = some x) (hv : Vis cs.sc x) (hd : (x == ("__debug__" : Str)) = false) (hcd : (x == ("__classdict__" : Str)) = false) (ha : PA X (e :: es) (tOs M W (φs.map .ex)))
    (hbase : attributeBase (.Name x p1) name X.env (eval (.Name x p1) X.env) = eval (.Name x p1) X.env)
    (hfew : ((backTo cpos (starEach (e :: es) X.env)).all (fun x => !x.1) && (backToKw cpos (keywordEach [] X.env)).all (fun x => x.1.isSome)
      && decide ((e :: es).length + ([] : List Keyword).length + (if ([] : List Keyword).isEmpty then 0 else 1) < 30)) = true)
    (hline : (apos.endLine == cpos.line) = true) (hs : starEach (e :: es) X.env = (false, eval e X.env) :: starEach es X.env) (hplain : (backTo cpos (starEach es X.env)).any (·.1) = false) :
    PE X (.Call (.Attribute (.Name x p1) name apos) (e :: es) [] cpos) (tE M W (mutM T f i φs)) := by
  refine ⟨fun pins s σ H Q I h => ?_⟩
  refine wpAny_Call_method_late hbase hfew hline rfl (thn ((pe_var (by rw [g.hN]; exact hi) (g.vis hv) hd hcd).run pins s σ H _ I (mutM_run h)) fun v s1 ⟨x, H1, I1, r1, F, d, ht, od, q1⟩ => ?_)
  obtain ⟨h1, h2⟩ := od_type I1 g.hK od r1 ht
  refine ⟨T, id, pa, slot, hty, h1, h2, ?_⟩
  have hA := ha.run cpos pins s1 σ H1 _ I1 q1
  rw [hs] at hA ⊢
  refine Calls.callWith_builtin (by show (false || (backTo cpos (starEach es X.env)).any (·.1)) = false; rw [hplain] <;> rfl) (Calls.evalArgs_plain ?_)
  exact thn hA fun us s2 ⟨vs, H2, I2, r2, q2⟩ => hm pins s2 σ H2 x vs v us Q I2 r1 r2 q2
def mAppend : List D → D → Option (D × D)
  | [y], .lst ds => if ds.length < sizeLine then some (.non, .lst (ds ++ [y])) else none
  | _, _ => none
theorem m_append : MtR X "list.append" (rMu M mAppend) := fun pins s σ H x xs v us Q I r1 r2 h => by
  obtain ⟨F, p, d, ds, r, d', rfl, nf, hd, c, l, ef, q⟩ := h
  unfold mAppend at ef
  split at ef
  · split at ef
    · rename_i hz
      cases ef
      obtain ⟨vs, hp, lv⟩ := c
      unfold RepL at l
      obtain ⟨y, w, rfl, ry, l⟩ := l
      unfold RepL at l
      subst l
      refine mt_append pins s σ H _ _ v us Q I r1 r2 ⟨p, vs, y, rfl, rfl, hp, by rw [← lv.length]; exact hz, q _ _ ⟨_, rfl, lv.append (.cons ry .nil)⟩ (by unfold Rep; rfl)⟩
    · cases ef
  · cases ef
def mPop : List D → D → Option (D × D)
  | [], .lst ds => (ds[ds.length - 1]?).map fun y => (y, .lst ds.dropLast)
  | [.int i], .lst ds => if -(2 ^ 63) ≤ i ∧ i < 2 ^ 63 then (match seqIndex? i ds.length with
    | some k => (ds[k]?).map fun y => (y, .lst (ds.eraseIdx k))
    | none => none) else none
  | _, _ => none
theorem RepL.dropLast : ∀ {ds : List D} {vs : List V} {F : Addr → Prop} {H : Hp}, RepL M F H ds vs → RepL M F H ds.dropLast vs.dropLast
  | [], _, _, _, h => by unfold RepL at h; subst h; exact .nil
  | [_], _, _, _, h => by
    unfold RepL at h
    obtain ⟨v, r, rfl, p, l⟩ := h
    unfold RepL at l
    subst l
    exact .nil
  | _ :: e :: ds, _, _, _, h => by
    unfold RepL at h
    obtain ⟨v, r, rfl, p, l⟩ := h
    have l' := l
    unfold RepL at l
    obtain ⟨w, r', rfl, p', l⟩ := l
    exact .cons p (RepL.dropLast l')
theorem RepL.eraseIdx : ∀ (n : Nat) {ds : List D} {vs : List V} {F : Addr → Prop} {H : Hp}, RepL M F H ds vs → RepL M F H (ds.eraseIdx n) (vs.eraseIdx n)
  | _, [], _, _, _, h => by unfold RepL at h; subst h; exact .nil
  | 0, _ :: _, _, _, _, h => by
    unfold RepL at h
    obtain ⟨v, r, rfl, p, l⟩ := h
    exact l
  | n + 1, _ :: _, _, _, _, h => by
    unfold RepL at h
    obtain ⟨v, r, rfl, p, l⟩ := h
    exact .cons p (RepL.eraseIdx n l)
theorem m_pop : MtR X "list.pop" (rMu M mPop) := fun pins s σ H x xs v us Q I r1 r2 h => by
  obtain ⟨F, p, d, ds, r, d', rfl, nf, hd, c, l, ef, q⟩ := h
  unfold mPop at ef
  split at ef
  · obtain ⟨y, ey, e2⟩ := Option.map_eq_some_iff.mp ef
    cases e2
    obtain ⟨vs, hp, lv⟩ := c
    unfold RepL at l
    subst l
    obtain ⟨w, hw, rw'⟩ := RepL.get lv ey
    rw [lv.length] at hw
    exact mt_pop pins s σ H _ _ v us Q I r1 r2 ⟨p, vs, w, rfl, rfl, hp, hw, q _ _ ⟨_, rfl, lv.dropLast⟩ rw'⟩
  · split at ef
    · rename_i hz
      split at ef
      · rename_i kk hk
        obtain ⟨y, ey, e2⟩ := Option.map_eq_some_iff.mp ef
        cases e2
        obtain ⟨vs, hp, lv⟩ := c
        unfold RepL at l
        obtain ⟨z, w, rfl, rz, l⟩ := l
        unfold RepL at l
        subst l
        unfold Rep at rz
        subst rz
        obtain ⟨w, hw, rw'⟩ := RepL.get lv ey
        exact mt_popAt pins s σ H _ _ v us Q I r1 r2 ⟨p, vs, _, kk, w, rfl, rfl, hp, hz.1, hz.2, by rw [← lv.length]; exact hk, hw, q _ _ ⟨_, rfl, lv.eraseIdx kk⟩ rw'⟩
      · cases ef
    · cases ef
  · cases ef
end
end VF

namespace VF
open PySem PySem.Spec PyProof.Rows L2

inductive FO where
  | ok (r : Rv) (outs : List Sl)
  | exc (x : Ex) (outs : List Sl)
  | bad
abbrev FSem := List Sl → FO
def WantF (M : Md) (F : Addr → Prop) (H : Hp) (σ : St) (ρ : En) (o : FO) (Q : VK) (E : XK) : Prop := match o with
  | .ok r outs => ∀ F' H' v, Po M F H σ ρ F' H' (outs.map some) → RvR M H F' H' r v → Q v H'
  | .exc x outs => ∀ F' H' cls d, Po M F H σ ρ F' H' (outs.map some) → ExR M F' H' x cls d → E cls d H'
  | .bad => False
def noOwn : Sl → Bool
  | .own _ => false
  | _ => true
/-- what a def promises -/
def spF (M : Md) (np : Nat) (φ : FSem) : Sp := fun vs H Q E => vs.length = np ∧ ∃ F sls, SR M F H (vs.map some) (sls.map some) ∧ sls.all noOwn = true ∧ WantF M F H (vs.map some) (sls.map some) (φ sls) Q E

/-! ### from the body -/
def finA (sls : List Sl) (ρ : En) : List Sl := sls.mapIdx fun i s => match s with
  | .ref d => (match gt ρ i with
    | some (.ref d') => .ref d'
    | _ => .ref d)
  | s => s
def fnS (n : Nat) (b : SS) : FSem := fun sls => match b (sls.map some ++ List.replicate (n - sls.length) none) with
  | .nx ρ => .ok (.val .non) (finA sls ρ)
  | .rt r ρ => .ok r (finA sls ρ)
  | .exc x ρ => .exc x (finA sls ρ)
  | _ => .bad
theorem gt_map {sls : List Sl} {i : Nat} : gt (sls.map some) i = sls[i]? := by
  unfold gt
  rw [List.getElem?_map]
  cases sls[i]? <;> rfl
theorem gv_map {vs : List V} {i : Nat} : gv (vs.map some) i = vs[i]? := by
  unfold gv
  rw [List.getElem?_map]
  cases vs[i]? <;> rfl
theorem gt_pad {ρ : En} {n i : Nat} : gt (ρ ++ List.replicate n none) i = gt ρ i := by
  unfold gt
  by_cases h : i < ρ.length
  · rw [List.getElem?_append_left h]
  · rw [List.getElem?_append_right (by omega), List.getElem?_eq_none (show ρ.length ≤ i by omega), List.getElem?_replicate]
    split <;> rfl
theorem gv_pad {ρ : St} {n i : Nat} : gv (ρ ++ List.replicate n none) i = gv ρ i := by
  unfold gv
  by_cases h : i < ρ.length
  · rw [List.getElem?_append_left h]
  · rw [List.getElem?_append_right (by omega), List.getElem?_eq_none (show ρ.length ≤ i by omega), List.getElem?_replicate]
    split <;> rfl
section
variable {M : Md} {F F' : Addr → Prop} {H H' : Hp}
theorem noOwn_at {sls : List Sl} (h : sls.all noOwn = true) {i : Nat} {d : D} : sls[i]? ≠ some (.own d) := fun e => by
  have z := List.all_eq_true.mp h _ (List.mem_of_getElem? e)
  cases z
/-- a frame's start -/
theorem SR.pad {σ : St} {ρ : En} (s : SR M F H σ ρ) (n : Nat) : SR M F H (σ ++ List.replicate n none) (ρ ++ List.replicate n none) :=
  ⟨by simp [s.len], s.dom, fun i t h => by rw [gt_pad] at h; rw [gv_pad]; exact s.slot i t h, fun i j t u a h1 h2 h3 h4 h5 h6 => by
    rw [gt_pad] at h1 h2; rw [gv_pad] at h5 h6; exact s.dist i j t u a h1 h2 h3 h4 h5 h6, s.xn.at fun t _ => gv_pad⟩
/-- behind a body, by the arguments -/
theorem fin_po (hx : M.xn = none) {vs : List V} {sls : List Sl} {n : Nat} {σ' : St} {ρ' : En} (s : SR M F H (vs.map some) (sls.map some)) (hno : sls.all noOwn = true)
    (po : PoS M F H (vs.map some ++ List.replicate n none) (sls.map some ++ List.replicate n none) F' H' σ' ρ') : Po M F H (vs.map some) (sls.map some) F' H' ((finA sls ρ').map some) ∧ ∀ a, ¬ OwnAt (vs.map some ++ List.replicate n none) (sls.map some ++ List.replicate n none) a := by
  have no : ∀ a, ¬ OwnAt (vs.map some ++ List.replicate n none) (sls.map some ++ List.replicate n none) a := fun a ⟨i, d, h1, h2⟩ => by
    rw [gt_pad, gt_map] at h1
    exact noOwn_at hno h1
  have x : Ext F H F' H' := (s.pad n).ext po.stp
  have rf : ∀ {a}, RefAt (vs.map some ++ List.replicate n none) (sls.map some ++ List.replicate n none) a → RefAt (vs.map some) (sls.map some) a := fun ⟨i, d, h1, h2⟩ => by
    rw [gt_pad] at h1; rw [gv_pad] at h2
    exact ⟨i, d, h1, h2⟩
  have rf' : ∀ {a}, RefAt (vs.map some) (sls.map some) a → RefAt (vs.map some ++ List.replicate n none) (sls.map some ++ List.replicate n none) a := fun ⟨i, d, h1, h2⟩ => ⟨i, d, by rw [gt_pad]; exact h1, by rw [gv_pad]; exact h2⟩
  -- slot by slot
  have kp : Kp (sls.map some) ((finA sls ρ').map some) := by
    refine ⟨by simp [finA], fun i => ?_⟩
    rw [gt_map, gt_map]
    unfold finA
    rw [List.getElem?_mapIdx]
    cases e : sls[i]? with
    | none => trivial
    | some t =>
      cases t with
      | val d => exact rfl
      | own d => exact absurd e (noOwn_at hno)
      | rd d => exact rfl
      | ref d =>
        simp only [Option.map_some]
        split <;> trivial
  have noO : ∀ a, ¬ OwnAt (vs.map some) ((finA sls ρ').map some) a := fun a h => by
    obtain ⟨i, d, h1, _⟩ := kp.own h
    rw [gt_map] at h1
    exact noOwn_at hno h1
  refine ⟨⟨⟨x.fro, fun a o h1 h2 h3 => po.stp.keep a o h1 (no a) fun z => h3 (rf z), po.stp.dom, fun a h => ?_, fun a h => absurd h (noO a), fun a h => kp.ref h⟩, ⟨by simp [finA]; simpa using s.len, po.sr.dom, fun i t h => ?_, fun i j t u a h1 h2 h3 h4 h5 h6 => ?_, .no hx po.sr.xn.2⟩, kp⟩, no⟩
  · rcases po.stp.new a h with z | z | z
    · exact .inl z
    · exact .inr (.inl z)
    · exact absurd z (no a)
  · rw [gt_map] at h
    unfold finA at h
    rw [List.getElem?_mapIdx] at h
    obtain ⟨t0, e0, e1⟩ := Option.map_eq_some_iff.mp h
    have g0 : gt (sls.map some) i = some t0 := by rw [gt_map]; exact e0
    have g0' : gt (sls.map some ++ List.replicate n none) i = some t0 := by rw [gt_pad]; exact g0
    obtain ⟨v, hv, r⟩ := s.slot i t0 g0
    refine ⟨v, hv, ?_⟩
    have hv' : gv (vs.map some ++ List.replicate n none) i = some v := by rw [gv_pad]; exact hv
    cases t0 with
    | val d => cases e1; exact Rep.mono x d r
    | own d => exact absurd e0 (noOwn_at hno)
    | rd d =>
      cases e1
      obtain ⟨k1, k2⟩ := (po.kp.2 i).2.1 d g0'
      obtain ⟨w, hw, rw'⟩ := po.sr.slot i _ k1
      rw [k2, hv'] at hw
      cases hw
      exact rw'
    | ref d =>
      obtain ⟨⟨d', k1⟩, k2⟩ := (po.kp.2 i).1 d g0'
      simp only [k1] at e1
      cases e1
      obtain ⟨w, hw, rw'⟩ := po.sr.slot i _ k1
      rw [k2, hv'] at hw
      cases hw
      exact rw'
  · obtain ⟨t', k1, k2⟩ := kp.top_of h1 h3
    obtain ⟨u', k3, k4⟩ := kp.top_of h2 h4
    exact s.dist i j t' u' a k1 k3 k2 k4 h5 h6
/-- a body that runs keeps the promise -/
theorem body_run (hx : M.xn = none) {b : SS} {N : List Str} {np : Nat} {vs : List V} {Q : VK} {E : XK} (h : spF M np (fnS N.length b) vs H Q E) : tS M (fun cls d _ H => E cls d H) b { nx := fun _ H' => Q .non H', rt := Q } (start N vs) H := by
  obtain ⟨hl, F, sls, s, hno, w⟩ := h
  have e : sls.length = vs.length := by have := s.len; simpa using this.symm
  refine ⟨F, sls.map some ++ List.replicate (N.length - sls.length) none, by unfold L2.start; rw [e]; exact s.pad _, ?_⟩
  unfold L2.start
  rw [e]
  unfold fnS at w
  rw [e] at w
  cases eb : b (sls.map some ++ List.replicate (N.length - vs.length) none) with
  | nx ρ' =>
    simp only [eb] at w
    intro F' H' σ' po
    obtain ⟨po', _⟩ := fin_po hx s hno po
    exact w F' H' .non po' (by show Rep M F' H' .non .non; unfold Rep; rfl)
  | rt r ρ' =>
    simp only [eb] at w
    intro F' H' σ' v po rt
    obtain ⟨po', no⟩ := fin_po hx s hno po
    refine w F' H' v po' ?_
    cases r with
    | val d => exact rt
    | own d =>
      obtain ⟨a, e, nf, z, c⟩ := rt
      exact ⟨a, e, nf, z.elim id fun z => absurd z (no a), c⟩
  | exc x ρ' =>
    simp only [eb] at w
    intro F' H' σ' cls d po xr
    obtain ⟨po', _⟩ := fin_po hx s hno po
    exact w F' H' cls d po' xr
  | bk ρ' => simp only [eb] at w; exact w.elim
  | ct ρ' => simp only [eb] at w; exact w.elim
  | bad => simp only [eb] at w; exact w.elim
end

/-- a def as its callers see it: np parameters, the written part of the defaults dd behind them -/
structure FnV (M : Md) (k : Nat) (x : Str) (np : Nat) (φ : FSem) : Prop where
  ex : ∃ f fd ps, FnOk M.P M.w M.K M.mg M.base (CX M.P M.w) k f fd ps (spF M np φ) ∧ M.mg x = some (.ref f) ∧ PySem.W.keepIn M.K (.ref f) = true ∧ ps.length = np ∧ Binds M.K fd ps []
/-- the rule of a def -/
theorem fn_ok {M : Md} (hx : M.xn = none) {k : Nat} {x qual : Str} {params : Arguments} {body : List Stmt} {scope : Scope} {kws : List (Str × V)} {dvs : List V} {f : Addr} {fd : FuncData} {N ps : List Str} {b : SS} (F : FunD M.K x qual params body scope dvs kws f fd) (S : FnScope N ps scope)
    (hb : ∀ X W, G M ⟨N, scope, fun _ => true⟩ W k X → PSs X body (tS M W b)) : FnOk M.P M.w M.K M.mg M.base (CX M.P M.w) (k + 1) f fd ps (spF M ps.length (fnS N.length b)) := by
  refine F.ok S (fun vs H Q E h => h.1) fun cdv A outer s H vs Q E hr hsp => ?_
  refine ⟨_, hb _ (fun cls d _ H => E cls d H) ⟨⟨rfl, rfl, rfl, rfl, rfl, rfl, S.nd, rfl, rfl, hr.un⟩, rfl, takes_of rfl rfl rfl rfl, hr, passes_of rfl, hx⟩, body_run hx hsp⟩

/-! ### calls -/
def slO (ρ : En) : Ov → Option Sl
  | .val d => some (.val d)
  | .at i => match gt ρ i with
    | some (.own d) => some (.ref d)
    | t => t
def slOs (ρ : En) : List Ov → Option (List Sl)
  | [] => some []
  | x :: xs => match slO ρ x, slOs ρ xs with
    | some s, some ss => some (s :: ss)
    | _, _ => none
def isTop (ρ : En) (i : Nat) : Bool := match gt ρ i with
  | some t => t.top
  | none => false
def tpI (ρ : En) : List Ov → List Nat
  | [] => []
  | .val _ :: xs => tpI ρ xs
  | .at i :: xs => if isTop ρ i then i :: tpI ρ xs else tpI ρ xs
def ndB : List Nat → Bool
  | [] => true
  | i :: r => !r.contains i && ndB r
def look : List Ov → List Sl → Nat → Option D
  | .at i :: xs, .ref d :: ss, j => if i = j then some d else look xs ss j
  | _ :: xs, _ :: ss, j => look xs ss j
  | _, _, _ => none
def bk1 (xs : List Ov) (outs : List Sl) (j : Nat) : Option Sl → Option Sl
  | some (.own d) => (match look xs outs j with
    | some d' => some (.own d')
    | none => some (.own d))
  | some (.ref d) => (match look xs outs j with
    | some d' => some (.ref d')
    | none => some (.ref d))
  | t => t
def back (xs : List Ov) (outs : List Sl) (ρ : En) : En := ρ.mapIdx (bk1 xs outs)
def callF (φ : FSem) (os : List Opd) (dd : List D) : ES := fun ρ => (evs os ρ).bind fun xs0 ρ1 => match slOs ρ1 (xs0 ++ dd.map .val) with
  | some sls => if ndB (tpI ρ1 (xs0 ++ dd.map .val)) = true then (match φ sls with
    | .ok r outs => .ok r (back (xs0 ++ dd.map .val) outs ρ1)
    | .exc x outs => .exc x (back (xs0 ++ dd.map .val) outs ρ1)
    | .bad => .bad) else .bad
  | none => .bad
theorem slOs_get {ρ : En} : ∀ {xs : List Ov} {sls : List Sl} {i : Nat} {s : Sl}, slOs ρ xs = some sls → sls[i]? = some s → ∃ x, xs[i]? = some x ∧ slO ρ x = some s
  | [], _, _, _, e, h => by cases e; cases h
  | x :: xs, sls, i, s, e, h => by
    unfold slOs at e
    cases e1 : slO ρ x with
    | none => rw [e1] at e; cases e
    | some t =>
      cases e2 : slOs ρ xs with
      | none => rw [e1, e2] at e; cases e
      | some ss =>
        rw [e1, e2] at e
        cases e
        cases i with
        | zero => cases h; exact ⟨x, rfl, e1⟩
        | succ i => exact slOs_get (i := i) e2 h
theorem slOs_get' {ρ : En} : ∀ {xs : List Ov} {sls : List Sl} {i : Nat} {x : Ov}, slOs ρ xs = some sls → xs[i]? = some x → ∃ s, sls[i]? = some s ∧ slO ρ x = some s
  | [], _, _, _, e, h => by cases h
  | y :: xs, sls, i, x, e, h => by
    unfold slOs at e
    cases e1 : slO ρ y with
    | none => rw [e1] at e; cases e
    | some t =>
      cases e2 : slOs ρ xs with
      | none => rw [e1, e2] at e; cases e
      | some ss =>
        rw [e1, e2] at e
        cases e
        cases i with
        | zero => cases h; exact ⟨t, rfl, e1⟩
        | succ i => exact slOs_get' (i := i) e2 h
theorem slOs_length {ρ : En} : ∀ {xs : List Ov} {sls : List Sl}, slOs ρ xs = some sls → sls.length = xs.length
  | [], _, e => by cases e; rfl
  | y :: xs, sls, e => by
    unfold slOs at e
    cases e1 : slO ρ y with
    | none => rw [e1] at e; cases e
    | some t =>
      cases e2 : slOs ρ xs with
      | none => rw [e1, e2] at e; cases e
      | some ss =>
        rw [e1, e2] at e
        cases e
        simp [slOs_length e2]
theorem OvRs.get {M : Md} {F : Addr → Prop} {H : Hp} {σ : St} : ∀ {xs : List Ov} {vs : List V} {i : Nat} {x : Ov}, OvRs M F H σ xs vs → xs[i]? = some x → ∃ v, vs[i]? = some v ∧ OvR M F H σ x v
  | [], _, _, _, _, h => by cases h
  | _ :: _, _, 0, _, ⟨v, r, e, p, q⟩, h => by cases h; subst e; exact ⟨v, rfl, p⟩
  | _ :: xs, _, i + 1, _, ⟨v, r, e, p, q⟩, h => by subst e; exact OvRs.get (i := i) q h
theorem OvRs.length {M : Md} {F : Addr → Prop} {H : Hp} {σ : St} : ∀ {xs : List Ov} {vs : List V}, OvRs M F H σ xs vs → vs.length = xs.length
  | [], _, h => by cases h; rfl
  | _ :: _, _, ⟨v, r, e, p, q⟩ => by subst e; simp [OvRs.length q]
theorem tp_mem {ρ : En} {p : Nat} (ht : isTop ρ p = true) : ∀ {xs : List Ov} {j : Nat}, xs[j]? = some (.at p) → p ∈ tpI ρ xs
  | [], _, h => by cases h
  | .val _ :: xs, 0, h => by cases h
  | .val _ :: xs, j + 1, h => tp_mem ht (xs := xs) (j := j) h
  | .at i :: xs, 0, h => by
    cases h
    unfold tpI
    rw [if_pos ht]
    exact List.mem_cons_self
  | .at i :: xs, j + 1, h => by
    unfold tpI
    have z := tp_mem ht (xs := xs) (j := j) h
    split
    · exact List.mem_cons_of_mem _ z
    · exact z
theorem tp_inj {ρ : En} {p : Nat} (ht : isTop ρ p = true) : ∀ {xs : List Ov} {i j : Nat}, ndB (tpI ρ xs) = true → xs[i]? = some (.at p) → xs[j]? = some (.at p) → i = j
  | [], _, _, _, h, _ => by cases h
  | .val _ :: xs, 0, _, _, h, _ => by cases h
  | .val _ :: xs, _ + 1, 0, _, _, h => by cases h
  | .val _ :: xs, i + 1, j + 1, nd, h, h' => congrArg Nat.succ (tp_inj ht (xs := xs) nd h h')
  | .at q :: xs, 0, 0, _, _, _ => rfl
  | .at q :: xs, 0, j + 1, nd, h, h' => by
    cases h
    unfold tpI at nd
    rw [if_pos ht] at nd
    unfold ndB at nd
    have z := tp_mem ht (xs := xs) (j := j) h'
    simp at nd
    exact absurd z nd.1
  | .at q :: xs, i + 1, 0, nd, h, h' => by
    cases h'
    unfold tpI at nd
    rw [if_pos ht] at nd
    unfold ndB at nd
    have z := tp_mem ht (xs := xs) (j := i) h
    simp at nd
    exact absurd z nd.1
  | .at q :: xs, i + 1, j + 1, nd, h, h' => by
    refine congrArg Nat.succ (tp_inj ht (xs := xs) ?_ h h')
    unfold tpI at nd
    split at nd
    · unfold ndB at nd
      simp at nd
      exact nd.2
    · exact nd
theorem look_some {j : Nat} {d : D} : ∀ {xs : List Ov} {ss : List Sl}, look xs ss j = some d → ∃ i : Nat, xs[i]? = some (Ov.at j) ∧ ss[i]? = some (Sl.ref d)
  | [], _, h => by unfold look at h; cases h
  | x :: xs, [], h => by unfold look at h; cases x <;> cases h
  | .val _ :: xs, s :: ss, h => by
    unfold look at h
    obtain ⟨i, h1, h2⟩ := look_some h
    exact ⟨i + 1, h1, h2⟩
  | .at q :: xs, .val _ :: ss, h => by
    unfold look at h
    obtain ⟨i, h1, h2⟩ := look_some h
    exact ⟨i + 1, h1, h2⟩
  | .at q :: xs, .own _ :: ss, h => by
    unfold look at h
    obtain ⟨i, h1, h2⟩ := look_some h
    exact ⟨i + 1, h1, h2⟩
  | .at q :: xs, .rd _ :: ss, h => by
    unfold look at h
    obtain ⟨i, h1, h2⟩ := look_some h
    exact ⟨i + 1, h1, h2⟩
  | .at q :: xs, .ref d' :: ss, h => by
    unfold look at h
    split at h
    · rename_i e
      cases h
      subst e
      exact ⟨0, rfl, rfl⟩
    · obtain ⟨i, h1, h2⟩ := look_some h
      exact ⟨i + 1, h1, h2⟩
theorem look_none {j : Nat} : ∀ {xs : List Ov} {ss : List Sl} {i : Nat} {d : D}, look xs ss j = none → xs[i]? = some (.at j) → ss[i]? ≠ some (.ref d)
  | [], _, _, _, _, h => by cases h
  | x :: xs, [], _, _, _, _ => by simp
  | x :: xs, s :: ss, 0, d, h, h1 => by
    cases h1
    intro h2
    cases h2
    unfold look at h
    rw [if_pos rfl] at h
    cases h
  | x :: xs, s :: ss, i + 1, d, h, h1 => by
    refine look_none (xs := xs) (ss := ss) (i := i) (d := d) ?_ h1
    cases x with
    | val _ => unfold look at h; exact h
    | «at» q =>
      cases s with
      | ref d' =>
        unfold look at h
        split at h
        · cases h
        · exact h
      | val _ => unfold look at h; exact h
      | own _ => unfold look at h; exact h
      | rd _ => unfold look at h; exact h
section
variable {M : Md} {F F' : Addr → Prop} {H H' : Hp} {σ : St} {ρ : En} {xs : List Ov} {vs : List V} {sls : List Sl}
/-- a top argument is a top slot -/
theorem slO_top {x : Ov} {s : Sl} (e : slO ρ x = some s) (ht : s.top = true) : ∃ p t, x = .at p ∧ gt ρ p = some t ∧ t.top = true ∧ t.d = s.d ∧ ((∃ d, s = .rd d) → t = s) ∧ ((∃ d, s = .ref d) → t = .own s.d ∨ t = .ref s.d) := by
  cases x with
  | val d => cases e; cases ht
  | «at» p =>
    unfold slO at e
    cases e1 : gt ρ p with
    | none => simp only [e1] at e; cases e
    | some t =>
      refine ⟨p, t, rfl, e1, ?_⟩
      cases t with
      | val d => simp only [e1] at e; cases e; cases ht
      | own d => simp only [e1] at e; cases e; exact ⟨rfl, rfl, fun ⟨_, z⟩ => (by cases z), fun _ => .inl rfl⟩
      | ref d => simp only [e1] at e; cases e; exact ⟨rfl, rfl, fun ⟨_, z⟩ => (by cases z), fun _ => .inr rfl⟩
      | rd d => simp only [e1] at e; cases e; exact ⟨rfl, rfl, fun _ => rfl, fun ⟨_, z⟩ => (by cases z)⟩
theorem args_sr (hx : M.xn = none) (s : SR M F H σ ρ) (rs : OvRs M F H σ xs vs) (e : slOs ρ xs = some sls) (nd : ndB (tpI ρ xs) = true) : SR M F H (vs.map some) (sls.map some) ∧ sls.all noOwn = true := by
  refine ⟨⟨by simp [rs.length, slOs_length e], s.dom, fun i t h => ?_, fun i j t u a h1 h2 h3 h4 h5 h6 => ?_, .no hx s.xn.2⟩, List.all_eq_true.mpr fun t ht => ?_⟩
  · rw [gt_map] at h
    rw [gv_map]
    obtain ⟨x, h1, h2⟩ := slOs_get e h
    obtain ⟨v, h3, h4⟩ := rs.get h1
    refine ⟨v, h3, ?_⟩
    cases x with
    | val d => cases h2; exact h4
    | «at» p =>
      have h4 : gv σ p = some v := h4
      unfold slO at h2
      cases e1 : gt ρ p with
      | none => simp only [e1] at h2; cases h2
      | some t0 =>
        obtain ⟨w, hw, r⟩ := s.slot p t0 e1
        rw [h4] at hw
        cases hw
        cases t0 with
        | val d => simp only [e1] at h2; cases h2; exact r
        | own d => simp only [e1] at h2; cases h2; exact r
        | ref d => simp only [e1] at h2; cases h2; exact r
        | rd d => simp only [e1] at h2; cases h2; exact r
  · rw [gt_map] at h1 h2
    rw [gv_map] at h5 h6
    obtain ⟨x, k1, k2⟩ := slOs_get e h1
    obtain ⟨y, k3, k4⟩ := slOs_get e h2
    obtain ⟨p, t0, rfl, g1, g2, _⟩ := slO_top k2 h3
    obtain ⟨q, u0, rfl, g3, g4, _⟩ := slO_top k4 h4
    obtain ⟨v, l1, l2⟩ := rs.get k1
    obtain ⟨w, l3, l4⟩ := rs.get k3
    rw [h5] at l1
    rw [h6] at l3
    cases l1
    cases l3
    have epq := s.dist p q t0 u0 a g1 g3 g2 g4 l2 l4
    subst epq
    exact tp_inj (by unfold isTop; rw [g1]; exact g2) nd k1 k3
  · obtain ⟨i, hi⟩ := List.getElem?_of_mem ht
    obtain ⟨x, h1, h2⟩ := slOs_get e hi
    cases x with
    | val d => cases h2; rfl
    | «at» p =>
      unfold slO at h2
      cases e1 : gt ρ p with
      | none => simp only [e1] at h2; cases h2
      | some t0 => cases t0 with
        | val d => simp only [e1] at h2; cases h2; rfl
        | own d => simp only [e1] at h2; cases h2; rfl
        | ref d => simp only [e1] at h2; cases h2; rfl
        | rd d => simp only [e1] at h2; cases h2; rfl
theorem back_po (hx : M.xn = none) (s : SR M F H σ ρ) (rs : OvRs M F H σ xs vs) (e : slOs ρ xs = some sls) (nd : ndB (tpI ρ xs) = true) {outs : List Sl} (po : Po M F H (vs.map some) (sls.map some) F' H' (outs.map some)) : Po M F H σ ρ F' H' (back xs outs ρ) := by
  obtain ⟨sa, hno⟩ := args_sr hx s rs e nd
  have x : Ext F H F' H' := sa.ext po.stp
  have no : ∀ a, ¬ OwnAt (vs.map some) (sls.map some) a := fun a ⟨i, d, h1, _⟩ => by
    rw [gt_map] at h1
    exact noOwn_at hno h1
  -- what is passed to be changed is one's own or a caller's
  have rf : ∀ {a}, RefAt (vs.map some) (sls.map some) a → ∃ p t, ∃ i : Nat, xs[i]? = some (Ov.at p) ∧ gt ρ p = some t ∧ (∃ d, t = .own d ∨ t = .ref d) ∧ gv σ p = some (.ref a) := fun {a} ⟨i, d, h1, h2⟩ => by
    rw [gt_map] at h1
    rw [gv_map] at h2
    obtain ⟨y, k1, k2⟩ := slOs_get e h1
    obtain ⟨p, t, rfl, g1, g2, g3, _, g5⟩ := slO_top k2 rfl
    obtain ⟨v, l1, l2⟩ := rs.get k1
    rw [h2] at l1
    cases l1
    exact ⟨p, t, i, k1, g1, ⟨_, g5 ⟨d, rfl⟩⟩, l2⟩
  have gb : ∀ j, gt (back xs outs ρ) j = bk1 xs outs j (gt ρ j) := fun j => by
    unfold gt back
    rw [List.getElem?_mapIdx]
    cases ρ[j]? with
    | none => rfl
    | some t => rfl
  have kp : Kp ρ (back xs outs ρ) := by
    refine ⟨by simp [back], fun j => ?_⟩
    rw [gb]
    cases e1 : gt ρ j with
    | none => trivial
    | some t =>
      cases t with
      | val d => exact rfl
      | rd d => exact rfl
      | own d => unfold bk1; dsimp only; split <;> trivial
      | ref d => unfold bk1; dsimp only; split <;> trivial
  have nr : ∀ j t a, gt ρ j = some t → t.top = true → gv σ j = some (.ref a) → (∀ i : Nat, xs[i]? = some (Ov.at j) → ∃ d, t = .rd d) → ¬ RefAt (vs.map some) (sls.map some) a := fun j t a h1 h2 h3 h4 z => by
    obtain ⟨p, t', i, k1, k2, ⟨d, k3⟩, k4⟩ := rf z
    have top' : t'.top = true := by rcases k3 with rfl | rfl <;> rfl
    have ep := s.dist p j t' t a k2 h1 top' h2 k4 h3
    subst ep
    rw [h1] at k2
    cases k2
    obtain ⟨d', z⟩ := h4 i k1
    rcases k3 with k3 | k3 <;> (rw [z] at k3; cases k3)
  have kept : ∀ j t a u, gt ρ j = some t → t.top = true → gv σ j = some (.ref a) → H a = some u → (∀ i : Nat, xs[i]? = some (Ov.at j) → ∃ d, t = .rd d) → H' a = some u ∧ ¬ F' a := fun j t a u h1 h2 h3 h4 h5 => by
    refine ⟨(po.stp.keep a u h4 (no a) (nr j t a h1 h2 h3 h5)).no (fun f => by obtain ⟨b, w, e, nf, _⟩ := s.top_at h1 h2; rw [h3] at e; cases e; exact nf f), fun z => ?_⟩
    rcases po.stp.new a z with y | y | y
    · obtain ⟨b, w, e2, nf, _⟩ := s.top_at h1 h2
      rw [h3] at e2
      cases e2
      exact nf y
    · rw [h4] at y; cases y
    · exact no a y
  refine ⟨⟨x.fro, fun a o h1 h2 h3 => po.stp.keep a o h1 (no a) fun z => ?_, po.stp.dom, fun a h => ?_, fun a h => .inl (kp.own h), fun a h => kp.ref h⟩, ⟨by simp [back, s.len], po.sr.dom, fun j t h => ?_, fun i j t u a h1 h2 h3 h4 h5 h6 => ?_, .no hx po.sr.xn.2⟩, kp⟩
  · obtain ⟨p, t, i, k1, k2, ⟨d, k3⟩, k4⟩ := rf z
    rcases k3 with rfl | rfl
    · exact h2 ⟨p, d, k2, k4⟩
    · exact h3 ⟨p, d, k2, k4⟩
  · rcases po.stp.new a h with z | z | z
    · exact .inl z
    · exact .inr (.inl z)
    · exact absurd z (no a)
  · rw [gb] at h
    cases e1 : gt ρ j with
    | none => rw [e1] at h; cases h
    | some t0 =>
      rw [e1] at h
      obtain ⟨v, hv, r⟩ := s.slot j t0 e1
      refine ⟨v, hv, ?_⟩
      -- a changed slot
      have chg : ∀ d', look xs outs j = some d' → ∃ a, v = .ref a ∧ ¬ F' a ∧ Cont M F' H' (fun u => H' a = some u) d' := fun d' el => by
        obtain ⟨i, k1, k2⟩ := look_some el
        obtain ⟨w, l1, l2⟩ := rs.get k1
        have l2 : gv σ j = some w := l2
        rw [hv] at l2
        cases l2
        obtain ⟨w2, m1, a, m2, m3, m4⟩ := po.sr.slot i (.ref d') (by rw [gt_map]; exact k2)
        rw [gv_map, l1] at m1
        cases m1
        exact ⟨a, m2, m3, m4⟩
      have unp : look xs outs j = none → (∃ d, t0 = .own d ∨ t0 = .ref d) → ∀ i : Nat, xs[i]? = some (Ov.at j) → ∃ d, t0 = .rd d := fun el ⟨d, ho⟩ i hi => by
        exfalso
        obtain ⟨sl, k1, k2⟩ := slOs_get' e hi
        have es : sl = .ref d := by
          unfold slO at k2
          rcases ho with rfl | rfl
          · simp only [e1] at k2; cases k2; rfl
          · simp only [e1] at k2; cases k2; rfl
        subst es
        have z := po.kp.2 i
        rw [gt_map, gt_map, k1] at z
        cases e3 : outs[i]? with
        | none => rw [e3] at z; exact z
        | some o =>
          rw [e3] at z
          cases o with
          | ref d' => exact look_none el hi e3
          | val _ => exact z
          | own _ => exact z
          | rd _ => exact z
      cases t0 with
      | val d => cases h; exact Rep.mono x d r
      | rd d =>
        cases h
        obtain ⟨a, rfl, nf, c⟩ := r
        obtain ⟨b, u, e2, _, hu⟩ := s.top_at e1 rfl
        rw [hv] at e2
        cases e2
        obtain ⟨k1, k2⟩ := kept j _ a u e1 rfl hv hu fun _ _ => ⟨d, rfl⟩
        refine ⟨a, rfl, k2, c.mono x fun w hw => ?_⟩
        rcases hw with hw | ⟨o, hw, z⟩
        · rw [hu] at hw; cases hw; exact .inl k1
        · rw [hu] at hw; cases hw; exact .inr ⟨o, k1, z⟩
      | own d =>
        unfold bk1 at h
        dsimp only at h
        split at h
        · rename_i d' el
          cases h
          exact chg d' el
        · rename_i el
          cases h
          obtain ⟨a, rfl, nf, c⟩ := r
          obtain ⟨u, hu, _⟩ := c.some_of
          obtain ⟨k1, k2⟩ := kept j _ a u e1 rfl hv hu (unp el ⟨d, .inl rfl⟩)
          exact ⟨a, rfl, k2, c.mono x fun w (hw : H a = some w) => by
            have hu : H a = some u := hu
            rw [hu] at hw; cases hw; exact k1⟩
      | ref d =>
        unfold bk1 at h
        dsimp only at h
        split at h
        · rename_i d' el
          cases h
          exact chg d' el
        · rename_i el
          cases h
          obtain ⟨a, rfl, nf, c⟩ := r
          obtain ⟨u, hu, _⟩ := c.some_of
          obtain ⟨k1, k2⟩ := kept j _ a u e1 rfl hv hu (unp el ⟨d, .inr rfl⟩)
          exact ⟨a, rfl, k2, c.mono x fun w (hw : H a = some w) => by
            have hu : H a = some u := hu
            rw [hu] at hw; cases hw; exact k1⟩
  · obtain ⟨t', k1, k2⟩ := kp.top_of h1 h3
    obtain ⟨u', k3, k4⟩ := kp.top_of h2 h4
    exact s.dist i j t' u' a k1 k3 k2 k4 h5 h6
theorem OvRs.append {xs ys : List Ov} {vs ws : List V} : ∀ {xs : List Ov} {vs : List V}, OvRs M F H σ xs vs → OvRs M F H σ ys ws → OvRs M F H σ (xs ++ ys) (vs ++ ws)
  | [], _, h, q => by cases h; exact q
  | _ :: _, _, ⟨v, r, e, p, q⟩, h => by subst e; exact ⟨v, r ++ ws, rfl, p, OvRs.append (xs := xs) (vs := vs) q h⟩
end
/-- constants, wherever they stand -/
def ConstD (M : Md) : List D → List V → Prop
  | [], vs => vs = []
  | d :: ds, vs => ∃ v r, vs = v :: r ∧ (∀ F H, Rep M F H d v) ∧ ConstD M ds r
theorem ConstD.ov {M : Md} {F : Addr → Prop} {H : Hp} {σ : St} : ∀ {ds : List D} {vs : List V}, ConstD M ds vs → OvRs M F H σ (ds.map .val) vs
  | [], _, h => h
  | _ :: _, _, ⟨v, r, e, p, q⟩ => ⟨v, r, e, p F H, ConstD.ov q⟩
section
variable {M : Md} {cs : Cs} {W : WX} {k : Nat} {X : Cx}
theorem callF_run (hx : M.xn = none) {np : Nat} {φ : FSem} {os : List Opd} {dd : List D} {dvs : List V} {σ : St} {H : Hp} {Q : VK} (cd : ConstD M dd dvs) (hn : os.length + dd.length = np) (h : tE M W (callF φ os dd) σ H Q) :
    tOs M W os σ H fun vs H1 => spF M np φ (vs ++ dvs) H1 Q fun cls d H' => W cls d σ H' := by
  obtain ⟨F, ρ, s, h⟩ := h
  refine ops_run _ s ?_
  cases ev : evs os ρ with
  | bad => simp only [callF, ev] at h; exact h
  | exc x ρ' => simp only [callF, ev] at h; exact h
  | ok xs ρ1 =>
    simp only [callF, ev, Out.bind] at h
    intro F1 H1 po vs rs
    cases e1 : slOs ρ1 (xs ++ dd.map .val) with
    | none => simp only [e1] at h; exact h.elim
    | some sls =>
      simp only [e1] at h
      by_cases nd : ndB (tpI ρ1 (xs ++ dd.map .val)) = true
      · rw [if_pos nd] at h
        have rs' : OvRs M F1 H1 σ (xs ++ dd.map .val) (vs ++ dvs) := OvRs.append (xs := xs) (vs := vs) rs cd.ov
        obtain ⟨sa, hno⟩ := args_sr hx po.sr rs' e1 nd
        have hlen : (vs ++ dvs).length = np := by
          rw [rs'.length, List.length_append, List.length_map, evs_length ev]
          exact hn
        refine ⟨hlen, F1, sls, sa, hno, ?_⟩
        cases ef : φ sls with
        | bad => simp only [ef] at h; exact h
        | ok r outs =>
          simp only [ef] at h
          intro F2 H2 v po2 rv
          exact h F2 H2 (po.trans (back_po hx po.sr rs' e1 nd po2)) v (rv.from fun a z => po.stp.dom a z)
        | exc x outs =>
          simp only [ef] at h
          intro F2 H2 cls d po2 xr
          exact h F2 H2 cls d (po.trans (back_po hx po.sr rs' e1 nd po2)) xr
      · rw [if_neg nd] at h
        exact h.elim
/-- the callee runs (what it lets out is wanted by the state of the names) -/
theorem run_fnW {CX' : CXT} {f : Addr} {fd : FuncData} {ps : List Str} {sp : Sp} {ds : List Value} {pins : List (Addr × Obj)} {σ : St} {H : Hp} {s : Shared} {Q : VK} {us : List Value} {vs dvs : List V} (F : FnOk X.prog X.w X.K X.mg X.base (CX X.prog X.w) k f fd ps sp) (hr : Room k X.A) (hb : Binds X.K fd ps ds) (hd : Vals dvs ds) (tk : Takes X W)
    (I : Inv X pins σ H s) (r : Vals vs us) (h : sp (vs ++ dvs) H Q fun cls d H' => W cls d σ H') : wpAny (model X.prog X.w) X.A (call (.ref f) us) (EP X pins σ Q) X.xe s := by
  have r2 : Vals (vs ++ dvs) (us ++ ds) := r.append hd
  have hl : (us ++ ds).length = ps.length := by rw [← r2.length]; exact F.len _ _ _ _ h
  refine wpAny_call (codeAny_mono (F.run X.A X.stack s H ⟨us, []⟩ (us ++ ds) (vs ++ dvs) Q _ hr I.env0 (hb s us I.kIn hl) r2 h) fun r s' hq => ?_)
  cases r with
  | error e => exact tk e s' (XE.of_call I (fun cls d H' h => h) hq)
  | ok fl =>
    cases fl with
    | ret u => exact I.after hq
    | next => exact False.elim hq
    | brk => exact False.elim hq
    | cont => exact False.elim hq
theorem e_call (g : G M cs W k X) {j np : Nat} {x : Str} {φ : FSem} {p pos : Pos} {e : Expr} {es : List Expr} {os : List Opd} (fv : FnV M j x np φ) (hj : j ≤ k) (hg : cs.sc.names.lookup x = some .globalImplicit) (ha : PA X (e :: es) (tOs M W os)) (hn : os.length = np) (hdb : (x == ("__debug__" : Str)) = false)
    (he : starEach (e :: es) X.env = (false, eval e X.env) :: starEach es X.env) (hpl : (backTo pos (starEach es X.env)).any (·.1) = false) : PE X (.Call (.Name x p) (e :: es) [] pos) (tE M W (callF φ os [])) := by
  obtain ⟨f, fd, ps, F, hm, hk, hps, hb⟩ := fv.ex
  rw [← g.hP, ← g.hw, ← g.hb, ← g.hK, ← g.hmg] at F
  rw [← g.hmg] at hm
  rw [← g.hK] at hk hb
  refine ⟨fun pins s σ H Q I h => ?_⟩
  refine wpAny_Call_Name_kw (ld_glob I (g.gl hg) hm ?_ hdb)
  refine PySem.W.callWith_K (h₀ := X.base) I.ok.mod.kin hk (thn (ha.run pos pins s σ H _ I (callF_run g.nx (np := np) (dd := []) (dvs := []) rfl (by simpa using hn) h)) fun us s1 ⟨vs, H1, I1, r, q⟩ => ⟨I1.kIn, ?_⟩) he hpl
  exact run_fnW (CX' := CX X.prog X.w) (F.mono hj) g.room hb .nil g.tk I1 r q
end
end VF

namespace VF
open PySem PySem.Spec PyProof.Rows L2

/-! ### isinstance with a built-in class -/
def D.tyName : D → Option String
  | .non => some "NoneType"
  | .bl _ => some "bool"
  | .int _ => some "int"
  | .str _ => some "str"
  | .tup _ => some "tuple"
  | .lst _ => some "list"
  | .dck _ _ => some "dict"
  | .dct _ _ => none
  | .ins _ _ _ => none
  | .exn _ _ _ _ _ => none
  | .tpp _ => some "tuple"
def isB (T : String) (d : D) : Option Bool := match d.tyName with
  | some t => kitB t T
  | none => none
def fIsi (T : String) : List D → Option Rv
  | [d] => (isB T d).map fun b => .val (.bl b)
  | _ => none
section
variable {M : Md} {cs : Cs} {W : WX} {k : Nat} {X : Cx}
theorem od_ty {F : Addr → Prop} {H : Hp} {d : D} {v : V} {t : String} (h : OdR M F H d v) (e : d.tyName = some t) (hK : X.K = M.K) : TyX X.K H v (.type t) := by
  cases d with
  | non => cases h.non; cases e; exact .base .non
  | bl b => cases h.bl; cases e; exact .base (.bl b)
  | int b => cases h.int; cases e; exact .base (.int b)
  | str b => cases h.str; cases e; exact .base (.str b)
  | tup ds =>
    obtain ⟨a, vs, rfl, q, _⟩ := h.tup
    cases e
    rcases q with (q | ⟨o, q⟩) | ⟨o, its, n, q1, q2, _⟩
    · exact .base (.tup q)
    · exact .fTuple q
    · exact .kTuple (by rw [hK]; exact q1) q2
  | lst ds =>
    obtain ⟨a, vs, rfl, q, _⟩ := h.lst
    cases e
    rcases q with (q | ⟨o, q⟩) | ⟨o, its, n, q1, q2, _⟩
    · exact .base (.lst q)
    · exact .base (.frz q)
    · exact .kList (by rw [hK]; exact q1) q2
  | dck ks ds =>
    obtain ⟨a, vs, rfl, q, _, _⟩ := h.dck
    cases e
    rcases q with q | ⟨o, q⟩
    · exact .base (.dK q)
    · exact .fDict q
  | dct ks ds => cases e
  | ins c fs ds => cases e
  | exn c fs ds a dx => cases e
  | tpp ds =>
    obtain ⟨a, vs, o, rfl, _, q, _⟩ := h.tpp
    cases e
    exact .fTuple q
theorem e_isi (g : G0 M cs k X) {c : Str} {T : String} {p p2 pos : Pos} {e : Expr} {o : Opd} (hg : cs.sc.names.lookup ("isinstance" : Str) = some .globalImplicit) (hm : M.mg "isinstance" = none) (hgc : cs.sc.names.lookup c = some .globalImplicit) (hmc : M.mg c = none) (hvc : bootBuiltins c = some (.type T)) (hnc : c ≠ "__name__") (hdc : (c == ("__debug__" : Str)) = false) (ho : PE X e (tO M W o))
    (he : starEach [e, .Name c p2] X.env = (false, eval e X.env) :: starEach [.Name c p2] X.env) : PE X (.Call (.Name "isinstance" p) [e, .Name c p2] [] pos) (tE M W (app (fIsi T) [o])) := by
  refine PE_imp (pe_callB call_isi (g.gl hg) (by rw [g.hmg]; exact hm) boot_isinstance (pa_cons ho (pa_cons (pe_bltn (v := .ty T) (g.gl hgc) (by rw [g.hmg]; exact hmc) hvc rfl hnc hdc) pa_nil rfl) he) (by decide) rfl he rfl) fun σ H Q h => ?_
  obtain ⟨F, ρ, s, h⟩ := h
  have h1 : Want M W F H σ ρ ((o.ev ρ).bind fun x ρ' => match x.dat ρ' with | some d => (match fIsi T [d] with | some r => .ok r ρ' | none => .bad) | none => .bad) (fun r F' H' _ => ∀ v, RvR M H F' H' r v → Q v H') := by
    have e : app (fIsi T) [o] ρ = ((o.ev ρ).bind fun x ρ' => match x.dat ρ' with | some d => (match fIsi T [d] with | some r => .ok r ρ' | none => .bad) | none => .bad) := by
      simp only [app, evs]
      cases o.ev ρ with
      | bad => rfl
      | exc x ρ' => rfl
      | ok x ρ' =>
        simp only [Out.bind, dats]
        cases x.dat ρ' <;> rfl
    rw [← e]
    exact h
  refine op_bind s h1 fun x F1 H1 ρ1 v po rv q => ?_
  cases e1 : x.dat ρ1 with
  | none => simp only [e1] at q; exact q.elim
  | some d =>
    simp only [e1] at q
    cases e2 : fIsi T [d] with
    | none => simp only [e2] at q; exact q.elim
    | some r =>
      simp only [e2] at q
      obtain ⟨b, eb, er⟩ := Option.map_eq_some_iff.mp (show (isB T d).map (fun b => Rv.val (.bl b)) = some r from e2)
      subst er
      unfold isB at eb
      cases et : d.tyName with
      | none => rw [et] at eb; cases eb
      | some t =>
        rw [et] at eb
        exact ⟨v, .ty T, .type t, .type T, b, rfl, .ty T, od_ty (rv.od po.sr e1) et g.hK, kit_ty eb, q F1 H1 (.refl po.sr) po _ (rep_bl _)⟩
/-! ### an empty dict -/
def mkD (_ : List D) : Rv := .own (.dck [] [])
end
end VF

namespace VF
open PySem PySem.Spec PyProof.Rows L2

theorem RepL_ints {M : Md} {F : Addr → Prop} {H : Hp} : ∀ ns : List Int, RepL M F H (ns.map D.int) (ns.map V.int)
  | [] => .nil
  | n :: ns => .cons (by unfold Rep; rfl) (RepL_ints ns)
/-- the script as the law's def is given it -/
theorem script_sp {M : Md} (hx : M.xn = none) (hT : M.T = []) {φ : FSem} {H : Hp} {a : Addr} {ns : List Int} (hO : Only H) (hS : SqL M.K H a (ns.map V.int)) {outs : List Sl} (e : φ [.val (.lst (ns.map .int))] = .ok (.val (.bl true)) outs) : spF M 1 φ [.ref a] H (fun v _ => v = .bl true) fun _ _ _ => False := by
  refine ⟨rfl, fun b => H b ≠ none, [.val (.lst (ns.map .int))], ⟨rfl, fun b h => h, fun i t h => ?_, fun i j t u b h1 h2 h3 => ?_, .no hx fun p hp => (by rw [hT] at hp; cases hp)⟩, rfl, ?_⟩
  · cases i with
    | zero =>
      cases h
      refine ⟨.ref a, rfl, ?_⟩
      show Rep M _ H (.lst (ns.map .int)) (.ref a)
      unfold Rep
      refine ⟨a, ns.map V.int, rfl, ?_, RepL_ints ns⟩
      rcases hS with hS | hS
      · refine .inl ⟨fun z => ?_, hS⟩
        rcases hS with hS | ⟨o, hS⟩ <;> (rw [z] at hS; cases hS)
      · exact .inr hS
    | succ i => cases h
  · cases i with
    | zero => cases h1; cases h3
    | succ i => cases h1
  · rw [e]
    intro F' H' v po rv
    have rv : Rep M F' H' (.bl true) v := rv
    unfold Rep at rv
    exact rv
theorem glob_int {M : Md} {x : Str} {i : Int} (h : ∃ t, M.mg x = some (.int i t)) : GlobOk M x (.int i) := by
  obtain ⟨t, h⟩ := h
  exact ⟨_, .int i, h, ⟨t, rfl⟩, fun F H => by unfold Rep; rfl⟩
end VF

namespace VF
open PySem PySem.Spec PyProof.Rows L2

@[simp] theorem gt_zero {t : Option Sl} {ρ : En} : gt (t :: ρ) 0 = t := by cases t <;> rfl
@[simp] theorem gt_succ {t : Option Sl} {ρ : En} {i : Nat} : gt (t :: ρ) (i + 1) = gt ρ i := by simp [gt]
@[simp] theorem gt_nil {i : Nat} : gt [] i = none := rfl
@[simp] theorem bind_ok {α β : Type} {a : α} {ρ : En} {f : α → En → Out β} : (Out.ok a ρ).bind f = f a ρ := rfl
@[simp] theorem bind_exc {α β : Type} {x : Ex} {ρ : En} {f : α → En → Out β} : (Out.exc x ρ : Out α).bind f = .exc x ρ := rfl
@[simp] theorem bind_bad {α β : Type} {f : α → En → Out β} : (Out.bad : Out α).bind f = .bad := rfl
@[simp] theorem bindS_ok {α : Type} {a : α} {ρ : En} {f : α → En → SO} : (Out.ok a ρ).bindS f = f a ρ := rfl
@[simp] theorem bindS_exc {α : Type} {x : Ex} {ρ : En} {f : α → En → SO} : (Out.exc x ρ : Out α).bindS f = .exc x ρ := rfl
@[simp] theorem bindS_bad {α : Type} {f : α → En → SO} : (Out.bad : Out α).bindS f = .bad := rfl
@[simp] theorem cst_eq {d : D} {ρ : En} : cst d ρ = .ok (.val d) ρ := rfl
@[simp] theorem nm_eq {i : Nat} {ρ : En} : nm i ρ = (match gt ρ i with
  | some (.val d) => .ok (.val d) ρ
  | some (.own d) => .ok (.val d) (ρ.set i (some (.val d)))
  | _ => .bad) := rfl
@[simp] theorem ev_ex {φ : ES} {ρ : En} : (Opd.ex φ).ev ρ = (φ ρ).bind fun r ρ' => .ok (.val r.d) ρ' := rfl
@[simp] theorem ev_sl {i : Nat} {ρ : En} : (Opd.sl i).ev ρ = (match gt ρ i with | some _ => .ok (.at i) ρ | none => .bad) := rfl
@[simp] theorem evs_nil {ρ : En} : evs [] ρ = .ok [] ρ := rfl
@[simp] theorem evs_cons {o : Opd} {os : List Opd} {ρ : En} : evs (o :: os) ρ = (o.ev ρ).bind fun x ρ1 => (evs os ρ1).bind fun xs ρ2 => .ok (x :: xs) ρ2 := rfl
@[simp] theorem dat_val {d : D} {ρ : En} : (Ov.val d).dat ρ = some d := rfl
@[simp] theorem dat_at {i : Nat} {ρ : En} : (Ov.at i).dat ρ = (gt ρ i).map Sl.d := rfl
@[simp] theorem dats_nil {ρ : En} : dats ρ [] = some [] := rfl
@[simp] theorem dats_cons {x : Ov} {xs : List Ov} {ρ : En} : dats ρ (x :: xs) = (match x.dat ρ, dats ρ xs with
    | some d, some ds => some (d :: ds)
    | _, _ => none) := rfl
@[simp] theorem d_val {d : D} : (Sl.val d).d = d := rfl
@[simp] theorem d_own {d : D} : (Sl.own d).d = d := rfl
@[simp] theorem d_ref {d : D} : (Sl.ref d).d = d := rfl
@[simp] theorem d_rd {d : D} : (Sl.rd d).d = d := rfl
@[simp] theorem rd_val {d : D} : (Rv.val d).d = d := rfl
@[simp] theorem rd_own {d : D} : (Rv.own d).d = d := rfl
@[simp] theorem app_eq {f : List D → Option Rv} {os : List Opd} {ρ : En} : app f os ρ = (evs os ρ).bind fun xs ρ' => match dats ρ' xs with
  | some ds => (match f ds with
    | some r => .ok r ρ'
    | none => .bad)
  | none => .bad := rfl
@[simp] theorem tst_eq {φ : ES} {ρ : En} : tst φ ρ = (φ ρ).bind fun r ρ' => match r with
  | .val (.bl b) => .ok b ρ'
  | _ => .bad := rfl
@[simp] theorem tru_eq {o : Opd} {ρ : En} : tru o ρ = (o.ev ρ).bind fun x ρ' => match x.dat ρ' with
  | some d => (match d.truth with
    | some k => .ok k ρ'
    | none => .bad)
  | none => .bad := rfl
@[simp] theorem bnot_eq {t : BS} {ρ : En} : bnot t ρ = (t ρ).bind fun b ρ' => .ok (!b) ρ' := rfl
@[simp] theorem band_eq {t u : BS} {ρ : En} : band t u ρ = (t ρ).bind fun b ρ' => if b then u ρ' else .ok false ρ' := rfl
@[simp] theorem bor_eq {t u : BS} {ρ : En} : bor t u ρ = (t ρ).bind fun b ρ' => if b then .ok true ρ' else u ρ' := rfl
@[simp] theorem iff_eq {t : BS} {a b : ES} {ρ : En} : iff t a b ρ = (t ρ).bind fun c ρ' => if c then a ρ' else b ρ' := rfl
@[simp] theorem andE_eq {a b : ES} {ρ : En} : andE a b ρ = (a ρ).bind fun r ρ' => match r.d.truth with
  | some true => b ρ'
  | some false => .ok r ρ'
  | none => .bad := rfl
@[simp] theorem orE_eq {a b : ES} {ρ : En} : orE a b ρ = (a ρ).bind fun r ρ' => match r.d.truth with
  | some false => b ρ'
  | some true => .ok r ρ'
  | none => .bad := rfl
@[simp] theorem notE_eq {o : Opd} {ρ : En} : notE o ρ = (tru o ρ).bind fun b ρ' => .ok (.val (.bl (!b))) ρ' := rfl
@[simp] theorem truth_non : D.non.truth = some false := rfl
@[simp] theorem truth_bl {b : Bool} : (D.bl b).truth = some b := rfl
@[simp] theorem truth_int {i : Int} : (D.int i).truth = some (i != 0) := rfl
@[simp] theorem truth_lst {ds : List D} : (D.lst ds).truth = some (!ds.isEmpty) := rfl
@[simp] theorem truth_tup {ds : List D} : (D.tup ds).truth = some (!ds.isEmpty) := rfl
@[simp] theorem chn_eq {f g : List D → Option Rv} {a b c : Opd} {ρ : En} : chn f g a b c ρ = (a.ev ρ).bind fun x ρ0 => (b.ev ρ0).bind fun y ρ1 => match x.dat ρ1, y.dat ρ1 with
  | some d, some e => (match f [d, e] with
    | some (.val (.bl true)) => (c.ev ρ1).bind fun z ρ2 => (match y.dat ρ2, z.dat ρ2 with
      | some e', some k => (match g [e', k] with
        | some r => .ok r ρ2
        | none => .bad)
      | _, _ => .bad)
    | some (.val (.bl false)) => .ok (.val (.bl false)) ρ1
    | _ => .bad)
  | _, _ => .bad := rfl
@[simp] theorem evI_none {ρ : En} : evI none ρ = .ok none ρ := rfl
@[simp] theorem evI_some {o : Opd} {ρ : En} : evI (some o) ρ = (o.ev ρ).bind fun x ρ' => match x.dat ρ' with
    | some (.int i) => .ok (some i) ρ'
    | _ => .bad := rfl
@[simp] theorem slc_eq {o : Opd} {lo hi : Option Opd} {ρ : En} : slc o lo hi ρ = (o.ev ρ).bind fun x ρ1 => (evI lo ρ1).bind fun l ρ2 => (evI hi ρ2).bind fun u ρ3 => match x.dat ρ3 with
  | some d => (match fSl d l u with
    | some r => .ok r ρ3
    | none => .bad)
  | none => .bad := rfl
@[simp] theorem vals_nil : vals [] = some [] := rfl
@[simp] theorem vals_cons {d : D} {xs : List Ov} : vals (.val d :: xs) = (vals xs).map (d :: ·) := rfl
@[simp] theorem disp_eq {mk : List D → Rv} {φs : List ES} {ρ : En} : disp mk φs ρ = (evs (φs.map .ex) ρ).bind fun xs ρ' => match vals xs with
  | some ds => .ok (mk ds) ρ'
  | none => .bad := rfl
@[simp] theorem mkT_eq {ds : List D} : mkT ds = .val (.tup ds) := rfl
@[simp] theorem mkL_eq {ds : List D} : mkL ds = .own (.lst ds) := rfl
@[simp] theorem mkD_eq {ds : List D} : mkD ds = .own (.dck [] []) := rfl
@[simp] theorem skip_eq {ρ : En} : skip ρ = .nx ρ := rfl
@[simp] theorem seq_eq {a b : SS} {ρ : En} : seq a b ρ = (match a ρ with
  | .nx ρ' => b ρ'
  | o => o) := rfl
@[simp] theorem ifS_eq {t : BS} {a b : SS} {ρ : En} : ifS t a b ρ = (t ρ).bindS fun c ρ' => if c then a ρ' else b ρ' := rfl
@[simp] theorem retE_eq {φ : ES} {ρ : En} : retE φ ρ = (φ ρ).bindS fun r ρ' => .rt r ρ' := rfl
@[simp] theorem retI_eq {i : Nat} {ρ : En} : retI i ρ = (match gt ρ i with
  | some (.own d) => .rt (.own d) (ρ.set i none)
  | some (.val d) => .rt (.val d) ρ
  | _ => .bad) := rfl
@[simp] theorem dropE_eq {φ : ES} {ρ : En} : dropE φ ρ = (φ ρ).bindS fun _ ρ' => .nx ρ' := rfl
@[simp] theorem setI_eq {i : Nat} {φ : ES} {ρ : En} : setI i φ ρ = (φ ρ).bindS fun r ρ' => if noRef (gt ρ' i) = true ∧ i < ρ'.length then (match r with
  | .val d => .nx (ρ'.set i (some (.val d)))
  | .own d => .nx (ρ'.set i (some (.own d)))) else .bad := rfl
@[simp] theorem putS_eq {tg : Tg} {φ : ES} {ρ : En} : putS tg φ ρ = (φ ρ).bindS fun r ρ' => match put tg r.d ρ' with
  | some ρ2 => .nx ρ2
  | none => .bad := rfl
@[simp] theorem noRef_none : noRef none = true := rfl
@[simp] theorem noRef_val {d : D} : noRef (some (.val d)) = true := rfl
@[simp] theorem noRef_own {d : D} : noRef (some (.own d)) = true := rfl
@[simp] theorem put_nm {i : Nat} {d : D} {ρ : En} : put (.nm i) d ρ = if noRef (gt ρ i) = true ∧ i < ρ.length then some (ρ.set i (some (.val d))) else none := by unfold put; rfl
@[simp] theorem put_tup {ts : List Tg} {ds : List D} {ρ : En} : put (.tup ts) (.tup ds) ρ = puts ts ds ρ := by unfold put; rfl
@[simp] theorem puts_nil {ρ : En} : puts [] [] ρ = some ρ := by unfold puts; rfl
@[simp] theorem puts_cons {t : Tg} {ts : List Tg} {d : D} {ds : List D} {ρ : En} : puts (t :: ts) (d :: ds) ρ = (match put t d ρ with
      | some ρ' => puts ts ds ρ'
      | none => none) := by
  rw [puts]
  all_goals (cases put t d ρ <;> rfl)
@[simp] theorem storeI_eq {i : Nat} {ix : Opd} {φ : ES} {ρ : En} : storeI i ix φ ρ = (φ ρ).bindS fun r ρ1 => ((Opd.sl i).ev ρ1).bindS fun _ ρ1 => (ix.ev ρ1).bindS fun y ρ2 => match y.dat ρ2 with
  | some k => (match mutS i (stD r.d k) ρ2 with
    | some (_, ρ3) => .nx ρ3
    | none => .bad)
  | none => .bad := rfl
@[simp] theorem stD_eq {v : D} {j : Int} {ds : List D} : stD v (.int j) (.lst ds) = (ixN ds.length j).map fun n => ((), .lst (ds.set n v)) := rfl
@[simp] theorem mutS_eq {α : Type} {i : Nat} {f : D → Option (α × D)} {ρ : En} : mutS i f ρ = (match gt ρ i with
  | some (.own d) => (match f d with
    | some (a, d') => some (a, ρ.set i (some (.own d')))
    | none => none)
  | some (.ref d) => (match f d with
    | some (a, d') => some (a, ρ.set i (some (.ref d')))
    | none => none)
  | _ => none) := rfl
@[simp] theorem slO_val {d : D} {ρ : En} : slO ρ (.val d) = some (.val d) := rfl
@[simp] theorem slO_at {i : Nat} {ρ : En} : slO ρ (.at i) = (match gt ρ i with
    | some (.own d) => some (.ref d)
    | t => t) := rfl
@[simp] theorem slOs_nil {ρ : En} : slOs ρ [] = some [] := rfl
@[simp] theorem slOs_cons {ρ : En} {x : Ov} {xs : List Ov} : slOs ρ (x :: xs) = (match slO ρ x, slOs ρ xs with
    | some s, some ss => some (s :: ss)
    | _, _ => none) := rfl
@[simp] theorem isTop_eq {ρ : En} {i : Nat} : isTop ρ i = (match gt ρ i with | some t => t.top | none => false) := rfl
@[simp] theorem top_val {d : D} : (Sl.val d).top = false := rfl
@[simp] theorem top_own {d : D} : (Sl.own d).top = true := rfl
@[simp] theorem top_ref {d : D} : (Sl.ref d).top = true := rfl
@[simp] theorem top_rd {d : D} : (Sl.rd d).top = true := rfl
@[simp] theorem tpI_nil {ρ : En} : tpI ρ [] = [] := rfl
@[simp] theorem tpI_val {ρ : En} {d : D} {xs : List Ov} : tpI ρ (.val d :: xs) = tpI ρ xs := rfl
@[simp] theorem tpI_at {ρ : En} {i : Nat} {xs : List Ov} : tpI ρ (.at i :: xs) = if isTop ρ i then i :: tpI ρ xs else tpI ρ xs := rfl
@[simp] theorem ndB_nil : ndB [] = true := rfl
@[simp] theorem ndB_cons {i : Nat} {r : List Nat} : ndB (i :: r) = (!r.contains i && ndB r) := rfl
@[simp] theorem look_nil {ss : List Sl} {j : Nat} : look [] ss j = none := rfl
@[simp] theorem look_at_ref {i j : Nat} {d : D} {xs : List Ov} {ss : List Sl} : look (.at i :: xs) (.ref d :: ss) j = if i = j then some d else look xs ss j := rfl
@[simp] theorem look_val {j : Nat} {d : D} {xs : List Ov} {s : Sl} {ss : List Sl} : look (.val d :: xs) (s :: ss) j = look xs ss j := rfl
@[simp] theorem look_at_val {i j : Nat} {d : D} {xs : List Ov} {ss : List Sl} : look (.at i :: xs) (.val d :: ss) j = look xs ss j := rfl
@[simp] theorem look_at_rd {i j : Nat} {d : D} {xs : List Ov} {ss : List Sl} : look (.at i :: xs) (.rd d :: ss) j = look xs ss j := rfl
@[simp] theorem bk1_none {xs : List Ov} {outs : List Sl} {j : Nat} : bk1 xs outs j none = none := rfl
@[simp] theorem bk1_val {xs : List Ov} {outs : List Sl} {j : Nat} {d : D} : bk1 xs outs j (some (.val d)) = some (.val d) := rfl
@[simp] theorem bk1_rd {xs : List Ov} {outs : List Sl} {j : Nat} {d : D} : bk1 xs outs j (some (.rd d)) = some (.rd d) := rfl
@[simp] theorem bk1_own {xs : List Ov} {outs : List Sl} {j : Nat} {d : D} : bk1 xs outs j (some (.own d)) = (match look xs outs j with
    | some d' => some (.own d')
    | none => some (.own d)) := rfl
@[simp] theorem bk1_ref {xs : List Ov} {outs : List Sl} {j : Nat} {d : D} : bk1 xs outs j (some (.ref d)) = (match look xs outs j with
    | some d' => some (.ref d')
    | none => some (.ref d)) := rfl
/-- nothing that may change was passed -/
theorem look_no {j : Nat} {outs : List Sl} (h : ∀ d, Sl.ref d ∉ outs) : ∀ {xs : List Ov}, look xs outs j = none := by
  intro xs
  cases e : look xs outs j with
  | none => rfl
  | some d =>
    obtain ⟨i, _, h2⟩ := look_some e
    exact absurd (List.mem_of_getElem? h2) (h d)
@[simp] theorem back_vals {ds : List D} {xs : List Ov} {ρ : En} : back xs (ds.map .val) ρ = ρ := by
  unfold back
  have h : ∀ j t, bk1 xs (ds.map Sl.val) j t = t := fun j t => by
    have hl : look xs (ds.map Sl.val) j = none := look_no fun d hd => by simp at hd
    cases t with
    | none => rfl
    | some t => cases t with
      | val d => rfl
      | rd d => rfl
      | own d => simp [hl]
      | ref d => simp [hl]
  apply List.ext_getElem?
  intro i
  rw [List.getElem?_mapIdx]
  cases ρ[i]? with
  | none => rfl
  | some t => simp [h]
@[simp] theorem callF_eq {φ : FSem} {os : List Opd} {dd : List D} {ρ : En} : callF φ os dd ρ = (evs os ρ).bind fun xs0 ρ1 => match slOs ρ1 (xs0 ++ dd.map .val) with
  | some sls => if ndB (tpI ρ1 (xs0 ++ dd.map .val)) = true then (match φ sls with
    | .ok r outs => .ok r (back (xs0 ++ dd.map .val) outs ρ1)
    | .exc x outs => .exc x (back (xs0 ++ dd.map .val) outs ρ1)
    | .bad => .bad) else .bad
  | none => .bad := rfl
@[simp] theorem fAdd_int {i j : Int} : fAdd [.int i, .int j] = some (.val (.int (i + j))) := rfl
@[simp] theorem fSub_int {i j : Int} : fSub [.int i, .int j] = some (.val (.int (i - j))) := rfl
@[simp] theorem fLt_int {i j : Int} : fLt [.int i, .int j] = some (.val (.bl (decide (i < j)))) := rfl
@[simp] theorem fLe_int {i j : Int} : fLe [.int i, .int j] = some (.val (.bl (decide (i ≤ j)))) := rfl
@[simp] theorem fGt_int {i j : Int} : fGt [.int i, .int j] = some (.val (.bl (decide (j < i)))) := rfl
@[simp] theorem fGe_int {i j : Int} : fGe [.int i, .int j] = some (.val (.bl (decide (j ≤ i)))) := rfl
@[simp] theorem fNeg_int {i : Int} : fNeg [.int i] = some (.val (.int (-i))) := rfl
@[simp] theorem fMod_int {i j : Int} : fMod [.int i, .int j] = if j ≠ 0 then some (.val (.int (i.fmod j))) else none := rfl
theorem fFdiv_int {i j : Int} : fFdiv [.int i, .int j] = if j ≠ 0 ∧ j.natAbs.log2 < 9000 then some (.val (.int (i.fdiv j))) else none := rfl
theorem fMul_int {i j : Int} : fMul [.int i, .int j] = if i.natAbs.log2 + j.natAbs.log2 < 1000000 ∨ i.natAbs < 18446744073709551616 ∨ j.natAbs < 18446744073709551616 then some (.val (.int (i * j))) else none := rfl
@[simp] theorem fItem_lst {ds : List D} {i : Int} : fItem [.lst ds, .int i] = (atI ds i).map .val := rfl
@[simp] theorem fItem_tup {ds : List D} {i : Int} : fItem [.tup ds, .int i] = (atI ds i).map .val := rfl
@[simp] theorem fLen_lst {ds : List D} : fLen [.lst ds] = some (.val (.int ds.length)) := rfl
@[simp] theorem fLen_tup {ds : List D} : fLen [.tup ds] = some (.val (.int ds.length)) := rfl
@[simp] theorem fLen_str {z : Str} : fLen [.str z] = if z.length ≤ sizeLine then some (.val (.int z.length)) else none := rfl
@[simp] theorem fInt_int {i : Int} : fInt [.int i] = some (.val (.int i)) := rfl
@[simp] theorem fInt_bl {b : Bool} : fInt [.bl b] = some (.val (.int (if b then 1 else 0))) := rfl
@[simp] theorem fIs_bl {a b : Bool} : fIs [.bl a, .bl b] = some (.val (.bl (decide (a = b)))) := rfl
@[simp] theorem fIsNot_bl {a b : Bool} : fIsNot [.bl a, .bl b] = some (.val (.bl (!decide (a = b)))) := rfl

theorem l64 {i : Int} (h : i.natAbs < 2 ^ 64) : i.natAbs.log2 < 64 := by
  by_cases h0 : i.natAbs = 0
  · rw [h0]; decide
  · exact (Nat.log2_lt h0).mpr h
theorem fFdiv_ok {i j : Int} (h1 : j ≠ 0) (h2 : j.natAbs < 2 ^ 64) : fFdiv [.int i, .int j] = some (.val (.int (i.fdiv j))) := by
  have := l64 h2
  rw [fFdiv_int, if_pos ⟨h1, by omega⟩]
@[simp] theorem lk_nil' {ρ : En} : lk [] ρ = ρ := rfl
@[simp] theorem lk_val' {d : D} {xs : List Ov} {ρ : En} : lk (.val d :: xs) ρ = lk xs ρ := rfl
@[simp] theorem ats_nil' : ats [] = [] := rfl
@[simp] theorem ats_val' {d : D} {xs : List Ov} : ats (.val d :: xs) = ats xs := rfl
@[simp] theorem ats_at' {i : Nat} {xs : List Ov} : ats (.at i :: xs) = i :: ats xs := rfl
@[simp] theorem lks_eq {ρ : En} {xs : List Ov} : lks ρ xs = (ats xs).filter fun i => match gt ρ i with
  | some (.own _) => true
  | some (.ref _) => true
  | _ => false := rfl
@[simp] theorem rst_nil' {ρ1 ρ : En} : rst ρ1 [] ρ = ρ := rfl
@[simp] theorem rst_cons' {ρ1 ρ : En} {i : Nat} {S : List Nat} : rst ρ1 (i :: S) ρ = rst ρ1 S (ρ.set i (gt ρ1 i)) := rfl
@[simp] theorem unl_nil' {ρ1 : En} {o : SO} : unl ρ1 [] o = o := by cases o <;> rfl
@[simp] theorem wp_nil' {ρ : En} : wp [] ρ = ρ := rfl
@[simp] theorem wp_cons' {ρ : En} {i : Nat} {S : List Nat} : wp (i :: S) ρ = wp S (ρ.set i none) := rfl
@[simp] theorem forS_eq {src : Src} {tg : Tg} {body : SS} {ρ : En} : forS src tg body ρ = (evs src.ops ρ).bindS fun xs ρ1 => match dats ρ1 xs with
  | some ds => (match src.f ds with
    | some items => unl ρ1 (lks ρ1 xs) (loopS tg body items (lk xs ρ1))
    | none => .bad)
  | none => .bad := rfl
@[simp] theorem noX_ok {α : Type} {a : α} {ρ : En} : noX (.ok a ρ) = .ok a ρ := rfl
@[simp] theorem comp_eq {src : Src} {tg : Tg} {own : List Nat} {t : BS} {φ : ES} {ρ : En} : comp src tg own t φ ρ = (evs src.ops ρ).bind fun xs ρ1 => match dats ρ1 xs with
  | some ds => (match src.f ds with
    | some items => if (own.all fun i => !(ats xs).contains i) = true then (noX (loopC tg own t φ items (wp own (lk xs ρ1)) [])).bind fun out ρ2 => .ok (.own (.lst out)) (rst ρ1 (own ++ ats xs) ρ2) else .bad
    | none => .bad)
  | none => .bad := rfl
@[simp] theorem yes_eq {ρ : En} : yes ρ = .ok true ρ := rfl
@[simp] theorem meth_eq {T : String} {f : List D → Option Rv} {o : Opd} {os : List Opd} {ρ : En} : meth T f o os ρ = (o.ev ρ).bind fun x ρ1 => match x.dat ρ1 with
  | some d => if d.ty = some T then (evs os ρ1).bind fun xs ρ2 => (match x.dat ρ2, dats ρ2 xs with
    | some d', some ds => (match f (d' :: ds) with
      | some r => .ok r ρ2
      | none => .bad)
    | _, _ => .bad) else .bad
  | none => .bad := rfl
@[simp] theorem mutM_eq {T : String} {f : List D → D → Option (D × D)} {i : Nat} {φs : List ES} {ρ : En} : mutM T f i φs ρ = ((Opd.sl i).ev ρ).bind fun x ρ0 => match x.dat ρ0 with
  | some d => if d.ty = some T then (evs (φs.map .ex) ρ0).bind fun xs ρ1 => (match vals xs with
    | some ds => (match mutS i (f ds) ρ1 with
      | some (r, ρ2) => .ok (.val r) ρ2
      | none => .bad)
    | none => .bad) else .bad
  | none => .bad := rfl
theorem bk1_look {xs ys : List Ov} {os ps : List Sl} {j : Nat} {t : Option Sl} (h : look xs os j = look ys ps j) : bk1 xs os j t = bk1 ys ps j t := by
  cases t with
  | none => rfl
  | some t => cases t with
    | val d => rfl
    | rd d => rfl
    | own d => simp only [bk1_own, h]
    | ref d => simp only [bk1_ref, h]
@[simp] theorem bk1_nil {outs : List Sl} {j : Nat} {t : Option Sl} : bk1 [] outs j t = t := by
  cases t with
  | none => rfl
  | some t => cases t <;> rfl
@[simp] theorem bk1_cv {d : D} {s : Sl} {xs : List Ov} {outs : List Sl} {j : Nat} {t : Option Sl} : bk1 (.val d :: xs) (s :: outs) j t = bk1 xs outs j t := bk1_look rfl
@[simp] theorem bk1_av {i : Nat} {d : D} {xs : List Ov} {outs : List Sl} {j : Nat} {t : Option Sl} : bk1 (.at i :: xs) (.val d :: outs) j t = bk1 xs outs j t := bk1_look rfl
@[simp] theorem bk1_ar {i : Nat} {d : D} {xs : List Ov} {outs : List Sl} {j : Nat} {t : Option Sl} : bk1 (.at i :: xs) (.rd d :: outs) j t = bk1 xs outs j t := bk1_look rfl
@[simp] theorem bk1_ne {i : Nat} {d : D} {xs : List Ov} {outs : List Sl} {j : Nat} {t : Option Sl} (h : i ≠ j) : bk1 (.at i :: xs) (.ref d :: outs) j t = bk1 xs outs j t := bk1_look (by rw [look_at_ref, if_neg h])
@[simp] theorem back_eq {xs : List Ov} {outs : List Sl} {t : Option Sl} {ρ : En} : back xs outs (t :: ρ) = bk1 xs outs 0 t :: List.mapIdx (fun i => bk1 xs outs (i + 1)) ρ := by
  unfold back
  rw [List.mapIdx_cons]
theorem fAdd_str {x y : Str} (h : x.length + y.length ≤ 1000000) : fAdd [.str x, .str y] = some (.val (.str (x ++ y))) := by
  show (if x.length + y.length ≤ sizeLine then some (Rv.val (.str (x ++ y))) else none) = _
  rw [if_pos (by rw [sizeLine_eq]; omega)]
@[simp] theorem sSeq_lst {ds : List D} : sSeq [.lst ds] = some ds := rfl
@[simp] theorem sSeq_tup {ds : List D} : sSeq [.tup ds] = some ds := rfl
/-! ### loops -/
end VF

namespace VF
open PySem PySem.Spec PyProof.Rows L2

/-! ### fields -/
section
variable {M : Md} {cs : Cs} {W : WX} {k : Nat} {X : Cx}
end

/-! ### self.f = v -/
def putK (f : Str) (d : D) : List Str → List D → List Str × List D
  | g :: fs, e :: ds => if g = f then (g :: fs, d :: ds) else ((g :: (putK f d fs ds).1), (e :: (putK f d fs ds).2))
  | _, _ => ([f], [d])
section
variable {M : Md} {cs : Cs} {W : WX} {k : Nat} {X : Cx}
end

/-! ### calls, their last part -/
section
variable {M : Md} {cs : Cs} {W : WX} {k : Nat} {X : Cx}
end
structure MtV (M : Md) (k : Nat) (c m : Str) (np : Nat) (φ : FSem) : Prop where
  ex : ∃ C f fd ps, c ∈ M.cls ∧ M.mg c = some (.ref C) ∧ Cls M.K C ∧ Meth M.K C m f ∧ FnOk M.P M.w M.K M.mg M.base (CX M.P M.w) k f fd ps (spF M np φ) ∧ ps.length = np ∧ Binds M.K fd ps []
section
variable {M : Md} {cs : Cs} {W : WX} {k : Nat} {X : Cx}
end
end VF

namespace VF
open PySem PySem.Spec PyProof.Rows L2

theorem gv_lt {σ : St} {i : Nat} {v : V} (h : gv σ i = some v) : i < σ.length := (List.getElem?_eq_some_iff.mp (gv_some h)).1
theorem gv_app {σ τ : St} {i : Nat} {v : V} (h : gv σ i = some v) : gv (σ ++ τ) i = some v := by
  have hl := gv_lt h
  unfold gv at h ⊢
  rw [List.getElem?_append_left hl]
  exact h
theorem OvRs.app {M : Md} {F F' : Addr → Prop} {H H' : Hp} {σ τ : St} (x : Ext F H F' H') : ∀ {xs : List Ov} {vs : List V}, OvRs M F H σ xs vs → OvRs M F' H' (σ ++ τ) xs vs
  | [], _, h => h
  | .val d :: xs, _, ⟨v, r, e, p, q⟩ => ⟨v, r, e, Rep.mono x d p, OvRs.app x q⟩
  | .at i :: xs, _, ⟨v, r, e, p, q⟩ => ⟨v, r, e, gv_app p, OvRs.app x q⟩
section
variable {M : Md} {W : WX} {F F' : Addr → Prop} {H H' : Hp} {σ : St} {ρ : En}
end

structure MkV (M : Md) (k : Nat) (c : Str) (np : Nat) (dd : List D) (φ : FSem) : Prop where
  ex : ∃ C f fd ps dvs ds, (c ∈ M.cls ∧ M.mg c = some (.ref C)) ∧ Mk M.K C f ∧ FnOk M.P M.w M.K M.mg M.base (CX M.P M.w) k f fd ps (spF M (np + 1) φ) ∧ ConstD M dd dvs ∧ Vals dvs ds ∧ Binds M.K fd ps ds
section
variable {M : Md} {cs : Cs} {W : WX} {k : Nat} {X : Cx}
end
end VF

namespace VF
open PySem PySem.Spec PyProof.Rows L2

theorem oex_of {K : PySem.W.Frag} {C : Addr} (q : oexB K C = true) : OexC K C := by
  unfold oexB at q
  simp only [Bool.and_eq_true, decide_eq_true_eq] at q
  obtain ⟨q1, q2, q3, q4, q5⟩ := q
  refine ⟨?_, He.eqO_ok q2, q3, q4, q5⟩
  split at q1
  · rename_i dd cd sl ho
    split at q1
    · rename_i C' bm k0 k1 k2 k3 n k5 hm hs
      simp only [Bool.and_eq_true, beq_iff_eq, Bool.not_eq_true'] at q1
      obtain ⟨⟨⟨⟨rfl, rfl⟩, hdel⟩, hdct⟩, ht⟩ := q1
      obtain ⟨nm, bs, mro, ns, qn, hd, sn, sub, ab, col, del⟩ := cd
      dsimp only at hm hdel hdct
      subst hm hdel hdct
      have hsl : sl = #[k0, k1, k2, k3, some (.builtin "ValueError.__new__"), k5] := by
        obtain ⟨l⟩ := sl
        simp only at hs
        rw [hs]
      subst hsl
      exact ⟨nm, qn, ns, bs, bm, sn, sub, ab, col, dd, k0, k1, k2, k3, k5, ho, ht⟩
    · cases q1
  · cases q1

/-! ### __init__ of the topmost one: ValueError.__init__(self, why); self.why = why -/
/-- the promise: the error at a gets its dict with the one field -/
def spW (K : PySem.W.Frag) (f : Str) : Sp := fun vs H Q _ => ∃ (a C : Addr) (w : V), vs = [.ref a, w] ∧ OexC K C ∧ PySem.W.findIn K (.ref C) f = some none ∧ H a = some (exo a C none) ∧
  ∀ dx, H dx = none → dx ≠ a → Q .non (upd (upd H dx (exd dx [(f, w)])) a (exo a C (some dx)))
/-- a class of errors: c, made with one value that is kept as f -/
structure ErV (M : Md) (k : Nat) (c f : Str) (dd : List D) : Prop where
  ex : ∃ C fI fd ps dvs ds, M.mg c = some (.ref C) ∧ OexC M.K C ∧ PySem.W.findIn M.K (.ref C) f = some none ∧ PySem.W.findIn M.K (.ref C) "__init__" = some (some (.ref fI)) ∧ PySem.W.typeIn M.K (.ref fI) = some (.type "function") ∧
    FnOk M.P M.w M.K M.mg M.base (CX M.P M.w) k fI fd ps (spW M.K f) ∧ ConstD M dd dvs ∧ Vals dvs ds ∧ Binds M.K fd ps ds
def raiseW (c f : Str) (φ : ES) : SS := fun ρ => (φ ρ).bindS fun r ρ' => .exc ⟨c, [f], [r.d]⟩ ρ'
section
variable {M : Md} {cs : Cs} {W : WX} {k : Nat} {X : Cx}
/-- the heap behind a made error: its dict alone is new -/
theorem made_heap {H : Hp} {a dx C : Addr} {fs : List (Str × V)} (ha : H a = none) (hdx : dx ≠ a) : upd (del (upd (upd (upd H a (exo a C none)) dx (exd dx fs)) a (exo a C (some dx))) a) dx (.xd fs) = upd H dx (.xd fs) := by
  funext b
  by_cases h1 : b = dx
  · rw [h1, upd_same, upd_same]
  · rw [upd_ne h1, upd_ne h1]
    by_cases h2 : b = a
    · rw [h2, del_same, ha]
    · rw [del_ne h2, upd_ne h2, upd_ne h1, upd_ne h2]
theorem s_raiseW (g : G M cs W k X) {j : Nat} {c f : Str} {e : Expr} {p p2 pos : Pos} {φ : ES} (er : ErV M j c f []) (hj : j + 1 ≤ k) (hg : cs.sc.names.lookup c = some .globalImplicit) (hdb : (c == ("__debug__" : Str)) = false) (he : PE X e (tE M W φ))
    (hst : starEach [e] X.env = [(false, eval e X.env)]) : PS X (.Raise (some (.Call (.Name c p) [e] [] p2)) none pos) (tS M W (raiseW c f φ)) := by
  obtain ⟨C, fI, fd, ps, dvs, ds, hC, T, hno, iC, tI, F, cd, hd, hb⟩ := er.ex
  cases cd
  cases hd
  have hC' := hC
  rw [← g.hP, ← g.hw, ← g.hb, ← g.hK, ← g.hmg] at F
  rw [← g.hK] at T iC tI hb hno
  rw [← g.hmg] at hC
  refine PS_imp (ps_raise g.calm g.tk (pmk_oex T iC tI F (g.room.mono hj) hb .nil (passes_call g.tk fun _ _ _ _ z => z.elim) (g.gl hg) hC (pa_cons (o_ex he) pa_nil hst) hdb hst rfl)) fun D σ H ⟨F0, ρ, s, h⟩ => ?_
  show tE M W φ σ H fun v H1 => [v].length ≤ 1000 ∧ _
  refine tE_of s ((bindS_want h).mono fun r F1 H1 ρ1 po z v rv => ⟨by simp, fun a ha => ?_⟩)
  obtain ⟨F2, po2, rp, _⟩ := freeze s po rv
  refine ⟨a, C, v, rfl, T, hno, upd_same, fun dx hdx hne => ⟨rfl, dx, [(f, v)], upd_same, ?_, ?_, ?_⟩⟩
  · rw [upd_ne hne, upd_same]
  · rw [upd_ne hne] at hdx; exact hdx
  · rw [made_heap ha hne]
    have hdx1 : H1 dx = none := by rw [upd_ne hne] at hdx; exact hdx
    have nw0 : New F2 H1 F2 (upd H1 dx (.xd [(f, v)])) := New.laid po2.sr.dom hdx1
    have nw : New F2 H1 (fun b => F2 b ∨ b = dx) (upd H1 dx (.xd [(f, v)])) := ⟨nw0.keep, fun _ h => .inl h, fun b h => h.imp id fun h => by rw [h]; exact hdx1, fun b h => by
      rcases h with h | h
      · exact nw0.dom b h
      · rw [h, upd_same]; exact fun q => by cases q⟩
    have po3 := nw.po po2.sr
    exact z _ _ σ (.ref C) (some dx) (po2.trans po3).s ⟨C, dx, [(f, v)], hC', rfl, rfl, .inr rfl, upd_same, rfl, .cons (Rep.mono nw.ext _ rp) .nil⟩
end
end VF

namespace VF
open PySem PySem.Spec PyProof.Rows L2

/-! ### the same module, another error in hand -/
structure Same (M N : Md) : Prop where
  k : M.K = N.K
  g : M.mg = N.mg
  c : M.cls = N.cls
  t : M.T = N.T
mutual
theorem Rep.same {M N : Md} {F : Addr → Prop} {H : Hp} (e : Same M N) : ∀ (d : D) {v : V}, Rep M F H d v → Rep N F H d v
  | .non, _, h => by unfold Rep at h ⊢; exact h
  | .bl _, _, h => by unfold Rep at h ⊢; exact h
  | .int _, _, h => by unfold Rep at h ⊢; exact h
  | .str _, _, h => by unfold Rep at h ⊢; exact h
  | .tup ds, _, h => by
    unfold Rep at h ⊢
    obtain ⟨a, vs, e1, q, r⟩ := h
    exact ⟨a, vs, e1, by rw [← e.k]; exact q, RepL.same e ds r⟩
  | .lst ds, _, h => by
    unfold Rep at h ⊢
    obtain ⟨a, vs, e1, q, r⟩ := h
    exact ⟨a, vs, e1, by rw [← e.k]; exact q, RepL.same e ds r⟩
  | .dck ks ds, _, h => by
    unfold Rep at h ⊢
    obtain ⟨a, vs, e1, f, q, k, r⟩ := h
    exact ⟨a, vs, e1, f, q, k, RepL.same e ds r⟩
  | .dct ks ds, _, h => by
    unfold Rep at h ⊢
    obtain ⟨a, vs, e1, f, q, k, r⟩ := h
    exact ⟨a, vs, e1, f, q, k, RepL.same e ds r⟩
  | .ins c fs ds, _, h => by
    unfold Rep at h ⊢
    obtain ⟨a, C, dx, vs, e1, f, m, q, k, r⟩ := h
    exact ⟨a, C, dx, vs, e1, f, by rw [← e.c, ← e.g]; exact m, q, k, RepL.same e ds r⟩
  | .exn c fs ds a dx, _, h => by
    unfold Rep at h ⊢
    obtain ⟨e1, C, vs, m, f, q, k, r⟩ := h
    exact ⟨e1, C, vs, by rw [← e.g]; exact m, f, q, k, RepL.same e ds r⟩
  | .tpp ds, _, h => by
    unfold Rep at h ⊢
    obtain ⟨a, vs, o, e1, f, q, n, r⟩ := h
    exact ⟨a, vs, o, e1, f, q, n, RepL.same e ds r⟩
theorem RepL.same {M N : Md} {F : Addr → Prop} {H : Hp} (e : Same M N) : ∀ (ds : List D) {vs : List V}, RepL M F H ds vs → RepL N F H ds vs
  | [], _, h => by unfold RepL at h ⊢; exact h
  | d :: ds, _, h => by
    unfold RepL at h ⊢
    obtain ⟨v, r, e1, p, q⟩ := h
    exact ⟨v, r, e1, Rep.same e d p, RepL.same e ds q⟩
end
theorem Cont.same {M N : Md} {F : Addr → Prop} {H : Hp} {P : HO → Prop} (e : Same M N) : ∀ {d : D}, Cont M F H P d → Cont N F H P d
  | .lst ds, ⟨vs, p, r⟩ => ⟨vs, p, RepL.same e ds r⟩
  | .dck ks ds, ⟨vs, p, k, r⟩ => ⟨vs, p, k, RepL.same e ds r⟩
  | .dct ks ds, ⟨vs, p, k, r⟩ => ⟨vs, p, k, RepL.same e ds r⟩
  | .ins c fs ds, ⟨C, dx, vs, m, p, k, r⟩ => ⟨C, dx, vs, by rw [← e.c, ← e.g]; exact m, p, k, RepL.same e ds r⟩
theorem SlR.same {M N : Md} {F : Addr → Prop} {H : Hp} (e : Same M N) : ∀ {s : Sl} {v : V}, SlR M F H s v → SlR N F H s v
  | .val d, _, h => Rep.same e d h
  | .own d, _, ⟨a, q, nf, c⟩ => ⟨a, q, nf, c.same e⟩
  | .ref d, _, ⟨a, q, nf, c⟩ => ⟨a, q, nf, c.same e⟩
  | .rd d, _, ⟨a, q, nf, c⟩ => ⟨a, q, nf, c.same e⟩
theorem SR.same {M N : Md} {F : Addr → Prop} {H : Hp} {σ : St} {ρ : En} (e : Same M N) (s : SR M F H σ ρ) (x : XnOk N F H σ) : SR N F H σ ρ :=
  ⟨s.len, s.dom, fun i t h => by obtain ⟨v, h1, h2⟩ := s.slot i t h; exact ⟨v, h1, h2.same e⟩, s.dist, x⟩
theorem PoS.same {M N : Md} {F F' : Addr → Prop} {H H' : Hp} {σ σ' : St} {ρ ρ' : En} (e : Same M N) (p : PoS M F H σ ρ F' H' σ' ρ') (x : XnOk N F' H' σ') : PoS N F H σ ρ F' H' σ' ρ' := ⟨p.stp, p.sr.same e x, p.kp⟩
theorem RtR.same {M N : Md} {O F : Addr → Prop} {H0 H : Hp} {r : Rv} {v : V} (e : Same M N) (h : RtR M O H0 F H r v) : RtR N O H0 F H r v := by
  cases r with
  | val d => exact Rep.same e d h
  | own d =>
    obtain ⟨a, q, nf, z, c⟩ := h
    exact ⟨a, q, nf, z, c.same e⟩
def Md.on (M : Md) (t : Xn) : Md := { M with xn := some t }
theorem same_on (M : Md) (t : Xn) : Same M (M.on t) := ⟨rfl, rfl, rfl, rfl⟩
theorem same_off (M : Md) (t : Xn) : Same (M.on t) M := ⟨rfl, rfl, rfl, rfl⟩

/-! ### try -/
def endK (i : Nat) : SO → SO
  | .nx ρ => .nx (ρ.set i none)
  | .bk ρ => .bk (ρ.set i none)
  | .ct ρ => .ct (ρ.set i none)
  | .rt r ρ => .rt r (ρ.set i none)
  | _ => .bad
def tryAs (body : SS) (tbl : Str → Option Bool) (i : Nat) (su : Ex → SS) : SS := fun ρ => match body ρ with
  | .exc x ρ' => (match tbl x.cls with
    | some true => if noRef (gt ρ' i) = true ∧ i < ρ'.length then endK i (su x (ρ'.set i none)) else .bad
    | some false => .exc x ρ'
    | none => .bad)
  | o => o
/-- the context of a suite -/
structure GX (M : Md) (cs : Cs) (k : Nat) (X : Cx) (a dx C : Addr) (oe : Obj) (pn : List (Addr × Obj)) (i : Nat) (x : Ex) : Prop where
  g : G0 (M.on ⟨i, a, dx, x.fs, x.ds⟩) cs k (X.suite a ((a, oe) :: pn))
  hz : Zc (.ref C) (some dx) oe
  hf : ∃ vs, oe.data = .fields vs
  hC : M.mg x.cls = some (.ref C)
/-- a def's own body (a block of a comprehension is none) -/
structure GF (M : Md) (cs : Cs) (W : WX) (k : Nat) (X : Cx) : Prop extends G M cs W k X where
  stk : X.stack = X.env :: X.outer
  frm : X.env.frame = some X.env.locals
section
variable {M : Md} {cs : Cs} {W : WX} {k : Nat} {X : Cx}
theorem GF.tr (g : GF M cs W k X) {W' : WX} {pn : List (Addr × Obj)} {xe : Value → Shared → Prop} (tk : Takes (X.tr pn xe) W') (ps : PassesOwn (model X.prog X.w) X.A X.env xe) : GF M cs W' k (X.tr pn xe) :=
  ⟨⟨⟨g.hP, g.hw, g.hb, g.hK, g.hmg, g.hN, g.nd, g.hsc, g.hfn, g.un⟩, g.calm, tk, g.room, ps, g.nx⟩, g.stk, g.frm⟩
theorem s_tryAs (g : GF M cs W k X) {i : Nat} {c n : Str} {cv : Value} {body suite : List Stmt} {b₀ : Stmt} {np pos pos' : Pos} {b : SS} {tbl : Str → Option Bool} {su : Ex → SS}
    (hi : cs.N[i]? = some n) (hln : cs.sc.names.lookup n = some .local) (hg : cs.sc.names.lookup c = some .globalImplicit) (hdb : (c == ("__debug__" : Str)) = false) (hcv : M.mg c = some cv)
    (htb : ∀ e C r, M.mg e = some (.ref C) → tbl e = some r → PySem.W.exmOne M.K (.ref C) cv = some r)
    (hb : ∀ X W, GF M cs W k X → PSs X body (tS M W b))
    (hsu : ∀ (a dx C : Addr) (oe : Obj) (pn : List (Addr × Obj)) (x : Ex), GX M cs k X a dx C oe pn i x → PSs (X.suite a ((a, oe) :: pn)) (b₀ :: suite) (tS (M.on ⟨i, a, dx, x.fs, x.ds⟩) WF (su x))) :
    PS X (.Try body [.ExceptHandler (some (.Name c np)) (some n) (b₀ :: suite) pos'] [] [] pos) (tS M W (tryAs b tbl i su)) := by
  let ts : Addr → Value → Option Addr → TS := fun a cls d D σ H => ∃ x F ρ, ExR M F H x cls d ∧ gv σ i = some (.ref a) ∧ SR M F H σ ρ ∧ ∀ t : Xn, t.i = i → WantS (M.on t) WF F H σ ρ (su x ρ) D
  refine PS_imp (ps_try_as (tb := fun W => tS M W b) (ts := ts) g.stk g.frm (by rw [g.hN]; exact g.nd) (by rw [g.hN]; exact hi) (show X.env.scope.names.lookup n = _ by rw [g.hsc]; exact hln) ⟨g.toG0.gl hg, hdb, .inl (by rw [g.hmg]; exact hcv)⟩ g.tk (fun W' pn xe tk ps => hb _ W' (g.tr tk ps)) fun a oe cls d pn hz hf => ?_) fun D σ H h => ?_
  · refine ⟨fun pins s σ H D I h => ?_⟩
    obtain ⟨x, F, ρ, ⟨C, dx, vs, hC, rfl, rfl, hF, hH, hk, l⟩, hv, sr, w⟩ := h
    have gx : GX M cs k X a dx C oe pn i x := ⟨⟨g.hP, g.hw, g.hb, g.hK, g.hmg, g.hN, g.nd, g.hsc, g.hfn, g.un⟩, hz, hf, hC⟩
    refine (hsu a dx C oe pn x gx).run pins s σ H D I ⟨F, ρ, sr.same (same_on M _) ⟨fun t e => ?_, sr.xn.2⟩, w _ rfl⟩
    cases e
    exact ⟨hv, hF, vs, hH, hk, RepL.same (same_on M _) _ l⟩
  · obtain ⟨F, ρ, s, h⟩ := h
    refine ⟨F, ρ, s, ?_⟩
    unfold tryAs at h
    cases e1 : b ρ with
    | nx ρ1 => simp only [e1] at h; exact h
    | bk ρ1 => simp only [e1] at h; exact h
    | ct ρ1 => simp only [e1] at h; exact h
    | rt r ρ1 => simp only [e1] at h; exact h
    | bad => simp only [e1] at h; exact h
    | exc x ρ1 =>
      simp only [e1] at h
      intro F1 H1 σ1 cls d po xr
      obtain ⟨C, dx, vs, hC, rfl, rfl, hF, hH, hk, l⟩ := xr
      cases e2 : tbl x.cls with
      | none => simp only [e2] at h; exact h.elim
      | some r =>
        refine ⟨r, by rw [g.hK]; exact htb _ C r hC e2, fun hr a ha => ?_, fun hr => ?_⟩
        · subst hr
          simp only [e2] at h
          by_cases hc : noRef (gt ρ1 i) = true ∧ i < ρ1.length
          · rw [if_pos hc] at h
            have h := h.step po
            have sf := (forget po.sr hc.1).sr
            -- the name holds the error
            have key : ∀ {j : Nat} {t : Sl}, gt (ρ1.set i none) j = some t → i ≠ j := fun {j t} h z => by
              subst z
              rw [gt_set_self hc.2] at h
              cases h
            have s2 : SR M F1 H1 (σ1.set i (some (.ref a))) (ρ1.set i none) := by
              refine ⟨by rw [List.length_set]; exact sf.len, sf.dom, fun j t h => ?_, fun j l t u b h1 h2 h3 h4 h5 h6 => ?_, .no g.nx sf.xn.2⟩
              · rw [gv_set_ne (key h)]
                exact sf.slot j t h
              · rw [gv_set_ne (key h1)] at h5
                rw [gv_set_ne (key h2)] at h6
                exact sf.dist j l t u b h1 h2 h3 h4 h5 h6
            have gvi : gv (σ1.set i (some (.ref a))) i = some (.ref a) := gv_set_self (by rw [po.sr.len]; exact hc.2)
            refine ⟨x, F1, ρ1.set i none, ⟨C, dx, vs, hC, rfl, rfl, hF, hH, hk, l⟩, gvi, s2, fun t ti => ?_⟩
            -- from the suite's end back
            have back : ∀ {F2 : Addr → Prop} {H2 : Hp} {σ2 : St} {ρ2 : En}, PoS (M.on t) F1 H1 (σ1.set i (some (.ref a))) (ρ1.set i none) F2 H2 σ2 ρ2 → PoS M F1 H1 σ1 ρ1 F2 H2 (σ2.set i none) (ρ2.set i none) := fun {F2 H2 σ2 ρ2} p => by
              have ow : ∀ b, OwnAt (σ1.set i (some (.ref a))) (ρ1.set i none) b → OwnAt σ1 ρ1 b := fun b ⟨j, d, h1, h2⟩ => by
                have hj := key h1
                rw [gt_set_ne hj] at h1
                rw [gv_set_ne hj] at h2
                exact ⟨j, d, h1, h2⟩
              have rf : ∀ b, RefAt (σ1.set i (some (.ref a))) (ρ1.set i none) b → RefAt σ1 ρ1 b := fun b ⟨j, d, h1, h2⟩ => by
                have hj := key h1
                rw [gt_set_ne hj] at h1
                rw [gv_set_ne hj] at h2
                exact ⟨j, d, h1, h2⟩
              have l2 : i < ρ2.length := by
                have := p.kp.1
                rw [List.length_set] at this
                rw [← this]
                exact hc.2
              have key2 : ∀ {j : Nat} {t : Sl}, gt (ρ2.set i none) j = some t → i ≠ j := fun {j t} h z => by
                subst z
                rw [gt_set_self l2] at h
                cases h
              refine ⟨⟨p.stp.fro, fun b o h1 h2 h3 => p.stp.keep b o h1 (fun z => h2 (ow b z)) fun z => h3 (rf b z), p.stp.dom, fun b h => ?_, fun b h => ?_, fun b h => ?_⟩, ⟨by rw [List.length_set, List.length_set]; exact p.sr.len, p.sr.dom, fun j u h => ?_, fun j l u w b h1 h2 h3 h4 h5 h6 => ?_, .no g.nx p.sr.xn.2⟩, by rw [List.length_set]; exact (List.length_set (as := ρ1)).symm.trans p.kp.1, fun j => ?_⟩
              · rcases p.stp.new b h with z | z | z
                · exact .inl z
                · exact .inr (.inl z)
                · exact .inr (.inr (ow b z))
              · obtain ⟨j, d, h1, h2⟩ := h
                have hj := key2 h1
                rw [gt_set_ne hj] at h1
                rw [gv_set_ne hj] at h2
                rcases p.stp.own b ⟨j, d, h1, h2⟩ with z | z
                · exact .inl (ow b z)
                · exact .inr z
              · obtain ⟨j, d, h1, h2⟩ := h
                have hj := key2 h1
                rw [gt_set_ne hj] at h1
                rw [gv_set_ne hj] at h2
                exact rf b (p.stp.ref b ⟨j, d, h1, h2⟩)
              · have hj := key2 h
                rw [gt_set_ne hj] at h
                rw [gv_set_ne hj]
                obtain ⟨v, k1, k2⟩ := p.sr.slot j u h
                exact ⟨v, k1, k2.same (same_off M t)⟩
              · have hj := key2 h1
                have hl := key2 h2
                rw [gt_set_ne hj] at h1
                rw [gt_set_ne hl] at h2
                rw [gv_set_ne hj] at h5
                rw [gv_set_ne hl] at h6
                exact p.sr.dist j l u w b h1 h2 h3 h4 h5 h6
              · by_cases hj : i = j
                · subst hj
                  rw [gt_set_self l2]
                  refine ⟨fun d h => ?_, fun d h => ?_, fun d h => (by cases h), fun d h => (by cases h)⟩
                  · have := hc.1; rw [h] at this; cases this
                  · have := hc.1; rw [h] at this; cases this
                · have z := p.kp.2 j
                  rw [gt_set_ne hj, gv_set_ne hj] at z
                  rw [gt_set_ne hj, gv_set_ne hj]
                  exact z
            cases e3 : su x (ρ1.set i none) with
            | nx ρ2 => rw [e3] at h; exact fun F2 H2 σ2 p => h F2 H2 _ (back p)
            | bk ρ2 => rw [e3] at h; exact fun F2 H2 σ2 p => h F2 H2 _ (back p)
            | ct ρ2 => rw [e3] at h; exact fun F2 H2 σ2 p => h F2 H2 _ (back p)
            | rt r ρ2 =>
              rw [e3] at h
              refine fun F2 H2 σ2 v p rt => h F2 H2 _ v (back p) ?_
              have rt := rt.same (same_off M t)
              cases r with
              | val d => exact rt
              | own d =>
                obtain ⟨b, q, nf, z, c⟩ := rt
                refine ⟨b, q, nf, z.imp id fun z => ?_, c⟩
                obtain ⟨j, d', h1, h2⟩ := z
                have hj := key h1
                rw [gt_set_ne hj] at h1
                rw [gv_set_ne hj] at h2
                exact ⟨j, d', h1, h2⟩
            | exc y ρ2 => rw [e3] at h; exact h.elim
            | bad => rw [e3] at h; exact h.elim
          · rw [if_neg hc] at h
            exact h.elim
        · subst hr
          simp only [e2] at h
          exact h F1 H1 σ1 (.ref C) (some dx) po ⟨C, dx, vs, hC, rfl, rfl, hF, hH, hk, l⟩
end
end VF

namespace VF
open PySem PySem.Spec PyProof.Rows L2

/-- what the written part says of an error's class -/
structure ExcK (K : PySem.W.Frag) (C : Addr) : Prop where
  cl : (PySem.W.clsIn K C).isSome = true
  ga : PySem.W.findIn K (.ref C) "__getattribute__" = some (some (.builtin "BaseException.__getattribute__"))
  gg : PySem.W.findIn K (.ref C) "__getattr__" = some none
  sub : PySem.W.subIn K (.ref C) (.type "BaseException") = some true
  hd : PySem.W.hasDictIn K C = true
  ca : PySem.W.findIn K (.ref C) "__class__" = some (some (.builtin "object.__class__"))
  cn : PySem.W.specialIn K (.builtin "object.__class__") "__get__" = some (some (.builtin "getset_descriptor.__get__"))
  ct : PySem.W.takesIn K (.builtin "object.__class__") = some true
  cm : PySem.W.mroIn K C (.type "object") = some true
theorem excK_of {K : PySem.W.Frag} {C : Addr} (h : excKB K C = true) : ExcK K C := by
  unfold excKB at h
  simp only [Bool.and_eq_true, decide_eq_true_eq] at h
  obtain ⟨h1, h2, h3, h4, h5, h6, h7, h8, h9⟩ := h
  exact ⟨h1, He.eqO_ok h2, He.eqO_ok h3, h4, h5, He.eqO_ok h6, He.eqO_ok h7, h8, h9⟩
def xis (tbl : Str → Option Bool) (x : Ex) : ES := fun ρ => match tbl x.cls with
  | some b => .ok (.val (.bl b)) ρ
  | none => .bad
section
variable {M : Md} {cs : Cs} {W : WX} {k : Nat} {X : Cx} {a dx C : Addr} {oe : Obj} {pn : List (Addr × Obj)} {i : Nat} {x : Ex}
/-- isinstance(e, c) -/
theorem call_isX (gx : GX M cs k X a dx C oe pn i x) (T : ExcK M.K C) : CallR (X.suite a ((a, oe) :: pn)) (.builtin "isinstance") (fun xs H Q => ∃ c u b vs, xs = [.ref a, c] ∧ ClsV c u ∧ H dx = some (.xd vs) ∧ PySem.W.kitOne M.K (.ref C) u = some b ∧ Q (.bl b) H) := by
  intro pins s σ H xs us Q I r h
  obtain ⟨c, u, b, vs, rfl, hc, hH, e, q⟩ := h
  obtain ⟨u1, u2, rfl, r1, r2⟩ := vals2 r
  cases r1
  have e2 := hc.eq r2
  subst e2
  have hK : X.K = M.K := gx.g.hK
  obtain ⟨hget, _⟩ := I.pin (a, oe) (List.mem_append.mpr (.inl List.mem_cons_self))
  obtain ⟨fv, hv⟩ := gx.hf
  obtain ⟨mA, hns, _⟩ := (show ObjOk X.prog X.w H s.heap dx (.xd vs) from I.hok dx _ hH)
  obtain ⟨od, ho, _⟩ := lookIn_ns hns
  have J : PySem.W.InstAt s.heap a oe C (some od) := ⟨hget, gx.hz.1, by unfold PySem.W.notCls; rw [hv] <;> rfl, by rw [gx.hz.2]; exact ho⟩
  have Kin : M.K.In s.heap := by rw [← hK]; exact I.kIn
  exact PySem.W.kia_one (PySem.W.kitx_exc T.cl T.ga T.gg T.sub T.ca T.cn T.ct T.cm) Kin J e (fun z => nomatch z) fun tk => ⟨.bl b, H, I.kept (t' := tk) fun _ _ z => z, rfl, q⟩
theorem e_isX (gx : GX M cs k X a dx C oe pn i x) {n c2 : Str} {cv : V} {u : Value} {tbl : Str → Option Bool} {p p1 p2 pos : Pos} (hi : cs.N[i]? = some n) (hv : Vis cs.sc n) (hd : (n == ("__debug__" : Str)) = false) (hcd : (n == ("__classdict__" : Str)) = false) (hg : cs.sc.names.lookup ("isinstance" : Str) = some .globalImplicit) (hm : M.mg "isinstance" = none)
    (hc : PE (X.suite a ((a, oe) :: pn)) (.Name c2 p2) (tC cv)) (hcv : ClsV cv u) (T : ExcK M.K C) (ht : ∀ b, tbl x.cls = some b → PySem.W.kitOne M.K (.ref C) u = some b) :
    PE (X.suite a ((a, oe) :: pn)) (.Call (.Name "isinstance" p) [.Name n p1, .Name c2 p2] [] pos) (tE (M.on ⟨i, a, dx, x.fs, x.ds⟩) W (xis tbl x)) := by
  refine PE_imp (pe_callB (call_isX gx T) (gx.g.gl hg) (show X.mg "isinstance" = none by rw [show X.mg = M.mg from gx.g.hmg]; exact hm) boot_isinstance (pa_cons (pe_var (X := X.suite a ((a, oe) :: pn)) (i := i) (show X.N[i]? = some n by rw [show X.N = cs.N from gx.g.hN]; exact hi) (gx.g.vis hv) hd hcd) (pa_cons hc pa_nil rfl) rfl) (by decide) rfl rfl rfl) fun σ H Q ⟨F, ρ, s, h⟩ => ?_
  obtain ⟨h1, h2, vs, h3, h4, h5⟩ := s.xn.1 _ rfl
  refine ⟨.ref a, gv_some h1, ?_⟩
  unfold xis at h
  cases e : tbl x.cls with
  | none => simp only [e] at h; exact h.elim
  | some b =>
    simp only [e] at h
    exact ⟨cv, u, b, vs, rfl, hcv, h3, ht b e, h F H (.refl s) (.bl b) (rep_bl b)⟩
end
end VF

namespace VF
open PySem PySem.Spec PyProof.Rows L2

section
variable {M : Md} {cs : Cs} {W : WX} {k : Nat} {X : Cx}
end
end VF

namespace VF
open PySem PySem.Spec PyProof.Rows L2

theorem init_why {M : Md} {qual : Str} {params : Arguments} {scope : Scope} {dvs : List V} {kws : List (Str × V)} {f : Addr} {fd : FuncData} {p1 p2 p3 p4 p5 p6 p7 p8 p9 p10 : Pos}
    (F : FunD M.K "__init__" qual params [.Expr (.Call (.Attribute (.Name "ValueError" p1) "__init__" p2) [.Name "self" p3, .Name "why" p4] [] p5) p6, .Assign [.Attribute (.Name "self" p7) "why" p8] (.Name "why" p9) p10] scope dvs kws f fd)
    (S : FnScope ["self", "why"] ["self", "why"] scope) (hg : scope.names.lookup ("ValueError" : Str) = some .globalImplicit) (h0 : Vis scope "self") (h1 : Vis scope "why") (hm : M.mg "ValueError" = none)
    {plq : Env → Sem Bool} (hev : ∀ env : Env, eval (.Call (.Attribute (.Name "ValueError" p1) "__init__" p2) [.Name "self" p3, .Name "why" p4] [] p5) env = (do
      let ov ← eval (.Name "ValueError" p1) env
      standAt p2.atName
      let (f, first) ← holding [ov] (getMethod ov "__init__" (plq env))
      callWith p5 f first (backTo p5 (starEach [.Name "self" p3, .Name "why" p4] env)) (backToKw p5 (keywordEach [] env))))
    (vV : PySem.W.findCls M.K (.type "ValueError") (.type "type") "__init__" = some (.val (.builtin "ValueError.__init__"))) : FnOk M.P M.w M.K M.mg M.base (CX M.P M.w) 1 f fd ["self", "why"] (spW M.K "why") := by
  refine F.ok (k := 0) S (fun vs H Q E h => ?_) fun cdv A outer s H vs Q E hr h => ?_
  · obtain ⟨a, C, w, rfl, _⟩ := h
    rfl
  · refine ⟨tSeq (tDrop (tVeI M.K (tCons (tVar 0) (tCons (tVar 1) tNil)))) (tOst M.K "why" (tVar 0) (tVar 1)), ?_, ?_⟩
    · have v0 : ∀ {pos : Pos}, PE (cxOf (CX M.P M.w) M.P M.w M.K M.mg M.base ["self", "why"] qual scope f cdv A outer s H E) (.Name "self" pos) (tVar 0) := fun {pos} => pe_var rfl h0 (by decide +kernel) (by decide +kernel)
      have v1 : ∀ {pos : Pos}, PE (cxOf (CX M.P M.w) M.P M.w M.K M.mg M.base ["self", "why"] qual scope f cdv A outer s H E) (.Name "why" pos) (tVar 1) := fun {pos} => pe_var rfl h1 (by decide +kernel) (by decide +kernel)
      exact pss_cons (ps_expr (pe_veinit hg hm vV (pa_cons v0 (pa_cons v1 pa_nil)) (hev _))) (pss_one (ps_ost v0 v1))
    · obtain ⟨a, C, w, rfl, T, hno, ha, q⟩ := h
      exact ⟨.ref a, rfl, w, rfl, a, C, [w], rfl, by simp, T, ha, w, rfl, .ref a, rfl, a, C, rfl, T, hno, .inl ⟨ha, fun dx h1 h2 => q dx h1 h2⟩⟩
end VF

namespace VF
open PySem PySem.Spec PyProof.Rows L2

structure InsK (K : PySem.W.Frag) (C : Addr) : Prop where
  cl : Cls K C
  ca : PySem.W.findIn K (.ref C) "__class__" = some (some (.builtin "object.__class__"))
  cn : PySem.W.specialIn K (.builtin "object.__class__") "__get__" = some (some (.builtin "getset_descriptor.__get__"))
  ct : PySem.W.takesIn K (.builtin "object.__class__") = some true
  cm : PySem.W.mroIn K C (.type "object") = some true
section
variable {M : Md} {cs : Cs} {W : WX} {k : Nat} {X : Cx}
end
end VF

namespace VF
open PySem PySem.Spec PyProof.Rows L2

structure FnVD (M : Md) (k : Nat) (x : Str) (np : Nat) (dd : List D) (φ : FSem) : Prop where
  ex : ∃ f fd ps dvs ds, FnOk M.P M.w M.K M.mg M.base (CX M.P M.w) k f fd ps (spF M np φ) ∧ M.mg x = some (.ref f) ∧ PySem.W.keepIn M.K (.ref f) = true ∧ ConstD M dd dvs ∧ Vals dvs ds ∧ Binds M.K fd ps ds
section
variable {M : Md} {cs : Cs} {W : WX} {k : Nat} {X : Cx}
end
end VF

namespace VF
open PySem PySem.Spec PyProof.Rows L2

section
variable {M : Md} {X : Cx} {cs : Cs} {W : WX} {k : Nat}
theorem wk_enum {K : PySem.W.Frag} {a : Addr} {ds : List D} (hK : K = M.K) : Wk M (Ite K a) [.lst ds] (ds.mapIdx fun i d => .tup [.int (i : Nat), d]) [.ref a] := fun i F H hd od => by
  obtain ⟨v, e, r⟩ := od.one
  cases e
  obtain ⟨b, vs, e, p, l⟩ := r.lst
  cases e
  have sq : SqL K H a vs := by rw [hK]; exact p
  refine ⟨fun hi => ⟨vs, sq, by rw [← l.length]; simpa using hi⟩, fun d hdd => ?_⟩
  rw [List.getElem?_mapIdx] at hdd
  obtain ⟨d0, h0, rfl⟩ := Option.map_eq_some_iff.mp hdd
  obtain ⟨v, h1, h2⟩ := RepL.get l h0
  refine ⟨⟨vs, v, sq, h1⟩, fun x H' y => ?_⟩
  obtain ⟨T, x0, rfl, hT, rfl, hy⟩ := y
  have z := hy vs sq
  rw [h1] at z
  cases z
  have nw : New F H F (upd H T (.tup [.int (i : Nat), v])) := New.laid hd hT
  exact ⟨F, nw, rv_tup hd hT (.cons (by unfold Rep; rfl) (.cons h2 .nil))⟩
end
end VF

namespace VF
open PySem PySem.Spec PyProof.Rows L2

section
variable {M : Md} {X : Cx} {cs : Cs} {W : WX} {k : Nat}
end
end VF

namespace VF
open PySem PySem.Spec PyProof.Rows L2
/-- what a dict holds at a key; none: no such question -/
def dAsk : D → D → Option (Option D)
  | .dck ks ds, e => match e.key? with
    | some k => some (kget ks ds k)
    | none => none
  | .dct ks ds, .tup es => if es.length = 2 then (match allOf D.key? es with
    | some k => some (kget ks ds k)
    | none => none) else none
  | _, _ => none
def D.isD : D → Bool
  | .dck _ _ => true
  | .dct _ _ => true
  | _ => false
section
variable {M : Md} {F : Addr → Prop} {H : Hp}
theorem ask_run {d e : D} {x y : V} {r : Option D} (h : dAsk d e = some r) (rx : OdR M F H d x) (ry : OdR M F H e y) : ∃ a o, x = .ref a ∧ DGet H a y o ∧ ((r = none ∧ o = none) ∨ ∃ w v, r = some w ∧ o = some v ∧ Rep M F H w v) := by
  cases d with
  | dck ks ds =>
    obtain ⟨a, vs, rfl, p1, k1, l1⟩ := rx.dck
    have h : (match e.key? with | some k => some (kget ks ds k) | none => none) = some r := h
    cases ek : e.key? with
    | none => rw [ek] at h; cases h
    | some k =>
      rw [ek] at h
      cases h
      subst k1
      rcases kget_val (x := k) l1 with ⟨z, z2⟩ | ⟨d', v', z1, z2, z3⟩
      · exact ⟨a, none, rfl, .inl ⟨vs, k, p1, key_rep ek ry, z2.symm⟩, .inl ⟨z, rfl⟩⟩
      · exact ⟨a, some v', rfl, .inl ⟨vs, k, p1, key_rep ek ry, z2.symm⟩, .inr ⟨d', v', z1, rfl, z3⟩⟩
  | dct ks ds =>
    obtain ⟨a, vs, rfl, p1, k1, l1⟩ := rx.dct
    cases e with
    | tup es =>
      have h : (if es.length = 2 then (match allOf D.key? es with | some k => some (kget ks ds k) | none => none) else none) = some r := h
      by_cases h2 : es.length = 2
      · rw [if_pos h2] at h
        cases ek : allOf D.key? es with
        | none => rw [ek] at h; cases h
        | some k =>
          rw [ek] at h
          cases h
          subst k1
          obtain ⟨b, ws, rfl, ⟨_, t2⟩, l2⟩ := ry.tup2
          have eb := t2 h2
          rw [keys_rep ek l2] at eb
          rcases kget_val (x := k) l1 with ⟨z, z2⟩ | ⟨d', v', z1, z2, z3⟩
          · exact ⟨a, none, rfl, .inr ⟨vs, k, b, p1, rfl, eb, z2.symm⟩, .inl ⟨z, rfl⟩⟩
          · exact ⟨a, some v', rfl, .inr ⟨vs, k, b, p1, rfl, eb, z2.symm⟩, .inr ⟨d', v', z1, rfl, z3⟩⟩
      · rw [if_neg h2] at h; cases h
    | _ => cases h
  | _ => cases h
end
def gItem : List D → Option Rv
  | [d, e] => if d.isD = true then (match dAsk d e with
    | some (some w) => some (.val w)
    | _ => none) else fItem [d, e]
  | _ => none
def gIn : List D → Option Rv
  | [e, d] => if d.isD = true then (match dAsk d e with
    | some r => some (.val (.bl r.isSome))
    | _ => none) else fIn [e, d]
  | _ => none
def gNotIn : List D → Option Rv
  | [e, d] => if d.isD = true then (match dAsk d e with
    | some r => some (.val (.bl (!r.isSome)))
    | _ => none) else fNotIn [e, d]
  | _ => none
def gLen : List D → Option Rv
  | [.dck ks _] => some (.val (.int ks.length))
  | [.dct ks _] => if ks.length ≤ 1000000 then some (.val (.int ks.length)) else none
  | xs => fLen xs
section
variable {M : Md} {X : Cx}
theorem i_gitem (hK : X.K = M.K) (hu : X.A.units + 1 < cLine) : IxR X (r2D M gItem) := by
  refine IxR_imp ((i_item hK hu).or (ix_dict hu)) fun x y H Q h => ?_
  obtain ⟨F, ds, rv, hd, od, ef, q⟩ := h
  match ds, od, ef with
  | [d, e], od, ef =>
    have ef : (if d.isD = true then (match dAsk d e with | some (some w) => some (Rv.val w) | _ => none) else fItem [d, e]) = some rv := ef
    by_cases hi : d.isD = true
    · rw [if_pos hi] at ef
      obtain ⟨v, w, e1, r1, r2⟩ := od.two
      cases e1
      cases ea : dAsk d e with
      | none => rw [ea] at ef; cases ef
      | some r =>
        rw [ea] at ef
        cases r with
        | none => cases ef
        | some z =>
          cases ef
          obtain ⟨a, o, ex, g, h3⟩ := ask_run ea r1 r2
          rcases h3 with ⟨h3, _⟩ | ⟨w', v', h3, h4, h5⟩
          · cases h3
          · cases h3
            subst h4
            exact .inr ⟨a, v', ex, g, rv_same hd q h5⟩
    · rw [if_neg hi] at ef
      exact .inl ⟨F, [d, e], rv, hd, od, ef, q⟩
  | [], _, ef => cases ef
  | [_], _, ef => cases ef
  | _ :: _ :: _ :: _, _, ef => cases ef
theorem o_gin (hK : X.K = M.K) (hu : X.A.units + 64 < cLine) : OpR X (compareOp .In) (r2D M gIn) := by
  intro pins s σ H x y v u Q I rx ry h
  obtain ⟨F, ds, rv, hd, od, ef, q⟩ := h
  match ds, od, ef with
  | [e, d], od, ef =>
    have ef : (if d.isD = true then (match dAsk d e with | some r => some (Rv.val (.bl r.isSome)) | _ => none) else fIn [e, d]) = some rv := ef
    by_cases hi : d.isD = true
    · rw [if_pos hi] at ef
      obtain ⟨v1, w1, e1, r1, r2⟩ := od.two
      cases e1
      cases ea : dAsk d e with
      | none => rw [ea] at ef; cases ef
      | some r =>
        rw [ea] at ef
        cases ef
        obtain ⟨a, o, ex, g, h3⟩ := ask_run ea r2 r1
        subst ex
        cases ry
        refine d_in (by omega) I g rx fun s' I' => ⟨.bl o.isSome, H, I', rfl, ?_⟩
        have eo : o.isSome = r.isSome := by
          rcases h3 with ⟨h3, h4⟩ | ⟨w', v', h3, h4, h5⟩
          · rw [h3, h4]; rfl
          · rw [h3, h4]; rfl
        rw [eo]
        exact rv_same hd q (rep_bl _)
    · rw [if_neg hi] at ef
      exact o_in hK hu pins s σ H x y v u Q I rx ry ⟨F, [e, d], rv, hd, od, ef, q⟩
  | [], _, ef => cases ef
  | [_], _, ef => cases ef
  | _ :: _ :: _ :: _, _, ef => cases ef
theorem o_gnotin (hK : X.K = M.K) (hu : X.A.units + 64 < cLine) : OpR X (compareOp .NotIn) (r2D M gNotIn) := by
  intro pins s σ H x y v u Q I rx ry h
  obtain ⟨F, ds, rv, hd, od, ef, q⟩ := h
  match ds, od, ef with
  | [e, d], od, ef =>
    have ef : (if d.isD = true then (match dAsk d e with | some r => some (Rv.val (.bl (!r.isSome))) | _ => none) else fNotIn [e, d]) = some rv := ef
    by_cases hi : d.isD = true
    · rw [if_pos hi] at ef
      obtain ⟨v1, w1, e1, r1, r2⟩ := od.two
      cases e1
      cases ea : dAsk d e with
      | none => rw [ea] at ef; cases ef
      | some r =>
        rw [ea] at ef
        cases ef
        obtain ⟨a, o, ex, g, h3⟩ := ask_run ea r2 r1
        subst ex
        cases ry
        refine d_notIn (by omega) I g rx fun s' I' => ⟨.bl (!o.isSome), H, I', rfl, ?_⟩
        have eo : o.isSome = r.isSome := by
          rcases h3 with ⟨h3, h4⟩ | ⟨w', v', h3, h4, h5⟩
          · rw [h3, h4]; rfl
          · rw [h3, h4]; rfl
        rw [eo]
        exact rv_same hd q (rep_bl _)
    · rw [if_neg hi] at ef
      exact o_notin hK hu pins s σ H x y v u Q I rx ry ⟨F, [e, d], rv, hd, od, ef, q⟩
  | [], _, ef => cases ef
  | [_], _, ef => cases ef
  | _ :: _ :: _ :: _, _, ef => cases ef
theorem c_glen (hK : X.K = M.K) : CallR X (.builtin "len") (rDs M gLen) := by
  intro pins s σ H xs us Q I r h
  obtain ⟨F, ds, rv, hd, od, ef, q⟩ := h
  unfold gLen at ef
  split at ef
  · cases ef
    obtain ⟨v, rfl, r1⟩ := od.one
    obtain ⟨a, vs, rfl, p1, k1, l1⟩ := r1.dck
    obtain ⟨u, rfl, ru⟩ := vals1 r
    cases ru
    subst k1
    refine d_len I p1 fun t s' I' => ⟨.int _, H, I', ⟨t, rfl⟩, ?_⟩
    rw [show vs.length = (vs.map (·.1)).length by simp]
    exact rv_same hd q (rep_int _)
  · split at ef
    · cases ef
      obtain ⟨v, rfl, r1⟩ := od.one
      obtain ⟨a, vs, rfl, p1, k1, l1⟩ := r1.dct
      obtain ⟨u, rfl, ru⟩ := vals1 r
      cases ru
      subst k1
      obtain ⟨z, hdm, ys, rel, dd⟩ := dt_rd I.hok p1
      have hl : vs.length = ys.length := Paired.length rel
      refine call_len_dictH hdm dd (by rw [← hl]; rw [sizeLine_eq] at z; omega) ?_
      rw [← hl]
      refine ⟨.int _, H, I.tok _, ⟨_, rfl⟩, ?_⟩
      rw [show vs.length = (vs.map (·.1)).length by simp]
      exact rv_same hd q (rep_int _)
    · cases ef
  · exact c_len hK pins s σ H xs us Q I r ⟨F, _, rv, hd, od, ef, q⟩
end
section
variable {M : Md} {cs : Cs} {W : WX} {k : Nat} {X : Cx}
theorem e_gix {a b : Expr} {pos : Pos} {oa ob : Opd} (g : G0 M cs k X) (ha : PE X a (tO M W oa)) (hb : PE X b (tO M W ob)) (hs : PlainIx b) : PE X (.Subscript a b pos) (tE M W (app gItem [oa, ob])) :=
  PE_imp (pe_ix (i_gitem g.hK g.hu1) ha hb hs) fun σ H Q h => app_run (prim_ok M gItem) h
end
end VF

namespace VF
open PySem PySem.Spec PyProof.Rows L2
def kset {κ : Type} [DecidableEq κ] (k : κ) (d : D) : List κ → List D → List D
  | g :: ks, e :: ds => (if g = k then d else e) :: kset k d ks ds
  | _, _ => []
def kput {κ : Type} [DecidableEq κ] (ks : List κ) (ds : List D) (k : κ) (d : D) : List κ × List D := if (ks.any fun g => decide (g = k)) = true then (ks, kset k d ks ds) else (ks ++ [k], ds ++ [d])
section
variable {M : Md} {F : Addr → Prop} {H : Hp}
theorem kset_rep {κ : Type} [DecidableEq κ] {k : κ} {d : D} {v : V} (r : Rep M F H d v) : ∀ {kvs : List (κ × V)} {ds : List D}, RepL M F H ds (kvs.map (·.2)) → RepL M F H (kset k d (kvs.map (·.1)) ds) ((kvs.map fun kv => if kv.1 = k then (kv.1, v) else kv).map (·.2))
  | [], ds, h => by
    cases ds with
    | nil => exact .nil
    | cons e ds => unfold RepL at h; obtain ⟨w, q, z, _⟩ := h; cases z
  | (g, w) :: kvs, ds, h => by
    cases ds with
    | nil => unfold RepL at h; cases h
    | cons e ds =>
      unfold RepL at h
      obtain ⟨w', q, z, p, l⟩ := h
      cases z
      simp only [List.map_cons, kset]
      by_cases hg : g = k
      · rw [if_pos hg, if_pos hg]; exact .cons r (kset_rep r l)
      · rw [if_neg hg, if_neg hg]; exact .cons p (kset_rep r l)
theorem kput_rep {κ : Type} [DecidableEq κ] {k : κ} {d : D} {v : V} (r : Rep M F H d v) {kvs : List (κ × V)} {ds : List D} (l : RepL M F H ds (kvs.map (·.2))) :
    (L2.putK kvs k v).map (·.1) = (kput (kvs.map (·.1)) ds k d).1 ∧ RepL M F H (kput (kvs.map (·.1)) ds k d).2 ((L2.putK kvs k v).map (·.2)) := by
  have ha : ((kvs.map (·.1)).any fun g => decide (g = k)) = kvs.any fun kv => decide (kv.1 = k) := by rw [List.any_map]; rfl
  by_cases h : (kvs.any fun kv => decide (kv.1 = k)) = true
  · have e1 : L2.putK kvs k v = kvs.map fun kv => if kv.1 = k then (kv.1, v) else kv := if_pos h
    have e2 : kput (kvs.map (·.1)) ds k d = (kvs.map (·.1), kset k d (kvs.map (·.1)) ds) := if_pos (by rw [ha]; exact h)
    rw [e1, e2]
    refine ⟨?_, kset_rep r l⟩
    rw [List.map_map]
    apply List.map_congr_left
    intro kv _
    show (if kv.1 = k then (kv.1, v) else kv).1 = kv.1
    split <;> rfl
  · have e1 : L2.putK kvs k v = kvs ++ [(k, v)] := if_neg h
    have e2 : kput (kvs.map (·.1)) ds k d = (kvs.map (·.1) ++ [k], ds ++ [d]) := if_neg (by rw [ha]; exact h)
    rw [e1, e2]
    refine ⟨by simp, ?_⟩
    rw [List.map_append]
    exact l.append (.cons r .nil)
end
/-- the dict behind d[e] = v -/
def dPut : D → D → D → Option D
  | .dck ks ds, e, v => match e.key? with
    | some k => if ks.length < sizeLine then some (.dck (kput ks ds k v).1 (kput ks ds k v).2) else none
    | none => none
  | .dct ks ds, .tup es, v => if es.length = 2 ∧ ks.length < sizeLine then (match allOf D.key? es with
    | some k => some (.dct (kput ks ds k v).1 (kput ks ds k v).2)
    | none => none) else none
  | _, _, _ => none
def stG (v k d : D) : Option (Unit × D) := match d with
  | .lst ds => stD v k (.lst ds)
  | d => (dPut d k v).map fun d' => ((), d')
section
variable {M : Md} {F : Addr → Prop} {H : Hp}
theorem put_dict {d e w d' : D} {a : Addr} {y v : V} (h : dPut d e w = some d') (c : Cont M F H (fun u => H a = some u) d) (ry : OdR M F H e y) (rv : Rep M F H w v) : ∃ u, DPut H a y v (upd H a u) ∧ Cont M F H (fun z => z = u) d' := by
  cases d with
  | dck ks ds =>
    obtain ⟨vs, hp, k1, l1⟩ := c
    have h : (match e.key? with | some k => if ks.length < sizeLine then some (D.dck (kput ks ds k w).1 (kput ks ds k w).2) else none | none => none) = some d' := h
    cases ek : e.key? with
    | none => rw [ek] at h; cases h
    | some k =>
      rw [ek] at h
      simp only at h
      split at h
      · rename_i hl
        cases h
        subst k1
        obtain ⟨z1, z2⟩ := kput_rep (k := k) rv l1
        refine ⟨.dK (L2.putK vs k v), .inl ⟨vs, k, hp, key_rep ek ry, by simpa using hl, rfl⟩, L2.putK vs k v, rfl, z1, z2⟩
      · cases h
  | dct ks ds =>
    cases e with
    | tup es =>
      obtain ⟨vs, hp, k1, l1⟩ := c
      have h : (if es.length = 2 ∧ ks.length < sizeLine then (match allOf D.key? es with | some k => some (D.dct (kput ks ds k w).1 (kput ks ds k w).2) | none => none) else none) = some d' := h
      by_cases h2 : es.length = 2 ∧ ks.length < sizeLine
      · rw [if_pos h2] at h
        cases ek : allOf D.key? es with
        | none => rw [ek] at h; cases h
        | some k =>
          rw [ek] at h
          cases h
          subst k1
          obtain ⟨b, ws, rfl, ⟨_, t2⟩, l2⟩ := ry.tup2
          have eb := t2 h2.1
          rw [keys_rep ek l2] at eb
          obtain ⟨z1, z2⟩ := kput_rep (k := k) rv l1
          exact ⟨.dT (L2.putK vs k v), .inr ⟨vs, k, b, hp, rfl, eb, by simpa using h2.2, rfl⟩, L2.putK vs k v, rfl, z1, z2⟩
      · rw [if_neg h2] at h; cases h
    | _ => cases h
  | _ => cases h
end
def storeG (i : Nat) (ix : Opd) (φ : ES) : SS := fun ρ => (φ ρ).bindS fun r ρ1 => ((Opd.sl i).ev ρ1).bindS fun _ ρ1 => (ix.ev ρ1).bindS fun y ρ2 => match y.dat ρ2 with
  | some k => (match mutS i (stG r.d k) ρ2 with
    | some (_, ρ3) => .nx ρ3
    | none => .bad)
  | none => .bad
section
variable {M : Md} {cs : Cs} {W : WX} {k : Nat} {X : Cx}
theorem set_ld (hu : X.A.units + 1 < cLine) : PSet X (fun o i v H Q => rSetL o i v H Q ∨ rSetD o i v H Q) := fun pins s σ H o i v ov iv u Q I ro ri rv h => h.elim (set_list pins s σ H o i v ov iv u Q I ro ri rv) (set_dict hu pins s σ H o i v ov iv u Q I ro ri rv)
theorem s_storeG (g : G M cs W k X) {i : Nat} {x : Str} {ie e : Expr} {p1 p2 pos : Pos} {ix : Opd} {φ : ES} (hi : cs.N[i]? = some x) (hv : Vis cs.sc x) (hd : (x == ("__debug__" : Str)) = false) (hcd : (x == ("__classdict__" : Str)) = false) (he : PE X e (tE M W φ)) (hix : PE X ie (tO M W ix))
    (ha : ∀ v, assign (.Subscript (.Name x p1) ie p2) X.env v = (do
      let ov ← holding [v] (eval (.Name x p1) X.env)
      let iv ← holding [v, ov] (eval ie X.env)
      standAt p2
      holding [v, ov, iv] (setItem ov iv v)
      release [v, ov, iv] []))
    (hs : swapsWithSole [.Subscript (.Name x p1) ie p2] e pos.line X.env = pure false) (hw : swappedStores [.Subscript (.Name x p1) ie p2] e X.env = pure none) (h1 : (assignEach [.Subscript (.Name x p1) ie p2] X.env).map (·.2) = [assign (.Subscript (.Name x p1) ie p2) X.env]) :
    PS X (.Assign [.Subscript (.Name x p1) ie p2] e pos) (tS M W (storeG i ix φ)) := by
  refine PS_imp (ps_asg he (pg_sub (pe_var (by rw [g.hN]; exact hi) (g.vis hv) hd hcd) hix (set_ld g.hu1) ha) hs hw h1) fun D σ H ⟨F, ρ, s, h⟩ => tE_of s ((bindS_want h).mono fun r F1 H1 ρ1 po z v rv => ?_)
  obtain ⟨F2, po2, rp, _⟩ := freeze s po rv
  have z := z.step po2.s
  refine bindS_sl po2.sr z fun t w _ ew _ z => ?_
  refine bindS_op po2.sr z fun y F4 H4 ρ4 kv po4 rk z => ?_
  cases e1 : y.dat ρ4 with
  | none => simp only [e1] at z; exact z.elim
  | some kd =>
    simp only [e1] at z
    cases e2 : mutS i (stG r.d kd) ρ4 with
    | none => simp only [e2] at z; exact z.elim
    | some q =>
      obtain ⟨_, ρ5⟩ := q
      simp only [e2] at z
      obtain ⟨p, d, d', ep, nf, ef, c, put⟩ := mut_slot po4.sr e2
      rw [ew] at ep
      cases ep
      have rp4 := Rep.mono (po4.ext po2.sr) _ rp
      by_cases hl : ∃ ds, d = .lst ds
      · obtain ⟨ds, rfl⟩ := hl
        have ef : stD r.d kd (.lst ds) = some ((), d') := ef
        unfold stD at ef
        simp only at ef
        split at ef
        · obtain ⟨n, en, e3⟩ := Option.map_eq_some_iff.mp ef
          cases e3
          obtain ⟨vs, hp, l⟩ := c
          cases (rk.od po4.sr e1).int
          refine .inl ⟨p, vs, _, n, rfl, rfl, hp, by rw [← l.length]; exact en, ?_⟩
          exact z F4 _ σ (put _ ⟨_, rfl, RepL_set rp4 n l⟩).s
        · cases ef
      · have ef : (dPut d kd r.d).map (fun d' => ((), d')) = some ((), d') := by
          cases d <;> first | exact ef | exact absurd ⟨_, rfl⟩ hl
        obtain ⟨d2, e3, e4⟩ := Option.map_eq_some_iff.mp ef
        cases e4
        obtain ⟨u, g1, c1⟩ := put_dict e3 c (rk.od po4.sr e1) rp4
        exact .inr ⟨p, _, rfl, g1, z F4 _ σ (put u c1).s⟩
end
end VF

namespace VF
open PySem PySem.Spec PyProof.Rows L2
section
variable {M : Md} {cs : Cs} {W : WX} {k : Nat} {X : Cx}
end
end VF

namespace VF
open PySem PySem.Spec PyProof.Rows L2
theorem en_ext {ρ ρ' : En} (hl : ρ.length = ρ'.length) (h : ∀ j, gt ρ j = gt ρ' j) : ρ = ρ' := by
  apply List.ext_getElem? 
  intro j
  by_cases hj : j < ρ.length
  · have h1 : ρ[j]? = some ρ[j] := List.getElem?_eq_getElem hj
    have h2 : ρ'[j]? = some ρ'[j] := List.getElem?_eq_getElem (by omega)
    have := h j
    unfold gt at this
    rw [h1, h2] at this
    simp only [Option.join_some] at this
    rw [h1, h2, this]
  · rw [List.getElem?_eq_none (by omega), List.getElem?_eq_none (by omega)]
/-- the state within a comprehension, told from the state ahead of it: what is gathered stands at D -/
structure Bt (M : Md) (F1 : Addr → Prop) (H1 : Hp) (σb : St) (ρb : En) (D : Addr) (σi : St) (ρi : En) (acc : VF.D) (F : Addr → Prop) (H : Hp) (ρ : En) : Prop where
  stp : Stp F1 H1 (OwnAt σb ρb) (RefAt σb ρb) F H (OwnAt σi ρ) (RefAt σi ρ)
  sr : SR M F H σi ρ
  kp : Kp ρi ρ
  nf : ¬ F D
  con : Cont M F H (fun u => H D = some u) acc
/-- the names within, as told from those ahead -/
def Nm (σb : St) (ρb : En) (σi : St) (ρi : En) : Prop := ∀ j u, gt ρi j = some u → u.top = true → (∃ u', gt ρb j = some u' ∧ u'.top = true) ∧ gv σi j = gv σb j
section
variable {M : Md} {F1 : Addr → Prop} {H1 : Hp} {σb : St} {ρb : En} {D : Addr} {σi : St} {ρi : En} {acc acc' : VF.D} {F F' : Addr → Prop} {H H' : Hp} {ρ ρ' : En}
theorem Nm.kp (n : Nm σb ρb σi ρi) (k : Kp ρi ρ) : Nm σb ρb σi ρ := fun j u h1 h2 => by
  obtain ⟨u', a, b⟩ := k.top_of h1 h2
  exact n j u' a b
theorem Nm.notD (n : Nm σb ρb σi ρi) (s1 : SR M F1 H1 σb ρb) (hD : H1 D = none) {j : Nat} {u : Sl} (h1 : gt ρi j = some u) (h2 : u.top = true) : gv σi j ≠ some (.ref D) := fun z => by
  obtain ⟨⟨u', a1, a2⟩, e⟩ := n j u h1 h2
  obtain ⟨b, w, e2, _, q⟩ := s1.top_at a1 a2
  rw [e, e2] at z
  cases z
  rw [hD] at q
  cases q
theorem Bt.po (b : Bt M F1 H1 σb ρb D σi ρi acc F H ρ) (n : Nm σb ρb σi ρi) (s1 : SR M F1 H1 σb ρb) (hD : H1 D = none) (p : Po M F H σi ρ F' H' ρ') : Bt M F1 H1 σb ρb D σi ρi acc F' H' ρ' := by
  have nm := n.kp b.kp
  have no : ¬ OwnAt σi ρ D := fun ⟨j, d, h1, h2⟩ => nm.notD s1 hD h1 rfl h2
  have nr : ¬ RefAt σi ρ D := fun ⟨j, d, h1, h2⟩ => nm.notD s1 hD h1 rfl h2
  obtain ⟨u, hu, _⟩ := b.con.some_of
  refine ⟨b.stp.trans p.stp, p.sr, b.kp.trans p.kp, fun z => ?_, b.con.mono (p.ext b.sr) fun w hw => (p.stp.keep D w hw no nr).no b.nf⟩
  rcases p.stp.new D z with y | y | y
  · exact b.nf y
  · rw [hu] at y; cases y
  · exact no y
theorem Bt.write (b : Bt M F1 H1 σb ρb D σi ρi acc F H ρ) (n : Nm σb ρb σi ρi) (s1 : SR M F1 H1 σb ρb) (hD : H1 D = none) {u : HO} (c : Cont M F H (fun w => w = u) acc') : Bt M F1 H1 σb ρb D σi ρi acc' F (upd H D u) ρ := by
  have nm := n.kp b.kp
  obtain ⟨w, hw, hm⟩ := b.con.some_of
  have x : Ext F H F (upd H D u) := mut_ext b.nf hw hm
  refine ⟨⟨b.stp.fro, fun a o e n1 n2 => ?_, fun a e => ?_, b.stp.new, b.stp.own, b.stp.ref⟩, b.sr.fro x (fun j t a o h1 h2 h3 h4 => ?_) (fun a f => ?_) (mut_tab b.nf), b.kp, b.nf, c.mono x fun z hz => by rw [hz]; exact upd_same⟩
  · rw [upd_ne (ne_of_none e hD)]
    exact b.stp.keep a o e n1 n2
  · by_cases hb : a = D
    · rw [hb]; exact hD
    · rw [upd_ne hb] at e
      exact b.stp.dom a e
  · have ne : a ≠ D := fun z => by
      subst z
      exact nm.notD s1 hD h1 h2 h3
    obtain ⟨b1, w1, e1, nf1, _⟩ := b.sr.top_at h1 h2
    rw [h3] at e1
    cases e1
    exact ⟨nf1, by rw [upd_ne ne]; exact h4⟩
  · by_cases hb : a = D
    · exact absurd (by rw [← hb]; exact f) b.nf
    · rw [upd_ne hb]; exact b.sr.dom a f
theorem Bt.start (s1 : SR M F1 H1 σb ρb) (hD : H1 D = none) {u : HO} (c : Cont M F1 H1 (fun w => w = u) acc) : Bt M F1 H1 σb ρb D σb ρb acc F1 (upd H1 D u) ρb := by
  have nw : New F1 H1 F1 (upd H1 D u) := New.laid s1.dom hD
  exact ⟨(nw.po s1).stp, (nw.po s1).sr, .refl _, fun z => s1.dom D z hD, c.mono nw.ext fun z hz => by rw [hz]; exact upd_same⟩
/-- J stands at the i-th of the items -/
def WkAt (M : Md) (J : It) (items : List VF.D) (i : Nat) (F : Addr → Prop) (H : Hp) : Prop := (items.length ≤ i → J.stop i H) ∧ ∀ d, items[i]? = some d → J.go i H ∧ ∀ x H', J.yld i H x H' → ∃ F', New F H F' H' ∧ Rep M F' H' d x
/-- the loop, whatever is gathered -/
def loopG (tg : Tg) (own : List Nat) (t : BS) (body : En → VF.D → Out VF.D) : List VF.D → En → VF.D → Out VF.D
  | [], ρ, acc => .ok acc ρ
  | d :: ds, ρ, acc => match put tg d ρ with
    | none => .bad
    | some ρ1 => (t ρ1).bind fun b ρ2 => if b then (body ρ2 acc).bind fun acc' ρ3 => loopG tg own t body ds (wp own ρ3) acc' else loopG tg own t body ds (wp own ρ2) acc
/-- what is wanted of it -/
def Wb (M : Md) (F1 : Addr → Prop) (H1 : Hp) (σb : St) (ρb : En) (D : Addr) (σi : St) (ρi : En) (F0 : Addr → Prop) (H0 : Hp) (Q : Hp → Prop) : Out VF.D → Prop
  | .ok acc ρ' => ∀ F H, Ext F0 H0 F H → Bt M F1 H1 σb ρb D σi ρi acc F H ρ' → Q H
  | _ => False
end
theorem turns {M : Md} {F1 : Addr → Prop} {H1 : Hp} {σb : St} {ρb : En} {D : Addr} {own : List Nat} {tg : Tg} {t : BS} {σ : St} {ρi : En} {Q : Hp → Prop} {J : It} {items : List VF.D} {K : PySem.W.Frag} {Bd : St → Hp → (Hp → Prop) → Prop} {body : En → VF.D → Out VF.D} {acc0 : VF.D} {F0 : Addr → Prop} {H0 : Hp} {ρ0 : En}
    (hx : M.xn = none) (hK : K = M.K) (hD : H1 D = none) (s1 : SR M F1 H1 σb ρb) (nm : Nm σb ρb (wipe σ own) ρi) (hno : ∀ j, j ∈ own → gt ρi j = none) (htg : ∀ j, j ∈ tgs tg → j ∈ own) 
    (src : ∀ i F H ρ acc, Ext F0 H0 F H → Bt M F1 H1 σb ρb D (wipe σ own) ρi acc F H ρ → WkAt M J items i F H)
    (hB : ∀ σ2 ρ2 acc F H Nx, Nm σb ρb σ2 ρ2 → Bt M F1 H1 σb ρb D σ2 ρ2 acc F H ρ2 → (∀ j, j ∈ own → j ∉ tgs tg → gt ρ2 j = none) → Wb M F1 H1 σb ρb D σ2 ρ2 F H Nx (body ρ2 acc) → Bd σ2 H Nx)
    (b0 : Bt M F1 H1 σb ρb D (wipe σ own) ρi acc0 F0 H0 ρ0) (h : Wb M F1 H1 σb ρb D (wipe σ own) ρi F0 H0 Q (loopG tg own t body items ρ0 acc0)) :
    ∃ Wd : Nat → Nat → Hp → Prop, (∃ m, Wd 0 m H0) ∧ ∀ i m H, Wd i m H → (J.stop i H ∧ Q H) ∨ (J.go i H ∧ ∃ Nx : Hp → Prop, (∀ H', Nx H' → ∃ m', m' < m ∧ Wd (i + 1) m' H') ∧
      ∀ x H', J.yld i H x H' → gT K tg x (wipe σ own) H' fun σ2 H2 => wipe σ2 own = wipe σ own ∧ tT M WF t σ2 H2 fun b H3 => if b = true then Bd σ2 H3 Nx else Nx H3) := by
  let Pv : Nat → Hp → Prop := fun i H => ∃ F ρ acc, Ext F0 H0 F H ∧ Bt M F1 H1 σb ρb D (wipe σ own) ρi acc F H ρ ∧ Wb M F1 H1 σb ρb D (wipe σ own) ρi F0 H0 Q (loopG tg own t body (items.drop i) ρ acc)
  refine ⟨fun i m H => m = items.length - i ∧ i ≤ items.length ∧ Pv i H, ⟨items.length, by simp, Nat.zero_le _, F0, ρ0, acc0, .refl _ _, b0, h⟩, ?_⟩
  rintro i m H ⟨rfl, hi, F, ρ, acc, xt, bt, fin⟩
  obtain ⟨w1, w2⟩ := src i F H ρ acc xt bt
  by_cases hlt : i < items.length
  · obtain ⟨go, yl⟩ := w2 _ (List.getElem?_eq_getElem hlt)
    refine .inr ⟨go, Pv (i + 1), fun H' p' => ⟨items.length - (i + 1), by omega, rfl, hlt, p'⟩, fun x H' y => ?_⟩
    obtain ⟨F', nw, rx⟩ := yl x H' y
    rw [List.drop_eq_getElem_cons hlt] at fin
    unfold loopG at fin
    cases e1 : put tg items[i] ρ with
    | none => simp only [e1] at fin; exact fin.elim
    | some ρ1 =>
      simp only [e1] at fin
      have pn := nw.po bt.sr
      have bn := bt.po nm s1 hD pn
      refine put_run hx hK tg pn.sr rx e1 fun σ2 po2 up top2 => ?_
      have hno' : ∀ j, j ∈ own → gt ρ j = none := fun j hj => by
        have z := bt.kp.2 j
        rw [hno j hj] at z
        cases e : gt ρ j with
        | none => rfl
        | some u => rw [e] at z; exact z.elim
      have gv2 : ∀ j, j ∉ own → gv σ2 j = gv (wipe σ own) j := fun j hj => by
        unfold gv
        rw [(up.2 j fun z => hj (htg j z)).1]
      have nm1 : Nm σb ρb σ2 ρ1 := fun j u h1 h2 => by
        have a3 := top2 j u h1 h2
        have nj : j ∉ own := fun z => by rw [hno' j z] at a3; cases a3
        obtain ⟨a4, a5⟩ := nm.kp bt.kp j u a3 h2
        exact ⟨a4, (gv2 j nj).trans a5⟩
      have b1 : Bt M F1 H1 σb ρb D σ2 ρ1 acc F' H' ρ1 := ⟨bn.stp.trans po2.stp, po2.sr, .refl _, bn.nf, bn.con⟩
      -- behind the turn
      have back : ∀ {ρ2 : En} {acc3 : VF.D} {F3 : Addr → Prop} {H3 : Hp} {ρ3 : En}, Kp ρ1 ρ2 → Bt M F1 H1 σb ρb D σ2 ρ2 acc3 F3 H3 ρ3 → Bt M F1 H1 σb ρb D (wipe σ own) ρi acc3 F3 H3 (wp own ρ3) := fun {ρ2 acc3 F3 H3 ρ3} k12 b3 => by
        have mk : Mask σ2 ρ3 (wipe σ own) (wp own ρ3) := by
          refine ⟨?_, wp_length _ _, fun j u h => ?_⟩
          · rw [up.1]
          · by_cases hj : j ∈ own
            · rw [wp_in own hj] at h; cases h
            · rw [wp_out own hj] at h
              exact ⟨(gv2 j hj).symm, .inl h⟩
        refine ⟨b3.stp.weak (fun a z => mk.own z) fun a z => mk.ref z, b3.sr.mask hx mk, ⟨?_, fun j => ?_⟩, b3.nf, b3.con⟩
        · rw [wp_length]
          exact bt.kp.1.trans (po2.kp.1.trans (k12.1.trans b3.kp.1))
        · by_cases hj : j ∈ own
          · rw [wp_in own hj, hno j hj]
            trivial
          · rw [wp_out own hj]
            refine (bt.kp.2 j).trans ?_
            have z := (k12.trans b3.kp).2 j
            rw [(up.2 j fun z => hj (htg j z)).2] at z
            exact z
      refine ⟨(wipe_eq (σ := wipe σ own) (σ' := σ2) (S' := tgs tg) (by rw [up.1]) (fun j hj => (up.2 j hj).1) htg).trans wipe_wipe, F', ρ1, po2.sr, ?_⟩
      cases e2 : t ρ1 with
      | bad => simp only [e2, Out.bind] at fin; exact fin.elim
      | exc xx ρ9 => simp only [e2, Out.bind] at fin; exact fin.elim
      | ok b ρ2 =>
        simp only [e2, Out.bind] at fin
        intro F3 H3 po3
        have b3 := b1.po nm1 s1 hD po3
        have xt3 : Ext F0 H0 F3 H3 := xt.trans (nw.ext.trans (po3.ext po2.sr))
        cases b with
        | false =>
          simp only [Bool.false_eq_true, if_false] at fin ⊢
          exact ⟨F3, wp own ρ2, acc, xt3, back (ρ2 := ρ1) (.refl _) b3, fin⟩
        | true =>
          simp only [if_true] at fin ⊢
          have b4 : Bt M F1 H1 σb ρb D σ2 ρ2 acc F3 H3 ρ2 := ⟨b3.stp, b3.sr, .refl _, b3.nf, b3.con⟩
          refine hB σ2 ρ2 acc F3 H3 (Pv (i + 1)) (nm1.kp po3.kp) b4 (fun j h1 h2 => ?_) ?_
          · have z := po3.kp.2 j
            rw [(up.2 j h2).2, hno' j h1] at z
            cases e : gt ρ2 j with
            | none => rfl
            | some u => rw [e] at z; exact z.elim
          · cases e3 : body ρ2 acc with
            | bad => simp only [e3, Out.bind] at fin; exact fin.elim
            | exc xx ρ9 => simp only [e3, Out.bind] at fin; exact fin.elim
            | ok acc' ρ3 =>
              simp only [e3, Out.bind] at fin
              intro F4 H4 x4 b5
              exact ⟨F4, wp own ρ3, acc', xt3.trans x4, back po3.kp b5, fin⟩
  · have e : i = items.length := by omega
    subst e
    refine .inl ⟨w1 (Nat.le_refl _), ?_⟩
    rw [List.drop_length] at fin
    exact fin F H xt bt
end VF

namespace VF
open PySem PySem.Spec PyProof.Rows L2
theorem RepL.ods {M : Md} {F : Addr → Prop} {H : Hp} : ∀ {ds : List D} {vs : List V}, RepL M F H ds vs → OdRs M F H ds vs
  | [], _, h => by unfold RepL at h; exact h
  | d :: ds, _, h => by
    unfold RepL at h
    obtain ⟨v, r, e, p, q⟩ := h
    exact ⟨v, r, e, .inl p, q.ods⟩
theorem lk_vals {ρ : En} : ∀ {xs : List Ov} {ds : List D}, vals xs = some ds → lk xs ρ = ρ
  | [], _, _ => rfl
  | .val d :: xs, ds, e => by
    unfold vals at e
    cases e1 : vals xs with
    | none => rw [e1] at e; cases e
    | some r => exact lk_vals (xs := xs) e1
  | .at _ :: _, _, e => by cases e
section
variable {M : Md} {F : Addr → Prop} {H : Hp} {σ : St} {ρ : En} {own : List Nat}
theorem own_unwipe (h : ∀ j, j ∈ own → gt ρ j = none) {a : Addr} : OwnAt σ ρ a ↔ OwnAt (wipe σ own) ρ a := by
  constructor
  · rintro ⟨i, d, h1, h2⟩
    exact ⟨i, d, h1, by rw [wipe_gv fun z => by rw [h i z] at h1; cases h1]; exact h2⟩
  · rintro ⟨i, d, h1, h2⟩
    exact ⟨i, d, h1, by rw [wipe_gv fun z => by rw [h i z] at h1; cases h1] at h2; exact h2⟩
theorem ref_unwipe (h : ∀ j, j ∈ own → gt ρ j = none) {a : Addr} : RefAt σ ρ a ↔ RefAt (wipe σ own) ρ a := by
  constructor
  · rintro ⟨i, d, h1, h2⟩
    exact ⟨i, d, h1, by rw [wipe_gv fun z => by rw [h i z] at h1; cases h1]; exact h2⟩
  · rintro ⟨i, d, h1, h2⟩
    exact ⟨i, d, h1, by rw [wipe_gv fun z => by rw [h i z] at h1; cases h1] at h2; exact h2⟩
theorem SR.unwipe (hx : M.xn = none) (s : SR M F H (wipe σ own) ρ) (h : ∀ j, j ∈ own → gt ρ j = none) : SR M F H σ ρ := by
  have g : ∀ i t, gt ρ i = some t → gv (wipe σ own) i = gv σ i := fun i t e => wipe_gv fun z => by rw [h i z] at e; cases e
  refine ⟨by rw [← s.len, wipe_length], s.dom, fun i t e => ?_, fun i j t u a e1 e2 h1 h2 h3 h4 => ?_, XnOk.no hx s.xn.2⟩
  · obtain ⟨v, e2, r⟩ := s.slot i t e
    exact ⟨v, by rw [← g i t e]; exact e2, r⟩
  · exact s.dist i j t u a e1 e2 h1 h2 (by rw [g i t e1]; exact h3) (by rw [g j u e2]; exact h4)
end
def compG (src : Src) (tg : Tg) (own : List Nat) (t : BS) (body : En → D → Out D) (init : D) : ES := fun ρ => (evs src.ops ρ).bind fun xs ρ1 => match vals xs with
  | some ds => (match src.f ds with
    | some items => (noX (loopG tg own t body items (wp own ρ1) init)).bind fun out ρ2 => .ok (.own out) (rst ρ1 own ρ2)
    | none => .bad)
  | none => .bad
/-- the reading of a comprehension of any kind -/
def tCG (wi : TI) (g : TG) (tt : TT) (Bd : Addr → St → Hp → (Hp → Prop) → Prop) (u0 : HO) (vs : List Nat) : TE := fun σ H Q => wi σ H fun J H1 => ∀ D, H1 D = none → ∃ W : Nat → Nat → Hp → Prop, (∃ m, W 0 m (upd H1 D u0)) ∧ ∀ i m H, W i m H →
  (J.stop i H ∧ Q (.ref D) H) ∨ (J.go i H ∧ ∃ Nx : Hp → Prop, (∀ H', Nx H' → ∃ m', m' < m ∧ W (i + 1) m' H') ∧ ∀ x H', J.yld i H x H' → g x (wipe σ vs) H' fun σ2 H2 => wipe σ2 vs = wipe σ vs ∧ tt σ2 H2 fun b H3 => if b = true then Bd D σ2 H3 Nx else Nx H3)
/-- a body that gathers at D -/
def BdOk (M : Md) (free : List Nat) (body : En → D → Out D) (Bd : Addr → St → Hp → (Hp → Prop) → Prop) : Prop := ∀ (F1 : Addr → Prop) (H1 : Hp) (σb : St) (ρb : En) (D : Addr), H1 D = none → SR M F1 H1 σb ρb →
  ∀ σ2 ρ2 acc F H Nx, Nm σb ρb σ2 ρ2 → Bt M F1 H1 σb ρb D σ2 ρ2 acc F H ρ2 → (∀ j, j ∈ free → gt ρ2 j = none) → Wb M F1 H1 σb ρb D σ2 ρ2 F H Nx (body ρ2 acc) → Bd D σ2 H Nx
section
variable {M : Md} {W : WX} {F : Addr → Prop} {H : Hp} {σ : St} {ρ : En}
theorem compG_run {src : Src} {tg : Tg} {own free : List Nat} {t : BS} {body : En → D → Out D} {init : D} {u0 : HO} {Bd : Addr → St → Hp → (Hp → Prop) → Prop} {K : PySem.W.Frag} (hx : M.xn = none) (hK : K = M.K) (htg : ∀ j, j ∈ tgs tg → j ∈ own) (hfr : ∀ j, j ∈ free → j ∈ own ∧ j ∉ tgs tg) (hB : BdOk M free body Bd) (hi : ∀ F H, Cont M F H (fun w => w = u0) init) {Q : VK} (h : tE M W (compG src tg own t body init) σ H Q) :
    tCG (tI M W src) (gT K tg) (tT M WF t) Bd u0 own σ H Q := by
  obtain ⟨F, ρ, s, h⟩ := h
  show tOs M W src.ops σ H fun vs H1 => rIt M src.f vs H1 _
  refine ops_run _ s ((Want.bind h).mono fun xs F1 H1 ρ1 po1 q vs rs => ?_)
  have q := q po1
  cases e1 : vals xs with
  | none => simp only [e1] at q; exact q.elim
  | some ds =>
    simp only [e1] at q
    cases e2 : src.f ds with
    | none => simp only [e2] at q; exact q.elim
    | some items =>
      simp only [e2] at q
      have rl := vals_rep e1 rs
      refine ⟨F1, ds, items, po1.sr.dom, rl.ods, e2, fun J wk hz => fun D hD => ?_⟩
      have mk : Mask σ ρ1 (wipe σ own) (wp own ρ1) := by
        have z := mask_blk (σ := σ) (ρ := ρ1) (own := own) (xs := xs)
        rw [lk_vals e1] at z
        exact z
      have sm := po1.sr.mask hx mk
      refine turns (M := M) (Bd := Bd D) (Q := fun H => Q (.ref D) H) (σ := σ) (ρi := wp own ρ1) (body := body) hx hK hD sm (fun j u h1 h2 => ⟨⟨u, h1, h2⟩, rfl⟩) (fun j hj => wp_in own hj) htg (fun i F2 H2 ρ2 acc _ bt => wk i F2 H2 bt.sr.dom (RepL.mono (sm.ext bt.stp) _ rl).ods)
        (fun σ2 ρ2 acc F H Nx n b h1 h2 => hB F1 H1 (wipe σ own) (wp own ρ1) D hD sm σ2 ρ2 acc F H Nx n b (fun j hj => h1 j (hfr j hj).1 (hfr j hj).2) h2) (Bt.start sm hD (hi F1 H1)) ?_
      cases e3 : loopG tg own t body items (wp own ρ1) init with
      | bad => simp only [e3, noX, Out.bind] at q; exact q.elim
      | exc x ρ9 => simp only [e3, noX, Out.bind] at q; exact q.elim
      | ok out ρ2 =>
        simp only [e3, noX, Out.bind] at q
        intro F2 H2 _ bt
        have po2 := po1.sr.unmask hx (S := own) mk (fun j hj => ⟨wp_out own hj, wipe_gv hj⟩) (fun j t1 hj h1 h2 => by rw [wp_in own hj] at h1; cases h1) bt.stp bt.sr bt.kp
        exact q F2 H2 po2 (po1.trans po2) (.ref D) ⟨D, rfl, bt.nf, po1.stp.dom D hD, bt.con⟩
end
/-- a loop within -/
def inB (src : Src) (tg : Tg) (own : List Nat) (t : BS) (body : En → D → Out D) : En → D → Out D := fun ρ acc => (evs src.ops ρ).bind fun xs ρ1 => match vals xs with
  | some ds => (match src.f ds with
    | some items => loopG tg own t body items (wp own ρ1) acc
    | none => .bad)
  | none => .bad
def BdIn (wi1 : TI) (g1 : TG) (tt1 : TT) (Bd : Addr → St → Hp → (Hp → Prop) → Prop) (vs1 : List Nat) : Addr → St → Hp → (Hp → Prop) → Prop := fun D σ2 H3 Nx => wi1 σ2 H3 fun J1 H4 => ∃ W1 : Nat → Nat → Hp → Prop, (∃ m, W1 0 m H4) ∧ ∀ j k H, W1 j k H →
  (J1.stop j H ∧ Nx H) ∨ (J1.go j H ∧ ∃ Nx1 : Hp → Prop, (∀ H', Nx1 H' → ∃ k', k' < k ∧ W1 (j + 1) k' H') ∧ ∀ x H', J1.yld j H x H' → g1 x (wipe σ2 vs1) H' fun σ3 H5 => wipe σ3 vs1 = wipe σ2 vs1 ∧ tt1 σ3 H5 fun b H6 => if b = true then Bd D σ3 H6 Nx1 else Nx1 H6)
theorem bd_in {M : Md} {src : Src} {tg : Tg} {own free : List Nat} {t : BS} {body : En → D → Out D} {Bd : Addr → St → Hp → (Hp → Prop) → Prop} {K : PySem.W.Frag} (hx : M.xn = none) (hK : K = M.K) (htg : ∀ j, j ∈ tgs tg → j ∈ own) (hfr : ∀ j, j ∈ free → j ∈ own ∧ j ∉ tgs tg) (hB : BdOk M free body Bd) : BdOk M own (inB src tg own t body) (BdIn (tI M WF src) (gT K tg) (tT M WF t) Bd own) := by
  intro F1 H1 σb ρb D hD s1 σ2 ρ2 acc F H Nx nm bt hno hw
  show tOs M WF src.ops σ2 H fun vs H1 => rIt M src.f vs H1 _
  refine ops_run _ bt.sr ?_
  unfold inB at hw
  cases e0 : evs src.ops ρ2 with
  | bad => rw [e0] at hw; exact hw.elim
  | exc x ρ9 => rw [e0] at hw; exact hw.elim
  | ok xs ρ3 =>
    rw [e0] at hw
    intro F3 H3 po3 vs rs
    have hw : Wb M F1 H1 σb ρb D σ2 ρ2 F H Nx (match vals xs with
      | some ds => (match src.f ds with
        | some items => loopG tg own t body items (wp own ρ3) acc
        | none => .bad)
      | none => .bad) := hw
    cases e1 : vals xs with
    | none => rw [e1] at hw; exact hw.elim
    | some ds =>
      rw [e1] at hw
      simp only at hw
      cases e2 : src.f ds with
      | none => rw [e2] at hw; exact hw.elim
      | some items =>
        rw [e2] at hw
        simp only at hw
        have rl := vals_rep e1 rs
        have b3 := bt.po nm s1 hD po3
        have hno3 : ∀ j, j ∈ own → gt ρ3 j = none := fun j hj => by
          have z := po3.kp.2 j
          rw [hno j hj] at z
          cases e : gt ρ3 j with
          | none => rfl
          | some u => rw [e] at z; exact z.elim
        have ew : wp own ρ3 = ρ3 := en_ext (wp_length _ _) fun j => by
          by_cases ho : j ∈ own
          · rw [wp_in own ho, hno3 j ho]
          · exact wp_out own ho
        rw [ew] at hw
        have mk : Mask σ2 ρ3 (wipe σ2 own) ρ3 := ⟨wipe_length _ _, rfl, fun j t h => ⟨wipe_gv (fun z => by rw [hno3 j z] at h; cases h), .inl h⟩⟩
        have b4 : Bt M F1 H1 σb ρb D (wipe σ2 own) ρ3 acc F3 H3 ρ3 := ⟨b3.stp.weak (fun a z => mk.own z) fun a z => mk.ref z, b3.sr.mask hx mk, .refl _, b3.nf, b3.con⟩
        have nm4 : Nm σb ρb (wipe σ2 own) ρ3 := fun j u h1 h2 => by
          obtain ⟨a1, a2⟩ := nm.kp po3.kp j u h1 h2
          exact ⟨a1, by rw [wipe_gv fun z => by rw [hno3 j z] at h1; cases h1]; exact a2⟩
        refine ⟨F3, ds, items, b3.sr.dom, rl.ods, e2, fun J wk hz => ?_⟩
        refine turns (M := M) (Bd := Bd D) (Q := Nx) (σ := σ2) (ρi := ρ3) (body := body) hx hK hD s1 nm4 hno3 htg (fun i F5 H5 ρ5 acc5 x5 b5 => wk i F5 H5 b5.sr.dom (RepL.mono x5 _ rl).ods) (fun σ5 ρ5 acc5 F5 H5 Nx5 n b h1 h2 => hB F1 H1 σb ρb D hD s1 σ5 ρ5 acc5 F5 H5 Nx5 n b (fun j hj => h1 j (hfr j hj).1 (hfr j hj).2) h2) b4 ?_
        · cases e3 : loopG tg own t body items ρ3 acc with
          | bad => rw [e3] at hw; exact hw.elim
          | exc x ρ9 => rw [e3] at hw; exact hw.elim
          | ok out ρ6 =>
            rw [e3] at hw
            intro F6 H6 x6 b6
            have hno6 : ∀ j, j ∈ own → gt ρ6 j = none := fun j hj => by
              have z := b6.kp.2 j
              rw [hno3 j hj] at z
              cases e : gt ρ6 j with
              | none => rfl
              | some u => rw [e] at z; exact z.elim
            exact hw F6 H6 ((po3.ext bt.sr).trans x6) ⟨b6.stp.weak (fun a z => (own_unwipe hno6).mp z) fun a z => (ref_unwipe hno6).mp z, b6.sr.unwipe hx hno6, po3.kp.trans b6.kp, b6.nf, b6.con⟩
end VF

namespace VF
open PySem PySem.Spec PyProof.Rows L2
def lsB (φ : ES) : En → D → Out D := fun ρ acc => (φ ρ).bind fun r ρ' => match acc with
  | .lst ds => if ds.length < sizeLine then .ok (.lst (ds ++ [r.d])) ρ' else .bad
  | _ => .bad
def BdL (te : TE) : Addr → St → Hp → (Hp → Prop) → Prop := fun D σ2 H3 Nx => te σ2 H3 fun y H4 => ∃ acc, H4 D = some (.lst acc) ∧ acc.length < sizeLine ∧ Nx (upd H4 D (.lst (acc ++ [y])))
theorem bd_lst {M : Md} {free : List Nat} {φ : ES} : BdOk M free (lsB φ) (BdL (tE M WF φ)) := by
  intro F1 H1 σb ρb D hD s1 σ2 ρ2 acc F H Nx nm bt hno hw
  refine ⟨F, ρ2, bt.sr, ?_⟩
  unfold lsB at hw
  cases e0 : φ ρ2 with
  | bad => rw [e0] at hw; exact hw.elim
  | exc x ρ9 => rw [e0] at hw; exact hw.elim
  | ok r ρ3 =>
    rw [e0] at hw
    intro F3 H3 po3 v rv
    obtain ⟨F4, po4, rp, _⟩ := freeze bt.sr po3 rv
    have b4 := bt.po nm s1 hD po4
    cases acc with
    | lst ds =>
      have hw : Wb M F1 H1 σb ρb D σ2 ρ2 F H Nx (if ds.length < sizeLine then .ok (.lst (ds ++ [r.d])) ρ3 else .bad) := hw
      by_cases hl : ds.length < sizeLine
      · rw [if_pos hl] at hw
        obtain ⟨vs, hv, l⟩ := b4.con
        obtain ⟨u, hu, hm⟩ := b4.con.some_of
        refine ⟨vs, hv, by rw [← l.length]; exact hl, hw F4 _ ((po4.ext bt.sr).trans (mut_ext b4.nf hu hm)) (b4.write nm s1 hD ⟨_, rfl, l.append (.cons rp .nil)⟩)⟩
      · rw [if_neg hl] at hw; exact hw.elim
    | _ => exact hw.elim
section
variable {M : Md} {cs : Cs} {W : WX} {k : Nat} {X : Cx}
structure Lc2Ok (M : Md) (cs : Cs) (k : Nat) (scope : Scope) (tg elt : Expr) (ifs : List Expr) (tg1 iter1 : Expr) (ifs1 : List Expr) (T : Tg) (t : BS) (src1 : Src) (T1 : Tg) (t1 : BS) (φ : ES) : Prop where
  hg : ∀ X, G M (cs.blk scope) WF k X → PG X tg (gT X.K T)
  ht : ∀ X, G M (cs.blk scope) WF k X → PTs X ifs (tT M WF t)
  hi1 : ∀ X, G M (cs.blk scope) WF k X → PI X tg1 iter1 (tI M WF src1)
  hg1 : ∀ X, G M (cs.blk scope) WF k X → PG X tg1 (gT X.K T1)
  ht1 : ∀ X, G M (cs.blk scope) WF k X → PTs X ifs1 (tT M WF t1)
  he : ∀ X, G M (cs.blk scope) WF k X → PE X elt (tE M WF φ)
theorem all_mem {a b : List Nat} (h : (a.all fun j => b.contains j) = true) : ∀ j, j ∈ a → j ∈ b := fun j hj => List.contains_iff_mem.mp (List.all_eq_true.mp h j hj)
theorem e_lc2 (g : G M cs W k X) {elt tg iter tg1 iter1 : Expr} {ifs ifs1 : List Expr} {scope : Scope} {own : List (Str × Nat)} {vs1 : List Nat} {pos : Pos} {src src1 : Src} {T T1 : Tg} {t t1 : BS} {φ : ES} (hi : PI X tg iter (tI M W src)) (ok : blkC cs.N cs.sc scope own = true)
    (htg : ((tgs T).all fun j => (own.map (·.2)).contains j) = true) (htg1 : ((tgs T1).all fun j => vs1.contains j) = true) (hv : (vs1.all fun j => (own.map (·.2)).contains j && !(tgs T).contains j) = true) (lc : Lc2Ok M cs k scope tg elt ifs tg1 iter1 ifs1 T t src1 T1 t1 φ) (hs : ∀ x, foldedSetIterable iter X.env x = pure x) (hs1 : ∀ env x, foldedSetIterable iter1 env x = pure x) :
    PE X (.ListComp elt [⟨tg, iter, ifs, 0⟩, ⟨tg1, iter1, ifs1, 0⟩] scope pos) (tE M W (compG src T (own.map (·.2)) t (inB src1 T1 vs1 t1 (lsB φ)) (.lst []))) := by
  have hv2 : ∀ j, j ∈ vs1 → j ∈ own.map (·.2) ∧ j ∉ tgs T := fun j hj => by
    have z := List.all_eq_true.mp hv j hj
    simp only [Bool.and_eq_true, List.contains_iff_mem] at z
    exact ⟨z.1, by simpa using z.2⟩
  refine PE_imp (pe_lc2 (g := gT X.K T) (tt := tT M WF t) (wi1 := tI M WF src1) (g1 := gT X.K T1) (tt1 := tT M WF t1) (te := tE M WF φ) (vs1 := vs1) g.calm (by rw [g.hN]; exact g.nd) hi (blkOk_by (by rw [g.hN, g.hsc]; exact ok)) (fun i hi => (hv2 i hi).1)
    (fun s H C cl fp => lc.hg _ (g.blk s H scope cl C fp)) (fun s H C cl fp => lc.ht _ (g.blk s H scope cl C fp)) (fun s H C cl fp => lc.hi1 _ (g.blk s H scope cl C fp)) (fun s H C cl fp => lc.hg1 _ (g.blk s H scope cl C fp)) (fun s H C cl fp => lc.ht1 _ (g.blk s H scope cl C fp)) (fun s H C cl fp => lc.he _ (g.blk s H scope cl C fp)) hs hs1) fun σ H Q h => ?_
  exact compG_run (free := vs1) g.nx g.hK (all_mem htg) hv2 (bd_in (free := []) g.nx g.hK (all_mem htg1) (fun j hj => by cases hj) bd_lst) (init := .lst []) (u0 := .lst []) (fun F H => ⟨[], rfl, .nil⟩) h
structure DcOk (M : Md) (cs : Cs) (k : Nat) (scope : Scope) (tg kx vx : Expr) (ifs : List Expr) (T : Tg) (t : BS) (κ φ : ES) : Prop where
  hg : ∀ X, G M (cs.blk scope) WF k X → PG X tg (gT X.K T)
  ht : ∀ X, G M (cs.blk scope) WF k X → PTs X ifs (tT M WF t)
  hk : ∀ X, G M (cs.blk scope) WF k X → PE X kx (tE M WF κ)
  he : ∀ X, G M (cs.blk scope) WF k X → PE X vx (tE M WF φ)
end
end VF

namespace VF
open PySem PySem.Spec PyProof.Rows L2
end VF

namespace VF
open PySem PySem.Spec PyProof.Rows L2

/-! ### dicts of pairs: items and values -/
section
variable {P : Program} {w : World} {K : PySem.W.Frag} {d : Addr} {o : Obj} {es : Array DictEntry} {ep : Nat}
end

/-! ### a source that locks the dict it walks -/
section
variable {X : Cx} {e : Expr} {td : TE} {apos cpos : Pos}
end
end VF

namespace VF
open PySem PySem.Spec PyProof.Rows L2

section
variable {M : Md} {F : Addr → Prop} {H : Hp}
end

/-! ### the source -/
section
variable {M : Md} {W : WX} {F : Addr → Prop} {H : Hp} {σ : St} {ρ : En}
/-- how a dict's walk is told of -/
structure WkD (M : Md) (f : D → Option (List D)) (JK : Addr → Obj → List (Key × V) → It) (JT : Addr → Obj → List (List Key × V) → It) : Prop where
  no : ∀ d items, f d = some items → d.isD = true
  k : ∀ {F : Addr → Prop} {H : Hp} {a : Addr} {o : Obj} {vs : List (Key × V)} {ds items : List D} {i : Nat}, f (.dck (vs.map (·.1)) ds) = some items → (∀ a, F a → H a ≠ none) → H a = some (.frz o (.dK vs)) → RepL M F H ds (vs.map (·.2)) → WkAt M (JK a o vs) items i F H
  t : ∀ {F : Addr → Prop} {H : Hp} {a : Addr} {o : Obj} {vs : List (List Key × V)} {ds items : List D} {i : Nat}, f (.dct (vs.map (·.1)) ds) = some items → (∀ a, F a → H a ≠ none) → H a = some (.frz o (.dT vs)) → RepL M F H ds (vs.map (·.2)) → WkAt M (JT a o vs) items i F H
end
section
variable {M : Md} {cs : Cs} {W : WX} {k : Nat} {X : Cx} {e : Expr} {φ : ES} {apos cpos : Pos}
end

/-! ### comprehensions and loops -/
section
variable {M : Md} {W : WX} {F : Addr → Prop} {H : Hp} {σ : St} {ρ : En}
end
section
variable {M : Md} {cs : Cs} {W : WX} {k : Nat} {X : Cx}
end
end VF

namespace VF
open PySem PySem.Spec PyProof.Rows L2

/-! ### one dict into another -/
def mergeG {κ : Type} [DecidableEq κ] (kvs more : List (κ × V)) : List (κ × V) := more.foldl (fun acc kv => L2.putK acc kv.1 kv.2) kvs
section
variable {M : Md} {F : Addr → Prop} {H : Hp}
end
/-! ### tuple(list), known to bear no dict -/
/-! ### dict(pairs) -/
section
variable {M : Md} {F : Addr → Prop} {H : Hp} {X : Cx}
end
end VF

namespace VF
open PySem PySem.Spec PyProof.Rows L2
section
variable {M : Md} {X : Cx}
theorem KT.all {H : Hp} : ∀ {more : List (List Key × V)} {ps : List (List Key × Addr × Value)} {kvs : List (List Key × V)} {xs : List (List Key × Addr × Value)}, KT H more ps → KT H kvs xs → KT H (mergeG kvs more) (storedAllH xs ps)
  | [], _, kvs, xs, .nil, r => r
  | p :: more, q :: ps, kvs, xs, .cons h t, r => by
    obtain ⟨e1, e2, e3⟩ := h
    show KT H (mergeG (L2.putK kvs p.1 p.2) more) (storedAllH (storedH xs q.1 q.2.1 q.2.2) ps)
    refine KT.all t ?_
    rw [← e1]
    exact r.put p.1 e2 e3
end
end VF

namespace VF
open PySem PySem.Spec PyProof.Rows L2
theorem enum_newB {v : Value} {o : Obj} {H : Heap → Prop} (B : Begins v o H) : Meets (Builtin.«enumerate.__new__» ⟨[.type "enumerate", v], []⟩) (fun _ R s => H s.heap ∧
      R (.ok (.ret (.ref (s.heap.push o).objs.size))) { s with heap := (s.heap.push o).push { cls := .type "enumerate", data := .fields #[.none, .bool false, .ref s.heap.objs.size, rawInt 0, .none, .none] } }) :=
  .of_wp fun prog w A R s h => by
    obtain ⟨hp, g, d, tk, os⟩ := s
    obtain ⟨h1, h⟩ := h
    have hsub := sub_enumerate
    have q1 : ∀ {A' : Around} {E : Value → Shared → Prop} {Q : Value → Shared → Prop}, Q (.ref hp.objs.size) ⟨hp.push o, g, d, tk, os⟩ → wpAny (model prog w) A' (pyIter v) Q E ⟨hp, g, d, tk, os⟩ :=
      fun q => B.iter prog w _ _ ⟨hp, g, d, tk, os⟩ _ h1 q
    wp_walk using q1
    refine wpAny_stack_any fun st => wpAny_pure ?_
    split
    · rename_i c _ _ _ _ _
      cases (c == Value.type "enumerate") <;> (wp_walk using q1; exact ⟨_, rfl, h⟩)
    · wp_walk using q1
      exact ⟨_, rfl, h⟩
theorem call_enumB {prog : Program} {w : World} {A : Around} {E : Value → Shared → Prop} {s : Shared} {v : Value} {o : Obj} {H : Heap → Prop} {Q : Value → Shared → Prop} (B : Begins v o H) (h1 : H s.heap)
    (h : ∀ h', IsEnum h' (s.heap.objs.size + 1) s.heap.objs.size 0 .none → h'.get? s.heap.objs.size = some o → (∀ b o, s.heap.get? b = some o → h'.get? b = some o) → Q (.ref (s.heap.objs.size + 1)) { s with heap := h' }) :
    wpAny (model prog w) A (call (.type "enumerate") [v]) Q E s := by
  refine callType_new PySem.F.called_enumerate (by decide) (PySem.F.typeCall_enumerate_1 _) (PySem.F.newCall_enumerate_1 _) (fun obj => PySem.F.args_object_init_2 obj _) PySem.F.entry_enumerate_new (enum_newB B) ⟨h1, ?_⟩
  have hz : (s.heap.push o).objs.size = s.heap.objs.size + 1 := Heap.size_push ..
  show _ ∧ _
  rw [hz]
  have he : IsEnum ((s.heap.push o).push { cls := .type "enumerate", data := .fields #[.none, .bool false, .ref s.heap.objs.size, rawInt 0, .none, .none] }) (s.heap.objs.size + 1) s.heap.objs.size 0 .none := by
    have z := Heap.get?_push_size (s.heap.push o) (o := { cls := .type "enumerate", data := .fields #[.none, .bool false, .ref s.heap.objs.size, rawInt 0, .none, .none] }) rfl
    rw [hz] at z
    exact z
  exact ⟨⟨_, he, rfl⟩, h _ he (Heap.get?_push_of_some _ (Heap.get?_push_size _ B.free)) fun b o x => Heap.get?_push_of_some _ (Heap.get?_push_of_some _ x)⟩
def IteT (K : PySem.W.Frag) (a : Addr) : It :=
  ⟨fun i H => ∃ (xs : List V) (x : V), SqT K H a xs ∧ xs[i]? = some x, fun i H v H' => ∃ T x, v = .ref T ∧ H T = none ∧ H' = upd H T (.tup [.int (i : Nat), x]) ∧ ∀ xs, SqT K H a xs → xs[i]? = some x, fun i H => ∃ xs : List V, SqT K H a xs ∧ xs.length ≤ i⟩
theorem turn_enumT {P : Program} {w : World} {K : PySem.W.Frag} {elts : List Expr} {kk : Nat} {tpos : Pos} (a e it : Addr) (hea : e ≠ a) (hia : a ≠ it) :
    Turn P w K (.Tuple elts kk tpos) (IteT K a) [e, it] e (fun i h => (∃ old, IsEnum h e it ((i : Nat) : Int) old) ∧ h.IsTupleIter it a i ∧ e ≠ it) where
  mem := by simp
  obj := fun i h st b hb => by
    obtain ⟨⟨old, he⟩, ⟨o, ho, hc, hd⟩, _⟩ := st
    rcases (show b = e ∨ b = it by simpa using hb) with z | z
    · rw [z]; exact ⟨_, he, fun v q => nomatch q⟩
    · rw [z]; exact ⟨o, ho, fun v q => by rw [hd] at q; cases q⟩
  keep := fun i h h' st k => let ⟨⟨old, he⟩, hi, hne⟩ := st; ⟨⟨old, k e (by simp) _ he⟩, hi.at fun o q => k it (by simp) o q, hne⟩
  item := by
    intro X hP hw hK hc i pins s σ H E J hf st hg
    subst hP hw hK
    obtain ⟨⟨old, he⟩, hit, hne⟩ := st
    obtain ⟨xs, x, hq, hx⟩ := hg
    obtain ⟨its, rv, p, hz⟩ := J.tuple hq
    obtain ⟨u, hu, ru⟩ := rv.get hx
    have hel : e < s.heap.objs.size := Heap.lt_size he
    have hil : it < s.heap.objs.size := by obtain ⟨_, q, _⟩ := hit; exact Heap.lt_size q
    have D := Draws.tuple (prog := X.prog) (w := X.w) (A := X.A.in1) (J.ok.hd hc) it a hia its.toArray
    have hi : i < its.toArray.size := by
      have := (List.getElem?_eq_some_iff.mp hu).1
      simpa using this
    refine wpAny_pyNext_enum_itemD D he ⟨hit, p⟩ hi hne (by simp [hne, hea]) fun y h' tk hy ho st' hT hsz hk => ?_
    have hy : its.toArray[i]? = some y := hy
    have ey : y = u := by
      have z : its[i]? = some y := by simpa using hy
      rw [hu] at z
      cases z
      rfl
    subst ey
    refine ⟨_, rfl, wpAny_letOwnedTupleGo_enum (s := { s with heap := h', toks := tk + 1 }) ho fun h2 he2 sb => ?_⟩
    have hT2 := (sb.2 _ (Nat.ne_of_gt hel)).trans hT
    have new : ObjOk X.prog X.w (upd H s.heap.objs.size (.tup [.int (i : Nat), x])) h2 s.heap.objs.size (.tup [.int (i : Nat), x]) :=
      ⟨by show 2 ≤ sizeLine; decide, [_, _], .cons ⟨_, rfl⟩ (.cons ru .nil), ⟨_, hT2, rfl, _, rfl⟩⟩
    have J1 : Inv X pins σ (upd H s.heap.objs.size (.tup [.int (i : Nat), x])) { s with heap := h2, toks := tk + 1 } :=
      J.turnedNew (ch := [e, it]) (fun b ob hb q => (sb.2 b (fun z => hb (by simp [z]))).trans (hk b ob (fun z => hb (by simp [z])) (fun z => hb (by simp [z])) q)) hf (Nat.le_refl _) new
    refine ⟨.ref s.heap.objs.size, _, J1, rfl, ⟨_, x, rfl, J.hok.fresh (Nat.le_refl _), rfl, fun ys hy => by rw [J.tuple_inj hy hq]; exact hx⟩, ⟨⟨y, ?_⟩, st'.1.at fun o q => (sb.2 it (Ne.symm hne)).trans q, hne⟩, fun b hb => ?_⟩
    · have e1 : ((i + 1 : Nat) : Int) = (i : Int) + 1 := by omega
      rw [e1]
      exact he2
    · have hb' : b < s.heap.objs.size := by
        rcases (show b = e ∨ b = it by simpa using hb) with z | z
        · rw [z]; exact hel
        · rw [z]; exact hil
      rw [upd_ne (Nat.ne_of_lt hb')]
      exact (hf b hb).1
  done := by
    intro X hP hw hK hc i pins s σ H E J hf st hg
    subst hP hw hK
    obtain ⟨⟨old, he⟩, hit, hne⟩ := st
    obtain ⟨xs, hq, hx⟩ := hg
    obtain ⟨its, rv, p, hz⟩ := J.tuple hq
    obtain ⟨f0, f1, f2, f3, f4, f5⟩ := hf it (by simp)
    have hl := rv.length
    have D : Draws X.prog X.w X.A.in1 it [it, a] i (fun _ _ => False) (fun j h => j = i ∧ h.IsTupleIter it a i ∧ h.IsTuple a its.toArray) :=
      ⟨fun _ _ st => let ⟨o, ho, _⟩ := st.2.1; ⟨o, ho⟩, fun _ _ _ st hk => ⟨st.1, st.2.1.at fun o e => hk it (by simp) o e, st.2.2.at fun o e => hk a (by simp) o e⟩,
        fun j s Q E hj st hQ => absurd st.1 (Nat.ne_of_lt hj), fun s Q E st hE => wpAny_nextOf_tuple_end (J.ok.hd hc) st.2.1 st.2.2 (by simp; omega) hE⟩
    exact wpAny_pyNext_enum_endD D he ⟨rfl, hit, p⟩ fun h' eb => ⟨rfl, J.turned (t' := s.toks) (fun b o hb q => eb b o hb q) f0 f1 f3 f4 f5⟩
  self := fun A i s Q E st h => let ⟨⟨_, he⟩, _⟩ := st; wpAny_pyIter_enum he h
section
variable {M : Md} {X : Cx} {cs : Cs} {W : WX} {k : Nat}
theorem pi_enumT {e : Expr} {ta : TA} {p pos tpos : Pos} {elts : List Expr} {kk : Nat} (hg : Gl X "enumerate") (hm : X.mg "enumerate" = none) (ha : PA X [e] ta) (hs : starEach [e] X.env = [(false, eval e X.env)] := by rfl) :
    PI X (.Tuple elts kk tpos) (.Call (.Name "enumerate" p) [e] [] pos) (fun σ H R => ta σ H fun vs H1 => ∃ a xs, vs = [.ref a] ∧ ((SqL X.K H1 a xs ∧ R (Ite X.K a) H1) ∨ (SqT X.K H1 a xs ∧ R (IteT X.K a) H1))) := by
  refine ⟨fun pins s σ H R J h => ?_⟩
  refine Call_ (ld_blt J hg hm boot_enumerate (PyProof.Rows.callWith_type1 (thn (ha.run pos pins s σ H _ J h) fun us s1 ⟨vs, H1, J1, r1, q1⟩ => ?_) hs rfl))
  obtain ⟨a, xs, ex, q⟩ := q1
  subst ex
  obtain ⟨u, rfl, ru⟩ := vals1 r1
  cases ru
  have fp : ∀ b ∈ [s1.heap.objs.size + 1, s1.heap.objs.size], FpOk X pins H1 b := fun b hb => by
    have hle : s1.heap.objs.size ≤ b := by
      rcases (show b = s1.heap.objs.size + 1 ∨ b = s1.heap.objs.size by simpa using hb) with z | z <;> omega
    exact J1.fpOk hle (J1.hok.fresh hle)
  rcases q with ⟨hq, q⟩ | ⟨hq, q⟩
  · obtain ⟨its, rv, p', hz⟩ := J1.list hq
    refine call_enumerate_list p'.isList fun h' he hit hsz hk => wpAny_pyIter_enum he ?_
    exact ⟨s1.heap.objs.size + 1, [s1.heap.objs.size + 1, s1.heap.objs.size], _, _, H1, rfl, J1.kept (t' := s1.toks) hk, turn_enum a (s1.heap.objs.size + 1) s1.heap.objs.size, ⟨⟨.none, he⟩, hit, Nat.succ_ne_self _⟩, fp, q⟩
  · obtain ⟨its, rv, p', hz⟩ := J1.tuple hq
    have hlt : a < s1.heap.objs.size := p'.lt
    refine call_enumB (begins_tuple a its.toArray) p' fun h' he hit hk => wpAny_pyIter_enum he ?_
    exact ⟨s1.heap.objs.size + 1, [s1.heap.objs.size + 1, s1.heap.objs.size], _, _, H1, rfl, J1.kept (t' := s1.toks) hk, turn_enumT a (s1.heap.objs.size + 1) s1.heap.objs.size (Nat.ne_of_gt (Nat.lt_succ_of_lt hlt)) (Nat.ne_of_lt hlt), ⟨⟨.none, he⟩, ⟨_, hit, rfl, rfl⟩, Nat.succ_ne_self _⟩, fp, q⟩
theorem wk_enumT {K : PySem.W.Frag} {a : Addr} {ds : List D} (hK : K = M.K) : Wk M (IteT K a) [.tup ds] (ds.mapIdx fun i d => .tup [.int (i : Nat), d]) [.ref a] := fun i F H hd od => by
  obtain ⟨v, e, r⟩ := od.one
  cases e
  obtain ⟨b, vs, e, p, l⟩ := r.tup
  cases e
  have sq : SqT K H a vs := by rw [hK]; exact p
  refine ⟨fun hi => ⟨vs, sq, by rw [← l.length]; simpa using hi⟩, fun d hdd => ?_⟩
  rw [List.getElem?_mapIdx] at hdd
  obtain ⟨d0, h0, rfl⟩ := Option.map_eq_some_iff.mp hdd
  obtain ⟨v, h1, h2⟩ := RepL.get l h0
  refine ⟨⟨vs, v, sq, h1⟩, fun x H' y => ?_⟩
  obtain ⟨T, x0, rfl, hT, rfl, hy⟩ := y
  have z := hy vs sq
  rw [h1] at z
  cases z
  exact ⟨F, New.laid hd hT, rv_tup hd hT (.cons (by unfold Rep; rfl) (.cons h2 .nil))⟩
theorem wk_enumP {K : PySem.W.Frag} {a : Addr} {ds : List D} (hK : K = M.K) : Wk M (IteT K a) [.tpp ds] (ds.mapIdx fun i d => .tup [.int (i : Nat), d]) [.ref a] := fun i F H hd od => by
  obtain ⟨v, e, r⟩ := od.one
  cases e
  obtain ⟨b, vs, e, p, l⟩ := r.tpS
  cases e
  have sq : SqT K H a vs := by rw [hK]; exact p
  refine ⟨fun hi => ⟨vs, sq, by rw [← l.length]; simpa using hi⟩, fun d hdd => ?_⟩
  rw [List.getElem?_mapIdx] at hdd
  obtain ⟨d0, h0, rfl⟩ := Option.map_eq_some_iff.mp hdd
  obtain ⟨v, h1, h2⟩ := RepL.get l h0
  refine ⟨⟨vs, v, sq, h1⟩, fun x H' y => ?_⟩
  obtain ⟨T, x0, rfl, hT, rfl, hy⟩ := y
  have z := hy vs sq
  rw [h1] at z
  cases z
  exact ⟨F, New.laid hd hT, rv_tup hd hT (.cons (by unfold Rep; rfl) (.cons h2 .nil))⟩
def sEnumG : List D → Option (List D)
  | [.lst ds] => if ds.length ≤ 1000000 then some (ds.mapIdx fun i d => .tup [.int (i : Nat), d]) else none
  | [.tup ds] => if ds.length ≤ 1000000 then some (ds.mapIdx fun i d => .tup [.int (i : Nat), d]) else none
  | [.tpp ds] => if ds.length ≤ 1000000 then some (ds.mapIdx fun i d => .tup [.int (i : Nat), d]) else none
  | _ => none
theorem i_enumG (g : G M cs W k X) {e : Expr} {p pos tpos : Pos} {elts : List Expr} {kk : Nat} {o : Opd} (hg : cs.sc.names.lookup ("enumerate" : Str) = some .globalImplicit) (hm : M.mg "enumerate" = none) (ha : PA X [e] (tOs M W [o])) (hs : starEach [e] X.env = [(false, eval e X.env)]) : PI X (.Tuple elts kk tpos) (.Call (.Name "enumerate" p) [e] [] pos) (tI M W ⟨[o], sEnumG⟩) := by
  refine PI_imp (pi_enumT (g.toG0.gl hg) (by rw [g.hmg]; exact hm) ha hs) fun σ H R q => ?_
  refine tOs_mono (M := M) (W := W) (os := [o]) q fun vs H1 ⟨F, ds, items, hd, od, ef, q⟩ => ?_
  have ef : sEnumG ds = some items := ef
  unfold sEnumG at ef
  split at ef
  · split at ef
    · rename_i hz
      cases ef
      obtain ⟨v, rfl, r⟩ := od.one
      obtain ⟨a, vs, rfl, p, l⟩ := r.lst
      exact ⟨a, vs, rfl, .inl ⟨by rw [g.hK]; exact p, q _ (wk_enum g.hK) (by rw [sizeLine_eq]; simp; omega)⟩⟩
    · cases ef
  · split at ef
    · rename_i hz
      cases ef
      obtain ⟨v, rfl, r⟩ := od.one
      obtain ⟨a, vs, rfl, p, l⟩ := r.tup
      exact ⟨a, vs, rfl, .inr ⟨by rw [g.hK]; exact p, q _ (wk_enumT g.hK) (by rw [sizeLine_eq]; simp; omega)⟩⟩
    · cases ef
  · split at ef
    · rename_i hz
      cases ef
      obtain ⟨v, rfl, r⟩ := od.one
      obtain ⟨a, vs, rfl, p, l⟩ := r.tpS
      exact ⟨a, vs, rfl, .inr ⟨by rw [g.hK]; exact p, q _ (wk_enumP g.hK) (by rw [sizeLine_eq]; simp; omega)⟩⟩
    · cases ef
  · cases ef
end
end VF

namespace VF
open PySem PySem.Spec PyProof.Rows L2
section
variable {prog : Program} {w : World} {A : Around} {E : Value → Shared → Prop}
end
section
variable {M : Md} {cs : Cs} {W : WX} {k : Nat} {X : Cx}
end
end VF

namespace VF
open PySem PySem.Spec PyProof.Rows L2
section
variable {M : Md} {F F' : Addr → Prop} {H H' : Hp} {σ : St} {ρ ρ' : En}
end
section
variable {M : Md} {cs : Cs} {W : WX} {k : Nat} {X : Cx}
def badS : SS := fun _ => .bad
end
end VF

namespace VF
open PySem PySem.Spec PyProof.Rows L2
section
variable {X : Cx} {i : Nat} {y : Str} {py : Pos} {kx vx tg iter : Expr} {ifs : List Expr} {scope : Scope} {own : List (Str × Nat)} {pos spos : Pos} {wi : TI} {g : TG} {tt : TT} {tk tv : TE}
end
section
variable {M : Md} {cs : Cs} {W : WX} {k : Nat} {X : Cx}
end
end VF

namespace VF
open PySem PySem.Spec PyProof.Rows L2
/-- where an argument comes from: the i-th handed in, or a default -/
inductive Pk where
  | at (i : Nat)
  | df (d : D)
def pkO (xs : List Ov) : List Pk → List Ov
  | [] => []
  | .at i :: r => xs.getD i (.val .non) :: pkO xs r
  | .df d :: r => .val d :: pkO xs r
def PkV (M : Md) (ws : List V) : List Pk → List V → Prop
  | [], rs => rs = []
  | .at i :: r, rs => ∃ v q, rs = v :: q ∧ ws[i]? = some v ∧ PkV M ws r q
  | .df d :: r, rs => ∃ v q, rs = v :: q ∧ (∀ F H, Rep M F H d v) ∧ PkV M ws r q
theorem PkV.ov {M : Md} {F : Addr → Prop} {H : Hp} {σ : St} {xs : List Ov} {ws : List V} (h : OvRs M F H σ xs ws) : ∀ {sel : List Pk} {rs : List V}, PkV M ws sel rs → OvRs M F H σ (pkO xs sel) rs
  | [], _, z => z
  | .at i :: r, _, ⟨v, q, e, e1, z⟩ => by
    refine ⟨v, q, e, ?_, PkV.ov h z⟩
    have hl : i < ws.length := (List.getElem?_eq_some_iff.mp e1).1
    rw [h.length] at hl
    obtain ⟨w, k1, k2⟩ := h.get (List.getElem?_eq_getElem hl)
    rw [e1] at k1
    cases k1
    rw [List.getD_eq_getElem?_getD, List.getElem?_eq_getElem hl]
    exact k2
  | .df d :: r, _, ⟨v, q, e, e1, z⟩ => ⟨v, q, e, e1 F H, PkV.ov h z⟩
theorem PkV.length {M : Md} {ws : List V} : ∀ {sel : List Pk} {rs : List V}, PkV M ws sel rs → rs.length = sel.length
  | [], _, z => by cases z; rfl
  | .at i :: r, _, ⟨v, q, e, _, z⟩ => by subst e; simp [PkV.length z]
  | .df d :: r, _, ⟨v, q, e, _, z⟩ => by subst e; simp [PkV.length z]
def callK (φ : FSem) (os : List Opd) (sel : List Pk) : ES := fun ρ => (evs os ρ).bind fun xs ρ1 => match slOs ρ1 (pkO xs sel) with
  | some sls => if ndB (tpI ρ1 (pkO xs sel)) = true then (match φ sls with
    | .ok r outs => .ok r (back (pkO xs sel) outs ρ1)
    | .exc x outs => .exc x (back (pkO xs sel) outs ρ1)
    | .bad => .bad) else .bad
  | none => .bad
section
variable {M : Md} {cs : Cs} {W : WX} {k : Nat} {X : Cx}
theorem callK_run (hx : M.xn = none) {φ : FSem} {os : List Opd} {sel : List Pk} {σ : St} {H : Hp} {Q : VK} (h : tE M W (callK φ os sel) σ H Q) :
    tOs M W os σ H fun vs H1 => vs.length = os.length ∧ ∀ rs, PkV M vs sel rs → spF M sel.length φ rs H1 Q fun cls d H' => W cls d σ H' := by
  obtain ⟨F, ρ, s, h⟩ := h
  refine ops_run _ s ?_
  cases ev : evs os ρ with
  | bad => simp only [callK, ev] at h; exact h
  | exc x ρ' => simp only [callK, ev] at h; exact h
  | ok xs ρ1 =>
    simp only [callK, ev, Out.bind] at h
    intro F1 H1 po vs rs0
    refine ⟨by rw [rs0.length, evs_length ev], fun ws hw => ?_⟩
    have rs := hw.ov rs0
    cases e1 : slOs ρ1 (pkO xs sel) with
    | none => simp only [e1] at h; exact h.elim
    | some sls =>
      simp only [e1] at h
      by_cases nd : ndB (tpI ρ1 (pkO xs sel)) = true
      · rw [if_pos nd] at h
        obtain ⟨sa, hno⟩ := args_sr hx po.sr rs e1 nd
        refine ⟨hw.length, F1, sls, sa, hno, ?_⟩
        cases ef : φ sls with
        | bad => simp only [ef] at h; exact h
        | ok r outs =>
          simp only [ef] at h
          intro F2 H2 v po2 rv
          exact h F2 H2 (po.trans (back_po hx po.sr rs e1 nd po2)) v (rv.from fun a z => po.stp.dom a z)
        | exc x outs =>
          simp only [ef] at h
          intro F2 H2 cls d po2 xr
          exact h F2 H2 cls d (po.trans (back_po hx po.sr rs e1 nd po2)) xr
      · rw [if_neg nd] at h
        exact h.elim
/-- a def called with n values by place, keywords ks; where each parameter's value comes from -/
structure FnVK (M : Md) (k : Nat) (x : Str) (n : Nat) (ks : List Str) (sel : List Pk) (φ : FSem) : Prop where
  ex : ∃ f fd ps g gV, FnOk M.P M.w M.K M.mg M.base (CX M.P M.w) k f fd ps (spF M sel.length φ) ∧ M.mg x = some (.ref f) ∧ PySem.W.keepIn M.K (.ref f) = true ∧ KBn M.K fd ps n ks g gV ∧ ∀ vs zs, vs.length = n → zs.length = ks.length → PkV M (vs ++ zs) sel (gV vs zs)
theorem tOs_len : ∀ {os : List Opd} {σ : St} {H : Hp} {Q : List V → Hp → Prop}, tOs M W os σ H Q → tOs M W os σ H fun vs H1 => vs.length = os.length ∧ Q vs H1
  | [], σ, H, Q, h => ⟨rfl, h⟩
  | o :: os, σ, H, Q, h => by
    have h : tO M W o σ H fun x H1 => tOs M W os σ H1 fun xs H2 => Q (x :: xs) H2 := h
    show tO M W o σ H fun x H1 => tOs M W os σ H1 fun xs H2 => (x :: xs).length = (o :: os).length ∧ Q (x :: xs) H2
    refine tO_mono h fun v H1 q => tOs_mono (tOs_len (os := os) q) fun vs H2 ⟨l, z⟩ => ⟨by simp [l], z⟩
theorem run_fnK {f : Addr} {fd : FuncData} {ps ks : List Str} {n : Nat} {sp : Sp} {gg : List Value → List Value → List Value} {gV : List V → List V → List V} {pins : List (Addr × Obj)} {σ : St} {H : Hp} {s : Shared} {Q : VK} {us ws : List Value} {vs zs : List V} (F : FnOk X.prog X.w X.K X.mg X.base (CX X.prog X.w) k f fd ps sp) (hr : Room k X.A) (hb : KBn X.K fd ps n ks gg gV) (tk : Takes X W)
    (I : Inv X pins σ H s) (r : Vals vs us) (rz : Vals zs ws) (l1 : vs.length = n) (l2 : zs.length = ks.length) (h : sp (gV vs zs) H Q fun cls d H' => W cls d σ H') : wpAny (model X.prog X.w) X.A (call (.ref f) us (ks.zip ws)) (EP X pins σ Q) X.xe s := by
  refine wpAny_call (codeAny_mono (F.run X.A X.stack s H ⟨us, ks.zip ws⟩ (gg us ws) (gV vs zs) Q _ hr I.env0 (hb.to s us ws I.kIn (r.length.symm.trans l1) (rz.length.symm.trans l2)) (hb.rel r rz) h) fun r s' hq => ?_)
  cases r with
  | error e => exact tk e s' (XE.of_call I (fun cls d H' h => h) hq)
  | ok fl => cases fl with
    | ret u => exact I.after hq
    | next => exact hq.elim
    | brk => exact hq.elim
    | cont => exact hq.elim
theorem k_nilK : PK X [] (tOs M W []) := pk_nil
theorem k_consK {e : Expr} {nm : Option Str} {kpos : Pos} {kws : List Keyword} {o : Opd} {os : List Opd} (h : PE X e (tO M W o)) (hr : PK X kws (tOs M W os)) : PK X (⟨nm, e, kpos⟩ :: kws) (tOs M W (o :: os)) := pk_cons h hr
theorem e_callK0 (g : G M cs W k X) {j : Nat} {x : Str} {ks : List Str} {sel : List Pk} {φ : FSem} {p pos : Pos} {kws : List Keyword} {os2 : List Opd} (fv : FnVK M j x 0 ks sel φ) (hj : j ≤ k) (hg : cs.sc.names.lookup x = some .globalImplicit) (hkw : PK X kws (tOs M W os2)) (hm : os2.length = ks.length)
    (hdb : (x == ("__debug__" : Str)) = false) (hall : (backToKw pos (keywordEach kws X.env)).all (·.1.isSome) = true) (hks : (backToKw pos (keywordEach kws X.env)).filterMap (·.1) = ks)
    (hpl : ((backTo pos (starEach [] X.env)).any (·.1) || (backToKw pos (keywordEach kws X.env)).any (·.1.isNone)) = false) : PE X (.Call (.Name x p) [] kws pos) (tE M W (callK φ os2 sel)) := by
  obtain ⟨f, fd, ps, gg, gV, F, hmg, hk, hb, hp⟩ := fv.ex
  rw [← g.hP, ← g.hw, ← g.hb, ← g.hK, ← g.hmg] at F
  rw [← g.hmg] at hmg
  rw [← g.hK] at hk hb
  refine ⟨fun pins s σ H Q I h => ?_⟩
  refine wpAny_Call_Name_kw (ld_glob I (g.gl hg) hmg ?_ hdb)
  refine PySem.W.callWith_KW0 (h₀ := X.base) I.ok.mod.kin hk hall ?_ hpl
  refine thn (hkw.run pos pins s σ H _ I (tOs_len (callK_run g.nx h))) fun ws s2 ⟨zs, H2, I2, rz, l2, _, q2⟩ => ⟨I2.kIn, ?_⟩
  rw [hks]
  exact run_fnK (us := []) (vs := []) (F.mono hj) g.room hb g.tk I2 .nil rz rfl (l2.trans hm) (q2 _ (hp [] zs rfl (l2.trans hm)))
end
end VF
namespace VF
open PySem PySem.Spec PyProof.Rows L2
/-- those at some places -/
def gsel {α : Type} (is : List Nat) (l : List α) : List α := is.filterMap fun i => l[i]?
theorem vals_app {vs zs : List V} {us ws : List Value} (a : Vals vs us) (b : Vals zs ws) : Vals (vs ++ zs) (us ++ ws) := a.append b
theorem vals_get : ∀ {vs : List V} {us : List Value} {i : Nat}, Vals vs us → (vs[i]? = none ∧ us[i]? = none) ∨ ∃ v u, vs[i]? = some v ∧ us[i]? = some u ∧ RelV v u
  | _, _, _, .nil => .inl ⟨rfl, rfl⟩
  | _, _, 0, .cons r _ => .inr ⟨_, _, rfl, rfl, r⟩
  | _, _, i + 1, .cons _ rs => vals_get (i := i) rs
theorem vals_sel {vs : List V} {us : List Value} (h : Vals vs us) : ∀ (is : List Nat), Vals (gsel is vs) (gsel is us)
  | [] => .nil
  | i :: is => by
    have ih := vals_sel h is
    unfold gsel at ih ⊢
    rcases vals_get (i := i) h with ⟨e1, e2⟩ | ⟨v, u, e1, e2, r⟩
    · rw [List.filterMap_cons_none e1, List.filterMap_cons_none e2]; exact ih
    · rw [List.filterMap_cons_some e1, List.filterMap_cons_some e2]; exact .cons r ih
theorem pk_sel {M : Md} {l : List V} : ∀ {is : List Nat}, (∀ i ∈ is, i < l.length) → PkV M l (is.map .at) (gsel is l)
  | [], _ => rfl
  | i :: is, h => by
    have hi := h i List.mem_cons_self
    have ih := pk_sel (M := M) (is := is) fun j hj => h j (List.mem_cons_of_mem _ hj)
    refine ⟨l[i], gsel is l, ?_, List.getElem?_eq_getElem hi, ih⟩
    unfold gsel
    rw [List.filterMap_cons_some (List.getElem?_eq_getElem hi)]
theorem kbn_of {K : PySem.W.Frag} {x qual : Str} {params : Arguments} {body : List Stmt} {scope : Scope} {kws : List (Str × V)} {f : Addr} {fd : FuncData} {ps ks : List Str} {n : Nat} (F : FunD K x qual params body scope [] kws f fd) (is : List Nat)
    (h : ∀ (kV doc pm : Value) (an : Option Addr) (cdv ct : Value) (us ws : List Value), us.length = n → ws.length = ks.length → bindArgs (PySem.W.fnOf x qual params body scope .none kV doc pm an cdv ct) ⟨us, ks.zip ws⟩ = pure (ps.zip (gsel is (us ++ ws)))) :
    KBn K fd ps n ks (fun us ws => gsel is (us ++ ws)) (fun vs zs => gsel is (vs ++ zs)) := by
  obtain ⟨oc, od, dV, kV, doc, pm, an, cdv, ct, osl, rfl, lk, hcd, hD, hK⟩ := F.ex
  rcases hD with ⟨_, rfl⟩ | ⟨e, _⟩
  · exact ⟨fun s us ws _ l1 l2 => .of_eq (h kV doc pm an cdv ct us ws l1 l2), fun a b => vals_sel (vals_app a b) is⟩
  · exact absurd rfl e
theorem fnVK_of {M : Md} {k n : Nat} {x qual : Str} {params : Arguments} {body : List Stmt} {scope : Scope} {kws : List (Str × V)} {f : Addr} {fd : FuncData} {ps ks : List Str} {φ : FSem} (is : List Nat) (F : FunD M.K x qual params body scope [] kws f fd) (ok : FnOk M.P M.w M.K M.mg M.base (CX M.P M.w) k f fd ps (spF M is.length φ)) (hm : M.mg x = some (.ref f)) (hi : ∀ i ∈ is, i < n + ks.length)
    (h : ∀ (kV doc pm : Value) (an : Option Addr) (cdv ct : Value) (us ws : List Value), us.length = n → ws.length = ks.length → bindArgs (PySem.W.fnOf x qual params body scope .none kV doc pm an cdv ct) ⟨us, ks.zip ws⟩ = pure (ps.zip (gsel is (us ++ ws)))) : FnVK M k x n ks (is.map .at) φ :=
  ⟨f, fd, ps, _, _, by rw [List.length_map]; exact ok, hm, F.kp, kbn_of F is h, fun vs zs l1 l2 => pk_sel fun i hj => by rw [List.length_append, l1, l2]; exact hi i hj⟩
end VF

namespace VF
open PySem PySem.Spec PyProof.Rows L2 HT
section
variable {prog : Program} {w : World} {A : Around} {E : Value → Shared → Prop} {s : Shared}
end
section
variable {M : Md} {cs : Cs} {W : WX} {X : Cx}
end
/-! ### sorted of ints -/
def insI (x : Int) : List Int → List Int
  | [] => [x]
  | y :: ys => if x ≤ y then x :: y :: ys else y :: insI x ys
def isort : List Int → List Int
  | [] => []
  | x :: xs => insI x (isort xs)
theorem insI_perm (x : Int) : ∀ ys, (insI x ys).Perm (x :: ys)
  | [] => .refl _
  | y :: ys => by
    unfold insI
    split
    · exact .refl _
    · exact ((insI_perm x ys).cons y).trans (.swap x y ys)
theorem isort_perm : ∀ xs, (isort xs).Perm xs
  | [] => .refl _
  | x :: xs => (insI_perm x (isort xs)).trans ((isort_perm xs).cons x)
theorem insI_sorted (x : Int) : ∀ ys : List Int, ys.Pairwise (· ≤ ·) → (insI x ys).Pairwise (· ≤ ·)
  | [], _ => by simp [insI]
  | y :: ys, h => by
    obtain ⟨h1, h2⟩ := List.pairwise_cons.mp h
    unfold insI
    split
    · rename_i hx
      exact List.pairwise_cons.mpr ⟨fun z hz => by
        rcases List.mem_cons.mp hz with rfl | hz
        · exact hx
        · exact Int.le_trans hx (h1 z hz), h⟩
    · rename_i hx
      refine List.pairwise_cons.mpr ⟨fun z hz => ?_, insI_sorted x ys h2⟩
      rcases List.mem_cons.mp ((insI_perm x ys).mem_iff.mp hz) with rfl | hz
      · omega
      · exact h1 z hz
theorem isort_sorted : ∀ xs, (isort xs).Pairwise (· ≤ ·)
  | [] => .nil
  | x :: xs => insI_sorted x _ (isort_sorted xs)
section
variable {M : Md} {cs : Cs} {W : WX} {k : Nat} {X : Cx}
end
end VF

namespace VF
open PySem PySem.Spec PyProof.Rows L2
/-! ### tuples of constants under a name -/
end VF

namespace VF
open PySem PySem.Spec PyProof.Rows L2
section
variable {M : Md} {cs : Cs} {W : WX} {k : Nat} {X : Cx}
theorem ss_bad {sts : List Stmt} : PSs X sts (tS M W badS) := PSs_imp pss_never fun D σ H h => by
  obtain ⟨F, ρ, sr, z⟩ := h
  exact (show False from z)
end
end VF

namespace VF
open PySem PySem.Spec PyProof.Rows L2

/-- what a plain term comes to -/
inductive R (α : Type) where
  | ok (a : α)
  | exc (x : Ex)
  | bad
def R.bind {α β : Type} (c : R α) (f : α → R β) : R β := match c with
  | .ok a => f a
  | .exc x => .exc x
  | .bad => .bad
@[simp] theorem R.bind_ok {α β : Type} (a : α) (f : α → R β) : (R.ok a).bind f = f a := rfl
@[simp] theorem R.bind_exc {α β : Type} (x : Ex) (f : α → R β) : (R.exc x : R α).bind f = .exc x := rfl
@[simp] theorem R.bind_bad {α β : Type} (f : α → R β) : (R.bad : R α).bind f = .bad := rfl
theorem R.bind_assoc {α β γ : Type} (c : R α) (f : α → R β) (g : β → R γ) : (c.bind f).bind g = c.bind fun a => (f a).bind g := by cases c <;> rfl
def R.map {α β : Type} (f : α → β) (c : R α) : R β := c.bind fun a => .ok (f a)
@[simp] theorem R.map_ok {α β : Type} (a : α) (f : α → β) : (R.ok a).map f = .ok (f a) := rfl
@[simp] theorem R.map_exc {α β : Type} (x : Ex) (f : α → β) : (R.exc x : R α).map f = .exc x := rfl
@[simp] theorem R.map_bad {α β : Type} (f : α → β) : (R.bad : R α).map f = .bad := rfl
/-- it comes to something of which Q holds -/
def R.wp {α : Type} (c : R α) (Q : α → Prop) : Prop := ∃ a, c = .ok a ∧ Q a
theorem R.wp_ok {α : Type} {a : α} {Q : α → Prop} (h : Q a) : (R.ok a).wp Q := ⟨a, rfl, h⟩
theorem R.wp_bind {α β : Type} {c : R α} {f : α → R β} {P : α → Prop} {Q : β → Prop} (h : c.wp P) (k : ∀ a, P a → (f a).wp Q) : (c.bind f).wp Q := by
  obtain ⟨a, rfl, h⟩ := h
  exact k a h
theorem R.wp_mono {α : Type} {c : R α} {P Q : α → Prop} (h : c.wp P) (k : ∀ a, P a → Q a) : c.wp Q := by
  obtain ⟨a, e, h⟩ := h
  exact ⟨a, e, k a h⟩
def D.cont : D → Bool
  | .lst _ => true
  | .dck _ _ => true
  | .dct _ _ => true
  | .ins _ _ _ => true
  | _ => false
/-- a primitive's answer -/
def pr : Option Rv → R D
  | some (.val d) => .ok d
  | some (.own d) => if d.cont = true then .ok d else .bad
  | none => .bad
/-- a primitive's answer, an object just made -/
def pro : Option Rv → R D
  | some (.own d) => if d.cont = true then .ok d else .bad
  | _ => .bad
@[simp] theorem pr_val (d : D) : pr (some (.val d)) = .ok d := rfl
@[simp] theorem pr_lst (d : List D) : pr (some (.own (.lst d))) = .ok (.lst d) := rfl
@[simp] theorem pr_dck (k : List Key) (d : List D) : pr (some (.own (.dck k d))) = .ok (.dck k d) := rfl
@[simp] theorem pr_dct (k : List (List Key)) (d : List D) : pr (some (.own (.dct k d))) = .ok (.dct k d) := rfl
@[simp] theorem pr_ins (k : Str) (f : List Str) (d : List D) : pr (some (.own (.ins k f d))) = .ok (.ins k f d) := rfl
@[simp] theorem pr_none : pr none = .bad := rfl
@[simp] theorem pro_lst (d : List D) : pro (some (.own (.lst d))) = .ok (.lst d) := rfl
@[simp] theorem pro_dck (k : List Key) (d : List D) : pro (some (.own (.dck k d))) = .ok (.dck k d) := rfl
@[simp] theorem pro_dct (k : List (List Key)) (d : List D) : pro (some (.own (.dct k d))) = .ok (.dct k d) := rfl
@[simp] theorem pro_ins (k : Str) (f : List Str) (d : List D) : pro (some (.own (.ins k f d))) = .ok (.ins k f d) := rfl
/-- how a result stands: o tells that it is one's own -/
def RvOk (o : Bool) (rv : Rv) (d : D) : Prop := (rv = .own d ∧ d.cont = true) ∨ (rv = .val d ∧ o = false)
theorem RvOk.d {o : Bool} {rv : Rv} {d : D} (h : RvOk o rv d) : rv.d = d := by
  rcases h with ⟨h, _⟩ | ⟨h, _⟩ <;> subst h <;> rfl
theorem RvOk.weak {o : Bool} {rv : Rv} {d : D} (h : RvOk o rv d) : RvOk false rv d := h.imp id fun z => ⟨z.1, rfl⟩

/-- an expression that changes no slot -/
def EvP (o : Bool) (φ : ES) (ρ : En) (c : R D) : Prop := match c with
  | .ok d => ∃ rv, φ ρ = .ok rv ρ ∧ RvOk o rv d
  | .exc x => φ ρ = .exc x ρ
  | .bad => True
def EvO (o : Opd) (ρ : En) (c : R D) : Prop := match c with
  | .ok d => ∃ x, o.ev ρ = .ok x ρ ∧ x.dat ρ = some d
  | .exc x => o.ev ρ = .exc x ρ
  | .bad => True
/-- an argument handed in by value -/
def EvA (o : Opd) (ρ : En) (c : R D) : Prop := match c with
  | .ok d => ∃ x, o.ev ρ = .ok x ρ ∧ slO ρ x = some (.val d)
  | .exc x => o.ev ρ = .exc x ρ
  | .bad => True
def EvT (t : BS) (ρ : En) (c : R Bool) : Prop := match c with
  | .ok b => t ρ = .ok b ρ
  | .exc x => t ρ = .exc x ρ
  | .bad => True
theorem EvP.weak {o : Bool} {φ : ES} {ρ : En} {c : R D} (h : EvP o φ ρ c) : EvP false φ ρ c := by
  cases c with
  | ok d => obtain ⟨rv, e, r⟩ := h; exact ⟨rv, e, r.weak⟩
  | exc x => exact h
  | bad => trivial
section
variable {ρ : En}
theorem ev_cst {d : D} : EvP false (cst d) ρ (.ok d) := ⟨_, rfl, .inr ⟨rfl, rfl⟩⟩
theorem ev_nm {i : Nat} {d : D} (h : gt ρ i = some (.val d)) : EvP false (nm i) ρ (.ok d) := ⟨.val d, by unfold nm; rw [h], .inr ⟨rfl, rfl⟩⟩
theorem eo_sl {i : Nat} {s : Sl} (h : gt ρ i = some s) : EvO (.sl i) ρ (.ok s.d) := ⟨.at i, by simp only [Opd.ev, h], by simp only [Ov.dat, h, Option.map]⟩
theorem eo_ex {o : Bool} {φ : ES} {c : R D} (h : EvP o φ ρ c) : EvO (.ex φ) ρ c := by
  cases c with
  | ok d => obtain ⟨rv, e, r⟩ := h; exact ⟨.val d, by simp only [Opd.ev, e, Out.bind, r.d], rfl⟩
  | exc x => show (φ ρ).bind _ = _; rw [show φ ρ = .exc x ρ from h]; rfl
  | bad => trivial
theorem ea_ex {o : Bool} {φ : ES} {c : R D} (h : EvP o φ ρ c) : EvA (.ex φ) ρ c := by
  cases c with
  | ok d => obtain ⟨rv, e, r⟩ := h; exact ⟨.val d, by simp only [Opd.ev, e, Out.bind, r.d], rfl⟩
  | exc x => show (φ ρ).bind _ = _; rw [show φ ρ = .exc x ρ from h]; rfl
  | bad => trivial
/-- several operands -/
def EvOs (os : List Opd) (ρ : En) (c : R (List D)) : Prop := match c with
  | .ok ds => ∃ xs, evs os ρ = .ok xs ρ ∧ dats ρ xs = some ds
  | .exc x => evs os ρ = .exc x ρ
  | .bad => True
def seqR : List (R D) → R (List D)
  | [] => .ok []
  | c :: cs => c.bind fun d => (seqR cs).bind fun ds => .ok (d :: ds)
@[simp] theorem seqR_nil : seqR [] = .ok [] := rfl
@[simp] theorem seqR_cons (c : R D) (cs : List (R D)) : seqR (c :: cs) = c.bind fun d => (seqR cs).bind fun ds => .ok (d :: ds) := rfl
theorem eos_nil : EvOs [] ρ (seqR []) := ⟨[], rfl, rfl⟩
theorem eos_cons {o : Opd} {os : List Opd} {c : R D} {cs : List (R D)} (h : EvO o ρ c) (hs : EvOs os ρ (seqR cs)) : EvOs (o :: os) ρ (seqR (c :: cs)) := by
  rw [seqR_cons]
  cases c with
  | bad => trivial
  | exc x => show (o.ev ρ).bind _ = _; rw [show o.ev ρ = .exc x ρ from h]; rfl
  | ok d =>
    obtain ⟨x, e1, e2⟩ := h
    rw [R.bind_ok]
    generalize seqR cs = k at hs
    cases k with
    | bad => trivial
    | exc y => show (o.ev ρ).bind _ = _; rw [e1]; show (evs os ρ).bind _ = _; rw [show evs os ρ = .exc y ρ from hs]; rfl
    | ok ds =>
      obtain ⟨xs, e3, e4⟩ := hs
      refine ⟨x :: xs, ?_, ?_⟩
      · show (o.ev ρ).bind _ = _; rw [e1]; show (evs os ρ).bind _ = _; rw [e3]; rfl
      · unfold dats; rw [e2, e4]
theorem pr_rv {a : Option Rv} {d : D} (h : pr a = .ok d) : ∃ rv, a = some rv ∧ RvOk false rv d := by
  cases a with
  | none => cases h
  | some rv => cases rv with
    | val e => cases h; exact ⟨_, rfl, .inr ⟨rfl, rfl⟩⟩
    | own e =>
      have h : (if e.cont = true then R.ok e else .bad) = .ok d := h
      by_cases hc : e.cont = true
      · rw [if_pos hc] at h; cases h; exact ⟨_, rfl, .inl ⟨rfl, hc⟩⟩
      · rw [if_neg hc] at h; cases h
theorem pro_rv {a : Option Rv} {d : D} (h : pro a = .ok d) : ∃ rv, a = some rv ∧ RvOk true rv d := by
  cases a with
  | none => cases h
  | some rv => cases rv with
    | val e => cases h
    | own e =>
      have h : (if e.cont = true then R.ok e else .bad) = .ok d := h
      by_cases hc : e.cont = true
      · rw [if_pos hc] at h; cases h; exact ⟨_, rfl, .inl ⟨rfl, hc⟩⟩
      · rw [if_neg hc] at h; cases h
theorem pr_noexc {a : Option Rv} {x : Ex} : pr a ≠ .exc x := by
  intro h
  cases a with
  | none => cases h
  | some rv => cases rv with
    | val e => cases h
    | own e =>
      have h : (if e.cont = true then R.ok e else .bad) = .exc x := h
      split at h <;> cases h
theorem pro_noexc {a : Option Rv} {x : Ex} : pro a ≠ .exc x := by
  intro h
  cases a with
  | none => cases h
  | some rv => cases rv with
    | val e => cases h
    | own e =>
      have h : (if e.cont = true then R.ok e else .bad) = .exc x := h
      split at h <;> cases h
theorem ev_app {f : List D → Option Rv} {os : List Opd} {cs : List (R D)} (h : EvOs os ρ (seqR cs)) : EvP false (app f os) ρ ((seqR cs).bind fun ds => pr (f ds)) := by
  generalize seqR cs = k at h
  cases k with
  | bad => trivial
  | exc x => show (evs os ρ).bind _ = _; rw [show evs os ρ = .exc x ρ from h]; rfl
  | ok ds =>
    obtain ⟨xs, e1, e2⟩ := h
    rw [R.bind_ok]
    cases e : pr (f ds) with
    | bad => trivial
    | exc x => exact absurd e pr_noexc
    | ok d =>
      obtain ⟨rv, e3, r⟩ := pr_rv e
      refine ⟨rv, ?_, r⟩
      unfold app
      rw [e1]
      show (match dats ρ xs with | some ds => _ | none => _) = _
      simp only [e2, e3]
theorem ev_appo {f : List D → Option Rv} {os : List Opd} {cs : List (R D)} (h : EvOs os ρ (seqR cs)) : EvP true (app f os) ρ ((seqR cs).bind fun ds => pro (f ds)) := by
  generalize seqR cs = k at h
  cases k with
  | bad => trivial
  | exc x => show (evs os ρ).bind _ = _; rw [show evs os ρ = .exc x ρ from h]; rfl
  | ok ds =>
    obtain ⟨xs, e1, e2⟩ := h
    rw [R.bind_ok]
    cases e : pro (f ds) with
    | bad => trivial
    | exc x => exact absurd e pro_noexc
    | ok d =>
      obtain ⟨rv, e3, r⟩ := pro_rv e
      refine ⟨rv, ?_, r⟩
      unfold app
      rw [e1]
      show (match dats ρ xs with | some ds => _ | none => _) = _
      simp only [e2, e3]
/-- displays -/
def EvPs (φs : List ES) (ρ : En) (c : R (List D)) : Prop := match c with
  | .ok ds => ∃ xs, evs (φs.map .ex) ρ = .ok xs ρ ∧ vals xs = some ds
  | .exc x => evs (φs.map .ex) ρ = .exc x ρ
  | .bad => True
theorem eps_nil : EvPs [] ρ (seqR []) := ⟨[], rfl, rfl⟩
theorem ex_ev {o : Bool} {φ : ES} {d : D} {rv : Rv} (e : φ ρ = .ok rv ρ) (r : RvOk o rv d) : (Opd.ex φ).ev ρ = .ok (.val d) ρ := by
  simp only [Opd.ev, e, Out.bind, r.d]
theorem eps_cons {o : Bool} {φ : ES} {φs : List ES} {c : R D} {cs : List (R D)} (h : EvP o φ ρ c) (hs : EvPs φs ρ (seqR cs)) : EvPs (φ :: φs) ρ (seqR (c :: cs)) := by
  rw [seqR_cons]
  cases c with
  | bad => trivial
  | exc x => show ((Opd.ex φ).ev ρ).bind _ = _; rw [show (Opd.ex φ).ev ρ = .exc x ρ by simp only [Opd.ev, show φ ρ = .exc x ρ from h, Out.bind]]; rfl
  | ok d =>
    obtain ⟨rv, e1, r⟩ := h
    have e1 := ex_ev e1 r
    rw [R.bind_ok]
    generalize seqR cs = k at hs
    cases k with
    | bad => trivial
    | exc y => show ((Opd.ex φ).ev ρ).bind _ = _; rw [e1]; show (evs (φs.map .ex) ρ).bind _ = _; rw [show evs (φs.map .ex) ρ = .exc y ρ from hs]; rfl
    | ok ds =>
      obtain ⟨xs, e3, e4⟩ := hs
      refine ⟨.val d :: xs, ?_, ?_⟩
      · show ((Opd.ex φ).ev ρ).bind _ = _; rw [e1]; show (evs (φs.map .ex) ρ).bind _ = _; rw [e3]; rfl
      · unfold vals; rw [e4]; rfl
theorem ev_disp {mk : List D → Rv} {o : Bool} {f : List D → D} {φs : List ES} {cs : List (R D)} (hm : ∀ ds, RvOk o (mk ds) (f ds)) (h : EvPs φs ρ (seqR cs)) : EvP o (disp mk φs) ρ ((seqR cs).bind fun ds => .ok (f ds)) := by
  generalize seqR cs = k at h
  cases k with
  | bad => trivial
  | exc x => show (evs (φs.map .ex) ρ).bind _ = _; rw [show evs (φs.map .ex) ρ = .exc x ρ from h]; rfl
  | ok ds =>
    obtain ⟨xs, e1, e2⟩ := h
    refine ⟨mk ds, ?_, hm ds⟩
    unfold disp
    rw [e1]
    show (match vals xs with | some ds => _ | none => _) = _
    simp only [e2]
def tupR (cs : List (R D)) : R D := (seqR cs).bind fun ds => .ok (.tup ds)
def lstR (cs : List (R D)) : R D := (seqR cs).bind fun ds => .ok (.lst ds)
theorem ev_tup {φs : List ES} {cs : List (R D)} (h : EvPs φs ρ (seqR cs)) : EvP false (disp mkT φs) ρ (tupR cs) := ev_disp (fun _ => .inr ⟨rfl, rfl⟩) h
theorem ev_lst {φs : List ES} {cs : List (R D)} (h : EvPs φs ρ (seqR cs)) : EvP true (disp mkL φs) ρ (lstR cs) := ev_disp (fun _ => .inl ⟨rfl, rfl⟩) h
/-- tests -/
def asB : D → R Bool
  | .bl b => .ok b
  | _ => .bad
@[simp] theorem asB_bl (b : Bool) : asB (.bl b) = .ok b := rfl
def trR (d : D) : R Bool := match d.truth with
  | some b => .ok b
  | none => .bad
@[simp] theorem trR_bl (b : Bool) : trR (.bl b) = .ok b := rfl
theorem et_tst {o : Bool} {φ : ES} {c : R D} (h : EvP o φ ρ c) : EvT (tst φ) ρ (c.bind asB) := by
  cases c with
  | bad => trivial
  | exc x => show (φ ρ).bind _ = _; rw [show φ ρ = .exc x ρ from h]; rfl
  | ok d =>
    obtain ⟨rv, e, r⟩ := h
    rw [R.bind_ok]
    cases d with
    | bl b =>
      rcases r with ⟨_, r⟩ | ⟨r, _⟩
      · cases r
      · subst r
        show (φ ρ).bind _ = _
        rw [e]; rfl
    | _ => trivial
theorem et_tru {o : Opd} {c : R D} (h : EvO o ρ c) : EvT (tru o) ρ (c.bind trR) := by
  cases c with
  | bad => trivial
  | exc x => show (o.ev ρ).bind _ = _; rw [show o.ev ρ = .exc x ρ from h]; rfl
  | ok d =>
    obtain ⟨x, e1, e2⟩ := h
    rw [R.bind_ok]
    unfold trR
    cases e : d.truth with
    | none => trivial
    | some b =>
      show (o.ev ρ).bind _ = _
      rw [e1]
      show (match x.dat ρ with | some d => _ | none => _) = _
      simp only [e2, e]
theorem et_not {t : BS} {c : R Bool} (h : EvT t ρ c) : EvT (bnot t) ρ (c.bind fun b => .ok (!b)) := by
  cases c with
  | bad => trivial
  | exc x => show (t ρ).bind _ = _; rw [show t ρ = .exc x ρ from h]; rfl
  | ok b => show (t ρ).bind _ = _; rw [show t ρ = .ok b ρ from h]; rfl
theorem et_and {t u : BS} {c e : R Bool} (h : EvT t ρ c) (h2 : EvT u ρ e) : EvT (band t u) ρ (c.bind fun b => if b = true then e else .ok false) := by
  cases c with
  | bad => trivial
  | exc x => show (t ρ).bind _ = _; rw [show t ρ = .exc x ρ from h]; rfl
  | ok b =>
    have k : band t u ρ = if b then u ρ else .ok false ρ := by show (t ρ).bind _ = _; rw [show t ρ = .ok b ρ from h]; rfl
    cases b with
    | false => exact k
    | true =>
      rw [R.bind_ok, if_pos rfl]
      unfold EvT at h2 ⊢
      rw [k]
      exact h2
theorem et_or {t u : BS} {c e : R Bool} (h : EvT t ρ c) (h2 : EvT u ρ e) : EvT (bor t u) ρ (c.bind fun b => if b = true then .ok true else e) := by
  cases c with
  | bad => trivial
  | exc x => show (t ρ).bind _ = _; rw [show t ρ = .exc x ρ from h]; rfl
  | ok b =>
    have k : bor t u ρ = if b then .ok true ρ else u ρ := by show (t ρ).bind _ = _; rw [show t ρ = .ok b ρ from h]; rfl
    cases b with
    | true => exact k
    | false =>
      rw [R.bind_ok, if_neg (by decide)]
      unfold EvT at h2 ⊢
      rw [k]
      exact h2
theorem ev_and {o o2 : Bool} {a b : ES} {ca cb : R D} (ha : EvP o a ρ ca) (hb : EvP o2 b ρ cb) : EvP false (andE a b) ρ (ca.bind fun d => (trR d).bind fun k => if k = true then cb else .ok d) := by
  cases ca with
  | bad => trivial
  | exc x => show (a ρ).bind _ = _; rw [show a ρ = .exc x ρ from ha]; rfl
  | ok d =>
    obtain ⟨rv, e, r⟩ := ha
    rw [R.bind_ok]
    unfold trR
    cases et : d.truth with
    | none => trivial
    | some k =>
      have e2 : andE a b ρ = if k then b ρ else .ok rv ρ := by
        show (a ρ).bind _ = _
        rw [e]
        show (match rv.d.truth with | some true => _ | some false => _ | none => _) = _
        rw [r.d, et]
        cases k <;> rfl
      cases k with
      | true => show EvP false (andE a b) ρ cb; have hb := hb.weak; unfold EvP at hb ⊢; rw [e2]; exact hb
      | false => exact ⟨rv, e2, r.weak⟩
theorem ev_not {o : Opd} {c : R D} (h : EvO o ρ c) : EvP false (notE o) ρ (c.bind fun d => (trR d).bind fun b => .ok (.bl (!b))) := by
  have h := et_tru h
  rw [← R.bind_assoc]
  generalize c.bind trR = k at h
  cases k with
  | bad => trivial
  | exc x => show (tru o ρ).bind _ = _; rw [show tru o ρ = .exc x ρ from h]; rfl
  | ok b => exact ⟨.val (.bl (!b)), by show (tru o ρ).bind _ = _; rw [show tru o ρ = .ok b ρ from h]; rfl, .inr ⟨rfl, rfl⟩⟩
/-- a < b < c -/
def chR (f g : List D → Option Rv) (ca cb cc : R D) : R D := ca.bind fun a => cb.bind fun b => (pr (f [a, b])).bind fun r => (asB r).bind fun k => if k = true then cc.bind fun c => pr (g [b, c]) else .ok (.bl false)
theorem ev_chn {f g : List D → Option Rv} {oa ob oc : Opd} {ca cb cc : R D} (ha : EvO oa ρ ca) (hb : EvO ob ρ cb) (hc : EvO oc ρ cc) : EvP false (chn f g oa ob oc) ρ (chR f g ca cb cc) := by
  unfold chR
  cases ca with
  | bad => trivial
  | exc x => show (oa.ev ρ).bind _ = _; rw [show oa.ev ρ = .exc x ρ from ha]; rfl
  | ok a =>
    obtain ⟨xa, ea, da⟩ := ha
    rw [R.bind_ok]
    cases cb with
    | bad => trivial
    | exc x => show (oa.ev ρ).bind _ = _; rw [ea]; show (ob.ev ρ).bind _ = _; rw [show ob.ev ρ = .exc x ρ from hb]; rfl
    | ok b =>
      obtain ⟨xb, eb, db⟩ := hb
      rw [R.bind_ok]
      have e0 : chn f g oa ob oc ρ = match f [a, b] with
          | some (.val (.bl true)) => (oc.ev ρ).bind fun z ρ2 => (match xb.dat ρ2, z.dat ρ2 with
            | some e', some k => (match g [e', k] with
              | some r => .ok r ρ2
              | none => .bad)
            | _, _ => .bad)
          | some (.val (.bl false)) => .ok (.val (.bl false)) ρ
          | _ => .bad := by
        show (oa.ev ρ).bind _ = _
        rw [ea]
        show (ob.ev ρ).bind _ = _
        rw [eb]
        show (match xa.dat ρ, xb.dat ρ with | some d, some e => _ | _, _ => _) = _
        rw [da, db]
        all_goals rfl
      cases ef : pr (f [a, b]) with
      | bad => trivial
      | exc x => exact absurd ef pr_noexc
      | ok r =>
        obtain ⟨rv, e1, r1⟩ := pr_rv ef
        rw [R.bind_ok]
        cases r with
        | bl k =>
          rcases r1 with ⟨_, z⟩ | ⟨z, _⟩
          · cases z
          · subst z
            rw [e1] at e0
            rw [asB_bl, R.bind_ok]
            cases k with
            | false => exact ⟨_, e0, .inr ⟨rfl, rfl⟩⟩
            | true =>
              rw [if_pos rfl]
              cases cc with
              | bad => trivial
              | exc x => show chn f g oa ob oc ρ = _; rw [e0]; show (oc.ev ρ).bind _ = _; rw [show oc.ev ρ = .exc x ρ from hc]; rfl
              | ok c =>
                obtain ⟨xc, ec, dc⟩ := hc
                rw [R.bind_ok]
                cases eg : pr (g [b, c]) with
                | bad => trivial
                | exc x => exact absurd eg pr_noexc
                | ok w =>
                  obtain ⟨rv, e2, r2⟩ := pr_rv eg
                  refine ⟨rv, ?_, r2⟩
                  rw [e0]
                  show (oc.ev ρ).bind _ = _
                  rw [ec]
                  show (match xb.dat ρ, xc.dat ρ with | some e', some k => _ | _, _ => _) = _
                  rw [db, dc]
                  show (match g [b, c] with | some r => _ | none => _) = _
                  rw [e2]
        | _ => trivial
/-- slices -/
def asI : D → R (Option Int)
  | .int i => .ok (some i)
  | _ => .bad
@[simp] theorem asI_int (i : Int) : asI (.int i) = .ok (some i) := rfl
def ptR : Option (R D) → R (Option Int)
  | none => .ok none
  | some c => c.bind asI
def slR (ca : R D) (lo hi : Option (R D)) : R D := ca.bind fun a => (ptR lo).bind fun l => (ptR hi).bind fun h => pr (fSl a l h)
def EvI (o : Option Opd) (ρ : En) (c : Option (R D)) : Prop := match o, c with
  | none, none => True
  | some o, some c => EvO o ρ c
  | _, _ => False
theorem ei_run {o : Option Opd} {c : Option (R D)} (h : EvI o ρ c) : match ptR c with
  | .ok l => evI o ρ = .ok l ρ
  | .exc x => evI o ρ = .exc x ρ
  | .bad => True := by
  cases o with
  | none => cases c with
    | none => rfl
    | some c => exact h.elim
  | some o => cases c with
    | none => exact h.elim
    | some c =>
      have h : EvO o ρ c := h
      unfold ptR
      cases c with
      | bad => trivial
      | exc x => show (o.ev ρ).bind _ = _; rw [show o.ev ρ = .exc x ρ from h]; rfl
      | ok d =>
        obtain ⟨x, e1, e2⟩ := h
        simp only [R.bind_ok]
        cases d with
        | int i =>
          show (o.ev ρ).bind _ = _
          rw [e1]
          show (match x.dat ρ with | some (.int i) => _ | _ => _) = _
          rw [e2]
        | _ => trivial
theorem ev_slc {oa : Opd} {ol oh : Option Opd} {ca : R D} {cl ch : Option (R D)} (ha : EvO oa ρ ca) (hl : EvI ol ρ cl) (hh : EvI oh ρ ch) : EvP false (slc oa ol oh) ρ (slR ca cl ch) := by
  unfold slR
  cases ca with
  | bad => trivial
  | exc x => show (oa.ev ρ).bind _ = _; rw [show oa.ev ρ = .exc x ρ from ha]; rfl
  | ok a =>
    obtain ⟨xa, ea, da⟩ := ha
    rw [R.bind_ok]
    have hl := ei_run hl
    have hh := ei_run hh
    generalize ptR cl = kl at hl
    generalize ptR ch = kh at hh
    cases kl with
    | bad => trivial
    | exc x => show (oa.ev ρ).bind _ = _; rw [ea]; show (evI ol ρ).bind _ = _; simp only at hl; rw [hl]; rfl
    | ok l =>
      simp only at hl
      rw [R.bind_ok]
      cases kh with
      | bad => trivial
      | exc x => show (oa.ev ρ).bind _ = _; rw [ea]; show (evI ol ρ).bind _ = _; rw [hl]; show (evI oh ρ).bind _ = _; simp only at hh; rw [hh]; rfl
      | ok u =>
        simp only at hh
        rw [R.bind_ok]
        cases e : pr (fSl a l u) with
        | bad => trivial
        | exc x => exact absurd e pr_noexc
        | ok d =>
          obtain ⟨rv, e3, r⟩ := pr_rv e
          refine ⟨rv, ?_, r⟩
          show (oa.ev ρ).bind _ = _
          rw [ea]
          show (evI ol ρ).bind _ = _
          rw [hl]
          show (evI oh ρ).bind _ = _
          rw [hh]
          show (match xa.dat ρ with | some d => _ | none => _) = _
          rw [da]
          show (match fSl a l u with | some r => _ | none => _) = _
          rw [e3]
end
end VF

namespace VF
open PySem PySem.Spec PyProof.Rows L2
/-- how an item comes to stand in its slots -/
def TgOk {T : Type} (tg : Tg) (ρ : En) (u : D → Option T) (enc : T → En) : Prop := ∀ x, put tg x ρ = (u x).map enc
def okI (ρ : En) (i : Nat) : Bool := noRef (gt ρ i) && decide (i < ρ.length)
theorem tg_nm {i : Nat} {ρ : En} (h : okI ρ i = true) : TgOk (.nm i) ρ some (fun d => ρ.set i (some (.val d))) := fun x => by
  have h : noRef (gt ρ i) = true ∧ i < ρ.length := by simpa [okI] using h
  unfold put
  rw [if_pos h]
  rfl
def un2 {A B : Type} (u1 : D → Option A) (u2 : D → Option B) : D → Option (A × B)
  | .tup [x, y] => (u1 x).bind fun a => (u2 y).map fun b => (a, b)
  | _ => none
theorem tg_tup2 {A B : Type} {t1 t2 : Tg} {ρ : En} {u1 : D → Option A} {u2 : D → Option B} {e1 : A → En} {e2 : A → B → En} (h1 : TgOk t1 ρ u1 e1) (h2 : ∀ a, TgOk t2 (e1 a) u2 (e2 a)) : TgOk (.tup [t1, t2]) ρ (un2 u1 u2) (fun p => e2 p.1 p.2) := fun d => by
  cases d with
  | tup xs =>
    unfold put
    match xs with
    | [] => rfl
    | [x] =>
      simp only [puts, h1 x, un2]
      cases u1 x with
      | none => rfl
      | some a => rfl
    | [x, y] =>
      simp only [puts, h1 x, un2]
      cases e : u1 x with
      | none => rfl
      | some a =>
        simp only [Option.map, h2 a y, Option.bind]
        cases u2 y with
        | none => rfl
        | some b => rfl
    | x :: y :: z :: r =>
      simp only [puts, h1 x, un2]
      cases e : u1 x with
      | none => rfl
      | some a =>
        simp only [Option.map, h2 a y]
        cases u2 y with
        | none => rfl
        | some b => rfl
  | _ => rfl
mutual
theorem put_keep : ∀ (t : Tg) {d : D} {ρ ρ' : En}, put t d ρ = some ρ' → ρ'.length = ρ.length ∧ ∀ j, j ∉ tgs t → gt ρ' j = gt ρ j
  | .nm i, d, ρ, ρ', e => by
    unfold put at e
    split at e
    · cases e
      refine ⟨List.length_set, fun j hj => gt_set_ne fun z => hj ?_⟩
      unfold tgs
      rw [z]
      exact List.mem_singleton.mpr rfl
    · cases e
  | .tup ts, d, ρ, ρ', e => by
    unfold put at e
    split at e
    · obtain ⟨h1, h2⟩ := puts_keep ts e
      refine ⟨h1, fun j hj => h2 j ?_⟩
      unfold tgs at hj
      exact hj
    · cases e
theorem puts_keep : ∀ (ts : List Tg) {ds : List D} {ρ ρ' : En}, puts ts ds ρ = some ρ' → ρ'.length = ρ.length ∧ ∀ j, j ∉ tgss ts → gt ρ' j = gt ρ j
  | [], ds, ρ, ρ', e => by
    unfold puts at e
    split at e
    · cases e; exact ⟨rfl, fun _ _ => rfl⟩
    · cases e
  | t :: ts, ds, ρ, ρ', e => by
    unfold puts at e
    split at e
    · split at e
      · rename_i ρ1 e1
        obtain ⟨h1, h2⟩ := put_keep t e1
        obtain ⟨h3, h4⟩ := puts_keep ts e
        refine ⟨h3.trans h1, fun j hj => ?_⟩
        unfold tgss at hj
        rw [List.mem_append, not_or] at hj
        exact (h4 j hj.2).trans (h2 j hj.1)
      · cases e
    · cases e
end
theorem wp_eq {own : List Nat} {ρ ρ' : En} (hl : ρ'.length = ρ.length) (h : ∀ j, j ∉ own → gt ρ' j = gt ρ j) : wp own ρ' = wp own ρ := by
  refine en_ext (by rw [wp_length, wp_length, hl]) fun j => ?_
  by_cases hj : j ∈ own
  · rw [wp_in own hj, wp_in own hj]
  · rw [wp_out own hj, wp_out own hj, h j hj]
theorem wp_wp {own : List Nat} {ρ : En} : wp own (wp own ρ) = wp own ρ := wp_eq (wp_length _ _) fun j hj => wp_out own hj
theorem rst_lk {own : List Nat} {xs : List Ov} {ρ : En} : rst ρ (own ++ ats xs) (wp own (lk xs ρ)) = ρ := by
  refine en_ext (by rw [rst_length, wp_length, lk_length]) fun j => ?_
  by_cases hj : j ∈ own ++ ats xs
  · by_cases hl : j < ρ.length
    · exact rst_in _ hj (by rw [wp_length, lk_length]; exact hl)
    · unfold gt
      rw [List.getElem?_eq_none (by rw [rst_length, wp_length, lk_length]; omega), List.getElem?_eq_none (by omega)]
  · rw [rst_out _ hj]
    rw [List.mem_append, not_or] at hj
    rw [wp_out own hj.1, lk_out xs hj.2]
/-- nothing is raised -/
def noE {α : Type} : R α → R α
  | .ok a => .ok a
  | _ => .bad
@[simp] theorem noE_ok {α : Type} (a : α) : noE (.ok a) = .ok a := rfl
def filR {T : Type} (u : D → Option T) (p : T → R Bool) (f : T → R D) : List D → R (List D)
  | [] => .ok []
  | x :: xs => match u x with
    | none => .bad
    | some t => (noE (p t)).bind fun b => if b = true then (noE (f t)).bind fun d => (filR u p f xs).bind fun ds => .ok (d :: ds) else filR u p f xs
def mapR {T : Type} (u : D → Option T) (f : T → R D) : List D → R (List D)
  | [] => .ok []
  | x :: xs => match u x with
    | none => .bad
    | some t => (noE (f t)).bind fun d => (mapR u f xs).bind fun ds => .ok (d :: ds)
theorem mapR_fil {T : Type} (u : D → Option T) (f : T → R D) : ∀ xs, mapR u f xs = filR u (fun _ => .ok true) f xs
  | [] => rfl
  | x :: xs => by
    unfold mapR filR
    rw [mapR_fil u f xs]
    cases u x with
    | none => rfl
    | some t => rfl
theorem noE_noexc {α : Type} {c : R α} {x : Ex} : noE c ≠ .exc x := by cases c <;> (intro h; cases h)
theorem noE_ok_of {α : Type} {c : R α} {a : α} (h : noE c = .ok a) : c = .ok a := by
  cases c with
  | ok b => exact h
  | exc x => cases h
  | bad => cases h
theorem filR_noexc {T : Type} {u : D → Option T} {p : T → R Bool} {f : T → R D} {x : Ex} : ∀ {xs : List D}, filR u p f xs ≠ .exc x
  | [], h => by cases h
  | y :: ys, h => by
    unfold filR at h
    cases e : u y with
    | none => rw [e] at h; cases h
    | some t =>
      rw [e] at h
      simp only at h
      cases e1 : noE (p t) with
      | bad => rw [e1] at h; cases h
      | exc z => exact noE_noexc e1
      | ok b =>
        rw [e1, R.bind_ok] at h
        cases b with
        | false => rw [if_neg (by decide)] at h; exact filR_noexc h
        | true =>
          rw [if_pos rfl] at h
          cases e2 : noE (f t) with
          | bad => rw [e2] at h; cases h
          | exc z => exact noE_noexc e2
          | ok d =>
            rw [e2, R.bind_ok] at h
            cases e3 : filR u p f ys with
            | bad => rw [e3] at h; cases h
            | exc z => exact filR_noexc e3
            | ok ds => rw [e3] at h; cases h
theorem loopC_run {T : Type} {o : Bool} {tg : Tg} {own : List Nat} {t : BS} {φ : ES} {ρm : En} {u : D → Option T} {enc : T → En} {p : T → R Bool} {f : T → R D} (htg : ∀ j, j ∈ tgs tg → j ∈ own) (hw : wp own ρm = ρm) (hu : TgOk tg ρm u enc) (ht : ∀ a, EvT t (enc a) (p a)) (he : ∀ a, EvP o φ (enc a) (f a)) :
    ∀ (its acc out : List D), filR u p f its = .ok out → loopC tg own t φ its ρm acc = .ok (acc ++ out) ρm
  | [], acc, out, e => by cases e; unfold loopC; rw [List.append_nil]
  | x :: xs, acc, out, e => by
    unfold filR at e
    unfold loopC
    rw [hu x]
    cases e0 : u x with
    | none => rw [e0] at e; cases e
    | some a =>
      rw [e0] at e
      simp only [Option.map] at e ⊢
      have hk := put_keep tg (show put tg x ρm = some (enc a) by rw [hu x, e0]; rfl)
      have hwp : wp own (enc a) = ρm := by
        rw [← hw]
        refine (wp_eq hk.1 fun j hj => hk.2 j fun z => hj (htg j z)).trans ?_
        rw [hw]
      cases e1 : noE (p a) with
      | bad => rw [e1] at e; cases e
      | exc z => exact absurd e1 noE_noexc
      | ok b =>
        rw [e1, R.bind_ok] at e
        have h1 := ht a
        rw [noE_ok_of e1] at h1
        rw [show t (enc a) = .ok b (enc a) from h1]
        cases b with
        | false =>
          rw [if_neg (by decide)] at e
          show loopC tg own t φ xs (wp own (enc a)) acc = _
          rw [hwp]
          exact loopC_run htg hw hu ht he xs acc out e
        | true =>
          rw [if_pos rfl] at e
          cases e2 : noE (f a) with
          | bad => rw [e2] at e; cases e
          | exc z => exact absurd e2 noE_noexc
          | ok d =>
            rw [e2, R.bind_ok] at e
            have h2 := he a
            rw [noE_ok_of e2] at h2
            obtain ⟨rv, e5, r⟩ := h2
            cases e3 : filR u p f xs with
            | bad => rw [e3] at e; cases e
            | exc z => rw [e3] at e; cases e
            | ok ds =>
              rw [e3] at e
              cases e
              show (φ (enc a)).bind _ = _
              rw [e5]
              show loopC tg own t φ xs (wp own (enc a)) (acc ++ [rv.d]) = _
              rw [hwp, loopC_run htg hw hu ht he xs _ ds e3, r.d, List.append_assoc]
              rfl
/-- sources -/
def ofO {α : Type} : Option α → R α
  | some a => .ok a
  | none => .bad
@[simp] theorem ofO_some {α : Type} (a : α) : ofO (some a) = .ok a := rfl
@[simp] theorem ofO_none {α : Type} : ofO (none : Option α) = .bad := rfl
def EvSrc (src : Src) (ρ : En) (c : R (List D)) (al : List Nat) (ρm : En) : Prop := match c with
  | .ok its => ∃ xs ds, evs src.ops ρ = .ok xs ρ ∧ dats ρ xs = some ds ∧ src.f ds = some its ∧ ats xs = al ∧ lk xs ρ = ρm ∧ lks ρ xs = al.filter (fun i => match gt ρ i with | some (.own _) => true | some (.ref _) => true | _ => false)
  | .exc x => evs src.ops ρ = .exc x ρ
  | .bad => True
theorem vals_facts {ρ : En} : ∀ {xs : List Ov} {ds : List D}, vals xs = some ds → dats ρ xs = some ds ∧ ats xs = [] ∧ lk xs ρ = ρ
  | [], ds, e => by cases e; exact ⟨rfl, rfl, rfl⟩
  | .val d :: xs, ds, e => by
    unfold vals at e
    cases e1 : vals xs with
    | none => rw [e1] at e; cases e
    | some r =>
      rw [e1] at e
      cases e
      obtain ⟨h1, h2, h3⟩ := vals_facts (ρ := ρ) e1
      refine ⟨?_, h2, h3⟩
      unfold dats
      rw [h1]
      rfl
  | .at _ :: _, _, e => by cases e
def srR (f : List D → Option (List D)) (cs : List (R D)) : R (List D) := (seqR cs).bind fun ds => ofO (f ds)
theorem es_ex {f : List D → Option (List D)} {φs : List ES} {cs : List (R D)} {ρ : En} (h : EvPs φs ρ (seqR cs)) : EvSrc ⟨φs.map .ex, f⟩ ρ (srR f cs) [] ρ := by
  unfold srR
  generalize seqR cs = k at h
  cases k with
  | bad => trivial
  | exc x => exact h
  | ok ds =>
    obtain ⟨xs, e1, e2⟩ := h
    rw [R.bind_ok]
    cases e : f ds with
    | none => trivial
    | some its =>
      obtain ⟨h1, h2, h3⟩ := vals_facts (ρ := ρ) e2
      exact ⟨xs, ds, e1, h1, e, h2, h3, by unfold lks; rw [h2]; all_goals rfl⟩
/-- a comprehension -/
theorem ev_fil {T : Type} {o : Bool} {src : Src} {tg : Tg} {own al : List Nat} {t : BS} {φ : ES} {ρ ρm : En} {cs : R (List D)} {u : D → Option T} {enc : T → En} {p : T → R Bool} {f : T → R D} (hs : EvSrc src ρ cs al ρm) (htg : ((tgs tg).all own.contains) = true) (hal : (own.all fun i => !al.contains i) = true)
    (hu : TgOk tg (wp own ρm) u enc) (ht : ∀ a, EvT t (enc a) (p a)) (he : ∀ a, EvP o φ (enc a) (f a)) : EvP true (comp src tg own t φ) ρ (cs.bind fun its => (filR u p f its).bind fun ds => .ok (.lst ds)) := by
  cases cs with
  | bad => trivial
  | exc x => show (evs src.ops ρ).bind _ = _; rw [show evs src.ops ρ = .exc x ρ from hs]; rfl
  | ok its =>
    obtain ⟨xs, ds, e1, e2, e3, e4, e5, _⟩ := hs
    rw [R.bind_ok]
    cases e : filR u p f its with
    | bad => trivial
    | exc x => exact absurd e filR_noexc
    | ok out =>
      have hl := loopC_run (fun j hj => by simpa using List.all_eq_true.mp htg j hj) wp_wp hu ht he its [] out e
      refine ⟨.own (.lst out), ?_, .inl ⟨rfl, rfl⟩⟩
      show (evs src.ops ρ).bind _ = _
      rw [e1]
      show (match dats ρ xs with | some ds => _ | none => _) = _
      rw [e2]
      show (match src.f ds with | some items => _ | none => _) = _
      rw [e3]
      show (if (own.all fun i => !(ats xs).contains i) = true then _ else _) = _
      rw [e4, if_pos hal, e5, hl]
      show Out.ok (Rv.own (.lst ([] ++ out))) (rst ρ (own ++ al) (wp own ρm)) = _
      rw [← e4, ← e5, rst_lk]
      rfl
theorem ev_map {T : Type} {o : Bool} {src : Src} {tg : Tg} {own al : List Nat} {φ : ES} {ρ ρm : En} {cs : R (List D)} {u : D → Option T} {enc : T → En} {f : T → R D} (hs : EvSrc src ρ cs al ρm) (htg : ((tgs tg).all own.contains) = true) (hal : (own.all fun i => !al.contains i) = true)
    (hu : TgOk tg (wp own ρm) u enc) (he : ∀ a, EvP o φ (enc a) (f a)) : EvP true (comp src tg own yes φ) ρ (cs.bind fun its => (mapR u f its).bind fun ds => .ok (.lst ds)) := by
  have h := ev_fil (t := yes) (p := fun _ => .ok true) hs htg hal hu (fun _ => rfl) he
  simp only [mapR_fil]
  exact h
end VF

namespace VF
open PySem PySem.Spec PyProof.Rows L2
/-- what a block comes to: it goes on, or it returns -/
inductive LS (T α : Type) where
  | nx (t : T)
  | rt (a : α)
def LS.el {T α β : Type} (k : T → β) (r : α → β) : LS T α → β
  | .nx t => k t
  | .rt a => r a
@[simp] theorem LS.el_nx {T α β : Type} (k : T → β) (r : α → β) (t : T) : LS.el k r (.nx t) = k t := rfl
@[simp] theorem LS.el_rt {T α β : Type} (k : T → β) (r : α → β) (a : α) : LS.el k r (.rt a) = r a := rfl
/-- kinds of blocks -/
structure Kn (κ : Type) where
  p : SO → R κ → Prop
  ex : ∀ x ρ, p (.exc x ρ) (.exc x)
  bad : ∀ o, p o .bad
def kTl {α : Type} (o : Bool) (val : α → D) (fin : α → En → Prop) : Kn α where
  p := fun s c => match c with
    | .ok a => ∃ rv ρ', s = .rt rv ρ' ∧ RvOk o rv (val a) ∧ fin a ρ'
    | .exc x => ∃ ρ', s = .exc x ρ'
    | .bad => True
  ex := fun x ρ => ⟨ρ, rfl⟩
  bad := fun _ => trivial
def kBn {T : Type} (env : T → En) : Kn T where
  p := fun s c => match c with
    | .ok t => s = .nx (env t)
    | .exc x => ∃ ρ', s = .exc x ρ'
    | .bad => True
  ex := fun x ρ => ⟨ρ, rfl⟩
  bad := fun _ => trivial
def kBk {T α : Type} (o : Bool) (env : T → En) (val : α → D) (fin : α → En → Prop) : Kn (LS T α) where
  p := fun s c => match c with
    | .ok (.nx t) => s = .nx (env t)
    | .ok (.rt a) => ∃ rv ρ', s = .rt rv ρ' ∧ RvOk o rv (val a) ∧ fin a ρ'
    | .exc x => ∃ ρ', s = .exc x ρ'
    | .bad => True
  ex := fun x ρ => ⟨ρ, rfl⟩
  bad := fun _ => trivial
section
variable {κ : Type} {K : Kn κ} {ρ : En}
/-- an own object is frozen -/
def frz (i : Nat) (a : SS) : SS := fun ρ => match gt ρ i with
  | some (.own d) => a (ρ.set i (some (.val d)))
  | _ => a ρ
theorem k_kill {i : Nat} {a : SS} {c : R κ} (hn : noRef (gt ρ i) = true) (h : K.p (a (ρ.set i none)) c) : K.p (kill i a ρ) c := by
  have e : kill i a ρ = a (ρ.set i none) := by
    unfold kill
    cases e : gt ρ i with
    | none => rfl
    | some s => cases s with
      | val d => rfl
      | own d => rfl
      | ref d => rw [e] at hn; cases hn
      | rd d => rw [e] at hn; cases hn
  rw [e]
  exact h
theorem k_frz {i : Nat} {d : D} {a : SS} {c : R κ} (hn : gt ρ i = some (.own d)) (h : K.p (a (ρ.set i (some (.val d)))) c) : K.p (frz i a ρ) c := by
  have e : frz i a ρ = a (ρ.set i (some (.val d))) := by unfold frz; rw [hn]
  rw [e]
  exact h
theorem k_set {o : Bool} {i : Nat} {φ : ES} {a : SS} {c : R D} {k : D → R κ} (hi : okI ρ i = true) (he : EvP o φ ρ c) (h : ∀ d, K.p (a (ρ.set i (some (.val d)))) (k d)) : K.p (seq (setI i φ) (frz i a) ρ) (c.bind k) := by
  have hi : noRef (gt ρ i) = true ∧ i < ρ.length := by simpa [okI] using hi
  cases c with
  | bad => exact K.bad _
  | exc x =>
    have e : seq (setI i φ) (frz i a) ρ = .exc x ρ := by unfold seq setI; rw [show φ ρ = .exc x ρ from he]; rfl
    rw [e]
    exact K.ex _ _
  | ok d =>
    obtain ⟨rv, e, r⟩ := he
    have e : seq (setI i φ) (frz i a) ρ = a (ρ.set i (some (.val d))) := by
      rcases r with ⟨r, _⟩ | ⟨r, _⟩
      · subst r
        have e1 : setI i φ ρ = .nx (ρ.set i (some (.own d))) := by
          unfold setI
          rw [e]
          show (if noRef (gt ρ i) = true ∧ i < ρ.length then _ else _) = _
          rw [if_pos hi]
        unfold seq
        rw [e1]
        show frz i a (ρ.set i (some (.own d))) = _
        unfold frz
        rw [gt_set_self hi.2]
        show a ((ρ.set i (some (.own d))).set i (some (.val d))) = _
        rw [List.set_set]
      · subst r
        have e1 : setI i φ ρ = .nx (ρ.set i (some (.val d))) := by
          unfold setI
          rw [e]
          show (if noRef (gt ρ i) = true ∧ i < ρ.length then _ else _) = _
          rw [if_pos hi]
        unfold seq
        rw [e1]
        show frz i a (ρ.set i (some (.val d))) = _
        unfold frz
        rw [gt_set_self hi.2]
    rw [e]
    exact h d
theorem k_setO {i : Nat} {φ : ES} {a : SS} {c : R D} {k : D → R κ} (hi : okI ρ i = true) (he : EvP true φ ρ c) (h : ∀ d, K.p (a (ρ.set i (some (.own d)))) (k d)) : K.p (seq (setI i φ) a ρ) (c.bind k) := by
  have hi : noRef (gt ρ i) = true ∧ i < ρ.length := by simpa [okI] using hi
  cases c with
  | bad => exact K.bad _
  | exc x =>
    have e : seq (setI i φ) a ρ = .exc x ρ := by unfold seq setI; rw [show φ ρ = .exc x ρ from he]; rfl
    rw [e]
    exact K.ex _ _
  | ok d =>
    obtain ⟨rv, e, r⟩ := he
    have e : seq (setI i φ) a ρ = a (ρ.set i (some (.own d))) := by
      rcases r with ⟨r, _⟩ | ⟨_, r⟩
      · subst r
        have e1 : setI i φ ρ = .nx (ρ.set i (some (.own d))) := by
          unfold setI
          rw [e]
          show (if noRef (gt ρ i) = true ∧ i < ρ.length then _ else _) = _
          rw [if_pos hi]
        unfold seq
        rw [e1]
      · cases r
    rw [e]
    exact h d
/-- a, b = e -/
theorem k_put {T : Type} {o : Bool} {tg : Tg} {φ : ES} {a : SS} {c : R D} {u : D → Option T} {enc : T → En} {k : T → R κ} (hu : TgOk tg ρ u enc) (he : EvP o φ ρ c) (h : ∀ t, K.p (a (enc t)) (k t)) : K.p (seq (putS tg φ) a ρ) (c.bind fun d => (ofO (u d)).bind k) := by
  cases c with
  | bad => exact K.bad _
  | exc x =>
    have e : seq (putS tg φ) a ρ = .exc x ρ := by unfold seq putS; rw [show φ ρ = .exc x ρ from he]; rfl
    rw [e]
    exact K.ex _ _
  | ok d =>
    obtain ⟨rv, e, r⟩ := he
    rw [R.bind_ok]
    cases e1 : u d with
    | none => exact K.bad _
    | some t =>
      have e : seq (putS tg φ) a ρ = a (enc t) := by
        unfold seq putS
        rw [e]
        show (match (match put tg rv.d ρ with | some ρ2 => SO.nx ρ2 | none => .bad) with | .nx ρ' => a ρ' | o => o) = _
        rw [r.d, hu d, e1]
        rfl
      rw [e]
      exact h t
/-- raise -/
theorem k_raise {o : Bool} {c0 f : Str} {φ : ES} {c : R D} (he : EvP o φ ρ c) : K.p (raiseW c0 f φ ρ) (c.bind fun d => .exc ⟨c0, [f], [d]⟩) := by
  cases c with
  | bad => exact K.bad _
  | exc x =>
    have e : raiseW c0 f φ ρ = .exc x ρ := by unfold raiseW; rw [show φ ρ = .exc x ρ from he]; rfl
    rw [e]
    exact K.ex _ _
  | ok d =>
    obtain ⟨rv, e, r⟩ := he
    have e : raiseW c0 f φ ρ = .exc ⟨c0, [f], [d]⟩ ρ := by unfold raiseW; rw [e]; show SO.exc ⟨c0, [f], [rv.d]⟩ ρ = _; rw [r.d]
    rw [e]
    exact K.ex _ _
/-- a block that goes on, then another -/
theorem k_seqN {T : Type} {env : T → En} {a b : SS} {c : R T} {k : T → R κ} (ha : (kBn env).p (a ρ) c) (h : ∀ t, K.p (b (env t)) (k t)) : K.p (seq a b ρ) (c.bind k) := by
  cases c with
  | bad => exact K.bad _
  | exc x =>
    obtain ⟨ρ', e⟩ := ha
    have e : seq a b ρ = .exc x ρ' := by unfold seq; rw [e]
    rw [e]
    exact K.ex _ _
  | ok t =>
    have e : seq a b ρ = b (env t) := by unfold seq; rw [show a ρ = .nx (env t) from ha]
    rw [e]
    exact h t
end
section
variable {T α : Type} {o : Bool} {env : T → En} {val : α → D} {fin : α → En → Prop} {ρ : En}
theorem k_nil {t : T} (h : env t = ρ) : (kBn env).p (skip ρ) (.ok t) := by subst h; rfl
theorem bn_bk {s : SO} {c : R T} (h : (kBn env).p s c) : (kBk o env val fin).p s (c.bind fun a => .ok (.nx a)) := by cases c <;> exact h
theorem k_ret {o' : Bool} {φ : ES} {c : R D} {w : D → α} (he : EvP o' φ ρ c) (ho : o = true → o' = true) (hv : ∀ d, val (w d) = d) (hf : ∀ d, fin (w d) ρ) : (kTl o val fin).p (retE φ ρ) (c.bind fun d => .ok (w d)) := by
  cases c with
  | bad => trivial
  | exc x => exact ⟨ρ, by unfold retE; rw [show φ ρ = .exc x ρ from he]; rfl⟩
  | ok d =>
    obtain ⟨rv, e, r⟩ := he
    refine ⟨rv, ρ, by unfold retE; rw [e]; rfl, ?_, hf d⟩
    rw [hv]
    rcases r with ⟨r, z⟩ | ⟨r, z⟩
    · exact .inl ⟨r, z⟩
    · refine .inr ⟨r, ?_⟩
      cases o with
      | false => rfl
      | true => rw [ho rfl] at z; cases z
/-- return of a name -/
theorem k_retV {i : Nat} {d : D} {a : α} (hi : gt ρ i = some (.val d)) (hv : val a = d) (hf : fin a ρ) : (kTl false val fin).p (retI i ρ) (.ok a) := by
  refine ⟨.val d, ρ, by unfold retI; rw [hi], .inr ⟨by rw [hv], rfl⟩, hf⟩
def cnR {α : Type} (d : D) (a : α) : R α := if d.cont = true then .ok a else .bad
@[simp] theorem cnR_lst {α : Type} (ds : List D) (a : α) : cnR (.lst ds) a = .ok a := rfl
@[simp] theorem cnR_dck {α : Type} (k : List Key) (ds : List D) (a : α) : cnR (.dck k ds) a = .ok a := rfl
@[simp] theorem cnR_dct {α : Type} (k : List (List Key)) (ds : List D) (a : α) : cnR (.dct k ds) a = .ok a := rfl
@[simp] theorem cnR_ins {α : Type} (k : Str) (f : List Str) (ds : List D) (a : α) : cnR (.ins k f ds) a = .ok a := rfl
/-- if c: (returns); the rest -/
theorem k_ifrT {t : BS} {a b : SS} {ct : R Bool} {ca cb : R α} (ht : EvT t ρ ct) (ha : (kTl o val fin).p (a ρ) ca) (hb : (kTl o val fin).p (b ρ) cb) : (kTl o val fin).p (seq (ifS t a skip) b ρ) (ct.bind fun k => if k = true then ca else cb) := by
  cases ct with
  | bad => trivial
  | exc x => exact ⟨ρ, by unfold seq ifS; rw [show t ρ = .exc x ρ from ht]; rfl⟩
  | ok k =>
    rw [R.bind_ok]
    have e : ifS t a skip ρ = if k = true then a ρ else .nx ρ := by unfold ifS; rw [show t ρ = .ok k ρ from ht]; rfl
    cases k with
    | false =>
      have e2 : seq (ifS t a skip) b ρ = b ρ := by unfold seq; rw [e]; rfl
      rw [e2]; exact hb
    | true =>
      have e : ifS t a skip ρ = a ρ := e
      rw [if_pos rfl]
      cases ca with
      | bad => trivial
      | exc x => obtain ⟨ρ', e1⟩ := ha; exact ⟨ρ', by unfold seq; rw [e, e1]⟩
      | ok w => obtain ⟨rv, ρ', e1, r, f⟩ := ha; exact ⟨rv, ρ', by unfold seq; rw [e, e1], r, f⟩
theorem k_ifrB {t : BS} {a b : SS} {ct : R Bool} {ca : R α} {cb : R (LS T α)} (ht : EvT t ρ ct) (ha : (kTl o val fin).p (a ρ) ca) (hb : (kBk o env val fin).p (b ρ) cb) : (kBk o env val fin).p (seq (ifS t a skip) b ρ) (ct.bind fun k => if k = true then ca.bind fun a => .ok (.rt a) else cb) := by
  cases ct with
  | bad => trivial
  | exc x => exact ⟨ρ, by unfold seq ifS; rw [show t ρ = .exc x ρ from ht]; rfl⟩
  | ok k =>
    rw [R.bind_ok]
    have e : ifS t a skip ρ = if k = true then a ρ else .nx ρ := by unfold ifS; rw [show t ρ = .ok k ρ from ht]; rfl
    cases k with
    | false =>
      have e2 : seq (ifS t a skip) b ρ = b ρ := by unfold seq; rw [e]; rfl
      rw [e2]; exact hb
    | true =>
      have e : ifS t a skip ρ = a ρ := e
      rw [if_pos rfl]
      cases ca with
      | bad => trivial
      | exc x => obtain ⟨ρ', e1⟩ := ha; exact ⟨ρ', by unfold seq; rw [e, e1]⟩
      | ok w => obtain ⟨rv, ρ', e1, r, f⟩ := ha; exact ⟨rv, ρ', by unfold seq; rw [e, e1], r, f⟩
/-- if c: raise ..; the rest -/
theorem k_ifx {κ : Type} {K : Kn κ} {t : BS} {a b : SS} {ct : R Bool} {ca : R Empty} {cb : R κ} (ht : EvT t ρ ct) (ha : (kTl false (fun e : Empty => nomatch e) (fun _ _ => True)).p (a ρ) ca) (hb : K.p (b ρ) cb) : K.p (seq (ifS t a skip) b ρ) (ct.bind fun k => if k = true then ca.bind fun e => nomatch e else cb) := by
  cases ct with
  | bad => exact K.bad _
  | exc x =>
    have e : seq (ifS t a skip) b ρ = .exc x ρ := by unfold seq ifS; rw [show t ρ = .exc x ρ from ht]; rfl
    rw [e]; exact K.ex _ _
  | ok k =>
    rw [R.bind_ok]
    have e : ifS t a skip ρ = if k = true then a ρ else .nx ρ := by unfold ifS; rw [show t ρ = .ok k ρ from ht]; rfl
    cases k with
    | false =>
      have e2 : seq (ifS t a skip) b ρ = b ρ := by unfold seq; rw [e]; rfl
      rw [e2]; exact hb
    | true =>
      have e : ifS t a skip ρ = a ρ := e
      rw [if_pos rfl]
      cases ca with
      | bad => exact K.bad _
      | exc x =>
        obtain ⟨ρ', e1⟩ := ha
        have e2 : seq (ifS t a skip) b ρ = .exc x ρ' := by unfold seq; rw [e, e1]
        rw [e2]; exact K.ex _ _
      | ok w => exact nomatch w
/-- a block that may return, then the rest -/
theorem k_seqT {a b : SS} {c : R (LS T α)} {k : T → R α} (ha : (kBk o env val fin).p (a ρ) c) (h : ∀ t, (kTl o val fin).p (b (env t)) (k t)) : (kTl o val fin).p (seq a b ρ) (c.bind (LS.el k fun a => .ok a)) := by
  cases c with
  | bad => trivial
  | exc x => obtain ⟨ρ', e⟩ := ha; exact ⟨ρ', by unfold seq; rw [e]⟩
  | ok s =>
    rw [R.bind_ok]
    cases s with
    | nx t =>
      have e : seq a b ρ = b (env t) := by unfold seq; rw [show a ρ = .nx (env t) from ha]
      rw [e]; exact h t
    | rt w => obtain ⟨rv, ρ', e, r, f⟩ := ha; exact ⟨rv, ρ', by unfold seq; rw [e], r, f⟩
theorem k_seqB {T2 : Type} {env2 : T2 → En} {a b : SS} {c : R (LS T α)} {k : T → R (LS T2 α)} (ha : (kBk o env val fin).p (a ρ) c) (h : ∀ t, (kBk o env2 val fin).p (b (env t)) (k t)) : (kBk o env2 val fin).p (seq a b ρ) (c.bind (LS.el k fun a => .ok (.rt a))) := by
  cases c with
  | bad => trivial
  | exc x => obtain ⟨ρ', e⟩ := ha; exact ⟨ρ', by unfold seq; rw [e]⟩
  | ok s =>
    rw [R.bind_ok]
    cases s with
    | nx t =>
      have e : seq a b ρ = b (env t) := by unfold seq; rw [show a ρ = .nx (env t) from ha]
      rw [e]; exact h t
    | rt w => obtain ⟨rv, ρ', e, r, f⟩ := ha; exact ⟨rv, ρ', by unfold seq; rw [e], r, f⟩
/-- loops -/
def forN {X : Type} (u : D → Option X) (f : T → X → R T) : List D → T → R T
  | [], t => .ok t
  | d :: ds, t => match u d with
    | none => .bad
    | some x => (f t x).bind fun t' => forN u f ds t'
def forB {X : Type} (u : D → Option X) (f : T → X → R (LS T α)) : List D → T → R (LS T α)
  | [], t => .ok (.nx t)
  | d :: ds, t => match u d with
    | none => .bad
    | some x => (f t x).bind fun s => match s with
      | .nx t' => forB u f ds t'
      | .rt a => .ok (.rt a)
theorem loopN {X : Type} {u : D → Option X} {f : T → X → R T} {tg : Tg} {body : SS} {enc : T → X → En} (hu : ∀ t, TgOk tg (env t) u (enc t)) (hb : ∀ t x, (kBn env).p (body (enc t x)) (f t x)) : ∀ (ds : List D) (t : T), (kBn env).p (loopS tg body ds (env t)) (forN u f ds t)
  | [], t => rfl
  | d :: ds, t => by
    unfold forN
    cases e : u d with
    | none => trivial
    | some x =>
      have h := hb t x
      have e1 : loopS tg body (d :: ds) (env t) = match body (enc t x) with
          | .nx ρ2 => loopS tg body ds ρ2
          | .ct ρ2 => loopS tg body ds ρ2
          | .bk ρ2 => .nx ρ2
          | o => o := by
        show (match put tg d (env t) with | none => SO.bad | some ρ1 => _) = _
        rw [hu t d, e]
        rfl
      rw [e1]
      show (kBn env).p _ ((f t x).bind _)
      cases ef : f t x with
      | bad => trivial
      | exc y => rw [ef] at h; obtain ⟨ρ', e2⟩ := h; exact ⟨ρ', by rw [e2]⟩
      | ok t' =>
        rw [ef] at h
        rw [show body (enc t x) = .nx (env t') from h]
        exact loopN hu hb ds t'
theorem loopB {X : Type} {u : D → Option X} {f : T → X → R (LS T α)} {tg : Tg} {body : SS} {enc : T → X → En} (hu : ∀ t, TgOk tg (env t) u (enc t)) (hb : ∀ t x, (kBk o env val fin).p (body (enc t x)) (f t x)) : ∀ (ds : List D) (t : T), (kBk o env val fin).p (loopS tg body ds (env t)) (forB u f ds t)
  | [], t => rfl
  | d :: ds, t => by
    unfold forB
    cases e : u d with
    | none => trivial
    | some x =>
      have h := hb t x
      have e1 : loopS tg body (d :: ds) (env t) = match body (enc t x) with
          | .nx ρ2 => loopS tg body ds ρ2
          | .ct ρ2 => loopS tg body ds ρ2
          | .bk ρ2 => .nx ρ2
          | o => o := by
        show (match put tg d (env t) with | none => SO.bad | some ρ1 => _) = _
        rw [hu t d, e]
        rfl
      rw [e1]
      show (kBk o env val fin).p _ ((f t x).bind _)
      cases ef : f t x with
      | bad => trivial
      | exc y => rw [ef] at h; obtain ⟨ρ', e2⟩ := h; exact ⟨ρ', by rw [e2]⟩
      | ok s =>
        rw [ef] at h
        rw [R.bind_ok]
        cases s with
        | nx t' =>
          rw [show body (enc t x) = .nx (env t') from h]
          exact loopB hu hb ds t'
        | rt w => obtain ⟨rv, ρ', e2, r, g⟩ := h; exact ⟨rv, ρ', by rw [e2], r, g⟩
/-- for, nothing of one's own is walked -/
theorem k_for {X : Type} {src : Src} {u : D → Option X} {f : T → X → R T} {tg : Tg} {body : SS} {enc : T → X → En} {cs : R (List D)} {t0 : T} (hs : EvSrc src ρ cs [] ρ) (h0 : env t0 = ρ) (hu : ∀ t, TgOk tg (env t) u (enc t)) (hb : ∀ t x, (kBn env).p (body (enc t x)) (f t x)) :
    (kBn env).p (forS src tg body ρ) (cs.bind fun its => forN u f its t0) := by
  cases cs with
  | bad => trivial
  | exc x => exact ⟨ρ, by unfold forS; rw [show evs src.ops ρ = .exc x ρ from hs]; rfl⟩
  | ok its =>
    obtain ⟨xs, ds, e1, e2, e3, e4, e5, e6⟩ := hs
    have e : forS src tg body ρ = unl ρ [] (loopS tg body its ρ) := by
      unfold forS
      rw [e1]
      show (match dats ρ xs with | some ds => _ | none => _) = _
      rw [e2]
      show (match src.f ds with | some items => _ | none => _) = _
      rw [e3]
      show unl ρ (lks ρ xs) (loopS tg body its (lk xs ρ)) = _
      rw [e5, e6]
      rfl
    have l := loopN hu hb its t0
    rw [h0] at l
    rw [e, R.bind_ok]
    generalize forN u f its t0 = z at l
    cases z with
    | bad => trivial
    | exc x => obtain ⟨ρ', l⟩ := l; exact ⟨ρ', by rw [l]; rfl⟩
    | ok t => rw [show loopS tg body its ρ = .nx (env t) from l]; rfl
theorem k_forB {X : Type} {src : Src} {u : D → Option X} {f : T → X → R (LS T α)} {tg : Tg} {body : SS} {enc : T → X → En} {cs : R (List D)} {t0 : T} (hs : EvSrc src ρ cs [] ρ) (h0 : env t0 = ρ) (hu : ∀ t, TgOk tg (env t) u (enc t)) (hb : ∀ t x, (kBk o env val fin).p (body (enc t x)) (f t x)) :
    (kBk o env val fin).p (forS src tg body ρ) (cs.bind fun its => forB u f its t0) := by
  cases cs with
  | bad => trivial
  | exc x => exact ⟨ρ, by unfold forS; rw [show evs src.ops ρ = .exc x ρ from hs]; rfl⟩
  | ok its =>
    obtain ⟨xs, ds, e1, e2, e3, e4, e5, e6⟩ := hs
    have e : forS src tg body ρ = unl ρ [] (loopS tg body its ρ) := by
      unfold forS
      rw [e1]
      show (match dats ρ xs with | some ds => _ | none => _) = _
      rw [e2]
      show (match src.f ds with | some items => _ | none => _) = _
      rw [e3]
      show unl ρ (lks ρ xs) (loopS tg body its (lk xs ρ)) = _
      rw [e5, e6]
      rfl
    have l := loopB hu hb its t0
    rw [h0] at l
    rw [e, R.bind_ok]
    generalize forB u f its t0 = z at l
    cases z with
    | bad => trivial
    | exc x => obtain ⟨ρ', l⟩ := l; exact ⟨ρ', by rw [l]; rfl⟩
    | ok s => cases s with
      | nx t => rw [show loopS tg body its ρ = .nx (env t) from l]; rfl
      | rt a => obtain ⟨rv, ρ', l, r, g⟩ := l; exact ⟨rv, ρ', by rw [l]; rfl, r, g⟩
end
/-- a def all of whose arguments are values -/
def FnP (o : Bool) (xf : FSem) (ds : List D) (c : R D) : Prop := match c with
  | .ok d => ∃ rv, xf (ds.map .val) = .ok rv (ds.map .val) ∧ RvOk o rv d
  | .exc x => xf (ds.map .val) = .exc x (ds.map .val)
  | .bad => True
def en0 (n : Nat) (ds : List D) : En := ds.map (fun d => some (.val d)) ++ List.replicate (n - ds.length) none
theorem finA_val {ds : List D} {ρ : En} : finA (ds.map .val) ρ = ds.map .val := by
  unfold finA
  apply List.ext_getElem?
  intro i
  rw [List.getElem?_mapIdx, List.getElem?_map]
  cases ds[i]? with
  | none => rfl
  | some d => rfl
theorem fnS_val {n : Nat} {b : SS} {ds : List D} : fnS n b (ds.map .val) = match b (en0 n ds) with
  | .nx ρ => .ok (.val .non) (ds.map .val)
  | .rt r ρ => .ok r (ds.map .val)
  | .exc x ρ => .exc x (ds.map .val)
  | _ => .bad := by
  unfold fnS en0
  rw [List.map_map, List.length_map]
  show (match b (ds.map (fun d => some (Sl.val d)) ++ List.replicate (n - ds.length) none) with | .nx ρ => _ | .rt r ρ => _ | .exc x ρ => _ | _ => _) = _
  cases b (ds.map (fun d => some (Sl.val d)) ++ List.replicate (n - ds.length) none) <;> simp only [finA_val]
def yF : D → En → Prop := fun _ _ => True
theorem fn_tl {o : Bool} {n : Nat} {b : SS} {ds : List D} {c : R D} (h : (kTl o (fun d : D => d) yF).p (b (en0 n ds)) c) : FnP o (fnS n b) ds c := by
  unfold FnP
  rw [fnS_val]
  cases c with
  | bad => trivial
  | exc x => obtain ⟨ρ', e⟩ := h; simp only [e]
  | ok d => obtain ⟨rv, ρ', e, r, _⟩ := h; exact ⟨rv, by rw [e], r⟩
theorem fn_bn {T : Type} {env : T → En} {n : Nat} {b : SS} {ds : List D} {c : R T} (h : (kBn env).p (b (en0 n ds)) c) : FnP false (fnS n b) ds (c.bind fun _ => .ok .non) := by
  unfold FnP
  rw [fnS_val]
  cases c with
  | bad => trivial
  | exc x => obtain ⟨ρ', e⟩ := h; simp only [e, R.bind_exc]
  | ok t => exact ⟨.val .non, by rw [show b (en0 n ds) = .nx (env t) from h], .inr ⟨rfl, rfl⟩⟩
/-- calls by values -/
def EvAs (os : List Opd) (ρ : En) (c : R (List D)) : Prop := match c with
  | .ok ds => ∃ xs, evs os ρ = .ok xs ρ ∧ slOs ρ xs = some (ds.map .val)
  | .exc x => evs os ρ = .exc x ρ
  | .bad => True
section
variable {ρ : En}
theorem eas_nil : EvAs [] ρ (seqR []) := ⟨[], rfl, rfl⟩
theorem eas_cons {o : Opd} {os : List Opd} {c : R D} {cs : List (R D)} (h : EvA o ρ c) (hs : EvAs os ρ (seqR cs)) : EvAs (o :: os) ρ (seqR (c :: cs)) := by
  rw [seqR_cons]
  cases c with
  | bad => trivial
  | exc x => show (o.ev ρ).bind _ = _; rw [show o.ev ρ = .exc x ρ from h]; rfl
  | ok d =>
    obtain ⟨x, e1, e2⟩ := h
    rw [R.bind_ok]
    generalize seqR cs = k at hs
    cases k with
    | bad => trivial
    | exc y => show (o.ev ρ).bind _ = _; rw [e1]; show (evs os ρ).bind _ = _; rw [show evs os ρ = .exc y ρ from hs]; rfl
    | ok ds =>
      obtain ⟨xs, e3, e4⟩ := hs
      refine ⟨x :: xs, ?_, ?_⟩
      · show (o.ev ρ).bind _ = _; rw [e1]; show (evs os ρ).bind _ = _; rw [e3]; rfl
      · unfold slOs; rw [e2, e4]; rfl
theorem slOs_val {xs : List Ov} : ∀ {dd : List D}, slOs ρ (dd.map .val) = some (dd.map .val)
  | [] => rfl
  | d :: dd => by show (match some (Sl.val d), slOs ρ (dd.map .val) with | some s, some ss => some (s :: ss) | _, _ => none) = _; rw [slOs_val (xs := xs)]; rfl
theorem slOs_app2 : ∀ {xs ys : List Ov} {ds es : List Sl}, slOs ρ xs = some ds → slOs ρ ys = some es → slOs ρ (xs ++ ys) = some (ds ++ es)
  | [], _, ds, _, e, h => by cases e; exact h
  | x :: xs, ys, ds, es, e, h => by
    unfold slOs at e
    cases e1 : slO ρ x with
    | none => rw [e1] at e; cases e
    | some s =>
      cases e2 : slOs ρ xs with
      | none => rw [e1, e2] at e; cases e
      | some ss =>
        rw [e1, e2] at e
        cases e
        show (match slO ρ x, slOs ρ (xs ++ ys) with | some s, some ss => some (s :: ss) | _, _ => none) = _
        rw [e1, slOs_app2 e2 h]
        rfl
theorem tpI_vals : ∀ {xs : List Ov} {ds : List D}, slOs ρ xs = some (ds.map .val) → tpI ρ xs = []
  | [], _, _ => rfl
  | x :: xs, ds, e => by
    unfold slOs at e
    cases e1 : slO ρ x with
    | none => rw [e1] at e; cases e
    | some s =>
      cases e2 : slOs ρ xs with
      | none => rw [e1, e2] at e; cases e
      | some ss =>
        rw [e1, e2] at e
        cases ds with
        | nil => cases e
        | cons d ds =>
          simp only [List.map_cons, Option.some.injEq, List.cons.injEq] at e
          obtain ⟨rfl, rfl⟩ := e
          have h := tpI_vals e2
          cases x with
          | val w => exact h
          | «at» i =>
            unfold tpI
            have : isTop ρ i = false := by
              have e1 : (match gt ρ i with | some (.own d) => some (Sl.ref d) | t => t) = some (.val d) := e1
              unfold isTop
              cases e3 : gt ρ i with
              | none => rfl
              | some t =>
                rw [e3] at e1
                cases t with
                | val w => rfl
                | own w => cases e1
                | ref w => cases e1
                | rd w => cases e1
            rw [this]
            exact h
theorem look_vals : ∀ {xs : List Ov} {ds : List D} {j : Nat}, look xs (ds.map .val) j = none
  | [], _, _ => by unfold look; rfl
  | x :: xs, [], _ => by unfold look; cases x <;> rfl
  | .val _ :: xs, d :: ds, j => look_vals (xs := xs) (ds := ds)
  | .at _ :: xs, d :: ds, j => look_vals (xs := xs) (ds := ds)
theorem back_val {xs : List Ov} {ds : List D} : back xs (ds.map .val) ρ = ρ := by
  unfold back
  apply List.ext_getElem?
  intro i
  rw [List.getElem?_mapIdx]
  cases ρ[i]? with
  | none => rfl
  | some s =>
    show some (bk1 xs (ds.map .val) i s) = some s
    cases s with
    | none => rfl
    | some t => cases t with
      | val d => rfl
      | rd d => rfl
      | own d => show some (match look xs (ds.map .val) i with | some d' => _ | none => _) = _; rw [look_vals]
      | ref d => show some (match look xs (ds.map .val) i with | some d' => _ | none => _) = _; rw [look_vals]
theorem ev_call {o : Bool} {xf : FSem} {os : List Opd} {dd : List D} {cs : List (R D)} {f : List D → R D} (h : EvAs os ρ (seqR cs)) (hf : ∀ ds, FnP o xf (ds ++ dd) (f ds)) : EvP o (callF xf os dd) ρ ((seqR cs).bind f) := by
  generalize seqR cs = k at h
  cases k with
  | bad => trivial
  | exc x => show (evs os ρ).bind _ = _; rw [show evs os ρ = .exc x ρ from h]; rfl
  | ok ds =>
    obtain ⟨xs, e1, e2⟩ := h
    rw [R.bind_ok]
    have e3 : slOs ρ (xs ++ dd.map .val) = some ((ds ++ dd).map .val) := by rw [List.map_append]; exact slOs_app2 e2 (slOs_val (xs := xs))
    have e0 : callF xf os dd ρ = match xf ((ds ++ dd).map .val) with
        | .ok r outs => .ok r (back (xs ++ dd.map .val) outs ρ)
        | .exc x outs => .exc x (back (xs ++ dd.map .val) outs ρ)
        | .bad => .bad := by
      unfold callF
      rw [e1]
      show (match slOs ρ (xs ++ dd.map .val) with | some sls => _ | none => _) = _
      rw [e3]
      show (if ndB (tpI ρ (xs ++ dd.map .val)) = true then _ else _) = _
      rw [tpI_vals e3]
      rfl
    have hk := hf ds
    cases e : f ds with
    | bad => trivial
    | exc x => rw [e] at hk; show callF xf os dd ρ = _; rw [e0, show xf ((ds ++ dd).map .val) = .exc x ((ds ++ dd).map .val) from hk]; simp only [back_val]
    | ok d => rw [e] at hk; obtain ⟨rv, e4, r⟩ := hk; exact ⟨rv, by rw [e0, e4]; simp only [back_val], r⟩
end
def ap2 (f : D → D → R D) : List D → R D
  | [a, b] => f a b
  | _ => .bad
end VF

namespace VF
open PySem PySem.Spec PyProof.Rows L2
/-- an expression that changes slots: enc tells the slots behind it -/
def EvS {S : Type} (o : Bool) (φ : ES) (ρ : En) (c : R (D × S)) (enc : S → En) : Prop := match c with
  | .ok p => ∃ rv, φ ρ = .ok rv (enc p.2) ∧ RvOk o rv p.1
  | .exc x => ∃ ρ', φ ρ = .exc x ρ'
  | .bad => True
def EvTS {S : Type} (t : BS) (ρ : En) (c : R (Bool × S)) (enc : S → En) : Prop := match c with
  | .ok p => t ρ = .ok p.1 (enc p.2)
  | .exc x => ∃ ρ', t ρ = .exc x ρ'
  | .bad => True
def EvXs {A : Type} (os : List Opd) (ρ : En) (c : R A) (xs : A → List Ov) (env : A → En) : Prop := match c with
  | .ok a => evs os ρ = .ok (xs a) (env a)
  | .exc x => ∃ ρ', evs os ρ = .exc x ρ'
  | .bad => True
section
variable {ρ : En}
theorem xs_nil : EvXs [] ρ (R.ok ()) (fun _ => []) (fun _ => ρ) := rfl
theorem xs_sl {A : Type} {i : Nat} {s : Sl} {os : List Opd} {c : R A} {xs : A → List Ov} {env : A → En} (h : gt ρ i = some s) (hs : EvXs os ρ c xs env) : EvXs (.sl i :: os) ρ c (fun a => .at i :: xs a) env := by
  have e : evs (.sl i :: os) ρ = (evs os ρ).bind fun xs ρ2 => .ok (.at i :: xs) ρ2 := by
    show (Opd.ev (.sl i) ρ).bind _ = _
    simp only [Opd.ev, h, Out.bind]
  unfold EvXs at hs ⊢
  cases c with
  | bad => trivial
  | exc x => obtain ⟨ρ', h⟩ := hs; exact ⟨ρ', by rw [e, h]; rfl⟩
  | ok a => simp only at hs ⊢; rw [e, hs]; rfl
theorem xs_p {A : Type} {o : Bool} {φ : ES} {os : List Opd} {c : R D} {cs : R A} {xs : A → List Ov} {env : A → En} (h : EvP o φ ρ c) (hs : EvXs os ρ cs xs env) : EvXs (.ex φ :: os) ρ (c.bind fun d => cs.bind fun a => .ok (d, a)) (fun p => .val p.1 :: xs p.2) (fun p => env p.2) := by
  cases c with
  | bad => trivial
  | exc x => exact ⟨ρ, by show (Opd.ev (.ex φ) ρ).bind _ = _; simp only [Opd.ev, show φ ρ = .exc x ρ from h, Out.bind]⟩
  | ok d =>
    obtain ⟨rv, e1, r⟩ := h
    have e : evs (.ex φ :: os) ρ = (evs os ρ).bind fun xs ρ2 => .ok (.val d :: xs) ρ2 := by
      show (Opd.ev (.ex φ) ρ).bind _ = _
      rw [ex_ev e1 r]
      rfl
    rw [R.bind_ok]
    cases cs with
    | bad => trivial
    | exc x => obtain ⟨ρ', h⟩ := hs; exact ⟨ρ', by rw [e, h]; rfl⟩
    | ok a => show evs _ _ = _; rw [e, show evs os ρ = _ from hs]; rfl
theorem xs_s {A S : Type} {o : Bool} {φ : ES} {os : List Opd} {c : R (D × S)} {enc : S → En} {cs : D × S → R A} {xs : D × S → A → List Ov} {env : D × S → A → En} (h : EvS o φ ρ c enc) (hs : ∀ p : D × S, EvXs os (enc p.2) (cs p) (xs p) (env p)) :
    EvXs (.ex φ :: os) ρ (c.bind fun p => (cs p).bind fun a => .ok (p, a)) (fun q => .val q.1.1 :: xs q.1 q.2) (fun q => env q.1 q.2) := by
  cases c with
  | bad => trivial
  | exc x => obtain ⟨ρ', h⟩ := h; exact ⟨ρ', by show (Opd.ev (.ex φ) ρ).bind _ = _; simp only [Opd.ev, h, Out.bind]⟩
  | ok p =>
    obtain ⟨rv, e1, r⟩ := h
    have e : evs (.ex φ :: os) ρ = (evs os (enc p.2)).bind fun xs ρ2 => .ok (.val p.1 :: xs) ρ2 := by
      show (Opd.ev (.ex φ) ρ).bind _ = _
      simp only [Opd.ev, e1, Out.bind, r.d]
    rw [R.bind_ok]
    have hs := hs p
    cases ec : cs p with
    | bad => trivial
    | exc x => rw [ec] at hs; obtain ⟨ρ', h⟩ := hs; exact ⟨ρ', by rw [e, h]; rfl⟩
    | ok a => rw [ec] at hs; show evs _ _ = _; rw [e, show evs os _ = _ from hs]; rfl
theorem es_app {A S : Type} {f : List D → Option Rv} {os : List Opd} {c : R A} {xs : A → List Ov} {env : A → En} {ds : A → List D} {st : A → S} {enc : S → En} (h : EvXs os ρ c xs env) (hd : ∀ a, dats (env a) (xs a) = some (ds a)) (he : ∀ a, env a = enc (st a)) :
    EvS false (app f os) ρ (c.bind fun a => (pr (f (ds a))).bind fun d => .ok (d, st a)) enc := by
  cases c with
  | bad => trivial
  | exc x => obtain ⟨ρ', h⟩ := h; exact ⟨ρ', by unfold app; rw [h]; rfl⟩
  | ok a =>
    rw [R.bind_ok]
    cases e : pr (f (ds a)) with
    | bad => trivial
    | exc x => exact absurd e pr_noexc
    | ok d =>
      obtain ⟨rv, e3, r⟩ := pr_rv e
      refine ⟨rv, ?_, r⟩
      unfold app
      rw [show evs os ρ = _ from h]
      show (match dats (env a) (xs a) with | some ds => _ | none => _) = _
      rw [hd a]
      show (match f (ds a) with | some r => _ | none => _) = _
      rw [e3]
      show Out.ok rv (env a) = _
      rw [he a]
theorem es_disp {A S : Type} {mk : List D → Rv} {o : Bool} {f : List D → D} {φs : List ES} {c : R A} {xs : A → List Ov} {env : A → En} {ds : A → List D} {st : A → S} {enc : S → En} (hm : ∀ ds, RvOk o (mk ds) (f ds)) (h : EvXs (φs.map .ex) ρ c xs env) (hd : ∀ a, vals (xs a) = some (ds a)) (he : ∀ a, env a = enc (st a)) :
    EvS o (disp mk φs) ρ (c.bind fun a => .ok (f (ds a), st a)) enc := by
  cases c with
  | bad => trivial
  | exc x => obtain ⟨ρ', h⟩ := h; exact ⟨ρ', by unfold disp; rw [h]; rfl⟩
  | ok a =>
    refine ⟨mk (ds a), ?_, hm _⟩
    unfold disp
    rw [show evs _ ρ = _ from h]
    show (match vals (xs a) with | some ds => _ | none => _) = _
    rw [hd a, he a]
theorem es_tup {A S : Type} {φs : List ES} {c : R A} {xs : A → List Ov} {env : A → En} {ds : A → List D} {st : A → S} {enc : S → En} (h : EvXs (φs.map .ex) ρ c xs env) (hd : ∀ a, vals (xs a) = some (ds a)) (he : ∀ a, env a = enc (st a)) : EvS false (disp mkT φs) ρ (c.bind fun a => .ok (.tup (ds a), st a)) enc := es_disp (f := .tup) (fun _ => .inr ⟨rfl, rfl⟩) h hd he
end
/-- a def that may change some of its arguments -/
def FnS {B : Type} (o : Bool) (xf : FSem) (sls : List Sl) (c : R B) (val : B → D) (outs : B → List Sl) : Prop := match c with
  | .ok b => ∃ rv, xf sls = .ok rv (outs b) ∧ RvOk o rv (val b)
  | .exc x => ∃ os, xf sls = .exc x os
  | .bad => True
theorem FnP.s {o : Bool} {xf : FSem} {ds : List D} {c : R D} (h : FnP o xf ds c) : FnS o xf (ds.map .val) c (fun d => d) (fun _ => ds.map .val) := by
  cases c with
  | bad => trivial
  | exc x => exact ⟨_, h⟩
  | ok d => exact h
def enS (n : Nat) (sls : List Sl) : En := sls.map some ++ List.replicate (n - sls.length) none
theorem fs_tl {B : Type} {o : Bool} {n : Nat} {b : SS} {sls : List Sl} {c : R B} {val : B → D} {outs : B → List Sl} (h : (kTl o val (fun a ρ => finA sls ρ = outs a)).p (b (enS n sls)) c) : FnS o (fnS n b) sls c val outs := by
  cases c with
  | bad => trivial
  | exc x =>
    obtain ⟨ρ', e⟩ := h
    refine ⟨finA sls ρ', ?_⟩
    unfold fnS
    rw [show b (sls.map some ++ List.replicate (n - sls.length) none) = .exc x ρ' from e]
  | ok a =>
    obtain ⟨rv, ρ', e, r, f⟩ := h
    refine ⟨rv, ?_, r⟩
    unfold fnS
    rw [show b (sls.map some ++ List.replicate (n - sls.length) none) = .rt rv ρ' from e]
    show FO.ok rv (finA sls ρ') = _
    rw [f]
section
variable {ρ : En}
theorem es_call {A B S : Type} {o : Bool} {xf : FSem} {os : List Opd} {dd : List D} {c : R A} {xs : A → List Ov} {env : A → En} {sls : A → List Sl} {cf : A → R B} {val : B → D} {outs : A → B → List Sl} {st : A → B → S} {enc : S → En}
    (h : EvXs os ρ c xs env) (hl : ∀ a, slOs (env a) (xs a ++ dd.map .val) = some (sls a)) (hn : ∀ a, ndB (tpI (env a) (xs a ++ dd.map .val)) = true) (hf : ∀ a, FnS o xf (sls a) (cf a) val (outs a)) (he : ∀ a b, back (xs a ++ dd.map .val) (outs a b) (env a) = enc (st a b)) :
    EvS o (callF xf os dd) ρ (c.bind fun a => (cf a).bind fun b => .ok (val b, st a b)) enc := by
  cases c with
  | bad => trivial
  | exc x => obtain ⟨ρ', h⟩ := h; exact ⟨ρ', by unfold callF; rw [h]; rfl⟩
  | ok a =>
    rw [R.bind_ok]
    have e0 : callF xf os dd ρ = match xf (sls a) with
        | .ok r outs => .ok r (back (xs a ++ dd.map .val) outs (env a))
        | .exc x outs => .exc x (back (xs a ++ dd.map .val) outs (env a))
        | .bad => .bad := by
      unfold callF
      rw [show evs os ρ = _ from h]
      show (match slOs (env a) (xs a ++ dd.map .val) with | some sls => _ | none => _) = _
      rw [hl a]
      show (if ndB (tpI (env a) (xs a ++ dd.map .val)) = true then _ else _) = _
      rw [if_pos (hn a)]
      all_goals rfl
    have hk := hf a
    cases e : cf a with
    | bad => trivial
    | exc x => rw [e] at hk; obtain ⟨os', e1⟩ := hk; exact ⟨_, by rw [e0, e1]⟩
    | ok b =>
      rw [e] at hk
      obtain ⟨rv, e1, r⟩ := hk
      refine ⟨rv, ?_, r⟩
      rw [e0, e1]
      show Out.ok rv (back (xs a ++ dd.map .val) (outs a b) (env a)) = _
      rw [he a b]
/-- a method of a built-in type that changes its object -/
theorem es_mut {A S : Type} {T : String} {f : List D → D → Option (D × D)} {i : Nat} {φs : List ES} {c : R A} {xs : A → List Ov} {env : A → En} {ds : A → List D} {cur : A → D} {s0 : Sl} {sm : D → Sl} {st : A → D → S} {enc : S → En} (h0 : gt ρ i = some s0) (h : EvXs (φs.map .ex) ρ c xs env) (hd : ∀ a, vals (xs a) = some (ds a))
    (hg : ∀ a, gt (env a) i = some (sm (cur a))) (hm : sm = .own ∨ sm = .ref) (he : ∀ a d, (env a).set i (some (sm d)) = enc (st a d)) :
    EvS false (mutM T f i φs) ρ (if s0.d.ty = some T then c.bind fun a => (ofO (f (ds a) (cur a))).bind fun p => .ok (p.1, st a p.2) else .bad) enc := by
  by_cases ht : s0.d.ty = some T
  · rw [if_pos ht]
    have e0 : mutM T f i φs ρ = (evs (φs.map .ex) ρ).bind fun xs ρ1 => (match vals xs with
        | some ds => (match mutS i (f ds) ρ1 with
          | some (r, ρ2) => .ok (.val r) ρ2
          | none => .bad)
        | none => .bad) := by
      unfold mutM
      simp only [Opd.ev, h0, Out.bind, Ov.dat, Option.map, if_pos ht]
      all_goals rfl
    cases c with
    | bad => trivial
    | exc x => obtain ⟨ρ', h⟩ := h; exact ⟨ρ', by rw [e0, h]; rfl⟩
    | ok a =>
      rw [R.bind_ok]
      cases e : f (ds a) (cur a) with
      | none => trivial
      | some p =>
        refine ⟨.val p.1, ?_, .inr ⟨rfl, rfl⟩⟩
        rw [e0, show evs _ ρ = _ from h]
        show (match vals (xs a) with | some ds => _ | none => _) = _
        rw [hd a]
        show (match mutS i (f (ds a)) (env a) with | some (r, ρ2) => _ | none => _) = _
        have em : mutS i (f (ds a)) (env a) = some (p.1, (env a).set i (some (sm p.2))) := by
          rcases hm with rfl | rfl <;> simp only [mutS, hg a, e]
        rw [em]
        show Out.ok (Rv.val p.1) ((env a).set i (some (sm p.2))) = _
        rw [he a p.2]
  · rw [if_neg ht]; trivial
/-- tests that change slots -/
theorem ets_tst {S : Type} {o : Bool} {φ : ES} {c : R (D × S)} {enc : S → En} (h : EvS o φ ρ c enc) : EvTS (tst φ) ρ (c.bind fun p => (asB p.1).bind fun b => .ok (b, p.2)) enc := by
  cases c with
  | bad => trivial
  | exc x => obtain ⟨ρ', h⟩ := h; exact ⟨ρ', by unfold tst; rw [h]; rfl⟩
  | ok p =>
    obtain ⟨rv, e, r⟩ := h
    rw [R.bind_ok]
    obtain ⟨d, s⟩ := p
    cases d with
    | bl b =>
      rcases r with ⟨_, r⟩ | ⟨r, _⟩
      · cases r
      · subst r
        show (φ ρ).bind _ = _
        rw [e]; rfl
    | _ => trivial
theorem ets_and {S : Type} {t u : BS} {c : R Bool} {e : R (Bool × S)} {s : S} {enc : S → En} (h : EvT t ρ c) (h2 : EvTS u ρ e enc) (he : ρ = enc s) : EvTS (band t u) ρ (c.bind fun b => if b = true then e else .ok (false, s)) enc := by
  cases c with
  | bad => trivial
  | exc x => exact ⟨ρ, by show (t ρ).bind _ = _; rw [show t ρ = .exc x ρ from h]; rfl⟩
  | ok b =>
    have k : band t u ρ = if b then u ρ else .ok false ρ := by show (t ρ).bind _ = _; rw [show t ρ = .ok b ρ from h]; rfl
    cases b with
    | false => show band t u ρ = _; rw [k]; show Out.ok false ρ = _; rw [he]
    | true =>
      rw [R.bind_ok, if_pos rfl]
      unfold EvTS at h2 ⊢
      rw [k]
      exact h2
end
section
variable {κ : Type} {K : Kn κ} {ρ : En}
theorem k_setS {S : Type} {o : Bool} {i : Nat} {φ : ES} {a : SS} {c : R (D × S)} {enc : S → En} {k : D × S → R κ} (he : EvS o φ ρ c enc) (hi : ∀ s, okI (enc s) i = true) (h : ∀ p : D × S, K.p (a ((enc p.2).set i (some (.val p.1)))) (k p)) : K.p (seq (setI i φ) (frz i a) ρ) (c.bind k) := by
  cases c with
  | bad => exact K.bad _
  | exc x =>
    obtain ⟨ρ', he⟩ := he
    have e : seq (setI i φ) (frz i a) ρ = .exc x ρ' := by unfold seq setI; rw [he]; rfl
    rw [e]
    exact K.ex _ _
  | ok p =>
    obtain ⟨d, s⟩ := p
    obtain ⟨rv, e, r⟩ := he
    have hi : noRef (gt (enc s) i) = true ∧ i < (enc s).length := by simpa [okI] using hi s
    have e : seq (setI i φ) (frz i a) ρ = a ((enc s).set i (some (.val d))) := by
      rcases r with ⟨r, _⟩ | ⟨r, _⟩
      · have r : rv = .own d := r
        subst r
        have e1 : setI i φ ρ = .nx ((enc s).set i (some (.own d))) := by
          unfold setI
          rw [e]
          show (if noRef (gt (enc s) i) = true ∧ i < (enc s).length then _ else _) = _
          rw [if_pos hi]
        unfold seq
        rw [e1]
        show frz i a ((enc s).set i (some (.own d))) = _
        unfold frz
        rw [gt_set_self hi.2]
        show a (((enc s).set i (some (.own d))).set i (some (.val d))) = _
        rw [List.set_set]
      · have r : rv = .val d := r
        subst r
        have e1 : setI i φ ρ = .nx ((enc s).set i (some (.val d))) := by
          unfold setI
          rw [e]
          show (if noRef (gt (enc s) i) = true ∧ i < (enc s).length then _ else _) = _
          rw [if_pos hi]
        unfold seq
        rw [e1]
        show frz i a ((enc s).set i (some (.val d))) = _
        unfold frz
        rw [gt_set_self hi.2]
    rw [e]
    exact h (d, s)
theorem k_dropS {S : Type} {o : Bool} {φ : ES} {a : SS} {c : R (D × S)} {enc : S → En} {k : D × S → R κ} (he : EvS o φ ρ c enc) (h : ∀ p : D × S, K.p (a (enc p.2)) (k p)) : K.p (seq (dropE φ) a ρ) (c.bind k) := by
  cases c with
  | bad => exact K.bad _
  | exc x =>
    obtain ⟨ρ', he⟩ := he
    have e : seq (dropE φ) a ρ = .exc x ρ' := by unfold seq dropE; rw [he]; rfl
    rw [e]
    exact K.ex _ _
  | ok p =>
    obtain ⟨rv, e, r⟩ := he
    have e : seq (dropE φ) a ρ = a (enc p.2) := by unfold seq dropE; rw [e]; rfl
    rw [e]
    exact h p
theorem k_ifS {S : Type} {t : BS} {a b : SS} {ct : R (Bool × S)} {enc : S → En} {ca cb : Bool × S → R κ} (ht : EvTS t ρ ct enc) (ha : ∀ p : Bool × S, K.p (a (enc p.2)) (ca p)) (hb : ∀ p : Bool × S, K.p (b (enc p.2)) (cb p)) : K.p (ifS t a b ρ) (ct.bind fun p => if p.1 = true then ca p else cb p) := by
  cases ct with
  | bad => exact K.bad _
  | exc x =>
    obtain ⟨ρ', ht⟩ := ht
    have e : ifS t a b ρ = .exc x ρ' := by unfold ifS; rw [ht]; rfl
    rw [e]
    exact K.ex _ _
  | ok p =>
    obtain ⟨k, s⟩ := p
    have e : ifS t a b ρ = if k = true then a (enc s) else b (enc s) := by unfold ifS; rw [show t ρ = .ok k (enc s) from ht]; rfl
    rw [e, R.bind_ok]
    cases k with
    | true => exact ha (true, s)
    | false => exact hb (false, s)
end
section
variable {T α : Type} {o : Bool} {env : T → En} {val : α → D} {fin : α → En → Prop} {ρ : En}
theorem k_retS {S : Type} {o' : Bool} {φ : ES} {c : R (D × S)} {enc : S → En} {w : D × S → α} (he : EvS o' φ ρ c enc) (ho : o = true → o' = true) (hv : ∀ p, val (w p) = p.1) (hf : ∀ p : D × S, fin (w p) (enc p.2)) : (kTl o val fin).p (retE φ ρ) (c.bind fun p => .ok (w p)) := by
  cases c with
  | bad => trivial
  | exc x => obtain ⟨ρ', he⟩ := he; exact ⟨ρ', by unfold retE; rw [he]; rfl⟩
  | ok p =>
    obtain ⟨rv, e, r⟩ := he
    refine ⟨rv, enc p.2, by unfold retE; rw [e]; rfl, ?_, hf p⟩
    rw [hv]
    rcases r with ⟨r, z⟩ | ⟨r, z⟩
    · exact .inl ⟨r, z⟩
    · refine .inr ⟨r, ?_⟩
      cases o with
      | false => rfl
      | true => rw [ho rfl] at z; cases z
/-- the source of a walk, made with changes -/
def EvQ {S : Type} (φs : List ES) (fsrc : List D → Option (List D)) (ρ : En) (c : R (List D × S)) (enc0 : S → En) : Prop :=
  match c with | .ok p => ∃ xs ds, evs (φs.map .ex) ρ = .ok xs (enc0 p.2) ∧ vals xs = some ds ∧ fsrc ds = some p.1 | .exc x => ∃ ρ', evs (φs.map .ex) ρ = .exc x ρ' | .bad => True
/-- for over what is made with changes -/
theorem k_forS {S X : Type} {φs : List ES} {fsrc : List D → Option (List D)} {c : R (List D × S)} {enc0 : S → En} {u : D → Option X} {f : T → X → R T} {tg : Tg} {body : SS} {enc : T → X → En} {t0 : S → T}
    (hs : EvQ φs fsrc ρ c enc0) (h0 : ∀ s, enc0 s = env (t0 s)) (hu : ∀ t, TgOk tg (env t) u (enc t)) (hb : ∀ t x, (kBn env).p (body (enc t x)) (f t x)) :
    (kBn env).p (forS ⟨φs.map .ex, fsrc⟩ tg body ρ) (c.bind fun p => forN u f p.1 (t0 p.2)) := by
  cases c with
  | bad => trivial
  | exc x => obtain ⟨ρ', hs⟩ := hs; exact ⟨ρ', by unfold forS; rw [hs]; rfl⟩
  | ok p =>
    obtain ⟨xs, ds, e1, e2, e3⟩ := hs
    obtain ⟨h1, h2, h3⟩ := vals_facts (ρ := enc0 p.2) e2
    have e : forS ⟨φs.map .ex, fsrc⟩ tg body ρ = unl (enc0 p.2) [] (loopS tg body p.1 (enc0 p.2)) := by
      unfold forS
      rw [e1]
      show (match dats (enc0 p.2) xs with | some ds => _ | none => _) = _
      rw [h1]
      show (match fsrc ds with | some items => _ | none => _) = _
      rw [e3]
      show unl (enc0 p.2) (lks (enc0 p.2) xs) (loopS tg body p.1 (lk xs (enc0 p.2))) = _
      rw [h3]
      unfold lks
      rw [h2]
      rfl
    have l := loopN hu hb p.1 (t0 p.2)
    rw [← h0] at l
    rw [e, R.bind_ok]
    generalize forN u f p.1 (t0 p.2) = z at l
    cases z with
    | bad => trivial
    | exc x => obtain ⟨ρ', l⟩ := l; exact ⟨ρ', by rw [l]; rfl⟩
    | ok t => rw [show loopS tg body p.1 (enc0 p.2) = .nx (env t) from l]; rfl
theorem eq_of {A S : Type} {φs : List ES} {fsrc : List D → Option (List D)} {c : R A} {xs : A → List Ov} {env : A → En} {ds : A → List D} {st : A → S} {enc : S → En} (h : EvXs (φs.map .ex) ρ c xs env) (hd : ∀ a, vals (xs a) = some (ds a)) (he : ∀ a, env a = enc (st a)) : EvQ φs fsrc ρ (c.bind fun a => (ofO (fsrc (ds a))).bind fun its => .ok (its, st a)) enc := by
  cases c with
  | bad => trivial
  | exc x => exact h
  | ok a =>
    rw [R.bind_ok]
    cases e : fsrc (ds a) with
    | none => trivial
    | some its => exact ⟨xs a, ds a, by rw [show evs _ ρ = _ from h, he a], hd a, e⟩
end
def mapS {S T : Type} (u : D → Option T) (f : S → T → R (D × S)) : List D → S → R (List D × S)
  | [], s => .ok ([], s)
  | x :: xs, s => match u x with
    | none => .bad
    | some t => (noE (f s t)).bind fun q => (mapS u f xs q.2).bind fun r => .ok (q.1 :: r.1, r.2)
theorem mapS_noexc {S T : Type} {u : D → Option T} {f : S → T → R (D × S)} {x : Ex} : ∀ {xs : List D} {s : S}, mapS u f xs s ≠ .exc x
  | [], s, h => by cases h
  | y :: ys, s, h => by
    unfold mapS at h
    cases e : u y with
    | none => rw [e] at h; cases h
    | some t =>
      rw [e] at h
      simp only at h
      cases e2 : noE (f s t) with
      | bad => rw [e2] at h; cases h
      | exc z => exact noE_noexc e2
      | ok d =>
        rw [e2, R.bind_ok] at h
        cases e3 : mapS u f ys d.2 with
        | bad => rw [e3] at h; cases h
        | exc z => exact mapS_noexc e3
        | ok ds => rw [e3] at h; cases h
theorem loopCS_run {S T : Type} {o : Bool} {tg : Tg} {own : List Nat} {φ : ES} {envm : S → En} {u : D → Option T} {enc : S → T → En} {enc2 : S → T → S → En} {f : S → T → R (D × S)} (hu : ∀ s, TgOk tg (envm s) u (enc s)) (he : ∀ s a, EvS o φ (enc s a) (f s a) (enc2 s a)) (hw : ∀ s a s', wp own (enc2 s a s') = envm s') :
    ∀ (its acc : List D) (s : S) (out : List D × S), mapS u f its s = .ok out → loopC tg own yes φ its (envm s) acc = .ok (acc ++ out.1) (envm out.2)
  | [], acc, s, out, e => by cases e; unfold loopC; rw [List.append_nil]
  | x :: xs, acc, s, out, e => by
    unfold mapS at e
    unfold loopC
    rw [hu s x]
    cases e0 : u x with
    | none => rw [e0] at e; cases e
    | some a =>
      rw [e0] at e
      simp only [Option.map] at e ⊢
      cases e2 : noE (f s a) with
      | bad => rw [e2] at e; cases e
      | exc z => exact absurd e2 noE_noexc
      | ok q =>
        rw [e2, R.bind_ok] at e
        have h2 := he s a
        rw [noE_ok_of e2] at h2
        obtain ⟨rv, e5, r⟩ := h2
        cases e3 : mapS u f xs q.2 with
        | bad => rw [e3] at e; cases e
        | exc z => rw [e3] at e; cases e
        | ok ds =>
          rw [e3] at e
          cases e
          show (φ (enc s a)).bind _ = _
          rw [e5]
          show loopC tg own yes φ xs (wp own (enc2 s a q.2)) (acc ++ [rv.d]) = _
          rw [hw, loopCS_run hu he hw xs _ _ ds e3, r.d, List.append_assoc]
          rfl
theorem es_map {S0 S S2 T : Type} {o : Bool} {φs : List ES} {fsrc : List D → Option (List D)} {tg : Tg} {own : List Nat} {φ : ES} {ρ : En} {cs : R (List D × S0)} {enc0 : S0 → En} {envm : S → En} {s0 : S0 → S} {u : D → Option T} {enc : S → T → En} {enc2 : S → T → S → En} {f : S → T → R (D × S)} {encE : S2 → En} {st : S0 → S → S2}
    (hs : EvQ φs fsrc ρ cs enc0) (h0 : ∀ s, wp own (enc0 s) = envm (s0 s)) (hu : ∀ s, TgOk tg (envm s) u (enc s)) (he : ∀ s a, EvS o φ (enc s a) (f s a) (enc2 s a)) (hw : ∀ s a s', wp own (enc2 s a s') = envm s') (hE : ∀ a s, rst (enc0 a) own (envm s) = encE (st a s)) :
    EvS true (comp ⟨φs.map .ex, fsrc⟩ tg own yes φ) ρ (cs.bind fun p => (mapS u f p.1 (s0 p.2)).bind fun q => .ok (.lst q.1, st p.2 q.2)) encE := by
  cases cs with
  | bad => trivial
  | exc x => obtain ⟨ρ', hs⟩ := hs; exact ⟨ρ', by unfold comp; rw [hs]; rfl⟩
  | ok p =>
    obtain ⟨xs, ds, e1, e2, e3⟩ := hs
    obtain ⟨h1, h2, h3⟩ := vals_facts (ρ := enc0 p.2) e2
    rw [R.bind_ok]
    cases e : mapS u f p.1 (s0 p.2) with
    | bad => trivial
    | exc x => exact absurd e mapS_noexc
    | ok out =>
      have hl := loopCS_run hu he hw p.1 [] (s0 p.2) out e
      refine ⟨.own (.lst out.1), ?_, .inl ⟨rfl, rfl⟩⟩
      unfold comp
      rw [e1]
      show (match dats (enc0 p.2) xs with | some ds => _ | none => _) = _
      rw [h1]
      show (match fsrc ds with | some items => _ | none => _) = _
      rw [e3]
      show (if (own.all fun i => !(ats xs).contains i) = true then _ else _) = _
      rw [h2, if_pos (by simp), h3, h0, hl]
      show Out.ok (Rv.own (.lst ([] ++ out.1))) (rst (enc0 p.2) (own ++ []) (envm out.2)) = _
      rw [List.append_nil, hE]
      rfl
/-- return where nothing of the caller's is changed -/
theorem k_retP {o o' : Bool} {φ : ES} {ρ : En} {c : R D} (he : EvP o' φ ρ c) (ho : o = true → o' = true) : (kTl o (fun d : D => d) yF).p (retE φ ρ) c := by
  have h := k_ret (val := fun d : D => d) (fin := yF) (w := fun d => d) he ho (fun _ => rfl) (fun _ => trivial)
  cases c <;> exact h
/-- the body of a def, slots frozen ahead of it -/
theorem s_frz {M : Md} {W : WX} {X : Cx} {st : List Stmt} {i : Nat} {a : SS} (h : PSs X st (tS M W a)) : PSs X st (tS M W (frz i a)) := by
  refine PSs_imp h fun D σ H ⟨F, ρ, s, q⟩ => ?_
  cases e : gt ρ i with
  | none => exact ⟨F, ρ, s, by unfold frz at q; rw [e] at q; exact q⟩
  | some t =>
    cases t with
    | val d => exact ⟨F, ρ, s, by unfold frz at q; rw [e] at q; exact q⟩
    | ref d => exact ⟨F, ρ, s, by unfold frz at q; rw [e] at q; exact q⟩
    | rd d => exact ⟨F, ρ, s, by unfold frz at q; rw [e] at q; exact q⟩
    | own d =>
      unfold frz at q
      rw [e] at q
      obtain ⟨F', v, _, po, _⟩ := freeze_slot s e
      exact ⟨F', ρ.set i (some (.val d)), po.sr, WantS.step po.s q⟩
end VF

namespace VF
open PySem PySem.Spec PyProof.Rows L2
section
variable {ρ : En}
theorem ev_app1 {f : List D → Option Rv} {o0 : Opd} {c0 : R D} (h0 : EvO o0 ρ c0) : EvP false (app f [o0]) ρ (c0.bind fun a0 => pr (f [a0])) := by
  have h := ev_app (f := f) (eos_cons h0 eos_nil)
  have e : ((seqR [c0]).bind fun ds => pr (f ds)) = c0.bind fun a0 => pr (f [a0]) := by simp only [seqR_cons, seqR_nil, R.bind_assoc, R.bind_ok]
  rw [← e]; exact h
theorem ev_appo1 {f : List D → Option Rv} {o0 : Opd} {c0 : R D} (h0 : EvO o0 ρ c0) : EvP true (app f [o0]) ρ (c0.bind fun a0 => pro (f [a0])) := by
  have h := ev_appo (f := f) (eos_cons h0 eos_nil)
  have e : ((seqR [c0]).bind fun ds => pro (f ds)) = c0.bind fun a0 => pro (f [a0]) := by simp only [seqR_cons, seqR_nil, R.bind_assoc, R.bind_ok]
  rw [← e]; exact h
theorem ev_app2 {f : List D → Option Rv} {o0 o1 : Opd} {c0 c1 : R D} (h0 : EvO o0 ρ c0) (h1 : EvO o1 ρ c1) : EvP false (app f [o0, o1]) ρ (c0.bind fun a0 => c1.bind fun a1 => pr (f [a0, a1])) := by
  have h := ev_app (f := f) (eos_cons h0 (eos_cons h1 eos_nil))
  have e : ((seqR [c0, c1]).bind fun ds => pr (f ds)) = c0.bind fun a0 => c1.bind fun a1 => pr (f [a0, a1]) := by simp only [seqR_cons, seqR_nil, R.bind_assoc, R.bind_ok]
  rw [← e]; exact h
theorem ev_call1 {o : Bool} {xf : FSem} {dd : List D} {o0 : Opd} {c0 : R D} {f : D → R D} (h0 : EvA o0 ρ c0) (hf : ∀ a0, FnP o xf ([a0] ++ dd) (f a0)) : EvP o (callF xf [o0] dd) ρ (c0.bind fun a0 => f a0) := by
  have h := ev_call (ρ := ρ) (o := o) (xf := xf) (dd := dd) (f := fun ds => match ds with | [a0] => f a0 | _ => .bad) (eas_cons h0 eas_nil) (fun ds => by
    match ds with
    | [a0] => exact hf a0
    | [] => trivial
    | _ :: _ :: _ => trivial)
  have e : ((seqR [c0]).bind fun ds => match ds with | [a0] => f a0 | _ => .bad) = c0.bind fun a0 => f a0 := by simp only [seqR_cons, seqR_nil, R.bind_assoc, R.bind_ok]
  rw [← e]; exact h
theorem ev_call2 {o : Bool} {xf : FSem} {dd : List D} {o0 o1 : Opd} {c0 c1 : R D} {f : D → D → R D} (h0 : EvA o0 ρ c0) (h1 : EvA o1 ρ c1) (hf : ∀ a0 a1, FnP o xf ([a0, a1] ++ dd) (f a0 a1)) : EvP o (callF xf [o0, o1] dd) ρ (c0.bind fun a0 => c1.bind fun a1 => f a0 a1) := by
  have h := ev_call (ρ := ρ) (o := o) (xf := xf) (dd := dd) (f := fun ds => match ds with | [a0, a1] => f a0 a1 | _ => .bad) (eas_cons h0 (eas_cons h1 eas_nil)) (fun ds => by
    match ds with
    | [a0, a1] => exact hf a0 a1
    | [] => trivial
    | [_] => trivial
    | _ :: _ :: _ :: _ => trivial)
  have e : ((seqR [c0, c1]).bind fun ds => match ds with | [a0, a1] => f a0 a1 | _ => .bad) = c0.bind fun a0 => c1.bind fun a1 => f a0 a1 := by simp only [seqR_cons, seqR_nil, R.bind_assoc, R.bind_ok]
  rw [← e]; exact h
end
end VF

namespace VF
open PySem PySem.Spec PyProof.Rows L2
section
variable {κ : Type} {K : Kn κ} {ρ : En}
theorem k_setA {o : Bool} {i : Nat} {φ : ES} {a : SS} {v : D} {c : R κ} (hi : okI ρ i = true) (he : EvP o φ ρ (.ok v)) (h : K.p (a (ρ.set i (some (.val v)))) c) : K.p (seq (setI i φ) (frz i a) ρ) c := by
  have hi : noRef (gt ρ i) = true ∧ i < ρ.length := by simpa [okI] using hi
  obtain ⟨rv, e, r⟩ := he
  have e : seq (setI i φ) (frz i a) ρ = a (ρ.set i (some (.val v))) := by
    rcases r with ⟨r, _⟩ | ⟨r, _⟩
    · subst r
      have e1 : setI i φ ρ = .nx (ρ.set i (some (.own v))) := by
        unfold setI
        rw [e]
        show (if noRef (gt ρ i) = true ∧ i < ρ.length then _ else _) = _
        rw [if_pos hi]
      unfold seq
      rw [e1]
      show frz i a (ρ.set i (some (.own v))) = _
      unfold frz
      rw [gt_set_self hi.2]
      show a ((ρ.set i (some (.own v))).set i (some (.val v))) = _
      rw [List.set_set]
    · subst r
      have e1 : setI i φ ρ = .nx (ρ.set i (some (.val v))) := by
        unfold setI
        rw [e]
        show (if noRef (gt ρ i) = true ∧ i < ρ.length then _ else _) = _
        rw [if_pos hi]
      unfold seq
      rw [e1]
      show frz i a (ρ.set i (some (.val v))) = _
      unfold frz
      rw [gt_set_self hi.2]
  rw [e]
  exact h
end
theorem out_assoc {α β γ : Type} (o : Out α) (f : α → En → Out β) (g : β → En → Out γ) : (o.bind f).bind g = o.bind fun a ρ => (f a ρ).bind g := by cases o <;> rfl
theorem evs_two {o1 o2 : Opd} {ρ : En} : evs [o1, o2] ρ = (o1.ev ρ).bind fun x ρ1 => (o2.ev ρ1).bind fun y ρ2 => .ok [x, y] ρ2 := by
  show (o1.ev ρ).bind (fun x ρ1 => ((o2.ev ρ1).bind fun y ρ2 => (Out.ok ([] : List Ov) ρ2).bind fun xs ρ3 => .ok (y :: xs) ρ3).bind fun xs ρ2 => .ok (x :: xs) ρ2) = _
  congr 1
  funext x ρ1
  rw [out_assoc]
  rfl
section
variable {ρ : En}
/-- x[:h] and x[l:], made with changes -/
theorem es_slcH {A S : Type} {oa : Opd} {φ : ES} {c : R A} {xa : A → Ov} {va vh : A → D} {env : A → En} {st : A → S} {enc : S → En} (h : EvXs [oa, .ex φ] ρ c (fun a => [xa a, .val (vh a)]) env) (hd : ∀ a, (xa a).dat (env a) = some (va a)) (he : ∀ a, env a = enc (st a)) :
    EvS false (slc oa none (some (.ex φ))) ρ (c.bind fun a => (slR (.ok (va a)) none (some (.ok (vh a)))).bind fun d => .ok (d, st a)) enc := by
  unfold EvXs at h
  rw [evs_two] at h
  have e0 : slc oa none (some (.ex φ)) ρ = ((oa.ev ρ).bind fun x ρ1 => ((Opd.ex φ).ev ρ1).bind fun y ρ2 => .ok [x, y] ρ2).bind fun xs ρ3 => match xs with
      | [x, y] => (match y.dat ρ3 with
        | some (.int i) => (match x.dat ρ3 with
          | some d => (match fSl d none (some i) with
            | some r => .ok r ρ3
            | none => .bad)
          | none => .bad)
        | _ => .bad)
      | _ => .bad := by
    unfold slc
    rw [out_assoc]
    congr 1
    funext x ρ1
    show ((evI (some (.ex φ)) ρ1).bind _) = _
    unfold evI
    rw [out_assoc, out_assoc]
    congr 1
    funext y ρ2
    show Out.bind (match y.dat ρ2 with | some (.int i) => .ok (some i) ρ2 | _ => .bad) _ = (match y.dat ρ2 with | some (.int i) => _ | _ => _)
    cases y.dat ρ2 with
    | none => rfl
    | some w => cases w <;> rfl
  cases c with
  | bad => trivial
  | exc x => obtain ⟨ρ', h⟩ := h; exact ⟨ρ', by rw [e0, h]; rfl⟩
  | ok a =>
    simp only at h
    rw [R.bind_ok]
    unfold slR
    simp only [R.bind_ok, ptR]
    cases ev : vh a with
    | int i =>
      simp only [asI_int, R.bind_ok]
      cases e : pr (fSl (va a) none (some i)) with
      | bad => trivial
      | exc x => exact absurd e pr_noexc
      | ok d =>
        obtain ⟨rv, e3, r⟩ := pr_rv e
        refine ⟨rv, ?_, r⟩
        rw [e0, h]
        show (match (Ov.val (vh a)).dat (env a) with | some (.int i) => _ | _ => _) = _
        rw [ev]
        show (match (xa a).dat (env a) with | some d => _ | none => _) = _
        rw [hd a]
        show (match fSl (va a) none (some i) with | some r => _ | none => _) = _
        rw [e3]
        show Out.ok rv (env a) = _
        rw [he a]
    | _ => trivial
theorem eq_srcP {φs : List ES} {f : List D → Option (List D)} {cs : List (R D)} (h : EvPs φs ρ (seqR cs)) : EvQ φs f ρ ((srR f cs).bind fun its => .ok (its, ())) (fun _ => ρ) := by
  unfold srR
  generalize seqR cs = k at h
  cases k with
  | bad => trivial
  | exc x => exact ⟨ρ, h⟩
  | ok ds =>
    obtain ⟨xs, e1, e2⟩ := h
    rw [R.bind_ok]
    cases e : f ds with
    | none => trivial
    | some its => exact ⟨xs, ds, e1, e2, e⟩
end
section
variable {T α : Type} {o : Bool} {env : T → En} {val : α → D} {fin : α → En → Prop} {ρ : En}
end
/-- what a law's def tells -/
theorem answer_of {o : Bool} {xf : FSem} {d : D} {c : R D} (h : FnP o xf [d] c) (e : c = .ok (.bl true)) : ∃ outs, xf [.val d] = .ok (.val (.bl true)) outs := by
  subst e
  obtain ⟨rv, e, r⟩ := h
  rcases r with ⟨_, r⟩ | ⟨r, _⟩
  · cases r
  · exact ⟨_, by rw [← r]; exact e⟩
end VF

namespace VF
open PySem PySem.Spec PyProof.Rows L2

/-! ### comprehensions of any kind -/
def foldG {T : Type} (u : D → Option T) (p : T → R Bool) (g : T → D → R D) : List D → D → R D
  | [], acc => .ok acc
  | x :: xs, acc => match u x with
    | none => .bad
    | some a => (noE (p a)).bind fun b => if b = true then (noE (g a acc)).bind fun acc' => foldG u p g xs acc' else foldG u p g xs acc
def foldM {T : Type} (u : D → Option T) (g : T → D → R D) : List D → D → R D
  | [], acc => .ok acc
  | x :: xs, acc => match u x with
    | none => .bad
    | some a => (noE (g a acc)).bind fun acc' => foldM u g xs acc'
theorem foldM_G {T : Type} (u : D → Option T) (g : T → D → R D) : ∀ (xs : List D) (acc : D), foldM u g xs acc = foldG u (fun _ => .ok true) g xs acc
  | [], _ => rfl
  | x :: xs, acc => by
    unfold foldM foldG
    cases u x with
    | none => rfl
    | some a =>
      show (noE (g a acc)).bind _ = (noE (g a acc)).bind _
      cases noE (g a acc) with
      | bad => rfl
      | exc z => rfl
      | ok d => exact foldM_G u g xs d
theorem foldG_noexc {T : Type} {u : D → Option T} {p : T → R Bool} {g : T → D → R D} {x : Ex} : ∀ {xs : List D} {acc : D}, foldG u p g xs acc ≠ .exc x
  | [], _, h => by cases h
  | y :: ys, acc, h => by
    unfold foldG at h
    cases e0 : u y with
    | none => rw [e0] at h; cases h
    | some a =>
      rw [e0] at h
      simp only at h
      cases e1 : noE (p a) with
      | bad => rw [e1] at h; cases h
      | exc z => exact noE_noexc e1
      | ok b =>
        rw [e1, R.bind_ok] at h
        cases b with
        | false => rw [if_neg (by decide)] at h; exact foldG_noexc h
        | true =>
          rw [if_pos rfl] at h
          cases e2 : noE (g a acc) with
          | bad => rw [e2] at h; cases h
          | exc z => exact noE_noexc e2
          | ok d => rw [e2, R.bind_ok] at h; exact foldG_noexc h
def EvB (body : En → D → Out D) (ρ : En) (g : D → R D) : Prop := ∀ acc a, g acc = .ok a → body ρ acc = .ok a ρ
theorem loopG_run {T : Type} {tg : Tg} {own : List Nat} {t : BS} {body : En → D → Out D} {ρm : En} {u : D → Option T} {enc : T → En} {p : T → R Bool} {g : T → D → R D} (htg : ∀ j, j ∈ tgs tg → j ∈ own) (hw : wp own ρm = ρm) (hu : TgOk tg ρm u enc) (ht : ∀ a, EvT t (enc a) (p a)) (hb : ∀ a, EvB body (enc a) (g a)) :
    ∀ (its : List D) (acc out : D), foldG u p g its acc = .ok out → loopG tg own t body its ρm acc = .ok out ρm
  | [], acc, out, e => by cases e; rfl
  | x :: xs, acc, out, e => by
    unfold foldG at e
    unfold loopG
    rw [hu x]
    cases e0 : u x with
    | none => rw [e0] at e; cases e
    | some a =>
      rw [e0] at e
      simp only [Option.map] at e ⊢
      have hk := put_keep tg (show put tg x ρm = some (enc a) by rw [hu x, e0]; rfl)
      have hwp : wp own (enc a) = ρm := by
        rw [← hw]
        refine (wp_eq hk.1 fun j hj => hk.2 j fun z => hj (htg j z)).trans ?_
        rw [hw]
      cases e1 : noE (p a) with
      | bad => rw [e1] at e; cases e
      | exc z => exact absurd e1 noE_noexc
      | ok b =>
        rw [e1, R.bind_ok] at e
        have h1 := ht a
        rw [noE_ok_of e1] at h1
        rw [show t (enc a) = .ok b (enc a) from h1]
        cases b with
        | false =>
          rw [if_neg (by decide)] at e
          show loopG tg own t body xs (wp own (enc a)) acc = _
          rw [hwp]
          exact loopG_run htg hw hu ht hb xs acc out e
        | true =>
          rw [if_pos rfl] at e
          cases e2 : noE (g a acc) with
          | bad => rw [e2] at e; cases e
          | exc z => exact absurd e2 noE_noexc
          | ok d =>
            rw [e2, R.bind_ok] at e
            show (body (enc a) acc).bind _ = _
            rw [hb a acc d (noE_ok_of e2)]
            show loopG tg own t body xs (wp own (enc a)) d = _
            rw [hwp]
            exact loopG_run htg hw hu ht hb xs d out e
def EvSrcV (src : Src) (ρ : En) (c : R (List D)) : Prop := match c with
  | .ok its => ∃ xs ds, evs src.ops ρ = .ok xs ρ ∧ vals xs = some ds ∧ src.f ds = some its
  | .exc x => evs src.ops ρ = .exc x ρ
  | .bad => True
theorem esv_ex {f : List D → Option (List D)} {φs : List ES} {cs : List (R D)} {ρ : En} (h : EvPs φs ρ (seqR cs)) : EvSrcV ⟨φs.map .ex, f⟩ ρ (srR f cs) := by
  unfold srR
  generalize seqR cs = k at h
  cases k with
  | bad => trivial
  | exc x => exact h
  | ok ds =>
    obtain ⟨xs, e1, e2⟩ := h
    rw [R.bind_ok]
    cases e : f ds with
    | none => trivial
    | some its => exact ⟨xs, ds, e1, e2, e⟩
theorem rst_wp {own : List Nat} {ρ : En} : rst ρ own (wp own ρ) = ρ := by
  have z := rst_lk (own := own) (xs := []) (ρ := ρ)
  simpa [ats, lk] using z
section
variable {ρ : En}
theorem ev_compG {T : Type} {src : Src} {tg : Tg} {own : List Nat} {t : BS} {body : En → D → Out D} {init : D} {cs : R (List D)} {u : D → Option T} {enc : T → En} {p : T → R Bool} {g : T → D → R D} (hs : EvSrcV src ρ cs) (htg : ((tgs tg).all own.contains) = true)
    (hu : TgOk tg (wp own ρ) u enc) (ht : ∀ a, EvT t (enc a) (p a)) (hb : ∀ a, EvB body (enc a) (g a)) : EvP true (compG src tg own t body init) ρ (cs.bind fun its => (foldG u p g its init).bind fun d => cnR d d) := by
  cases cs with
  | bad => trivial
  | exc x => show (evs src.ops ρ).bind _ = _; rw [show evs src.ops ρ = .exc x ρ from hs]; rfl
  | ok its =>
    obtain ⟨xs, ds, e1, e2, e3⟩ := hs
    rw [R.bind_ok]
    cases e : foldG u p g its init with
    | bad => trivial
    | exc x => exact absurd e foldG_noexc
    | ok out =>
      have hl := loopG_run (fun j hj => by simpa using List.all_eq_true.mp htg j hj) wp_wp hu ht hb its init out e
      rw [R.bind_ok]
      unfold cnR
      split
      · rename_i hc
        refine ⟨.own out, ?_, .inl ⟨rfl, hc⟩⟩
        show (evs src.ops ρ).bind _ = _
        rw [e1]
        show (match vals xs with | some ds => _ | none => _) = _
        rw [e2]
        show (match src.f ds with | some items => _ | none => _) = _
        rw [e3]
        show (noX (loopG tg own t body its (wp own ρ) init)).bind _ = _
        rw [hl]
        show Out.ok (Rv.own out) (rst ρ own (wp own ρ)) = _
        rw [rst_wp]
      · trivial
theorem ev_compGM {T : Type} {src : Src} {tg : Tg} {own : List Nat} {body : En → D → Out D} {init : D} {cs : R (List D)} {u : D → Option T} {enc : T → En} {g : T → D → R D} (hs : EvSrcV src ρ cs) (htg : ((tgs tg).all own.contains) = true)
    (hu : TgOk tg (wp own ρ) u enc) (hb : ∀ a, EvB body (enc a) (g a)) : EvP true (compG src tg own yes body init) ρ (cs.bind fun its => (foldM u g its init).bind fun d => cnR d d) := by
  have h := ev_compG (t := yes) (p := fun _ => .ok true) (init := init) hs htg hu (fun _ => rfl) hb
  simp only [foldM_G]
  exact h
/-- bodies -/
def lsR (c : R D) (acc : D) : R D := c.bind fun d => match acc with
  | .lst ds => if ds.length < sizeLine then .ok (.lst (ds ++ [d])) else .bad
  | _ => .bad
theorem eb_ls {o : Bool} {φ : ES} {c : R D} (h : EvP o φ ρ c) : EvB (lsB φ) ρ (lsR c) := fun acc a e => by
  cases c with
  | bad => cases e
  | exc x => cases e
  | ok d =>
    obtain ⟨rv, e1, r⟩ := h
    unfold lsB
    rw [e1]
    unfold lsR at e
    rw [R.bind_ok] at e
    cases acc with
    | lst ds =>
      simp only at e
      by_cases hl : ds.length < sizeLine
      · rw [if_pos hl] at e
        cases e
        show (if ds.length < sizeLine then Out.ok (D.lst (ds ++ [rv.d])) ρ else .bad) = _
        rw [if_pos hl, r.d]
      · rw [if_neg hl] at e; cases e
    | _ => cases e
theorem eb_in {T : Type} {src : Src} {tg : Tg} {own : List Nat} {t : BS} {body : En → D → Out D} {cs : R (List D)} {u : D → Option T} {enc : T → En} {p : T → R Bool} {g : T → D → R D} (hs : EvSrcV src ρ cs) (htg : ((tgs tg).all own.contains) = true) (hw : wp own ρ = ρ)
    (hu : TgOk tg ρ u enc) (ht : ∀ a, EvT t (enc a) (p a)) (hb : ∀ a, EvB body (enc a) (g a)) : EvB (inB src tg own t body) ρ (fun acc => cs.bind fun its => foldG u p g its acc) := fun acc a e => by
  cases cs with
  | bad => cases e
  | exc x => cases e
  | ok its =>
    obtain ⟨xs, ds, e1, e2, e3⟩ := hs
    unfold inB
    rw [e1]
    show (match vals xs with | some ds => _ | none => _) = _
    rw [e2]
    show (match src.f ds with | some items => _ | none => _) = _
    rw [e3]
    show loopG tg own t body its (wp own ρ) acc = _
    rw [hw]
    exact loopG_run (fun j hj => by simpa using List.all_eq_true.mp htg j hj) hw hu ht hb its acc a e
theorem eb_inM {T : Type} {src : Src} {tg : Tg} {own : List Nat} {body : En → D → Out D} {cs : R (List D)} {u : D → Option T} {enc : T → En} {g : T → D → R D} (hs : EvSrcV src ρ cs) (htg : ((tgs tg).all own.contains) = true) (hw : wp own ρ = ρ)
    (hu : TgOk tg ρ u enc) (hb : ∀ a, EvB body (enc a) (g a)) : EvB (inB src tg own yes body) ρ (fun acc => cs.bind fun its => foldM u g its acc) := by
  have h := eb_in (t := yes) (p := fun _ => .ok true) hs htg hw hu (fun _ => rfl) hb
  simp only [foldM_G]
  exact h
end

/-! ### loops over dicts -/
section
variable {T α : Type} {env : T → En} {o : Bool} {val : α → D} {fin : α → En → Prop} {ρ : En}
end

/-! ### statements -/
section
variable {κ : Type} {K : Kn κ} {ρ : En}
theorem k_storeG {i : Nat} {ix : Opd} {φ : ES} {a : SS} {o : Bool} {c ci : R D} {d0 : D} {sm : D → Sl} {k : Unit × D → R κ} (he : EvP o φ ρ c) (hi : EvO ix ρ ci) (hg : gt ρ i = some (sm d0)) (hm : sm = .own ∨ sm = .ref) (h : ∀ q : Unit × D, K.p (a (ρ.set i (some (sm q.2)))) (k q)) :
    K.p (seq (storeG i ix φ) a ρ) (c.bind fun v => ci.bind fun j => (ofO (stG v j d0)).bind k) := by
  cases c with
  | bad => exact K.bad _
  | exc x =>
    have e : seq (storeG i ix φ) a ρ = .exc x ρ := by unfold seq storeG; rw [show φ ρ = .exc x ρ from he]; rfl
    rw [e]; exact K.ex _ _
  | ok v =>
    obtain ⟨rv, e1, r⟩ := he
    rw [R.bind_ok]
    have e0 : storeG i ix φ ρ = (ix.ev ρ).bindS fun y ρ2 => match y.dat ρ2 with
        | some k => (match mutS i (stG v k) ρ2 with
          | some (_, ρ3) => .nx ρ3
          | none => .bad)
        | none => .bad := by
      unfold storeG
      rw [e1]
      simp only [Out.bindS, Opd.ev, hg, r.d]
      all_goals rfl
    cases ci with
    | bad => exact K.bad _
    | exc x =>
      have e : seq (storeG i ix φ) a ρ = .exc x ρ := by unfold seq; rw [e0, show ix.ev ρ = .exc x ρ from hi]; rfl
      rw [e]; exact K.ex _ _
    | ok j =>
      obtain ⟨y, e2, e3⟩ := hi
      rw [R.bind_ok]
      cases es : stG v j d0 with
      | none => exact K.bad _
      | some p =>
        have em : mutS i (stG v j) ρ = some (p.1, ρ.set i (some (sm p.2))) := by
          rcases hm with rfl | rfl <;> simp only [mutS, hg, es]
        have e : seq (storeG i ix φ) a ρ = a (ρ.set i (some (sm p.2))) := by
          have e4 : storeG i ix φ ρ = .nx (ρ.set i (some (sm p.2))) := by
            rw [e0, e2]
            show (match y.dat ρ with | some k => _ | none => _) = _
            rw [e3]
            show (match mutS i (stG v j) ρ with | some (_, ρ3) => _ | none => _) = _
            rw [em]
          unfold seq
          rw [e4]
        rw [e]
        exact h p
end
end VF

namespace VF
open PySem PySem.Spec PyProof.Rows L2
section
variable {ρ : En}
end
end VF

namespace VF
open PySem PySem.Spec PyProof.Rows L2
def pkD (ds : List D) : List Pk → List D
  | [] => []
  | .at i :: r => ds.getD i .non :: pkD ds r
  | .df d :: r => d :: pkD ds r
def inPk (n : Nat) : List Pk → Bool
  | [] => true
  | .at i :: r => decide (i < n) && inPk n r
  | .df _ :: r => inPk n r
section
variable {ρ : En}
theorem slOs_pk {xs : List Ov} {ds : List D} (h : slOs ρ xs = some (ds.map .val)) : ∀ {sel : List Pk}, inPk ds.length sel = true → slOs ρ (pkO xs sel) = some ((pkD ds sel).map .val)
  | [], _ => rfl
  | .at i :: r, hi => by
    unfold inPk at hi
    rw [Bool.and_eq_true, decide_eq_true_iff] at hi
    unfold pkO pkD slOs
    have hl : i < xs.length := by
      have := slOs_length h
      rw [List.length_map] at this
      omega
    obtain ⟨s, k1, k2⟩ := slOs_get' h (List.getElem?_eq_getElem hl)
    rw [List.getElem?_map, List.getElem?_eq_getElem hi.1] at k1
    cases k1
    rw [List.getD_eq_getElem?_getD, List.getElem?_eq_getElem hl, Option.getD_some, k2, slOs_pk h hi.2, List.getD_eq_getElem?_getD, List.getElem?_eq_getElem hi.1]
    rfl
  | .df d :: r, hi => by
    unfold inPk at hi
    unfold pkO pkD slOs
    rw [slOs_pk h hi]
    rfl
theorem ev_callK {o : Bool} {xf : FSem} {os : List Opd} {sel : List Pk} {cs : List (R D)} {f : List D → R D} (h : EvAs os ρ (seqR cs)) (hi : inPk os.length sel = true) (hf : ∀ ds, ds.length = os.length → FnP o xf (pkD ds sel) (f ds)) : EvP o (callK xf os sel) ρ ((seqR cs).bind f) := by
  generalize seqR cs = k at h
  cases k with
  | bad => trivial
  | exc x => show (evs os ρ).bind _ = _; rw [show evs os ρ = .exc x ρ from h]; rfl
  | ok ds =>
    obtain ⟨xs, e1, e2⟩ := h
    rw [R.bind_ok]
    have hl : ds.length = os.length := by
      have a := slOs_length e2
      rw [List.length_map] at a
      rw [a, evs_length e1]
    have e3 := slOs_pk e2 (sel := sel) (by rw [hl]; exact hi)
    have e0 : callK xf os sel ρ = match xf ((pkD ds sel).map .val) with
        | .ok r outs => .ok r (back (pkO xs sel) outs ρ)
        | .exc x outs => .exc x (back (pkO xs sel) outs ρ)
        | .bad => .bad := by
      unfold callK
      rw [e1]
      show (match slOs ρ (pkO xs sel) with | some sls => _ | none => _) = _
      rw [e3]
      show (if ndB (tpI ρ (pkO xs sel)) = true then _ else _) = _
      rw [tpI_vals e3]
      all_goals rfl
    have hk := hf ds hl
    cases e : f ds with
    | bad => trivial
    | exc x => rw [e] at hk; show callK xf os sel ρ = _; rw [e0, show xf ((pkD ds sel).map .val) = .exc x ((pkD ds sel).map .val) from hk]; simp only [back_val]
    | ok d => rw [e] at hk; obtain ⟨rv, e4, r⟩ := hk; exact ⟨rv, by rw [e0, e4]; simp only [back_val], r⟩
section
variable {o : Bool} {xf : FSem} {o1 o2 o3 o4 o5 : Opd} {sel : List Pk} {ca cb cc cd ce : R D}
theorem ev_callK2 {f : D → D → R D} (ha : EvA o1 ρ ca) (hb : EvA o2 ρ cb) (hi : inPk 2 sel = true) (hf : ∀ a b, FnP o xf (pkD [a, b] sel) (f a b)) : EvP o (callK xf [o1, o2] sel) ρ (ca.bind fun a => cb.bind fun b => f a b) := by
  have z := ev_callK (f := ap2 f) (eas_cons ha (eas_cons hb eas_nil)) hi fun ds hl => match ds, hl with | [a, b], _ => hf a b
  have e : (seqR [ca, cb]).bind (ap2 f) = ca.bind fun a => cb.bind fun b => f a b := by cases ca <;> cases cb <;> rfl
  rw [e] at z; exact z
end
end
end VF

namespace VF
open PySem PySem.Spec PyProof.Rows L2
section
variable {ρ : En}
end
section
variable {κ : Type} {K : Kn κ} {ρ : En}
end
end VF

/-! Vx1: a, b = x, y where an inner block uses one of the names. -/
namespace VF
open PySem PySem.Spec PyProof.Rows L2
section
variable {M : Md} {cs : Cs} {W : WX} {k : Nat} {X : Cx}
end
end VF

/-! Vx2: defs with a try; what is asked of an error of a known class. -/
namespace VF
open PySem PySem.Spec PyProof.Rows L2
/-- the rule of a def, its body in its own frame -/
theorem fn_okF {M : Md} (hx : M.xn = none) {k : Nat} {x qual : Str} {params : Arguments} {body : List Stmt} {scope : Scope} {kws : List (Str × V)} {dvs : List V} {f : Addr} {fd : FuncData} {N ps : List Str} {b : SS} (F : FunD M.K x qual params body scope dvs kws f fd) (S : FnScope N ps scope)
    (hb : ∀ X W, GF M ⟨N, scope, fun _ => true⟩ W k X → PSs X body (tS M W b)) : FnOk M.P M.w M.K M.mg M.base (CX M.P M.w) (k + 1) f fd ps (spF M ps.length (fnS N.length b)) := by
  refine F.ok S (fun vs H Q E h => h.1) fun cdv A outer s H vs Q E hr hsp => ?_
  refine ⟨_, hb _ (fun cls d _ H => E cls d H) ⟨⟨⟨rfl, rfl, rfl, rfl, rfl, rfl, S.nd, rfl, rfl, hr.un⟩, rfl, takes_of rfl rfl rfl rfl, hr, passes_of rfl, hx⟩, rfl, rfl⟩, body_run hx hsp⟩
/-- an error's class, as the handler's suite needs it -/
structure XcF (M : Md) (c : Str) : Prop where
  ex : ∃ C, M.mg c = some (.ref C) ∧ ExcK M.K C
/-- whether errors of the class c are of the class d -/
structure IsF (M : Md) (c d : Str) (b : Bool) : Prop where
  ex : ∃ C E, M.mg c = some (.ref C) ∧ M.mg d = some (.ref E) ∧ PySem.W.kitOne M.K (.ref C) (.ref E) = some b
/-- .. of one of three classes -/
structure IsF3 (M : Md) (c d1 d2 d3 : Str) (b : Bool) : Prop where
  ex : ∃ C E1 E2 E3, M.mg c = some (.ref C) ∧ M.mg d1 = some (.ref E1) ∧ M.mg d2 = some (.ref E2) ∧ M.mg d3 = some (.ref E3) ∧ PySem.W.kitAny M.K (.ref C) [.ref E1, .ref E2, .ref E3] = some b
/-- what except c: asks of an error of the class d -/
structure HdF (M : Md) (c d : Str) (b : Bool) : Prop where
  ex : ∃ C E, M.mg c = some (.ref C) ∧ M.mg d = some (.ref E) ∧ PySem.W.exmOne M.K (.ref E) (.ref C) = some b
section
variable {M : Md} {cs : Cs} {W : WX} {k : Nat} {X : Cx} {a dx C : Addr} {oe : Obj} {pn : List (Addr × Obj)} {i : Nat} {x : Ex}
theorem e_isX1 (gx : GX M cs k X a dx C oe pn i x) {n c d : Str} {b : Bool} {p p1 p2 pos : Pos} (hxc : x.cls = c) (q : XcF M c) (f : IsF M c d b) (hi : cs.N[i]? = some n) (hv : Vis cs.sc n) (hd : (n == ("__debug__" : Str)) = false) (hcd : (n == ("__classdict__" : Str)) = false) (hg : cs.sc.names.lookup ("isinstance" : Str) = some .globalImplicit) (hm : M.mg "isinstance" = none)
    (hgd : cs.sc.names.lookup d = some .globalImplicit) (hdd : (d == ("__debug__" : Str)) = false) :
    PE (X.suite a ((a, oe) :: pn)) (.Call (.Name "isinstance" p) [.Name n p1, .Name d p2] [] pos) (tE (M.on ⟨i, a, dx, x.fs, x.ds⟩) W (cst (.bl b))) := by
  subst hxc
  obtain ⟨C', E, h1, h2, h3⟩ := f.ex
  obtain ⟨C2, h4, T⟩ := q.ex
  have e1 := gx.hC.symm.trans h1
  cases e1
  have e2 := gx.hC.symm.trans h4
  cases e2
  exact e_isX gx (tbl := fun _ => some b) (cv := .ref E) (u := .ref E) hi hv hd hcd hg hm (pe_glob (X := X.suite a ((a, oe) :: pn)) (gx.g.gl hgd) (show X.mg d = some (.ref E) by rw [show X.mg = M.mg from gx.g.hmg]; exact h2) rfl hdd) (.own E) T fun b' e => by cases e; exact h3
end
end VF

/-! Vx3: errors in plain terms. -/
namespace VF
open PySem PySem.Spec PyProof.Rows L2
/-- only errors of the class cl are handled -/
def tblC (cl : Str) : Str → Option Bool := fun s => if s = cl then some true else none
def suC (cl : Str) (su : Ex → SS) : Ex → SS := fun x => if x.cls = cl then su x else badS
section
variable {ρ : En}
end
/-! ### what the written part says of an error's class -/
theorem erv_of {M : Md} {c top f : Str} {fd : FuncData} {ps : List Str} (hm : M.mg c = some (.ref (He.ga M.K c))) (h : erB c top f M.K = true) (F : FnOk M.P M.w M.K M.mg M.base (CX M.P M.w) 1 (He.fAd M.K (top, some "__init__")) fd ps (spW M.K f)) {ds : List Value} (hv : Vals [] ds) (hb : Binds M.K fd ps ds) : ErV M 1 c f [] := by
  unfold erB at h
  simp only [Bool.and_eq_true, decide_eq_true_eq] at h
  obtain ⟨h1, h2, h3, h4, h5⟩ := h
  exact ⟨_, _, fd, ps, [], ds, hm, oex_of h1, He.eqO_ok h2, He.eqO_ok h3, h4, F, rfl, hv, hb⟩
theorem xcf_of {M : Md} {c top f : Str} (hm : M.mg c = some (.ref (He.ga M.K c))) (h : erB c top f M.K = true) : XcF M c := by
  unfold erB at h
  simp only [Bool.and_eq_true, decide_eq_true_eq] at h
  obtain ⟨h1, h2, h3, h4, h5⟩ := h
  exact ⟨_, hm, excK_of h5⟩
theorem isF_of {M : Md} {c d : Str} {b : Bool} (h1 : M.mg c = some (.ref (He.ga M.K c))) (h2 : M.mg d = some (.ref (He.ga M.K d))) (h : isXB c d b M.K = true) : IsF M c d b := ⟨_, _, h1, h2, of_decide_eq_true h⟩
theorem hdF_of {M : Md} {c d : Str} {b : Bool} (h1 : M.mg c = some (.ref (He.ga M.K c))) (h2 : M.mg d = some (.ref (He.ga M.K d))) (h : hdB c d b M.K = true) : HdF M c d b := ⟨_, _, h1, h2, of_decide_eq_true h⟩
section
variable {M : Md} {cs : Cs} {W : WX} {k : Nat} {X : Cx}
/-- try: body / except c as n: suite; only errors of the class cl are looked at -/
theorem s_try1 (g : GF M cs W k X) {i : Nat} {c cl n : Str} {body suite : List Stmt} {b₀ : Stmt} {np pos pos' : Pos} {b : SS} {su : Ex → SS}
    (hi : cs.N[i]? = some n) (hln : cs.sc.names.lookup n = some .local) (hg : cs.sc.names.lookup c = some .globalImplicit) (hdb : (c == ("__debug__" : Str)) = false) (f : HdF M c cl true)
    (hb : ∀ X W, GF M cs W k X → PSs X body (tS M W b))
    (hsu : ∀ (a dx C : Addr) (oe : Obj) (pn : List (Addr × Obj)) (x : Ex), GX M cs k X a dx C oe pn i x → x.cls = cl → PSs (X.suite a ((a, oe) :: pn)) (b₀ :: suite) (tS (M.on ⟨i, a, dx, x.fs, x.ds⟩) WF (su x))) :
    PS X (.Try body [.ExceptHandler (some (.Name c np)) (some n) (b₀ :: suite) pos'] [] [] pos) (tS M W (tryAs b (tblC cl) i (suC cl su))) := by
  obtain ⟨C, E, h1, h2, h3⟩ := f.ex
  refine s_tryAs g hi hln hg hdb h1 (fun e C' r hm ht => ?_) hb fun a dx C' oe pn x gx => ?_
  · unfold tblC at ht
    by_cases he : e = cl
    · rw [if_pos he] at ht
      cases ht
      subst he
      have z := hm.symm.trans h2
      cases z
      exact h3
    · rw [if_neg he] at ht
      cases ht
  · unfold suC
    by_cases hx : x.cls = cl
    · rw [if_pos hx]
      exact hsu a dx C' oe pn x gx hx
    · rw [if_neg hx]
      exact ss_bad
end
/-! ### a.join(b), b a tuple or a list -/
end VF

/-! Vx4: own methods in plain terms. -/
namespace VF
open PySem PySem.Spec PyProof.Rows L2
section
variable {ρ : En} {o : Bool} {xf : FSem} {o0 o1 o2 : Opd} {os : List Opd} {c0 c1 c2 : R D} {c m : Str}
end
end VF

/-! Vx5: a, b, .. = a list. -/
namespace VF
open PySem PySem.Spec PyProof.Rows L2
section
variable {prog : Program} {w : World} {A : Around} {E : Value → Shared → Prop}
end
section
variable {M : Md} {cs : Cs} {W : WX} {k : Nat} {X : Cx}
end
/-! ### in plain terms -/
end VF

/-! Vx6: a lambda handed to a def that asks it; tables. -/
namespace VF
open PySem PySem.Spec PyProof.Rows L2
/-- steps apart from all slots -/
theorem SR.apart {M : Md} {F F' O R O' R' : Addr → Prop} {H H' : Hp} {σ : St} {ρ : En} (s : SR M F H σ ρ) (st : Stp F H O R F' H' O' R') (no : ∀ a, ¬ O a) (nr : ∀ a, ¬ R a) (hd : ∀ a, F' a → H' a ≠ none) (ht : TabOk M F' H') : Po M F H σ ρ F' H' ρ := by
  have st2 : Stp F H (OwnAt σ ρ) (RefAt σ ρ) F' H' (OwnAt σ ρ) (RefAt σ ρ) :=
    ⟨st.fro, fun a o h _ _ => st.keep a o h (no a) (nr a), st.dom, fun a h => (st.new a h).imp id fun z => z.imp id fun z => (no a z).elim, fun _ h => .inl h, fun _ h => h⟩
  refine ⟨st2, s.froX (s.ext st2) (fun i t a o h ht e q => ?_) hd (s.xn.extT (s.ext st2) ht), .refl _⟩
  obtain ⟨b, u, e2, nf, _⟩ := s.top_at h ht
  rw [e] at e2; cases e2
  refine ⟨fun z => ?_, (st.keep a o q (no a) (nr a)).no nf⟩
  rcases st.new a z with y | y | y
  · exact nf y
  · rw [q] at y; cases y
  · exact no a y
def nobody : Addr → Prop := fun _ => False
/-- a value that is made apart from all slots -/
def Gets (M : Md) (F : Addr → Prop) (H : Hp) (d : D) (Q : VK) : Prop := ∀ F' H' v, Stp F H nobody nobody F' H' nobody nobody → (∀ a, F' a → H' a ≠ none) → TabOk M F' H' → Rep M F' H' d v → Q v H'
/-- what an asking def makes of what it asks -/
def TAsk (M : Md) (yes : D) (tbl : Str → Option Bool) (hnd : Ex → Option D) (tl : XK → Hp → VK → Prop) (H : Hp) (Q : VK) : Prop :=
  tl (fun cls e H' => ∃ x F' d, (∀ a, F' a → H' a ≠ none) ∧ TabOk M F' H' ∧ ExR M F' H' x cls e ∧ tbl x.cls = some true ∧ hnd x = some d ∧ Gets M F' H' d Q) H
    fun _ H' => ∃ F', (∀ a, F' a → H' a ≠ none) ∧ TabOk M F' H' ∧ Gets M F' H' yes Q
/-- a def of one parameter that calls it -/
structure AskV (M : Md) (k : Nat) (x : Str) (yes : D) (tbl : Str → Option Bool) (hnd : Ex → Option D) : Prop where
  ex : ∃ (g : Addr) (a : Str) (Ng : List Str) (sg : Scope) (bg : List Stmt) (pg : Arguments) (dV kV doc pm cdv ct oc : Value) (an od : Option Addr) (osl : Array (Option Value)),
    M.mg x = some (.ref g) ∧ PySem.W.keepIn M.K (.ref g) = true ∧ M.K.lookup g = some ⟨oc, od, .func (PySem.W.fnOf x x pg bg sg dV kV doc pm an cdv ct), osl⟩ ∧ PySem.W.codeIn M.K cdv x = true ∧ Binds M.K (PySem.W.fnOf x x pg bg sg dV kV doc pm an cdv ct) [a] [] ∧ FnScope Ng [a] sg ∧ Ng[0]? = some a ∧ Vis sg a ∧
    (a == ("__debug__" : Str)) = false ∧ (a == ("__classdict__" : Str)) = false ∧
    ∀ (A : Around) (outer : List Env) (s : Shared) (H : Hp) (f c' : Addr) (q : Str) (tl : XK → Hp → VK → Prop) (Q : VK), Room k (A.deeper (envOfC x sg s.heap.objs.size g cdv)) →
      (∀ (W : WX) (pn : List (Addr × Obj)) (xe : Value → Shared → Prop) (E : XK) (p1 p2 : Pos), Takes ((cxOf C8.CX0 M.P M.w M.K M.mg M.base Ng x sg g cdv A outer s H C8.E0).tr pn xe) W → (∀ cls d σ' H', E cls d H' → W cls d σ' H') →
        PE ((cxOf C8.CX0 M.P M.w M.K M.mg M.base Ng x sg g cdv A outer s H C8.E0).tr pn xe) (.Call (.Name a p1) [] [] p2) (fun σZ HZ Q => σZ[0]? = some (some (.ref f)) ∧ HZ c' = some (LamX.CodeO c' q) ∧ tl E HZ Q)) →
      H c' = some (LamX.CodeO c' q) → TAsk M yes tbl hnd tl H Q →
      ∃ t, PSs (cxOf C8.CX0 M.P M.w M.K M.mg M.base Ng x sg g cdv A outer s H C8.E0) bg t ∧ t { nx := fun _ H' => Q .non H', rt := Q } (L2.start Ng [.ref f]) H
/-- the def that makes lambdas: its code object, its table -/
structure LamD (M : Md) (X : Cx) (P : Addr) (q : Str) : Prop where
  ex : ∃ c, LamX.TabB X.base X.mg c P ∧ X.env.code = .ref c ∧ X.env.qual ++ "<lambda>" = q
  mem : (P, q) ∈ M.T
section
variable {M : Md} {cs : Cs} {W : WX} {k : Nat} {X : Cx}
theorem TabF.s {F : Addr → Prop} {H : Hp} {P : Addr} {q : Str} (t : TabF F H P q) : LamX.TabS H P q := by
  obtain ⟨_, ps, e, t1, co⟩ := t
  refine ⟨ps, e, t1, fun pos cv hc => ?_⟩
  obtain ⟨c, e2, _, e3⟩ := co pos cv hc
  exact ⟨c, e2, e3⟩
end
end VF

/-! Vx7: the def that asks: try: a() / except C as e: return .. / return .. -/
namespace VF
open PySem PySem.Spec PyProof.Rows L2
def bare (n : Nat) : En := List.replicate n none
theorem gt_bare {n i : Nat} : gt (bare n) i = none := by
  unfold gt bare
  rw [List.getElem?_replicate]
  split <;> rfl
theorem SR.bare {M : Md} {F : Addr → Prop} {H : Hp} {σ : St} {n : Nat} (hl : σ.length = n) (hd : ∀ a, F a → H a ≠ none) (hx : XnOk M F H σ) : SR M F H σ (bare n) :=
  ⟨by unfold VF.bare; rw [List.length_replicate]; exact hl, hd, fun i s h => (by rw [gt_bare] at h; cases h), fun i j s t a h => (by rw [gt_bare] at h; cases h), hx⟩
end VF

/-! Vx8: an own error over KeyError, made, its fields set. -/
namespace PySem
namespace KEX
open PySem.W PySem.Calls PyProof.Rows PySem.HandSPX
/-- what stands behind such a class -/
abbrev keT : List Value := [.type "KeyError", .type "LookupError", .type "Exception", .type "BaseException", .type "object"]
section
variable {M : Model} {A : Around} {E : Value → Shared → Prop} {h : Heap} {g : Array GenState} {d : Drawn} {t : Nat} {os : OsState}
variable {nm q : Str} {C N : Addr} {bs : List Value} {hdct : Bool} {sn : List Str} {sub : List Value} {ab : Bool} {col : Option Bool} {dd : Option Addr} {k0 k1 k2 k3 k5 : Option Value}
end
section
variable {prog : Program} {w : World} {A : Around} {E : Value → Shared → Prop} {R : Result → Shared → Prop} {h : Heap} {g : Array GenState} {d : Drawn} {t : Nat} {os : OsState}
variable {nm q : Str} {C N : Addr} {bs : List Value} {hdct : Bool} {sn : List Str} {sub : List Value} {ab : Bool} {col : Option Bool} {dd : Option Addr} {k0 k1 k2 k3 k5 : Option Value}
end
section
open Builtin Builtin.ObjectAttr
variable {prog : Program} {w : World} {A : Around} {E : Value → Shared → Prop} {R : Result → Shared → Prop} {hp : Heap} {g : Array GenState} {d : Drawn} {t : Nat} {os : OsState}
end
end KEX
end PySem

/-! Vx9: raise of an own error over KeyError whose __init__ keeps one value. -/
namespace VF
open PySem PySem.Spec PyProof.Rows L2
/-- what the written part says of such a class -/
structure OexK (K : PySem.W.Frag) (C : Addr) : Prop where
  cls : ∃ nm q N bs sn sub ab col dd k0 k1 k2 k3 k5, K.lookup C = some (excClassObj nm q C N bs PySem.KEX.keT true sn sub ab col dd k0 k1 k2 k3 k5 "LookupError.__new__")
  sa : PySem.W.findIn K (.ref C) "__setattr__" = some (some (.builtin "object.__setattr__"))
  exC : PySem.W.subIn K (.ref C) (.type "BaseException") = some true
  tyC : PySem.W.typeIn K (.ref C) = some (.type "type")
  kC : PySem.W.keepIn K (.ref C) = true
section
variable {X : Cx} {pins : List (Addr × Obj)} {σ : St} {H : Hp} {s : Shared} {a C dx : Addr} {f : Str} {y : V} {u : Value} {E : Value → Shared → Prop} {A : Around}
end
/-! ### readings -/
section
variable {X : Cx} {o e : Expr} {es : List Expr} {to te : TE} {ta : TA} {f : Str} {p p' p1 p2 pos : Pos}
end
end VF

/-! Vx10: raise C(value), C over KeyError. -/
namespace VF
open PySem PySem.Spec PyProof.Rows L2
section
variable {X : Cx} {e : Expr} {es : List Expr} {ta : TA} {p pos : Pos}
end
/-- __init__: KeyError.__init__(self, ..); self.f = value -/
def spN (K : PySem.W.Frag) (f : Str) : Sp := fun vs H Q _ => ∃ (a C : Addr) (w : V), vs = [.ref a, w] ∧ OexK K C ∧ PySem.W.findIn K (.ref C) f = some none ∧ H a = some (exo a C none) ∧
  ∀ dx, H dx = none → dx ≠ a → Q .non (upd (upd H dx (exd dx [(f, w)])) a (exo a C (some dx)))
structure ErN (M : Md) (k : Nat) (c f : Str) : Prop where
  ex : ∃ C fI fd ps, M.mg c = some (.ref C) ∧ OexK M.K C ∧ PySem.W.findIn M.K (.ref C) f = some none ∧ PySem.W.findIn M.K (.ref C) "__init__" = some (some (.ref fI)) ∧ PySem.W.typeIn M.K (.ref fI) = some (.type "function") ∧ FnOk M.P M.w M.K M.mg M.base (CX M.P M.w) k fI fd ps (spN M.K f) ∧ Binds M.K fd ps []
section
variable {M : Md} {cs : Cs} {W : WX} {k : Nat} {X : Cx}
end
end VF

/-! Vx11: the asking def of the laws (NoOption); a def with lambdas; the end of a law with a table. -/
namespace VF
open PySem PySem.Spec PyProof.Rows L2
/-- what the handler asks of the written part -/
structure AskF (M : Md) : Prop where
  ex : ∃ C E, M.mg "NoOption" = some (.ref C) ∧ M.mg "PollError" = some (.ref E) ∧ ExcK M.K C ∧ PySem.W.findIn M.K (.ref C) "name" = some none ∧ PySem.W.exmOne M.K (.ref C) (.ref C) = some true ∧ PySem.W.kitOne M.K (.ref C) (.type "KeyError") = some true ∧ PySem.W.kitOne M.K (.ref C) (.ref E) = some false
  is : M.mg "isinstance" = none
  ke : M.mg "KeyError" = none
section
variable {M : Md} {k : Nat}
end
end VF

/-! Vx12: the end of a law in which a def makes lambdas. -/
namespace VF
open PySem PySem.Spec PyProof.Rows L2
end VF

/-! Vx13: == and != of data with tuples of either kind. -/
namespace VF
open PySem PySem.Spec PyProof.Rows L2
open PySem.SeqAt (EqAt RcAt RcNeAt)
mutual
/-- all tuples as tuples -/
def nt : D → D
  | .tup xs => .tup (ntL xs)
  | .tpp xs => .tup (ntL xs)
  | .lst xs => .lst (ntL xs)
  | d => d
def ntL : List D → List D
  | [] => []
  | x :: xs => nt x :: ntL xs
end
mutual
/-- how plain data stand, whoever owns them -/
def RepE (M : Md) (F : Addr → Prop) (H : Hp) : D → V → Prop
  | .non, v => v = .non
  | .bl b, v => v = .bl b
  | .int i, v => v = .int i
  | .str x, v => v = .str x
  | .tup ds, v => ∃ a vs, v = .ref a ∧ SqT M.K H a vs ∧ RepEL M F H ds vs
  | .lst ds, v => ∃ a vs, v = .ref a ∧ SqL M.K H a vs ∧ RepEL M F H ds vs
  | _, _ => True
def RepEL (M : Md) (F : Addr → Prop) (H : Hp) : List D → List V → Prop
  | [], vs => vs = []
  | d :: ds, vs => ∃ v r, vs = v :: r ∧ RepE M F H d v ∧ RepEL M F H ds r
end
mutual
theorem Rep.e {M : Md} {F : Addr → Prop} {H : Hp} : ∀ (d : D) {v : V}, Rep M F H d v → RepE M F H (nt d) v
  | .non, _, h => by unfold Rep at h; unfold nt RepE; exact h
  | .bl _, _, h => by unfold Rep at h; unfold nt RepE; exact h
  | .int _, _, h => by unfold Rep at h; unfold nt RepE; exact h
  | .str _, _, h => by unfold Rep at h; unfold nt RepE; exact h
  | .tup ds, _, h => by
    unfold Rep at h; unfold nt RepE
    obtain ⟨a, vs, e, q, r⟩ := h
    exact ⟨a, vs, e, q.1, RepL.e ds r⟩
  | .lst ds, _, h => by
    unfold Rep at h; unfold nt RepE
    obtain ⟨a, vs, e, q, r⟩ := h
    exact ⟨a, vs, e, q.imp (·.2) id, RepL.e ds r⟩
  | .tpp ds, _, h => by
    unfold Rep at h; unfold nt RepE
    obtain ⟨a, vs, o, e, f, q, n, r⟩ := h
    exact ⟨a, vs, e, .inl (.inr ⟨o, q⟩), RepL.e ds r⟩
  | .dck _ _, _, h => by unfold nt RepE; trivial
  | .dct _ _, _, h => by unfold nt RepE; trivial
  | .ins _ _ _, _, h => by unfold nt RepE; trivial
  | .exn _ _ _ _ _, _, h => by unfold nt RepE; trivial
theorem RepL.e {M : Md} {F : Addr → Prop} {H : Hp} : ∀ (ds : List D) {vs : List V}, RepL M F H ds vs → RepEL M F H (ntL ds) vs
  | [], _, h => by unfold RepL at h; unfold ntL RepEL; exact h
  | d :: ds, _, h => by
    unfold RepL at h; unfold ntL RepEL
    obtain ⟨v, r, e, p, q⟩ := h
    exact ⟨v, r, e, Rep.e d p, RepL.e ds q⟩
end
theorem OdR.e {M : Md} {F : Addr → Prop} {H : Hp} {d : D} {v : V} (h : OdR M F H d v) : RepE M F H (nt d) v := by
  rcases h with h | ⟨a, e, _, c⟩
  · exact Rep.e d h
  · cases d with
    | lst ds =>
      obtain ⟨vs, p, r⟩ := c
      unfold nt RepE
      exact ⟨a, vs, e, .inl p.rd, RepL.e ds r⟩
    | dck _ _ => unfold nt RepE; trivial
    | dct _ _ => unfold nt RepE; trivial
    | ins _ _ _ => unfold nt RepE; trivial
    | _ => exact c.elim
theorem RepEL.length {M : Md} {F : Addr → Prop} {H : Hp} : ∀ {ds : List D} {vs : List V}, RepEL M F H ds vs → ds.length = vs.length
  | [], _, h => by unfold RepEL at h; subst h; rfl
  | d :: ds, _, h => by
    unfold RepEL at h
    obtain ⟨v, r, rfl, _, q⟩ := h
    simp [RepEL.length q]
theorem RepEL.getV {M : Md} {F : Addr → Prop} {H : Hp} : ∀ {ds : List D} {vs : List V} {j : Nat} {v : V}, RepEL M F H ds vs → vs[j]? = some v → ∃ d, ds[j]? = some d ∧ RepE M F H d v
  | [], _, _, _, h, e => by unfold RepEL at h; subst h; simp at e
  | d :: ds, _, j, v', h, e => by
    unfold RepEL at h
    obtain ⟨v, r, rfl, p, q⟩ := h
    cases j with
    | zero =>
      simp at e
      subst e
      exact ⟨d, rfl, p⟩
    | succ j =>
      obtain ⟨w, h1, h2⟩ := RepEL.getV (j := j) (v := v') q (by simpa using e)
      exact ⟨w, by simpa using h1, h2⟩
section
variable {M : Md} {X : Cx} {pins : List (Addr × Obj)} {F : Addr → Prop} {σ : St} {H : Hp} {s : Shared}
theorem repE_non {v : V} (h : RepE M F H .non v) : v = .non := by unfold RepE at h; exact h
theorem repE_bl {b : Bool} {v : V} (h : RepE M F H (.bl b) v) : v = .bl b := by unfold RepE at h; exact h
theorem repE_int {b : Int} {v : V} (h : RepE M F H (.int b) v) : v = .int b := by unfold RepE at h; exact h
theorem repE_str {b : Str} {v : V} (h : RepE M F H (.str b) v) : v = .str b := by unfold RepE at h; exact h
theorem repE_list (I : Inv X pins σ H s) (hK : X.K = M.K) {ds : List D} {v : V} {u : Value} (h : RepE M F H (.lst ds) v) (r : RelV v u) : ∃ a vs its, v = .ref a ∧ u = .ref a ∧ SqL X.K H a vs ∧ RepEL M F H ds vs ∧ Vals vs its ∧ s.heap.IsList a its.toArray := by
  unfold RepE at h
  obtain ⟨a, vs, rfl, q, l⟩ := h
  rw [← hK] at q
  cases r
  obtain ⟨its, rv, p, _⟩ := I.list q
  exact ⟨a, vs, its, rfl, rfl, q, l, rv, p.isList⟩
theorem repE_tup (I : Inv X pins σ H s) (hK : X.K = M.K) {ds : List D} {v : V} {u : Value} (h : RepE M F H (.tup ds) v) (r : RelV v u) : ∃ a vs its, v = .ref a ∧ u = .ref a ∧ SqT X.K H a vs ∧ RepEL M F H ds vs ∧ Vals vs its ∧ s.heap.IsTuple a its.toArray := by
  unfold RepE at h
  obtain ⟨a, vs, rfl, q, l⟩ := h
  rw [← hK] at q
  cases r
  obtain ⟨its, rv, p, _⟩ := I.tuple q
  exact ⟨a, vs, its, rfl, rfl, q, l, rv, p⟩
end
section
variable {M : Md} {X : Cx}
end
/-! ### the hook: empty tables are no part of what is written -/
end VF

/-! Vx14: sorted of tuples (ints, texts), in a list or as a dict's keys. -/
namespace VF
open PySem PySem.Spec PyProof.Rows L2 PyProof.Rows.G
section
variable {M : Md} {X : Cx} {pins : List (Addr × Obj)} {F : Addr → Prop} {σ : St} {H : Hp} {s : Shared}
end
section
variable {M : Md} {X : Cx}
end
end VF

/-! Vx15: zip of two tuples, its pairs under one name. -/
namespace VF
open PySem PySem.Spec PyProof.Rows L2
section
variable {prog : Program} {w : World} {A : Around} {E : Value → Shared → Prop} {s : Shared}
end
section
variable {M : Md} {X : Cx} {cs : Cs} {W : WX} {k : Nat}
end
end VF

/-! Vx16: repr of plain data; the end of a law that asks for it. -/
namespace VF
open PySem PySem.Spec PyProof.Rows L2
mutual
def toPy : D → PyData
  | .non => .none
  | .bl b => .bool b
  | .int i => .int i
  | .str x => .str x
  | .tup xs => .tuple (toPys xs)
  | .tpp xs => .tuple (toPys xs)
  | .lst xs => .list (toPys xs)
  | _ => .none
def toPys : List D → List PyData
  | [] => []
  | x :: xs => toPy x :: toPys xs
end
/-- repr of plain data -/
def fRepr : List D → Option Rv
  | [d] => if pl 60 (nt d) = true ∧ (toPy d).showable = true ∧ (toPy d).depth ≤ 60 ∧ (toPy d).hasDict = false ∧ (toPy d).shown.length ≤ 1000000 then some (.val (.str (toPy d).shown)) else none
  | _ => none
mutual
theorem toPy_nt : ∀ d : D, toPy (nt d) = toPy d
  | .non => by simp [nt, toPy]
  | .bl _ => by simp [nt, toPy]
  | .int _ => by simp [nt, toPy]
  | .str _ => by simp [nt, toPy]
  | .tup xs => by simp [nt, toPy, toPys_nt xs]
  | .tpp xs => by simp [nt, toPy, toPys_nt xs]
  | .lst xs => by simp [nt, toPy, toPys_nt xs]
  | .dck _ _ => by simp [nt, toPy]
  | .dct _ _ => by simp [nt, toPy]
  | .ins _ _ _ => by simp [nt, toPy]
  | .exn _ _ _ _ _ => by simp [nt, toPy]
theorem toPys_nt : ∀ xs : List D, toPys (ntL xs) = toPys xs
  | [] => by simp [ntL, toPys]
  | x :: xs => by simp [ntL, toPys, toPy_nt x, toPys_nt xs]
end
section
variable {M : Md} {X : Cx} {pins : List (Addr × Obj)} {F : Addr → Prop} {σ : St} {H : Hp} {s : Shared}
theorem reads_of (I : Inv X pins σ H s) (hK : X.K = M.K) : ∀ (n : Nat) (d : D) (v : V) (u : Value), RepE M F H d v → RelV v u → pl n d = true → ∃ as, Reads s.heap u (toPy d) as := by
  intro n
  induction n with
  | zero => intro d v u _ _ h; cases d <;> cases h
  | succ n ih =>
    have all : ∀ (ds : List D) (vs : List V) (us : List Value), RepEL M F H ds vs → Vals vs us → (∀ d ∈ ds, pl n d = true) → ∃ as, ReadsAll s.heap us (toPys ds) as := by
      intro ds
      induction ds with
      | nil =>
        intro vs us h r _
        unfold RepEL at h
        subst h
        cases r
        exact ⟨[], by unfold toPys; exact .nil⟩
      | cons d ds ihd =>
        intro vs us h r hp
        unfold RepEL at h
        obtain ⟨v, r', rfl, p, q⟩ := h
        cases r with
        | cons r1 r2 =>
          obtain ⟨as, h1⟩ := ih d v _ p r1 (hp d List.mem_cons_self)
          obtain ⟨bs, h2⟩ := ihd _ _ q r2 fun e he => hp e (List.mem_cons_of_mem _ he)
          exact ⟨as ++ bs, by unfold toPys; exact .cons h1 h2⟩
    intro d v u h r hp
    cases d with
    | non => cases repE_non h; cases r; exact ⟨[], .none⟩
    | bl b => cases repE_bl h; cases r; exact ⟨[], .bool b⟩
    | int b => cases repE_int h; obtain ⟨t, rfl⟩ := r; exact ⟨[], .int b t⟩
    | str b => cases repE_str h; obtain ⟨t, rfl⟩ := r; exact ⟨[], .str b t⟩
    | lst ds =>
      obtain ⟨a, vs, its, rfl, rfl, q, l, rv, p⟩ := repE_list I hK h r
      obtain ⟨as, h1⟩ := all ds vs its l rv (by simpa [pl] using hp)
      obtain ⟨o, ho, hc, n, hd⟩ := p
      exact ⟨a :: as, by unfold toPy; exact .list ho hc hd (by simpa using h1)⟩
    | tup ds =>
      obtain ⟨a, vs, its, rfl, rfl, q, l, rv, p⟩ := repE_tup I hK h r
      obtain ⟨as, h1⟩ := all ds vs its l rv (by simpa [pl] using hp)
      obtain ⟨o, ho, hc, n, hd⟩ := p
      exact ⟨as, by unfold toPy; exact .tuple ho hc hd (by simpa using h1)⟩
    | _ => simp [pl] at hp
end
section
variable {M : Md} {X : Cx}
theorem c_repr (hK : X.K = M.K) (hu : X.A.units + 64 < cLine) (hg : X.A.guards = some []) : CallR X (.builtin "repr") (rDs M fRepr) := by
  intro pins s σ H vs us Q I r h
  obtain ⟨F, ds, rv, hd, od, ef, q⟩ := h
  unfold fRepr at ef
  split at ef
  · rename_i d
    obtain ⟨v, rfl, r1⟩ := od.one
    obtain ⟨u, rfl, ru⟩ := vals1 r
    split at ef
    · rename_i hp
      obtain ⟨p1, p2, p3, p4, p5⟩ := hp
      cases ef
      have hz : (toPy d).shown.length ≤ sizeLine := by rw [sizeLine_eq]; omega
      have done : ∀ (h' : Heap) (t : Tok) (tk : Nat), (∀ b o, s.heap.get? b = some o → h'.get? b = some o) → EP X pins σ Q (.str (toPy d).shown t) { s with heap := h', toks := tk } := fun h' t tk hk => ⟨.str _, H, I.kept (t' := tk) hk, ⟨t, rfl⟩, rv_same hd q (show Rep M F H _ _ by unfold Rep; rfl)⟩
      obtain ⟨as, rd⟩ := reads_of I hK 60 (nt d) v u r1.e ru p1
      rw [toPy_nt] at rd
      generalize toPy d = y at *
      cases rd with
      | none => exact PySem.P.repr_of_none (done s.heap _ _ fun _ _ e => e)
      | bool b => exact PySem.P.repr_of_bool (by
          have z := done s.heap s.toks (s.toks + 1) fun _ _ e => e
          cases b <;> exact z)
      | int i t => exact PySem.P.repr_of_int (by simpa [PyData.showable] using p2) (done s.heap _ _ fun _ _ e => e)
      | str x t => exact PySem.P.repr_of_str (done s.heap _ _ fun _ _ e => e) hz
      | list a1 a2 a3 a4 => exact repr_of_reads' (h₀ := s.heap) (.list a1 a2 a3 a4) p2 (PyData.noDict_hsm p4) hg (by omega) (fun _ _ e => e) (fun h' t tk hk => done h' t tk hk) hz
      | tuple a1 a2 a3 a4 => exact repr_of_reads' (h₀ := s.heap) (.tuple a1 a2 a3 a4) p2 (PyData.noDict_hsm p4) hg (by omega) (fun _ _ e => e) (fun h' t tk hk => done h' t tk hk) hz
      | dict a1 a2 a3 a4 a5 => cases p4
    · cases ef
  · cases ef
end
end VF

/-! Vx17: a law is called where no repr runs: the end. -/
namespace VF
open PySem PySem.Spec PyProof.Rows L2
/-- the heap ahead of a law: the script, if it is none of the module's lists -/
def scr (a : Addr) (o : Obj) (xs : List V) (own : Bool) : Hp := fun b => if own = true ∧ b = a then some (.frz o (.lst xs)) else none
theorem law_callG {P : Program} {w : World} {K : PySem.W.Frag} {mg mb : Str → Option Value} {C : CXT} {fa a : Addr} {t : Shared} {us : List Value} {zs : List Int}
    (KX : K.In t.heap) (n1 : t.heap.Ns mainGlobals mg) (n2 : t.heap.Ns builtinsNs mb) (n3 : ∀ x : Str, x ≠ "__name__" → mb x = bootBuiltins x) (n4 : t.heap.NoLimit) (n5 : t.gens = #[])
    (ho : t.heap.get? a = some { cls := .type "list", data := .seq us.toArray }) (iz : IntsAre us zs) (lz : zs.length ≤ sizeLine)
    (go : ∀ (base : Heap) (H : Hp), K.In base → base.Ns mainGlobals mg → Env0 P w K mg base callerA [] t H → Only H → SqL K H a (zs.map V.int) → codeAny (model P w) callerA (.call (.ref fa) ⟨[.ref a], []⟩) (CR C [] P w H t (fun v _ => v = .bl true) fun _ _ _ => False) t)
    (nx : ∀ H e s', C [] H t (fun _ _ _ => False) e s' → False) :
    codeAny (model P w) callerA (.call (.ref fa) ⟨[.ref a], []⟩) (fun r s' => r = .ok (.ret (.bool true)) ∧ OldK t.heap s'.heap ∧ s'.os = t.os ∧ AllBare s'.gens) t := by
  have rv := vals_ints iz
  have lu := iz.length
  let ob : Obj := { cls := .type "list", data := .seq us.toArray }
  -- the two kinds of script
  have key : ∀ own : Bool, (own = true → K.lookup a = none) → SqL K (scr a ob (zs.map V.int) own) a (zs.map V.int) → codeAny (model P w) callerA (.call (.ref fa) ⟨[.ref a], []⟩) (fun r s' => r = .ok (.ret (.bool true)) ∧ OldK t.heap s'.heap ∧ s'.os = t.os ∧ AllBare s'.gens) t := by
    intro own hk sq
    have at_ : ∀ {b u}, scr a ob (zs.map V.int) own b = some u → b = a ∧ own = true ∧ u = .frz ob (.lst (zs.map V.int)) := fun {b u} e => by
      unfold scr at e
      split at e
      · rename_i c
        exact ⟨c.2, c.1, (Option.some.inj e).symm⟩
      · cases e
    have only : Only (scr a ob (zs.map V.int) own) := fun b => by
      cases e : scr a ob (zs.map V.int) own b with
      | none => exact .inl rfl
      | some u =>
        obtain ⟨_, _, rfl⟩ := at_ e
        exact .inr ⟨_, _, rfl⟩
    have hok : HOk P w (scr a ob (zs.map V.int) own) t.heap := fun b u e => by
      obtain ⟨rfl, _, rfl⟩ := at_ e
      exact ⟨ho, by rw [List.length_map]; exact lz, us, _, rv, ho⟩
    have free : ∀ {b o}, t.heap.get? b = some o → b ≠ a ∨ own = false → scr a ob (zs.map V.int) own b = none := fun {b o} e c => by
      cases q : scr a ob (zs.map V.int) own b with
      | none => rfl
      | some u =>
        obtain ⟨h1, h2, _⟩ := at_ q
        rcases c with c | c
        · exact absurd h1 c
        · rw [h2] at c; cases c
    have ns' : ∀ {b : Addr} {m : Str → Option Value}, t.heap.Ns b m → (hidT t.heap (scr a ob (zs.map V.int) own)).Ns b m := fun {b m} ⟨o, es, ep, e, d, r⟩ => ⟨o, es, ep, hidT_get e (free e (.inl fun q => by
      subst q
      rw [ho] at e
      cases e
      cases (show Data.seq us.toArray _ = Data.dict es ep from d))), d, r⟩
    have kin : K.In (hidT t.heap (scr a ob (zs.map V.int) own)) := fun b o e => hidT_get (KX b o e) (by
      cases q : scr a ob (zs.map V.int) own b with
      | none => rfl
      | some u =>
        obtain ⟨rfl, h2, _⟩ := at_ q
        rw [hk h2] at e
        cases e)
    have env : Env0 P w K mg (hidT t.heap (scr a ob (zs.map V.int) own)) callerA [] t (scr a ob (zs.map V.int) own) :=
      ⟨rfl, ⟨kin, ns' n1, ⟨mb, ns' n2, n3⟩, let ⟨mc, h1, h2⟩ := n4; ⟨mc, ns' h1, h2⟩⟩, fun b o e => of_hidT e, Nat.le_of_eq (hidT_size _ _), trivial, fun b hb => absurd (show b ∈ ([] : List Addr) from hb) List.not_mem_nil, hok, .of_eq n5⟩
    refine codeAny_mono (go _ _ kin (ns' n1) env only sq) fun r s' h => ?_
    match r, h with
    | .error e, h => exact (nx _ e s' h).elim
    | .ok .next, h => exact h.elim
    | .ok .brk, h => exact h.elim
    | .ok .cont, h => exact h.elim
    | .ok (.ret u), h =>
      obtain ⟨v, H', os, bare, un, hok', r', q⟩ := h
      obtain rfl : v = .bl true := q
      obtain rfl : u = Value.bool true := r'
      refine ⟨rfl, OldK.of_keep fun b o e => ?_, os, bare⟩
      cases q : scr a ob (zs.map V.int) own b with
      | none => exact un.keep b o e q (fun z => absurd (show b ∈ ([] : List Addr) from z) List.not_mem_nil) (by simp)
      | some u =>
        obtain ⟨rfl, _, rfl⟩ := at_ q
        obtain ⟨e2, _⟩ := hok' _ _ (un.frzs _ _ _ q)
        rw [ho] at e
        cases e
        exact e2
  cases hk : K.lookup a with
  | none => exact key true (fun _ => hk) (.inl (.inr ⟨ob, by unfold scr; rw [if_pos ⟨rfl, rfl⟩]⟩))
  | some o =>
    have e := KX a o hk
    rw [ho] at e
    cases e
    exact key false (fun z => by cases z) (.inr ⟨_, us.toArray, _, hk, rfl, rfl, rfl, by rw [List.size_toArray, lu]; exact lz, by simpa using rv⟩)
/-- a law's def, called where no repr runs -/
structure AtTop (M : Md) (k : Nat) (x : Str) (f : Addr) (fd : FuncData) (φ : FSem) : Prop where
  run : ∀ (outer : List Env) (s : Shared) (H : Hp) (args : Args) (us : List Value) (vs : List V) (Q : VK) (E : XK), Room (k + 1) callerA → Env0 M.P M.w M.K M.mg M.base callerA outer s H → BindsTo s fd args ([x].zip us) → Vals vs us → spF M 1 φ vs H Q E → codeAny (model M.P M.w) callerA (.call (.ref f) args) (CR (CX M.P M.w) outer M.P M.w H s Q E) s
theorem fn_okG {M : Md} {k : Nat} (hx : M.xn = none) {nm qual y : Str} {params : Arguments} {body : List Stmt} {scope : Scope} {f : Addr} {fd : FuncData} {N : List Str} {b : SS} (F : FunD M.K nm qual params body scope [] [] f fd) (S : FnScope N [y] scope)
    (hb : ∀ X W, G M ⟨N, scope, fun _ => true⟩ W k X → X.A.guards = some [] → PSs X body (tS M W b)) : AtTop M k y f fd (fnS N.length b) := by
  obtain ⟨oc, od, dV, kV, doc, pm, an, cdv, ct, osl, rfl, lk, hcd, _, _⟩ := F.ex
  refine ⟨fun outer s H args us vs Q E hr e0 hbd r hsp => LamX.run_ofS (N := N) (ps := [y]) lk hcd S hr e0 hbd r hsp.1 fun hr' => ?_⟩
  exact ⟨_, hb _ (fun cls d _ H => E cls d H) ⟨⟨rfl, rfl, rfl, rfl, rfl, rfl, S.nd, rfl, rfl, hr'.un⟩, rfl, takes_of rfl rfl rfl rfl, hr', passes_of rfl, hx⟩ rfl, body_run hx hsp⟩
theorem walk_ofG {l : PySem.W.OpenLaw} {n k : Nat} {q : Program} {loose : List Str} {XP : (Str → Option Value) → Heap → Prop} {YP : World → Heap → Prop} {d : DefRec} {x : Str} {φ : FSem}
    (hn : l.most = some n) (hn2 : n ≤ sizeLine) (hdf : d.params.defaults = []) (hr : Room (k + 1) callerA)
    (F : ∀ (w : World) (mg : Str → Option Value) (fa : Addr) (h : Heap), YP w h → h.Ns mainGlobals mg → mg d.name = some (.ref fa) →
      ∃ (K : PySem.W.Frag) (fd : FuncData) (cls : List Str), K.In h ∧ (∀ (s : Shared) (u : Value), BindsTo s fd ⟨[u], []⟩ [(x, u)]) ∧ ∀ base : Heap, K.In base → base.Ns mainGlobals mg → AtTop ⟨l.prog, w, base, K, mg, cls, none, []⟩ k x fa fd φ)
    (hφ : ∀ ns : List Int, ns.length ≤ n → (∀ z ∈ ns, Builtin.Int.intBits z ≤ 1048576) → ∃ outs, φ [.val (.lst (ns.map .int))] = .ok (.val (.bl true)) outs) :
    PySem.W.WalkO q loose XP YP l.row.toRowW d [] (fun f vs => PySem.call f vs) := by
  refine Att.attach_callB hn hdf fun w s₀ s₁ mg mb fa o pm cd doc a vs ns G Y ho hd hcd hmg hobj hints hlen hbits hg => ?_
  obtain ⟨K, fd, cls, KX, hb, hF⟩ := F w mg fa _ Y G.T.g hmg
  refine law_callG (C := CX l.prog w) KX G.T.g G.T.b G.T.builtins G.T.nolimit hg hobj hints (Nat.le_trans hlen hn2) (fun base H h1 h2 e0 hO hS => ?_) fun H e s' z => ?_
  · obtain ⟨outs, e⟩ := hφ ns hlen hbits
    exact (hF base h1 h2).run [] s₁ H ⟨[.ref a], []⟩ [.ref a] [.ref a] _ _ hr e0 (hb s₁ (.ref a)) (.cons rfl .nil) (script_sp rfl rfl hO hS e)
  · obtain ⟨_, _, _, _, _, _, _, _, _, _, _, _, z⟩ := z
    exact z
end VF

/-! Vx18: own lists: read by a def, walked; extend, remove, index. -/
namespace VFx
open PySem PySem.Spec PyProof.Rows PySem.SeqAt
open PySem.AutoSeq1
open MeetsSeq
end VFx
namespace VF
open PySem PySem.Spec PyProof.Rows L2
open PySem.SeqAt (EqAt RcAt RcNeAt)
section
variable {ρ : En}
end
section
variable {T α : Type} {ρ : En} {o : Bool} {val : α → D} {fin : α → En → Prop} {env : T → En}
end
/-! ### methods of lists -/
section
variable {M : Md} {F : Addr → Prop} {H : Hp} {X : Cx} {pins : List (Addr × Obj)} {σ : St} {s : Shared}
end
end VF

/-! Vx19: keyword-only defaults that are left. -/
namespace VF
open PySem PySem.Spec PyProof.Rows L2
end VF

/-! Vx20: x += n on a name, in plain terms. -/
namespace VF
open PySem PySem.Spec PyProof.Rows L2
section
variable {κ : Type} {K : Kn κ} {ρ : En}
end
end VF

/-! Vx21: x == () of anything. -/
namespace VFx
open PySem PySem.Spec PySem.SeqAt
open PySem.AutoSeq1 (wpAny_loadPart')
end VFx
namespace VF
open PySem PySem.Spec PyProof.Rows L2
def isD : D → Bool
  | .dck _ _ => true
  | .dct _ _ => true
  | _ => false
section
variable {M : Md} {X : Cx}
end
end VF

/-! Vx22: repr of plain data and of an empty dict. -/
namespace VF
open PySem PySem.Spec PyProof.Rows L2
section
variable {M : Md} {X : Cx}
end
end VF

/-! Vx23: isinstance(e, (c1, .., cn)); a try that is no tail: its body fails, if at all, with nothing changed. -/
namespace VF
open PySem PySem.Spec PyProof.Rows L2
/-- whether errors of the class c are of one of the classes ds -/
structure IsFs (M : Md) (c : Str) (ds : List Str) (b : Bool) : Prop where
  hc : M.mg c = some (.ref (He.ga M.K c))
  hd : ∀ x ∈ ds, M.mg x = some (.ref (He.ga M.K x))
  hk : PySem.W.kitAny M.K (.ref (He.ga M.K c)) (ds.map fun x => .ref (He.ga M.K x)) = some b
theorem isFs_of {M : Md} {c : Str} {ds : List Str} {b : Bool} (h1 : M.mg c = some (.ref (He.ga M.K c))) (h2 : ∀ x ∈ ds, M.mg x = some (.ref (He.ga M.K x))) (h : isXBs c ds b M.K = true) : IsFs M c ds b := ⟨h1, h2, of_decide_eq_true h⟩
def tCs : List Addr → TA
  | [] => tNil
  | E :: Es => tCons (tC (.ref E)) (tCs Es)
theorem tCs_run {σ : St} {H : Hp} {Q : List V → Hp → Prop} : ∀ {Es : List Addr}, Q (Es.map V.ref) H → tCs Es σ H Q
  | [], q => q
  | E :: Es, q => tCs_run (Es := Es) (Q := fun xs H2 => Q (.ref E :: xs) H2) q
section
variable {M : Md} {cs : Cs} {W : WX} {k : Nat} {X : Cx} {a dx C : Addr} {oe : Obj} {pn : List (Addr × Obj)} {i : Nat} {x : Ex}
theorem vals_refs {us : List Value} : ∀ {Es : List Addr}, Vals (Es.map V.ref) us → us = Es.map Value.ref := by
  intro Es
  induction Es generalizing us with
  | nil => intro r; cases r; rfl
  | cons E Es ih =>
    intro r
    rw [List.map_cons] at r
    cases r with
    | cons r1 r2 =>
      cases r1
      rw [ih r2]
      rfl
/-- isinstance(e, (c1, .., cn)) -/
theorem call_isXs (gx : GX M cs k X a dx C oe pn i x) (T : ExcK M.K C) : CallR (X.suite a ((a, oe) :: pn)) (.builtin "isinstance") (fun xs H Q => ∃ tp, ∃ Es : List Addr, ∃ b vs, xs = [.ref a, .ref tp] ∧ H tp = some (.tup (Es.map V.ref)) ∧ H dx = some (.xd vs) ∧ PySem.W.kitAny M.K (.ref C) (Es.map Value.ref) = some b ∧ Q (.bl b) H) := by
  intro pins s σ H xs us Q I r h
  obtain ⟨tp, Es, b, vs, rfl, htp, hH, e, q⟩ := h
  obtain ⟨u1, u2, rfl, r1, r2⟩ := vals2 r
  cases r1
  cases r2
  have hK : X.K = M.K := gx.g.hK
  obtain ⟨hget, _⟩ := I.pin (a, oe) (List.mem_append.mpr (.inl List.mem_cons_self))
  obtain ⟨fv, hv⟩ := gx.hf
  obtain ⟨mA, hns, _⟩ := (show ObjOk X.prog X.w H s.heap dx (.xd vs) from I.hok dx _ hH)
  obtain ⟨od, ho, _⟩ := lookIn_ns hns
  have J : PySem.W.InstAt s.heap a oe C (some od) := ⟨hget, gx.hz.1, by unfold PySem.W.notCls; rw [hv] <;> rfl, by rw [gx.hz.2]; exact ho⟩
  have Kin : M.K.In s.heap := by rw [← hK]; exact I.kIn
  obtain ⟨_, its, rv, o, hg, hcl, n, hdat⟩ := I.hok _ _ htp
  have hits := vals_refs rv
  subst hits
  obtain ⟨ocl, od', odat, osl⟩ := o
  dsimp only at hcl hdat
  subst hcl hdat
  exact PySem.W.kia_tup (PySem.W.kitx_exc T.cl T.ga T.gg T.sub T.ca T.cn T.ct T.cm) Kin J hg e (fun z => nomatch z) fun tk => ⟨.bl b, H, I.kept (t' := tk) fun _ _ z => z, rfl, q⟩
/-- the name of a class, within a handler's suite -/
theorem gx_gl (gx : GX M cs k X a dx C oe pn i x) {d : Str} {E : Addr} {p : Pos} (hgd : cs.sc.names.lookup d = some .globalImplicit) (hdd : (d == ("__debug__" : Str)) = false) (hme : M.mg d = some (.ref E)) : PE (X.suite a ((a, oe) :: pn)) (.Name d p) (tC (.ref E)) :=
  pe_glob (X := X.suite a ((a, oe) :: pn)) (gx.g.gl hgd) (by rw [show (X.suite a ((a, oe) :: pn)).mg = M.mg from gx.g.hmg]; exact hme) rfl hdd
theorem e_isXs (gx : GX M cs k X a dx C oe pn i x) {n c : Str} {ds : List Str} {b : Bool} {x1 : Nat} {es : List Expr} {p p1 p5 pos : Pos} (hxc : x.cls = c) (q : XcF M c) (f : IsFs M c ds b) (hi : cs.N[i]? = some n) (hv : Vis cs.sc n) (hd : (n == ("__debug__" : Str)) = false) (hcd : (n == ("__classdict__" : Str)) = false) (hg : cs.sc.names.lookup ("isinstance" : Str) = some .globalImplicit) (hm : M.mg "isinstance" = none)
    (hz : ds.length ≤ 100) (ha : PA (X.suite a ((a, oe) :: pn)) es (tCs (ds.map fun z => He.ga M.K z))) :
    PE (X.suite a ((a, oe) :: pn)) (.Call (.Name "isinstance" p) [.Name n p1, .Tuple es x1 p5] [] pos) (tE (M.on ⟨i, a, dx, x.fs, x.ds⟩) W (cst (.bl b))) := by
  subst hxc
  obtain ⟨C2, h6, T⟩ := q.ex
  have e1 := gx.hC.symm.trans f.hc
  have e2 := gx.hC.symm.trans h6
  cases e2
  have eC : C = He.ga M.K x.cls := by cases e1; rfl
  refine PE_imp (pe_callB (call_isXs gx T) (gx.g.gl hg) (show X.mg "isinstance" = none by rw [show X.mg = M.mg from gx.g.hmg]; exact hm) boot_isinstance (pa_cons (pe_var (X := X.suite a ((a, oe) :: pn)) (i := i) (show X.N[i]? = some n by rw [show X.N = cs.N from gx.g.hN]; exact hi) (gx.g.vis hv) hd hcd) (pa_cons (pe_tup ha) pa_nil rfl) rfl) (by decide) rfl rfl rfl) fun σ H Q ⟨F, ρ, s, h⟩ => ?_
  obtain ⟨h7, h8, vs, h9, h10, h11⟩ := s.xn.1 _ rfl
  refine ⟨.ref a, gv_some h7, tCs_run ⟨by rw [List.length_map, List.length_map, sizeLine_eq]; omega, fun tp htp => ?_⟩⟩
  have nw : New F H F (upd H tp (.tup ((ds.map fun z => He.ga M.K z).map V.ref))) := New.laid s.dom htp
  exact ⟨tp, _, b, vs, rfl, upd_same, nw.keep _ _ h9, by rw [eC, List.map_map]; exact f.hk, h F _ (nw.po s) (.bl b) (rep_bl b)⟩
end
/-! ### a try with what follows -/
/-- what a try's body does: it goes on, or fails with nothing changed -/
def TB {T : Type} (ρ : En) (env : T → En) (s : SO) (c : R T) : Prop := match c with
  | .ok t => s = .nx (env t)
  | .exc x => s = .exc x ρ
  | .bad => True
def R.tryX {T : Type} (c : R T) (cl : Str) (h : Ex → R T) : R T := match c with
  | .ok t => .ok t
  | .exc x => if x.cls = cl then noE (h x) else .bad
  | .bad => .bad
theorem R.tryX_exc {T : Type} {x : Ex} {cl : Str} {h : Ex → R T} (e : x.cls = cl) : (R.exc x : R T).tryX cl h = noE (h x) := by
  show (if x.cls = cl then noE (h x) else .bad) = _
  rw [if_pos e]
section
variable {ρ : En} {T : Type} {env : T → En}
theorem tb_noE {s : SO} {c : R T} (h : (kBn env).p s c) : TB ρ env s (noE c) := by
  cases c with
  | bad => trivial
  | exc x => trivial
  | ok t => exact h
theorem tb_if {t : BS} {a b : SS} {ct : R Bool} {ca cb : R T} (ht : EvT t ρ ct) (ha : TB ρ env (a ρ) ca) (hb : TB ρ env (b ρ) cb) : TB ρ env (ifS t a b ρ) (ct.bind fun k => if k = true then ca else cb) := by
  cases ct with
  | bad => trivial
  | exc x => show ifS t a b ρ = .exc x ρ; unfold ifS; rw [show t ρ = .exc x ρ from ht]; rfl
  | ok k =>
    have e : ifS t a b ρ = if k = true then a ρ else b ρ := by unfold ifS; rw [show t ρ = .ok k ρ from ht]; rfl
    rw [e, R.bind_ok]
    cases k with
    | true => exact ha
    | false => exact hb
theorem k_tryN {b : SS} {i : Nat} {cl : Str} {su : Ex → SS} {c : R T} {h : Ex → R T} (hi : okI ρ i = true) (hb : TB ρ env (b ρ) c) (hs : ∀ x, (kBn env).p (su x (ρ.set i none)) (h x)) (hn : ∀ t, (env t).set i none = env t) :
    (kBn env).p (tryAs b (tblC cl) i (suC cl su) ρ) (c.tryX cl h) := by
  have hi : noRef (gt ρ i) = true ∧ i < ρ.length := by simpa [okI] using hi
  cases c with
  | bad => trivial
  | ok t =>
    have e : b ρ = .nx (env t) := hb
    show tryAs b (tblC cl) i (suC cl su) ρ = .nx (env t)
    unfold tryAs
    rw [e]
  | exc x =>
    have e1 : b ρ = .exc x ρ := hb
    by_cases hx : x.cls = cl
    · rw [R.tryX_exc hx]
      have e2 : tryAs b (tblC cl) i (suC cl su) ρ = endK i (su x (ρ.set i none)) := by
        unfold tryAs tblC suC
        rw [e1]
        simp only [if_pos hx, if_pos hi]
      have hq := hs x
      cases hc : h x with
      | bad => trivial
      | ok t =>
        rw [hc] at hq
        have hq : su x (ρ.set i none) = .nx (env t) := hq
        show tryAs b (tblC cl) i (suC cl su) ρ = .nx (env t)
        rw [e2, hq]
        show SO.nx ((env t).set i none) = _
        rw [hn]
      | exc y => trivial
    · show (kBn env).p _ (if x.cls = cl then noE (h x) else .bad)
      rw [if_neg hx]
      trivial
end
end VF

/-! Vx24: a tuple so many times. -/
namespace VF
open PySem PySem.Spec PyProof.Rows L2
def fMulT : List D → Option Rv
  | [.tup ds, .int k] => if ds ≠ [] ∧ 2 ≤ k ∧ k ≤ 1000 ∧ ds.length ≤ 1000 then some (.val (.tup (List.replicate k.toNat ds).flatten)) else none
  | _ => none
section
variable {M : Md} {X : Cx}
theorem repL_rep {F : Addr → Prop} {H : Hp} {ds : List D} {vs : List V} (l : RepL M F H ds vs) : ∀ n : Nat, RepL M F H (List.replicate n ds).flatten (List.replicate n vs).flatten
  | 0 => by unfold RepL; rfl
  | n + 1 => by
    rw [List.replicate_succ, List.replicate_succ, List.flatten_cons, List.flatten_cons]
    exact RepL.append l (repL_rep l n)
theorem o_mulT (hK : X.K = M.K) : OpR X (binaryOp .Mult) (r2D M fMulT) := by
  refine OpR_imp op_repT fun x y H Q h => ?_
  obtain ⟨F, ds, rv, hd, od, ef, q⟩ := h
  unfold fMulT at ef
  split at ef
  · obtain ⟨v, w, e, r1, r2⟩ := od.two
    cases e
    cases r2.int
    obtain ⟨a, vs, rfl, ⟨p1, t1⟩, l1⟩ := r1.tup2
    split at ef
    · rename_i hz
      cases ef
      refine ⟨a, _, vs, rfl, rfl, by rw [hK]; exact p1, fun z => ?_, hz.2.1, hz.2.2.1, by rw [← l1.length]; exact hz.2.2.2, fun p hp => q F _ _ (New.laid hd hp) (rv_tup hd hp (repL_rep l1 _))⟩
      subst z
      have := l1.length
      exact hz.1 (List.length_eq_zero_iff.mp (by simpa using this))
    · cases ef
  · cases ef
end
end VF

namespace VP
open PySem PySem.Spec PyProof.Rows L2 VF
/-! ### l_well_2 -/
/-! ### l_cell_at_2 -/
/-! ### l_draw_2 -/
/-! ### l_one_2 -/
/-! ### l_names_2 -/
/-! ### l_shuffled_2 -/
/-! ### l_ballot_4 -/
/-! ### l_parts_2 -/
/-! ### l_lots -/
/-! ### l_is_top -/
/-! ### l_top -/
/-! ### l_height -/
/-! ### l_table -/
/-! ### are_unlike -/
def xb_are_unlike : SS := retE (app fAll [.ex (comp ⟨[.ex (nm 0)], sEnumG⟩ (.tup [.nm 1, .nm 2]) [1, 2] (yes) (app gNotIn [.sl 2, .ex (slc (.sl 0) none (some (.ex (nm 1))))]))])
def xf_are_unlike : FSem := fnS 3 xb_are_unlike
def c_are_unlike (p_some : D) : R D :=
  ((ofO (sEnumG [p_some])).bind fun i3 => (mapR (un2 some some) (fun x1 : D × D => (slR (.ok p_some) none (some (.ok x1.1))).bind fun a2 => pr (gNotIn [x1.2, a2])) i3).bind fun ds4 => .ok (D.lst ds4)).bind fun a5 => pr (fAll [a5])
theorem xq_are_unlike (p_some : D) : FnP false xf_are_unlike [p_some] (c_are_unlike p_some) :=
  by
  refine fn_tl ?_
  show (kTl false (fun d : D => d) yF).p (xb_are_unlike [some (.val p_some), none, none]) (c_are_unlike p_some)
  unfold xb_are_unlike c_are_unlike
  exact k_retP (ev_app1 (eo_ex (ev_map (u := un2 some some) (enc := fun x1 : D × D => [some (.val p_some), some (.val x1.1), some (.val x1.2)]) (es_ex (φs := [nm 0]) (eps_cons (ev_nm (d := p_some) rfl) (eps_nil))) rfl rfl (tg_tup2 (tg_nm rfl) (fun _ => tg_nm rfl)) (fun x1 => ev_app2 (eo_sl (s := .val x1.2) rfl) (eo_ex (ev_slc (eo_sl (s := .val p_some) rfl) (show EvI none _ none from trivial) (show EvI (some _) _ (some _) from (eo_ex (ev_nm (d := x1.1) rfl))))))))) (fun h => h)
/-! ### is_name -/
/-! ### are_options -/
/-! ### are_some_of -/
def xb_are_some_of : SS := retE (andE (app fAll [.ex (comp ⟨[.ex (nm 0)], sSeq⟩ (.nm 2) [2] (yes) (andE (app (fIsi "str") [.sl 2]) (app gIn [.sl 2, .sl 1])))]) (callF xf_are_unlike [.ex (nm 0)] []))
def xf_are_some_of : FSem := fnS 3 xb_are_some_of
def c_are_some_of (p_some : D) (p_options : D) : R D :=
  (((ofO (sSeq [p_some])).bind fun i4 => (mapR some (fun x1 : D => (pr ((fIsi "str") [x1])).bind fun d2 => (trR d2).bind fun b3 => if b3 = true then (pr (gIn [x1, p_options])) else .ok d2) i4).bind fun ds5 => .ok (D.lst ds5)).bind fun a6 => pr (fAll [a6])).bind fun d7 => (trR d7).bind fun b8 => if b8 = true then (c_are_unlike p_some) else .ok d7
theorem xq_are_some_of (p_some : D) (p_options : D) : FnP false xf_are_some_of [p_some, p_options] (c_are_some_of p_some p_options) :=
  by
  refine fn_tl ?_
  show (kTl false (fun d : D => d) yF).p (xb_are_some_of [some (.val p_some), some (.val p_options), none]) (c_are_some_of p_some p_options)
  unfold xb_are_some_of c_are_some_of
  exact k_retP (ev_and (ev_app1 (eo_ex (ev_map (u := some) (enc := fun x1 : D => [some (.val p_some), some (.val p_options), some (.val x1)]) (es_ex (φs := [nm 0]) (eps_cons (ev_nm (d := p_some) rfl) (eps_nil))) rfl rfl (tg_nm rfl) (fun x1 => ev_and (ev_app1 (eo_sl (s := .val x1) rfl)) (ev_app2 (eo_sl (s := .val x1) rfl) (eo_sl (s := .val p_options) rfl)))))) (ev_call1 (f := c_are_unlike) (ea_ex (ev_nm (d := p_some) rfl)) xq_are_unlike)) (fun h => h)
/-! ### are_tiers -/
def xb_are_tiers : SS := seq (ifS (bor (bnot (tru (.ex (app (fIsi "tuple") [.sl 0])))) (bnot (tru (.ex (app fAll [.ex (comp ⟨[.ex (nm 0)], sSeq⟩ (.nm 2) [2] (yes) (andE (app (fIsi "tuple") [.sl 2]) (app fNe [.sl 2, .ex (disp mkT [])])))]))))) (retE (cst (.bl false))) skip)
  (retE (callF xf_are_some_of [.ex (compG ⟨[.ex (nm 0)], sSeq⟩ (.nm 2) [2, 3] (yes) (inB ⟨[.ex (nm 2)], sSeq⟩ (.nm 3) [3] (yes) (lsB (nm 3))) (.lst [])), .ex (nm 1)] []))
def xf_are_tiers : FSem := fnS 4 xb_are_tiers
def c_are_tiers (p_thing : D) (p_options : D) : R D :=
  ((((pr ((fIsi "tuple") [p_thing])).bind fun a1 => trR a1).bind fun b2 => .ok (!b2)).bind fun b11 => if b11 = true then .ok true else (((((ofO (sSeq [p_thing])).bind fun i6 => (mapR some (fun x3 : D => (pr ((fIsi "tuple") [x3])).bind fun d4 => (trR d4).bind fun b5 => if b5 = true then (pr (fNe [x3, D.tup []])) else .ok d4) i6).bind fun ds7 => .ok (D.lst ds7)).bind fun a8 => pr (fAll [a8])).bind fun a9 => trR a9).bind fun b10 => .ok (!b10))).bind fun b12 => if b12 = true then (.ok (D.bl false)) else ((ofO (sSeq [p_thing])).bind fun i15 => (foldM some (fun (x13 : D) (acc19 : D) => (ofO (sSeq [x13])).bind fun i16 => foldM some (fun (x14 : D) (acc18 : D) => lsR (.ok x14) acc18) i16 acc19) i15 (D.lst [])).bind fun d17 => cnR d17 d17).bind fun a20 => c_are_some_of a20 p_options
theorem xq_are_tiers (p_thing : D) (p_options : D) : FnP false xf_are_tiers [p_thing, p_options] (c_are_tiers p_thing p_options) :=
  by
  refine fn_tl ?_
  show (kTl false (fun d : D => d) yF).p (xb_are_tiers [some (.val p_thing), some (.val p_options), none, none]) (c_are_tiers p_thing p_options)
  unfold xb_are_tiers c_are_tiers
  refine k_ifrT (et_or (et_not (et_tru (eo_ex (ev_app1 (eo_sl (s := .val p_thing) rfl))))) (et_not (et_tru (eo_ex (ev_app1 (eo_ex (ev_map (u := some) (enc := fun x3 : D => [some (.val p_thing), some (.val p_options), some (.val x3), none]) (es_ex (φs := [nm 0]) (eps_cons (ev_nm (d := p_thing) rfl) (eps_nil))) rfl rfl (tg_nm rfl) (fun x3 => ev_and (ev_app1 (eo_sl (s := .val x3) rfl)) (ev_app2 (eo_sl (s := .val x3) rfl) (eo_ex (ev_tup (eps_nil)))))))))))) ?_ ?_
  · exact k_retP (ev_cst) (fun h => h)
  · exact k_retP (ev_call2 (f := c_are_some_of) (ea_ex (ev_compGM (u := some) (enc := fun x13 : D => [some (.val p_thing), some (.val p_options), some (.val x13), none]) (esv_ex (φs := [nm 0]) (eps_cons (ev_nm (d := p_thing) rfl) (eps_nil))) rfl (tg_nm rfl) (fun x13 => eb_inM (u := some) (enc := fun x14 : D => [some (.val p_thing), some (.val p_options), some (.val x13), some (.val x14)]) (esv_ex (φs := [nm 2]) (eps_cons (ev_nm (d := x13) rfl) (eps_nil))) rfl rfl (tg_nm rfl) (fun x14 => eb_ls (ev_nm (d := x14) rfl))))) (ea_ex (ev_nm (d := p_options) rfl)) xq_are_some_of) (fun h => h)
/-! ### is_whole -/
def xb_is_whole : SS := retE (andE (app (fIsi "int") [.sl 0]) (notE (.ex (app (fIsi "bool") [.sl 0]))))
def xf_is_whole : FSem := fnS 1 xb_is_whole
def c_is_whole (p_thing : D) : R D :=
  (pr ((fIsi "int") [p_thing])).bind fun d3 => (trR d3).bind fun b4 => if b4 = true then ((pr ((fIsi "bool") [p_thing])).bind fun a2 => (trR a2).bind fun b1 => .ok (D.bl (!b1))) else .ok d3
theorem xq_is_whole (p_thing : D) : FnP false xf_is_whole [p_thing] (c_is_whole p_thing) :=
  by
  refine fn_tl ?_
  show (kTl false (fun d : D => d) yF).p (xb_is_whole [some (.val p_thing)]) (c_is_whole p_thing)
  unfold xb_is_whole c_is_whole
  exact k_retP (ev_and (ev_app1 (eo_sl (s := .val p_thing) rfl)) (ev_not (eo_ex (ev_app1 (eo_sl (s := .val p_thing) rfl))))) (fun h => h)
/-! ### are_marks -/
def xb_are_marks : SS := seq (ifS (bor (bnot (tru (.ex (app (fIsi "tuple") [.sl 0])))) (bnot (tru (.ex (app fAll [.ex (comp ⟨[.ex (nm 0)], sSeq⟩ (.nm 4) [4] (yes) (andE (app (fIsi "tuple") [.sl 4]) (app fEq [.ex (app gLen [.sl 4]), .ex (cst (.int 2))])))]))))) (retE (cst (.bl false))) skip)
  (seq (ifS (bnot (tru (.ex (app fAll [.ex (comp ⟨[.ex (nm 0)], sSeq⟩ (.tup [.nm 2, .nm 3]) [2, 3] (yes) (andE (callF xf_is_whole [.ex (nm 3)] []) (chn fLe fLe (.ex (cst (.int 0))) (.sl 3) (.ex (cst (.int 9))))))])))) (retE (cst (.bl false))) skip)
  (retE (callF xf_are_some_of [.ex (comp ⟨[.ex (nm 0)], sSeq⟩ (.tup [.nm 2, .nm 3]) [2, 3] (yes) (nm 2)), .ex (nm 1)] [])))
def xf_are_marks : FSem := fnS 5 xb_are_marks
def c_are_marks (p_thing : D) (p_options : D) : R D :=
  ((((pr ((fIsi "tuple") [p_thing])).bind fun a1 => trR a1).bind fun b2 => .ok (!b2)).bind fun b12 => if b12 = true then .ok true else (((((ofO (sSeq [p_thing])).bind fun i7 => (mapR some (fun x3 : D => (pr ((fIsi "tuple") [x3])).bind fun d5 => (trR d5).bind fun b6 => if b6 = true then ((pr (gLen [x3])).bind fun a4 => pr (fEq [a4, D.int 2])) else .ok d5) i7).bind fun ds8 => .ok (D.lst ds8)).bind fun a9 => pr (fAll [a9])).bind fun a10 => trR a10).bind fun b11 => .ok (!b11))).bind fun b13 => if b13 = true then (.ok (D.bl false)) else (((((ofO (sSeq [p_thing])).bind fun i17 => (mapR (un2 some some) (fun x14 : D × D => (c_is_whole x14.2).bind fun d15 => (trR d15).bind fun b16 => if b16 = true then (chR fLe fLe (.ok (D.int 0)) (.ok x14.2) (.ok (D.int 9))) else .ok d15) i17).bind fun ds18 => .ok (D.lst ds18)).bind fun a19 => pr (fAll [a19])).bind fun a20 => trR a20).bind fun b21 => .ok (!b21)).bind fun b22 => if b22 = true then (.ok (D.bl false)) else ((ofO (sSeq [p_thing])).bind fun i24 => (mapR (un2 some some) (fun x23 : D × D => .ok x23.1) i24).bind fun ds25 => .ok (D.lst ds25)).bind fun a26 => c_are_some_of a26 p_options
theorem xq_are_marks (p_thing : D) (p_options : D) : FnP false xf_are_marks [p_thing, p_options] (c_are_marks p_thing p_options) :=
  by
  refine fn_tl ?_
  show (kTl false (fun d : D => d) yF).p (xb_are_marks [some (.val p_thing), some (.val p_options), none, none, none]) (c_are_marks p_thing p_options)
  unfold xb_are_marks c_are_marks
  refine k_ifrT (et_or (et_not (et_tru (eo_ex (ev_app1 (eo_sl (s := .val p_thing) rfl))))) (et_not (et_tru (eo_ex (ev_app1 (eo_ex (ev_map (u := some) (enc := fun x3 : D => [some (.val p_thing), some (.val p_options), none, none, some (.val x3)]) (es_ex (φs := [nm 0]) (eps_cons (ev_nm (d := p_thing) rfl) (eps_nil))) rfl rfl (tg_nm rfl) (fun x3 => ev_and (ev_app1 (eo_sl (s := .val x3) rfl)) (ev_app2 (eo_ex (ev_app1 (eo_sl (s := .val x3) rfl))) (eo_ex (ev_cst))))))))))) ?_ ?_
  · exact k_retP (ev_cst) (fun h => h)
  · refine k_ifrT (et_not (et_tru (eo_ex (ev_app1 (eo_ex (ev_map (u := un2 some some) (enc := fun x14 : D × D => [some (.val p_thing), some (.val p_options), some (.val x14.1), some (.val x14.2), none]) (es_ex (φs := [nm 0]) (eps_cons (ev_nm (d := p_thing) rfl) (eps_nil))) rfl rfl (tg_tup2 (tg_nm rfl) (fun _ => tg_nm rfl)) (fun x14 => ev_and (ev_call1 (f := c_is_whole) (ea_ex (ev_nm (d := x14.2) rfl)) xq_is_whole) (ev_chn (eo_ex (ev_cst)) (eo_sl (s := .val x14.2) rfl) (eo_ex (ev_cst)))))))))) ?_ ?_
    · exact k_retP (ev_cst) (fun h => h)
    · exact k_retP (ev_call2 (f := c_are_some_of) (ea_ex (ev_map (u := un2 some some) (enc := fun x23 : D × D => [some (.val p_thing), some (.val p_options), some (.val x23.1), some (.val x23.2), none]) (es_ex (φs := [nm 0]) (eps_cons (ev_nm (d := p_thing) rfl) (eps_nil))) rfl rfl (tg_tup2 (tg_nm rfl) (fun _ => tg_nm rfl)) (fun x23 => ev_nm (d := x23.1) rfl))) (ea_ex (ev_nm (d := p_options) rfl)) xq_are_some_of) (fun h => h)
/-! ### is_ballot -/
def xb_is_ballot : SS := seq (ifS (bor (bnot (tru (.ex (app (fIsi "tuple") [.sl 1])))) (bor (tst (app fNe [.ex (app gLen [.sl 1]), .ex (cst (.int 2))])) (bnot (tru (.ex (app (fIsi "str") [.ex (app gItem [.sl 1, .ex (cst (.int 0))])])))))) (retE (cst (.bl false))) skip)
  (seq (putS (.tup [.nm 2, .nm 3]) (nm 1))
  (seq (ifS (tst (app fEq [.sl 2, .ex (cst (.str "order"))])) (retE (callF xf_are_tiers [.ex (nm 3), .ex (nm 0)] [])) skip)
  (seq (ifS (tst (app fEq [.sl 2, .ex (cst (.str "lets"))])) (retE (andE (app (fIsi "tuple") [.sl 3]) (callF xf_are_some_of [.ex (nm 3), .ex (nm 0)] []))) skip)
  (retE (andE (app fEq [.sl 2, .ex (cst (.str "marks"))]) (callF xf_are_marks [.ex (nm 3), .ex (nm 0)] []))))))
def xf_is_ballot : FSem := fnS 4 xb_is_ballot
def c_is_ballot (p_options : D) (p_ballot : D) : R D :=
  ((((pr ((fIsi "tuple") [p_ballot])).bind fun a1 => trR a1).bind fun b2 => .ok (!b2)).bind fun b8 => if b8 = true then .ok true else ((((pr (gLen [p_ballot])).bind fun a3 => pr (fNe [a3, D.int 2])).bind asB).bind fun b7 => if b7 = true then .ok true else ((((pr (gItem [p_ballot, D.int 0])).bind fun a4 => pr ((fIsi "str") [a4])).bind fun a5 => trR a5).bind fun b6 => .ok (!b6)))).bind fun b9 => if b9 = true then (.ok (D.bl false)) else (R.ok p_ballot).bind fun d11 => (ofO (un2 some some d11)).bind fun t10 => ((pr (fEq [t10.1, D.str "order"])).bind asB).bind fun b12 => if b12 = true then (c_are_tiers t10.2 p_options) else ((pr (fEq [t10.1, D.str "lets"])).bind asB).bind fun b13 => if b13 = true then ((pr ((fIsi "tuple") [t10.2])).bind fun d14 => (trR d14).bind fun b15 => if b15 = true then (c_are_some_of t10.2 p_options) else .ok d14) else (pr (fEq [t10.1, D.str "marks"])).bind fun d16 => (trR d16).bind fun b17 => if b17 = true then (c_are_marks t10.2 p_options) else .ok d16
theorem xq_is_ballot (p_options : D) (p_ballot : D) : FnP false xf_is_ballot [p_options, p_ballot] (c_is_ballot p_options p_ballot) :=
  by
  refine fn_tl ?_
  show (kTl false (fun d : D => d) yF).p (xb_is_ballot [some (.val p_options), some (.val p_ballot), none, none]) (c_is_ballot p_options p_ballot)
  unfold xb_is_ballot c_is_ballot
  refine k_ifrT (et_or (et_not (et_tru (eo_ex (ev_app1 (eo_sl (s := .val p_ballot) rfl))))) (et_or (et_tst (ev_app2 (eo_ex (ev_app1 (eo_sl (s := .val p_ballot) rfl))) (eo_ex (ev_cst)))) (et_not (et_tru (eo_ex (ev_app1 (eo_ex (ev_app2 (eo_sl (s := .val p_ballot) rfl) (eo_ex (ev_cst)))))))))) ?_ ?_
  · exact k_retP (ev_cst) (fun h => h)
  · refine k_put (u := un2 some some) (enc := fun t10 : D × D => [some (.val p_options), some (.val p_ballot), some (.val t10.1), some (.val t10.2)]) (tg_tup2 (tg_nm rfl) (fun _ => tg_nm rfl)) (ev_nm (d := p_ballot) rfl) (fun t10 => ?_)
    refine k_ifrT (et_tst (ev_app2 (eo_sl (s := .val t10.1) rfl) (eo_ex (ev_cst)))) ?_ ?_
    · exact k_retP (ev_call2 (f := c_are_tiers) (ea_ex (ev_nm (d := t10.2) rfl)) (ea_ex (ev_nm (d := p_options) rfl)) xq_are_tiers) (fun h => h)
    · refine k_ifrT (et_tst (ev_app2 (eo_sl (s := .val t10.1) rfl) (eo_ex (ev_cst)))) ?_ ?_
      · exact k_retP (ev_and (ev_app1 (eo_sl (s := .val t10.2) rfl)) (ev_call2 (f := c_are_some_of) (ea_ex (ev_nm (d := t10.2) rfl)) (ea_ex (ev_nm (d := p_options) rfl)) xq_are_some_of)) (fun h => h)
      · exact k_retP (ev_and (ev_app2 (eo_sl (s := .val t10.1) rfl) (eo_ex (ev_cst))) (ev_call2 (f := c_are_marks) (ea_ex (ev_nm (d := t10.2) rfl)) (ea_ex (ev_nm (d := p_options) rfl)) xq_are_marks)) (fun h => h)
/-! ### is_row -/
/-! ### Poll_init -/
/-! ### heights_of -/
/-! ### side_of -/
/-! ### margins -/
/-! ### sign_of -/
/-! ### standings_of -/
/-! ### ways_from -/
/-! ### top_lot -/
/-! ### law_k32 -/
/-! ### l_ways -/
/-! ### l_force -/
/-! ### l_strongest -/
/-! ### l_winners -/
/-! ### is_weighed -/
/-! ### check_weights -/
/-! ### check_rule -/
/-! ### tiers -/
/-! ### common_part -/
/-! ### Share_init -/
/-! ### weighed -/
/-! ### Share_below -/
/-! ### weighed_lot -/
/-! ### alone_at -/
/-! ### firsts -/
/-! ### lasts -/
/-! ### fewest_lasts -/
/-! ### points -/
/-! ### lets -/
/-! ### wins -/
/-! ### losses -/
/-! ### numbers_of -/
/-! ### led_to -/
/-! ### strongest_way -/
/-! ### ways_lot -/
/-! ### all_orders -/
/-! ### pairs_in -/
/-! ### cost_at -/
/-! ### all_costs -/
/-! ### best_orders -/
/-! ### best_heads -/
/-! ### is_less_against -/
/-! ### is_cover -/
/-! ### covers_of -/
/-! ### uncovered_lot -/
/-! ### left_behind -/
/-! ### round_ends -/
/-! ### other_lot -/
/-! ### lot -/
/-! ### law_k42 -/
/-! ### ask_options -/
/-! ### other_options -/
/-! ### top_paper -/
/-! ### reason_for -/
/-! ### uncovered_paper -/
/-! ### is_paper -/
/-! ### margin -/
/-! ### beats -/
/-! ### is_top_2 -/
/-! ### is_not_lost -/
/-! ### shows_top_2 -/
/-! ### l_top_right -/
/-! ### l_top_paper -/
/-! ### shows_uncovered -/
/-! ### covers -/
/-! ### l_open_right -/
/-! ### l_open_paper -/
/-! ### law_k37 -/
/-! ### leader -/
/-! ### trailer -/
/-! ### l_told_4 -/
/-! ### ballot_without -/
/-! ### Poll_only -/
/-! ### l_kin_right -/
/-! ### l_one_more_right -/
/-! ### law_k38 -/
/-! ### l_orders -/
/-! ### l_cost -/
/-! ### is_order -/
/-! ### check_order -/
/-! ### cost -/
/-! ### best_cost -/
/-! ### l_refused_6 -/
/-! ### l_odd_3 -/
/-! ### law_k47 -/
/-! ### l_names -/
/-! ### l_parts -/
/-! ### l_first -/
/-! ### l_strange -/
/-! ### l_refused_right -/
/-! ### law_k31 -/
/-! ### l_number_of -/
/-! ### l_covers -/
/-! ### l_open -/
/-! ### law_k35 -/
/-! ### strength -/
/-! ### law_k39 -/
end VP

namespace VP
open PySem PySem.Spec PyProof.Rows L2 VF
/-! ### l_are_unlike -/
/-! ### l_is_way -/
/-! ### l_shows -/
/-! ### law_k33 -/
/-! ### l_drawn -/
/-! ### l_bent_3 -/
/-! ### law_k34 -/
/-! ### strength_paper -/
/-! ### l_shows_2 -/
/-! ### is_way -/
/-! ### holds_all -/
/-! ### shows_strength -/
/-! ### l_pair_right -/
/-! ### law_k40 -/
/-! ### l_table_2 -/
/-! ### l_drawn_3 -/
/-! ### l_bent_way -/
/-! ### l_bent_lot -/
/-! ### l_bent_5 -/
/-! ### l_number_3 -/
/-! ### l_shows_3 -/
/-! ### law_k41 -/
/-! ### l_threes_right -/
/-! ### strength_paper_2 -/
/-! ### holds_all_2 -/
/-! ### shows_strength_2 -/
/-! ### l_drawn_right -/
/-! ### law_k45 -/
end VP

namespace VP
open PySem PySem.Spec PyProof.Rows L2 VF
/-! ### l_cell_at -/
def xb_l_cell_at : SS := seq (ifS (tst (app fLt [.sl 1, .ex (app gLen [.sl 0])])) (retE (app gItem [.sl 0, .sl 1])) skip)
  (retE (cst (.int 0)))
def xf_l_cell_at : FSem := fnS 2 xb_l_cell_at
def c_l_cell_at (p_script : D) (p_k : D) : R D :=
  (((pr (gLen [p_script])).bind fun a1 => pr (fLt [p_k, a1])).bind asB).bind fun b2 => if b2 = true then (pr (gItem [p_script, p_k])) else .ok (D.int 0)
theorem xq_l_cell_at (p_script : D) (p_k : D) : FnP false xf_l_cell_at [p_script, p_k] (c_l_cell_at p_script p_k) :=
  by
  refine fn_tl ?_
  show (kTl false (fun d : D => d) yF).p (xb_l_cell_at [some (.val p_script), some (.val p_k)]) (c_l_cell_at p_script p_k)
  unfold xb_l_cell_at c_l_cell_at
  refine k_ifrT (et_tst (ev_app2 (eo_sl (s := .val p_k) rfl) (eo_ex (ev_app1 (eo_sl (s := .val p_script) rfl))))) ?_ ?_
  · exact k_retP (ev_app2 (eo_sl (s := .val p_script) rfl) (eo_sl (s := .val p_k) rfl)) (fun h => h)
  · exact k_retP (ev_cst) (fun h => h)
/-! ### l_well -/
def xb_l_well : SS := retE (disp mkL [app gItem [.ex (disp mkL [cst (.int 0), nm 0]), .ex (app fInt [.ex (app fGe [.sl 0, .ex (app fPow [.ex (cst (.int 10)), .ex (cst (.int 18))])])])], app fMod [.sl 0, .ex (cst (.int 2147483629))], cst (.int 0)])
def xf_l_well : FSem := fnS 1 xb_l_well
def c_l_well (p_cell : D) : R D :=
  lstR [(((pr (fPow [D.int 10, D.int 18])).bind fun a1 => pr (fGe [p_cell, a1])).bind fun a2 => pr (fInt [a2])).bind fun a3 => pr (gItem [D.lst [D.int 0, p_cell], a3]), pr (fMod [p_cell, D.int 2147483629]), .ok (D.int 0)]
theorem xq_l_well (p_cell : D) : FnP true xf_l_well [p_cell] (c_l_well p_cell) :=
  by
  refine fn_tl ?_
  show (kTl true (fun d : D => d) yF).p (xb_l_well [some (.val p_cell)]) (c_l_well p_cell)
  unfold xb_l_well c_l_well
  exact k_retP (ev_lst (eps_cons (ev_app2 (eo_ex (ev_lst (eps_cons (ev_cst) (eps_cons (ev_nm (d := p_cell) rfl) (eps_nil))))) (eo_ex (ev_app1 (eo_ex (ev_app2 (eo_sl (s := .val p_cell) rfl) (eo_ex (ev_app2 (eo_ex (ev_cst)) (eo_ex (ev_cst))))))))) (eps_cons (ev_app2 (eo_sl (s := .val p_cell) rfl) (eo_ex (ev_cst))) (eps_cons (ev_cst) (eps_nil))))) (fun h => h)
/-! ### l_draw -/
def xb_l_draw : SS := seq (ifS (tst (app fGt [.ex (app gItem [.sl 0, .ex (cst (.int 0))]), .ex (cst (.int 0))])) (seq (setI 3 (app fMod [.ex (app gItem [.sl 0, .ex (cst (.int 0))]), .sl 1]))
  (frz 3 (seq (storeG 0 (.ex (cst (.int 0))) (app fFdiv [.ex (app gItem [.sl 0, .ex (cst (.int 0))]), .sl 1]))
  (retI 3)))) skip)
  (seq (storeG 0 (.ex (cst (.int 2))) (app fAdd [.ex (app gItem [.sl 0, .ex (cst (.int 2))]), .ex (cst (.int 1))]))
  (seq (setI 2 (app fMod [.ex (app fPow [.ex (app fAdd [.ex (app fAdd [.ex (app gItem [.sl 0, .ex (cst (.int 1))]), .ex (app fMul [.ex (cst (.int 7919)), .ex (app gItem [.sl 0, .ex (cst (.int 2))])])]), .ex (cst (.int 1))]), .ex (cst (.int 5))]), .ex (cst (.int 2147483647))]))
  (frz 2 (seq (setI 2 (app fMod [.ex (app fMul [.sl 2, .ex (app fAdd [.ex (app fAdd [.ex (app fFdiv [.sl 2, .ex (cst (.int 1009))]), .ex (cst (.int 69621))]), .ex (app gItem [.sl 0, .ex (cst (.int 2))])])]), .ex (cst (.int 2147483629))]))
  (frz 2 (retE (app fMod [.ex (app fMod [.ex (app fMul [.sl 2, .ex (app fAdd [.ex (app fFdiv [.sl 2, .ex (cst (.int 2003))]), .ex (cst (.int 40692))])]), .ex (cst (.int 2147483399))]), .sl 1])))))))
def xf_l_draw : FSem := fnS 4 xb_l_draw
def c_l_draw (p_well_here : D) (p_size : D) : R (D × D) :=
  (((pr (gItem [p_well_here, D.int 0])).bind fun a1 => pr (fGt [a1, D.int 0])).bind asB).bind fun b2 => if b2 = true then (((pr (gItem [p_well_here, D.int 0])).bind fun a3 => pr (fMod [a3, p_size])).bind fun v_digit_4 => ((pr (gItem [p_well_here, D.int 0])).bind fun a5 => pr (fFdiv [a5, p_size])).bind fun d7 => (R.ok (D.int 0)).bind fun j8 => (ofO (stG d7 j8 p_well_here)).bind fun q6 => .ok (v_digit_4, q6.2)) else ((pr (gItem [p_well_here, D.int 2])).bind fun a9 => pr (fAdd [a9, D.int 1])).bind fun d11 => (R.ok (D.int 2)).bind fun j12 => (ofO (stG d11 j12 p_well_here)).bind fun q10 => (((((pr (gItem [q10.2, D.int 1])).bind fun a14 => ((pr (gItem [q10.2, D.int 2])).bind fun a13 => pr (fMul [D.int 7919, a13])).bind fun a15 => pr (fAdd [a14, a15])).bind fun a16 => pr (fAdd [a16, D.int 1])).bind fun a17 => pr (fPow [a17, D.int 5])).bind fun a18 => pr (fMod [a18, D.int 2147483647])).bind fun v_mix_19 => (((((pr (fFdiv [v_mix_19, D.int 1009])).bind fun a20 => pr (fAdd [a20, D.int 69621])).bind fun a21 => (pr (gItem [q10.2, D.int 2])).bind fun a22 => pr (fAdd [a21, a22])).bind fun a23 => pr (fMul [v_mix_19, a23])).bind fun a24 => pr (fMod [a24, D.int 2147483629])).bind fun v_mix_25 => (((((pr (fFdiv [v_mix_25, D.int 2003])).bind fun a26 => pr (fAdd [a26, D.int 40692])).bind fun a27 => pr (fMul [v_mix_25, a27])).bind fun a28 => pr (fMod [a28, D.int 2147483399])).bind fun a29 => pr (fMod [a29, p_size])).bind fun d30 => .ok (d30, q10.2)
theorem xq_l_draw (p_well_here : D) (p_size : D) : FnS false xf_l_draw [.ref p_well_here, .val p_size] (c_l_draw p_well_here p_size) (fun b : D × D => b.1) (fun b => [.ref b.2, .val p_size]) :=
  by
  refine fs_tl ?_
  show (kTl false (fun b : D × D => b.1) (fun b ρ => finA [.ref p_well_here, .val p_size] ρ = [.ref b.2, .val p_size])).p (xb_l_draw [some (.ref p_well_here), some (.val p_size), none, none]) (c_l_draw p_well_here p_size)
  unfold xb_l_draw c_l_draw
  refine k_ifrT (et_tst (ev_app2 (eo_ex (ev_app2 (eo_sl (s := .ref p_well_here) rfl) (eo_ex (ev_cst)))) (eo_ex (ev_cst)))) ?_ ?_
  · refine k_set (i := 3) rfl (ev_app2 (eo_ex (ev_app2 (eo_sl (s := .ref p_well_here) rfl) (eo_ex (ev_cst)))) (eo_sl (s := .val p_size) rfl)) (fun v_digit_4 => ?_)
    refine k_storeG (sm := .ref) (d0 := p_well_here) (ev_app2 (eo_ex (ev_app2 (eo_sl (s := .ref p_well_here) rfl) (eo_ex (ev_cst)))) (eo_sl (s := .val p_size) rfl)) (eo_ex (ev_cst)) rfl (.inr rfl) (fun q6 => ?_)
    exact k_retV (d := v_digit_4) rfl rfl rfl
  · refine k_storeG (sm := .ref) (d0 := p_well_here) (ev_app2 (eo_ex (ev_app2 (eo_sl (s := .ref p_well_here) rfl) (eo_ex (ev_cst)))) (eo_ex (ev_cst))) (eo_ex (ev_cst)) rfl (.inr rfl) (fun q10 => ?_)
    refine k_set (i := 2) rfl (ev_app2 (eo_ex (ev_app2 (eo_ex (ev_app2 (eo_ex (ev_app2 (eo_ex (ev_app2 (eo_sl (s := .ref q10.2) rfl) (eo_ex (ev_cst)))) (eo_ex (ev_app2 (eo_ex (ev_cst)) (eo_ex (ev_app2 (eo_sl (s := .ref q10.2) rfl) (eo_ex (ev_cst)))))))) (eo_ex (ev_cst)))) (eo_ex (ev_cst)))) (eo_ex (ev_cst))) (fun v_mix_19 => ?_)
    refine k_set (i := 2) rfl (ev_app2 (eo_ex (ev_app2 (eo_sl (s := .val v_mix_19) rfl) (eo_ex (ev_app2 (eo_ex (ev_app2 (eo_ex (ev_app2 (eo_sl (s := .val v_mix_19) rfl) (eo_ex (ev_cst)))) (eo_ex (ev_cst)))) (eo_ex (ev_app2 (eo_sl (s := .ref q10.2) rfl) (eo_ex (ev_cst)))))))) (eo_ex (ev_cst))) (fun v_mix_25 => ?_)
    exact k_ret (w := fun d30 : D => (d30, q10.2)) (ev_app2 (eo_ex (ev_app2 (eo_ex (ev_app2 (eo_sl (s := .val v_mix_25) rfl) (eo_ex (ev_app2 (eo_ex (ev_app2 (eo_sl (s := .val v_mix_25) rfl) (eo_ex (ev_cst)))) (eo_ex (ev_cst)))))) (eo_ex (ev_cst)))) (eo_sl (s := .val p_size) rfl)) (fun h => h) (fun _ => rfl) (fun _ => rfl)
/-! ### l_options -/
def xb_l_options : SS := seq (setI 2 (cst (.str "abcdefghijklmnopqrstuvwxyz")))
  (frz 2 (seq (setI 3 (callF xf_l_draw [.sl 0, .ex (cst (.int 26))] []))
  (frz 3 (seq (setI 4 (disp mkL []))
  (seq (forS ⟨[.ex (nm 1)], sRng1⟩ (.nm 5) (seq (setI 6 (cst (.str "")))
  (frz 6 (seq (forS ⟨[.ex (callF xf_l_draw [.sl 0, .ex (cst (.int 8))] [])], sRng1⟩ (.nm 7) (seq (setI 6 (app fAdd [.sl 6, .ex (app gItem [.sl 2, .ex (callF xf_l_draw [.sl 0, .ex (cst (.int 26))] [])])]))
  (frz 6 (kill 7 (skip)))))
  (seq (dropE (mutM "list" mAppend 4 [app fAdd [.sl 6, .ex (app gItem [.sl 2, .ex (app fMod [.ex (app fAdd [.sl 3, .ex (app fMul [.ex (cst (.int 3)), .sl 5])]), .ex (cst (.int 26))])])]]))
  (kill 6 (kill 5 (skip))))))))
  (frz 4 (retE (app fTuple [.sl 4]))))))))
def xf_l_options : FSem := fnS 8 xb_l_options
def c_l_options (p_well_here : D) (p_size : D) : R (D × D) :=
  ((c_l_draw p_well_here (D.int 26)).bind fun b4 => .ok (b4.1, b4.2)).bind fun p6 => (R.ok (D.lst [])).bind fun v_found_7 => ((ofO (sRng1 [p_size])).bind fun i53 => forN some (fun (t8 : D × D) (x9 : D) => (((((c_l_draw t8.1 (D.int 8)).bind fun b13 => .ok (b13.1, b13.2)).bind fun p15 => (R.ok ()).bind fun a16 => .ok (p15, a16)).bind fun a17 => (ofO (sRng1 [a17.1.1])).bind fun i18 => .ok (i18, a17.1.2)).bind fun p40 => forN some (fun (t20 : D × D) (x21 : D) => ((((((c_l_draw t20.1 (D.int 26)).bind fun b25 => .ok (b25.1, b25.2)).bind fun p27 => (R.ok ()).bind fun a28 => .ok (p27, a28)).bind fun a29 => (pr (gItem [D.str "abcdefghijklmnopqrstuvwxyz", a29.1.1])).bind fun d30 => .ok (d30, a29.1.2)).bind fun p32 => (R.ok ()).bind fun a33 => .ok (p32, a33)).bind fun a34 => (pr (fAdd [t20.2, a34.1.1])).bind fun d35 => .ok (d35, a34.1.2)).bind fun p37 => .ok (p37.2, p37.1)) p40.1 ((fun q41 : D => (q41, D.str "")) p40.2)).bind fun t39 => (if D.ty t8.2 = some "list" then ((((((pr (fMul [D.int 3, x9])).bind fun a42 => pr (fAdd [p6.1, a42])).bind fun a43 => pr (fMod [a43, D.int 26])).bind fun a44 => pr (gItem [D.str "abcdefghijklmnopqrstuvwxyz", a44])).bind fun a45 => pr (fAdd [t39.2, a45])).bind fun d46 => (R.ok ()).bind fun a47 => .ok (d46, a47)).bind fun a48 => (ofO (mAppend [a48.1] t8.2)).bind fun q49 => .ok (q49.1, q49.2) else .bad).bind fun p52 => .ok (t39.1, p52.2)) i53 (p6.2, v_found_7)).bind fun t54 => (pr (fTuple [t54.2])).bind fun d55 => .ok (d55, t54.1)
theorem xq_l_options (p_well_here : D) (p_size : D) : FnS false xf_l_options [.ref p_well_here, .val p_size] (c_l_options p_well_here p_size) (fun b : D × D => b.1) (fun b => [.ref b.2, .val p_size]) :=
  by
  refine fs_tl ?_
  show (kTl false (fun b : D × D => b.1) (fun b ρ => finA [.ref p_well_here, .val p_size] ρ = [.ref b.2, .val p_size])).p (xb_l_options [some (.ref p_well_here), some (.val p_size), none, none, none, none, none, none]) (c_l_options p_well_here p_size)
  unfold xb_l_options c_l_options
  refine k_setA (i := 2) (v := D.str "abcdefghijklmnopqrstuvwxyz") rfl (ev_cst) ?_
  refine k_setS (i := 3) (es_call (sls := fun a3 : (D × Unit) => [.ref p_well_here, .val a3.1]) (cf := fun a3 : (D × Unit) => c_l_draw p_well_here a3.1) (val := (fun b : D × D => b.1)) (outs := fun (a3 : (D × Unit)) (b4 : D × D) => [.ref b4.2, .val a3.1]) (st := fun (a3 : (D × Unit)) (b4 : D × D) => b4.2) (enc := (fun s5 : D => [some (.ref s5), some (.val p_size), some (.val (D.str "abcdefghijklmnopqrstuvwxyz")), none, none, none, none, none])) (xs_sl (s := .ref p_well_here) rfl (xs_p (ev_cst) (xs_nil))) (fun _ => rfl) (fun _ => rfl) (fun a3 => xq_l_draw p_well_here a3.1) (fun _ _ => rfl)) (fun _ => rfl) (fun p6 => ?_)
  refine k_setO (i := 4) rfl (ev_lst (eps_nil)) (fun v_found_7 => ?_)
  refine k_seqN (env := fun t54 : D × D => [some (.ref t54.1), some (.val p_size), some (.val (D.str "abcdefghijklmnopqrstuvwxyz")), some (.val p6.1), some (.own t54.2), none, none, none]) ?_ (fun t54 => ?_)
  · refine k_for (tg := .nm 5) (env := fun t8 : D × D => [some (.ref t8.1), some (.val p_size), some (.val (D.str "abcdefghijklmnopqrstuvwxyz")), some (.val p6.1), some (.own t8.2), none, none, none]) (u := some) (enc := fun (t8 : D × D) (x9 : D) => [some (.ref t8.1), some (.val p_size), some (.val (D.str "abcdefghijklmnopqrstuvwxyz")), some (.val p6.1), some (.own t8.2), some (.val x9), none, none]) (t0 := (p6.2, v_found_7)) (es_ex (φs := [nm 1]) (eps_cons (ev_nm (d := p_size) rfl) (eps_nil))) rfl (fun t8 => tg_nm rfl) (fun t8 x9 => ?_)
    refine k_setA (i := 6) (v := D.str "") rfl (ev_cst) ?_
    refine k_seqN (env := fun t39 : D × D => [some (.ref t39.1), some (.val p_size), some (.val (D.str "abcdefghijklmnopqrstuvwxyz")), some (.val p6.1), some (.own t8.2), some (.val x9), some (.val t39.2), none]) ?_ (fun t39 => ?_)
    · refine k_forS (φs := [callF xf_l_draw [.sl 0, .ex (cst (.int 8))] []]) (fsrc := sRng1) (tg := .nm 7) (env := fun t20 : D × D => [some (.ref t20.1), some (.val p_size), some (.val (D.str "abcdefghijklmnopqrstuvwxyz")), some (.val p6.1), some (.own t8.2), some (.val x9), some (.val t20.2), none]) (u := some) (enc := fun (t20 : D × D) (x21 : D) => [some (.ref t20.1), some (.val p_size), some (.val (D.str "abcdefghijklmnopqrstuvwxyz")), some (.val p6.1), some (.own t8.2), some (.val x9), some (.val t20.2), some (.val x21)]) (t0 := (fun q41 : D => (q41, D.str ""))) (eq_of (φs := [callF xf_l_draw [.sl 0, .ex (cst (.int 8))] []]) (ds := fun a17 : ((D × D) × Unit) => [a17.1.1]) (st := fun a17 : ((D × D) × Unit) => a17.1.2) (enc := (fun s19 : D => [some (.ref s19), some (.val p_size), some (.val (D.str "abcdefghijklmnopqrstuvwxyz")), some (.val p6.1), some (.own t8.2), some (.val x9), some (.val (D.str "")), none])) (xs_s (es_call (sls := fun a12 : (D × Unit) => [.ref t8.1, .val a12.1]) (cf := fun a12 : (D × Unit) => c_l_draw t8.1 a12.1) (val := (fun b : D × D => b.1)) (outs := fun (a12 : (D × Unit)) (b13 : D × D) => [.ref b13.2, .val a12.1]) (st := fun (a12 : (D × Unit)) (b13 : D × D) => b13.2) (enc := (fun s14 : D => [some (.ref s14), some (.val p_size), some (.val (D.str "abcdefghijklmnopqrstuvwxyz")), some (.val p6.1), some (.own t8.2), some (.val x9), some (.val (D.str "")), none])) (xs_sl (s := .ref t8.1) rfl (xs_p (ev_cst) (xs_nil))) (fun _ => rfl) (fun _ => rfl) (fun a12 => xq_l_draw t8.1 a12.1) (fun _ _ => rfl)) (fun p15 => xs_nil)) (fun _ => rfl) (fun _ => rfl)) (fun _ => rfl) (fun t20 => tg_nm rfl) (fun t20 x21 => ?_)
      refine k_setS (i := 6) (es_app (ds := fun a34 : ((D × D) × Unit) => [t20.2, a34.1.1]) (st := fun a34 : ((D × D) × Unit) => a34.1.2) (enc := (fun s36 : D => [some (.ref s36), some (.val p_size), some (.val (D.str "abcdefghijklmnopqrstuvwxyz")), some (.val p6.1), some (.own t8.2), some (.val x9), some (.val t20.2), some (.val x21)])) (xs_sl (s := .val t20.2) rfl (xs_s (es_app (ds := fun a29 : ((D × D) × Unit) => [D.str "abcdefghijklmnopqrstuvwxyz", a29.1.1]) (st := fun a29 : ((D × D) × Unit) => a29.1.2) (enc := (fun s31 : D => [some (.ref s31), some (.val p_size), some (.val (D.str "abcdefghijklmnopqrstuvwxyz")), some (.val p6.1), some (.own t8.2), some (.val x9), some (.val t20.2), some (.val x21)])) (xs_sl (s := .val (D.str "abcdefghijklmnopqrstuvwxyz")) rfl (xs_s (es_call (sls := fun a24 : (D × Unit) => [.ref t20.1, .val a24.1]) (cf := fun a24 : (D × Unit) => c_l_draw t20.1 a24.1) (val := (fun b : D × D => b.1)) (outs := fun (a24 : (D × Unit)) (b25 : D × D) => [.ref b25.2, .val a24.1]) (st := fun (a24 : (D × Unit)) (b25 : D × D) => b25.2) (enc := (fun s26 : D => [some (.ref s26), some (.val p_size), some (.val (D.str "abcdefghijklmnopqrstuvwxyz")), some (.val p6.1), some (.own t8.2), some (.val x9), some (.val t20.2), some (.val x21)])) (xs_sl (s := .ref t20.1) rfl (xs_p (ev_cst) (xs_nil))) (fun _ => rfl) (fun _ => rfl) (fun a24 => xq_l_draw t20.1 a24.1) (fun _ _ => rfl)) (fun p27 => xs_nil))) (fun _ => rfl) (fun _ => rfl)) (fun p32 => xs_nil))) (fun _ => rfl) (fun _ => rfl)) (fun _ => rfl) (fun p37 => ?_)
      refine k_kill (i := 7) rfl ?_
      exact k_nil (t := (p37.2, p37.1)) rfl
    · refine k_dropS (es_mut (T := "list") (f := mAppend) (i := 4) (s0 := .own t8.2) (φs := [app fAdd [.sl 6, .ex (app gItem [.sl 2, .ex (app fMod [.ex (app fAdd [.sl 3, .ex (app fMul [.ex (cst (.int 3)), .sl 5])]), .ex (cst (.int 26))])])]]) (sm := .own) (cur := fun a48 : (D × Unit) => t8.2) (ds := fun a48 : (D × Unit) => [a48.1]) (st := fun (a48 : (D × Unit)) d50 => d50) (enc := (fun s51 : D => [some (.ref t39.1), some (.val p_size), some (.val (D.str "abcdefghijklmnopqrstuvwxyz")), some (.val p6.1), some (.own s51), some (.val x9), some (.val t39.2), none])) rfl (xs_p (ev_app2 (eo_sl (s := .val t39.2) rfl) (eo_ex (ev_app2 (eo_sl (s := .val (D.str "abcdefghijklmnopqrstuvwxyz")) rfl) (eo_ex (ev_app2 (eo_ex (ev_app2 (eo_sl (s := .val p6.1) rfl) (eo_ex (ev_app2 (eo_ex (ev_cst)) (eo_sl (s := .val x9) rfl))))) (eo_ex (ev_cst))))))) (xs_nil)) (fun _ => rfl) (fun _ => rfl) (.inl rfl) (fun _ _ => rfl)) (fun p52 => ?_)
      refine k_kill (i := 6) rfl ?_
      refine k_kill (i := 5) rfl ?_
      exact k_nil (t := (t39.1, p52.2)) rfl
  · refine k_frz (i := 4) (d := t54.2) rfl ?_
    exact k_ret (w := fun d55 : D => (d55, t54.1)) (ev_app1 (eo_sl (s := .val t54.2) rfl)) (fun h => h) (fun _ => rfl) (fun _ => rfl)
/-! ### l_shuffled -/
def xb_l_shuffled : SS := seq (setI 2 (app fList [.sl 1]))
  (retE (comp ⟨[.ex (app gLen [.sl 2])], sRng1⟩ (.nm 3) [3] (yes) (mutM "list" mPop 2 [callF xf_l_draw [.sl 0, .ex (app gLen [.sl 2])] []])))
def xf_l_shuffled : FSem := fnS 4 xb_l_shuffled
def c_l_shuffled (p_well_here : D) (p_some : D) : R (D × D) :=
  (pro (fList [p_some])).bind fun v_left_1 => (((srR sRng1 [pr (gLen [v_left_1])]).bind fun i31 => .ok (i31, ())).bind fun p14 => (mapS some (fun (s15 : D × D) (x2 : D) => if D.ty s15.2 = some "list" then ((((pr (gLen [s15.2])).bind fun d16 => (R.ok ()).bind fun a17 => .ok (d16, a17)).bind fun a18 => (c_l_draw s15.1 a18.1).bind fun b19 => .ok (b19.1, b19.2)).bind fun p21 => (R.ok ()).bind fun a22 => .ok (p21, a22)).bind fun a23 => (ofO (mPop [a23.1.1] s15.2)).bind fun q24 => .ok (q24.1, (a23.1.2, q24.2)) else .bad) p14.1 ((fun a30 : Unit => (p_well_here, v_left_1)) p14.2)).bind fun q28 => .ok (D.lst q28.1, q28.2)).bind fun p32 => .ok (p32.1, p32.2.1)
theorem xq_l_shuffled (p_well_here : D) (p_some : D) : FnS true xf_l_shuffled [.ref p_well_here, .val p_some] (c_l_shuffled p_well_here p_some) (fun b : D × D => b.1) (fun b => [.ref b.2, .val p_some]) :=
  by
  refine fs_tl ?_
  show (kTl true (fun b : D × D => b.1) (fun b ρ => finA [.ref p_well_here, .val p_some] ρ = [.ref b.2, .val p_some])).p (xb_l_shuffled [some (.ref p_well_here), some (.val p_some), none, none]) (c_l_shuffled p_well_here p_some)
  unfold xb_l_shuffled c_l_shuffled
  refine k_setO (i := 2) rfl (ev_appo1 (eo_sl (s := .val p_some) rfl)) (fun v_left_1 => ?_)
  exact k_retS (w := fun p32 : D × (D × D) => (p32.1, p32.2.1)) (es_map (φs := [app gLen [.sl 2]]) (fsrc := sRng1) (tg := .nm 3) (own := [3]) (enc0 := (fun s29 : Unit => [some (.ref p_well_here), some (.val p_some), some (.own v_left_1), none])) (envm := fun s15 : D × D => [some (.ref s15.1), some (.val p_some), some (.own s15.2), none]) (s0 := (fun a30 : Unit => (p_well_here, v_left_1))) (u := some) (enc := fun (s15 : D × D) (x2 : D) => [some (.ref s15.1), some (.val p_some), some (.own s15.2), some (.val x2)]) (enc2 := fun (s15 : D × D) (x2 : D) (s27 : D × D) => [some (.ref s27.1), some (.val p_some), some (.own s27.2), some (.val x2)]) (encE := fun s27 : D × D => [some (.ref s27.1), some (.val p_some), some (.own s27.2), none]) (st := fun _ s27 => s27) (eq_srcP (φs := [app gLen [.sl 2]]) (eps_cons (ev_app1 (eo_sl (s := .own v_left_1) rfl)) (eps_nil))) (fun _ => rfl) (fun _ => tg_nm rfl) (fun s15 x2 => es_mut (T := "list") (f := mPop) (i := 2) (s0 := .own s15.2) (φs := [callF xf_l_draw [.sl 0, .ex (app gLen [.sl 2])] []]) (sm := .own) (cur := fun a23 : ((D × D) × Unit) => s15.2) (ds := fun a23 : ((D × D) × Unit) => [a23.1.1]) (st := fun (a23 : ((D × D) × Unit)) d25 => (a23.1.2, d25)) (enc := (fun s26 : D × D => [some (.ref s26.1), some (.val p_some), some (.own s26.2), some (.val x2)])) rfl (xs_s (es_call (sls := fun a18 : (D × Unit) => [.ref s15.1, .val a18.1]) (cf := fun a18 : (D × Unit) => c_l_draw s15.1 a18.1) (val := (fun b : D × D => b.1)) (outs := fun (a18 : (D × Unit)) (b19 : D × D) => [.ref b19.2, .val a18.1]) (st := fun (a18 : (D × Unit)) (b19 : D × D) => b19.2) (enc := (fun s20 : D => [some (.ref s20), some (.val p_some), some (.own s15.2), some (.val x2)])) (xs_sl (s := .ref s15.1) rfl (xs_p (ev_app1 (eo_sl (s := .own s15.2) rfl)) (xs_nil))) (fun _ => rfl) (fun _ => rfl) (fun a18 => xq_l_draw s15.1 a18.1) (fun _ _ => rfl)) (fun p21 => xs_nil)) (fun _ => rfl) (fun _ => rfl) (.inl rfl) (fun _ _ => rfl)) (fun _ _ _ => rfl) (fun _ _ => rfl)) (fun h => h) (fun _ => rfl) (fun _ => rfl)
/-! ### l_tiers_drawn -/
def xb_l_tiers_drawn : SS := seq (setI 2 (disp mkL []))
  (seq (forS ⟨[.ex (slc (.ex (callF xf_l_shuffled [.sl 0, .ex (nm 1)] [])) none (some (.ex (app fSub [.ex (app gLen [.sl 1]), .ex (app fMod [.ex (app gItem [.ex (disp mkL [cst (.int 0), cst (.int 0), cst (.int 0), cst (.int 1), cst (.int 2)]), .ex (callF xf_l_draw [.sl 0, .ex (cst (.int 5))] [])]), .ex (app fAdd [.ex (app gLen [.sl 1]), .ex (cst (.int 1))])])]))))], sSeq⟩ (.nm 3) (ifS (band (tst (app fNe [.sl 2, .ex (disp mkL [])])) (tst (app fEq [.ex (callF xf_l_draw [.sl 0, .ex (cst (.int 4))] []), .ex (cst (.int 0))]))) (seq (storeG 2 (.ex (app fNeg [.ex (cst (.int 1))])) (app fAdd [.ex (app gItem [.sl 2, .ex (app fNeg [.ex (cst (.int 1))])]), .ex (disp mkT [nm 3])]))
  (kill 3 (skip))) (seq (dropE (mutM "list" mAppend 2 [disp mkT [nm 3]]))
  (kill 3 (skip)))))
  (frz 2 (retE (app fTuple [.sl 2]))))
def xf_l_tiers_drawn : FSem := fnS 4 xb_l_tiers_drawn
def c_l_tiers_drawn (p_well_here : D) (p_some : D) : R (D × D) :=
  (R.ok (D.lst [])).bind fun v_found_1 => (((((((c_l_shuffled p_well_here p_some).bind fun b5 => .ok (b5.1, b5.2)).bind fun p7 => ((((pr (gLen [p_some])).bind fun d30 => ((((((R.ok (D.lst [D.int 0, D.int 0, D.int 0, D.int 1, D.int 2])).bind fun d15 => (((c_l_draw p7.2 (D.int 5)).bind fun b11 => .ok (b11.1, b11.2)).bind fun p13 => (R.ok ()).bind fun a14 => .ok (p13, a14)).bind fun a16 => .ok (d15, a16)).bind fun a17 => (pr (gItem [a17.1, a17.2.1.1])).bind fun d18 => .ok (d18, a17.2.1.2)).bind fun p20 => (((pr (gLen [p_some])).bind fun a21 => pr (fAdd [a21, D.int 1])).bind fun d22 => (R.ok ()).bind fun a23 => .ok (d22, a23)).bind fun a24 => .ok (p20, a24)).bind fun a25 => (pr (fMod [a25.1.1, a25.2.1])).bind fun d26 => .ok (d26, a25.1.2)).bind fun p28 => (R.ok ()).bind fun a29 => .ok (p28, a29)).bind fun a31 => .ok (d30, a31)).bind fun a32 => (pr (fSub [a32.1, a32.2.1.1])).bind fun d33 => .ok (d33, a32.2.1.2)).bind fun p35 => (R.ok ()).bind fun a36 => .ok (p35, a36)).bind fun a37 => .ok (p7, a37)).bind fun a38 => (slR (.ok a38.1.1) none (some (.ok a38.2.1.1))).bind fun d39 => .ok (d39, a38.2.1.2)).bind fun p41 => (R.ok ()).bind fun a42 => .ok (p41, a42)).bind fun a43 => (ofO (sSeq [a43.1.1])).bind fun i44 => .ok (i44, a43.1.2)).bind fun p78 => forN some (fun (t46 : D × D) (x47 : D) => (((pr (fNe [t46.2, D.lst []])).bind asB).bind fun b62 => if b62 = true then (((((c_l_draw t46.1 (D.int 4)).bind fun b51 => .ok (b51.1, b51.2)).bind fun p53 => ((R.ok (D.int 0)).bind fun d54 => (R.ok ()).bind fun a55 => .ok (d54, a55)).bind fun a56 => .ok (p53, a56)).bind fun a57 => (pr (fEq [a57.1.1, a57.2.1])).bind fun d58 => .ok (d58, a57.1.2)).bind fun p60 => (asB p60.1).bind fun b61 => .ok (b61, p60.2)) else .ok (false, t46.1)).bind fun p63 => if p63.1 = true then ((((pr (fNeg [D.int 1])).bind fun a64 => pr (gItem [t46.2, a64])).bind fun a65 => pr (fAdd [a65, D.tup [x47]])).bind fun d67 => (pr (fNeg [D.int 1])).bind fun j68 => (ofO (stG d67 j68 t46.2)).bind fun q66 => .ok (p63.2, q66.2)) else ((if D.ty t46.2 = some "list" then (ofO (mAppend [D.tup [x47]] t46.2)).bind fun q72 => .ok (q72.1, q72.2) else .bad).bind fun p75 => .ok (p63.2, p75.2))) p78.1 ((fun q79 : D => (q79, v_found_1)) p78.2)).bind fun t77 => (pr (fTuple [t77.2])).bind fun d80 => .ok (d80, t77.1)
theorem xq_l_tiers_drawn (p_well_here : D) (p_some : D) : FnS false xf_l_tiers_drawn [.ref p_well_here, .val p_some] (c_l_tiers_drawn p_well_here p_some) (fun b : D × D => b.1) (fun b => [.ref b.2, .val p_some]) :=
  by
  refine fs_tl ?_
  show (kTl false (fun b : D × D => b.1) (fun b ρ => finA [.ref p_well_here, .val p_some] ρ = [.ref b.2, .val p_some])).p (xb_l_tiers_drawn [some (.ref p_well_here), some (.val p_some), none, none]) (c_l_tiers_drawn p_well_here p_some)
  unfold xb_l_tiers_drawn c_l_tiers_drawn
  refine k_setO (i := 2) rfl (ev_lst (eps_nil)) (fun v_found_1 => ?_)
  refine k_seqN (env := fun t77 : D × D => [some (.ref t77.1), some (.val p_some), some (.own t77.2), none]) ?_ (fun t77 => ?_)
  · refine k_forS (φs := [slc (.ex (callF xf_l_shuffled [.sl 0, .ex (nm 1)] [])) none (some (.ex (app fSub [.ex (app gLen [.sl 1]), .ex (app fMod [.ex (app gItem [.ex (disp mkL [cst (.int 0), cst (.int 0), cst (.int 0), cst (.int 1), cst (.int 2)]), .ex (callF xf_l_draw [.sl 0, .ex (cst (.int 5))] [])]), .ex (app fAdd [.ex (app gLen [.sl 1]), .ex (cst (.int 1))])])])))]) (fsrc := sSeq) (tg := .nm 3) (env := fun t46 : D × D => [some (.ref t46.1), some (.val p_some), some (.own t46.2), none]) (u := some) (enc := fun (t46 : D × D) (x47 : D) => [some (.ref t46.1), some (.val p_some), some (.own t46.2), some (.val x47)]) (t0 := (fun q79 : D => (q79, v_found_1))) (eq_of (φs := [slc (.ex (callF xf_l_shuffled [.sl 0, .ex (nm 1)] [])) none (some (.ex (app fSub [.ex (app gLen [.sl 1]), .ex (app fMod [.ex (app gItem [.ex (disp mkL [cst (.int 0), cst (.int 0), cst (.int 0), cst (.int 1), cst (.int 2)]), .ex (callF xf_l_draw [.sl 0, .ex (cst (.int 5))] [])]), .ex (app fAdd [.ex (app gLen [.sl 1]), .ex (cst (.int 1))])])])))]) (ds := fun a43 : ((D × D) × Unit) => [a43.1.1]) (st := fun a43 : ((D × D) × Unit) => a43.1.2) (enc := (fun s45 : D => [some (.ref s45), some (.val p_some), some (.own v_found_1), none])) (xs_s (es_slcH (xa := fun a38 : ((D × D) × ((D × D) × Unit)) => .val a38.1.1) (va := fun a38 : ((D × D) × ((D × D) × Unit)) => a38.1.1) (vh := fun a38 : ((D × D) × ((D × D) × Unit)) => a38.2.1.1) (st := fun a38 : ((D × D) × ((D × D) × Unit)) => a38.2.1.2) (enc := (fun s40 : D => [some (.ref s40), some (.val p_some), some (.own v_found_1), none])) (xs_s (es_call (sls := fun a4 : (D × Unit) => [.ref p_well_here, .val a4.1]) (cf := fun a4 : (D × Unit) => c_l_shuffled p_well_here a4.1) (val := (fun b : D × D => b.1)) (outs := fun (a4 : (D × Unit)) (b5 : D × D) => [.ref b5.2, .val a4.1]) (st := fun (a4 : (D × Unit)) (b5 : D × D) => b5.2) (enc := (fun s6 : D => [some (.ref s6), some (.val p_some), some (.own v_found_1), none])) (xs_sl (s := .ref p_well_here) rfl (xs_p (ev_nm (d := p_some) rfl) (xs_nil))) (fun _ => rfl) (fun _ => rfl) (fun a4 => xq_l_shuffled p_well_here a4.1) (fun _ _ => rfl)) (fun p7 => xs_s (es_app (ds := fun a32 : (D × ((D × D) × Unit)) => [a32.1, a32.2.1.1]) (st := fun a32 : (D × ((D × D) × Unit)) => a32.2.1.2) (enc := (fun s34 : D => [some (.ref s34), some (.val p_some), some (.own v_found_1), none])) (xs_p (ev_app1 (eo_sl (s := .val p_some) rfl)) (xs_s (es_app (ds := fun a25 : ((D × D) × (D × Unit)) => [a25.1.1, a25.2.1]) (st := fun a25 : ((D × D) × (D × Unit)) => a25.1.2) (enc := (fun s27 : D => [some (.ref s27), some (.val p_some), some (.own v_found_1), none])) (xs_s (es_app (ds := fun a17 : (D × ((D × D) × Unit)) => [a17.1, a17.2.1.1]) (st := fun a17 : (D × ((D × D) × Unit)) => a17.2.1.2) (enc := (fun s19 : D => [some (.ref s19), some (.val p_some), some (.own v_found_1), none])) (xs_p (ev_lst (eps_cons (ev_cst) (eps_cons (ev_cst) (eps_cons (ev_cst) (eps_cons (ev_cst) (eps_cons (ev_cst) (eps_nil))))))) (xs_s (es_call (sls := fun a10 : (D × Unit) => [.ref p7.2, .val a10.1]) (cf := fun a10 : (D × Unit) => c_l_draw p7.2 a10.1) (val := (fun b : D × D => b.1)) (outs := fun (a10 : (D × Unit)) (b11 : D × D) => [.ref b11.2, .val a10.1]) (st := fun (a10 : (D × Unit)) (b11 : D × D) => b11.2) (enc := (fun s12 : D => [some (.ref s12), some (.val p_some), some (.own v_found_1), none])) (xs_sl (s := .ref p7.2) rfl (xs_p (ev_cst) (xs_nil))) (fun _ => rfl) (fun _ => rfl) (fun a10 => xq_l_draw p7.2 a10.1) (fun _ _ => rfl)) (fun p13 => xs_nil))) (fun _ => rfl) (fun _ => rfl)) (fun p20 => xs_p (ev_app2 (eo_ex (ev_app1 (eo_sl (s := .val p_some) rfl))) (eo_ex (ev_cst))) (xs_nil))) (fun _ => rfl) (fun _ => rfl)) (fun p28 => xs_nil))) (fun _ => rfl) (fun _ => rfl)) (fun p35 => xs_nil))) (fun _ => rfl) (fun _ => rfl)) (fun p41 => xs_nil)) (fun _ => rfl) (fun _ => rfl)) (fun _ => rfl) (fun t46 => tg_nm rfl) (fun t46 x47 => ?_)
    refine k_ifS (ets_and (s := t46.1) (et_tst (ev_app2 (eo_sl (s := .own t46.2) rfl) (eo_ex (ev_lst (eps_nil))))) (ets_tst (es_app (ds := fun a57 : ((D × D) × (D × Unit)) => [a57.1.1, a57.2.1]) (st := fun a57 : ((D × D) × (D × Unit)) => a57.1.2) (enc := (fun s59 : D => [some (.ref s59), some (.val p_some), some (.own t46.2), some (.val x47)])) (xs_s (es_call (sls := fun a50 : (D × Unit) => [.ref t46.1, .val a50.1]) (cf := fun a50 : (D × Unit) => c_l_draw t46.1 a50.1) (val := (fun b : D × D => b.1)) (outs := fun (a50 : (D × Unit)) (b51 : D × D) => [.ref b51.2, .val a50.1]) (st := fun (a50 : (D × Unit)) (b51 : D × D) => b51.2) (enc := (fun s52 : D => [some (.ref s52), some (.val p_some), some (.own t46.2), some (.val x47)])) (xs_sl (s := .ref t46.1) rfl (xs_p (ev_cst) (xs_nil))) (fun _ => rfl) (fun _ => rfl) (fun a50 => xq_l_draw t46.1 a50.1) (fun _ _ => rfl)) (fun p53 => xs_p (ev_cst) (xs_nil))) (fun _ => rfl) (fun _ => rfl))) rfl) (fun p63 => ?_) (fun p63 => ?_)
    · refine k_storeG (sm := .own) (d0 := t46.2) (ev_app2 (eo_ex (ev_app2 (eo_sl (s := .own t46.2) rfl) (eo_ex (ev_app1 (eo_ex (ev_cst)))))) (eo_ex (ev_tup (eps_cons (ev_nm (d := x47) rfl) (eps_nil))))) (eo_ex (ev_app1 (eo_ex (ev_cst)))) rfl (.inl rfl) (fun q66 => ?_)
      refine k_kill (i := 3) rfl ?_
      exact k_nil (t := (p63.2, q66.2)) rfl
    · refine k_dropS (es_mut (T := "list") (f := mAppend) (i := 2) (s0 := .own t46.2) (φs := [disp mkT [nm 3]]) (sm := .own) (cur := fun a71 : (D × Unit) => t46.2) (ds := fun a71 : (D × Unit) => [a71.1]) (st := fun (a71 : (D × Unit)) d73 => d73) (enc := (fun s74 : D => [some (.ref p63.2), some (.val p_some), some (.own s74), some (.val x47)])) rfl (xs_p (ev_tup (eps_cons (ev_nm (d := x47) rfl) (eps_nil))) (xs_nil)) (fun _ => rfl) (fun _ => rfl) (.inl rfl) (fun _ _ => rfl)) (fun p75 => ?_)
      refine k_kill (i := 3) rfl ?_
      exact k_nil (t := (p63.2, p75.2)) rfl
  · refine k_frz (i := 2) (d := t77.2) rfl ?_
    exact k_ret (w := fun d80 : D => (d80, t77.1)) (ev_app1 (eo_sl (s := .val t77.2) rfl)) (fun h => h) (fun _ => rfl) (fun _ => rfl)
/-! ### l_ballot -/
def xb_l_ballot : SS := seq (setI 2 (callF xf_l_draw [.sl 0, .ex (cst (.int 6))] []))
  (frz 2 (seq (setI 3 (slc (.ex (callF xf_l_shuffled [.sl 0, .ex (nm 1)] [])) none (some (.ex (callF xf_l_draw [.sl 0, .ex (app fAdd [.ex (app gLen [.sl 1]), .ex (cst (.int 1))])] [])))))
  (frz 3 (seq (ifS (tst (app fEq [.sl 2, .ex (cst (.int 4))])) (retE (disp mkT [cst (.str "lets"), app fTuple [.sl 3]])) skip)
  (seq (ifS (tst (app fEq [.sl 2, .ex (cst (.int 5))])) (retE (disp mkT [cst (.str "marks"), app fTuple [.ex (comp ⟨[.ex (nm 3)], sSeq⟩ (.nm 4) [4] (yes) (disp mkT [nm 4, callF xf_l_draw [.sl 0, .ex (cst (.int 10))] []]))]])) skip)
  (retE (disp mkT [cst (.str "order"), callF xf_l_tiers_drawn [.sl 0, .ex (nm 1)] []])))))))
def xf_l_ballot : FSem := fnS 5 xb_l_ballot
def c_l_ballot (p_well_here : D) (p_choices : D) : R (D × D) :=
  ((c_l_draw p_well_here (D.int 6)).bind fun b4 => .ok (b4.1, b4.2)).bind fun p6 => ((((c_l_shuffled p6.2 p_choices).bind fun b10 => .ok (b10.1, b10.2)).bind fun p12 => (((((pr (gLen [p_choices])).bind fun a13 => pr (fAdd [a13, D.int 1])).bind fun d14 => (R.ok ()).bind fun a15 => .ok (d14, a15)).bind fun a16 => (c_l_draw p12.2 a16.1).bind fun b17 => .ok (b17.1, b17.2)).bind fun p19 => (R.ok ()).bind fun a20 => .ok (p19, a20)).bind fun a21 => .ok (p12, a21)).bind fun a22 => (slR (.ok a22.1.1) none (some (.ok a22.2.1.1))).bind fun d23 => .ok (d23, a22.2.1.2)).bind fun p25 => ((pr (fEq [p6.1, D.int 4])).bind asB).bind fun b26 => if b26 = true then ((tupR [.ok (D.str "lets"), pr (fTuple [p25.1])]).bind fun d27 => .ok (d27, p25.2)) else ((pr (fEq [p6.1, D.int 5])).bind asB).bind fun b28 => if b28 = true then ((((R.ok (D.str "marks")).bind fun d66 => ((((((ofO (sSeq [p25.1])).bind fun i58 => .ok (i58, ())).bind fun p41 => (mapS some (fun (s42 : D) (x29 : D) => ((R.ok x29).bind fun d50 => (((c_l_draw s42 (D.int 10)).bind fun b46 => .ok (b46.1, b46.2)).bind fun p48 => (R.ok ()).bind fun a49 => .ok (p48, a49)).bind fun a51 => .ok (d50, a51)).bind fun a52 => .ok (D.tup [a52.1, a52.2.1.1], a52.2.1.2)) p41.1 ((fun a57 : Unit => p25.2) p41.2)).bind fun q55 => .ok (D.lst q55.1, q55.2)).bind fun p59 => (R.ok ()).bind fun a60 => .ok (p59, a60)).bind fun a61 => (pr (fTuple [a61.1.1])).bind fun d62 => .ok (d62, a61.1.2)).bind fun p64 => (R.ok ()).bind fun a65 => .ok (p64, a65)).bind fun a67 => .ok (d66, a67)).bind fun a68 => .ok (D.tup [a68.1, a68.2.1.1], a68.2.1.2)).bind fun p70 => .ok (p70.1, p70.2)) else (((R.ok (D.str "order")).bind fun d78 => (((c_l_tiers_drawn p25.2 p_choices).bind fun b74 => .ok (b74.1, b74.2)).bind fun p76 => (R.ok ()).bind fun a77 => .ok (p76, a77)).bind fun a79 => .ok (d78, a79)).bind fun a80 => .ok (D.tup [a80.1, a80.2.1.1], a80.2.1.2)).bind fun p82 => .ok (p82.1, p82.2)
theorem xq_l_ballot (p_well_here : D) (p_choices : D) : FnS false xf_l_ballot [.ref p_well_here, .val p_choices] (c_l_ballot p_well_here p_choices) (fun b : D × D => b.1) (fun b => [.ref b.2, .val p_choices]) :=
  by
  refine fs_tl ?_
  show (kTl false (fun b : D × D => b.1) (fun b ρ => finA [.ref p_well_here, .val p_choices] ρ = [.ref b.2, .val p_choices])).p (xb_l_ballot [some (.ref p_well_here), some (.val p_choices), none, none, none]) (c_l_ballot p_well_here p_choices)
  unfold xb_l_ballot c_l_ballot
  refine k_setS (i := 2) (es_call (sls := fun a3 : (D × Unit) => [.ref p_well_here, .val a3.1]) (cf := fun a3 : (D × Unit) => c_l_draw p_well_here a3.1) (val := (fun b : D × D => b.1)) (outs := fun (a3 : (D × Unit)) (b4 : D × D) => [.ref b4.2, .val a3.1]) (st := fun (a3 : (D × Unit)) (b4 : D × D) => b4.2) (enc := (fun s5 : D => [some (.ref s5), some (.val p_choices), none, none, none])) (xs_sl (s := .ref p_well_here) rfl (xs_p (ev_cst) (xs_nil))) (fun _ => rfl) (fun _ => rfl) (fun a3 => xq_l_draw p_well_here a3.1) (fun _ _ => rfl)) (fun _ => rfl) (fun p6 => ?_)
  refine k_setS (i := 3) (es_slcH (xa := fun a22 : ((D × D) × ((D × D) × Unit)) => .val a22.1.1) (va := fun a22 : ((D × D) × ((D × D) × Unit)) => a22.1.1) (vh := fun a22 : ((D × D) × ((D × D) × Unit)) => a22.2.1.1) (st := fun a22 : ((D × D) × ((D × D) × Unit)) => a22.2.1.2) (enc := (fun s24 : D => [some (.ref s24), some (.val p_choices), some (.val p6.1), none, none])) (xs_s (es_call (sls := fun a9 : (D × Unit) => [.ref p6.2, .val a9.1]) (cf := fun a9 : (D × Unit) => c_l_shuffled p6.2 a9.1) (val := (fun b : D × D => b.1)) (outs := fun (a9 : (D × Unit)) (b10 : D × D) => [.ref b10.2, .val a9.1]) (st := fun (a9 : (D × Unit)) (b10 : D × D) => b10.2) (enc := (fun s11 : D => [some (.ref s11), some (.val p_choices), some (.val p6.1), none, none])) (xs_sl (s := .ref p6.2) rfl (xs_p (ev_nm (d := p_choices) rfl) (xs_nil))) (fun _ => rfl) (fun _ => rfl) (fun a9 => xq_l_shuffled p6.2 a9.1) (fun _ _ => rfl)) (fun p12 => xs_s (es_call (sls := fun a16 : (D × Unit) => [.ref p12.2, .val a16.1]) (cf := fun a16 : (D × Unit) => c_l_draw p12.2 a16.1) (val := (fun b : D × D => b.1)) (outs := fun (a16 : (D × Unit)) (b17 : D × D) => [.ref b17.2, .val a16.1]) (st := fun (a16 : (D × Unit)) (b17 : D × D) => b17.2) (enc := (fun s18 : D => [some (.ref s18), some (.val p_choices), some (.val p6.1), none, none])) (xs_sl (s := .ref p12.2) rfl (xs_p (ev_app2 (eo_ex (ev_app1 (eo_sl (s := .val p_choices) rfl))) (eo_ex (ev_cst))) (xs_nil))) (fun _ => rfl) (fun _ => rfl) (fun a16 => xq_l_draw p12.2 a16.1) (fun _ _ => rfl)) (fun p19 => xs_nil))) (fun _ => rfl) (fun _ => rfl)) (fun _ => rfl) (fun p25 => ?_)
  refine k_ifrT (et_tst (ev_app2 (eo_sl (s := .val p6.1) rfl) (eo_ex (ev_cst)))) ?_ ?_
  · exact k_ret (w := fun d27 : D => (d27, p25.2)) (ev_tup (eps_cons (ev_cst) (eps_cons (ev_app1 (eo_sl (s := .val p25.1) rfl)) (eps_nil)))) (fun h => h) (fun _ => rfl) (fun _ => rfl)
  · refine k_ifrT (et_tst (ev_app2 (eo_sl (s := .val p6.1) rfl) (eo_ex (ev_cst)))) ?_ ?_
    · exact k_retS (w := fun p70 : D × D => (p70.1, p70.2)) (es_tup (φs := [cst (.str "marks"), app fTuple [.ex (comp ⟨[.ex (nm 3)], sSeq⟩ (.nm 4) [4] (yes) (disp mkT [nm 4, callF xf_l_draw [.sl 0, .ex (cst (.int 10))] []]))]]) (ds := fun a68 : (D × ((D × D) × Unit)) => [a68.1, a68.2.1.1]) (st := fun a68 : (D × ((D × D) × Unit)) => a68.2.1.2) (enc := (fun s69 : D => [some (.ref s69), some (.val p_choices), some (.val p6.1), some (.val p25.1), none])) (xs_p (ev_cst) (xs_s (es_app (ds := fun a61 : ((D × D) × Unit) => [a61.1.1]) (st := fun a61 : ((D × D) × Unit) => a61.1.2) (enc := (fun s63 : D => [some (.ref s63), some (.val p_choices), some (.val p6.1), some (.val p25.1), none])) (xs_s (es_map (φs := [nm 3]) (fsrc := sSeq) (tg := .nm 4) (own := [4]) (enc0 := (fun s56 : Unit => [some (.ref p25.2), some (.val p_choices), some (.val p6.1), some (.val p25.1), none])) (envm := fun s42 : D => [some (.ref s42), some (.val p_choices), some (.val p6.1), some (.val p25.1), none]) (s0 := (fun a57 : Unit => p25.2)) (u := some) (enc := fun (s42 : D) (x29 : D) => [some (.ref s42), some (.val p_choices), some (.val p6.1), some (.val p25.1), some (.val x29)]) (enc2 := fun (s42 : D) (x29 : D) (s54 : D) => [some (.ref s54), some (.val p_choices), some (.val p6.1), some (.val p25.1), some (.val x29)]) (encE := fun s54 : D => [some (.ref s54), some (.val p_choices), some (.val p6.1), some (.val p25.1), none]) (st := fun _ s54 => s54) (eq_srcP (φs := [nm 3]) (eps_cons (ev_nm (d := p25.1) rfl) (eps_nil))) (fun _ => rfl) (fun _ => tg_nm rfl) (fun s42 x29 => es_tup (φs := [nm 4, callF xf_l_draw [.sl 0, .ex (cst (.int 10))] []]) (ds := fun a52 : (D × ((D × D) × Unit)) => [a52.1, a52.2.1.1]) (st := fun a52 : (D × ((D × D) × Unit)) => a52.2.1.2) (enc := (fun s53 : D => [some (.ref s53), some (.val p_choices), some (.val p6.1), some (.val p25.1), some (.val x29)])) (xs_p (ev_nm (d := x29) rfl) (xs_s (es_call (sls := fun a45 : (D × Unit) => [.ref s42, .val a45.1]) (cf := fun a45 : (D × Unit) => c_l_draw s42 a45.1) (val := (fun b : D × D => b.1)) (outs := fun (a45 : (D × Unit)) (b46 : D × D) => [.ref b46.2, .val a45.1]) (st := fun (a45 : (D × Unit)) (b46 : D × D) => b46.2) (enc := (fun s47 : D => [some (.ref s47), some (.val p_choices), some (.val p6.1), some (.val p25.1), some (.val x29)])) (xs_sl (s := .ref s42) rfl (xs_p (ev_cst) (xs_nil))) (fun _ => rfl) (fun _ => rfl) (fun a45 => xq_l_draw s42 a45.1) (fun _ _ => rfl)) (fun p48 => xs_nil))) (fun _ => rfl) (fun _ => rfl)) (fun _ _ _ => rfl) (fun _ _ => rfl)) (fun p59 => xs_nil)) (fun _ => rfl) (fun _ => rfl)) (fun p64 => xs_nil))) (fun _ => rfl) (fun _ => rfl)) (fun h => h) (fun _ => rfl) (fun _ => rfl)
    · exact k_retS (w := fun p82 : D × D => (p82.1, p82.2)) (es_tup (φs := [cst (.str "order"), callF xf_l_tiers_drawn [.sl 0, .ex (nm 1)] []]) (ds := fun a80 : (D × ((D × D) × Unit)) => [a80.1, a80.2.1.1]) (st := fun a80 : (D × ((D × D) × Unit)) => a80.2.1.2) (enc := (fun s81 : D => [some (.ref s81), some (.val p_choices), some (.val p6.1), some (.val p25.1), none])) (xs_p (ev_cst) (xs_s (es_call (sls := fun a73 : (D × Unit) => [.ref p25.2, .val a73.1]) (cf := fun a73 : (D × Unit) => c_l_tiers_drawn p25.2 a73.1) (val := (fun b : D × D => b.1)) (outs := fun (a73 : (D × Unit)) (b74 : D × D) => [.ref b74.2, .val a73.1]) (st := fun (a73 : (D × Unit)) (b74 : D × D) => b74.2) (enc := (fun s75 : D => [some (.ref s75), some (.val p_choices), some (.val p6.1), some (.val p25.1), none])) (xs_sl (s := .ref p25.2) rfl (xs_p (ev_nm (d := p_choices) rfl) (xs_nil))) (fun _ => rfl) (fun _ => rfl) (fun a73 => xq_l_tiers_drawn p25.2 a73.1) (fun _ _ => rfl)) (fun p76 => xs_nil))) (fun _ => rfl) (fun _ => rfl)) (fun h => h) (fun _ => rfl) (fun _ => rfl)
/-! ### check_ballot -/
def xb_check_ballot : SS := seq (ifS (bnot (tru (.ex (callF xf_is_ballot [.ex (nm 0), .ex (nm 1)] [])))) (raiseW "BadBallot" "why" (cst (.str "no ballot"))) skip)
  (skip)
def xf_check_ballot : FSem := fnS 2 xb_check_ballot
def c_check_ballot (p_options : D) (p_ballot : D) : R D :=
  ((((c_is_ballot p_options p_ballot).bind fun a1 => trR a1).bind fun b2 => .ok (!b2)).bind fun b3 => if b3 = true then ((R.ok (D.str "no ballot")).bind fun d4 => (.exc ⟨"BadBallot", ["why"], [d4]⟩ : R Empty)).bind fun e5 => nomatch e5 else .ok ()).bind fun _ => .ok D.non
theorem xq_check_ballot (p_options : D) (p_ballot : D) : FnP false xf_check_ballot [p_options, p_ballot] (c_check_ballot p_options p_ballot) :=
  by
  unfold c_check_ballot
  refine fn_bn (T := Unit) (env := fun _ => [some (.val p_options), some (.val p_ballot)]) ?_
  show (kBn (T := Unit) (fun _ => [some (.val p_options), some (.val p_ballot)])).p (xb_check_ballot [some (.val p_options), some (.val p_ballot)]) _
  unfold xb_check_ballot
  refine k_ifx (et_not (et_tru (eo_ex (ev_call2 (f := c_is_ballot) (ea_ex (ev_nm (d := p_options) rfl)) (ea_ex (ev_nm (d := p_ballot) rfl)) xq_is_ballot)))) ?_ ?_
  · exact k_raise (ev_cst)
  · exact k_nil (t := ()) rfl
/-! ### l_told_2 -/
def xb_l_told_2 : SS := seq (setI 2 (cst (.str "fine")))
  (frz 2 (seq (tryAs (ifS (tst (app fIsNot [.ex (callF xf_check_ballot [.ex (nm 0), .ex (nm 1)] []), .ex (cst .non)])) (seq (setI 2 (cst (.str "told")))
  (frz 2 (skip))) (skip)) (tblC "BadBallot") 3 (suC "BadBallot" (fun x => seq (setI 4 (cst (.bl false)))
  (frz 4 (seq (setI 2 (app gItem [.ex (disp mkL [cst (.str "odd"), cst (.str "refused")]), .ex (app fInt [.ex (andE (cst (.bl true)) (notE (.sl 4)))])]))
  (frz 2 (kill 4 (skip))))))))
  (retI 2)))
def xf_l_told_2 : FSem := fnS 5 xb_l_told_2
def c_l_told_2 (p_choices : D) (p_thing : D) : R D :=
  (R.tryX ((((c_check_ballot p_choices p_thing).bind fun a2 => pr (fIsNot [a2, D.non])).bind asB).bind fun b3 => if b3 = true then (noE (.ok (D.str "told"))) else (noE (.ok (D.str "fine")))) "BadBallot" (fun x => ((((trR (D.bl true)).bind fun b6 => if b6 = true then ((trR (D.bl false)).bind fun b4 => .ok (D.bl (!b4))) else .ok (D.bl true)).bind fun a7 => pr (fInt [a7])).bind fun a8 => pr (gItem [D.lst [D.str "odd", D.str "refused"], a8])).bind fun v_told_here_9 => .ok v_told_here_9)).bind fun t1 => .ok t1
theorem xq_l_told_2 (p_choices : D) (p_thing : D) : FnP false xf_l_told_2 [p_choices, p_thing] (c_l_told_2 p_choices p_thing) :=
  by
  refine fn_tl ?_
  show (kTl false (fun d : D => d) yF).p (xb_l_told_2 [some (.val p_choices), some (.val p_thing), none, none, none]) (c_l_told_2 p_choices p_thing)
  unfold xb_l_told_2 c_l_told_2
  refine k_setA (i := 2) (v := D.str "fine") rfl (ev_cst) ?_
  refine k_seqN (env := fun t1 : D => [some (.val p_choices), some (.val p_thing), some (.val t1), none, none]) ?_ (fun t1 => ?_)
  · refine k_tryN rfl ?_ (fun x => ?_) (fun _ => rfl)
    · refine tb_if (et_tst (ev_app2 (eo_ex (ev_call2 (f := c_check_ballot) (ea_ex (ev_nm (d := p_choices) rfl)) (ea_ex (ev_nm (d := p_thing) rfl)) xq_check_ballot)) (eo_ex (ev_cst)))) ?_ ?_
      · refine tb_noE ?_
        refine k_setA (i := 2) (v := D.str "told") rfl (ev_cst) ?_
        exact k_nil (t := D.str "told") rfl
      · refine tb_noE ?_
        exact k_nil (t := D.str "fine") rfl
    · refine k_setA (i := 4) (v := D.bl false) rfl (ev_cst) ?_
      refine k_set (i := 2) rfl (ev_app2 (eo_ex (ev_lst (eps_cons (ev_cst) (eps_cons (ev_cst) (eps_nil))))) (eo_ex (ev_app1 (eo_ex (ev_and (ev_cst) (ev_not (eo_sl (s := .val (D.bl false)) rfl))))))) (fun v_told_here_9 => ?_)
      refine k_kill (i := 4) rfl ?_
      exact k_nil (t := v_told_here_9) rfl
  · exact k_retV (d := t1) rfl rfl trivial
/-! ### l_one -/
def xb_l_one : SS := retE (app gItem [.sl 1, .ex (callF xf_l_draw [.sl 0, .ex (app gLen [.sl 1])] [])])
def xf_l_one : FSem := fnS 2 xb_l_one
def c_l_one (p_well_here : D) (p_some : D) : R (D × D) :=
  (((((pr (gLen [p_some])).bind fun d1 => (R.ok ()).bind fun a2 => .ok (d1, a2)).bind fun a3 => (c_l_draw p_well_here a3.1).bind fun b4 => .ok (b4.1, b4.2)).bind fun p6 => (R.ok ()).bind fun a7 => .ok (p6, a7)).bind fun a8 => (pr (gItem [p_some, a8.1.1])).bind fun d9 => .ok (d9, a8.1.2)).bind fun p11 => .ok (p11.1, p11.2)
theorem xq_l_one (p_well_here : D) (p_some : D) : FnS false xf_l_one [.ref p_well_here, .val p_some] (c_l_one p_well_here p_some) (fun b : D × D => b.1) (fun b => [.ref b.2, .val p_some]) :=
  by
  refine fs_tl ?_
  show (kTl false (fun b : D × D => b.1) (fun b ρ => finA [.ref p_well_here, .val p_some] ρ = [.ref b.2, .val p_some])).p (xb_l_one [some (.ref p_well_here), some (.val p_some)]) (c_l_one p_well_here p_some)
  unfold xb_l_one c_l_one
  exact k_retS (w := fun p11 : D × D => (p11.1, p11.2)) (es_app (ds := fun a8 : ((D × D) × Unit) => [p_some, a8.1.1]) (st := fun a8 : ((D × D) × Unit) => a8.1.2) (enc := (fun s10 : D => [some (.ref s10), some (.val p_some)])) (xs_sl (s := .val p_some) rfl (xs_s (es_call (sls := fun a3 : (D × Unit) => [.ref p_well_here, .val a3.1]) (cf := fun a3 : (D × Unit) => c_l_draw p_well_here a3.1) (val := (fun b : D × D => b.1)) (outs := fun (a3 : (D × Unit)) (b4 : D × D) => [.ref b4.2, .val a3.1]) (st := fun (a3 : (D × Unit)) (b4 : D × D) => b4.2) (enc := (fun s5 : D => [some (.ref s5), some (.val p_some)])) (xs_sl (s := .ref p_well_here) rfl (xs_p (ev_app1 (eo_sl (s := .val p_some) rfl)) (xs_nil))) (fun _ => rfl) (fun _ => rfl) (fun a3 => xq_l_draw p_well_here a3.1) (fun _ _ => rfl)) (fun p6 => xs_nil))) (fun _ => rfl) (fun _ => rfl)) (fun h => h) (fun _ => rfl) (fun _ => rfl)
/-! ### l_odd -/
def xb_l_odd : SS := seq (setI 2 (disp mkL [cst (.str "zzzzzzzz"), cst (.str ""), cst (.str "A"), cst (.str "abcdefghi"), cst .non, cst (.int 0), cst (.bl true), disp mkT [], disp mkT [cst (.str "a")], disp mkL [], app gItem [.sl 1, .ex (cst (.int 0))], app gItem [.sl 1, .ex (app fNeg [.ex (cst (.int 1))])], disp mkT [app gItem [.sl 1, .ex (cst (.int 0))]], cst (.int 9)]))
  (frz 2 (retE (callF xf_l_one [.sl 0, .ex (nm 2)] [])))
def xf_l_odd : FSem := fnS 3 xb_l_odd
def c_l_odd (p_well_here : D) (p_choices : D) : R (D × D) :=
  (lstR [.ok (D.str "zzzzzzzz"), .ok (D.str ""), .ok (D.str "A"), .ok (D.str "abcdefghi"), .ok D.non, .ok (D.int 0), .ok (D.bl true), .ok (D.tup []), .ok (D.tup [D.str "a"]), .ok (D.lst []), pr (gItem [p_choices, D.int 0]), (pr (fNeg [D.int 1])).bind fun a1 => pr (gItem [p_choices, a1]), tupR [pr (gItem [p_choices, D.int 0])], .ok (D.int 9)]).bind fun v_some_2 => ((c_l_one p_well_here v_some_2).bind fun b6 => .ok (b6.1, b6.2)).bind fun p8 => .ok (p8.1, p8.2)
theorem xq_l_odd (p_well_here : D) (p_choices : D) : FnS false xf_l_odd [.ref p_well_here, .val p_choices] (c_l_odd p_well_here p_choices) (fun b : D × D => b.1) (fun b => [.ref b.2, .val p_choices]) :=
  by
  refine fs_tl ?_
  show (kTl false (fun b : D × D => b.1) (fun b ρ => finA [.ref p_well_here, .val p_choices] ρ = [.ref b.2, .val p_choices])).p (xb_l_odd [some (.ref p_well_here), some (.val p_choices), none]) (c_l_odd p_well_here p_choices)
  unfold xb_l_odd c_l_odd
  refine k_set (i := 2) rfl (ev_lst (eps_cons (ev_cst) (eps_cons (ev_cst) (eps_cons (ev_cst) (eps_cons (ev_cst) (eps_cons (ev_cst) (eps_cons (ev_cst) (eps_cons (ev_cst) (eps_cons (ev_tup (eps_nil)) (eps_cons (ev_tup (eps_cons (ev_cst) (eps_nil))) (eps_cons (ev_lst (eps_nil)) (eps_cons (ev_app2 (eo_sl (s := .val p_choices) rfl) (eo_ex (ev_cst))) (eps_cons (ev_app2 (eo_sl (s := .val p_choices) rfl) (eo_ex (ev_app1 (eo_ex (ev_cst))))) (eps_cons (ev_tup (eps_cons (ev_app2 (eo_sl (s := .val p_choices) rfl) (eo_ex (ev_cst))) (eps_nil))) (eps_cons (ev_cst) (eps_nil)))))))))))))))) (fun v_some_2 => ?_)
  exact k_retS (w := fun p8 : D × D => (p8.1, p8.2)) (es_call (sls := fun a5 : (D × Unit) => [.ref p_well_here, .val a5.1]) (cf := fun a5 : (D × Unit) => c_l_one p_well_here a5.1) (val := (fun b : D × D => b.1)) (outs := fun (a5 : (D × Unit)) (b6 : D × D) => [.ref b6.2, .val a5.1]) (st := fun (a5 : (D × Unit)) (b6 : D × D) => b6.2) (enc := (fun s7 : D => [some (.ref s7), some (.val p_choices), some (.val v_some_2)])) (xs_sl (s := .ref p_well_here) rfl (xs_p (ev_nm (d := v_some_2) rfl) (xs_nil))) (fun _ => rfl) (fun _ => rfl) (fun a5 => xq_l_one p_well_here a5.1) (fun _ _ => rfl)) (fun h => h) (fun _ => rfl) (fun _ => rfl)
/-! ### l_bent_2 -/
def xb_l_bent_2 : SS := seq (putS (.tup [.nm 7, .nm 8]) (nm 1))
  (seq (setI 3 (callF xf_l_draw [.sl 0, .ex (cst (.int 8))] []))
  (frz 3 (seq (setI 4 (callF xf_l_odd [.sl 0, .ex (nm 2)] []))
  (frz 4 (seq (ifS (tst (app fEq [.sl 3, .ex (cst (.int 0))])) (seq (setI 9 (disp mkL [cst .non, cst (.str "order"), disp mkT [nm 7], disp mkT [nm 7, nm 8, disp mkT []], disp mkL [nm 7, nm 8], disp mkT [], disp mkT [nm 8, nm 7], nm 7]))
  (frz 9 (retE (callF xf_l_one [.sl 0, .ex (app fAdd [.sl 9, .ex (disp mkL [disp mkT [nm 7, app fList [.sl 8]]])])] [])))) skip)
  (seq (ifS (tst (app fEq [.sl 3, .ex (cst (.int 1))])) (retE (disp mkT [callF xf_l_one [.sl 0, .ex (disp mkL [cst (.str "order"), cst (.str "lets"), cst (.str "marks"), cst (.str "Order"), cst (.str ""), cst .non, cst (.str "ranks"), disp mkT [cst (.str "order")]])] [], nm 8])) skip)
  (seq (ifS (bor (tst (app fEq [.sl 8, .ex (disp mkT [])])) (tst (app fEq [.sl 3, .ex (cst (.int 2))]))) (seq (setI 5 (callF xf_l_draw [.sl 0, .ex (app fAdd [.ex (app gLen [.sl 8]), .ex (cst (.int 1))])] []))
  (frz 5 (retE (disp mkT [nm 7, app fAdd [.ex (app fAdd [.ex (slc (.sl 8) none (some (.ex (nm 5)))), .ex (disp mkT [nm 4])]), .ex (slc (.sl 8) (some (.ex (nm 5))) none)]])))) skip)
  (seq (setI 5 (callF xf_l_draw [.sl 0, .ex (app gLen [.sl 8])] []))
  (frz 5 (seq (setI 6 (app gItem [.sl 8, .sl 5]))
  (frz 6 (seq (ifS (tst (app fEq [.sl 3, .ex (cst (.int 3))])) (retE (disp mkT [nm 7, app fAdd [.ex (app fAdd [.ex (slc (.sl 8) none (some (.ex (nm 5)))), .ex (app fMulT [.ex (slc (.sl 8) (some (.ex (nm 5))) (some (.ex (app fAdd [.sl 5, .ex (cst (.int 1))])))), .ex (cst (.int 2))])]), .ex (slc (.sl 8) (some (.ex (app fAdd [.sl 5, .ex (cst (.int 1))]))) none)]])) skip)
  (seq (ifS (band (tst (app fEq [.sl 3, .ex (cst (.int 4))])) (tru (.ex (app (fIsi "tuple") [.sl 6])))) (seq (setI 10 (callF xf_l_draw [.sl 0, .ex (app gLen [.sl 6])] []))
  (frz 10 (retE (disp mkT [nm 7, app fAdd [.ex (app fAdd [.ex (slc (.sl 8) none (some (.ex (nm 5)))), .ex (disp mkT [app fAdd [.ex (app fAdd [.ex (slc (.sl 6) none (some (.ex (nm 10)))), .ex (disp mkT [nm 4])]), .ex (slc (.sl 6) (some (.ex (app fAdd [.sl 10, .ex (cst (.int 1))]))) none)]])]), .ex (slc (.sl 8) (some (.ex (app fAdd [.sl 5, .ex (cst (.int 1))]))) none)]])))) skip)
  (seq (ifS (band (tst (app fEq [.sl 3, .ex (cst (.int 5))])) (tru (.ex (app (fIsi "tuple") [.sl 6])))) (seq (setI 6 (callF xf_l_one [.sl 0, .ex (disp mkL [app fAdd [.sl 6, .ex (disp mkT [nm 4])], slc (.sl 6) (some (.ex (cst (.int 1)))) none, app fList [.sl 6], app fAdd [.sl 6, .sl 6], disp mkT []])] []))
  (frz 6 (retE (disp mkT [nm 7, app fAdd [.ex (app fAdd [.ex (slc (.sl 8) none (some (.ex (nm 5)))), .ex (disp mkT [nm 6])]), .ex (slc (.sl 8) (some (.ex (app fAdd [.sl 5, .ex (cst (.int 1))]))) none)]])))) skip)
  (seq (ifS (band (tst (app fEq [.sl 3, .ex (cst (.int 6))])) (tst (app fEq [.sl 7, .ex (cst (.str "marks"))]))) (seq (setI 11 (callF xf_l_one [.sl 0, .ex (disp mkL [cst (.int 10), app fNeg [.ex (cst (.int 1))], cst (.bl true), cst (.str "3"), cst .non, cst (.int 9), cst (.int 0), app fPow [.ex (cst (.int 10)), .ex (cst (.int 30))], disp mkT [cst (.int 3)]])] []))
  (frz 11 (retE (disp mkT [nm 7, app fAdd [.ex (app fAdd [.ex (slc (.sl 8) none (some (.ex (nm 5)))), .ex (disp mkT [disp mkT [app gItem [.sl 6, .ex (cst (.int 0))], nm 11]])]), .ex (slc (.sl 8) (some (.ex (app fAdd [.sl 5, .ex (cst (.int 1))]))) none)]])))) skip)
  (retE (disp mkT [nm 7, app fAdd [.ex (app fAdd [.ex (slc (.sl 8) none (some (.ex (nm 5)))), .ex (disp mkT [nm 4])]), .ex (slc (.sl 8) (some (.ex (app fAdd [.sl 5, .ex (cst (.int 1))]))) none)]])))))))))))))))))
def xf_l_bent_2 : FSem := fnS 12 xb_l_bent_2
def c_l_bent_2 (p_well_here : D) (p_slip : D) (p_choices : D) : R (D × D) :=
  (R.ok p_slip).bind fun d2 => (ofO (un2 some some d2)).bind fun t1 => ((c_l_draw p_well_here (D.int 8)).bind fun b6 => .ok (b6.1, b6.2)).bind fun p8 => ((c_l_odd p8.2 p_choices).bind fun b12 => .ok (b12.1, b12.2)).bind fun p14 => ((pr (fEq [p8.1, D.int 0])).bind asB).bind fun b15 => if b15 = true then (((((lstR [tupR [.ok t1.1, pro (fList [t1.2])]]).bind fun a16 => pr (fAdd [D.lst [D.non, D.str "order", D.tup [t1.1], D.tup [t1.1, t1.2, D.tup []], D.lst [t1.1, t1.2], D.tup [], D.tup [t1.2, t1.1], t1.1], a16])).bind fun d17 => (R.ok ()).bind fun a18 => .ok (d17, a18)).bind fun a19 => (c_l_one p14.2 a19.1).bind fun b20 => .ok (b20.1, b20.2)).bind fun p22 => .ok (p22.1, p22.2)) else ((pr (fEq [p8.1, D.int 1])).bind asB).bind fun b23 => if b23 = true then (((((c_l_one p14.2 (D.lst [D.str "order", D.str "lets", D.str "marks", D.str "Order", D.str "", D.non, D.str "ranks", D.tup [D.str "order"]])).bind fun b27 => .ok (b27.1, b27.2)).bind fun p29 => ((R.ok t1.2).bind fun d30 => (R.ok ()).bind fun a31 => .ok (d30, a31)).bind fun a32 => .ok (p29, a32)).bind fun a33 => .ok (D.tup [a33.1.1, a33.2.1], a33.1.2)).bind fun p35 => .ok (p35.1, p35.2)) else (((pr (fEq [t1.2, D.tup []])).bind asB).bind fun b36 => if b36 = true then .ok true else ((pr (fEq [p8.1, D.int 2])).bind asB)).bind fun b37 => if b37 = true then (((((pr (gLen [t1.2])).bind fun a38 => pr (fAdd [a38, D.int 1])).bind fun d39 => (R.ok ()).bind fun a40 => .ok (d39, a40)).bind fun a41 => (c_l_draw p14.2 a41.1).bind fun b42 => .ok (b42.1, b42.2)).bind fun p44 => (tupR [.ok t1.1, ((slR (.ok t1.2) none (some (.ok p44.1))).bind fun a45 => pr (fAdd [a45, D.tup [p14.1]])).bind fun a46 => (slR (.ok t1.2) (some (.ok p44.1)) none).bind fun a47 => pr (fAdd [a46, a47])]).bind fun d48 => .ok (d48, p44.2)) else (((pr (gLen [t1.2])).bind fun d49 => (R.ok ()).bind fun a50 => .ok (d49, a50)).bind fun a51 => (c_l_draw p14.2 a51.1).bind fun b52 => .ok (b52.1, b52.2)).bind fun p54 => (pr (gItem [t1.2, p54.1])).bind fun v_piece_55 => ((pr (fEq [p8.1, D.int 3])).bind asB).bind fun b56 => if b56 = true then ((tupR [.ok t1.1, ((slR (.ok t1.2) none (some (.ok p54.1))).bind fun a58 => ((slR (.ok t1.2) (some (.ok p54.1)) (some (pr (fAdd [p54.1, D.int 1])))).bind fun a57 => pr (fMulT [a57, D.int 2])).bind fun a59 => pr (fAdd [a58, a59])).bind fun a60 => (slR (.ok t1.2) (some (pr (fAdd [p54.1, D.int 1]))) none).bind fun a61 => pr (fAdd [a60, a61])]).bind fun d62 => .ok (d62, p54.2)) else (((pr (fEq [p8.1, D.int 4])).bind asB).bind fun b64 => if b64 = true then ((pr ((fIsi "tuple") [v_piece_55])).bind fun a63 => trR a63) else .ok false).bind fun b65 => if b65 = true then ((((pr (gLen [v_piece_55])).bind fun d66 => (R.ok ()).bind fun a67 => .ok (d66, a67)).bind fun a68 => (c_l_draw p54.2 a68.1).bind fun b69 => .ok (b69.1, b69.2)).bind fun p71 => (tupR [.ok t1.1, ((slR (.ok t1.2) none (some (.ok p54.1))).bind fun a75 => (tupR [((slR (.ok v_piece_55) none (some (.ok p71.1))).bind fun a72 => pr (fAdd [a72, D.tup [p14.1]])).bind fun a73 => (slR (.ok v_piece_55) (some (pr (fAdd [p71.1, D.int 1]))) none).bind fun a74 => pr (fAdd [a73, a74])]).bind fun a76 => pr (fAdd [a75, a76])).bind fun a77 => (slR (.ok t1.2) (some (pr (fAdd [p54.1, D.int 1]))) none).bind fun a78 => pr (fAdd [a77, a78])]).bind fun d79 => .ok (d79, p71.2)) else (((pr (fEq [p8.1, D.int 5])).bind asB).bind fun b81 => if b81 = true then ((pr ((fIsi "tuple") [v_piece_55])).bind fun a80 => trR a80) else .ok false).bind fun b82 => if b82 = true then ((((lstR [pr (fAdd [v_piece_55, D.tup [p14.1]]), slR (.ok v_piece_55) (some (.ok (D.int 1))) none, pro (fList [v_piece_55]), pr (fAdd [v_piece_55, v_piece_55]), .ok (D.tup [])]).bind fun d83 => (R.ok ()).bind fun a84 => .ok (d83, a84)).bind fun a85 => (c_l_one p54.2 a85.1).bind fun b86 => .ok (b86.1, b86.2)).bind fun p88 => (tupR [.ok t1.1, ((slR (.ok t1.2) none (some (.ok p54.1))).bind fun a89 => pr (fAdd [a89, D.tup [p88.1]])).bind fun a90 => (slR (.ok t1.2) (some (pr (fAdd [p54.1, D.int 1]))) none).bind fun a91 => pr (fAdd [a90, a91])]).bind fun d92 => .ok (d92, p88.2)) else (((pr (fEq [p8.1, D.int 6])).bind asB).bind fun b93 => if b93 = true then ((pr (fEq [t1.1, D.str "marks"])).bind asB) else .ok false).bind fun b94 => if b94 = true then ((((lstR [.ok (D.int 10), pr (fNeg [D.int 1]), .ok (D.bl true), .ok (D.str "3"), .ok D.non, .ok (D.int 9), .ok (D.int 0), pr (fPow [D.int 10, D.int 30]), .ok (D.tup [D.int 3])]).bind fun d95 => (R.ok ()).bind fun a96 => .ok (d95, a96)).bind fun a97 => (c_l_one p54.2 a97.1).bind fun b98 => .ok (b98.1, b98.2)).bind fun p100 => (tupR [.ok t1.1, ((slR (.ok t1.2) none (some (.ok p54.1))).bind fun a101 => (tupR [tupR [pr (gItem [v_piece_55, D.int 0]), .ok p100.1]]).bind fun a102 => pr (fAdd [a101, a102])).bind fun a103 => (slR (.ok t1.2) (some (pr (fAdd [p54.1, D.int 1]))) none).bind fun a104 => pr (fAdd [a103, a104])]).bind fun d105 => .ok (d105, p100.2)) else (tupR [.ok t1.1, ((slR (.ok t1.2) none (some (.ok p54.1))).bind fun a106 => pr (fAdd [a106, D.tup [p14.1]])).bind fun a107 => (slR (.ok t1.2) (some (pr (fAdd [p54.1, D.int 1]))) none).bind fun a108 => pr (fAdd [a107, a108])]).bind fun d109 => .ok (d109, p54.2)
theorem xq_l_bent_2 (p_well_here : D) (p_slip : D) (p_choices : D) : FnS false xf_l_bent_2 [.ref p_well_here, .val p_slip, .val p_choices] (c_l_bent_2 p_well_here p_slip p_choices) (fun b : D × D => b.1) (fun b => [.ref b.2, .val p_slip, .val p_choices]) :=
  by
  refine fs_tl ?_
  show (kTl false (fun b : D × D => b.1) (fun b ρ => finA [.ref p_well_here, .val p_slip, .val p_choices] ρ = [.ref b.2, .val p_slip, .val p_choices])).p (xb_l_bent_2 [some (.ref p_well_here), some (.val p_slip), some (.val p_choices), none, none, none, none, none, none, none, none, none]) (c_l_bent_2 p_well_here p_slip p_choices)
  unfold xb_l_bent_2 c_l_bent_2
  refine k_put (u := un2 some some) (enc := fun t1 : D × D => [some (.ref p_well_here), some (.val p_slip), some (.val p_choices), none, none, none, none, some (.val t1.1), some (.val t1.2), none, none, none]) (tg_tup2 (tg_nm rfl) (fun _ => tg_nm rfl)) (ev_nm (d := p_slip) rfl) (fun t1 => ?_)
  refine k_setS (i := 3) (es_call (sls := fun a5 : (D × Unit) => [.ref p_well_here, .val a5.1]) (cf := fun a5 : (D × Unit) => c_l_draw p_well_here a5.1) (val := (fun b : D × D => b.1)) (outs := fun (a5 : (D × Unit)) (b6 : D × D) => [.ref b6.2, .val a5.1]) (st := fun (a5 : (D × Unit)) (b6 : D × D) => b6.2) (enc := (fun s7 : D => [some (.ref s7), some (.val p_slip), some (.val p_choices), none, none, none, none, some (.val t1.1), some (.val t1.2), none, none, none])) (xs_sl (s := .ref p_well_here) rfl (xs_p (ev_cst) (xs_nil))) (fun _ => rfl) (fun _ => rfl) (fun a5 => xq_l_draw p_well_here a5.1) (fun _ _ => rfl)) (fun _ => rfl) (fun p8 => ?_)
  refine k_setS (i := 4) (es_call (sls := fun a11 : (D × Unit) => [.ref p8.2, .val a11.1]) (cf := fun a11 : (D × Unit) => c_l_odd p8.2 a11.1) (val := (fun b : D × D => b.1)) (outs := fun (a11 : (D × Unit)) (b12 : D × D) => [.ref b12.2, .val a11.1]) (st := fun (a11 : (D × Unit)) (b12 : D × D) => b12.2) (enc := (fun s13 : D => [some (.ref s13), some (.val p_slip), some (.val p_choices), some (.val p8.1), none, none, none, some (.val t1.1), some (.val t1.2), none, none, none])) (xs_sl (s := .ref p8.2) rfl (xs_p (ev_nm (d := p_choices) rfl) (xs_nil))) (fun _ => rfl) (fun _ => rfl) (fun a11 => xq_l_odd p8.2 a11.1) (fun _ _ => rfl)) (fun _ => rfl) (fun p14 => ?_)
  refine k_ifrT (et_tst (ev_app2 (eo_sl (s := .val p8.1) rfl) (eo_ex (ev_cst)))) ?_ ?_
  · refine k_setA (i := 9) (v := D.lst [D.non, D.str "order", D.tup [t1.1], D.tup [t1.1, t1.2, D.tup []], D.lst [t1.1, t1.2], D.tup [], D.tup [t1.2, t1.1], t1.1]) rfl (ev_lst (eps_cons (ev_cst) (eps_cons (ev_cst) (eps_cons (ev_tup (eps_cons (ev_nm (d := t1.1) rfl) (eps_nil))) (eps_cons (ev_tup (eps_cons (ev_nm (d := t1.1) rfl) (eps_cons (ev_nm (d := t1.2) rfl) (eps_cons (ev_tup (eps_nil)) (eps_nil))))) (eps_cons (ev_lst (eps_cons (ev_nm (d := t1.1) rfl) (eps_cons (ev_nm (d := t1.2) rfl) (eps_nil)))) (eps_cons (ev_tup (eps_nil)) (eps_cons (ev_tup (eps_cons (ev_nm (d := t1.2) rfl) (eps_cons (ev_nm (d := t1.1) rfl) (eps_nil)))) (eps_cons (ev_nm (d := t1.1) rfl) (eps_nil)))))))))) ?_
    exact k_retS (w := fun p22 : D × D => (p22.1, p22.2)) (es_call (sls := fun a19 : (D × Unit) => [.ref p14.2, .val a19.1]) (cf := fun a19 : (D × Unit) => c_l_one p14.2 a19.1) (val := (fun b : D × D => b.1)) (outs := fun (a19 : (D × Unit)) (b20 : D × D) => [.ref b20.2, .val a19.1]) (st := fun (a19 : (D × Unit)) (b20 : D × D) => b20.2) (enc := (fun s21 : D => [some (.ref s21), some (.val p_slip), some (.val p_choices), some (.val p8.1), some (.val p14.1), none, none, some (.val t1.1), some (.val t1.2), some (.val (D.lst [D.non, D.str "order", D.tup [t1.1], D.tup [t1.1, t1.2, D.tup []], D.lst [t1.1, t1.2], D.tup [], D.tup [t1.2, t1.1], t1.1])), none, none])) (xs_sl (s := .ref p14.2) rfl (xs_p (ev_app2 (eo_sl (s := .val (D.lst [D.non, D.str "order", D.tup [t1.1], D.tup [t1.1, t1.2, D.tup []], D.lst [t1.1, t1.2], D.tup [], D.tup [t1.2, t1.1], t1.1])) rfl) (eo_ex (ev_lst (eps_cons (ev_tup (eps_cons (ev_nm (d := t1.1) rfl) (eps_cons (ev_appo1 (eo_sl (s := .val t1.2) rfl)) (eps_nil)))) (eps_nil))))) (xs_nil))) (fun _ => rfl) (fun _ => rfl) (fun a19 => xq_l_one p14.2 a19.1) (fun _ _ => rfl)) (fun h => h) (fun _ => rfl) (fun _ => rfl)
  · refine k_ifrT (et_tst (ev_app2 (eo_sl (s := .val p8.1) rfl) (eo_ex (ev_cst)))) ?_ ?_
    · exact k_retS (w := fun p35 : D × D => (p35.1, p35.2)) (es_tup (φs := [callF xf_l_one [.sl 0, .ex (disp mkL [cst (.str "order"), cst (.str "lets"), cst (.str "marks"), cst (.str "Order"), cst (.str ""), cst .non, cst (.str "ranks"), disp mkT [cst (.str "order")]])] [], nm 8]) (ds := fun a33 : ((D × D) × (D × Unit)) => [a33.1.1, a33.2.1]) (st := fun a33 : ((D × D) × (D × Unit)) => a33.1.2) (enc := (fun s34 : D => [some (.ref s34), some (.val p_slip), some (.val p_choices), some (.val p8.1), some (.val p14.1), none, none, some (.val t1.1), some (.val t1.2), none, none, none])) (xs_s (es_call (sls := fun a26 : (D × Unit) => [.ref p14.2, .val a26.1]) (cf := fun a26 : (D × Unit) => c_l_one p14.2 a26.1) (val := (fun b : D × D => b.1)) (outs := fun (a26 : (D × Unit)) (b27 : D × D) => [.ref b27.2, .val a26.1]) (st := fun (a26 : (D × Unit)) (b27 : D × D) => b27.2) (enc := (fun s28 : D => [some (.ref s28), some (.val p_slip), some (.val p_choices), some (.val p8.1), some (.val p14.1), none, none, some (.val t1.1), some (.val t1.2), none, none, none])) (xs_sl (s := .ref p14.2) rfl (xs_p (ev_lst (eps_cons (ev_cst) (eps_cons (ev_cst) (eps_cons (ev_cst) (eps_cons (ev_cst) (eps_cons (ev_cst) (eps_cons (ev_cst) (eps_cons (ev_cst) (eps_cons (ev_tup (eps_cons (ev_cst) (eps_nil))) (eps_nil)))))))))) (xs_nil))) (fun _ => rfl) (fun _ => rfl) (fun a26 => xq_l_one p14.2 a26.1) (fun _ _ => rfl)) (fun p29 => xs_p (ev_nm (d := t1.2) rfl) (xs_nil))) (fun _ => rfl) (fun _ => rfl)) (fun h => h) (fun _ => rfl) (fun _ => rfl)
    · refine k_ifrT (et_or (et_tst (ev_app2 (eo_sl (s := .val t1.2) rfl) (eo_ex (ev_tup (eps_nil))))) (et_tst (ev_app2 (eo_sl (s := .val p8.1) rfl) (eo_ex (ev_cst))))) ?_ ?_
      · refine k_setS (i := 5) (es_call (sls := fun a41 : (D × Unit) => [.ref p14.2, .val a41.1]) (cf := fun a41 : (D × Unit) => c_l_draw p14.2 a41.1) (val := (fun b : D × D => b.1)) (outs := fun (a41 : (D × Unit)) (b42 : D × D) => [.ref b42.2, .val a41.1]) (st := fun (a41 : (D × Unit)) (b42 : D × D) => b42.2) (enc := (fun s43 : D => [some (.ref s43), some (.val p_slip), some (.val p_choices), some (.val p8.1), some (.val p14.1), none, none, some (.val t1.1), some (.val t1.2), none, none, none])) (xs_sl (s := .ref p14.2) rfl (xs_p (ev_app2 (eo_ex (ev_app1 (eo_sl (s := .val t1.2) rfl))) (eo_ex (ev_cst))) (xs_nil))) (fun _ => rfl) (fun _ => rfl) (fun a41 => xq_l_draw p14.2 a41.1) (fun _ _ => rfl)) (fun _ => rfl) (fun p44 => ?_)
        exact k_ret (w := fun d48 : D => (d48, p44.2)) (ev_tup (eps_cons (ev_nm (d := t1.1) rfl) (eps_cons (ev_app2 (eo_ex (ev_app2 (eo_ex (ev_slc (eo_sl (s := .val t1.2) rfl) (show EvI none _ none from trivial) (show EvI (some _) _ (some _) from (eo_ex (ev_nm (d := p44.1) rfl))))) (eo_ex (ev_tup (eps_cons (ev_nm (d := p14.1) rfl) (eps_nil)))))) (eo_ex (ev_slc (eo_sl (s := .val t1.2) rfl) (show EvI (some _) _ (some _) from (eo_ex (ev_nm (d := p44.1) rfl))) (show EvI none _ none from trivial)))) (eps_nil)))) (fun h => h) (fun _ => rfl) (fun _ => rfl)
      · refine k_setS (i := 5) (es_call (sls := fun a51 : (D × Unit) => [.ref p14.2, .val a51.1]) (cf := fun a51 : (D × Unit) => c_l_draw p14.2 a51.1) (val := (fun b : D × D => b.1)) (outs := fun (a51 : (D × Unit)) (b52 : D × D) => [.ref b52.2, .val a51.1]) (st := fun (a51 : (D × Unit)) (b52 : D × D) => b52.2) (enc := (fun s53 : D => [some (.ref s53), some (.val p_slip), some (.val p_choices), some (.val p8.1), some (.val p14.1), none, none, some (.val t1.1), some (.val t1.2), none, none, none])) (xs_sl (s := .ref p14.2) rfl (xs_p (ev_app1 (eo_sl (s := .val t1.2) rfl)) (xs_nil))) (fun _ => rfl) (fun _ => rfl) (fun a51 => xq_l_draw p14.2 a51.1) (fun _ _ => rfl)) (fun _ => rfl) (fun p54 => ?_)
        refine k_set (i := 6) rfl (ev_app2 (eo_sl (s := .val t1.2) rfl) (eo_sl (s := .val p54.1) rfl)) (fun v_piece_55 => ?_)
        refine k_ifrT (et_tst (ev_app2 (eo_sl (s := .val p8.1) rfl) (eo_ex (ev_cst)))) ?_ ?_
        · exact k_ret (w := fun d62 : D => (d62, p54.2)) (ev_tup (eps_cons (ev_nm (d := t1.1) rfl) (eps_cons (ev_app2 (eo_ex (ev_app2 (eo_ex (ev_slc (eo_sl (s := .val t1.2) rfl) (show EvI none _ none from trivial) (show EvI (some _) _ (some _) from (eo_ex (ev_nm (d := p54.1) rfl))))) (eo_ex (ev_app2 (eo_ex (ev_slc (eo_sl (s := .val t1.2) rfl) (show EvI (some _) _ (some _) from (eo_ex (ev_nm (d := p54.1) rfl))) (show EvI (some _) _ (some _) from (eo_ex (ev_app2 (eo_sl (s := .val p54.1) rfl) (eo_ex (ev_cst))))))) (eo_ex (ev_cst)))))) (eo_ex (ev_slc (eo_sl (s := .val t1.2) rfl) (show EvI (some _) _ (some _) from (eo_ex (ev_app2 (eo_sl (s := .val p54.1) rfl) (eo_ex (ev_cst))))) (show EvI none _ none from trivial)))) (eps_nil)))) (fun h => h) (fun _ => rfl) (fun _ => rfl)
        · refine k_ifrT (et_and (et_tst (ev_app2 (eo_sl (s := .val p8.1) rfl) (eo_ex (ev_cst)))) (et_tru (eo_ex (ev_app1 (eo_sl (s := .val v_piece_55) rfl))))) ?_ ?_
          · refine k_setS (i := 10) (es_call (sls := fun a68 : (D × Unit) => [.ref p54.2, .val a68.1]) (cf := fun a68 : (D × Unit) => c_l_draw p54.2 a68.1) (val := (fun b : D × D => b.1)) (outs := fun (a68 : (D × Unit)) (b69 : D × D) => [.ref b69.2, .val a68.1]) (st := fun (a68 : (D × Unit)) (b69 : D × D) => b69.2) (enc := (fun s70 : D => [some (.ref s70), some (.val p_slip), some (.val p_choices), some (.val p8.1), some (.val p14.1), some (.val p54.1), some (.val v_piece_55), some (.val t1.1), some (.val t1.2), none, none, none])) (xs_sl (s := .ref p54.2) rfl (xs_p (ev_app1 (eo_sl (s := .val v_piece_55) rfl)) (xs_nil))) (fun _ => rfl) (fun _ => rfl) (fun a68 => xq_l_draw p54.2 a68.1) (fun _ _ => rfl)) (fun _ => rfl) (fun p71 => ?_)
            exact k_ret (w := fun d79 : D => (d79, p71.2)) (ev_tup (eps_cons (ev_nm (d := t1.1) rfl) (eps_cons (ev_app2 (eo_ex (ev_app2 (eo_ex (ev_slc (eo_sl (s := .val t1.2) rfl) (show EvI none _ none from trivial) (show EvI (some _) _ (some _) from (eo_ex (ev_nm (d := p54.1) rfl))))) (eo_ex (ev_tup (eps_cons (ev_app2 (eo_ex (ev_app2 (eo_ex (ev_slc (eo_sl (s := .val v_piece_55) rfl) (show EvI none _ none from trivial) (show EvI (some _) _ (some _) from (eo_ex (ev_nm (d := p71.1) rfl))))) (eo_ex (ev_tup (eps_cons (ev_nm (d := p14.1) rfl) (eps_nil)))))) (eo_ex (ev_slc (eo_sl (s := .val v_piece_55) rfl) (show EvI (some _) _ (some _) from (eo_ex (ev_app2 (eo_sl (s := .val p71.1) rfl) (eo_ex (ev_cst))))) (show EvI none _ none from trivial)))) (eps_nil)))))) (eo_ex (ev_slc (eo_sl (s := .val t1.2) rfl) (show EvI (some _) _ (some _) from (eo_ex (ev_app2 (eo_sl (s := .val p54.1) rfl) (eo_ex (ev_cst))))) (show EvI none _ none from trivial)))) (eps_nil)))) (fun h => h) (fun _ => rfl) (fun _ => rfl)
          · refine k_ifrT (et_and (et_tst (ev_app2 (eo_sl (s := .val p8.1) rfl) (eo_ex (ev_cst)))) (et_tru (eo_ex (ev_app1 (eo_sl (s := .val v_piece_55) rfl))))) ?_ ?_
            · refine k_setS (i := 6) (es_call (sls := fun a85 : (D × Unit) => [.ref p54.2, .val a85.1]) (cf := fun a85 : (D × Unit) => c_l_one p54.2 a85.1) (val := (fun b : D × D => b.1)) (outs := fun (a85 : (D × Unit)) (b86 : D × D) => [.ref b86.2, .val a85.1]) (st := fun (a85 : (D × Unit)) (b86 : D × D) => b86.2) (enc := (fun s87 : D => [some (.ref s87), some (.val p_slip), some (.val p_choices), some (.val p8.1), some (.val p14.1), some (.val p54.1), some (.val v_piece_55), some (.val t1.1), some (.val t1.2), none, none, none])) (xs_sl (s := .ref p54.2) rfl (xs_p (ev_lst (eps_cons (ev_app2 (eo_sl (s := .val v_piece_55) rfl) (eo_ex (ev_tup (eps_cons (ev_nm (d := p14.1) rfl) (eps_nil))))) (eps_cons (ev_slc (eo_sl (s := .val v_piece_55) rfl) (show EvI (some _) _ (some _) from (eo_ex (ev_cst))) (show EvI none _ none from trivial)) (eps_cons (ev_appo1 (eo_sl (s := .val v_piece_55) rfl)) (eps_cons (ev_app2 (eo_sl (s := .val v_piece_55) rfl) (eo_sl (s := .val v_piece_55) rfl)) (eps_cons (ev_tup (eps_nil)) (eps_nil))))))) (xs_nil))) (fun _ => rfl) (fun _ => rfl) (fun a85 => xq_l_one p54.2 a85.1) (fun _ _ => rfl)) (fun _ => rfl) (fun p88 => ?_)
              exact k_ret (w := fun d92 : D => (d92, p88.2)) (ev_tup (eps_cons (ev_nm (d := t1.1) rfl) (eps_cons (ev_app2 (eo_ex (ev_app2 (eo_ex (ev_slc (eo_sl (s := .val t1.2) rfl) (show EvI none _ none from trivial) (show EvI (some _) _ (some _) from (eo_ex (ev_nm (d := p54.1) rfl))))) (eo_ex (ev_tup (eps_cons (ev_nm (d := p88.1) rfl) (eps_nil)))))) (eo_ex (ev_slc (eo_sl (s := .val t1.2) rfl) (show EvI (some _) _ (some _) from (eo_ex (ev_app2 (eo_sl (s := .val p54.1) rfl) (eo_ex (ev_cst))))) (show EvI none _ none from trivial)))) (eps_nil)))) (fun h => h) (fun _ => rfl) (fun _ => rfl)
            · refine k_ifrT (et_and (et_tst (ev_app2 (eo_sl (s := .val p8.1) rfl) (eo_ex (ev_cst)))) (et_tst (ev_app2 (eo_sl (s := .val t1.1) rfl) (eo_ex (ev_cst))))) ?_ ?_
              · refine k_setS (i := 11) (es_call (sls := fun a97 : (D × Unit) => [.ref p54.2, .val a97.1]) (cf := fun a97 : (D × Unit) => c_l_one p54.2 a97.1) (val := (fun b : D × D => b.1)) (outs := fun (a97 : (D × Unit)) (b98 : D × D) => [.ref b98.2, .val a97.1]) (st := fun (a97 : (D × Unit)) (b98 : D × D) => b98.2) (enc := (fun s99 : D => [some (.ref s99), some (.val p_slip), some (.val p_choices), some (.val p8.1), some (.val p14.1), some (.val p54.1), some (.val v_piece_55), some (.val t1.1), some (.val t1.2), none, none, none])) (xs_sl (s := .ref p54.2) rfl (xs_p (ev_lst (eps_cons (ev_cst) (eps_cons (ev_app1 (eo_ex (ev_cst))) (eps_cons (ev_cst) (eps_cons (ev_cst) (eps_cons (ev_cst) (eps_cons (ev_cst) (eps_cons (ev_cst) (eps_cons (ev_app2 (eo_ex (ev_cst)) (eo_ex (ev_cst))) (eps_cons (ev_tup (eps_cons (ev_cst) (eps_nil))) (eps_nil))))))))))) (xs_nil))) (fun _ => rfl) (fun _ => rfl) (fun a97 => xq_l_one p54.2 a97.1) (fun _ _ => rfl)) (fun _ => rfl) (fun p100 => ?_)
                exact k_ret (w := fun d105 : D => (d105, p100.2)) (ev_tup (eps_cons (ev_nm (d := t1.1) rfl) (eps_cons (ev_app2 (eo_ex (ev_app2 (eo_ex (ev_slc (eo_sl (s := .val t1.2) rfl) (show EvI none _ none from trivial) (show EvI (some _) _ (some _) from (eo_ex (ev_nm (d := p54.1) rfl))))) (eo_ex (ev_tup (eps_cons (ev_tup (eps_cons (ev_app2 (eo_sl (s := .val v_piece_55) rfl) (eo_ex (ev_cst))) (eps_cons (ev_nm (d := p100.1) rfl) (eps_nil)))) (eps_nil)))))) (eo_ex (ev_slc (eo_sl (s := .val t1.2) rfl) (show EvI (some _) _ (some _) from (eo_ex (ev_app2 (eo_sl (s := .val p54.1) rfl) (eo_ex (ev_cst))))) (show EvI none _ none from trivial)))) (eps_nil)))) (fun h => h) (fun _ => rfl) (fun _ => rfl)
              · exact k_ret (w := fun d109 : D => (d109, p54.2)) (ev_tup (eps_cons (ev_nm (d := t1.1) rfl) (eps_cons (ev_app2 (eo_ex (ev_app2 (eo_ex (ev_slc (eo_sl (s := .val t1.2) rfl) (show EvI none _ none from trivial) (show EvI (some _) _ (some _) from (eo_ex (ev_nm (d := p54.1) rfl))))) (eo_ex (ev_tup (eps_cons (ev_nm (d := p14.1) rfl) (eps_nil)))))) (eo_ex (ev_slc (eo_sl (s := .val t1.2) rfl) (show EvI (some _) _ (some _) from (eo_ex (ev_app2 (eo_sl (s := .val p54.1) rfl) (eo_ex (ev_cst))))) (show EvI none _ none from trivial)))) (eps_nil)))) (fun h => h) (fun _ => rfl) (fun _ => rfl)
/-! ### l_are_names -/
def xb_l_are_names : SS := seq (setI 2 (comp ⟨[.ex (nm 0)], sSeq⟩ (.nm 4) [4] (bor (bnot (tru (.ex (app (fIsi "str") [.sl 4])))) (tst (app gNotIn [.sl 4, .sl 1]))) (nm 4)))
  (frz 2 (seq (setI 3 (comp ⟨[.ex (nm 0)], sEnumG⟩ (.tup [.nm 5, .nm 4]) [5, 4] (tst (app gNotIn [.sl 4, .ex (slc (.sl 0) none (some (.ex (nm 5))))])) (nm 4)))
  (frz 3 (retE (andE (app fEq [.sl 2, .ex (disp mkL [])]) (app fEq [.ex (app gLen [.sl 0]), .ex (app gLen [.sl 3])]))))))
def xf_l_are_names : FSem := fnS 6 xb_l_are_names
def c_l_are_names (p_some : D) (p_choices : D) : R D :=
  ((ofO (sSeq [p_some])).bind fun i5 => (filR some (fun x1 : D => (((pr ((fIsi "str") [x1])).bind fun a2 => trR a2).bind fun b3 => .ok (!b3)).bind fun b4 => if b4 = true then .ok true else ((pr (gNotIn [x1, p_choices])).bind asB)) (fun x1 : D => .ok x1) i5).bind fun ds6 => .ok (D.lst ds6)).bind fun v_found_7 => ((ofO (sEnumG [p_some])).bind fun i10 => (filR (un2 some some) (fun x8 : D × D => ((slR (.ok p_some) none (some (.ok x8.1))).bind fun a9 => pr (gNotIn [x8.2, a9])).bind asB) (fun x8 : D × D => .ok x8.2) i10).bind fun ds11 => .ok (D.lst ds11)).bind fun v_unlike_12 => (pr (fEq [v_found_7, D.lst []])).bind fun d15 => (trR d15).bind fun b16 => if b16 = true then ((pr (gLen [p_some])).bind fun a13 => (pr (gLen [v_unlike_12])).bind fun a14 => pr (fEq [a13, a14])) else .ok d15
theorem xq_l_are_names (p_some : D) (p_choices : D) : FnP false xf_l_are_names [p_some, p_choices] (c_l_are_names p_some p_choices) :=
  by
  refine fn_tl ?_
  show (kTl false (fun d : D => d) yF).p (xb_l_are_names [some (.val p_some), some (.val p_choices), none, none, none, none]) (c_l_are_names p_some p_choices)
  unfold xb_l_are_names c_l_are_names
  refine k_set (i := 2) rfl (ev_fil (u := some) (enc := fun x1 : D => [some (.val p_some), some (.val p_choices), none, none, some (.val x1), none]) (es_ex (φs := [nm 0]) (eps_cons (ev_nm (d := p_some) rfl) (eps_nil))) rfl rfl (tg_nm rfl) (fun x1 => et_or (et_not (et_tru (eo_ex (ev_app1 (eo_sl (s := .val x1) rfl))))) (et_tst (ev_app2 (eo_sl (s := .val x1) rfl) (eo_sl (s := .val p_choices) rfl)))) (fun x1 => ev_nm (d := x1) rfl)) (fun v_found_7 => ?_)
  refine k_set (i := 3) rfl (ev_fil (u := un2 some some) (enc := fun x8 : D × D => [some (.val p_some), some (.val p_choices), some (.val v_found_7), none, some (.val x8.2), some (.val x8.1)]) (es_ex (φs := [nm 0]) (eps_cons (ev_nm (d := p_some) rfl) (eps_nil))) rfl rfl (tg_tup2 (tg_nm rfl) (fun _ => tg_nm rfl)) (fun x8 => et_tst (ev_app2 (eo_sl (s := .val x8.2) rfl) (eo_ex (ev_slc (eo_sl (s := .val p_some) rfl) (show EvI none _ none from trivial) (show EvI (some _) _ (some _) from (eo_ex (ev_nm (d := x8.1) rfl))))))) (fun x8 => ev_nm (d := x8.2) rfl)) (fun v_unlike_12 => ?_)
  exact k_retP (ev_and (ev_app2 (eo_sl (s := .val v_found_7) rfl) (eo_ex (ev_lst (eps_nil)))) (ev_app2 (eo_ex (ev_app1 (eo_sl (s := .val p_some) rfl))) (eo_ex (ev_app1 (eo_sl (s := .val v_unlike_12) rfl))))) (fun h => h)
/-! ### l_is_order -/
def xb_l_is_order : SS := seq (setI 2 (disp mkL []))
  (frz 2 (seq (forS ⟨[.ex (nm 0)], sSeq⟩ (.nm 3) (seq (ifS (bor (bnot (tru (.ex (app (fIsi "tuple") [.sl 3])))) (tst (app fEq [.sl 3, .ex (disp mkT [])]))) (retE (cst (.bl false))) skip)
  (seq (setI 2 (app fAdd [.sl 2, .ex (app fList [.sl 3])]))
  (frz 2 (kill 3 (skip))))))
  (retE (callF xf_l_are_names [.ex (nm 2), .ex (nm 1)] []))))
def xf_l_is_order : FSem := fnS 4 xb_l_is_order
def c_l_is_order (p_things : D) (p_choices : D) : R D :=
  ((ofO (sSeq [p_things])).bind fun i10 => forB some (fun (t1 : D) (x2 : D) => ((((pr ((fIsi "tuple") [x2])).bind fun a3 => trR a3).bind fun b4 => .ok (!b4)).bind fun b5 => if b5 = true then .ok true else ((pr (fEq [x2, D.tup []])).bind asB)).bind fun b6 => if b6 = true then (R.ok (D.bl false)).bind fun a9 => .ok (.rt a9) else ((pro (fList [x2])).bind fun a7 => pr (fAdd [t1, a7])).bind fun v_some_8 => .ok (.nx v_some_8)) i10 (D.lst [])).bind (LS.el (fun t11 => c_l_are_names t11 p_choices) fun a13 => .ok a13)
theorem xq_l_is_order (p_things : D) (p_choices : D) : FnP false xf_l_is_order [p_things, p_choices] (c_l_is_order p_things p_choices) :=
  by
  refine fn_tl ?_
  show (kTl false (fun d : D => d) yF).p (xb_l_is_order [some (.val p_things), some (.val p_choices), none, none]) (c_l_is_order p_things p_choices)
  unfold xb_l_is_order c_l_is_order
  refine k_setA (i := 2) (v := D.lst []) rfl (ev_lst (eps_nil)) ?_
  refine k_seqT (env := fun t11 : D => [some (.val p_things), some (.val p_choices), some (.val t11), none]) ?_ (fun t11 => ?_)
  · refine k_forB (tg := .nm 3) (env := fun t1 : D => [some (.val p_things), some (.val p_choices), some (.val t1), none]) (u := some) (enc := fun (t1 : D) (x2 : D) => [some (.val p_things), some (.val p_choices), some (.val t1), some (.val x2)]) (t0 := D.lst []) (es_ex (φs := [nm 0]) (eps_cons (ev_nm (d := p_things) rfl) (eps_nil))) rfl (fun t1 => tg_nm rfl) (fun t1 x2 => ?_)
    refine k_ifrB (et_or (et_not (et_tru (eo_ex (ev_app1 (eo_sl (s := .val x2) rfl))))) (et_tst (ev_app2 (eo_sl (s := .val x2) rfl) (eo_ex (ev_tup (eps_nil)))))) ?_ ?_
    · exact k_retP (ev_cst) (fun h => h)
    · refine k_set (i := 2) rfl (ev_app2 (eo_sl (s := .val t1) rfl) (eo_ex (ev_appo1 (eo_sl (s := .val x2) rfl)))) (fun v_some_8 => ?_)
      refine bn_bk (c := .ok v_some_8) ?_
      refine k_kill (i := 3) rfl ?_
      exact k_nil (t := v_some_8) rfl
  · exact k_retP (ev_call2 (f := c_l_are_names) (ea_ex (ev_nm (d := t11) rfl)) (ea_ex (ev_nm (d := p_choices) rfl)) xq_l_are_names) (fun h => h)
/-! ### l_are_marks -/
def xb_l_are_marks : SS := seq (forS ⟨[.ex (nm 0)], sSeq⟩ (.nm 2) (seq (ifS (bor (bnot (tru (.ex (app (fIsi "tuple") [.sl 2])))) (tst (app fNe [.ex (app gLen [.sl 2]), .ex (cst (.int 2))]))) (retE (cst (.bl false))) skip)
  (seq (setI 3 (app gItem [.sl 2, .ex (cst (.int 1))]))
  (frz 3 (seq (ifS (bor (bnot (tru (.ex (app (fIsi "int") [.sl 3])))) (bor (tru (.ex (app (fIsi "bool") [.sl 3]))) (bnot (tst (chn fLe fLe (.ex (cst (.int 0))) (.sl 3) (.ex (cst (.int 9)))))))) (retE (cst (.bl false))) skip)
  (kill 3 (kill 2 (skip))))))))
  (retE (callF xf_l_are_names [.ex (comp ⟨[.ex (nm 0)], sSeq⟩ (.nm 2) [2] (yes) (app gItem [.sl 2, .ex (cst (.int 0))])), .ex (nm 1)] []))
def xf_l_are_marks : FSem := fnS 4 xb_l_are_marks
def c_l_are_marks (p_things : D) (p_choices : D) : R D :=
  ((ofO (sSeq [p_things])).bind fun i18 => forB some (fun (t1 : Unit) (x2 : D) => ((((pr ((fIsi "tuple") [x2])).bind fun a3 => trR a3).bind fun b4 => .ok (!b4)).bind fun b6 => if b6 = true then .ok true else (((pr (gLen [x2])).bind fun a5 => pr (fNe [a5, D.int 2])).bind asB)).bind fun b7 => if b7 = true then (R.ok (D.bl false)).bind fun a17 => .ok (.rt a17) else (pr (gItem [x2, D.int 1])).bind fun v_mark_8 => ((((pr ((fIsi "int") [v_mark_8])).bind fun a9 => trR a9).bind fun b10 => .ok (!b10)).bind fun b14 => if b14 = true then .ok true else (((pr ((fIsi "bool") [v_mark_8])).bind fun a11 => trR a11).bind fun b13 => if b13 = true then .ok true else (((chR fLe fLe (.ok (D.int 0)) (.ok v_mark_8) (.ok (D.int 9))).bind asB).bind fun b12 => .ok (!b12)))).bind fun b15 => if b15 = true then (R.ok (D.bl false)).bind fun a16 => .ok (.rt a16) else .ok (.nx ())) i18 ()).bind (LS.el (fun t19 => ((ofO (sSeq [p_things])).bind fun i21 => (mapR some (fun x20 : D => pr (gItem [x20, D.int 0])) i21).bind fun ds22 => .ok (D.lst ds22)).bind fun a23 => c_l_are_names a23 p_choices) fun a25 => .ok a25)
theorem xq_l_are_marks (p_things : D) (p_choices : D) : FnP false xf_l_are_marks [p_things, p_choices] (c_l_are_marks p_things p_choices) :=
  by
  refine fn_tl ?_
  show (kTl false (fun d : D => d) yF).p (xb_l_are_marks [some (.val p_things), some (.val p_choices), none, none]) (c_l_are_marks p_things p_choices)
  unfold xb_l_are_marks c_l_are_marks
  refine k_seqT (env := fun t19 : Unit => [some (.val p_things), some (.val p_choices), none, none]) ?_ (fun t19 => ?_)
  · refine k_forB (tg := .nm 2) (env := fun t1 : Unit => [some (.val p_things), some (.val p_choices), none, none]) (u := some) (enc := fun (t1 : Unit) (x2 : D) => [some (.val p_things), some (.val p_choices), some (.val x2), none]) (t0 := ()) (es_ex (φs := [nm 0]) (eps_cons (ev_nm (d := p_things) rfl) (eps_nil))) rfl (fun t1 => tg_nm rfl) (fun t1 x2 => ?_)
    refine k_ifrB (et_or (et_not (et_tru (eo_ex (ev_app1 (eo_sl (s := .val x2) rfl))))) (et_tst (ev_app2 (eo_ex (ev_app1 (eo_sl (s := .val x2) rfl))) (eo_ex (ev_cst))))) ?_ ?_
    · exact k_retP (ev_cst) (fun h => h)
    · refine k_set (i := 3) rfl (ev_app2 (eo_sl (s := .val x2) rfl) (eo_ex (ev_cst))) (fun v_mark_8 => ?_)
      refine k_ifrB (et_or (et_not (et_tru (eo_ex (ev_app1 (eo_sl (s := .val v_mark_8) rfl))))) (et_or (et_tru (eo_ex (ev_app1 (eo_sl (s := .val v_mark_8) rfl)))) (et_not (et_tst (ev_chn (eo_ex (ev_cst)) (eo_sl (s := .val v_mark_8) rfl) (eo_ex (ev_cst))))))) ?_ ?_
      · exact k_retP (ev_cst) (fun h => h)
      · refine bn_bk (c := .ok ()) ?_
        refine k_kill (i := 3) rfl ?_
        refine k_kill (i := 2) rfl ?_
        exact k_nil (t := ()) rfl
  · exact k_retP (ev_call2 (f := c_l_are_names) (ea_ex (ev_map (u := some) (enc := fun x20 : D => [some (.val p_things), some (.val p_choices), some (.val x20), none]) (es_ex (φs := [nm 0]) (eps_cons (ev_nm (d := p_things) rfl) (eps_nil))) rfl rfl (tg_nm rfl) (fun x20 => ev_app2 (eo_sl (s := .val x20) rfl) (eo_ex (ev_cst))))) (ea_ex (ev_nm (d := p_choices) rfl)) xq_l_are_names) (fun h => h)
/-! ### l_is_ballot -/
def xb_l_is_ballot : SS := seq (ifS (bor (bnot (tru (.ex (app (fIsi "tuple") [.sl 0])))) (tst (app fNe [.ex (app gLen [.sl 0]), .ex (cst (.int 2))]))) (retE (cst (.bl false))) skip)
  (seq (ifS (bor (bnot (tru (.ex (app (fIsi "str") [.ex (app gItem [.sl 0, .ex (cst (.int 0))])])))) (bnot (tru (.ex (app (fIsi "tuple") [.ex (app gItem [.sl 0, .ex (cst (.int 1))])]))))) (retE (cst (.bl false))) skip)
  (seq (ifS (tst (app gNotIn [.ex (app gItem [.sl 0, .ex (cst (.int 0))]), .ex (disp mkT [cst (.str "order"), cst (.str "lets"), cst (.str "marks")])])) (retE (cst (.bl false))) skip)
  (seq (ifS (tst (app fEq [.ex (app gItem [.sl 0, .ex (cst (.int 0))]), .ex (cst (.str "order"))])) (retE (callF xf_l_is_order [.ex (app gItem [.sl 0, .ex (cst (.int 1))]), .ex (nm 1)] [])) skip)
  (seq (ifS (tst (app fEq [.ex (app gItem [.sl 0, .ex (cst (.int 0))]), .ex (cst (.str "lets"))])) (retE (callF xf_l_are_names [.ex (app fList [.ex (app gItem [.sl 0, .ex (cst (.int 1))])]), .ex (nm 1)] [])) skip)
  (retE (callF xf_l_are_marks [.ex (app gItem [.sl 0, .ex (cst (.int 1))]), .ex (nm 1)] []))))))
def xf_l_is_ballot : FSem := fnS 2 xb_l_is_ballot
def c_l_is_ballot (p_thing : D) (p_choices : D) : R D :=
  ((((pr ((fIsi "tuple") [p_thing])).bind fun a1 => trR a1).bind fun b2 => .ok (!b2)).bind fun b4 => if b4 = true then .ok true else (((pr (gLen [p_thing])).bind fun a3 => pr (fNe [a3, D.int 2])).bind asB)).bind fun b5 => if b5 = true then (.ok (D.bl false)) else (((((pr (gItem [p_thing, D.int 0])).bind fun a6 => pr ((fIsi "str") [a6])).bind fun a7 => trR a7).bind fun b8 => .ok (!b8)).bind fun b12 => if b12 = true then .ok true else ((((pr (gItem [p_thing, D.int 1])).bind fun a9 => pr ((fIsi "tuple") [a9])).bind fun a10 => trR a10).bind fun b11 => .ok (!b11))).bind fun b13 => if b13 = true then (.ok (D.bl false)) else (((pr (gItem [p_thing, D.int 0])).bind fun a14 => pr (gNotIn [a14, D.tup [D.str "order", D.str "lets", D.str "marks"]])).bind asB).bind fun b15 => if b15 = true then (.ok (D.bl false)) else (((pr (gItem [p_thing, D.int 0])).bind fun a16 => pr (fEq [a16, D.str "order"])).bind asB).bind fun b17 => if b17 = true then ((pr (gItem [p_thing, D.int 1])).bind fun a18 => c_l_is_order a18 p_choices) else (((pr (gItem [p_thing, D.int 0])).bind fun a19 => pr (fEq [a19, D.str "lets"])).bind asB).bind fun b20 => if b20 = true then (((pr (gItem [p_thing, D.int 1])).bind fun a21 => pro (fList [a21])).bind fun a22 => c_l_are_names a22 p_choices) else (pr (gItem [p_thing, D.int 1])).bind fun a23 => c_l_are_marks a23 p_choices
theorem xq_l_is_ballot (p_thing : D) (p_choices : D) : FnP false xf_l_is_ballot [p_thing, p_choices] (c_l_is_ballot p_thing p_choices) :=
  by
  refine fn_tl ?_
  show (kTl false (fun d : D => d) yF).p (xb_l_is_ballot [some (.val p_thing), some (.val p_choices)]) (c_l_is_ballot p_thing p_choices)
  unfold xb_l_is_ballot c_l_is_ballot
  refine k_ifrT (et_or (et_not (et_tru (eo_ex (ev_app1 (eo_sl (s := .val p_thing) rfl))))) (et_tst (ev_app2 (eo_ex (ev_app1 (eo_sl (s := .val p_thing) rfl))) (eo_ex (ev_cst))))) ?_ ?_
  · exact k_retP (ev_cst) (fun h => h)
  · refine k_ifrT (et_or (et_not (et_tru (eo_ex (ev_app1 (eo_ex (ev_app2 (eo_sl (s := .val p_thing) rfl) (eo_ex (ev_cst)))))))) (et_not (et_tru (eo_ex (ev_app1 (eo_ex (ev_app2 (eo_sl (s := .val p_thing) rfl) (eo_ex (ev_cst))))))))) ?_ ?_
    · exact k_retP (ev_cst) (fun h => h)
    · refine k_ifrT (et_tst (ev_app2 (eo_ex (ev_app2 (eo_sl (s := .val p_thing) rfl) (eo_ex (ev_cst)))) (eo_ex (ev_tup (eps_cons (ev_cst) (eps_cons (ev_cst) (eps_cons (ev_cst) (eps_nil)))))))) ?_ ?_
      · exact k_retP (ev_cst) (fun h => h)
      · refine k_ifrT (et_tst (ev_app2 (eo_ex (ev_app2 (eo_sl (s := .val p_thing) rfl) (eo_ex (ev_cst)))) (eo_ex (ev_cst)))) ?_ ?_
        · exact k_retP (ev_call2 (f := c_l_is_order) (ea_ex (ev_app2 (eo_sl (s := .val p_thing) rfl) (eo_ex (ev_cst)))) (ea_ex (ev_nm (d := p_choices) rfl)) xq_l_is_order) (fun h => h)
        · refine k_ifrT (et_tst (ev_app2 (eo_ex (ev_app2 (eo_sl (s := .val p_thing) rfl) (eo_ex (ev_cst)))) (eo_ex (ev_cst)))) ?_ ?_
          · exact k_retP (ev_call2 (f := c_l_are_names) (ea_ex (ev_appo1 (eo_ex (ev_app2 (eo_sl (s := .val p_thing) rfl) (eo_ex (ev_cst)))))) (ea_ex (ev_nm (d := p_choices) rfl)) xq_l_are_names) (fun h => h)
          · exact k_retP (ev_call2 (f := c_l_are_marks) (ea_ex (ev_app2 (eo_sl (s := .val p_thing) rfl) (eo_ex (ev_cst)))) (ea_ex (ev_nm (d := p_choices) rfl)) xq_l_are_marks) (fun h => h)
/-! ### law_k11 -/
def xb_law_k11 : SS := seq (forS ⟨[.ex (app fAdd [.ex (disp mkL [callF xf_l_cell_at [.ex (nm 0), .ex (cst (.int 0))] []]), .ex (slc (.sl 0) (some (.ex (cst (.int 1)))) (some (.ex (cst (.int 16)))))])], sSeq⟩ (.nm 1) (seq (setI 2 (callF xf_l_well [.ex (nm 1)] []))
  (seq (setI 3 (callF xf_l_options [.sl 2, .ex (app fAdd [.ex (cst (.int 1)), .ex (callF xf_l_draw [.sl 2, .ex (cst (.int 6))] [])])] []))
  (frz 3 (seq (setI 4 (callF xf_l_ballot [.sl 2, .ex (nm 3)] []))
  (frz 4 (seq (ifS (bor (tst (app fNe [.ex (callF xf_l_told_2 [.ex (nm 3), .ex (nm 4)] []), .ex (cst (.str "fine"))])) (tst (app fIsNot [.ex (callK xf_check_ballot [.ex (nm 4), .ex (nm 3)] [.at 1, .at 0]), .ex (cst .non)]))) (retE (cst (.bl false))) skip)
  (seq (forS ⟨[.ex (cst (.int 3))], sRng1⟩ (.nm 5) (seq (setI 6 (callF xf_l_bent_2 [.sl 2, .ex (nm 4), .ex (nm 3)] []))
  (frz 6 (seq (setI 7 (app fRepr [.ex (disp mkT [nm 3, nm 6])]))
  (frz 7 (seq (setI 8 (app gItem [.ex (disp mkL [cst (.str "refused"), cst (.str "fine")]), .ex (app fInt [.ex (callF xf_l_is_ballot [.ex (nm 6), .ex (nm 3)] [])])]))
  (frz 8 (seq (ifS (bor (tst (app fNe [.ex (callF xf_l_told_2 [.ex (nm 3), .ex (nm 6)] []), .sl 8])) (tst (app fNe [.ex (app fRepr [.ex (disp mkT [nm 3, nm 6])]), .sl 7]))) (retE (cst (.bl false))) skip)
  (kill 8 (kill 7 (kill 6 (kill 5 (skip)))))))))))))
  (kill 4 (kill 3 (kill 2 (kill 1 (skip)))))))))))))
  (retE (cst (.bl true)))
def xf_law_k11 : FSem := fnS 9 xb_law_k11
def c_law_k11 (p_script : D) : R D :=
  ((srR sSeq [(lstR [c_l_cell_at p_script (D.int 0)]).bind fun a1 => (slR (.ok p_script) (some (.ok (D.int 1))) (some (.ok (D.int 16)))).bind fun a2 => pr (fAdd [a1, a2])]).bind fun i58 => forB some (fun (t3 : Unit) (x4 : D) => (c_l_well x4).bind fun v_well_here_5 => (((((R.ok (D.int 1)).bind fun d13 => (((c_l_draw v_well_here_5 (D.int 6)).bind fun b9 => .ok (b9.1, b9.2)).bind fun p11 => (R.ok ()).bind fun a12 => .ok (p11, a12)).bind fun a14 => .ok (d13, a14)).bind fun a15 => (pr (fAdd [a15.1, a15.2.1.1])).bind fun d16 => .ok (d16, a15.2.1.2)).bind fun p18 => (R.ok ()).bind fun a19 => .ok (p18, a19)).bind fun a20 => (c_l_options a20.1.2 a20.1.1).bind fun b21 => .ok (b21.1, b21.2)).bind fun p23 => ((c_l_ballot p23.2 p23.1).bind fun b27 => .ok (b27.1, b27.2)).bind fun p29 => ((((c_l_told_2 p23.1 p29.1).bind fun a30 => pr (fNe [a30, D.str "fine"])).bind asB).bind fun b32 => if b32 = true then .ok true else (((c_check_ballot p23.1 p29.1).bind fun a31 => pr (fIsNot [a31, D.non])).bind asB)).bind fun b33 => if b33 = true then (R.ok (D.bl false)).bind fun a57 => .ok (.rt a57) else ((ofO (sRng1 [D.int 3])).bind fun i53 => forB some (fun (t34 : D) (x35 : D) => ((c_l_bent_2 t34 p29.1 p23.1).bind fun b41 => .ok (b41.1, b41.2)).bind fun p43 => (pr (fRepr [D.tup [p23.1, p43.1]])).bind fun v_shown_44 => (((c_l_is_ballot p43.1 p23.1).bind fun a45 => pr (fInt [a45])).bind fun a46 => pr (gItem [D.lst [D.str "refused", D.str "fine"], a46])).bind fun v_due_47 => ((((c_l_told_2 p23.1 p43.1).bind fun a48 => pr (fNe [a48, v_due_47])).bind asB).bind fun b50 => if b50 = true then .ok true else (((pr (fRepr [D.tup [p23.1, p43.1]])).bind fun a49 => pr (fNe [a49, v_shown_44])).bind asB)).bind fun b51 => if b51 = true then (R.ok (D.bl false)).bind fun a52 => .ok (.rt a52) else .ok (.nx p43.2)) i53 p29.2).bind (LS.el (fun t54 => .ok (.nx ())) fun a56 => .ok (.rt a56))) i58 ()).bind (LS.el (fun t59 => .ok (D.bl true)) fun a61 => .ok a61)
theorem xq_law_k11 (p_script : D) : FnP false xf_law_k11 [p_script] (c_law_k11 p_script) :=
  by
  refine fn_tl ?_
  show (kTl false (fun d : D => d) yF).p (xb_law_k11 [some (.val p_script), none, none, none, none, none, none, none, none]) (c_law_k11 p_script)
  unfold xb_law_k11 c_law_k11
  refine k_seqT (env := fun t59 : Unit => [some (.val p_script), none, none, none, none, none, none, none, none]) ?_ (fun t59 => ?_)
  · refine k_forB (tg := .nm 1) (env := fun t3 : Unit => [some (.val p_script), none, none, none, none, none, none, none, none]) (u := some) (enc := fun (t3 : Unit) (x4 : D) => [some (.val p_script), some (.val x4), none, none, none, none, none, none, none]) (t0 := ()) (es_ex (φs := [app fAdd [.ex (disp mkL [callF xf_l_cell_at [.ex (nm 0), .ex (cst (.int 0))] []]), .ex (slc (.sl 0) (some (.ex (cst (.int 1)))) (some (.ex (cst (.int 16)))))]]) (eps_cons (ev_app2 (eo_ex (ev_lst (eps_cons (ev_call2 (f := c_l_cell_at) (ea_ex (ev_nm (d := p_script) rfl)) (ea_ex (ev_cst)) xq_l_cell_at) (eps_nil)))) (eo_ex (ev_slc (eo_sl (s := .val p_script) rfl) (show EvI (some _) _ (some _) from (eo_ex (ev_cst))) (show EvI (some _) _ (some _) from (eo_ex (ev_cst)))))) (eps_nil))) rfl (fun t3 => tg_nm rfl) (fun t3 x4 => ?_)
    refine k_setO (i := 2) rfl (ev_call1 (f := c_l_well) (ea_ex (ev_nm (d := x4) rfl)) xq_l_well) (fun v_well_here_5 => ?_)
    refine k_setS (i := 3) (es_call (sls := fun a20 : ((D × D) × Unit) => [.ref a20.1.2, .val a20.1.1]) (cf := fun a20 : ((D × D) × Unit) => c_l_options a20.1.2 a20.1.1) (val := (fun b : D × D => b.1)) (outs := fun (a20 : ((D × D) × Unit)) (b21 : D × D) => [.ref b21.2, .val a20.1.1]) (st := fun (a20 : ((D × D) × Unit)) (b21 : D × D) => b21.2) (enc := (fun s22 : D => [some (.val p_script), some (.val x4), some (.own s22), none, none, none, none, none, none])) (xs_sl (s := .own v_well_here_5) rfl (xs_s (es_app (ds := fun a15 : (D × ((D × D) × Unit)) => [a15.1, a15.2.1.1]) (st := fun a15 : (D × ((D × D) × Unit)) => a15.2.1.2) (enc := (fun s17 : D => [some (.val p_script), some (.val x4), some (.own s17), none, none, none, none, none, none])) (xs_p (ev_cst) (xs_s (es_call (sls := fun a8 : (D × Unit) => [.ref v_well_here_5, .val a8.1]) (cf := fun a8 : (D × Unit) => c_l_draw v_well_here_5 a8.1) (val := (fun b : D × D => b.1)) (outs := fun (a8 : (D × Unit)) (b9 : D × D) => [.ref b9.2, .val a8.1]) (st := fun (a8 : (D × Unit)) (b9 : D × D) => b9.2) (enc := (fun s10 : D => [some (.val p_script), some (.val x4), some (.own s10), none, none, none, none, none, none])) (xs_sl (s := .own v_well_here_5) rfl (xs_p (ev_cst) (xs_nil))) (fun _ => rfl) (fun _ => rfl) (fun a8 => xq_l_draw v_well_here_5 a8.1) (fun _ _ => rfl)) (fun p11 => xs_nil))) (fun _ => rfl) (fun _ => rfl)) (fun p18 => xs_nil))) (fun _ => rfl) (fun _ => rfl) (fun a20 => xq_l_options a20.1.2 a20.1.1) (fun _ _ => rfl)) (fun _ => rfl) (fun p23 => ?_)
    refine k_setS (i := 4) (es_call (sls := fun a26 : (D × Unit) => [.ref p23.2, .val a26.1]) (cf := fun a26 : (D × Unit) => c_l_ballot p23.2 a26.1) (val := (fun b : D × D => b.1)) (outs := fun (a26 : (D × Unit)) (b27 : D × D) => [.ref b27.2, .val a26.1]) (st := fun (a26 : (D × Unit)) (b27 : D × D) => b27.2) (enc := (fun s28 : D => [some (.val p_script), some (.val x4), some (.own s28), some (.val p23.1), none, none, none, none, none])) (xs_sl (s := .own p23.2) rfl (xs_p (ev_nm (d := p23.1) rfl) (xs_nil))) (fun _ => rfl) (fun _ => rfl) (fun a26 => xq_l_ballot p23.2 a26.1) (fun _ _ => rfl)) (fun _ => rfl) (fun p29 => ?_)
    refine k_ifrB (et_or (et_tst (ev_app2 (eo_ex (ev_call2 (f := c_l_told_2) (ea_ex (ev_nm (d := p23.1) rfl)) (ea_ex (ev_nm (d := p29.1) rfl)) xq_l_told_2)) (eo_ex (ev_cst)))) (et_tst (ev_app2 (eo_ex (ev_callK2 (f := fun a0 a1 => c_check_ballot a1 a0) (ea_ex (ev_nm (d := p29.1) rfl)) (ea_ex (ev_nm (d := p23.1) rfl)) rfl (fun a0 a1 => xq_check_ballot a1 a0))) (eo_ex (ev_cst))))) ?_ ?_
    · exact k_retP (ev_cst) (fun h => h)
    · refine k_seqB (env := fun t54 : D => [some (.val p_script), some (.val x4), some (.own t54), some (.val p23.1), some (.val p29.1), none, none, none, none]) ?_ (fun t54 => ?_)
      · refine k_forB (tg := .nm 5) (env := fun t34 : D => [some (.val p_script), some (.val x4), some (.own t34), some (.val p23.1), some (.val p29.1), none, none, none, none]) (u := some) (enc := fun (t34 : D) (x35 : D) => [some (.val p_script), some (.val x4), some (.own t34), some (.val p23.1), some (.val p29.1), some (.val x35), none, none, none]) (t0 := p29.2) (es_ex (φs := [cst (.int 3)]) (eps_cons (ev_cst) (eps_nil))) rfl (fun t34 => tg_nm rfl) (fun t34 x35 => ?_)
        refine k_setS (i := 6) (es_call (sls := fun a40 : (D × (D × Unit)) => [.ref t34, .val a40.1, .val a40.2.1]) (cf := fun a40 : (D × (D × Unit)) => c_l_bent_2 t34 a40.1 a40.2.1) (val := (fun b : D × D => b.1)) (outs := fun (a40 : (D × (D × Unit))) (b41 : D × D) => [.ref b41.2, .val a40.1, .val a40.2.1]) (st := fun (a40 : (D × (D × Unit))) (b41 : D × D) => b41.2) (enc := (fun s42 : D => [some (.val p_script), some (.val x4), some (.own s42), some (.val p23.1), some (.val p29.1), some (.val x35), none, none, none])) (xs_sl (s := .own t34) rfl (xs_p (ev_nm (d := p29.1) rfl) (xs_p (ev_nm (d := p23.1) rfl) (xs_nil)))) (fun _ => rfl) (fun _ => rfl) (fun a40 => xq_l_bent_2 t34 a40.1 a40.2.1) (fun _ _ => rfl)) (fun _ => rfl) (fun p43 => ?_)
        refine k_set (i := 7) rfl (ev_app1 (eo_ex (ev_tup (eps_cons (ev_nm (d := p23.1) rfl) (eps_cons (ev_nm (d := p43.1) rfl) (eps_nil)))))) (fun v_shown_44 => ?_)
        refine k_set (i := 8) rfl (ev_app2 (eo_ex (ev_lst (eps_cons (ev_cst) (eps_cons (ev_cst) (eps_nil))))) (eo_ex (ev_app1 (eo_ex (ev_call2 (f := c_l_is_ballot) (ea_ex (ev_nm (d := p43.1) rfl)) (ea_ex (ev_nm (d := p23.1) rfl)) xq_l_is_ballot))))) (fun v_due_47 => ?_)
        refine k_ifrB (et_or (et_tst (ev_app2 (eo_ex (ev_call2 (f := c_l_told_2) (ea_ex (ev_nm (d := p23.1) rfl)) (ea_ex (ev_nm (d := p43.1) rfl)) xq_l_told_2)) (eo_sl (s := .val v_due_47) rfl))) (et_tst (ev_app2 (eo_ex (ev_app1 (eo_ex (ev_tup (eps_cons (ev_nm (d := p23.1) rfl) (eps_cons (ev_nm (d := p43.1) rfl) (eps_nil))))))) (eo_sl (s := .val v_shown_44) rfl)))) ?_ ?_
        · exact k_retP (ev_cst) (fun h => h)
        · refine bn_bk (c := .ok p43.2) ?_
          refine k_kill (i := 8) rfl ?_
          refine k_kill (i := 7) rfl ?_
          refine k_kill (i := 6) rfl ?_
          refine k_kill (i := 5) rfl ?_
          exact k_nil (t := p43.2) rfl
      · refine bn_bk (c := .ok ()) ?_
        refine k_kill (i := 4) rfl ?_
        refine k_kill (i := 3) rfl ?_
        refine k_kill (i := 2) rfl ?_
        refine k_kill (i := 1) rfl ?_
        exact k_nil (t := ()) rfl
  · exact k_retP (ev_cst) (fun h => h)
end VP

namespace VP
open PySem PySem.Spec PyProof.Rows L2 VF
theorem pr_mulL {i j : Int} (h : i.natAbs < 18446744073709551616) : pr (fMul [.int i, .int j]) = .ok (.int (i * j)) := by
  rw [fMul_int, if_pos (.inr (.inl h))]; rfl
theorem pr_mod {i j : Int} (h : j ≠ 0) : pr (fMod [.int i, .int j]) = .ok (.int (i.fmod j)) := by
  show pr (if j ≠ 0 then some (.val (.int (i.fmod j))) else none) = _
  rw [if_pos h]; rfl
theorem pr_fdiv {i j : Int} (h : j ≠ 0) (h2 : j.natAbs < 2 ^ 64) : pr (fFdiv [.int i, .int j]) = .ok (.int (i.fdiv j)) := by
  rw [fFdiv_ok h h2]; rfl
theorem pr_add {i j : Int} : pr (fAdd [.int i, .int j]) = .ok (.int (i + j)) := rfl
theorem pr_sub {i j : Int} : pr (fSub [.int i, .int j]) = .ok (.int (i - j)) := rfl
theorem pr_gt {i j : Int} : pr (fGt [.int i, .int j]) = .ok (.bl (decide (j < i))) := rfl
theorem pr_lt {i j : Int} : pr (fLt [.int i, .int j]) = .ok (.bl (decide (i < j))) := rfl
theorem pr_ge {i j : Int} : pr (fGe [.int i, .int j]) = .ok (.bl (decide (j ≤ i))) := rfl
theorem pr_le {i j : Int} : pr (fLe [.int i, .int j]) = .ok (.bl (decide (i ≤ j))) := rfl
theorem asB_bl {b : Bool} : asB (.bl b) = .ok b := rfl
theorem fmod_lo {i j : Int} (h : 0 < j) : 0 ≤ i.fmod j ∧ i.fmod j < j := ⟨Int.fmod_nonneg_of_pos i h, Int.fmod_lt_of_pos i h⟩
theorem fdiv_nn {i j : Int} (h1 : 0 ≤ i) (h : 0 < j) : 0 ≤ i.fdiv j := by rw [Int.fdiv_eq_ediv_of_nonneg i (by omega)]; exact Int.ediv_nonneg h1 (by omega)
theorem fdiv_le {i j : Int} (h1 : 0 ≤ i) (h : 0 < j) : i.fdiv j ≤ i := by
  rw [Int.fdiv_eq_ediv_of_nonneg i (by omega)]
  exact Int.ediv_le_self j h1
end VP

namespace VP
open PySem PySem.Spec PyProof.Rows L2 VF
theorem atI_ok {α : Type} {ds : List α} {r : Int} (h0 : 0 ≤ r) (h1 : r < ds.length) : ∃ d, ds[r.toNat]? = some d ∧ atI ds r = some d := by
  have hl : r.toNat < ds.length := by omega
  refine ⟨ds[r.toNat], List.getElem?_eq_getElem hl, ?_⟩
  unfold atI ixN
  rw [if_pos h0, if_pos h1]
  exact List.getElem?_eq_getElem hl
theorem item_lst {ds : List D} {r : Int} (h0 : 0 ≤ r) (h1 : r < ds.length) : ∃ d, ds[r.toNat]? = some d ∧ pr (gItem [.lst ds, .int r]) = .ok d := by
  obtain ⟨d, e1, e2⟩ := atI_ok h0 h1
  refine ⟨d, e1, ?_⟩
  show pr ((atI ds r).map .val) = _
  rw [e2]; rfl
theorem item_tup {ds : List D} {r : Int} (h0 : 0 ≤ r) (h1 : r < ds.length) : ∃ d, ds[r.toNat]? = some d ∧ pr (gItem [.tup ds, .int r]) = .ok d := by
  obtain ⟨d, e1, e2⟩ := atI_ok h0 h1
  refine ⟨d, e1, ?_⟩
  show pr ((atI ds r).map .val) = _
  rw [e2]; rfl
/-! ### loops -/
theorem forN_wp {T X : Type} {u : D → Option X} {f : T → X → R T} (P : Nat → T → Prop) : ∀ (xs : List D) (n : Nat) (t : T), P n t → (∀ i x t, xs[i]? = some x → P (n + i) t → ∃ a, u x = some a ∧ (f t a).wp (P (n + i + 1))) → (forN u f xs t).wp (P (n + xs.length))
  | [], n, t, h, _ => R.wp_ok h
  | x :: xs, n, t, h, k => by
    obtain ⟨a, e, h1⟩ := k 0 x t rfl h
    unfold forN
    rw [e]
    refine R.wp_bind h1 fun t' h2 => ?_
    have := forN_wp P xs (n + 1) t' h2 fun i y t e1 h3 => by
      have z := k (i + 1) y t (by simpa using e1) (by rw [show n + (i + 1) = n + 1 + i by omega]; exact h3)
      rw [show n + (i + 1) + 1 = n + 1 + i + 1 by omega] at z
      exact z
    rw [show n + (x :: xs).length = n + 1 + xs.length by simp; omega]
    exact this
end VP

namespace VP
open PySem PySem.Spec PyProof.Rows L2 VF
theorem ne_nil {ds : List D} (h : ∀ d ∈ ds, pl 59 d = true) : pr (fNe [.lst ds, .lst []]) = .ok (.bl (decide (ds ≠ []))) := by
  have h1 : pl 60 (.lst ds) = true := by
    show ds.all (pl 59) = true
    exact List.all_eq_true.mpr h
  show pr (if pl 60 (.lst ds) = true ∧ pl 60 (.lst []) = true then some (.val (.bl (!D.eqs ds []))) else none) = _
  rw [if_pos ⟨h1, rfl⟩]
  cases ds with
  | nil => rfl
  | cons d ds => rfl
theorem perm_at {α : Type} : ∀ {ds : List α} {k : Nat} (h : k < ds.length), (ds[k] :: ds.eraseIdx k).Perm ds
  | d :: ds, 0, _ => .refl _
  | d :: ds, k + 1, h => by
    have ih := perm_at (ds := ds) (k := k) (by simpa using h)
    simp only [List.getElem_cons_succ, List.eraseIdx_cons_succ]
    exact (List.Perm.swap _ _ _).trans (ih.cons d)
theorem pop_ok {ds : List D} {r : Int} (h0 : 0 ≤ r) (h1 : r < ds.length) (h2 : ds.length < 1000000) : ∃ y es, ofO (mPop [.int r] (.lst ds)) = .ok (y, .lst es) ∧ (y :: es).Perm ds := by
  have hl : r.toNat < ds.length := by omega
  refine ⟨ds[r.toNat], ds.eraseIdx r.toNat, ?_, perm_at hl⟩
  have e : seqIndex? r ds.length = some r.toNat := by
    unfold seqIndex?
    simp only [if_neg (show ¬ r < 0 by omega)]
    rw [if_pos (by simp; omega)]
  show ofO (if -(2 ^ 63) ≤ r ∧ r < 2 ^ 63 then (match seqIndex? r ds.length with | some k => (ds[k]?).map fun y => (y, D.lst (ds.eraseIdx k)) | none => none) else none) = _
  rw [if_pos (by omega), e]
  simp only [List.getElem?_eq_getElem hl]
  rfl
theorem app_ok {ds : List D} {d : D} (h2 : ds.length < 1000000) : ofO (mAppend [d] (.lst ds)) = .ok (.non, .lst (ds ++ [d])) := by
  show ofO (if ds.length < sizeLine then some (D.non, D.lst (ds ++ [d])) else none) = _
  rw [if_pos (by rw [sizeLine_eq]; omega)]
  rfl
end VP

namespace VP
open PySem PySem.Spec PyProof.Rows L2 VF
/-- a text by its code points -/
abbrev S (l : List Nat) : Str := ⟨l.toArray⟩
def az : Str := "abcdefghijklmnopqrstuvwxyz"
theorem az_list : az.cps.toList = List.range' 97 26 := by decide +kernel
theorem S_len (l : List Nat) : (S l).length = l.length := rfl
theorem S_app (l m : List Nat) : (S l ++ S m : Str) = S (l ++ m) := by
  show (⟨l.toArray ++ m.toArray⟩ : Str) = _
  simp
theorem S_inj {l m : List Nat} (h : S l = S m) : l = m := by
  have := congrArg (fun z : Str => z.cps.toList) h
  simpa using this
end VP

namespace VP
open PySem PySem.Spec PyProof.Rows L2 VF
def Lt (c : Nat) : Prop := 97 ≤ c ∧ c ≤ 122
theorem item_az {i : Int} (h0 : 0 ≤ i) (h1 : i < 26) : pr (gItem [.str az, .int i]) = .ok (.str (S [97 + i.toNat])) := by
  have hl : az.cps.toList.length = 26 := by rw [az_list]; simp
  obtain ⟨c, e1, e2⟩ := atI_ok (ds := az.cps.toList) (r := i) h0 (by rw [hl]; exact h1)
  have ec : c = 97 + i.toNat := by
    rw [az_list, List.getElem?_eq_getElem (by simp; omega)] at e1
    simp at e1
    omega
  show pr (if az.length ≤ sizeLine then (atI az.cps.toList i).map fun c => .val (.str ⟨#[c]⟩) else none) = _
  rw [if_pos (by decide +kernel), e2, ec]
  rfl
theorem rng1 {n : Int} (h0 : 0 ≤ n) (h1 : n ≤ 1000) : ofO (sRng1 [.int n]) = .ok ((List.range n.toNat).map fun i => .int (i : Nat)) := by
  show ofO (if n ≤ 16777216 ∧ -(2 ^ 62) ≤ n then some ((List.range n.toNat).map fun i => D.int (i : Nat)) else none) = _
  rw [if_pos (by omega)]
  rfl
def sgn (f : Int) (k : Nat) : Nat := 97 + ((f + 5 * (k : Int)).fmod 26).toNat
def nm (f t : Int) (ys : List Nat) (k : Nat) : List Nat := if t = 0 then sgn f k :: ys else if t = 1 then ys ++ [sgn f k] else [sgn f k]
end VP

namespace VP
open PySem PySem.Spec PyProof.Rows L2 VF
def NameOk (l : List Nat) : Prop := 1 ≤ l.length ∧ l.length ≤ 8 ∧ ∀ c ∈ l, Lt c
def ds (l : List Nat) : D := .str (S l)
def dn (ns : List (List Nat)) : D := .tup (ns.map ds)
structure Names (ns : List (List Nat)) : Prop where
  nd : ns.Nodup
  lo : 1 ≤ ns.length
  hi : ns.length ≤ 6
  ok : ∀ l ∈ ns, NameOk l
end VP

namespace VP
open PySem PySem.Spec PyProof.Rows L2 VF
theorem perm_map_inv {α β : Type} {g : α → β} {l1 l2 : List β} (h : l1.Perm l2) : ∀ {ns : List α}, l2 = ns.map g → ∃ ms : List α, l1 = ms.map g ∧ ms.Perm ns := by
  induction h with
  | nil =>
    intro ns e
    cases ns with
    | nil => exact ⟨[], rfl, .refl _⟩
    | cons a as => cases e
  | @cons x l1 l2 p ih =>
    intro ns e
    cases ns with
    | nil => cases e
    | cons a as =>
      cases e
      obtain ⟨ms, rfl, pm⟩ := ih rfl
      exact ⟨a :: ms, rfl, pm.cons a⟩
  | swap x y l =>
    intro ns e
    match ns, e with
    | a :: b :: as, e =>
      cases e
      exact ⟨b :: a :: as, rfl, .swap _ _ _⟩
    | [], e => cases e
    | [_], e => cases e
  | trans p q ih1 ih2 =>
    intro ns e
    obtain ⟨ms, rfl, pm⟩ := ih2 e
    obtain ⟨ks, rfl, pk⟩ := ih1 rfl
    exact ⟨ks, rfl, pk.trans pm⟩
inductive Bal where
  | lets (xs : List (List Nat))
  | marks (ps : List (List Nat × Int))
  | order (ts : List (List (List Nat)))
def BalOk (ns : List (List Nat)) : Bal → Prop
  | .lets xs => xs.Nodup ∧ ∀ x ∈ xs, x ∈ ns
  | .marks ps => (ps.map (·.1)).Nodup ∧ (∀ p ∈ ps, p.1 ∈ ns) ∧ ∀ p ∈ ps, 0 ≤ p.2 ∧ p.2 ≤ 9
  | .order ts => ts.flatten.Nodup ∧ (∀ x ∈ ts.flatten, x ∈ ns) ∧ ∀ t ∈ ts, t ≠ []
end VP

namespace VP
open PySem PySem.Spec PyProof.Rows L2 VF
theorem sIx_hi {n : Nat} {k : Int} {d : Nat} (h : 0 ≤ k) : HT.sIx n d (some k) = min k.toNat n := by
  unfold HT.sIx
  simp
  omega
theorem sl_take {ds : List D} {k : Int} (h : 0 ≤ k) : slR (.ok (.tup ds)) none (some (.ok (.int k))) = .ok (.tup (ds.take k.toNat)) := by
  show pr (some (.val (.tup (VF.cutD ds none (some k))))) = _
  unfold VF.cutD
  rw [sIx_hi h]
  show R.ok (D.tup ((ds.drop 0).take (min k.toNat ds.length - 0))) = _
  rw [List.drop_zero, Nat.sub_zero]
  congr 2
  by_cases hk : k.toNat ≤ ds.length
  · rw [Nat.min_eq_left hk]
  · rw [Nat.min_eq_right (by omega), List.take_of_length_le (Nat.le_refl _), List.take_of_length_le (by omega)]
theorem sl_drop1 {ds : List D} : slR (.ok (.tup ds)) (some (.ok (.int 1))) none = .ok (.tup (ds.drop 1)) := by
  show pr (some (.val (.tup (VF.cutD ds (some 1) none)))) = _
  unfold VF.cutD
  rw [sIx_hi (by decide)]
  show R.ok (D.tup ((ds.drop (min 1 ds.length)).take (ds.length - min 1 ds.length))) = _
  cases ds with
  | nil => rfl
  | cons d ds => simp
theorem fEq_int {i j : Int} : pr (fEq [.int i, .int j]) = .ok (.bl (decide (i = j))) := by
  show pr (some (.val (.bl (i == j)))) = _
  rfl
theorem bal_lets {ns ms : List (List Nat)} {k : Nat} (hn : Names ns) (hp : ms.Perm ns) : BalOk ns (.lets (ms.take k)) :=
  ⟨List.Sublist.nodup (List.take_sublist k ms) (hp.nodup_iff.mpr hn.nd), fun x hx => hp.mem_iff.mp ((List.take_sublist k ms).subset hx)⟩
theorem mapR_ok {T : Type} {u : D → Option T} {f : T → R D} {g : D → D} : ∀ {xs : List D}, (∀ x ∈ xs, ∃ a, u x = some a ∧ f a = .ok (g x)) → mapR u f xs = .ok (xs.map g)
  | [], _ => rfl
  | x :: xs, h => by
    obtain ⟨a, e1, e2⟩ := h x List.mem_cons_self
    unfold mapR
    rw [e1]
    simp only [e2, noE_ok, R.bind_ok, mapR_ok (xs := xs) fun y hy => h y (List.mem_cons_of_mem _ hy)]
    rfl
def dT (t : List (List Nat)) : D := .tup (t.map ds)
theorem pl_dT (t : List (List Nat)) : pl 59 (dT t) = true := by
  show (t.map ds).all (pl 58) = true
  refine List.all_eq_true.mpr fun d hd => ?_
  obtain ⟨l, _, rfl⟩ := List.mem_map.mp hd
  rfl
theorem last_item {xs : List D} {d : D} (h : xs.length < 1000) : pr (gItem [.lst (xs ++ [d]), .int (-1)]) = .ok d := by
  show pr ((atI (xs ++ [d]) (-1)).map .val) = _
  have e : atI (xs ++ [d]) (-1) = some d := by
    unfold atI ixN
    rw [if_neg (by decide), if_pos (by simp; omega)]
    have e2 : ((-1 : Int) + ((xs ++ [d]).length : Nat)).toNat = xs.length := by simp; omega
    simp only [Option.bind_some, e2]
    simp
  rw [e]
  rfl
theorem last_set {xs : List D} {d v : D} (h : xs.length < 1000) : ofO (stG v (.int (-1)) (.lst (xs ++ [d]))) = .ok ((), .lst (xs ++ [v])) := by
  show ofO ((ixN (xs ++ [d]).length (-1)).map fun n => ((), D.lst ((xs ++ [d]).set n v))) = _
  have e : ixN (xs ++ [d]).length (-1) = some xs.length := by
    unfold ixN
    rw [if_neg (by decide), if_pos (by simp; omega)]
    congr 1
    simp
    omega
  rw [e]
  simp only [Option.map_some]
  rw [List.set_append_right _ _ (Nat.le_refl _)]
  simp
end VP

namespace VP
open PySem PySem.Spec PyProof.Rows L2 VF
theorem sl_drop {ds : List D} {k : Int} (h : 0 ≤ k) : slR (.ok (.tup ds)) (some (.ok (.int k))) none = .ok (.tup (ds.drop k.toNat)) := by
  show pr (some (.val (.tup (VF.cutD ds (some k) none)))) = _
  unfold VF.cutD
  rw [sIx_hi h]
  show R.ok (D.tup ((ds.drop (min k.toNat ds.length)).take (ds.length - min k.toNat ds.length))) = _
  congr 2
  by_cases hk : k.toNat ≤ ds.length
  · rw [Nat.min_eq_left hk, List.take_of_length_le (by simp)]
  · rw [Nat.min_eq_right (by omega), List.drop_eq_nil_of_le (Nat.le_refl _), List.drop_eq_nil_of_le (by omega)]
    simp
structure RowsOk (ns : List (List Nat)) (rs : List (Bal × Int)) : Prop where
  len : rs.length ≤ 30
  ok : ∀ r ∈ rs, BalOk ns r.1 ∧ 1 ≤ r.2 ∧ r.2 ≤ 1000000
end VP

namespace VP
open PySem PySem.Spec PyProof.Rows L2 VF
theorem trR_bl {b : Bool} : trR (.bl b) = .ok b := rfl
theorem isi_str {z : Str} : pr (fIsi "str" [.str z]) = .ok (.bl true) := by
  have h : kitB "str" "str" = some true := by decide +kernel
  show pr ((kitB "str" "str").map fun b => .val (.bl b)) = _
  rw [h]; rfl
theorem isi_tup {z : List D} : pr (fIsi "tuple" [.tup z]) = .ok (.bl true) := by
  have h : kitB "tuple" "tuple" = some true := by decide +kernel
  show pr ((kitB "tuple" "tuple").map fun b => .val (.bl b)) = _
  rw [h]; rfl
theorem all_true {ds : List D} (h : ∀ d ∈ ds, d = .bl true) : pr (fAll [.lst ds]) = .ok (.bl true) := by
  have key : ∀ ds : List D, (∀ d ∈ ds, d = .bl true) → ∃ bs : List Bool, allOf D.bl? ds = some bs ∧ bs.all id = true := by
    intro ds
    induction ds with
    | nil => intro _; exact ⟨[], rfl, rfl⟩
    | cons d ds ih =>
      intro h
      obtain ⟨bs, e1, e2⟩ := ih fun x hx => h x (List.mem_cons_of_mem _ hx)
      have ed := h d List.mem_cons_self
      subst ed
      exact ⟨true :: bs, by unfold allOf; rw [e1]; rfl, by simpa using e2⟩
  obtain ⟨bs, e1, e2⟩ := key ds h
  show pr (match allOf D.bl? ds with | some bs => some (.val (.bl (bs.all id))) | none => none) = _
  rw [e1]
  show R.ok (D.bl (bs.all id)) = _
  rw [e2]
end VP

namespace VP
open PySem PySem.Spec PyProof.Rows L2 VF
theorem eq_ds {a b : List Nat} : D.eq (ds a) (ds b) = decide (a = b) := by
  show (S a == S b) = _
  by_cases h : a = b
  · subst h; simp
  · rw [decide_eq_false h]
    exact beq_eq_false_iff_ne.mpr fun z => h (S_inj z)
theorem any_ds {l : List Nat} {ls : List (List Nat)} : (ls.map ds).any (fun e => D.eq e (ds l)) = decide (l ∈ ls) := by
  induction ls with
  | nil => rfl
  | cons a as ih =>
    rw [List.map_cons, List.any_cons, ih, eq_ds]
    by_cases h : a = l
    · subst h; simp
    · rw [decide_eq_false h]
      have h2 : ¬ l = a := fun z => h z.symm
      simp [h2]
theorem pl_all {ls : List (List Nat)} : (ls.map ds).all (pl 60) = true := List.all_eq_true.mpr fun d hd => by
  obtain ⟨l, _, rfl⟩ := List.mem_map.mp hd
  rfl
theorem in_tup {l : List Nat} {ls : List (List Nat)} : pr (gIn [ds l, .tup (ls.map ds)]) = .ok (.bl (decide (l ∈ ls))) := by
  show pr (if pl 60 (ds l) = true ∧ (ls.map ds).all (pl 60) = true then some (.val (.bl ((ls.map ds).any fun e => D.eq e (ds l)))) else none) = _
  rw [if_pos ⟨rfl, pl_all⟩, any_ds]; rfl
theorem notin_tup {l : List Nat} {ls : List (List Nat)} : pr (gNotIn [ds l, .tup (ls.map ds)]) = .ok (.bl (!decide (l ∈ ls))) := by
  show pr (if pl 60 (ds l) = true ∧ (ls.map ds).all (pl 60) = true then some (.val (.bl (!(ls.map ds).any fun e => D.eq e (ds l)))) else none) = _
  rw [if_pos ⟨rfl, pl_all⟩, any_ds]; rfl
theorem notin_lst {l : List Nat} {ls : List (List Nat)} : pr (gNotIn [ds l, .lst (ls.map ds)]) = .ok (.bl (!decide (l ∈ ls))) := by
  show pr (if pl 60 (ds l) = true ∧ (ls.map ds).all (pl 60) = true then some (.val (.bl (!(ls.map ds).any fun e => D.eq e (ds l)))) else none) = _
  rw [if_pos ⟨rfl, pl_all⟩, any_ds]; rfl
theorem sl_takeL {ds : List D} {k : Int} (h : 0 ≤ k) : slR (.ok (.lst ds)) none (some (.ok (.int k))) = .ok (.lst (ds.take k.toNat)) := by
  show pr (some (.own (.lst (VF.cutD ds none (some k))))) = _
  unfold VF.cutD
  rw [sIx_hi h]
  show R.ok (D.lst ((ds.drop 0).take (min k.toNat ds.length - 0))) = _
  rw [List.drop_zero, Nat.sub_zero]
  congr 2
  by_cases hk : k.toNat ≤ ds.length
  · rw [Nat.min_eq_left hk]
  · rw [Nat.min_eq_right (by omega), List.take_of_length_le (Nat.le_refl _), List.take_of_length_le (by omega)]
end VP

namespace VP
open PySem PySem.Spec PyProof.Rows L2 VF
theorem nodup_at {α : Type} {ls : List α} (h : ls.Nodup) {i : Nat} {l : α} (e : ls[i]? = some l) : l ∉ ls.take i := fun z => by
  obtain ⟨j, hj⟩ := List.mem_iff_getElem?.mp z
  have hji : j < i := by
    have := (List.getElem?_eq_some_iff.mp hj).1
    simp at this
    omega
  rw [List.getElem?_take, if_pos hji] at hj
  obtain ⟨hi1, hi2⟩ := List.getElem?_eq_some_iff.mp e
  obtain ⟨hj1, hj2⟩ := List.getElem?_eq_some_iff.mp hj
  exact (List.pairwise_iff_getElem.mp h) j i hj1 hi1 hji (hj2.trans hi2.symm)
theorem enum_mem {xs : List D} {d : D} (h : d ∈ xs.mapIdx fun i d => D.tup [.int (i : Nat), d]) : ∃ i x, xs[i]? = some x ∧ d = .tup [.int (i : Nat), x] := by
  obtain ⟨i, hi⟩ := List.mem_iff_getElem?.mp h
  rw [List.getElem?_mapIdx] at hi
  obtain ⟨x, e1, e2⟩ := Option.map_eq_some_iff.mp hi
  exact ⟨i, x, e1, e2.symm⟩
theorem unlike_tup {ls : List (List Nat)} (h : ls.Nodup) (hl : ls.length ≤ 1000) : c_are_unlike (.tup (ls.map ds)) = .ok (.bl true) := by
  have es : ofO (sEnumG [.tup (ls.map ds)]) = .ok ((ls.map ds).mapIdx fun i d => .tup [.int (i : Nat), d]) := by
    show ofO (if (ls.map ds).length ≤ 1000000 then some ((ls.map ds).mapIdx fun i d => D.tup [.int (i : Nat), d]) else none) = _
    rw [if_pos (by simp; omega)]; rfl
  unfold c_are_unlike
  rw [es, R.bind_ok]
  rw [mapR_ok (g := fun _ => .bl true) fun x hx => ?_]
  · rw [R.bind_ok]
    exact all_true fun d hd => by
      obtain ⟨_, _, rfl⟩ := List.mem_map.mp hd
      rfl
  · obtain ⟨i, y, e1, rfl⟩ := enum_mem hx
    rw [List.getElem?_map] at e1
    obtain ⟨l, e2, rfl⟩ := Option.map_eq_some_iff.mp e1
    refine ⟨(.int (i : Nat), ds l), rfl, ?_⟩
    simp only
    rw [sl_take (by omega), R.bind_ok, ← List.map_take, notin_tup]
    have := nodup_at h e2
    simp [this]
theorem unlike_lst {ls : List (List Nat)} (h : ls.Nodup) (hl : ls.length ≤ 1000) : c_are_unlike (.lst (ls.map ds)) = .ok (.bl true) := by
  have es : ofO (sEnumG [.lst (ls.map ds)]) = .ok ((ls.map ds).mapIdx fun i d => .tup [.int (i : Nat), d]) := by
    show ofO (if (ls.map ds).length ≤ 1000000 then some ((ls.map ds).mapIdx fun i d => D.tup [.int (i : Nat), d]) else none) = _
    rw [if_pos (by simp; omega)]; rfl
  unfold c_are_unlike
  rw [es, R.bind_ok]
  rw [mapR_ok (g := fun _ => .bl true) fun x hx => ?_]
  · rw [R.bind_ok]
    exact all_true fun d hd => by
      obtain ⟨_, _, rfl⟩ := List.mem_map.mp hd
      rfl
  · obtain ⟨i, y, e1, rfl⟩ := enum_mem hx
    rw [List.getElem?_map] at e1
    obtain ⟨l, e2, rfl⟩ := Option.map_eq_some_iff.mp e1
    refine ⟨(.int (i : Nat), ds l), rfl, ?_⟩
    simp only
    rw [sl_takeL (by omega), R.bind_ok, ← List.map_take, notin_lst]
    have := nodup_at h e2
    simp [this]
end VP

namespace VP
open PySem PySem.Spec PyProof.Rows L2 VF
theorem some_of {ns xs : List (List Nat)} (d : D) (hd : d = .tup (xs.map ds) ∨ d = .lst (xs.map ds)) (h1 : xs.Nodup) (h2 : ∀ x ∈ xs, x ∈ ns) (hl : xs.length ≤ 1000) : c_are_some_of d (dn ns) = .ok (.bl true) := by
  have es : ofO (sSeq [d]) = .ok (xs.map ds) := by rcases hd with rfl | rfl <;> rfl
  have em : mapR some (fun x : D => (pr (fIsi "str" [x])).bind fun d2 => (trR d2).bind fun b3 => if b3 = true then (pr (gIn [x, dn ns])) else .ok d2) (xs.map ds) = .ok ((xs.map ds).map fun _ => .bl true) := mapR_ok (g := fun _ => .bl true) fun x hx => by
    obtain ⟨l, hl, rfl⟩ := List.mem_map.mp hx
    refine ⟨_, rfl, ?_⟩
    rw [show pr (fIsi "str" [ds l]) = .ok (.bl true) from isi_str, R.bind_ok, trR_bl, R.bind_ok, if_pos rfl]
    unfold dn
    rw [in_tup, decide_eq_true (h2 l hl)]
  have ea : pr (fAll [.lst ((xs.map ds).map fun _ => D.bl true)]) = .ok (.bl true) := all_true fun d hd => by
    obtain ⟨_, _, rfl⟩ := List.mem_map.mp hd
    rfl
  unfold c_are_some_of
  simp only [es, R.bind_ok, em, ea, trR_bl, if_true]
  rcases hd with rfl | rfl
  · exact unlike_tup h1 hl
  · exact unlike_lst h1 hl
end VP

namespace VP
open PySem PySem.Spec PyProof.Rows L2 VF
theorem fold_ls : ∀ (xs acc : List D), acc.length + xs.length ≤ 1000 → foldM some (fun (x : D) (a : D) => lsR (.ok x) a) xs (.lst acc) = .ok (.lst (acc ++ xs))
  | [], acc, _ => by unfold foldM; rw [List.append_nil]
  | x :: xs, acc, h => by
    unfold foldM
    have e : lsR (.ok x) (.lst acc) = .ok (.lst (acc ++ [x])) := by
      show (if acc.length < sizeLine then R.ok (D.lst (acc ++ [x])) else .bad) = _
      rw [if_pos (by rw [sizeLine_eq]; simp at h; omega)]
    simp only [e, noE_ok, R.bind_ok]
    rw [fold_ls xs (acc ++ [x]) (by simp at h ⊢; omega)]
    simp
end VP

namespace VP
open PySem PySem.Spec PyProof.Rows L2 VF
end VP

namespace VP
open PySem PySem.Spec PyProof.Rows L2 VF
end VP

namespace VP
open PySem PySem.Spec PyProof.Rows L2 VF
abbrev N := List Nat
/-! ### walks -/
theorem R.step {α β : Type} {c : R α} {a : α} {f : α → R β} {r : R β} (h : c = .ok a) (k : f a = r) : c.bind f = r := by rw [h]; exact k
section
variable {α β T : Type}
def mapE (f : α → R β) : List α → R (List β)
  | [] => .ok []
  | x :: xs => (noE (f x)).bind fun d => (mapE f xs).bind fun ds => .ok (d :: ds)
def filE (p : α → R Bool) (f : α → R β) : List α → R (List β)
  | [] => .ok []
  | x :: xs => (noE (p x)).bind fun b => if b = true then (noE (f x)).bind fun d => (filE p f xs).bind fun ds => .ok (d :: ds) else filE p f xs
theorem mapR_enc {u : D → Option T} {f : T → R D} {e : α → D} {e' : α → T} (h : ∀ a, u (e a) = some (e' a)) : ∀ xs : List α, mapR u f (xs.map e) = mapE (fun a => f (e' a)) xs
  | [] => rfl
  | x :: xs => by
    rw [List.map_cons]
    unfold mapR mapE
    rw [h x]
    simp only [mapR_enc h xs]
theorem filR_enc {u : D → Option T} {p : T → R Bool} {f : T → R D} {e : α → D} {e' : α → T} (h : ∀ a, u (e a) = some (e' a)) : ∀ xs : List α, filR u p f (xs.map e) = filE (fun a => p (e' a)) (fun a => f (e' a)) xs
  | [] => rfl
  | x :: xs => by
    rw [List.map_cons]
    unfold filR filE
    rw [h x]
    simp only [filR_enc h xs]
theorem mapR_some {f : D → R D} {e : α → D} (xs : List α) : mapR some f (xs.map e) = mapE (fun a => f (e a)) xs := mapR_enc (fun _ => rfl) xs
theorem filR_some {p : D → R Bool} {f : D → R D} {e : α → D} (xs : List α) : filR some p f (xs.map e) = filE (fun a => p (e a)) (fun a => f (e a)) xs := filR_enc (fun _ => rfl) xs
theorem mapR_un2 {f : D × D → R D} {e1 e2 : α → D} (xs : List α) : mapR (un2 some some) f (xs.map fun a => .tup [e1 a, e2 a]) = mapE (fun a => f (e1 a, e2 a)) xs := mapR_enc (e' := fun a => (e1 a, e2 a)) (fun _ => rfl) xs
theorem mapE_ok (h : α → β) : ∀ xs : List α, mapE (fun a => .ok (h a)) xs = .ok (xs.map h)
  | [] => rfl
  | x :: xs => by unfold mapE; rw [mapE_ok h xs]; rfl
theorem mapE_congr {f g : α → R β} : ∀ {xs : List α}, (∀ a ∈ xs, f a = g a) → mapE f xs = mapE g xs
  | [], _ => rfl
  | x :: xs, h => by
    unfold mapE
    rw [h x List.mem_cons_self, mapE_congr fun a ha => h a (List.mem_cons_of_mem _ ha)]
theorem mapE_eq {f : α → R β} {h : α → β} {xs : List α} (k : ∀ a ∈ xs, f a = .ok (h a)) : mapE f xs = .ok (xs.map h) := (mapE_congr k).trans (mapE_ok h xs)
/-- what is kept is told; nothing is asked of the rest -/
theorem filE_eq {p : α → R Bool} {f : α → R β} {q : α → Bool} {h : α → β} : ∀ {xs : List α}, (∀ a ∈ xs, p a = .ok (q a)) → (∀ a ∈ xs, q a = true → f a = .ok (h a)) → filE p f xs = .ok ((xs.filter q).map h)
  | [], _, _ => rfl
  | x :: xs, h1, h2 => by
    unfold filE
    rw [h1 x List.mem_cons_self, filE_eq (fun a ha => h1 a (List.mem_cons_of_mem _ ha)) fun a ha => h2 a (List.mem_cons_of_mem _ ha)]
    simp only [noE_ok, R.bind_ok]
    cases hq : q x with
    | true => rw [if_pos rfl, List.filter_cons_of_pos hq, h2 x List.mem_cons_self hq]; rfl
    | false => rw [if_neg (by decide), List.filter_cons_of_neg (by rw [hq]; decide)]
end
/-! ### loops -/
section
variable {α S T X A : Type}
/-- a loop that ends at the first hit -/
theorem forB_find {u : D → Option X} {f : Unit → X → R (LS Unit A)} {e : α → D} {e' : α → X} {p : α → Bool} {r : α → A} (hu : ∀ a, u (e a) = some (e' a)) : ∀ (xs : List α), (∀ a ∈ xs, f () (e' a) = .ok (if p a = true then .rt (r a) else .nx ())) → forB u f (xs.map e) () = .ok (match xs.find? p with | some a => .rt (r a) | none => .nx ())
  | [], _ => rfl
  | x :: xs, h => by
    rw [List.map_cons]
    unfold forB
    rw [hu x]
    simp only [h x List.mem_cons_self, R.bind_ok]
    cases hp : p x with
    | true => rw [List.find?_cons_of_pos hp]; rfl
    | false =>
      rw [List.find?_cons_of_neg (by rw [hp]; decide)]
      exact forB_find hu xs fun a ha => h a (List.mem_cons_of_mem _ ha)
end
/-! ### dicts -/
section
variable {α κ : Type} [DecidableEq α] [DecidableEq κ] {k : α → κ} {f : α → D}
def up {β : Type} (f : α → β) (a : α) (d : β) : α → β := fun b => if b = a then d else f b
theorem any_map (hk : ∀ a b, k a = k b → a = b) {a : α} {ks : List α} : ((ks.map k).any fun g => decide (g = k a)) = decide (a ∈ ks) := by
  induction ks with
  | nil => rfl
  | cons b ks ih =>
    rw [List.map_cons, List.any_cons, ih]
    by_cases h : b = a
    · subst h; simp
    · have h2 : ¬ a = b := fun z => h z.symm
      have h3 : ¬ k b = k a := fun z => h (hk _ _ z)
      simp [h2, h3]
end
end VP

namespace VP
open PySem PySem.Spec PyProof.Rows L2 VF
end VP

namespace VP
open PySem PySem.Spec PyProof.Rows L2 VF
theorem all_map {α : Type} {p : α → Bool} {xs : List α} : pr (fAll [.lst (xs.map fun a => .bl (p a))]) = .ok (.bl (xs.all p)) := by
  have e := allOf_map (g := D.bl?) (c := D.bl) (fun a => rfl) (xs.map p)
  rw [List.map_map] at e
  show pr (match allOf D.bl? (xs.map (D.bl ∘ p)) with | some bs => some (.val (.bl (bs.all id))) | none => none) = _
  rw [e]
  show R.ok (D.bl ((xs.map p).all id)) = _
  rw [List.all_map]; rfl
/-! ### heights -/
def ht : Bal → N → Int
  | .lets xs, a => if a ∈ xs then 1 else 0
  | .marks ps, a => ((ps.filter fun p => decide (p.1 = a)).map (·.2)).sum
  | .order ts, a => ((ts.zipIdx.filter fun p => decide (a ∈ p.1)).map fun p => (ts.length : Int) - (p.2 : Nat)).sum
theorem enum_tup {α : Type} {e : α → D} {xs : List α} (h : xs.length ≤ 1000000) : ofO (sEnumG [.tup (xs.map e)]) = .ok (xs.zipIdx.map fun p => .tup [.int (p.2 : Nat), e p.1]) := by
  show ofO (if (xs.map e).length ≤ 1000000 then some ((xs.map e).mapIdx fun i d => D.tup [.int (i : Nat), d]) else none) = _
  rw [if_pos (by simpa using h)]
  show R.ok _ = R.ok _
  congr 1
  apply List.ext_getElem?
  intro i
  simp only [List.getElem?_mapIdx, List.getElem?_map, List.getElem?_zipIdx, Option.map_map]
  cases xs[i]? with
  | none => rfl
  | some a => simp
theorem len_tup {α : Type} {e : α → D} {xs : List α} : pr (gLen [.tup (xs.map e)]) = .ok (.int xs.length) := by
  show R.ok (D.int ((xs.map e).length : Nat)) = _
  rw [List.length_map]
end VP

namespace VP
open PySem PySem.Spec PyProof.Rows L2 VF
theorem seq_tup {xs : List D} : ofO (sSeq [.tup xs]) = .ok xs := rfl
theorem seq_lst {xs : List D} : ofO (sSeq [.lst xs]) = .ok xs := rfl
end VP

namespace VP
open PySem PySem.Spec PyProof.Rows L2 VF
def sg (x y : Int) : Int := (if y < x then 1 else 0) - (if x < y then 1 else 0)
theorem sg_neg (x y : Int) : sg y x = - sg x y := by unfold sg; split <;> split <;> omega
theorem sg_abs (x y : Int) : (sg x y).natAbs ≤ 1 := by unfold sg; split <;> split <;> omega
def mg (rs : List (Bal × Int)) (p : N × N) : Int := (rs.map fun r => r.2 * sg (ht r.1 p.1) (ht r.1 p.2)).sum
theorem mg_neg (rs : List (Bal × Int)) (a b : N) : mg rs (b, a) = - mg rs (a, b) := by
  unfold mg
  induction rs with
  | nil => rfl
  | cons r rs ih =>
    simp only [List.map_cons, List.sum_cons, ih, sg_neg (ht r.1 a) (ht r.1 b)]
    rw [Int.mul_neg]
    omega
def prs (ns : List N) : List (N × N) := ns.flatMap fun a => (ns.filter fun b => !decide (a = b)).map fun b => (a, b)
theorem mem_prs {ns : List N} {p : N × N} : p ∈ prs ns ↔ p.1 ∈ ns ∧ p.2 ∈ ns ∧ p.1 ≠ p.2 := by
  unfold prs
  rw [List.mem_flatMap]
  constructor
  · rintro ⟨a, ha, h⟩
    obtain ⟨b, hb, rfl⟩ := List.mem_map.mp h
    rw [List.mem_filter] at hb
    exact ⟨ha, hb.1, by simpa using hb.2⟩
  · rintro ⟨h1, h2, h3⟩
    exact ⟨p.1, h1, List.mem_map.mpr ⟨p.2, List.mem_filter.mpr ⟨h2, by simpa using h3⟩, rfl⟩⟩
theorem cn_lst {xs : List D} {α : Type} {a : α} : cnR (.lst xs) a = .ok a := rfl
end VP

namespace VP
open PySem PySem.Spec PyProof.Rows L2 VF
theorem add_lst {xs ys : List D} (h : xs.length + ys.length ≤ 1000000) : pr (fAdd [.lst xs, .lst ys]) = .ok (.lst (xs ++ ys)) := by
  show pr (if xs.length + ys.length ≤ sizeLine then some (.own (.lst (xs ++ ys))) else none) = _
  rw [if_pos (by rw [sizeLine_eq]; omega)]; rfl
theorem add_tup {xs ys : List D} (h : xs.length + ys.length ≤ 1000000) : pr (fAdd [.tup xs, .tup ys]) = .ok (.tup (xs ++ ys)) := by
  show pr (if xs.length + ys.length ≤ sizeLine then some (.val (.tup (xs ++ ys))) else none) = _
  rw [if_pos (by rw [sizeLine_eq]; omega)]; rfl
end VP

namespace VP
open PySem PySem.Spec PyProof.Rows L2 VF
theorem forN_wpE {α T X : Type} {u : D → Option X} {f : T → X → R T} {e : α → D} {e' : α → X} (hu : ∀ a, u (e a) = some (e' a)) (P : Nat → T → Prop) (xs : List α) (t : T) (h0 : P 0 t) (h : ∀ i a t, xs[i]? = some a → P i t → (f t (e' a)).wp (P (i + 1))) : (forN u f (xs.map e) t).wp (P xs.length) := by
  have z := forN_wp (u := u) (f := f) P (xs.map e) 0 t h0 fun i x t hx hp => by
    rw [List.getElem?_map] at hx
    obtain ⟨a, ha, rfl⟩ := Option.map_eq_some_iff.mp hx
    refine ⟨_, hu a, ?_⟩
    rw [Nat.zero_add] at hp ⊢
    exact h i a t ha hp
  rw [Nat.zero_add, List.length_map] at z
  exact z
/-- to which options steps lead from o -/
inductive Rch (ns : List N) (st : N → N → Prop) (o : N) : N → Prop
  | refl : Rch ns st o o
  | step {a b : N} : Rch ns st o a → b ∈ ns → st a b → Rch ns st o b
/-- a way from o to a -/
structure WayOk (ns : List N) (st : N → N → Prop) (o a : N) (l : List N) : Prop where
  hd : l.head? = some o
  lt : l.getLast? = some a
  nd : l.Nodup
  sub : ∀ x ∈ l, x ∈ ns
  ch : ∀ i a b, l[i]? = some a → l[i + 1]? = some b → st a b
/-- what the ways found tell -/
structure WaysOk (ns : List N) (st : N → N → Prop) (o : N) (ks : List N) (w : N → List N) : Prop where
  nd : ks.Nodup
  sub : ∀ a ∈ ks, a ∈ ns
  rch : ∀ a, a ∈ ks ↔ Rch ns st o a
  way : ∀ a ∈ ks, WayOk ns st o a (w a)
/-- what stands within the search -/
structure WInv (ns : List N) (st : N → N → Prop) (o : N) (ks : List N) (w : N → List N) (line : List N) : Prop where
  nd : ks.Nodup
  sub : ∀ a ∈ ks, a ∈ ns
  rch : ∀ a ∈ ks, Rch ns st o a
  way : ∀ a ∈ ks, WayOk ns st o a (w a)
  inn : ∀ a ∈ ks, ∀ x ∈ w a, x ∈ ks
  ori : o ∈ ks
  lin : ∀ a ∈ line, a ∈ ks
theorem nodup_len {ns ks : List N} (h1 : ks.Nodup) (h2 : ∀ x ∈ ks, x ∈ ns) : ks.length ≤ ns.length := List.Nodup.length_le_of_subset h1 h2
end VP

namespace VP
open PySem PySem.Spec PyProof.Rows L2 VF
/-- the options that lead to all -/
def Tops (ns : List N) (st : N → N → Prop) (a : N) : Prop := ∀ b ∈ ns, Rch ns st a b
noncomputable def cdec (p : Prop) : Bool := @decide p (Classical.propDecidable p)
theorem cdec_iff {p : Prop} : cdec p = true ↔ p := by unfold cdec; exact @decide_eq_true_iff p (Classical.propDecidable p)
/-! ### plain: the least lot -/
theorem Rch.trans {ns : List N} {st : N → N → Prop} {a b c : N} (h1 : Rch ns st a b) (h2 : Rch ns st b c) : Rch ns st a c := by
  induction h2 with
  | refl => exact h1
  | step _ h4 h5 ih => exact .step ih h4 h5
theorem Rch.congr {ns ms : List N} (h : ∀ a, a ∈ ns ↔ a ∈ ms) {st : N → N → Prop} {a b : N} (r : Rch ns st a b) : Rch ms st a b := by
  induction r with
  | refl => exact .refl
  | step _ h4 h5 ih => exact .step ih ((h _).mp h4) h5
theorem Tops.congr {ns ms : List N} (h : ∀ a, a ∈ ns ↔ a ∈ ms) {st : N → N → Prop} {a : N} : Tops ns st a ↔ Tops ms st a :=
  ⟨fun z b hb => (z b ((h b).mpr hb)).congr h, fun z b hb => (z b ((h b).mp hb)).congr fun x => (h x).symm⟩
end VP

namespace VP
open PySem PySem.Spec PyProof.Rows L2 VF
/-! ### lots -/
def lotsF (f : List (List N)) (ms : List N) : List (List N) := ms.foldl (fun f a => f ++ f.map (· ++ [a])) f
def lots (ns : List N) : List (List N) := lotsF [[]] ns
theorem srR1 {f : List D → Option (List D)} {a : R D} : srR f [a] = a.bind fun x => ofO (f [x]) := by
  cases a <;> rfl
end VP

namespace VP
open PySem PySem.Spec PyProof.Rows L2 VF
theorem forB_unit {α X A : Type} {u : D → Option X} {f : Unit → X → R (LS Unit A)} {e : α → D} {e' : α → X} (hu : ∀ a, u (e a) = some (e' a)) : ∀ (xs : List α), (∀ a ∈ xs, (f () (e' a)).wp fun s => s = .nx ()) → forB u f (xs.map e) () = .ok (.nx ())
  | [], _ => rfl
  | x :: xs, k => by
    rw [List.map_cons]
    unfold forB
    rw [hu x]
    obtain ⟨s, e1, e2⟩ := k x List.mem_cons_self
    subst e2
    simp only [e1, R.bind_ok]
    exact forB_unit hu xs fun a ha => k a (List.mem_cons_of_mem _ ha)
end VP

/-! Ps1: how strong ways are. -/
namespace VP
open PySem PySem.Spec PyProof.Rows L2 VF
/-- steps of so great margins -/
def stp (T : N × N → Int) (v : Int) (a b : N) : Prop := v ≤ T (a, b)
structure IsStr (ns : List N) (T : N × N → Int) (a b : N) (S : Int) : Prop where
  way : Rch ns (stp T S) a b
  top : ∀ v, Rch ns (stp T v) a b → v ≤ S
theorem IsStr.uniq {ns : List N} {T : N × N → Int} {a b : N} {S S' : Int} (h : IsStr ns T a b S) (h' : IsStr ns T a b S') : S = S' := by
  have := h.top _ h'.way
  have := h'.top _ h.way
  omega
theorem Rch.weak {ns : List N} {st st' : N → N → Prop} {a b : N} (h : Rch ns st a b) (k : ∀ x y, st x y → st' x y) : Rch ns st' a b := by
  induction h with
  | refl => exact .refl
  | step _ h4 h5 ih => exact .step ih h4 (k _ _ h5)
theorem Rch.mem {ns : List N} {st : N → N → Prop} {a b : N} (h : Rch ns st a b) (ha : a ∈ ns) : b ∈ ns := by
  cases h with
  | refl => exact ha
  | step _ h4 _ => exact h4
/-- steps to other options alone matter -/
theorem Rch.conv {ns : List N} {st st' : N → N → Prop} {a b : N} (h : Rch ns st a b) (ha : a ∈ ns) (k : ∀ x y, x ∈ ns → y ∈ ns → x ≠ y → st x y → st' x y) : Rch ns st' a b := by
  induction h with
  | refl => exact .refl
  | @step c d h3 h4 h5 ih =>
    by_cases e : c = d
    · subst e; exact ih
    · exact .step ih h4 (k c d (h3.mem ha) h4 e h5)
/-- some step is as great -/
theorem Rch.some_step {ns : List N} {st : N → N → Prop} {a b : N} (h : Rch ns st a b) (ha : a ∈ ns) (hab : a ≠ b) : ∃ x y, x ∈ ns ∧ y ∈ ns ∧ x ≠ y ∧ st x y := by
  induction h with
  | refl => exact absurd rfl hab
  | @step c d h3 h4 h5 ih =>
    by_cases e : c = d
    · subst e; exact ih hab
    · exact ⟨c, d, h3.mem ha, h4, e, h5⟩
/-- the least of the values from v on -/
theorem least_from {v : Int} : ∀ {xs : List Int}, (∃ x ∈ xs, v ≤ x) → ∃ u ∈ xs, v ≤ u ∧ ∀ x ∈ xs, v ≤ x → u ≤ x
  | [], ⟨x, hx, _⟩ => by cases hx
  | y :: ys, h => by
    by_cases hy : ∃ x ∈ ys, v ≤ x
    · obtain ⟨u, hu, h1, h2⟩ := least_from hy
      by_cases hz : v ≤ y ∧ y < u
      · refine ⟨y, List.mem_cons_self, hz.1, fun x hx hv => ?_⟩
        rcases List.mem_cons.mp hx with rfl | hx
        · exact Int.le_refl _
        · have := h2 x hx hv; omega
      · refine ⟨u, List.mem_cons_of_mem _ hu, h1, fun x hx hv => ?_⟩
        rcases List.mem_cons.mp hx with rfl | hx
        · omega
        · exact h2 x hx hv
    · obtain ⟨x, hx, hv⟩ := h
      rcases List.mem_cons.mp hx with rfl | hx
      · refine ⟨x, List.mem_cons_self, hv, fun z hz hv2 => ?_⟩
        rcases List.mem_cons.mp hz with rfl | hz
        · exact Int.le_refl _
        · exact absurd ⟨z, hz, hv2⟩ hy
      · exact absurd ⟨x, hx, hv⟩ hy
def vals (ns : List N) (T : N × N → Int) : List Int := (prs ns).map T
theorem mem_vals {ns : List N} {T : N × N → Int} {a b : N} (ha : a ∈ ns) (hb : b ∈ ns) (h : a ≠ b) : T (a, b) ∈ vals ns T := List.mem_map.mpr ⟨(a, b), mem_prs.mpr ⟨ha, hb, h⟩, rfl⟩
theorem strong_val {ns : List N} {T : N × N → Int} {a b : N} {v : Int} (h : Rch ns (stp T v) a b) (ha : a ∈ ns) (hab : a ≠ b) : ∃ u ∈ vals ns T, v ≤ u ∧ Rch ns (stp T u) a b := by
  obtain ⟨x, y, hx, hy, hxy, hs⟩ := h.some_step ha hab
  obtain ⟨u, hu, h1, h2⟩ := least_from (v := v) (xs := vals ns T) ⟨_, mem_vals hx hy hxy, hs⟩
  exact ⟨u, hu, h1, h.conv ha fun c d hc hd hcd hs => h2 _ (mem_vals hc hd hcd) hs⟩
/-- the first of falling values that leads there -/
theorem first_str {ns : List N} {T : N × N → Int} {a b : N} (ha : a ∈ ns) (hb : b ∈ ns) (hab : a ≠ b) : ∃ S rest, ((isort (vals ns T)).reverse.filter fun v => cdec (Rch ns (stp T v) a b)) = S :: rest ∧ IsStr ns T a b S := by
  have hm : ∀ v, v ∈ (isort (vals ns T)).reverse ↔ v ∈ vals ns T := fun v => by rw [List.mem_reverse, (isort_perm _).mem_iff]
  have hs : (isort (vals ns T)).reverse.Pairwise (· ≥ ·) := List.pairwise_reverse.mpr (isort_sorted _)
  cases e : ((isort (vals ns T)).reverse.filter fun v => cdec (Rch ns (stp T v) a b)) with
  | nil =>
    exfalso
    have : T (a, b) ∈ ((isort (vals ns T)).reverse.filter fun v => cdec (Rch ns (stp T v) a b)) := List.mem_filter.mpr ⟨(hm _).mpr (mem_vals ha hb hab), cdec_iff.mpr (.step .refl hb (Int.le_refl _))⟩
    rw [e] at this
    cases this
  | cons S rest =>
    refine ⟨S, rest, rfl, ?_, fun v hv => ?_⟩
    · have : S ∈ ((isort (vals ns T)).reverse.filter fun v => cdec (Rch ns (stp T v) a b)) := by rw [e]; exact List.mem_cons_self
      exact cdec_iff.mp (List.mem_filter.mp this).2
    · obtain ⟨u, hu, h1, h2⟩ := strong_val hv ha hab
      have hin : u ∈ ((isort (vals ns T)).reverse.filter fun v => cdec (Rch ns (stp T v) a b)) := List.mem_filter.mpr ⟨(hm u).mpr hu, cdec_iff.mpr h2⟩
      have hp : (S :: rest).Pairwise (· ≥ ·) := by rw [← e]; exact List.Pairwise.filter _ hs
      rw [e] at hin
      rcases List.mem_cons.mp hin with rfl | hin
      · exact h1
      · have := (List.pairwise_cons.mp hp).1 u hin
        omega
noncomputable def Sg (ns : List N) (T : N × N → Int) (p : N × N) : Int := @dite Int (∃ S, IsStr ns T p.1 p.2 S) (Classical.propDecidable _) (fun h => Classical.choose h) fun _ => 0
theorem Sg_eq {ns : List N} {T : N × N → Int} {a b : N} {S : Int} (h : IsStr ns T a b S) : Sg ns T (a, b) = S := by
  have hx : ∃ S, IsStr ns T a b S := ⟨S, h⟩
  unfold Sg
  rw [dif_pos hx]
  exact (Classical.choose_spec hx).uniq h
theorem Sg_str {ns : List N} {T : N × N → Int} {a b : N} (ha : a ∈ ns) (hb : b ∈ ns) (hab : a ≠ b) : IsStr ns T a b (Sg ns T (a, b)) := by
  obtain ⟨S, _, _, h⟩ := first_str (T := T) ha hb hab
  rw [Sg_eq h]
  exact h
/-! ### the program's -/
theorem item0_lst {d : D} {ds : List D} : pr (gItem [.lst (d :: ds), .int 0]) = .ok d := by
  obtain ⟨x, e1, e2⟩ := item_lst (ds := d :: ds) (r := 0) (by decide) (by simp only [List.length_cons]; omega)
  have e1 : some d = some x := e1
  cases e1
  exact e2
theorem item0_tup {d : D} {ds : List D} : pr (gItem [.tup (d :: ds), .int 0]) = .ok d := by
  obtain ⟨x, e1, e2⟩ := item_tup (ds := d :: ds) (r := 0) (by decide) (by simp only [List.length_cons]; omega)
  have e1 : some d = some x := e1
  cases e1
  exact e2
end VP

/-! Ps2: all ways, gone through. -/
namespace VP
open PySem PySem.Spec PyProof.Rows L2 VF
/-- a way that meets no option twice -/
structure Simple (ns : List N) (a b : N) (w : List N) : Prop where
  hd : w.head? = some a
  lt : w.getLast? = some b
  nd : w.Nodup
  sub : ∀ x ∈ w, x ∈ ns
/-- the beginning of such a way -/
structure Pre (ns : List N) (a b : N) (p : List N) : Prop where
  hd : p.head? = some a
  nd : p.Nodup
  sub : ∀ x ∈ p, x ∈ ns
  nob : b ∉ p
theorem Pre.ext {ns : List N} {a b x : N} {p : List N} (h : Pre ns a b p) (hx : x ∈ ns) (hp : x ∉ p) (hb : x ≠ b) : Pre ns a b (p ++ [x]) := by
  refine ⟨?_, ?_, ?_, ?_⟩
  · have h0 := h.hd
    cases p with
    | nil => cases h0
    | cons c p => exact h0
  · rw [List.nodup_append]
    exact ⟨h.nd, by simp, fun y hy z hz e => by rw [List.mem_singleton.mp hz] at e; rw [e] at hy; exact hp hy⟩
  · intro y hy
    rcases List.mem_append.mp hy with hy | hy
    · exact h.sub y hy
    · rw [List.mem_singleton.mp hy]; exact hx
  · intro z
    rcases List.mem_append.mp z with z | z
    · exact h.nob z
    · exact hb (List.mem_singleton.mp z).symm
theorem Pre.fin {ns : List N} {a b : N} {p : List N} (h : Pre ns a b p) (hb : b ∈ ns) : Simple ns a b (p ++ [b]) := by
  refine ⟨?_, by simp, ?_, ?_⟩
  · have h0 := h.hd
    cases p with
    | nil => cases h0
    | cons c p => exact h0
  · rw [List.nodup_append]
    exact ⟨h.nd, by simp, fun y hy z hz e => by rw [List.mem_singleton.mp hz] at e; rw [e] at hy; exact h.nob hy⟩
  · intro y hy
    rcases List.mem_append.mp hy with hy | hy
    · exact h.sub y hy
    · rw [List.mem_singleton.mp hy]; exact hb
end VP

/-! Ps3: the strongest way, by going through all. -/
namespace VP
open PySem PySem.Spec PyProof.Rows L2 VF
def steps (T : N × N → Int) (w : List N) : List Int := (List.range (w.length - 1)).map fun i => T (w.getD i [], w.getD (i + 1) [])
theorem Simple.len {ns : List N} {a b : N} {w : List N} (h : Simple ns a b w) (hab : a ≠ b) : 2 ≤ w.length := by
  have h1 := h.hd
  have h2 := h.lt
  match w, h1, h2 with
  | [c], h1, h2 => cases h1; cases h2; exact absurd rfl hab
  | c :: d :: r, _, _ => simp
end VP

/-! Ps4: who wins by ways. -/
namespace VP
open PySem PySem.Spec PyProof.Rows L2 VF
def Win (ns : List N) (T : N × N → Int) (a : N) : Prop := ∀ b ∈ ns, b ≠ a → ¬ Sg ns T (a, b) < Sg ns T (b, a)
end VP

/-! Ps5: the law k42. -/
namespace VP
open PySem PySem.Spec PyProof.Rows L2 VF
/-! ### some win always -/
theorem Sg_tri {ns : List N} {T : N × N → Int} {a b c : N} (ha : a ∈ ns) (hb : b ∈ ns) (hc : c ∈ ns) (hab : a ≠ b) (hbc : b ≠ c) (hac : a ≠ c) {v : Int} (h1 : v ≤ Sg ns T (a, b)) (h2 : v ≤ Sg ns T (b, c)) : v ≤ Sg ns T (a, c) := by
  have s1 := (Sg_str (T := T) ha hb hab).way
  have s2 := (Sg_str (T := T) hb hc hbc).way
  have r1 : Rch ns (stp T v) a b := s1.weak fun x y h => Int.le_trans h1 h
  have r2 : Rch ns (stp T v) b c := s2.weak fun x y h => Int.le_trans h2 h
  exact (Sg_str (T := T) ha hc hac).top v (r1.trans r2)
def Bt (ns : List N) (T : N × N → Int) (a b : N) : Prop := a ≠ b ∧ Sg ns T (b, a) < Sg ns T (a, b)
theorem Bt.trans {ns : List N} {T : N × N → Int} {a b c : N} (ha : a ∈ ns) (hb : b ∈ ns) (hc : c ∈ ns) (h1 : Bt ns T a b) (h2 : Bt ns T b c) : Bt ns T a c := by
  obtain ⟨n1, h1⟩ := h1
  obtain ⟨n2, h2⟩ := h2
  have hac : a ≠ c := fun z => by subst z; omega
  refine ⟨hac, ?_⟩
  rcases Int.le_total (Sg ns T (b, c)) (Sg ns T (a, b)) with h | h
  · have k1 : Sg ns T (b, c) ≤ Sg ns T (a, c) := Sg_tri ha hb hc n1 n2 hac h (Int.le_refl _)
    have k2 : Sg ns T (c, a) < Sg ns T (b, c) := by
      refine Classical.byContradiction fun z => ?_
      have := Sg_tri (v := Sg ns T (b, c)) hc ha hb (fun z => hac z.symm) n1 (fun z => n2 z.symm) (by omega) h
      omega
    omega
  · have k1 : Sg ns T (a, b) ≤ Sg ns T (a, c) := Sg_tri ha hb hc n1 n2 hac (Int.le_refl _) h
    have k2 : Sg ns T (c, a) < Sg ns T (a, b) := by
      refine Classical.byContradiction fun z => ?_
      have := Sg_tri (v := Sg ns T (a, b)) hb hc ha n2 (fun z => hac z.symm) (fun z => n1 z.symm) h (by omega)
      omega
    omega
/-! ### twice over; another order -/
theorem mg_twice (rs : List (Bal × Int)) : mg (rs ++ rs) = fun p => 2 * mg rs p := by
  funext p
  unfold mg
  rw [List.map_append, List.sum_append]
  omega
theorem Sg_twice {ns : List N} {T : N × N → Int} {a b : N} (ha : a ∈ ns) (hb : b ∈ ns) (hab : a ≠ b) : Sg ns (fun p => 2 * T p) (a, b) = 2 * Sg ns T (a, b) := by
  have s := Sg_str (T := T) ha hb hab
  apply Sg_eq
  refine ⟨s.way.weak fun x y h => ?_, fun v hv => ?_⟩
  · have h : Sg ns T (a, b) ≤ T (x, y) := h
    show 2 * Sg ns T (a, b) ≤ 2 * T (x, y)
    omega
  · have := s.top ((v + 1) / 2) (hv.weak fun x y h => by
      have h : v ≤ 2 * T (x, y) := h
      show (v + 1) / 2 ≤ T (x, y)
      omega)
    omega
theorem Win.twice {ns : List N} {rs : List (Bal × Int)} {a : N} (ha : a ∈ ns) : Win ns (mg (rs ++ rs)) a ↔ Win ns (mg rs) a := by
  rw [mg_twice]
  unfold Win
  constructor
  · intro h b hb hne
    have := h b hb hne
    rw [Sg_twice ha hb fun z => hne z.symm, Sg_twice hb ha hne] at this
    omega
  · intro h b hb hne
    rw [Sg_twice ha hb fun z => hne z.symm, Sg_twice hb ha hne]
    have := h b hb hne
    omega
/-! ### lot by the rule ways -/
end VP

/-! Pk1: margins asked one by one, covers. -/
namespace VP
open PySem PySem.Spec PyProof.Rows L2 VF
def oth (ns : List N) (a : N) : List N := ns.filter fun b => !decide (b = a)
/-- how they stand -/
def stn (rs : List (Bal × Int)) (p : N × N) : Int := sg (mg rs p) 0
end VP

/-! Pk2: plain: covers, and the papers that the program tells. -/
namespace VP
open PySem PySem.Spec PyProof.Rows L2 VF
theorem stn_neg {rs : List (Bal × Int)} {a b : N} : stn rs (b, a) = - stn rs (a, b) := by
  unfold stn
  rw [mg_neg rs a b]
  unfold sg
  split <;> split <;> split <;> split <;> omega
theorem stn_hi {rs : List (Bal × Int)} {p : N × N} : stn rs p ≤ 1 ∧ -1 ≤ stn rs p := by
  have := sg_abs (mg rs p) 0
  unfold stn
  omega
theorem stn_pos {rs : List (Bal × Int)} {p : N × N} : stn rs p = 1 ↔ 0 < mg rs p := by
  unfold stn sg
  split <;> split <;> omega
/-- what it is to cover -/
structure Cov (ns : List N) (rs : List (Bal × Int)) (a b : N) : Prop where
  ne : a ≠ b
  bt : stn rs (a, b) = 1
  al : ∀ c ∈ ns, c ≠ a → c ≠ b → stn rs (b, c) ≤ stn rs (a, c)
theorem Cov.trans {ns : List N} {rs : List (Bal × Int)} {a b c : N} (ha : a ∈ ns) (hb : b ∈ ns) (hc : c ∈ ns) (h1 : Cov ns rs a b) (h2 : Cov ns rs b c) : Cov ns rs a c := by
  have hac : a ≠ c := by
    rintro rfl
    have := h1.bt
    have e := stn_neg (rs := rs) (a := a) (b := b)
    have := h2.bt
    omega
  refine ⟨hac, ?_, fun d hd h3 h4 => ?_⟩
  · have := h1.al c hc (fun z => hac z.symm) fun z => h2.ne z.symm
    have e := h2.bt
    have := (stn_hi (rs := rs) (p := (a, c))).1
    omega
  · by_cases h5 : d = b
    · subst h5
      have := h1.bt
      have := (stn_hi (rs := rs) (p := (c, d))).1
      omega
    · have := h1.al d hd h3 h5
      have := h2.al d hd h5 h4
      omega
theorem tup2R {a : D} {c : R D} : tupR [.ok a, c] = c.bind fun x => .ok (.tup [a, x]) := by
  unfold tupR
  cases c <;> rfl
end VP

/-! Pk3: drawn papers. -/
namespace VP
open PySem PySem.Spec PyProof.Rows L2 VF
/-- a drawn way -/
structure WF (ns : List N) (a o : N) (w : List N) : Prop where
  nd : w.Nodup
  sub : ∀ x ∈ w, x ∈ ns
  lo : 2 ≤ w.length
  hd : w.head? = some a
  lt : w.getLast? = some o
end VP

/-! Pk4: papers of the top lot that are let by tell what is so. -/
namespace VP
open PySem PySem.Spec PyProof.Rows L2 VF
/-- is_not_lost of a drawn way -/
theorem tup_last {d : D} {xs : List D} (h : xs.getLast? = some d) : pr (gItem [.tup xs, .int (-1)]) = .ok d := by
  have hne : xs ≠ [] := fun z => by rw [z] at h; cases h
  have hl : 0 < xs.length := List.length_pos_iff.mpr hne
  rw [List.getLast?_eq_getElem?] at h
  show pr ((atI xs (-1)).map .val) = _
  have e : atI xs (-1) = some d := by
    unfold atI ixN
    rw [if_neg (by decide), if_pos (by omega)]
    show xs[(-1 + (xs.length : Int)).toNat]? = _
    rw [show (-1 + (xs.length : Int)).toNat = xs.length - 1 by omega]
    exact h
  rw [e]; rfl
end VP

/-! Pk5: papers of the uncovered ones; the law k37. -/
namespace VP
open PySem PySem.Spec PyProof.Rows L2 VF
theorem script_cut {ns : List Int} {lo hi : Int} : ∃ ms : List Int, ms.length ≤ ns.length ∧ slR (.ok (.lst (ns.map .int))) (some (.ok (.int lo))) (some (.ok (.int hi))) = .ok (.lst (ms.map .int)) := by
  refine ⟨(ns.drop (HT.sIx ns.length 0 (some lo))).take (HT.sIx ns.length ns.length (some hi) - HT.sIx ns.length 0 (some lo)), ?_, ?_⟩
  · rw [List.length_take, List.length_drop]; omega
  · show pr (some (.own (.lst (VF.cutD (ns.map D.int) (some lo) (some hi))))) = _
    unfold VF.cutD
    rw [List.length_map, List.map_take, List.map_drop]
    rfl
end VP

/-! Pr1: leader and trailer. -/
namespace VP
open PySem PySem.Spec PyProof.Rows L2 VF
def ledB (ns : List N) (rs : List (Bal × Int)) (z : Int) (a : N) : Bool := (oth ns a).all fun b => decide (stn rs (a, b) = z)
def lead (ns : List N) (rs : List (Bal × Int)) : Option N := ns.find? (ledB ns rs 1)
end VP

/-! Pr2: what is told depends on who beats whom alone. -/
namespace VP
open PySem PySem.Spec PyProof.Rows L2 VF
/-- the same standings -/
def Alike (ns : List N) (rs qs : List (Bal × Int)) : Prop := ∀ a ∈ ns, ∀ b ∈ ns, stn rs (a, b) = stn qs (a, b)
theorem Alike.symm {ns : List N} {rs qs : List (Bal × Int)} (h : Alike ns rs qs) : Alike ns qs rs := fun a ha b hb => (h a ha b hb).symm
end VP

/-! Pr3: the rules "top" and "uncovered". -/
namespace VP
open PySem PySem.Spec PyProof.Rows L2 VF
end VP

/-! Pr4: heights in orders, tier by tier. -/
namespace VP
open PySem PySem.Spec PyProof.Rows L2 VF
end VP

/-! Pr5: the height in an order, by its tiers. -/
namespace VP
open PySem PySem.Spec PyProof.Rows L2 VF
end VP

/-! Pr6: an order and the same turned about cancel. -/
namespace VP
open PySem PySem.Spec PyProof.Rows L2 VF
end VP

/-! Pr7: ballots cut to some names. -/
namespace VP
open PySem PySem.Spec PyProof.Rows L2 VF
end VP

/-! Pr8: an option more, behind all others. -/
namespace VP
open PySem PySem.Spec PyProof.Rows L2 VF
structure Last (ns : List N) (rs : List (Bal × Int)) (z : N) : Prop where
  out : z ∉ ns
  ah : ∀ a ∈ ns, 0 < mg rs (a, z)
theorem Last.st {ns : List N} {rs : List (Bal × Int)} {z : N} (h : Last ns rs z) {a : N} (ha : a ∈ ns) : stn rs (a, z) = 1 ∧ stn rs (z, a) = -1 := by
  have := stn_pos.mpr (h.ah a ha)
  have e := stn_neg (rs := rs) (a := a) (b := z)
  exact ⟨this, by rw [e, this]⟩
theorem Rch.mono {ns ms : List N} (h : ∀ a ∈ ns, a ∈ ms) {st : N → N → Prop} {a b : N} (r : Rch ns st a b) : Rch ms st a b := by
  induction r with
  | refl => exact .refl
  | step _ h4 h5 ih => exact .step ih (h _ h4) h5
/-! ### full orders -/
end VP

/-! Pr9: the law k38. -/
namespace VP
open PySem PySem.Spec PyProof.Rows L2 VF
end VP

/-! Pt1: what is none of the options; who asks for it. -/
namespace VP
open PySem PySem.Spec PyProof.Rows L2 VF
end VP

/-! Pt2: the law k35. -/
namespace VP
open PySem PySem.Spec PyProof.Rows L2 VF
end VP

/-! Pt3: the law k31. -/
namespace VP
open PySem PySem.Spec PyProof.Rows L2 VF
theorem ne_refl {d : D} (h : pl 60 d = true) : pr (fNe [d, d]) = .ok (.bl false) := by
  show pr (if pl 60 d = true ∧ pl 60 d = true then some (.val (.bl (!D.eq d d))) else none) = _
  rw [if_pos ⟨h, h⟩, D.eq_refl d 60 h]
  rfl
theorem all_cg {α : Type} {p q : α → Bool} : ∀ {l : List α}, (∀ a ∈ l, p a = q a) → l.all p = l.all q
  | [], _ => rfl
  | a :: l, h => by
    rw [List.all_cons, List.all_cons, h a List.mem_cons_self, all_cg fun b hb => h b (List.mem_cons_of_mem _ hb)]
end VP

/-! Pt4: pairs drawn; the law k39. -/
namespace VP
open PySem PySem.Spec PyProof.Rows L2 VF
end VP

/-! Pu1: small plain data; repr of them. -/
namespace VP
open PySem PySem.Spec PyProof.Rows L2 VF
/-- small plain data: at most 20 things within each, of a depth below n -/
def fit : Nat → D → Bool
  | 0, _ => false
  | _ + 1, .non => true
  | _ + 1, .bl _ => true
  | _ + 1, .int i => decide (i = 0 ∨ i = 7)
  | _ + 1, .str x => decide (x.length ≤ 10) && x.cps.toList.all fun c => decide (c < 4294967296)
  | n + 1, .tup ds => decide (ds.length ≤ 20) && ds.all (fit n)
  | n + 1, .lst ds => decide (ds.length ≤ 20) && ds.all (fit n)
  | _ + 1, _ => false
theorem fit_up : ∀ (n : Nat) (d : D), fit n d = true → fit (n + 1) d = true := by
  intro n
  induction n with
  | zero => intro d h; simp [fit] at h
  | succ n ih =>
    intro d h
    cases d with
    | tup xs =>
      rw [fit] at h ⊢
      obtain ⟨h1, h2⟩ := Bool.and_eq_true_iff.mp h
      rw [h1, Bool.true_and]
      exact List.all_eq_true.mpr fun x hx => ih x (List.all_eq_true.mp h2 x hx)
    | lst xs =>
      rw [fit] at h ⊢
      obtain ⟨h1, h2⟩ := Bool.and_eq_true_iff.mp h
      rw [h1, Bool.true_and]
      exact List.all_eq_true.mpr fun x hx => ih x (List.all_eq_true.mp h2 x hx)
    | non => rfl
    | bl _ => rfl
    | int _ => rw [fit] at h ⊢; exact h
    | str _ => rw [fit] at h ⊢; exact h
    | dck _ _ => simp [fit] at h
    | dct _ _ => simp [fit] at h
    | ins _ _ _ => simp [fit] at h
    | exn _ _ _ _ _ => simp [fit] at h
    | tpp _ => simp [fit] at h
theorem fit_le {n m : Nat} (h : n ≤ m) {d : D} (hd : fit n d = true) : fit m d = true := by
  induction h with
  | refl => exact hd
  | step _ ih => exact fit_up _ _ ih
theorem pl_more : ∀ (n : Nat) (d : D), pl n d = true → pl (n + 1) d = true := by
  intro n
  induction n with
  | zero => intro d h; simp [pl] at h
  | succ n ih =>
    intro d h
    cases d with
    | tup xs => rw [pl] at h ⊢; exact List.all_eq_true.mpr fun x hx => ih x (List.all_eq_true.mp h x hx)
    | lst xs => rw [pl] at h ⊢; exact List.all_eq_true.mpr fun x hx => ih x (List.all_eq_true.mp h x hx)
    | non => rfl
    | bl _ => rfl
    | int _ => rfl
    | str _ => rfl
    | dck _ _ => simp [pl] at h
    | dct _ _ => simp [pl] at h
    | ins _ _ _ => simp [pl] at h
    | exn _ _ _ _ _ => simp [pl] at h
    | tpp _ => simp [pl] at h
theorem pl_le {n m : Nat} (h : n ≤ m) {d : D} (hd : pl n d = true) : pl m d = true := by
  induction h with
  | refl => exact hd
  | step _ ih => exact pl_more _ _ ih
theorem nt_pl : ∀ (n : Nat) (d : D), pl n d = true → nt d = d := by
  intro n
  induction n with
  | zero => intro d h; simp [pl] at h
  | succ n ih =>
    have all : ∀ xs : List D, (∀ x ∈ xs, pl n x = true) → ntL xs = xs := by
      intro xs
      induction xs with
      | nil => intro _; rfl
      | cons x xs ihx =>
        intro h
        unfold ntL
        rw [ih x (h x List.mem_cons_self), ihx fun y hy => h y (List.mem_cons_of_mem _ hy)]
    intro d h
    cases d with
    | tup xs => rw [pl] at h; unfold nt; rw [all xs (List.all_eq_true.mp h)]
    | lst xs => rw [pl] at h; unfold nt; rw [all xs (List.all_eq_true.mp h)]
    | non => rfl
    | bl _ => rfl
    | int _ => rfl
    | str _ => rfl
    | dck _ _ => rfl
    | dct _ _ => rfl
    | ins _ _ _ => rfl
    | exn _ _ _ _ _ => rfl
    | tpp _ => simp [pl] at h
end VP

/-! Pu2: rows of anything. -/
namespace VP
open PySem PySem.Spec PyProof.Rows L2 VF
def isStr : D → Bool
  | .str _ => true
  | _ => false
def isTup : D → Bool
  | .tup _ => true
  | _ => false
theorem kit_all : (∀ t ∈ (["NoneType", "bool", "int", "str", "tuple", "list"] : List String), kitB t "str" = some (decide (t = "str"))) ∧ (∀ t ∈ (["NoneType", "bool", "int", "str", "tuple", "list"] : List String), kitB t "tuple" = some (decide (t = "tuple"))) ∧ (∀ t ∈ (["NoneType", "bool", "int", "str", "tuple", "list"] : List String), kitB t "list" = some (decide (t = "list"))) := by
  refine ⟨?_, ?_, ?_⟩ <;> decide +kernel
theorem isi_of {T t : String} {b : Bool} {d : D} (h : d.tyName = some t) (k : kitB t T = some b) : pr (fIsi T [d]) = .ok (.bl b) := by
  show pr ((isB T d).map fun b => .val (.bl b)) = _
  unfold isB
  rw [h]
  dsimp only
  rw [k]
  rfl
/-- a row: a tuple or a list -/
inductive Row : D → List D → Prop
  | tup (xs : List D) : Row (.tup xs) xs
  | lst (xs : List D) : Row (.lst xs) xs
def anyE (ys : List D) (x : D) : Bool := ys.any fun e => D.eq e x
theorem in_row {r : D} {ys : List D} {x : D} (hr : Row r ys) (hx : pl 60 x = true) (hy : ys.all (pl 60) = true) : pr (gIn [x, r]) = .ok (.bl (anyE ys x)) := by
  cases hr with
  | tup =>
    have e : pr (gIn [x, .tup ys]) = pr (if pl 60 x = true ∧ ys.all (pl 60) = true then some (.val (.bl (ys.any fun e => D.eq e x))) else none) := by cases x <;> rfl
    rw [e, if_pos ⟨hx, hy⟩]; rfl
  | lst =>
    have e : pr (gIn [x, .lst ys]) = pr (if pl 60 x = true ∧ ys.all (pl 60) = true then some (.val (.bl (ys.any fun e => D.eq e x))) else none) := by cases x <;> rfl
    rw [e, if_pos ⟨hx, hy⟩]; rfl
theorem notin_row {r : D} {ys : List D} {x : D} (hr : Row r ys) (hx : pl 60 x = true) (hy : ys.all (pl 60) = true) : pr (gNotIn [x, r]) = .ok (.bl (!anyE ys x)) := by
  cases hr with
  | tup =>
    have e : pr (gNotIn [x, .tup ys]) = pr (if pl 60 x = true ∧ ys.all (pl 60) = true then some (.val (.bl (!ys.any fun e => D.eq e x))) else none) := by cases x <;> rfl
    rw [e, if_pos ⟨hx, hy⟩]; rfl
  | lst =>
    have e : pr (gNotIn [x, .lst ys]) = pr (if pl 60 x = true ∧ ys.all (pl 60) = true then some (.val (.bl (!ys.any fun e => D.eq e x))) else none) := by cases x <;> rfl
    rw [e, if_pos ⟨hx, hy⟩]; rfl
theorem eq_str_of {s : Str} {x : D} (h : D.eq (.str s) x = true) : x = .str s := by
  cases x <;> simp [D.eq] at h
  rw [h]
/-- one of the names -/
theorem inN_name {ns : List N} {x : D} (h : anyE (ns.map ds) x = true) : ∃ a ∈ ns, x = ds a := by
  unfold anyE at h
  obtain ⟨e, he, h2⟩ := List.any_eq_true.mp h
  obtain ⟨a, ha, rfl⟩ := List.mem_map.mp he
  exact ⟨a, ha, eq_str_of h2⟩
theorem name_inN {ns : List N} {a : N} : anyE (ns.map ds) (ds a) = decide (a ∈ ns) := any_ds
/-- unlike names of some options -/
def unl (ns : List N) (xs : List D) : Bool := xs.zipIdx.all fun p => anyE (ns.map ds) p.1 && !anyE (xs.take p.2) p.1
theorem enum_row {r : D} {xs : List D} (hr : Row r xs) (hl : xs.length ≤ 1000) : ofO (sEnumG [r]) = .ok (xs.zipIdx.map fun p => .tup [.int (p.2 : Nat), p.1]) := by
  cases hr with
  | tup => have := enum_tup (e := id) (xs := xs) (by omega); simpa using this
  | lst =>
    have e : ofO (sEnumG [.lst xs]) = ofO (sEnumG [.tup xs]) := rfl
    rw [e]
    have := enum_tup (e := id) (xs := xs) (by omega)
    simpa using this
theorem seq_row {r : D} {xs : List D} (hr : Row r xs) : ofO (sSeq [r]) = .ok xs := by cases hr <;> rfl
theorem cut_row {r : D} {xs : List D} {k : Nat} (hr : Row r xs) : ∃ r2, Row r2 (xs.take k) ∧ slR (.ok r) none (some (.ok (.int (k : Nat)))) = .ok r2 := by
  cases hr with
  | tup => exact ⟨_, .tup _, by rw [sl_take (by omega)]; rfl⟩
  | lst => exact ⟨_, .lst _, by rw [sl_takeL (by omega)]; rfl⟩
theorem all_take {p : D → Bool} {xs : List D} {k : Nat} (h : xs.all p = true) : (xs.take k).all p = true := List.all_eq_true.mpr fun x hx => List.all_eq_true.mp h x (List.mem_of_mem_take hx)
theorem all_bls {α : Type} {p : α → Bool} {xs : List α} : pr (fAll [.lst (xs.map fun a => .bl (p a))]) = .ok (.bl (xs.all p)) := all_map
theorem mem_zi {xs : List D} {p : D × Nat} (h : p ∈ xs.zipIdx) : p.1 ∈ xs := by
  have := List.mem_zipIdx h
  obtain ⟨_, _, e⟩ := this
  rw [e]
  exact List.getElem_mem _
end VP

/-! Pu3: papers of the top lot, whatever they are. -/
namespace VP
open PySem PySem.Spec PyProof.Rows L2 VF
theorem fit_name {a : N} (h : NameOk a) : fit 1 (ds a) = true := by
  obtain ⟨h1, h2, h3⟩ := h
  show (decide ((S a).length ≤ 10) && (S a).cps.toList.all fun c => decide (c < 4294967296)) = true
  have e1 : (S a).length = a.length := by show (S a).cps.size = _; simp [S]
  have e2 : (S a).cps.toList = a := by simp [S]
  rw [e1, e2, decide_eq_true (by omega), Bool.true_and]
  refine List.all_eq_true.mpr fun c hc => ?_
  have := h3 c hc
  unfold Lt at this
  simp only [decide_eq_true_eq]
  omega
theorem fit_tup {n : Nat} {xs : List D} (hx : fit n (.tup xs) = true) : xs.length ≤ 20 ∧ ∀ x ∈ xs, fit (n - 1) x = true := by
  cases n with
  | zero => simp [fit] at hx
  | succ n =>
    rw [fit] at hx
    obtain ⟨x1, x2⟩ := Bool.and_eq_true_iff.mp hx
    exact ⟨of_decide_eq_true x1, List.all_eq_true.mp x2⟩
theorem last_item' {l : List N} (h0 : l ≠ []) : pr (gItem [D.tup (l.map ds), .int (-1)]) = .ok (ds (l.getLast h0)) := tup_last (by rw [List.getLast?_map, List.getLast?_eq_some_getLast h0]; rfl)
end VP

/-! Pu4: shows_top of anything, as the law's own look. -/
namespace VP
open PySem PySem.Spec PyProof.Rows L2 VF
end VP

/-! Pu5: shows_top of anything. -/
namespace VP
open PySem PySem.Spec PyProof.Rows L2 VF
theorem ne_ii {i j : Int} : pr (fNe [.int i, .int j]) = .ok (.bl (!decide (i = j))) := rfl
end VP

/-! Pu6: papers of the top lot, drawn. -/
namespace VP
open PySem PySem.Spec PyProof.Rows L2 VF
/-- what stands in a drawn paper -/
def Th (x : D) : Prop := fit 1 x = true ∨ ∃ l : List N, x = dT l ∧ l.length ≤ 8 ∧ ∀ c ∈ l, NameOk c
theorem fitT {n : Nat} {xs : List D} (h : xs.length ≤ 20) (h2 : ∀ x ∈ xs, fit n x = true) : fit (n + 1) (.tup xs) = true := by
  rw [fit, decide_eq_true h, Bool.true_and]
  exact List.all_eq_true.mpr h2
theorem fitL {n : Nat} {xs : List D} (h : xs.length ≤ 20) (h2 : ∀ x ∈ xs, fit n x = true) : fit (n + 1) (.lst xs) = true := by
  rw [fit, decide_eq_true h, Bool.true_and]
  exact List.all_eq_true.mpr h2
theorem fit_names {l : List N} (h1 : l.length ≤ 20) (h2 : ∀ c ∈ l, NameOk c) : ∀ x ∈ l.map ds, fit 1 x = true := fun x hx => by
  obtain ⟨c, hc, rfl⟩ := List.mem_map.mp hx
  exact fit_name (h2 c hc)
theorem Th.f2 {x : D} (h : Th x) : fit 2 x = true := by
  rcases h with h | ⟨l, rfl, h1, h2⟩
  · exact fit_le (by decide) h
  · exact fitT (by rw [List.length_map]; omega) (fit_names (by omega) h2)
theorem Th.tup {xs : List D} (h : Th (.tup xs)) : xs.length ≤ 8 ∧ ∀ y ∈ xs, fit 1 y = true := by
  rcases h with h | ⟨l, e, h1, h2⟩
  · obtain ⟨q1, q2⟩ := fit_tup h
    cases xs with
    | nil => exact ⟨by simp, fun y hy => absurd hy List.not_mem_nil⟩
    | cons y ys => have := q2 y (List.mem_cons_self ..); simp [fit] at this
  · have e : xs = l.map ds := by unfold dT at e; injection e
    subst e
    exact ⟨by rw [List.length_map]; exact h1, fit_names (by omega) h2⟩
end VP

/-! Pu7: bent papers; the law k34. -/
namespace VP
open PySem PySem.Spec PyProof.Rows L2 VF
end VP

/-! Pt5: papers of strength. -/
namespace VP
open PySem PySem.Spec PyProof.Rows L2 VF
/-- what no step leaves -/
def cutS (ns : List N) (T : N × N → Int) (l : List N) (z : Int) : Bool := (l.flatMap fun x => (ns.filter fun o => !decide (o ∈ l)).map fun o => (x, o)).all fun p => decide (T p ≤ z)
end VP

/-! Pt6: what strengths keep; the told paper. -/
namespace VP
open PySem PySem.Spec PyProof.Rows L2 VF
/-- the told paper -/
structure StrP (ns : List N) (T : N × N → Int) (a b : N) (w l : List N) : Prop where
  way : Simple ns a b w
  low : imin (steps T w) = Sg ns T (a, b)
  nd : l.Nodup
  sub : ∀ x ∈ l, x ∈ ns
  inn : a ∈ l
  out : b ∉ l
  cut : cutS ns T l (Sg ns T (a, b)) = true
end VP

/-! Pv1: papers of strength, whatever they are. -/
namespace VP
open PySem PySem.Spec PyProof.Rows L2 VF
end VP

/-! Pv2: papers of strength drawn and bent; the law k41. -/
namespace VP
open PySem PySem.Spec PyProof.Rows L2 VF
def SPaper (d : D) : Prop := ∃ l m : List N, d = .tup [dT l, .lst (m.map ds)] ∧ 2 ≤ l.length ∧ l.length ≤ 8 ∧ (∀ c ∈ l, NameOk c) ∧ m.length ≤ 8 ∧ ∀ c ∈ m, NameOk c
theorem lst5R {a b c d e : D} : lstR [.ok a, .ok b, .ok c, .ok d, .ok e] = .ok (.lst [a, b, c, d, e]) := rfl
theorem SPaper.f {d : D} (h : SPaper d) : fit 4 d = true := by
  obtain ⟨l, m, rfl, l0, l1, l2, m1, m2⟩ := h
  refine fit_le (n := 3) (by decide) (fitT (by simp) fun x hx => ?_)
  simp only [List.mem_cons, List.not_mem_nil, or_false] at hx
  rcases hx with rfl | rfl
  · exact fitT (by rw [List.length_map]; omega) (fit_names (by omega) l2)
  · exact fitL (by rw [List.length_map]; omega) (fit_names (by omega) m2)
end VP

/-! Pa1: the second family of drawing defs (k11 and its like): wells, draws, shuffled, options. -/
namespace VP
open PySem PySem.Spec PyProof.Rows L2 VF
/-- a well after at most n draws -/
def WA (n : Nat) (w : D) : Prop := ∃ a b c : Int, w = .lst [.int a, .int b, .int c] ∧ 0 ≤ a ∧ 0 ≤ b ∧ b < 2147483629 ∧ 0 ≤ c ∧ c ≤ n
theorem WA.mono {n m : Nat} {w : D} (h : WA n w) (l : n ≤ m) : WA m w := by
  obtain ⟨a, b, c, h1, h2, h3, h4, h5, h6⟩ := h
  exact ⟨a, b, c, h1, h2, h3, h4, h5, by omega⟩
theorem pr_pow {i j : Int} (h0 : 0 ≤ j) (h1 : j ≤ 1000000) (h : i.natAbs < 2 ^ 64) : pr (fPow [.int i, .int j]) = .ok (.int (i ^ j.toNat)) := by
  show pr (if 0 ≤ j ∧ j ≤ 1000000 ∧ i.natAbs < 2 ^ 64 then some (.val (.int (i ^ j.toNat))) else none) = _
  rw [if_pos ⟨h0, h1, h⟩]; rfl
theorem wellA_ok {c : Int} : (c_l_well (.int c)).wp (WA 0) := by
  have m := fmod_lo (i := c) (j := 2147483629) (by decide)
  unfold c_l_well
  rw [pr_pow (by decide) (by decide) (by decide), R.bind_ok, pr_ge, R.bind_ok, show pr (fInt [D.bl (decide ((10 : Int) ^ (18 : Int).toNat ≤ c))]) = .ok (.int (if decide ((10 : Int) ^ (18 : Int).toNat ≤ c) = true then 1 else 0)) by cases (decide ((10 : Int) ^ (18 : Int).toNat ≤ c)) <;> rfl, R.bind_ok, pr_mod (by decide)]
  by_cases h : (10 : Int) ^ (18 : Int).toNat ≤ c
  · rw [decide_eq_true h, if_pos rfl]
    refine ⟨_, rfl, c, _, 0, rfl, Int.le_trans (by decide) h, m.1, m.2, by decide, by decide⟩
  · rw [decide_eq_false h, if_neg (by decide)]
    exact ⟨_, rfl, 0, _, 0, rfl, by decide, m.1, m.2, by decide, by decide⟩
theorem drawA {k : Nat} {w : D} {n : Int} (hw : WA k w) (hk : k ≤ 1000000) (hn : 0 < n) (hs : n.natAbs < 2 ^ 64) : (c_l_draw w (.int n)).wp fun p => ∃ r : Int, p.1 = .int r ∧ 0 ≤ r ∧ r < n ∧ WA (k + 1) p.2 := by
  obtain ⟨a, b, c, rfl, ha, hb, hb2, hc, hck⟩ := hw
  have g0 : ∀ x y z : D, pr (gItem [.lst [x, y, z], .int 0]) = .ok x := fun _ _ _ => rfl
  have g1 : ∀ x y z : D, pr (gItem [.lst [x, y, z], .int 1]) = .ok y := fun _ _ _ => rfl
  have g2 : ∀ x y z : D, pr (gItem [.lst [x, y, z], .int 2]) = .ok z := fun _ _ _ => rfl
  have s0 : ∀ v x y z : D, ofO (stG v (.int 0) (.lst [x, y, z])) = .ok ((), .lst [v, y, z]) := fun _ _ _ _ => rfl
  have s2 : ∀ v x y z : D, ofO (stG v (.int 2) (.lst [x, y, z])) = .ok ((), .lst [x, y, v]) := fun _ _ _ _ => rfl
  unfold c_l_draw
  rw [g0, R.bind_ok, pr_gt, R.bind_ok, asB_bl, R.bind_ok]
  by_cases h : 0 < a
  · rw [if_pos (by simpa using h), R.bind_ok, pr_mod (by omega), R.bind_ok, R.bind_ok, pr_fdiv (by omega) hs, R.bind_ok, R.bind_ok, s0, R.bind_ok]
    have := fmod_lo (i := a) hn
    exact ⟨_, rfl, _, rfl, this.1, this.2, _, b, c, rfl, fdiv_nn (by omega) hn, hb, hb2, hc, by push_cast; omega⟩
  · rw [if_neg (by simpa using h), g2, R.bind_ok, pr_add, R.bind_ok, R.bind_ok, s2, R.bind_ok]
    simp only [g1, g2, R.bind_ok, pr_add]
    rw [pr_mulL (by decide), R.bind_ok, pr_add, R.bind_ok, pr_add, R.bind_ok, pr_pow (by decide) (by decide) (by omega), R.bind_ok, pr_mod (by decide), R.bind_ok]
    have m1 := fmod_lo (i := (b + 7919 * (c + 1) + 1) ^ (5 : Int).toNat) (j := 2147483647) (by decide)
    generalize ((b + 7919 * (c + 1) + 1) ^ (5 : Int).toNat).fmod 2147483647 = x1 at m1 ⊢
    have d1 := fdiv_le (i := x1) (j := 1009) m1.1 (by decide)
    have d2 := fdiv_nn (i := x1) (j := 1009) m1.1 (by decide)
    rw [pr_fdiv (by decide) (by decide), R.bind_ok, pr_add, R.bind_ok, pr_add, R.bind_ok, pr_mulL (by omega), R.bind_ok, pr_mod (by decide), R.bind_ok]
    have m2 := fmod_lo (i := x1 * (x1.fdiv 1009 + 69621 + (c + 1))) (j := 2147483629) (by decide)
    generalize (x1 * (x1.fdiv 1009 + 69621 + (c + 1))).fmod 2147483629 = x2 at m2 ⊢
    rw [pr_fdiv (by decide) (by decide), R.bind_ok, pr_add, R.bind_ok, pr_mulL (by omega), R.bind_ok, pr_mod (by decide), R.bind_ok, pr_mod (by omega), R.bind_ok]
    have m3 := fmod_lo (i := (x2 * (x2.fdiv 2003 + 40692)).fmod 2147483399) hn
    exact ⟨_, rfl, _, rfl, m3.1, m3.2, a, b, c + 1, rfl, ha, hb, hb2, by omega, by push_cast; omega⟩
theorem oneA {k : Nat} {w : D} {ds : List D} (hw : WA k w) (hk : k ≤ 1000000) (h0 : ds ≠ []) (h1 : ds.length < 1000000) : (c_l_one w (.lst ds)).wp fun p => p.1 ∈ ds ∧ WA (k + 1) p.2 := by
  have hl : 0 < ds.length := List.length_pos_iff.mpr h0
  have e : pr (gLen [.lst ds]) = .ok (.int ds.length) := rfl
  unfold c_l_one
  simp only [e, R.bind_assoc, R.bind_ok]
  refine R.wp_bind (drawA hw hk (by omega) (by omega)) fun p ⟨r, e1, r0, r1, w1⟩ => ?_
  rw [e1]
  obtain ⟨d, e2, e3⟩ := item_lst r0 r1
  rw [e3, R.bind_ok]
  exact R.wp_ok ⟨List.mem_of_getElem? e2, w1⟩
/-- the results of a comprehension that changes a state, with what is known of them together -/
theorem mapS_acc {S T : Type} {u : D → Option T} {f : S → T → R (D × S)} (P : List D → S → Prop) (N : Nat) : ∀ (xs : List D) (acc : List D) (s : S), acc.length + xs.length = N → P acc s → (∀ x acc s, x ∈ xs → acc.length < N → P acc s → ∃ a, u x = some a ∧ (f s a).wp fun p => P (acc ++ [p.1]) p.2) → (mapS u f xs s).wp fun p => (acc ++ p.1).length = N ∧ P (acc ++ p.1) p.2
  | [], acc, s, hN, h, _ => R.wp_ok (by rw [List.append_nil]; exact ⟨by simpa using hN, h⟩)
  | x :: xs, acc, s, hN, h, k => by
    rw [List.length_cons] at hN
    obtain ⟨a, e, p, e1, h1⟩ := k x acc s List.mem_cons_self (by omega) h
    obtain ⟨r, e2, h2⟩ := mapS_acc P N xs (acc ++ [p.1]) p.2 (by rw [List.length_append, List.length_singleton]; omega) h1 fun y acc s hy => k y acc s (List.mem_cons_of_mem _ hy)
    refine ⟨(p.1 :: r.1, r.2), ?_, ?_⟩
    · unfold mapS
      rw [e]
      simp only [e1, noE_ok, R.bind_ok, e2]
    · rw [List.append_assoc, List.singleton_append] at h2
      exact h2
theorem shuffledA {k : Nat} {w s : D} {ds : List D} (hw : WA k w) (hk : k ≤ 900000) (hl : ds.length ≤ 1000) (hs : pro (fList [s]) = .ok (.lst ds)) : (c_l_shuffled w s).wp fun p => ∃ es, p.1 = .lst es ∧ es.Perm ds ∧ WA (k + ds.length) p.2 := by
  have ety : ∀ x : List D, D.ty (.lst x) = some "list" := fun _ => rfl
  have eg : ∀ x : List D, pr (gLen [.lst x]) = .ok (.int x.length) := fun _ => rfl
  unfold c_l_shuffled
  rw [hs, R.bind_ok, srR1, eg, R.bind_ok, rng1 (by omega) (by omega), R.bind_ok, R.bind_ok, R.bind_assoc]
  dsimp only
  refine R.wp_bind (mapS_acc (fun acc (s : D × D) => ∃ l : List D, s.2 = .lst l ∧ (acc ++ l).Perm ds ∧ WA (k + acc.length) s.1) ds.length ((List.range (Int.toNat (ds.length : Int))).map fun i => D.int (i : Nat)) [] (w, .lst ds) (by simp) ⟨ds, rfl, .refl _, by simpa using hw⟩ fun x acc s hx hlt ⟨l, e1, pm, w1⟩ => ⟨x, rfl, ?_⟩) fun q ⟨hq, l, e1, pm, w1⟩ => ?_
  · have hlen := pm.length_eq
    rw [List.length_append] at hlen
    rw [e1, if_pos (ety _), eg, R.bind_ok, R.bind_ok, R.bind_ok, R.bind_assoc, R.bind_assoc]
    refine R.wp_bind (drawA w1 (by omega) (by omega) (by omega)) fun b ⟨r, er, r0, r1, w2⟩ => ?_
    rw [R.bind_ok, R.bind_ok, R.bind_ok]
    dsimp only
    rw [er]
    obtain ⟨y, es, e2, pp⟩ := pop_ok r0 r1 (by omega)
    rw [e2, R.bind_ok]
    refine R.wp_ok ⟨es, rfl, ?_, ?_⟩
    · rw [List.append_assoc]
      exact (List.Perm.append_left acc pp).trans pm
    · rw [List.length_append, List.length_singleton]
      exact w2
  · have hlen := pm.length_eq
    rw [List.length_append] at hlen
    rw [List.nil_append] at hq pm hlen w1
    have hl0 : l = [] := List.length_eq_zero_iff.mp (by omega)
    subst hl0
    rw [List.append_nil] at pm
    rw [R.bind_ok]
    refine R.wp_ok ⟨q.1, rfl, pm, ?_⟩
    rw [hq] at w1
    exact w1
/-! ### options -/
def lst3 (f : Int) (k : Nat) : Nat := 97 + ((f + 3 * (k : Int)).fmod 26).toNat
theorem lst3_lt {f : Int} {k : Nat} : Lt (lst3 f k) := by
  have := fmod_lo (i := f + 3 * (k : Int)) (j := 26) (by decide)
  unfold lst3 Lt
  omega
theorem lst3_inj {f : Int} {i j : Nat} (hi : i < 8) (hj : j < 8) (h : lst3 f i = lst3 f j) : i = j := by
  have m1 := fmod_lo (i := f + 3 * (i : Int)) (j := 26) (by decide)
  have m2 := fmod_lo (i := f + 3 * (j : Int)) (j := 26) (by decide)
  unfold lst3 at h
  have e : (f + 3 * (i : Int)).fmod 26 = (f + 3 * (j : Int)).fmod 26 := by omega
  rw [Int.fmod_eq_emod_of_nonneg _ (by decide), Int.fmod_eq_emod_of_nonneg _ (by decide)] at e
  omega
theorem add_SS {l m : List Nat} (h : l.length + m.length ≤ 1000) : pr (fAdd [D.str (S l), D.str (S m)]) = .ok (.str (S (l ++ m))) := by
  rw [fAdd_str (by rw [S_len, S_len]; omega), S_app]; rfl
theorem optionsA {k : Nat} {w : D} {n : Int} (hw : WA k w) (hk : k ≤ 900000) (h0 : 1 ≤ n) (h1 : n ≤ 6) : (c_l_options w (.int n)).wp fun p => (∃ ns, Names ns ∧ (ns.length : Int) = n ∧ p.1 = dn ns) ∧ WA (k + 49) p.2 := by
  have ety : ∀ x : List D, D.ty (.lst x) = some "list" := fun _ => rfl
  unfold c_l_options
  rw [R.bind_assoc]
  refine R.wp_bind (drawA hw (by omega) (by decide) (by decide)) fun p ⟨f, ef, f0, f1, w1⟩ => ?_
  rw [R.bind_ok, R.bind_ok, rng1 (by omega) (by omega), R.bind_ok]
  dsimp only
  rw [ef]
  refine R.wp_bind (forN_wp (fun i (t : D × D) => ∃ ws : List N, t.2 = .lst (ws.map ds) ∧ ws.length = i ∧ WA (k + 1 + 8 * i) t.1 ∧ i ≤ n.toNat ∧ ∀ j l, ws[j]? = some l → ∃ ys, l = ys ++ [lst3 f j] ∧ ys.length ≤ 7 ∧ ∀ c ∈ ys, Lt c) _ 0 (p.2, .lst []) ⟨[], rfl, rfl, by simpa using w1, by omega, fun j l h => by simp at h⟩ fun i x t hx ⟨ws, e1, hl, w2, hin, hq⟩ => ⟨x, rfl, ?_⟩) fun t ⟨ws, e1, hl, w2, hin, hq⟩ => ?_
  · simp only [R.bind_assoc, R.bind_ok]
    refine R.wp_bind (drawA w2 (by omega) (by decide) (by decide)) fun b ⟨m, em, m0, m1, w3⟩ => ?_
    rw [em, rng1 m0 (by omega), R.bind_ok]
    have hi : i < n.toNat := by
      have := (List.getElem?_eq_some_iff.mp hx).1
      simpa using this
    have ex : x = D.int (i : Nat) := by
      rw [List.getElem?_map, List.getElem?_range hi] at hx
      cases hx; rfl
    refine R.wp_bind (forN_wp (fun j (t : D × D) => ∃ ys : List Nat, t.2 = .str (S ys) ∧ ys.length = j ∧ (∀ c ∈ ys, Lt c) ∧ WA (k + 1 + 8 * (0 + i) + 1 + j) t.1) ((List.range m.toNat).map fun i => D.int (i : Nat)) 0 (b.2, D.str "") ⟨[], by rw [show ("" : Str) = S [] by decide +kernel], rfl, (fun c h => by cases h), w3⟩ fun j y t hy ⟨ys, e2, hyl, hyq, w4⟩ => ⟨y, rfl, ?_⟩) fun t2 ⟨ys, e2, hyl, hyq, w4⟩ => ?_
    · have hjm : j < m.toNat := by
        have := (List.getElem?_eq_some_iff.mp hy).1
        simpa using this
      refine R.wp_bind (drawA w4 (by omega) (by decide) (by decide)) fun b2 ⟨r, er, r0, r1, w5⟩ => ?_
      rw [er, show pr (gItem [D.str "abcdefghijklmnopqrstuvwxyz", .int r]) = .ok (.str (S [97 + r.toNat])) from item_az r0 r1, R.bind_ok, e2, add_SS (by simp; omega), R.bind_ok]
      refine R.wp_ok ⟨ys ++ [97 + r.toNat], rfl, by simp [hyl], fun c hc => ?_, ?_⟩
      · rcases List.mem_append.mp hc with hc | hc
        · exact hyq c hc
        · rw [List.mem_singleton.mp hc]; unfold Lt; omega
      · exact w5.mono (by omega)
    · rw [e1, if_pos (ety _), ex]
      have m2 := fmod_lo (i := f + 3 * (i : Int)) (j := 26) (by decide)
      have hyl7 : ys.length ≤ 7 := by simp at hyl; omega
      rw [pr_mulL (by decide), R.bind_ok, pr_add, R.bind_ok, pr_mod (by decide), R.bind_ok, show pr (gItem [D.str "abcdefghijklmnopqrstuvwxyz", .int ((f + 3 * (i : Int)).fmod 26)]) = .ok (.str (S [lst3 f i])) from item_az m2.1 m2.2, R.bind_ok, e2, add_SS (by simp; omega), R.bind_ok, app_ok (by rw [List.length_map]; omega), R.bind_ok]
      refine R.wp_ok ⟨ws ++ [ys ++ [lst3 f i]], ?_, by rw [List.length_append, hl]; simp, ?_, by omega, fun j l hj => ?_⟩
      · rw [List.map_append]; rfl
      · refine w4.mono ?_
        simp
        omega
      · rcases Nat.lt_or_ge j ws.length with h | h
        · rw [List.getElem?_append_left h] at hj
          exact hq j l hj
        · rw [List.getElem?_append_right h] at hj
          have h0 : j - ws.length = 0 := by
            have := (List.getElem?_eq_some_iff.mp hj).1
            simp at this; omega
          rw [h0] at hj
          cases hj
          have : j = i := by omega
          subst this
          exact ⟨ys, rfl, hyl7, hyq⟩
  · rw [e1]
    have hl : ws.length = n.toNat := by simpa using hl
    rw [show pr (fTuple [D.lst (ws.map ds)]) = .ok (dn ws) from rfl, R.bind_ok]
    refine R.wp_ok ⟨⟨ws, ⟨?_, by omega, by omega, fun l hm => ?_⟩, by omega, rfl⟩, ?_⟩
    · rw [List.Nodup, List.pairwise_iff_getElem]
      intro i j hi hj hij e
      obtain ⟨y1, a1, _⟩ := hq i _ (List.getElem?_eq_getElem hi)
      obtain ⟨y2, a2, _⟩ := hq j _ (List.getElem?_eq_getElem hj)
      rw [a1, a2] at e
      have := congrArg List.getLast? e
      simp at this
      have := lst3_inj (by omega) (by omega) this
      omega
    · obtain ⟨j, hj, e⟩ := List.mem_iff_getElem.mp hm
      obtain ⟨ys, a, b, c⟩ := hq j l (by rw [List.getElem?_eq_getElem hj, e])
      rw [a]
      refine ⟨by simp, by simp; omega, fun x hx => ?_⟩
      rcases List.mem_append.mp hx with hx | hx
      · exact c x hx
      · rw [List.mem_singleton.mp hx]; exact lst3_lt
    · refine w2.mono ?_
      simp
      omega
end VP

/-! Pa2: ballots of the second family. -/
namespace VP
open PySem PySem.Spec PyProof.Rows L2 VF
/-- a ballot, its marks in a plain tuple -/
def dBA : Bal → D
  | .lets xs => .tup [.str "lets", .tup (xs.map ds)]
  | .marks ps => .tup [.str "marks", .tup (ps.map fun p => .tup [ds p.1, .int p.2])]
  | .order ts => .tup [.str "order", .tup (ts.map dT)]
theorem shufA {k : Nat} {w : D} {ns : List N} (hw : WA k w) (hk : k ≤ 900000) (hl : ns.length ≤ 1000) : (c_l_shuffled w (dn ns)).wp fun p => (∃ ms : List N, p.1 = .lst (ms.map ds) ∧ ms.Perm ns) ∧ WA (k + ns.length) p.2 := by
  refine R.wp_mono (shuffledA (ds := ns.map ds) hw hk (by rw [List.length_map]; omega) rfl) fun p ⟨es, e, pm, w1⟩ => ?_
  rw [List.length_map] at w1
  obtain ⟨ms, rfl, pk⟩ := perm_map_inv pm rfl
  exact ⟨⟨ms, e, pk⟩, w1⟩
theorem flat_snoc {ts : List (List N)} {t : List N} {x : N} : (ts ++ [t ++ [x]]).flatten = (ts ++ [t]).flatten ++ [x] := by
  simp
theorem tiersA {k : Nat} {w : D} {ns : List N} (hw : WA k w) (hk : k ≤ 900000) (hn : Names ns) : (c_l_tiers_drawn w (dn ns)).wp fun p => (∃ ts : List (List N), p.1 = .tup (ts.map dT) ∧ BalOk ns (.order ts)) ∧ WA (k + 13) p.2 := by
  have hi := hn.hi
  have lo := hn.lo
  have ety : ∀ x : List D, D.ty (.lst x) = some "list" := fun _ => rfl
  have eg : pr (gLen [dn ns]) = .ok (.int ns.length) := len_tup
  unfold c_l_tiers_drawn
  simp only [R.bind_assoc, R.bind_ok]
  refine R.wp_bind (shufA hw hk (by omega)) fun p ⟨⟨ms, em, pm⟩, w1⟩ => ?_
  have hml := pm.length_eq
  rw [eg, R.bind_ok]
  refine R.wp_bind (drawA w1 (by omega) (by decide) (by decide)) fun b ⟨r, er, r0, r1, w2⟩ => ?_
  obtain ⟨d, e1, e2⟩ := item_lst (ds := [D.int 0, D.int 0, D.int 0, D.int 1, D.int 2]) r0 r1
  have hd : ∃ v : Int, d = .int v ∧ 0 ≤ v ∧ v ≤ 2 := by
    have := List.mem_of_getElem? e1
    simp only [List.mem_cons, List.not_mem_nil, or_false] at this
    rcases this with rfl | rfl | rfl | rfl | rfl <;> exact ⟨_, rfl, by decide, by decide⟩
  obtain ⟨v, rfl, v0, v2⟩ := hd
  rw [er, e2, R.bind_ok, R.bind_ok, pr_add, R.bind_ok, pr_mod (by omega), R.bind_ok, pr_sub, R.bind_ok]
  have mv := fmod_lo (i := v) (j := (ns.length : Int) + 1) (by omega)
  generalize hK : (ns.length : Int) - v.fmod ((ns.length : Int) + 1) = K at *
  rw [em, sl_takeL (by omega), R.bind_ok, ← List.map_take, seq_lst, R.bind_ok]
  refine R.wp_bind (forN_wpE (e := ds) (e' := ds) (fun _ => rfl) (fun i (t : D × D) => ∃ ts : List (List N), t.2 = .lst (ts.map dT) ∧ ts.flatten = (ms.take K.toNat).take i ∧ (∀ t ∈ ts, t ≠ []) ∧ WA (k + 7 + i) t.1) (ms.take K.toNat) (b.2, .lst []) ⟨[], rfl, rfl, (fun t h => by cases h), w2.mono (by omega)⟩ fun i a t hx ⟨ts, e3, hf, ht, w3⟩ => ?_) fun t ⟨ts, e3, hf, ht, w3⟩ => ?_
  · have hi2 := (List.getElem?_eq_some_iff.mp hx).1
    rw [List.length_take] at hi2
    have htk : (ms.take K.toNat).take (i + 1) = (ms.take K.toNat).take i ++ [a] := by rw [List.take_succ, hx]; rfl
    have hpl : ∀ d ∈ ts.map dT, pl 59 d = true := fun d hd => by obtain ⟨t, _, rfl⟩ := List.mem_map.mp hd; exact pl_dT t
    have htl : ts.length ≤ 6 := by
      have h1 : ts.length ≤ ts.flatten.length := by
        clear hf htk e3 hpl
        induction ts with
        | nil => simp
        | cons t ts ih =>
          have := ih fun t h => ht t (List.mem_cons_of_mem _ h)
          have := List.length_pos_iff.mpr (ht t List.mem_cons_self)
          rw [List.flatten_cons, List.length_append, List.length_cons]
          omega
      rw [hf, List.length_take, List.length_take] at h1
      omega
    rw [e3, ne_nil hpl, R.bind_ok, asB_bl, R.bind_ok]
    -- a tier of its own
    have own : ∀ w4 : D, WA (k + 7 + i + 1) w4 → (R.bind (if D.ty (D.lst (ts.map dT)) = some "list" then (ofO (mAppend [D.tup [ds a]] (.lst (ts.map dT)))).bind fun q72 => .ok (q72.1, q72.2) else .bad) fun p75 => R.ok (w4, p75.2)).wp fun t' : D × D => ∃ ts' : List (List N), t'.2 = .lst (ts'.map dT) ∧ ts'.flatten = (ms.take K.toNat).take (i + 1) ∧ (∀ t ∈ ts', t ≠ []) ∧ WA (k + 7 + (i + 1)) t'.1 := fun w4 hw4 => by
      rw [if_pos (ety _), app_ok (by rw [List.length_map]; omega), R.bind_ok, R.bind_ok]
      refine R.wp_ok ⟨ts ++ [[a]], by rw [List.map_append]; rfl, by rw [List.flatten_append, hf, htk]; simp, fun t h => ?_, hw4⟩
      rcases List.mem_append.mp h with h | h
      · exact ht t h
      · rw [List.mem_singleton.mp h]; simp
    by_cases h0 : ts.map dT = []
    · rw [decide_eq_false (by simpa using h0), if_neg (by decide : ¬(false = true)), R.bind_ok]
      dsimp only
      rw [if_neg (by decide : ¬(false = true))]
      exact own t.1 (w3.mono (by omega))
    · rw [decide_eq_true (by simpa using h0), if_pos rfl, R.bind_assoc]
      refine R.wp_bind (drawA w3 (by omega) (by decide) (by decide)) fun b2 ⟨s, es, s0, s1, w4⟩ => ?_
      rw [es, fEq_int, R.bind_ok, asB_bl, R.bind_ok, R.bind_ok]
      dsimp only
      by_cases hs : s = 0
      · rw [decide_eq_true hs, if_pos rfl]
        have hne : ts ≠ [] := fun z => h0 (by rw [z]; rfl)
        obtain ⟨us, u, rfl⟩ : ∃ us u, ts = us ++ [u] := ⟨_, _, (List.dropLast_concat_getLast hne).symm⟩
        have em1 : pr (fNeg [D.int 1]) = .ok (.int (-1)) := rfl
        rw [em1, R.bind_ok, List.map_append, List.map_singleton]
        rw [List.length_append, List.length_singleton] at htl
        rw [last_item (by rw [List.length_map]; omega), R.bind_ok]
        have hul : u.length ≤ 6 := by
          have h1 : u.length ≤ (us ++ [u]).flatten.length := by simp
          rw [hf, List.length_take, List.length_take] at h1
          omega
        rw [show pr (fAdd [dT u, D.tup [ds a]]) = .ok (dT (u ++ [a])) from by
          unfold dT
          rw [show D.tup [ds a] = .tup ([a].map ds) from rfl, add_tup (by simp; omega), List.map_append], R.bind_ok, R.bind_ok, last_set (by rw [List.length_map]; omega), R.bind_ok]
        refine R.wp_ok ⟨us ++ [u ++ [a]], by rw [List.map_append]; rfl, by rw [flat_snoc, hf, htk], fun t h => ?_, w4.mono (by omega)⟩
        rcases List.mem_append.mp h with h | h
        · exact ht t (List.mem_append_left _ h)
        · rw [List.mem_singleton.mp h]; simp
      · rw [decide_eq_false hs, if_neg (by decide : ¬(false = true))]
        exact own b2.2 w4
  · rw [e3, show pr (fTuple [D.lst (ts.map dT)]) = .ok (.tup (ts.map dT)) from rfl, R.bind_ok]
    rw [List.take_of_length_le (Nat.le_refl _)] at hf
    have hsub : ts.flatten.Sublist ms := by rw [hf]; exact List.take_sublist _ _
    refine R.wp_ok ⟨⟨ts, rfl, (pm.nodup_iff.mpr hn.nd).sublist hsub, fun x hx => pm.mem_iff.mp (hsub.subset hx), ht⟩, w3.mono ?_⟩
    rw [List.length_take]
    omega
end VP

/-! Pa3: ballots of the second family, whole. -/
namespace VP
open PySem PySem.Spec PyProof.Rows L2 VF
theorem marksA_run {B : Nat} {F : D → D → R (D × D)} (hF : ∀ k s l, k ≤ B → WA k s → (F s (ds l)).wp fun q => (∃ m : Int, 0 ≤ m ∧ m ≤ 9 ∧ q.1 = .tup [ds l, .int m]) ∧ WA (k + 1) q.2) : ∀ (ls : List (List Nat)) (k : Nat) (s : D), k + ls.length ≤ B → WA k s →
    (mapS some F (ls.map ds) s).wp fun p => (∃ ps : List (List Nat × Int), ps.map (·.1) = ls ∧ (∀ q ∈ ps, 0 ≤ q.2 ∧ q.2 ≤ 9) ∧ p.1 = ps.map fun q => .tup [ds q.1, .int q.2]) ∧ WA (k + ls.length) p.2
  | [], k, s, _, hs => R.wp_ok ⟨⟨[], rfl, fun q hq => (by cases hq), rfl⟩, hs⟩
  | l :: ls, k, s, hk, hs => by
    rw [List.length_cons] at hk
    obtain ⟨q, e1, ⟨m, m0, m1, e2⟩, w1⟩ := hF k s l (by omega) hs
    obtain ⟨r, e3, ⟨ps, p1, p2, p3⟩, w2⟩ := marksA_run hF ls (k + 1) q.2 (by omega) w1
    refine ⟨(q.1 :: r.1, r.2), ?_, ⟨(l, m) :: ps, by rw [List.map_cons, p1], fun z hz => ?_, by rw [e2, p3]; rfl⟩, w2.mono (by rw [List.length_cons]; omega)⟩
    · rw [List.map_cons]
      unfold mapS
      simp only [e1, noE_ok, R.bind_ok, e3]
    · rcases List.mem_cons.mp hz with y | y
      · rw [y]; exact ⟨m0, m1⟩
      · exact p2 z y
theorem bal_marksT {ns ms : List (List Nat)} {ps : List (List Nat × Int)} {j : Nat} (hn : Names ns) (hp : ms.Perm ns) (h1 : ps.map (·.1) = ms.take j) (h2 : ∀ q ∈ ps, 0 ≤ q.2 ∧ q.2 ≤ 9) : BalOk ns (.marks ps) := by
  refine ⟨by rw [h1]; exact List.Sublist.nodup (List.take_sublist j ms) (hp.nodup_iff.mpr hn.nd), fun p hps => ?_, h2⟩
  have z : p.1 ∈ ms.take j := by rw [← h1]; exact List.mem_map.mpr ⟨p, hps, rfl⟩
  exact hp.mem_iff.mp ((List.take_sublist j ms).subset z)
theorem ballotA {k : Nat} {w : D} {ns : List N} (hw : WA k w) (hk : k ≤ 800000) (hn : Names ns) : (c_l_ballot w (dn ns)).wp fun p => (∃ b, BalOk ns b ∧ p.1 = dBA b) ∧ WA (k + 30) p.2 := by
  have hi := hn.hi
  have lo := hn.lo
  have eg : pr (gLen [dn ns]) = .ok (.int ns.length) := len_tup
  unfold c_l_ballot
  simp only [R.bind_assoc, R.bind_ok]
  refine R.wp_bind (drawA hw (by omega) (by decide) (by decide)) fun b ⟨y, ey, y0, y1, w1⟩ => ?_
  refine R.wp_bind (shufA w1 (by omega) (by omega)) fun p ⟨⟨ms, em, pm⟩, w2⟩ => ?_
  have hml := pm.length_eq
  rw [eg, R.bind_ok, pr_add, R.bind_ok]
  refine R.wp_bind (drawA w2 (by omega) (by omega) (by omega)) fun b2 ⟨r, er, r0, r1, w3⟩ => ?_
  rw [em, er, sl_takeL r0, R.bind_ok, ← List.map_take]
  rw [ey, fEq_int, R.bind_ok, asB_bl, R.bind_ok]
  by_cases h4 : y = 4
  · rw [decide_eq_true h4, if_pos rfl, show pr (fTuple [D.lst ((ms.take r.toNat).map ds)]) = .ok (.tup ((ms.take r.toNat).map ds)) from rfl, tup2R, R.bind_ok]
    exact R.wp_ok ⟨⟨.lets (ms.take r.toNat), bal_lets hn pm, rfl⟩, w3.mono (by omega)⟩
  · rw [decide_eq_false h4, if_neg (by decide : ¬(false = true)), fEq_int, R.bind_ok, asB_bl, R.bind_ok]
    by_cases h5 : y = 5
    · rw [decide_eq_true h5, if_pos rfl, seq_lst, R.bind_ok]
      refine R.wp_bind (marksA_run (B := 1000000) (fun k s l hk hs => ?_) (ms.take r.toNat) _ b2.2 (by rw [List.length_take]; omega) w3) fun q ⟨⟨ps, p1, p2, p3⟩, w4⟩ => ?_
      · refine R.wp_bind (drawA hs (by omega) (by decide) (by decide)) fun c ⟨m, em2, m0, m1, w5⟩ => ?_
        rw [em2]
        exact R.wp_ok ⟨⟨m, m0, by omega, rfl⟩, w5⟩
      · rw [p3, show pr (fTuple [D.lst (ps.map fun q => D.tup [ds q.1, .int q.2])]) = .ok (.tup (ps.map fun q => D.tup [ds q.1, .int q.2])) from rfl, R.bind_ok]
        refine R.wp_ok ⟨⟨.marks ps, bal_marksT hn pm p1 p2, rfl⟩, w4.mono ?_⟩
        rw [List.length_take]
        omega
    · rw [decide_eq_false h5, if_neg (by decide : ¬(false = true))]
      refine R.wp_bind (tiersA w3 (by omega) hn) fun q ⟨⟨ts, e1, e2⟩, w4⟩ => ?_
      rw [e1]
      exact R.wp_ok ⟨⟨.order ts, e2, rfl⟩, w4.mono (by omega)⟩
end VP

/-! Pa4: small plain data of k11; repr of them. -/
namespace VP
open PySem PySem.Spec PyProof.Rows L2 VF
def intsA : List Int := [0, 1, 2, 3, 4, 5, 6, 7, 8, 9, 10, -1, 1000000000000000000000000000000]
theorem intsA_ok : ∀ i ∈ intsA, (PyData.int i).showable = true ∧ (PyData.int i).shown.length ≤ 40 := by decide +kernel
/-- small plain data: at most 20 things within each, of a depth below n -/
def fitA : Nat → D → Bool
  | 0, _ => false
  | _ + 1, .non => true
  | _ + 1, .bl _ => true
  | _ + 1, .int i => decide (i ∈ intsA)
  | _ + 1, .str x => decide (x.length ≤ 10) && x.cps.toList.all fun c => decide (c < 4294967296)
  | n + 1, .tup ds => decide (ds.length ≤ 20) && ds.all (fitA n)
  | n + 1, .lst ds => decide (ds.length ≤ 20) && ds.all (fitA n)
  | _ + 1, _ => false
theorem fitA_pl : ∀ (n : Nat) (d : D), fitA n d = true → pl n d = true := by
  intro n
  induction n with
  | zero => intro d h; simp [fitA] at h
  | succ n ih =>
    intro d h
    cases d with
    | tup xs =>
      rw [fitA] at h
      rw [pl]
      exact List.all_eq_true.mpr fun x hx => ih x (List.all_eq_true.mp (Bool.and_eq_true_iff.mp h).2 x hx)
    | lst xs =>
      rw [fitA] at h
      rw [pl]
      exact List.all_eq_true.mpr fun x hx => ih x (List.all_eq_true.mp (Bool.and_eq_true_iff.mp h).2 x hx)
    | non => rfl
    | bl _ => rfl
    | int _ => rfl
    | str _ => rfl
    | dck _ _ => simp [fitA] at h
    | dct _ _ => simp [fitA] at h
    | ins _ _ _ => simp [fitA] at h
    | exn _ _ _ _ _ => simp [fitA] at h
    | tpp _ => simp [fitA] at h
theorem fitA60 {n : Nat} (h : n ≤ 60) {d : D} (hd : fitA n d = true) : pl 60 d = true := pl_le h (fitA_pl n d hd)
end VP

/-! Pa5: what is a ballot, by the program and by the law. -/
namespace VP
open PySem PySem.Spec PyProof.Rows L2 VF
theorem isi_str_fitA {n : Nat} {d : D} (h : fitA n d = true) : pr (fIsi "str" [d]) = .ok (.bl (isStr d)) := by
  cases n with
  | zero => simp [fitA] at h
  | succ n =>
    have k := kit_all.1
    cases d with
    | non => exact isi_of (t := "NoneType") rfl (k _ (by simp))
    | bl _ => exact isi_of (t := "bool") rfl (k _ (by simp))
    | int _ => exact isi_of (t := "int") rfl (k _ (by simp))
    | str _ => exact isi_of (t := "str") rfl (k _ (by simp))
    | tup _ => exact isi_of (t := "tuple") rfl (k _ (by simp))
    | lst _ => exact isi_of (t := "list") rfl (k _ (by simp))
    | _ => simp [fitA] at h
theorem isi_tup_fitA {n : Nat} {d : D} (h : fitA n d = true) : pr (fIsi "tuple" [d]) = .ok (.bl (isTup d)) := by
  cases n with
  | zero => simp [fitA] at h
  | succ n =>
    have k := kit_all.2.1
    cases d with
    | non => exact isi_of (t := "NoneType") rfl (k _ (by simp))
    | bl _ => exact isi_of (t := "bool") rfl (k _ (by simp))
    | int _ => exact isi_of (t := "int") rfl (k _ (by simp))
    | str _ => exact isi_of (t := "str") rfl (k _ (by simp))
    | tup _ => exact isi_of (t := "tuple") rfl (k _ (by simp))
    | lst _ => exact isi_of (t := "list") rfl (k _ (by simp))
    | _ => simp [fitA] at h
theorem someof_rowA {ns : List N} {r : D} {xs : List D} {n : Nat} (hr : Row r xs) (hl : xs.length ≤ 1000) (hf : ∀ x ∈ xs, fitA n x = true) (hn : n ≤ 60) : c_are_some_of r (dn ns) = .ok (.bl (unl ns xs)) := by
  have hp : xs.all (pl 60) = true := List.all_eq_true.mpr fun x hx => fitA60 hn (hf x hx)
  have hx60 : ∀ x ∈ xs, pl 60 x = true := fun x hx => fitA60 hn (hf x hx)
  have hN : ∀ x ∈ xs, pr (gIn [x, dn ns]) = .ok (.bl (anyE (ns.map ds) x)) := fun x hx => in_row (.tup _) (hx60 x hx) pl_all
  unfold c_are_some_of
  rw [seq_row hr, R.bind_ok, show xs = xs.map id by simp, mapR_some, mapE_eq (h := fun x => D.bl (anyE (ns.map ds) x)) fun x hx => ?_, R.bind_ok, R.bind_ok, all_bls, R.bind_ok, trR_bl, R.bind_ok]
  · rw [show xs.map id = xs by simp]
    by_cases ha : xs.all (anyE (ns.map ds)) = true
    · rw [if_pos ha]
      unfold c_are_unlike
      rw [enum_row hr hl, R.bind_ok, mapR_un2 (e1 := fun p : D × Nat => D.int (p.2 : Nat)) (e2 := fun p : D × Nat => p.1), mapE_eq (h := fun p => D.bl (!anyE (xs.take p.2) p.1)) fun p hp2 => ?_, R.bind_ok, R.bind_ok, all_bls]
      · congr 2
        unfold unl
        refine all_cg fun p hp2 => ?_
        rw [List.all_eq_true.mp ha p.1 (mem_zi hp2), Bool.true_and]
      · obtain ⟨r2, hr2, e⟩ := cut_row (k := p.2) hr
        rw [e, R.bind_ok, notin_row hr2 (hx60 _ (mem_zi hp2)) (all_take hp)]
    · rw [if_neg ha]
      have e1 : xs.all (anyE (ns.map ds)) = false := by simpa using ha
      rw [e1]
      congr 2
      unfold unl
      symm
      rw [List.all_eq_false] at e1 ⊢
      obtain ⟨x, hx, hne⟩ := e1
      obtain ⟨i, hi, rfl⟩ := List.mem_iff_getElem.mp hx
      exact ⟨(xs[i], i), List.mem_zipIdx_iff_getElem?.mpr (by simp [hi]), by simp [hne]⟩
  · rw [id, isi_str_fitA (hf x hx), R.bind_ok, trR_bl, R.bind_ok]
    by_cases hs : isStr x = true
    · rw [if_pos hs, hN x hx]
    · rw [if_neg hs]
      have e1 : isStr x = false := by simpa using hs
      rw [e1]
      congr 2
      symm
      cases e2 : anyE (ns.map ds) x with
      | false => rfl
      | true =>
        obtain ⟨a, _, rfl⟩ := inN_name e2
        cases e1
def isIntD : D → Bool
  | .int _ => true
  | .bl _ => true
  | _ => false
def isBlD : D → Bool
  | .bl _ => true
  | _ => false
theorem isi_int_fitA {n : Nat} {d : D} (h : fitA n d = true) : pr (fIsi "int" [d]) = .ok (.bl (isIntD d)) ∧ pr (fIsi "bool" [d]) = .ok (.bl (isBlD d)) := by
  have k : (∀ t ∈ (["NoneType", "str", "tuple", "list"] : List String), kitB t "int" = some false ∧ kitB t "bool" = some false) ∧ kitB "bool" "int" = some true ∧ kitB "bool" "bool" = some true ∧ kitB "int" "int" = some true ∧ kitB "int" "bool" = some false := by
    refine ⟨?_, ?_, ?_, ?_, ?_⟩ <;> decide +kernel
  obtain ⟨k1, k2, k3, k4, k5⟩ := k
  cases n with
  | zero => simp [fitA] at h
  | succ n =>
    cases d with
    | non => exact ⟨isi_of (t := "NoneType") rfl (k1 _ (by simp)).1, isi_of (t := "NoneType") rfl (k1 _ (by simp)).2⟩
    | bl _ => exact ⟨isi_of (t := "bool") rfl k2, isi_of (t := "bool") rfl k3⟩
    | int _ => exact ⟨isi_of (t := "int") rfl k4, isi_of (t := "int") rfl k5⟩
    | str _ => exact ⟨isi_of (t := "str") rfl (k1 _ (by simp)).1, isi_of (t := "str") rfl (k1 _ (by simp)).2⟩
    | tup _ => exact ⟨isi_of (t := "tuple") rfl (k1 _ (by simp)).1, isi_of (t := "tuple") rfl (k1 _ (by simp)).2⟩
    | lst _ => exact ⟨isi_of (t := "list") rfl (k1 _ (by simp)).1, isi_of (t := "list") rfl (k1 _ (by simp)).2⟩
    | _ => simp [fitA] at h
theorem eq_nilD {xs : List D} (h : xs.all (pl 59) = true) : pr (fEq [.lst xs, .lst []]) = .ok (.bl xs.isEmpty) := by
  show pr (if pl 60 (.lst xs) = true ∧ pl 60 (.lst []) = true then some (Rv.val (.bl (D.eq (.lst xs) (.lst [])))) else none) = _
  rw [if_pos ⟨h, rfl⟩]
  cases xs <;> rfl
theorem fitA59 {n : Nat} (h : n ≤ 59) {d : D} (hd : fitA n d = true) : pl 59 d = true := pl_le h (fitA_pl n d hd)
/-- the law's own look at names -/
theorem lnames_row {ns : List N} {r : D} {xs : List D} {n : Nat} (hr : Row r xs) (hl : xs.length ≤ 1000) (hf : ∀ x ∈ xs, fitA n x = true) (hn : n ≤ 59) : c_l_are_names r (dn ns) = .ok (.bl (unl ns xs)) := by
  have hp : xs.all (pl 60) = true := List.all_eq_true.mpr fun x hx => fitA60 (by omega) (hf x hx)
  have hx60 : ∀ x ∈ xs, pl 60 x = true := fun x hx => fitA60 (by omega) (hf x hx)
  have hx59 : ∀ x ∈ xs, pl 59 x = true := fun x hx => fitA59 hn (hf x hx)
  have hlen : pr (gLen [r]) = .ok (.int xs.length) := by cases hr <;> rfl
  unfold c_l_are_names
  rw [seq_row hr, R.bind_ok, show xs = xs.map id by simp, filR_some, filE_eq (q := fun x => !anyE (ns.map ds) x) (h := id) (fun x hx => ?_) (fun _ _ _ => rfl), R.bind_ok, R.bind_ok]
  · rw [show xs.map id = xs by simp, enum_row hr hl, R.bind_ok, filR_enc (e := fun p : D × Nat => D.tup [.int (p.2 : Nat), p.1]) (e' := fun p : D × Nat => (D.int (p.2 : Nat), p.1)) (fun _ => rfl)]
    dsimp only
    rw [filE_eq (q := fun p : D × Nat => !anyE (xs.take p.2) p.1) (h := fun p : D × Nat => p.1) (fun p hp2 => ?_) (fun _ _ _ => rfl), R.bind_ok, R.bind_ok, List.map_id, eq_nilD (List.all_eq_true.mpr fun x hx => hx59 x (List.mem_filter.mp hx).1), R.bind_ok, trR_bl, R.bind_ok]
    · cases ha : (xs.filter fun x => !anyE (ns.map ds) x).isEmpty with
      | true =>
        have ha' : ∀ x ∈ xs, anyE (ns.map ds) x = true := fun x hx => by
          rw [List.isEmpty_iff, List.filter_eq_nil_iff] at ha
          simpa using ha x hx
        rw [if_pos rfl, hlen, R.bind_ok, show pr (gLen [D.lst ((xs.zipIdx.filter fun p : D × Nat => !anyE (xs.take p.2) p.1).map fun p : D × Nat => p.1)]) = .ok (.int ((xs.zipIdx.filter fun p : D × Nat => !anyE (xs.take p.2) p.1).map fun p : D × Nat => p.1).length) from rfl, R.bind_ok, List.length_map, fEq_int]
        congr 2
        unfold unl
        rw [Bool.eq_iff_iff, decide_eq_true_iff, List.all_eq_true]
        have hz : xs.zipIdx.length = xs.length := List.length_zipIdx
        constructor
        · intro e p hp2
          have e2 : (xs.zipIdx.filter fun p : D × Nat => !anyE (xs.take p.2) p.1).length = xs.zipIdx.length := by omega
          rw [List.length_filter_eq_length_iff] at e2
          rw [ha' p.1 (mem_zi hp2), Bool.true_and]
          exact e2 p hp2
        · intro h
          have e2 : (xs.zipIdx.filter fun p : D × Nat => !anyE (xs.take p.2) p.1).length = xs.zipIdx.length := List.length_filter_eq_length_iff.mpr fun p hp2 => (Bool.and_eq_true_iff.mp (h p hp2)).2
          omega
      | false =>
        rw [if_neg (by decide : ¬(false = true))]
        congr 2
        symm
        have hne : (xs.filter fun x => !anyE (ns.map ds) x) ≠ [] := fun z => by rw [z] at ha; cases ha
        obtain ⟨x, hx⟩ := List.exists_mem_of_ne_nil _ hne
        obtain ⟨h1, h2⟩ := List.mem_filter.mp hx
        obtain ⟨i, hi, rfl⟩ := List.mem_iff_getElem.mp h1
        unfold unl
        rw [List.all_eq_false]
        exact ⟨(xs[i], i), List.mem_zipIdx_iff_getElem?.mpr (by simp [hi]), by simp only [Bool.not_eq_true'] at h2; simp [h2]⟩
    · obtain ⟨r2, hr2, e⟩ := cut_row (k := p.2) hr
      rw [e, R.bind_ok, notin_row hr2 (hx60 _ (mem_zi hp2)) (all_take hp), R.bind_ok, asB_bl]
  · rw [id, isi_str_fitA (hf x hx), R.bind_ok, trR_bl, R.bind_ok, R.bind_ok]
    cases hs : isStr x with
    | true => rw [Bool.not_true, if_neg (by decide : ¬(false = true)), notin_row (r := dn ns) (.tup _) (hx60 x hx) pl_all, R.bind_ok, asB_bl]
    | false =>
      rw [Bool.not_false, if_pos rfl]
      congr 1
      symm
      cases e2 : anyE (ns.map ds) x with
      | false => rfl
      | true =>
        obtain ⟨a, _, rfl⟩ := inN_name e2
        cases hs
end VP

/-! Pa6: orders and marks, by the program and by the law. -/
namespace VP
open PySem PySem.Spec PyProof.Rows L2 VF
def tierOk : D → Bool
  | .tup (_ :: _) => true
  | _ => false
def tierL : D → List D
  | .tup xs => xs
  | _ => []
theorem tierOk_tup {x : D} (h : tierOk x = true) : ∃ y ys, x = .tup (y :: ys) := by
  cases x with
  | tup xs => cases xs with
    | nil => cases h
    | cons y ys => exact ⟨y, ys, rfl⟩
  | _ => cases h
def ordB (ns : List N) (xs : List D) : Bool := xs.all tierOk && unl ns (xs.flatMap tierL)
theorem fold_tup : ∀ (xs acc : List D), (∀ x ∈ xs, tierOk x = true) → acc.length + (xs.flatMap tierL).length ≤ 1000 → foldM some (fun (x : D) (a : D) => (ofO (sSeq [x])).bind fun i => foldM some (fun (y : D) (b : D) => lsR (.ok y) b) i a) xs (.lst acc) = .ok (.lst (acc ++ xs.flatMap tierL))
  | [], acc, _, _ => by unfold foldM; simp
  | x :: xs, acc, h, hl => by
    obtain ⟨y, ys, rfl⟩ := tierOk_tup (h x List.mem_cons_self)
    rw [List.flatMap_cons, List.length_append] at hl
    have hl2 : acc.length + (y :: ys).length + (xs.flatMap tierL).length ≤ 1000 := by
      have : (tierL (.tup (y :: ys))).length = (y :: ys).length := rfl
      omega
    unfold foldM
    have e : ofO (sSeq [D.tup (y :: ys)]) = .ok (y :: ys) := rfl
    simp only [e, R.bind_ok, fold_ls (y :: ys) acc (by omega), noE_ok]
    rw [fold_tup xs (acc ++ (y :: ys)) (fun z hz => h z (List.mem_cons_of_mem _ hz)) (by rw [List.length_append]; omega), List.flatMap_cons, List.append_assoc]
    rfl
theorem fit_kids {n : Nat} {xs : List D} (h : fitA (n + 1) (.tup xs) = true) : xs.length ≤ 20 ∧ ∀ x ∈ xs, fitA n x = true := by
  rw [fitA] at h
  obtain ⟨h1, h2⟩ := Bool.and_eq_true_iff.mp h
  exact ⟨of_decide_eq_true h1, List.all_eq_true.mp h2⟩
theorem flat_fit {n : Nat} : ∀ {xs : List D}, (∀ x ∈ xs, fitA (n + 1) x = true) → (∀ y ∈ xs.flatMap tierL, fitA n y = true) ∧ (xs.flatMap tierL).length ≤ 20 * xs.length
  | [], _ => ⟨(fun y h => by cases h), by simp⟩
  | x :: xs, h => by
    obtain ⟨h1, h2⟩ := flat_fit (xs := xs) fun y hy => h y (List.mem_cons_of_mem _ hy)
    have hx : (∀ y ∈ tierL x, fitA n y = true) ∧ (tierL x).length ≤ 20 := by
      cases x with
      | tup ys =>
        obtain ⟨a, b⟩ := fit_kids (h _ List.mem_cons_self)
        exact ⟨b, a⟩
      | _ => exact ⟨fun y hy => (by cases hy), Nat.zero_le _⟩
    rw [List.flatMap_cons]
    refine ⟨fun y hy => ?_, ?_⟩
    · rcases List.mem_append.mp hy with hy | hy
      · exact hx.1 y hy
      · exact h1 y hy
    · rw [List.length_append, List.length_cons]; omega
theorem tier_tst {n : Nat} {x : D} (h : fitA n x = true) (hn : n ≤ 60) : ((pr ((fIsi "tuple") [x])).bind fun d4 => (trR d4).bind fun b5 => if b5 = true then (pr (fNe [x, D.tup []])) else R.ok d4) = .ok (.bl (tierOk x)) := by
  rw [isi_tup_fitA h, R.bind_ok, trR_bl, R.bind_ok]
  cases x with
  | tup xs =>
    rw [if_pos (show isTup (.tup xs) = true from rfl)]
    have hp : pl 60 (.tup xs) = true := fitA60 hn h
    show pr (if pl 60 (.tup xs) = true ∧ pl 60 (.tup []) = true then some (Rv.val (.bl (!D.eq (.tup xs) (.tup [])))) else none) = _
    rw [if_pos ⟨hp, rfl⟩]
    cases xs <;> rfl
  | _ => first | rfl | (cases n <;> simp [fitA] at h)
theorem tiersP {n : Nat} {ns : List N} {xs : List D} (hl : xs.length ≤ 20) (hf : ∀ x ∈ xs, fitA (n + 1) x = true) (hn : n ≤ 58) : c_are_tiers (.tup xs) (dn ns) = .ok (.bl (ordB ns xs)) := by
  obtain ⟨f1, f2⟩ := flat_fit hf
  unfold c_are_tiers
  rw [show pr (fIsi "tuple" [D.tup xs]) = .ok (.bl true) from isi_tup, R.bind_ok, trR_bl, R.bind_ok, R.bind_ok, Bool.not_true, if_neg (by decide : ¬(false = true)), seq_tup, R.bind_ok]
  rw [show mapR some (fun x3 : D => (pr ((fIsi "tuple") [x3])).bind fun d4 => (trR d4).bind fun b5 => if b5 = true then (pr (fNe [x3, D.tup []])) else .ok d4) xs = .ok (xs.map fun x => .bl (tierOk x)) from by
    rw [show xs = xs.map id by simp, mapR_some, mapE_eq (h := fun x => D.bl (tierOk x)) fun x hx => by rw [id]; exact tier_tst (hf x hx) (by omega)]
    simp, R.bind_ok, R.bind_ok, all_bls, R.bind_ok, trR_bl, R.bind_ok, R.bind_ok]
  unfold ordB
  cases ha : xs.all tierOk with
  | false => rw [Bool.not_false, if_pos rfl, Bool.false_and]
  | true =>
    rw [Bool.not_true, if_neg (by decide : ¬(false = true)), Bool.true_and, R.bind_ok, fold_tup xs [] (List.all_eq_true.mp ha) (by rw [List.length_nil]; omega), R.bind_ok, cn_lst, R.bind_ok, List.nil_append, someof_rowA (.lst _) (by omega) f1 (by omega)]
theorem ordL_run {n : Nat} : ∀ (xs acc : List D), acc.length + 20 * xs.length ≤ 1000 → (∀ x ∈ xs, fitA (n + 1) x = true) → n ≤ 58 → forB some (fun (t1 : D) (x2 : D) => ((((pr ((fIsi "tuple") [x2])).bind fun a3 => trR a3).bind fun b4 => .ok (!b4)).bind fun b5 => if b5 = true then .ok true else ((pr (fEq [x2, D.tup []])).bind asB)).bind fun b6 => if b6 = true then (R.ok (D.bl false)).bind fun a9 => .ok (.rt a9) else ((pro (fList [x2])).bind fun a7 => pr (fAdd [t1, a7])).bind fun v_some_8 => .ok (.nx v_some_8)) xs (.lst acc) = .ok (if xs.all tierOk = true then LS.nx (D.lst (acc ++ xs.flatMap tierL)) else LS.rt (.bl false))
  | [], acc, _, _, _ => by rw [List.all_nil, if_pos rfl]; simp [forB]
  | x :: xs, acc, hl, hf, hn => by
    rw [List.length_cons] at hl
    have hx := hf x List.mem_cons_self
    unfold forB
    simp only [isi_tup_fitA hx, R.bind_ok, trR_bl]
    cases x with
    | tup ys =>
      obtain ⟨k1, k2⟩ := fit_kids hx
      have hp : pl 60 (.tup ys) = true := fitA60 (by omega) hx
      have e1 : pr (fEq [D.tup ys, D.tup []]) = .ok (.bl ys.isEmpty) := by
        show pr (if pl 60 (.tup ys) = true ∧ pl 60 (.tup []) = true then some (Rv.val (.bl (D.eq (.tup ys) (.tup [])))) else none) = _
        rw [if_pos ⟨hp, rfl⟩]
        cases ys <;> rfl
      rw [show isTup (.tup ys) = true from rfl, Bool.not_true, if_neg (by decide : ¬(false = true)), e1, R.bind_ok, asB_bl, R.bind_ok]
      cases ys with
      | nil => rw [List.all_cons]; rfl
      | cons y ys =>
        rw [show (y :: ys).isEmpty = false from rfl, if_neg (by decide : ¬(false = true)), show pro (fList [D.tup (y :: ys)]) = .ok (.lst (y :: ys)) from rfl, R.bind_ok, add_lst (by omega), R.bind_ok, R.bind_ok]
        have ih := ordL_run xs (acc ++ (y :: ys)) (by rw [List.length_append]; omega) (fun z hz => hf z (List.mem_cons_of_mem _ hz)) hn
        rw [List.all_cons, show tierOk (.tup (y :: ys)) = true from rfl, Bool.true_and, List.flatMap_cons, show tierL (.tup (y :: ys)) = y :: ys from rfl, ← List.append_assoc]
        exact ih
    | _ => first | (rw [List.all_cons]; rfl) | (simp [fitA] at hx)
theorem orderL {n : Nat} {ns : List N} {xs : List D} (hl : xs.length ≤ 20) (hf : ∀ x ∈ xs, fitA (n + 1) x = true) (hn : n ≤ 58) : c_l_is_order (.tup xs) (dn ns) = .ok (.bl (ordB ns xs)) := by
  obtain ⟨f1, f2⟩ := flat_fit hf
  unfold c_l_is_order
  rw [seq_tup, R.bind_ok, ordL_run xs [] (by simp; omega) hf hn, R.bind_ok]
  unfold ordB
  cases ha : xs.all tierOk with
  | false => rfl
  | true =>
    rw [if_pos rfl, Bool.true_and, List.nil_append]
    exact lnames_row (.lst _) (by omega) f1 (by omega)
end VP

/-! Pa7: marks; ballots. -/
namespace VP
open PySem PySem.Spec PyProof.Rows L2 VF
def pairOk : D → Bool
  | .tup [_, _] => true
  | _ => false
def wholeM : D → Bool
  | .int m => decide (0 ≤ m) && decide (m ≤ 9)
  | _ => false
def sndD : D → D
  | .tup [_, y] => y
  | _ => .non
def fstD : D → D
  | .tup [x, _] => x
  | _ => .non
def markOk (d : D) : Bool := pairOk d && wholeM (sndD d)
def marksB (ns : List N) (xs : List D) : Bool := xs.all markOk && unl ns (xs.map fstD)
theorem pairOk_tup {x : D} (h : pairOk x = true) : ∃ a b, x = .tup [a, b] := by
  cases x with
  | tup xs => match xs, h with
    | [a, b], _ => exact ⟨a, b, rfl⟩
  | _ => cases h
theorem len2_tst {xs : List D} : pr (fEq [D.int xs.length, D.int 2]) = .ok (.bl (pairOk (.tup xs))) := by
  rw [fEq_int]
  congr 2
  match xs with
  | [] => rfl
  | [_] => rfl
  | [_, _] => rfl
  | _ :: _ :: _ :: l => simp [pairOk]; omega
theorem len2_ne {xs : List D} : pr (fNe [D.int xs.length, D.int 2]) = .ok (.bl (!pairOk (.tup xs))) := by
  rw [ne_ii]
  congr 3
  match xs with
  | [] => rfl
  | [_] => rfl
  | [_, _] => rfl
  | _ :: _ :: _ :: l => simp [pairOk]; omega
theorem gLen_tup {xs : List D} : pr (gLen [D.tup xs]) = .ok (.int xs.length) := rfl
theorem whole_chk {n : Nat} {y : D} (h : fitA n y = true) : ((c_is_whole y).bind fun d15 => (trR d15).bind fun b16 => if b16 = true then (chR fLe fLe (.ok (D.int 0)) (.ok y) (.ok (D.int 9))) else .ok d15) = .ok (.bl (wholeM y)) := by
  obtain ⟨h1, h2⟩ := isi_int_fitA h
  unfold c_is_whole
  rw [h1, R.bind_ok, trR_bl, R.bind_ok]
  cases y with
  | int m =>
    rw [show isIntD (.int m) = true from rfl, if_pos rfl, h2, R.bind_ok, trR_bl, R.bind_ok, R.bind_ok, trR_bl, R.bind_ok, show isBlD (.int m) = false from rfl, Bool.not_false, if_pos rfl]
    unfold chR
    simp only [R.bind_ok, pr_le, asB_bl]
    rw [show wholeM (.int m) = (decide (0 ≤ m) && decide (m ≤ 9)) from rfl]
    by_cases c : (0 : Int) ≤ m
    · rw [decide_eq_true c, if_pos rfl, Bool.true_and]
    · rw [decide_eq_false c, if_neg (by decide : ¬(false = true)), Bool.false_and]
  | bl b =>
    rw [show isIntD (.bl b) = true from rfl, if_pos rfl, h2, R.bind_ok, trR_bl, R.bind_ok, R.bind_ok, trR_bl, R.bind_ok, show isBlD (.bl b) = true from rfl, Bool.not_true, if_neg (by decide : ¬(false = true))]
    rfl
  | non => rfl
  | str _ => rfl
  | tup _ => rfl
  | lst _ => rfl
  | _ => cases n <;> simp [fitA] at h
theorem marksP {n : Nat} {ns : List N} {xs : List D} (hl : xs.length ≤ 20) (hf : ∀ x ∈ xs, fitA (n + 1) x = true) (hn : n ≤ 58) : c_are_marks (.tup xs) (dn ns) = .ok (.bl (marksB ns xs)) := by
  unfold c_are_marks
  rw [show pr (fIsi "tuple" [D.tup xs]) = .ok (.bl true) from isi_tup, R.bind_ok, trR_bl, R.bind_ok, R.bind_ok, Bool.not_true, if_neg (by decide : ¬(false = true)), seq_tup, R.bind_ok]
  rw [show mapR some (fun x3 : D => (pr ((fIsi "tuple") [x3])).bind fun d5 => (trR d5).bind fun b6 => if b6 = true then ((pr (gLen [x3])).bind fun a4 => pr (fEq [a4, D.int 2])) else .ok d5) xs = .ok (xs.map fun x => .bl (pairOk x)) from by
    rw [show xs = xs.map id by simp, mapR_some, mapE_eq (h := fun x => D.bl (pairOk x)) fun x hx => by
      rw [id, isi_tup_fitA (hf x hx), R.bind_ok, trR_bl, R.bind_ok]
      have hx := hf x hx
      cases x with
      | tup ys => rw [if_pos (show isTup (.tup ys) = true from rfl), gLen_tup, R.bind_ok, len2_tst]
      | _ => first | rfl | simp [fitA] at hx]
    simp, R.bind_ok, R.bind_ok, all_bls, R.bind_ok, trR_bl, R.bind_ok, R.bind_ok]
  unfold marksB
  cases ha : xs.all pairOk with
  | false =>
    rw [Bool.not_false, if_pos rfl]
    have : xs.all markOk = false := by
      rw [List.all_eq_false] at ha ⊢
      obtain ⟨x, hx, h⟩ := ha
      exact ⟨x, hx, fun z => h (Bool.and_eq_true_iff.mp z).1⟩
    rw [this, Bool.false_and]
  | true =>
    rw [Bool.not_true, if_neg (by decide : ¬(false = true)), R.bind_ok]
    have hp := List.all_eq_true.mp ha
    have hu : ∀ x ∈ xs, (un2 some some x : Option (D × D)) = some (fstD x, sndD x) := fun x hx => by
      obtain ⟨a, b, rfl⟩ := pairOk_tup (hp x hx)
      rfl
    have hsn : ∀ x ∈ xs, fitA n (sndD x) = true ∧ fitA n (fstD x) = true := fun x hx => by
      obtain ⟨a, b, rfl⟩ := pairOk_tup (hp x hx)
      obtain ⟨_, k⟩ := fit_kids (hf _ hx)
      exact ⟨k b (by simp), k a (by simp)⟩
    have run : ∀ (f : D × D → R D) (g : D → D), (∀ x ∈ xs, f (fstD x, sndD x) = .ok (g x)) → mapR (un2 some some) f xs = .ok (xs.map g) := fun f g hg => mapR_ok fun x hx => ⟨_, hu x hx, hg x hx⟩
    rw [run _ (fun x => .bl (wholeM (sndD x))) (fun x hx => whole_chk (hsn x hx).1), R.bind_ok, R.bind_ok, all_bls, R.bind_ok, trR_bl, R.bind_ok, R.bind_ok]
    have eall : xs.all markOk = xs.all fun x => wholeM (sndD x) := by
      refine all_cg fun x hx => ?_
      unfold markOk
      rw [hp x hx, Bool.true_and]
    rw [eall]
    cases hb : xs.all fun x => wholeM (sndD x) with
    | false => rw [Bool.not_false, if_pos rfl, Bool.false_and]
    | true =>
      rw [Bool.not_true, if_neg (by decide : ¬(false = true)), Bool.true_and, R.bind_ok, run _ fstD (fun x _ => rfl), R.bind_ok, R.bind_ok, someof_rowA (.lst _) (by rw [List.length_map]; omega) (fun y hy => by obtain ⟨x, hx, rfl⟩ := List.mem_map.mp hy; exact (hsn x hx).2) (by omega)]
/-- the law's own look at marks -/
theorem markL_run {n : Nat} {xs : List D} (hf : ∀ x ∈ xs, fitA (n + 1) x = true) : forB some (fun (t1 : Unit) (x2 : D) => ((((pr ((fIsi "tuple") [x2])).bind fun a3 => trR a3).bind fun b4 => .ok (!b4)).bind fun b6 => if b6 = true then .ok true else (((pr (gLen [x2])).bind fun a5 => pr (fNe [a5, D.int 2])).bind asB)).bind fun b7 => if b7 = true then (R.ok (D.bl false)).bind fun a17 => .ok (.rt a17) else (pr (gItem [x2, D.int 1])).bind fun v_mark_8 => ((((pr ((fIsi "int") [v_mark_8])).bind fun a9 => trR a9).bind fun b10 => .ok (!b10)).bind fun b14 => if b14 = true then .ok true else (((pr ((fIsi "bool") [v_mark_8])).bind fun a11 => trR a11).bind fun b13 => if b13 = true then .ok true else (((chR fLe fLe (.ok (D.int 0)) (.ok v_mark_8) (.ok (D.int 9))).bind asB).bind fun b12 => .ok (!b12)))).bind fun b15 => if b15 = true then (R.ok (D.bl false)).bind fun a16 => .ok (.rt a16) else .ok (.nx ())) xs () = .ok (if xs.all markOk = true then LS.nx () else LS.rt (D.bl false)) := by
  have e := forB_find (A := D) (u := some) (e := fun x : D => x) (e' := fun x : D => x) (p := fun x => !markOk x) (r := fun _ => D.bl false) (fun _ => rfl) (f := fun (t1 : Unit) (x2 : D) => ((((pr ((fIsi "tuple") [x2])).bind fun a3 => trR a3).bind fun b4 => .ok (!b4)).bind fun b6 => if b6 = true then .ok true else (((pr (gLen [x2])).bind fun a5 => pr (fNe [a5, D.int 2])).bind asB)).bind fun b7 => if b7 = true then (R.ok (D.bl false)).bind fun a17 => .ok (.rt a17) else (pr (gItem [x2, D.int 1])).bind fun v_mark_8 => ((((pr ((fIsi "int") [v_mark_8])).bind fun a9 => trR a9).bind fun b10 => .ok (!b10)).bind fun b14 => if b14 = true then .ok true else (((pr ((fIsi "bool") [v_mark_8])).bind fun a11 => trR a11).bind fun b13 => if b13 = true then .ok true else (((chR fLe fLe (.ok (D.int 0)) (.ok v_mark_8) (.ok (D.int 9))).bind asB).bind fun b12 => .ok (!b12)))).bind fun b15 => if b15 = true then (R.ok (D.bl false)).bind fun a16 => .ok (.rt a16) else .ok (.nx ())) xs fun x hx => by
    have hx := hf x hx
    rw [isi_tup_fitA hx, R.bind_ok, trR_bl, R.bind_ok, R.bind_ok]
    cases x with
    | tup ys =>
      obtain ⟨_, k⟩ := fit_kids hx
      rw [show isTup (.tup ys) = true from rfl, Bool.not_true, if_neg (by decide : ¬(false = true)), gLen_tup, R.bind_ok, len2_ne, R.bind_ok, asB_bl, R.bind_ok]
      unfold markOk
      cases hp : pairOk (.tup ys) with
      | false => rfl
      | true =>
        obtain ⟨a, b, e⟩ := pairOk_tup hp
        cases e
        have hb := k b (by simp)
        obtain ⟨h1, h2⟩ := isi_int_fitA hb
        rw [Bool.not_true, if_neg (by decide : ¬(false = true)), show pr (gItem [D.tup [a, b], D.int 1]) = .ok b from rfl, R.bind_ok, h1, R.bind_ok, trR_bl, R.bind_ok, R.bind_ok, show sndD (.tup [a, b]) = b from rfl, Bool.true_and]
        cases b with
        | int m =>
          rw [show isIntD (.int m) = true from rfl, Bool.not_true, if_neg (by decide : ¬(false = true)), h2, R.bind_ok, trR_bl, R.bind_ok, show isBlD (.int m) = false from rfl, if_neg (by decide : ¬(false = true))]
          unfold chR
          simp only [R.bind_ok, pr_le, asB_bl]
          rw [show wholeM (.int m) = (decide (0 ≤ m) && decide (m ≤ 9)) from rfl]
          by_cases c : (0 : Int) ≤ m
          · rw [decide_eq_true c, if_pos rfl, Bool.true_and]
            cases (decide (m ≤ 9)) <;> rfl
          · rw [decide_eq_false c, if_neg (by decide : ¬(false = true)), Bool.false_and]
            rfl
        | bl c => rw [show isIntD (.bl c) = true from rfl, Bool.not_true, if_neg (by decide : ¬(false = true)), h2]; rfl
        | non => rfl
        | str _ => rfl
        | tup _ => rfl
        | lst _ => rfl
        | _ => cases n <;> simp [fitA] at hb
    | _ => first | rfl | simp [fitA] at hx
  rw [List.map_id'] at e
  rw [e]
  cases ef : xs.find? fun x => !markOk x with
  | some x =>
    have h1 := List.find?_some ef
    have h2 := List.mem_of_find?_eq_some ef
    have : xs.all markOk = false := by
      rw [List.all_eq_false]
      exact ⟨x, h2, fun z => by rw [z] at h1; cases h1⟩
    rw [this]
    rfl
  | none =>
    rw [List.find?_eq_none] at ef
    have : xs.all markOk = true := List.all_eq_true.mpr fun x hx => by simpa using ef x hx
    rw [this]
    rfl
theorem marksL {n : Nat} {ns : List N} {xs : List D} (hl : xs.length ≤ 20) (hf : ∀ x ∈ xs, fitA (n + 1) x = true) (hn : n ≤ 58) : c_l_are_marks (.tup xs) (dn ns) = .ok (.bl (marksB ns xs)) := by
  unfold c_l_are_marks
  rw [seq_tup, R.bind_ok, markL_run hf, R.bind_ok]
  unfold marksB
  cases ha : xs.all markOk with
  | false => rfl
  | true =>
    have hp := List.all_eq_true.mp ha
    have hk : ∀ x ∈ xs, ∃ a b, x = .tup [a, b] ∧ fitA n a = true := fun x hx => by
      obtain ⟨a, b, rfl⟩ := pairOk_tup (Bool.and_eq_true_iff.mp (hp x hx)).1
      exact ⟨a, b, rfl, (fit_kids (hf _ hx)).2 a (by simp)⟩
    rw [if_pos rfl, Bool.true_and]
    show R.bind _ _ = _
    rw [R.bind_ok, mapR_ok (g := fstD) fun x hx => ⟨x, rfl, by obtain ⟨a, b, rfl, _⟩ := hk x hx; rfl⟩, R.bind_ok, R.bind_ok]
    exact lnames_row (.lst _) (by rw [List.length_map]; omega) (fun y hy => by obtain ⟨x, hx, rfl⟩ := List.mem_map.mp hy; obtain ⟨a, b, rfl, h⟩ := hk x hx; exact h) (by omega)
end VP

/-! Pa8: data of told widths; what is a ballot. -/
namespace VP
open PySem PySem.Spec PyProof.Rows L2 VF
/-- plain data, at most so many things within each, level by level -/
def fitW : List Nat → D → Bool
  | [], _ => false
  | _ :: _, .non => true
  | _ :: _, .bl _ => true
  | _ :: _, .int i => decide (i ∈ intsA)
  | _ :: _, .str x => decide (x.length ≤ 10) && x.cps.toList.all fun c => decide (c < 4294967296)
  | w :: ws, .tup ds => decide (ds.length ≤ w) && ds.all (fitW ws)
  | w :: ws, .lst ds => decide (ds.length ≤ w) && ds.all (fitW ws)
  | _ :: _, _ => false
def bndW : List Nat → Nat
  | [] => 0
  | w :: ws => 105 + w * (bndW ws + 2)
theorem reprW_facts : ∀ (ws : List Nat) (d : D), fitW ws d = true → (toPy d).showable = true ∧ (toPy d).depth ≤ ws.length ∧ (toPy d).hasDict = false ∧ (toPy d).shown.length ≤ bndW ws := by
  intro ws
  induction ws with
  | nil => intro d h; simp [fitW] at h
  | cons w n ih =>
    have all : ∀ xs : List D, (∀ x ∈ xs, fitW n x = true) → PyData.showableAll (toPys xs) = true ∧ PyData.depthAll (toPys xs) ≤ n.length ∧ PyData.hasDictAll (toPys xs) = false ∧ ((PyData.shownAll (toPys xs)).map (·.length)).sum ≤ xs.length * bndW n ∧ (PyData.shownAll (toPys xs)).length = xs.length := by
      intro xs
      induction xs with
      | nil => intro _; simp [toPys, PyData.showableAll, PyData.depthAll, PyData.hasDictAll, PyData.shownAll]
      | cons x xs ihx =>
        intro h
        obtain ⟨a1, a2, a3, a4⟩ := ih x (h x List.mem_cons_self)
        obtain ⟨b1, b2, b3, b4, b5⟩ := ihx fun y hy => h y (List.mem_cons_of_mem _ hy)
        simp only [toPys, PyData.showableAll, PyData.depthAll, PyData.hasDictAll, PyData.shownAll, a1, b1, a3, b3, List.map_cons, List.sum_cons, List.length_cons, b5]
        refine ⟨rfl, by omega, rfl, ?_, trivial⟩
        rw [Nat.add_mul, Nat.one_mul]
        omega
    have pw : bndW (w :: n) = 105 + w * (bndW n + 2) := rfl
    have big : ∀ (xs : List D) (t : Nat), xs.length ≤ w → (∀ x ∈ xs, fitW n x = true) → t ≤ xs.length * bndW n + 2 * xs.length + 3 → t ≤ bndW (w :: n) := by
      intro xs t h1 h2 h3
      rw [pw]
      have h4 : xs.length * (bndW n + 2) ≤ w * (bndW n + 2) := Nat.mul_le_mul_right _ h1
      rw [Nat.mul_add] at h4
      omega
    intro d h
    cases d with
    | non => exact ⟨rfl, by simp [toPy, PyData.depth], rfl, by rw [pw]; show 4 ≤ _; omega⟩
    | bl b =>
      refine ⟨rfl, by simp [toPy, PyData.depth], rfl, ?_⟩
      rw [pw]
      cases b with
      | true => show 4 ≤ _; omega
      | false => show 5 ≤ _; omega
    | int i =>
      rw [fitW] at h
      have hi := intsA_ok i (of_decide_eq_true h)
      refine ⟨hi.1, by simp [toPy, PyData.depth], rfl, ?_⟩
      rw [pw]
      have := hi.2
      show (PyData.int i).shown.length ≤ _
      omega
    | str x =>
      rw [fitW] at h
      obtain ⟨h1, h2⟩ := Bool.and_eq_true_iff.mp h
      refine ⟨rfl, by simp [toPy, PyData.depth], rfl, ?_⟩
      have z := PySem.StrLaws.reprText_len x fun c hc => by
        have := List.all_eq_true.mp h2 c hc
        simpa using this
      have h1 := of_decide_eq_true h1
      rw [pw]
      show (reprText x).length ≤ _
      omega
    | lst xs =>
      rw [fitW] at h
      obtain ⟨h1, h2⟩ := Bool.and_eq_true_iff.mp h
      have h1 := of_decide_eq_true h1
      have h2 := List.all_eq_true.mp h2
      obtain ⟨b1, b2, b3, b4, b5⟩ := all xs h2
      refine ⟨by simp only [toPy, PyData.showable]; exact b1, by simp only [toPy, PyData.depth, List.length_cons]; omega, by simp only [toPy, PyData.hasDict]; exact b3, ?_⟩
      simp only [toPy, PyData.shown]
      refine big xs _ h1 h2 (Nat.le_trans (listText_len_le _) ?_)
      rw [b5]
      omega
    | tup xs =>
      rw [fitW] at h
      obtain ⟨h1, h2⟩ := Bool.and_eq_true_iff.mp h
      have h1 := of_decide_eq_true h1
      have h2 := List.all_eq_true.mp h2
      obtain ⟨b1, b2, b3, b4, b5⟩ := all xs h2
      refine ⟨by simp only [toPy, PyData.showable]; exact b1, by simp only [toPy, PyData.depth, List.length_cons]; omega, by simp only [toPy, PyData.hasDict]; exact b3, ?_⟩
      simp only [toPy, PyData.shown]
      refine big xs _ h1 h2 (Nat.le_trans (tupleText_len_le _) ?_)
      rw [b5]
      omega
    | dck _ _ => simp [fitW] at h
    | dct _ _ => simp [fitW] at h
    | ins _ _ _ => simp [fitW] at h
    | exn _ _ _ _ _ => simp [fitW] at h
    | tpp _ => simp [fitW] at h
theorem fitW_A : ∀ (ws : List Nat) (d : D), (∀ w ∈ ws, w ≤ 20) → fitW ws d = true → fitA ws.length d = true := by
  intro ws
  induction ws with
  | nil => intro d _ h; simp [fitW] at h
  | cons w ws ih =>
    intro d hw h
    have hw0 := hw w List.mem_cons_self
    have hw1 : ∀ v ∈ ws, v ≤ 20 := fun v hv => hw v (List.mem_cons_of_mem _ hv)
    have all : ∀ xs : List D, (decide (xs.length ≤ w) && xs.all (fitW ws)) = true → (decide (xs.length ≤ 20) && xs.all (fitA ws.length)) = true := fun xs h => by
      obtain ⟨h1, h2⟩ := Bool.and_eq_true_iff.mp h
      have h1 := of_decide_eq_true h1
      rw [decide_eq_true (by omega), Bool.true_and]
      exact List.all_eq_true.mpr fun x hx => ih x hw1 (List.all_eq_true.mp h2 x hx)
    cases d with
    | tup xs => rw [fitW] at h; show fitA (ws.length + 1) _ = true; rw [fitA]; exact all xs h
    | lst xs => rw [fitW] at h; show fitA (ws.length + 1) _ = true; rw [fitA]; exact all xs h
    | non => rfl
    | bl _ => rfl
    | int _ => rw [fitW] at h; show fitA (ws.length + 1) _ = true; rw [fitA]; exact h
    | str _ => rw [fitW] at h; show fitA (ws.length + 1) _ = true; rw [fitA]; exact h
    | _ => simp [fitW] at h
theorem repr_fitW {ws : List Nat} {d : D} (h : fitW ws d = true) (hw : ∀ w ∈ ws, w ≤ 20) (hl : ws.length ≤ 60) (hb : bndW ws ≤ 1000000) : ∃ x, pr (fRepr [d]) = .ok (.str x) := by
  obtain ⟨h1, h2, h3, h4⟩ := reprW_facts ws d h
  have h5 : pl 60 (nt d) = true := by
    have z := fitA60 hl (fitW_A ws d hw h)
    rw [nt_pl 60 d z]
    exact z
  refine ⟨(toPy d).shown, ?_⟩
  show pr (if _ then _ else _) = _
  rw [if_pos ⟨h5, h1, by omega, h3, by omega⟩]
  rfl
/-! ### ballots -/
def isBal (ns : List N) : D → Bool
  | .tup [.str w, .tup xs] => if w = "order" then ordB ns xs else if w = "lets" then unl ns xs else if w = "marks" then marksB ns xs else false
  | _ => false
theorem bal_len {ns : List N} {ys : List D} (h : pairOk (.tup ys) = false) : isBal ns (.tup ys) = false := by
  match ys, h with
  | [], _ => rfl
  | [x], _ => cases x <;> rfl
  | x :: y :: _ :: _, _ => cases x <;> first | rfl | (cases y <;> rfl)
theorem bal_snd {ns : List N} {w : Str} {b : D} (h : isTup b = false) : isBal ns (.tup [.str w, b]) = false := by
  cases b <;> first | rfl | cases h
theorem eq_strD {a b : Str} : pr (fEq [.str a, .str b]) = .ok (.bl (decide (a = b))) := by
  show pr (some (.val (.bl (a == b)))) = _
  rw [show (a == b) = decide (a = b) by by_cases h : a = b <;> simp [h]]
  rfl
theorem isi_tupN {x : D} {n : Nat} (h : fitA n x = true) (ht : isTup x = false) : pr (fIsi "tuple" [x]) = .ok (.bl false) := by rw [isi_tup_fitA h, ht]
theorem tiersN {n : Nat} {ns : List N} {x : D} (h : fitA n x = true) (ht : isTup x = false) : c_are_tiers x (dn ns) = .ok (.bl false) := by
  unfold c_are_tiers
  rw [isi_tupN h ht, R.bind_ok, trR_bl, R.bind_ok, R.bind_ok]
  rfl
theorem marksN {n : Nat} {ns : List N} {x : D} (h : fitA n x = true) (ht : isTup x = false) : c_are_marks x (dn ns) = .ok (.bl false) := by
  unfold c_are_marks
  rw [isi_tupN h ht, R.bind_ok, trR_bl, R.bind_ok, R.bind_ok]
  rfl
theorem balP {n : Nat} {ns : List N} {d : D} (h : fitA (n + 3) d = true) (hn : n ≤ 50) : c_is_ballot (dn ns) d = .ok (.bl (isBal ns d)) := by
  unfold c_is_ballot
  rw [isi_tup_fitA h, R.bind_ok, trR_bl, R.bind_ok, R.bind_ok]
  cases d with
  | tup ys =>
    obtain ⟨k1, k2⟩ := fit_kids (n := n + 2) h
    rw [show isTup (.tup ys) = true from rfl, Bool.not_true, if_neg (by decide : ¬(false = true)), gLen_tup, R.bind_ok, len2_ne, R.bind_ok, asB_bl, R.bind_ok]
    cases hp : pairOk (.tup ys) with
    | false =>
      rw [Bool.not_false, if_pos rfl, R.bind_ok, if_pos rfl]
      congr 2
      exact (bal_len hp).symm
    | true =>
      obtain ⟨a, b, e⟩ := pairOk_tup hp
      cases e
      have ka := k2 a (by simp)
      have kb := k2 b (by simp)
      rw [Bool.not_true, if_neg (by decide : ¬(false = true)), show pr (gItem [D.tup [a, b], D.int 0]) = .ok a from rfl, R.bind_ok, isi_str_fitA ka, R.bind_ok, trR_bl, R.bind_ok, R.bind_ok]
      cases a with
      | str w =>
        rw [show isStr (.str w) = true from rfl, Bool.not_true, if_neg (by decide : ¬(false = true)), R.bind_ok, show ofO (un2 some some (D.tup [D.str w, b])) = .ok (D.str w, b) from rfl, R.bind_ok]
        dsimp only
        rw [eq_strD, R.bind_ok, asB_bl, R.bind_ok, eq_strD, R.bind_ok, asB_bl, R.bind_ok, eq_strD, R.bind_ok, trR_bl, R.bind_ok, isi_tup_fitA kb, R.bind_ok, trR_bl, R.bind_ok]
        cases hb : isTup b with
        | false =>
          rw [tiersN kb hb, marksN kb hb, bal_snd hb, if_neg (by decide : ¬(false = true))]
          split
          · rfl
          · split
            · rfl
            · split <;> simp_all
        | true =>
          obtain ⟨xs, rfl⟩ : ∃ xs, b = .tup xs := by cases b <;> first | exact ⟨_, rfl⟩ | cases hb
          obtain ⟨j1, j2⟩ := fit_kids (n := n + 1) kb
          rw [tiersP j1 j2 (by omega), marksP j1 j2 (by omega), someof_rowA (.tup xs) (by omega) j2 (by omega), if_pos rfl]
          show _ = R.ok (D.bl (if w = "order" then ordB ns xs else if w = "lets" then unl ns xs else if w = "marks" then marksB ns xs else false))
          by_cases h1 : w = "order"
          · rw [decide_eq_true h1, if_pos rfl, if_pos h1]
          · rw [decide_eq_false h1, if_neg (by decide : ¬(false = true)), if_neg h1]
            by_cases h2 : w = "lets"
            · rw [decide_eq_true h2, if_pos rfl, if_pos h2]
            · rw [decide_eq_false h2, if_neg (by decide : ¬(false = true)), if_neg h2]
              by_cases h3 : w = "marks"
              · rw [decide_eq_true h3, if_pos rfl, if_pos h3]
              · rw [decide_eq_false h3, if_neg (by decide : ¬(false = true)), if_neg h3]
      | _ => rfl
  | _ => first | rfl | simp [fitA] at h
end VP

/-! Pa9: the law's own look; what is told. -/
namespace VP
open PySem PySem.Spec PyProof.Rows L2 VF
theorem in_three {w : Str} : pr (gNotIn [.str w, D.tup [D.str "order", D.str "lets", D.str "marks"]]) = .ok (.bl (!(decide (w = "order") || (decide (w = "lets") || decide (w = "marks"))))) := by
  rw [notin_row (.tup _) rfl rfl]
  congr 3
  unfold anyE
  simp only [List.any_cons, List.any_nil, Bool.or_false]
  have e : ∀ a : Str, D.eq (.str a) (.str w) = decide (w = a) := fun a => by
    show (a == w) = _
    by_cases h : w = a <;> simp [h]
    exact fun z => h z.symm
  rw [e, e, e]
theorem balL {n : Nat} {ns : List N} {d : D} (h : fitA (n + 3) d = true) (hn : n ≤ 50) : c_l_is_ballot d (dn ns) = .ok (.bl (isBal ns d)) := by
  unfold c_l_is_ballot
  rw [isi_tup_fitA h, R.bind_ok, trR_bl, R.bind_ok, R.bind_ok]
  cases d with
  | tup ys =>
    obtain ⟨k1, k2⟩ := fit_kids (n := n + 2) h
    rw [show isTup (.tup ys) = true from rfl, Bool.not_true, if_neg (by decide : ¬(false = true)), gLen_tup, R.bind_ok, len2_ne, R.bind_ok, asB_bl, R.bind_ok]
    cases hp : pairOk (.tup ys) with
    | false =>
      rw [Bool.not_false, if_pos rfl, bal_len hp]
    | true =>
      obtain ⟨a, b, e⟩ := pairOk_tup hp
      cases e
      have ka := k2 a (by simp)
      have kb := k2 b (by simp)
      rw [Bool.not_true, if_neg (by decide : ¬(false = true)), show pr (gItem [D.tup [a, b], D.int 0]) = .ok a from rfl, R.bind_ok, isi_str_fitA ka, R.bind_ok, trR_bl, R.bind_ok, R.bind_ok]
      cases a with
      | str w =>
        rw [show isStr (.str w) = true from rfl, Bool.not_true, if_neg (by decide : ¬(false = true)), show pr (gItem [D.tup [D.str w, b], D.int 1]) = .ok b from rfl, R.bind_ok, isi_tup_fitA kb, R.bind_ok, trR_bl, R.bind_ok, R.bind_ok]
        cases hb : isTup b with
        | false => rw [Bool.not_false, if_pos rfl, bal_snd hb]
        | true =>
          obtain ⟨xs, rfl⟩ : ∃ xs, b = .tup xs := by cases b <;> first | exact ⟨_, rfl⟩ | cases hb
          obtain ⟨j1, j2⟩ := fit_kids (n := n + 1) kb
          rw [Bool.not_true, if_neg (by decide : ¬(false = true)), R.bind_ok, in_three, R.bind_ok, asB_bl, R.bind_ok]
          have efl : pro (fList [D.tup xs]) = .ok (.lst xs) := rfl
          simp only [R.bind_ok, eq_strD, asB_bl, efl]
          rw [orderL j1 j2 (by omega), lnames_row (.lst xs) (by omega) j2 (by omega), marksL j1 j2 (by omega)]
          show _ = R.ok (D.bl (if w = "order" then ordB ns xs else if w = "lets" then unl ns xs else if w = "marks" then marksB ns xs else false))
          by_cases h1 : w = "order"
          · rw [decide_eq_true h1, if_pos rfl, if_pos h1]; rfl
          · rw [decide_eq_false h1, if_neg (by decide : ¬(false = true)), if_neg h1]
            by_cases h2 : w = "lets"
            · rw [decide_eq_true h2, if_pos rfl, if_pos h2]; rfl
            · rw [decide_eq_false h2, if_neg (by decide : ¬(false = true)), if_neg h2]
              by_cases h3 : w = "marks"
              · rw [decide_eq_true h3, if_pos h3]; rfl
              · rw [decide_eq_false h3, if_neg h3]; rfl
      | _ => rfl
  | _ => first | rfl | simp [fitA] at h
theorem checkA {n : Nat} {ns : List N} {d : D} (h : fitA (n + 3) d = true) (hn : n ≤ 50) : c_check_ballot (dn ns) d = if isBal ns d = true then .ok .non else .exc ⟨"BadBallot", ["why"], [.str "no ballot"]⟩ := by
  unfold c_check_ballot
  rw [balP h hn, R.bind_ok, trR_bl, R.bind_ok, R.bind_ok]
  cases isBal ns d <;> rfl
theorem toldA {n : Nat} {ns : List N} {d : D} (h : fitA (n + 3) d = true) (hn : n ≤ 50) : c_l_told_2 (dn ns) d = .ok (.str (if isBal ns d = true then "fine" else "refused")) := by
  unfold c_l_told_2
  rw [checkA h hn]
  cases isBal ns d with
  | true =>
    rw [if_pos rfl, if_pos rfl, R.bind_ok, show pr (fIsNot [D.non, D.non]) = .ok (.bl false) from rfl, R.bind_ok, asB_bl, R.bind_ok, if_neg (by decide : ¬(false = true))]
    rfl
  | false =>
    rw [if_neg (by decide : ¬(false = true)), if_neg (by decide : ¬(false = true))]
    show (R.bind (R.tryX (R.exc _) "BadBallot" _) _) = _
    rw [R.tryX_exc rfl]
    rfl
end VP

/-! PaA: ballots bent. -/
namespace VP
open PySem PySem.Spec PyProof.Rows L2 VF
abbrev WO : List Nat := [1, 1]
abbrev WP : List Nat := [13, 1, 1]
abbrev WS : List Nat := [14, 13, 1, 1]
abbrev WT : List Nat := [6, 14, 13, 1, 1]
theorem w_tup {w : Nat} {ws : List Nat} {xs : List D} (h : xs.length ≤ w) (h2 : ∀ x ∈ xs, fitW ws x = true) : fitW (w :: ws) (.tup xs) = true := by
  rw [fitW, decide_eq_true h, Bool.true_and]
  exact List.all_eq_true.mpr h2
theorem w_lst {w : Nat} {ws : List Nat} {xs : List D} (h : xs.length ≤ w) (h2 : ∀ x ∈ xs, fitW ws x = true) : fitW (w :: ws) (.lst xs) = true := by
  rw [fitW, decide_eq_true h, Bool.true_and]
  exact List.all_eq_true.mpr h2
theorem w_name {w : Nat} {ws : List Nat} {a : N} (h : NameOk a) : fitW (w :: ws) (ds a) = true := fit_name h
/-- what fits as a part of a part, and as a part -/
def OddOk (d : D) : Prop := fitW WO d = true ∧ fitW WP d = true
theorem odd_name {a : N} (h : NameOk a) : OddOk (ds a) := ⟨w_name h, w_name h⟩
theorem odd_tup {d : D} (h : fitW [1] d = true) (h2 : fitW WO d = true) : OddOk (.tup [d]) :=
  ⟨w_tup (by simp) fun x hx => by rw [List.mem_singleton.mp hx]; exact h, w_tup (by simp) fun x hx => by rw [List.mem_singleton.mp hx]; exact h2⟩
/-- a ballot's two parts -/
structure Slip (s : Str) (xs : List D) : Prop where
  w : ∀ v ws, fitW (v :: ws) (.str s) = true
  l : xs.length ≤ 6
  p : ∀ x ∈ xs, (∃ a, NameOk a ∧ x = ds a) ∨ ∃ ps, x = .tup ps ∧ 1 ≤ ps.length ∧ ps.length ≤ 6 ∧ ∀ q ∈ ps, fitW WO q = true
  m : s = "marks" → ∀ x ∈ xs, ∃ q ps, x = .tup (q :: ps) ∧ fitW WO q = true
theorem slip_wp {s : Str} {xs : List D} (h : Slip s xs) : ∀ x ∈ xs, fitW WP x = true := fun x hx => by
  rcases h.p x hx with ⟨a, ha, rfl⟩ | ⟨ps, rfl, h1, h2, h3⟩
  · exact w_name ha
  · exact w_tup (by omega) h3
theorem bal_slip {ns : List N} {b : Bal} (hn : Names ns) (h : BalOk ns b) : ∃ s xs, dBA b = .tup [.str s, .tup xs] ∧ Slip s xs := by
  have hi := hn.hi
  cases b with
  | lets l =>
    obtain ⟨h1, h2⟩ := h
    have hl := nodup_len h1 h2
    refine ⟨"lets", l.map ds, rfl, fun _ _ => by show (_ && _) = true; decide +kernel, by rw [List.length_map]; omega, fun x hx => .inl ?_, fun e => absurd e (by decide +kernel)⟩
    obtain ⟨a, ha, rfl⟩ := List.mem_map.mp hx
    exact ⟨a, hn.ok a (h2 a ha), rfl⟩
  | marks ps =>
    obtain ⟨h1, h2, h3⟩ := h
    have hl : ps.length ≤ ns.length := by
      have := nodup_len h1 (fun x hx => by obtain ⟨p, hp, rfl⟩ := List.mem_map.mp hx; exact h2 p hp)
      rwa [List.length_map] at this
    have hm : ∀ p ∈ ps, fitW WO (.int p.2) = true := fun p hp => by
      obtain ⟨a, b⟩ := h3 p hp
      show decide (p.2 ∈ intsA) = true
      generalize p.2 = m at a b
      have : m = 0 ∨ m = 1 ∨ m = 2 ∨ m = 3 ∨ m = 4 ∨ m = 5 ∨ m = 6 ∨ m = 7 ∨ m = 8 ∨ m = 9 := by omega
      rcases this with rfl | rfl | rfl | rfl | rfl | rfl | rfl | rfl | rfl | rfl <;> decide
    refine ⟨"marks", ps.map fun p => .tup [ds p.1, .int p.2], rfl, fun _ _ => by show (_ && _) = true; decide +kernel, by rw [List.length_map]; omega, fun x hx => .inr ?_, fun _ x hx => ?_⟩
    · obtain ⟨p, hp, rfl⟩ := List.mem_map.mp hx
      refine ⟨_, rfl, by simp, by simp, fun q hq => ?_⟩
      rcases List.mem_cons.mp hq with rfl | hq
      · exact w_name (hn.ok _ (h2 p hp))
      · rw [List.mem_singleton.mp hq]; exact hm p hp
    · obtain ⟨p, hp, rfl⟩ := List.mem_map.mp hx
      exact ⟨_, _, rfl, w_name (hn.ok _ (h2 p hp))⟩
  | order ts =>
    obtain ⟨h1, h2, h3⟩ := h
    have hf := nodup_len h1 h2
    have hlen : ∀ ts : List (List N), (∀ t ∈ ts, t ≠ []) → ts.length ≤ ts.flatten.length := fun ts => by
      induction ts with
      | nil => intro _; simp
      | cons t ts ih =>
        intro h
        have := ih fun u hu => h u (List.mem_cons_of_mem _ hu)
        have := List.length_pos_iff.mpr (h t List.mem_cons_self)
        rw [List.flatten_cons, List.length_append, List.length_cons]
        omega
    have hl := hlen ts h3
    refine ⟨"order", ts.map dT, rfl, fun _ _ => by show (_ && _) = true; decide +kernel, by rw [List.length_map]; omega, fun x hx => .inr ?_, fun e => absurd e (by decide +kernel)⟩
    obtain ⟨t, ht, rfl⟩ := List.mem_map.mp hx
    have hsub : ∀ a ∈ t, a ∈ ts.flatten := fun a ha => List.mem_flatten.mpr ⟨t, ht, ha⟩
    have htl : t.length ≤ ts.flatten.length := (List.sublist_flatten_of_mem ht).length_le
    refine ⟨t.map ds, rfl, by rw [List.length_map]; exact List.length_pos_iff.mpr (h3 t ht), by rw [List.length_map]; omega, fun q hq => ?_⟩
    obtain ⟨a, ha, rfl⟩ := List.mem_map.mp hq
    exact w_name (hn.ok a (h2 a (hsub a ha)))
theorem oddA_ok {k : Nat} {w : D} {ns : List N} (hw : WA k w) (hk : k ≤ 900000) (hn : Names ns) : (c_l_odd w (dn ns)).wp fun p => OddOk p.1 ∧ WA (k + 1) p.2 := by
  have hi := hn.hi
  have lo := hn.lo
  obtain ⟨o, os, hos⟩ : ∃ o os, ns = o :: os := by cases ns with | nil => simp at lo | cons o l => exact ⟨o, l, rfl⟩
  have h0 : pr (gItem [dn ns, D.int 0]) = .ok (ds o) := by rw [hos]; exact item0_tup
  have hne : ns ≠ [] := by rw [hos]; exact fun z => by cases z
  have h1 : (pr (fNeg [D.int 1])).bind (fun a1 => pr (gItem [dn ns, a1])) = .ok (ds (ns.getLast hne)) := last_item' hne
  unfold c_l_odd
  rw [h0, h1]
  rw [show tupR [R.ok (ds o)] = .ok (.tup [ds o]) from rfl]
  rw [show lstR [.ok (D.str "zzzzzzzz"), .ok (D.str ""), .ok (D.str "A"), .ok (D.str "abcdefghi"), .ok D.non, .ok (D.int 0), .ok (D.bl true), .ok (D.tup []), .ok (D.tup [D.str "a"]), .ok (D.lst []), .ok (ds o), .ok (ds (ns.getLast hne)), .ok (D.tup [ds o]), .ok (D.int 9)] = .ok (.lst [D.str "zzzzzzzz", D.str "", D.str "A", D.str "abcdefghi", D.non, D.int 0, D.bl true, D.tup [], D.tup [D.str "a"], D.lst [], ds o, ds (ns.getLast hne), D.tup [ds o], D.int 9]) from rfl, R.bind_ok, R.bind_assoc]
  refine R.wp_bind (oneA hw (by omega) (by simp) (by simp)) fun q ⟨hq, w1⟩ => ?_
  rw [R.bind_ok]
  refine R.wp_ok ⟨?_, w1⟩
  have ho : NameOk o := hn.ok o (by rw [hos]; exact List.mem_cons_self)
  simp only [List.mem_cons, List.not_mem_nil, or_false] at hq
  rcases hq with h | h | h | h | h | h | h | h | h | h | h | h | h | h <;> rw [h]
  · exact ⟨by decide +kernel, by decide +kernel⟩
  · exact ⟨by decide +kernel, by decide +kernel⟩
  · exact ⟨by decide +kernel, by decide +kernel⟩
  · exact ⟨by decide +kernel, by decide +kernel⟩
  · exact ⟨rfl, rfl⟩
  · exact ⟨by decide +kernel, by decide +kernel⟩
  · exact ⟨rfl, rfl⟩
  · exact ⟨by decide +kernel, by decide +kernel⟩
  · exact ⟨by decide +kernel, by decide +kernel⟩
  · exact ⟨by decide +kernel, by decide +kernel⟩
  · exact odd_name ho
  · exact odd_name (hn.ok _ (List.getLast_mem hne))
  · exact odd_tup (w_name ho) (w_name ho)
  · exact ⟨by decide +kernel, by decide +kernel⟩
end VP

/-! PaB: ballots bent, whole. -/
namespace VP
open PySem PySem.Spec PyProof.Rows L2 VF
theorem splice_ok {xs : List D} {r : Int} {p : D} (r0 : 0 ≤ r) (hl : xs.length ≤ 1000) : ((slR (.ok (.tup xs)) none (some (.ok (.int r)))).bind fun a => (pr (fAdd [a, D.tup [p]])).bind fun b => (slR (.ok (.tup xs)) (some (pr (fAdd [D.int r, D.int 1]))) none).bind fun c => pr (fAdd [b, c])) = .ok (.tup (xs.take r.toNat ++ [p] ++ xs.drop (r + 1).toNat)) := by
  have l1 : (xs.take r.toNat).length ≤ xs.length := by rw [List.length_take]; omega
  have l2 : (xs.drop (r + 1).toNat).length ≤ xs.length := by rw [List.length_drop]; omega
  rw [sl_take r0, R.bind_ok, add_tup (by rw [List.length_singleton]; omega), R.bind_ok, pr_add, sl_drop (by omega), R.bind_ok, add_tup (by rw [List.length_append, List.length_singleton]; omega)]
theorem splice0_ok {xs : List D} {r : Int} {p : D} (r0 : 0 ≤ r) (hl : xs.length ≤ 1000) : ((slR (.ok (.tup xs)) none (some (.ok (.int r)))).bind fun a => (pr (fAdd [a, D.tup [p]])).bind fun b => (slR (.ok (.tup xs)) (some (.ok (.int r))) none).bind fun c => pr (fAdd [b, c])) = .ok (.tup (xs.take r.toNat ++ [p] ++ xs.drop r.toNat)) := by
  have l1 : (xs.take r.toNat).length ≤ xs.length := by rw [List.length_take]; omega
  have l2 : (xs.drop r.toNat).length ≤ xs.length := by rw [List.length_drop]; omega
  rw [sl_take r0, R.bind_ok, add_tup (by rw [List.length_singleton]; omega), R.bind_ok, sl_drop r0, R.bind_ok, add_tup (by rw [List.length_append, List.length_singleton]; omega)]
theorem res_fit {s : Str} {xs zs : List D} (h : Slip s xs) (hl : zs.length ≤ 14) (hz : ∀ z ∈ zs, fitW WP z = true) : fitW WT (.tup [.str s, .tup zs]) = true :=
  w_tup (by simp) fun x hx => by
    rcases List.mem_cons.mp hx with rfl | hx
    · exact h.w _ _
    · rw [List.mem_singleton.mp hx]; exact w_tup hl hz
theorem spl_fit {s : Str} {xs : List D} {r r2 : Nat} {ps : List D} (h : Slip s xs) (hl : ps.length ≤ 2) (hp : ∀ p ∈ ps, fitW WP p = true) : (xs.take r ++ ps ++ xs.drop r2).length ≤ 14 ∧ ∀ z ∈ xs.take r ++ ps ++ xs.drop r2, fitW WP z = true := by
  have := h.l
  refine ⟨by simp only [List.length_append, List.length_take, List.length_drop]; omega, fun z hz => ?_⟩
  rcases List.mem_append.mp hz with hz | hz
  · rcases List.mem_append.mp hz with hz | hz
    · exact slip_wp h z (List.mem_of_mem_take hz)
    · exact hp z hz
  · exact slip_wp h z (List.mem_of_mem_drop hz)
theorem spl1 {s : Str} {xs : List D} {r r2 : Nat} {p : D} (h : Slip s xs) (hp : fitW WP p = true) : fitW WT (.tup [.str s, .tup (xs.take r ++ [p] ++ xs.drop r2)]) = true := by
  obtain ⟨a, b⟩ := spl_fit (r := r) (r2 := r2) (ps := [p]) h (by simp) fun q hq => by rw [List.mem_singleton.mp hq]; exact hp
  exact res_fit h a b
theorem sl_midA {xs : List D} {k : Int} (h0 : 0 ≤ k) (h : k < xs.length) {d : D} (hd : xs[k.toNat]? = some d) : slR (.ok (.tup xs)) (some (.ok (.int k))) (some (.ok (.int (k + 1)))) = .ok (.tup [d]) := by
  show pr (some (.val (.tup (VF.cutD xs (some k) (some (k + 1)))))) = _
  unfold VF.cutD
  rw [sIx_hi h0, sIx_hi (by omega), show min k.toNat xs.length = k.toNat by omega, show min (k + 1).toNat xs.length = k.toNat + 1 by omega]
  show R.ok (D.tup ((xs.drop k.toNat).take (k.toNat + 1 - k.toNat))) = _
  rw [show k.toNat + 1 - k.toNat = 1 by omega, List.drop_eq_getElem_cons (by omega), (List.getElem?_eq_some_iff.mp hd).2]
  rfl
theorem bent_ok {k : Nat} {w : D} {ns : List N} {s : Str} {xs : List D} (hw : WA k w) (hk : k ≤ 800000) (hn : Names ns) (hs : Slip s xs) : (c_l_bent_2 w (.tup [.str s, .tup xs]) (dn ns)).wp fun p => fitW WT p.1 = true ∧ WA (k + 10) p.2 := by
  have hl := hs.l
  have hxs : fitW WS (.tup xs) = true := w_tup (by omega) (slip_wp hs)
  have hxl : fitW WS (.lst xs) = true := w_lst (by omega) (slip_wp hs)
  have hs1 : ∀ v ws, fitW (v :: ws) (.str s) = true := hs.w
  have two : ∀ {a b : D}, fitW WS a = true → fitW WS b = true → fitW WT (.tup [a, b]) = true := fun h1 h2 => w_tup (by simp) fun x hx => by
    rcases List.mem_cons.mp hx with rfl | hx
    · exact h1
    · rw [List.mem_singleton.mp hx]; exact h2
  unfold c_l_bent_2
  rw [R.bind_ok, show ofO (un2 some some (D.tup [D.str s, D.tup xs])) = .ok (D.str s, D.tup xs) from rfl, R.bind_ok]
  simp only [R.bind_assoc, R.bind_ok]
  refine R.wp_bind (drawA hw (by omega) (by decide) (by decide)) fun b ⟨y, ey, y0, y1, w1⟩ => ?_
  refine R.wp_bind (oddA_ok w1 (by omega) hn) fun o ⟨ho, w2⟩ => ?_
  rw [ey, fEq_int, R.bind_ok, asB_bl, R.bind_ok]
  by_cases h0 : y = 0
  · rw [decide_eq_true h0, if_pos rfl, show pro (fList [D.tup xs]) = .ok (.lst xs) from rfl, tup2R, R.bind_ok, show lstR [R.ok (D.tup [D.str s, D.lst xs])] = .ok (.lst [D.tup [D.str s, D.lst xs]]) from rfl, R.bind_ok, add_lst (by simp), R.bind_ok]
    refine R.wp_bind (oneA w2 (by omega) (by simp) (by simp)) fun q ⟨hq, w3⟩ => R.wp_ok ⟨?_, w3.mono (by omega)⟩
    simp only [List.cons_append, List.nil_append, List.mem_cons, List.not_mem_nil, or_false] at hq
    rcases hq with h | h | h | h | h | h | h | h | h <;> rw [h]
    · rfl
    · decide +kernel
    · exact w_tup (by simp) fun x hx => by rw [List.mem_singleton.mp hx]; exact hs1 _ _
    · refine w_tup (by simp) fun x hx => ?_
      simp only [List.mem_cons, List.not_mem_nil, or_false] at hx
      rcases hx with rfl | rfl | rfl
      · exact hs1 _ _
      · exact hxs
      · decide +kernel
    · refine w_lst (by simp) fun x hx => ?_
      simp only [List.mem_cons, List.not_mem_nil, or_false] at hx
      rcases hx with rfl | rfl
      · exact hs1 _ _
      · exact hxs
    · decide +kernel
    · exact two hxs (hs1 _ _)
    · exact hs1 _ _
    · exact two (hs1 _ _) hxl
  rw [decide_eq_false h0, if_neg (by decide : ¬(false = true)), fEq_int, R.bind_ok, asB_bl, R.bind_ok]
  by_cases h1 : y = 1
  · rw [decide_eq_true h1, if_pos rfl]
    refine R.wp_bind (oneA w2 (by omega) (by simp) (by simp)) fun q ⟨hq, w3⟩ => R.wp_ok ⟨two ?_ hxs, w3.mono (by omega)⟩
    simp only [List.mem_cons, List.not_mem_nil, or_false] at hq
    rcases hq with h | h | h | h | h | h | h | h <;> rw [h] <;> decide +kernel
  rw [decide_eq_false h1, if_neg (by decide : ¬(false = true))]
  have hp59 : xs.all (pl 59) = true := List.all_eq_true.mpr fun x hx => fitA59 (n := 3) (by decide) (fitW_A WP x (by decide) (slip_wp hs x hx))
  have eqn : pr (fEq [D.tup xs, D.tup []]) = .ok (.bl xs.isEmpty) := by
    show pr (if pl 60 (.tup xs) = true ∧ pl 60 (.tup []) = true then some (Rv.val (.bl (D.eq (.tup xs) (.tup [])))) else none) = _
    rw [if_pos ⟨hp59, rfl⟩]
    cases xs <;> rfl
  rw [eqn, R.bind_ok, asB_bl, R.bind_ok]
  -- a thing put in
  have put : ((R.bind (pr (gLen [D.tup xs])) fun a38 => (pr (fAdd [a38, D.int 1])).bind fun d39 => (c_l_draw o.2 d39).bind fun p44 => (tupR [.ok (D.str s), ((slR (.ok (D.tup xs)) none (some (.ok p44.1))).bind fun a45 => (pr (fAdd [a45, D.tup [o.1]])).bind fun a46 => (slR (.ok (D.tup xs)) (some (.ok p44.1)) none).bind fun a47 => pr (fAdd [a46, a47]))]).bind fun d48 => R.ok (d48, p44.2))).wp fun p => fitW WT p.1 = true ∧ WA (k + 10) p.2 := by
    rw [gLen_tup, R.bind_ok, pr_add, R.bind_ok]
    refine R.wp_bind (drawA w2 (by omega) (by omega) (by omega)) fun q ⟨r, er, r0, r1, w3⟩ => ?_
    rw [er, splice0_ok r0 (by omega), tup2R, R.bind_ok]
    exact R.wp_ok ⟨spl1 hs ho.2, w3.mono (by omega)⟩
  cases hx0 : xs.isEmpty with
  | true => rw [if_pos rfl, R.bind_ok, if_pos rfl]; exact put
  | false =>
    have hpos : 0 < xs.length := by cases xs with | nil => cases hx0 | cons _ _ => simp
    rw [if_neg (by decide : ¬(false = true)), fEq_int, R.bind_ok, asB_bl, R.bind_ok]
    by_cases h2 : y = 2
    · rw [decide_eq_true h2, if_pos rfl]; exact put
    rw [decide_eq_false h2, if_neg (by decide : ¬(false = true)), gLen_tup, R.bind_ok]
    refine R.wp_bind (drawA w2 (by omega) (by omega) (by omega)) fun q ⟨r, er, r0, r1, w3⟩ => ?_
    obtain ⟨d, e1, e2⟩ := item_tup r0 r1
    have hd := List.mem_of_getElem? e1
    rw [er, e2, R.bind_ok, fEq_int, R.bind_ok, asB_bl, R.bind_ok]
    have hdA : fitA 3 d = true := fitW_A WP d (by decide) (slip_wp hs d hd)
    have tupOf : isTup d = true → ∃ ps, d = .tup ps ∧ 1 ≤ ps.length ∧ ps.length ≤ 6 ∧ ∀ q ∈ ps, fitW WO q = true := fun ht => by
      rcases hs.p d hd with ⟨a, _, rfl⟩ | h
      · cases ht
      · exact h
    by_cases h3 : y = 3
    · rw [decide_eq_true h3, if_pos rfl, sl_take r0, R.bind_ok, pr_add, sl_midA r0 r1 e1, R.bind_ok, show pr (fMulT [D.tup [d], D.int 2]) = .ok (.tup [d, d]) from rfl, R.bind_ok, add_tup (by simp; omega), R.bind_ok, sl_drop (by omega), R.bind_ok, add_tup (by simp only [List.length_append, List.length_take, List.length_drop, List.length_cons, List.length_nil]; omega), tup2R, R.bind_ok, R.bind_ok]
      obtain ⟨a1, a2⟩ := spl_fit (r := r.toNat) (r2 := (r + 1).toNat) (ps := [d, d]) hs (by simp) fun z hz => by
        have : z = d := by simpa using hz
        rw [this]; exact slip_wp hs d hd
      exact R.wp_ok ⟨res_fit hs a1 a2, w3.mono (by omega)⟩
    rw [decide_eq_false h3, if_neg (by decide : ¬(false = true)), fEq_int, R.bind_ok, asB_bl, R.bind_ok]
    rw [show (if decide (y = 4) = true then (pr ((fIsi "tuple") [d])).bind fun a63 => trR a63 else R.ok false) = R.ok (decide (y = 4) && isTup d) from by
      rw [isi_tup_fitA hdA, R.bind_ok, trR_bl]
      cases decide (y = 4) <;> rfl, R.bind_ok]
    cases c4 : decide (y = 4) && isTup d with
    | true =>
      obtain ⟨ps, rfl, p1, p6, pq⟩ := tupOf (Bool.and_eq_true_iff.mp c4).2
      rw [if_pos rfl, gLen_tup, R.bind_ok]
      refine R.wp_bind (drawA w3 (by omega) (by omega) (by omega)) fun q2 ⟨r2, er2, s0, s1, w4⟩ => ?_
      rw [er2, splice_ok (xs := ps) s0 (by omega), show ∀ P : D, tupR [R.ok P] = R.ok (D.tup [P]) from fun _ => rfl]
      simp only [R.bind_ok]
      rw [splice_ok r0 (by omega), tup2R, R.bind_ok, R.bind_ok]
      refine R.wp_ok ⟨spl1 hs (w_tup (by simp only [List.length_append, List.length_take, List.length_drop, List.length_cons, List.length_nil]; omega) fun z hz => ?_), w4.mono (by omega)⟩
      rcases List.mem_append.mp hz with hz | hz
      · rcases List.mem_append.mp hz with hz | hz
        · exact pq z (List.mem_of_mem_take hz)
        · rw [List.mem_singleton.mp hz]; exact ho.1
      · exact pq z (List.mem_of_mem_drop hz)
    | false =>
      rw [if_neg (by decide : ¬(false = true)), fEq_int, R.bind_ok, asB_bl, R.bind_ok]
      rw [show (if decide (y = 5) = true then (pr ((fIsi "tuple") [d])).bind fun a63 => trR a63 else R.ok false) = R.ok (decide (y = 5) && isTup d) from by
        rw [isi_tup_fitA hdA, R.bind_ok, trR_bl]
        cases decide (y = 5) <;> rfl, R.bind_ok]
      cases c5 : decide (y = 5) && isTup d with
      | true =>
        obtain ⟨ps, rfl, p1, p6, pq⟩ := tupOf (Bool.and_eq_true_iff.mp c5).2
        rw [if_pos rfl, add_tup (by simp; omega), sl_drop1, show pro (fList [D.tup ps]) = .ok (.lst ps) from rfl, add_tup (by omega), lst5R, R.bind_ok]
        refine R.wp_bind (oneA w3 (by omega) (by simp) (by simp)) fun q2 ⟨hq, w4⟩ => ?_
        rw [splice_ok r0 (by omega), tup2R, R.bind_ok, R.bind_ok]
        refine R.wp_ok ⟨spl1 hs ?_, w4.mono (by omega)⟩
        simp only [List.mem_cons, List.not_mem_nil, or_false] at hq
        rcases hq with h | h | h | h | h <;> rw [h]
        · refine w_tup (by simp; omega) fun z hz => ?_
          rcases List.mem_append.mp hz with hz | hz
          · exact pq z hz
          · rw [List.mem_singleton.mp hz]; exact ho.1
        · exact w_tup (by rw [List.length_drop]; omega) fun z hz => pq z (List.mem_of_mem_drop hz)
        · exact w_lst (by omega) pq
        · exact w_tup (by rw [List.length_append]; omega) fun z hz => (List.mem_append.mp hz).elim (pq z) (pq z)
        · decide +kernel
      | false =>
        rw [if_neg (by decide : ¬(false = true)), fEq_int, R.bind_ok, asB_bl, R.bind_ok]
        rw [show (if decide (y = 6) = true then (pr (fEq [D.str s, D.str "marks"])).bind asB else R.ok false) = R.ok (decide (y = 6) && decide (s = "marks")) from by
          rw [eq_strD, R.bind_ok, asB_bl]
          cases decide (y = 6) <;> rfl, R.bind_ok]
        cases c6 : decide (y = 6) && decide (s = "marks") with
        | true =>
          obtain ⟨m, ps, rfl, hm⟩ := hs.m (of_decide_eq_true (Bool.and_eq_true_iff.mp c6).2) d hd
          rw [if_pos rfl, show lstR [.ok (D.int 10), pr (fNeg [D.int 1]), .ok (D.bl true), .ok (D.str "3"), .ok D.non, .ok (D.int 9), .ok (D.int 0), pr (fPow [D.int 10, D.int 30]), .ok (D.tup [D.int 3])] = .ok (.lst [D.int 10, D.int (-1), D.bl true, D.str "3", D.non, D.int 9, D.int 0, D.int 1000000000000000000000000000000, D.tup [D.int 3]]) from by
            rw [pr_pow (by decide) (by decide) (by decide)]; rfl, R.bind_ok]
          refine R.wp_bind (oneA w3 (by omega) (by simp) (by simp)) fun q2 ⟨hq, w4⟩ => ?_
          rw [show tupR [tupR [pr (gItem [D.tup (m :: ps), D.int 0]), R.ok q2.1]] = .ok (.tup [.tup [m, q2.1]]) from by rw [item0_tup]; rfl]
          simp only [R.bind_ok]
          rw [splice_ok r0 (by omega), tup2R, R.bind_ok, R.bind_ok]
          have hq2 : fitW WO q2.1 = true := by
            simp only [List.mem_cons, List.not_mem_nil, or_false] at hq
            rcases hq with h | h | h | h | h | h | h | h | h <;> rw [h] <;> decide +kernel
          refine R.wp_ok ⟨spl1 hs (w_tup (by simp) fun z hz => ?_), w4.mono (by omega)⟩
          rcases List.mem_cons.mp hz with rfl | hz
          · exact hm
          · rw [List.mem_singleton.mp hz]; exact hq2
        | false =>
          rw [if_neg (by decide : ¬(false = true)), splice_ok r0 (by omega), tup2R, R.bind_ok, R.bind_ok]
          exact R.wp_ok ⟨spl1 hs ho.2, w3.mono (by omega)⟩
end VP

/-! PaC: the law k11. -/
namespace VP
open PySem PySem.Spec PyProof.Rows L2 VF
theorem unl_of {ns l : List N} (hn : Names ns) (h1 : l.Nodup) (h2 : ∀ x ∈ l, x ∈ ns) : unl ns (l.map ds) = true := by
  have hl := nodup_len h1 h2
  have hi := hn.hi
  unfold unl
  rw [List.all_eq_true]
  rintro ⟨x, i⟩ hx
  have e := List.mk_mem_zipIdx_iff_getElem?.mp hx
  rw [List.getElem?_map] at e
  obtain ⟨a, ha, rfl⟩ := Option.map_eq_some_iff.mp e
  have e1 : anyE (ns.map ds) (ds a) = true := by rw [name_inN, decide_eq_true (h2 a (List.mem_of_getElem? ha))]
  have e2 : anyE ((l.map ds).take i) (ds a) = false := by
    rw [← List.map_take, name_inN, decide_eq_false]
    intro z
    obtain ⟨j, hj, ej⟩ := List.mem_iff_getElem.mp z
    rw [List.length_take] at hj
    rw [List.getElem_take] at ej
    obtain ⟨hi2, ei⟩ := List.getElem?_eq_some_iff.mp ha
    exact List.pairwise_iff_getElem.mp h1 j i (by omega) hi2 (by omega) (ej.trans ei.symm)
  dsimp only
  rw [e1, e2]
  rfl
theorem isBal_of {ns : List N} {b : Bal} (hn : Names ns) (h : BalOk ns b) : isBal ns (dBA b) = true := by
  cases b with
  | lets l =>
    obtain ⟨h1, h2⟩ := h
    show (if ("lets" : Str) = "order" then ordB ns (l.map ds) else if ("lets" : Str) = "lets" then unl ns (l.map ds) else if ("lets" : Str) = "marks" then marksB ns (l.map ds) else false) = true
    rw [if_neg (by decide +kernel), if_pos rfl, unl_of hn h1 h2]
  | marks ps =>
    obtain ⟨h1, h2, h3⟩ := h
    show (if ("marks" : Str) = "order" then ordB ns (ps.map fun p => .tup [ds p.1, .int p.2]) else if ("marks" : Str) = "lets" then unl ns (ps.map fun p => .tup [ds p.1, .int p.2]) else if ("marks" : Str) = "marks" then marksB ns (ps.map fun p => .tup [ds p.1, .int p.2]) else false) = true
    rw [if_neg (by decide +kernel), if_neg (by decide +kernel), if_pos rfl]
    unfold marksB
    rw [List.map_map, show (fstD ∘ fun p : N × Int => D.tup [ds p.1, .int p.2]) = ds ∘ (·.1) from rfl, ← List.map_map, unl_of hn h1 (fun x hx => by obtain ⟨p, hp, rfl⟩ := List.mem_map.mp hx; exact h2 p hp), Bool.and_true, List.all_eq_true]
    intro x hx
    obtain ⟨p, hp, rfl⟩ := List.mem_map.mp hx
    show (true && (decide (0 ≤ p.2) && decide (p.2 ≤ 9))) = true
    rw [decide_eq_true (h3 p hp).1, decide_eq_true (h3 p hp).2]
    rfl
  | order ts =>
    obtain ⟨h1, h2, h3⟩ := h
    show (if ("order" : Str) = "order" then ordB ns (ts.map dT) else if ("order" : Str) = "lets" then unl ns (ts.map dT) else if ("order" : Str) = "marks" then marksB ns (ts.map dT) else false) = true
    rw [if_pos rfl]
    unfold ordB
    have e : (ts.map dT).flatMap tierL = ts.flatten.map ds := by
      rw [List.flatMap_map]
      clear h1 h2 h3
      induction ts with
      | nil => rfl
      | cons t ts ih => rw [List.flatMap_cons, ih, List.flatten_cons, List.map_append]; rfl
    rw [e, unl_of hn h1 h2, Bool.and_true, List.all_eq_true]
    intro x hx
    obtain ⟨t, ht, rfl⟩ := List.mem_map.mp hx
    cases t with
    | nil => exact absurd rfl (h3 _ ht)
    | cons a t => rfl
theorem cellA {ns : List Int} : ∃ c : Int, c_l_cell_at (.lst (ns.map .int)) (.int 0) = .ok (.int c) := by
  unfold c_l_cell_at
  cases ns with
  | nil => exact ⟨0, rfl⟩
  | cons a ns =>
    refine ⟨a, ?_⟩
    rw [show pr (gLen [D.lst ((a :: ns).map .int)]) = .ok (.int (((a :: ns).map D.int).length : Nat)) from rfl, R.bind_ok, pr_lt, R.bind_ok, asB_bl, R.bind_ok, if_pos (by simp)]
    exact item0_lst
theorem forB_stI {α T X A : Type} {u : D → Option X} {f : T → X → R (LS T A)} {e : α → D} {e' : α → X} (hu : ∀ a, u (e a) = some (e' a)) (P : Nat → T → Prop) (N : Nat) : ∀ (xs : List α) (n : Nat) (t : T), n + xs.length ≤ N → P n t → (∀ a ∈ xs, ∀ n t, n < N → P n t → (f t (e' a)).wp fun s => ∃ t', s = .nx t' ∧ P (n + 1) t') → (forB u f (xs.map e) t).wp fun s => ∃ t', s = .nx t' ∧ P (n + xs.length) t'
  | [], n, t, _, h, _ => R.wp_ok ⟨t, rfl, h⟩
  | x :: xs, n, t, hN, h, k => by
    rw [List.length_cons] at hN
    rw [List.map_cons]
    unfold forB
    rw [hu x]
    obtain ⟨s, e1, t', rfl, h'⟩ := k x List.mem_cons_self n t (by omega) h
    simp only [e1, R.bind_ok]
    have := forB_stI hu P N xs (n + 1) t' (by omega) h' fun a ha => k a (List.mem_cons_of_mem _ ha)
    rw [show n + (x :: xs).length = n + 1 + xs.length by simp; omega]
    exact this
theorem answer_k11 (ns : List Int) (h1 : ns.length ≤ 63) (h2 : ∀ z ∈ ns, Builtin.Int.intBits z ≤ 1048576) : c_law_k11 (.lst (ns.map .int)) = .ok (.bl true) := by
  unfold c_law_k11
  obtain ⟨c, ec⟩ := cellA (ns := ns)
  obtain ⟨ms, hml, em⟩ := script_cut (ns := ns) (lo := 1) (hi := 16)
  rw [srR1, ec, show lstR [R.ok (D.int c)] = .ok (.lst ([c].map .int)) from rfl, R.bind_ok, em, R.bind_ok, add_lst (by simp; omega), R.bind_ok, ← List.map_append, seq_lst, R.bind_ok]
  rw [forB_unit (e := D.int) (e' := D.int) (fun _ => rfl) _ fun z _ => ?_]
  · rfl
  refine R.wp_bind wellA_ok fun w hw => ?_
  simp only [R.bind_assoc, R.bind_ok]
  refine R.wp_bind (drawA hw (by omega) (by decide) (by decide)) fun b ⟨r, er, r0, r1, w1⟩ => ?_
  rw [er, pr_add, R.bind_ok]
  refine R.wp_bind (optionsA w1 (by omega) (by omega) (by omega)) fun p ⟨⟨os, hn, hlen, eo⟩, w2⟩ => ?_
  rw [eo]
  refine R.wp_bind (ballotA w2 (by omega) hn) fun q ⟨⟨bl, hb, eb⟩, w3⟩ => ?_
  obtain ⟨s, xs, ed, hs⟩ := bal_slip hn hb
  have hT : fitW WT (dBA bl) = true := by rw [ed]; exact res_fit hs (by have := hs.l; omega) (slip_wp hs)
  have hA : fitA (2 + 3) (dBA bl) = true := fitW_A WT _ (by decide) hT
  have hbal := isBal_of hn hb
  rw [eb, toldA hA (by decide), checkA hA (by decide), hbal, if_pos rfl, if_pos rfl, R.bind_ok, show pr (fNe [D.str "fine", D.str "fine"]) = .ok (.bl false) from ne_refl rfl, R.bind_ok, asB_bl, R.bind_ok, if_neg (by decide : ¬(false = true)), R.bind_ok, show pr (fIsNot [D.non, D.non]) = .ok (.bl false) from rfl, R.bind_ok, asB_bl, R.bind_ok, if_neg (by decide : ¬(false = true)), rng1 (by decide) (by decide), R.bind_ok]
  refine R.wp_bind (forB_stI (e := fun i : Nat => D.int (i : Nat)) (e' := fun i : Nat => D.int (i : Nat)) (fun _ => rfl) (fun n t => WA (100 + 10 * n) t) 3 (List.range (Int.toNat 3)) 0 q.2 (by decide) (w3.mono (by omega)) fun j _ n t hn3 ht => ?_) fun st ⟨t, es, ht⟩ => ?_
  · rw [ed]
    refine R.wp_bind (bent_ok ht (by omega) hn hs) fun v ⟨hv, w4⟩ => ?_
    have hvA : fitA (2 + 3) v.1 = true := fitW_A WT _ (by decide) hv
    have hch : fitW WT (dn os) = true := w_tup (by rw [List.length_map]; exact hn.hi) fun x hx => by
      obtain ⟨a, ha, rfl⟩ := List.mem_map.mp hx
      exact w_name (hn.ok a ha)
    have hR : fitW (2 :: WT) (.tup [dn os, v.1]) = true := w_tup (by simp) fun x hx => by
      rcases List.mem_cons.mp hx with rfl | hx
      · exact hch
      · rw [List.mem_singleton.mp hx]; exact hv
    obtain ⟨x, ex⟩ := repr_fitW hR (by decide) (by decide) (by decide)
    rw [ex, R.bind_ok, balL hvA (by decide), R.bind_ok, toldA hvA (by decide)]
    have e1 : pr (fInt [D.bl (isBal os v.1)]) = .ok (.int (if isBal os v.1 = true then 1 else 0)) := by cases isBal os v.1 <;> rfl
    have e2 : pr (gItem [D.lst [D.str "refused", D.str "fine"], D.int (if isBal os v.1 = true then 1 else 0)]) = .ok (.str (if isBal os v.1 = true then "fine" else "refused")) := by cases isBal os v.1 <;> rfl
    rw [e1, R.bind_ok, e2, R.bind_ok, R.bind_ok, ne_refl rfl, R.bind_ok, asB_bl, R.bind_ok, if_neg (by decide : ¬(false = true)), R.bind_ok, ne_refl rfl, R.bind_ok, asB_bl, R.bind_ok, if_neg (by decide : ¬(false = true))]
    exact R.wp_ok ⟨v.2, rfl, w4.mono (by omega)⟩
  · rw [es]
    exact R.wp_ok rfl
end VP

namespace K11
open PySem PySem.Spec PyProof.Rows L2 VF VP
structure Env (M : Md) : Prop where
  b_all : M.mg "all" = none
  b_bool : M.mg "bool" = none
  b_enumerate : M.mg "enumerate" = none
  b_int : M.mg "int" = none
  b_isinstance : M.mg "isinstance" = none
  b_len : M.mg "len" = none
  b_list : M.mg "list" = none
  b_range : M.mg "range" = none
  b_repr : M.mg "repr" = none
  b_str : M.mg "str" = none
  b_tuple : M.mg "tuple" = none
  c_MOST_MARK : GlobOk M "MOST_MARK" (.int 9)
  er_BadBallot : ErV M 1 "BadBallot" "why" []
  hd_PollError_BadBallot : HdF M "PollError" "BadBallot" true
  is_BadBallot_BadBallot : IsF M "BadBallot" "BadBallot" true
  iss_BadBallot_BadClaim_BadMargins_BadOrder_BadPoll_BadRule_BadSums : IsFs M "BadBallot" ["BadClaim", "BadMargins", "BadOrder", "BadPoll", "BadRule", "BadSums"] false
  xc_BadBallot : XcF M "BadBallot"
/-! ### _law_cell_at -/
abbrev xN_l_cell_at : List Str := ["_law_script", "_law_k"]
abbrev xC_l_cell_at : Cs := ⟨xN_l_cell_at, defScope xs_l_cell_at, fun _ => true⟩
section
variable {M : Md} {W : WX} {k : Nat} {X : Cx}
theorem xo_l_cell_at_0 (g : G M xC_l_cell_at W k X) {pos : Pos} : PE X (.Name "_law_script" pos) (tO M W (.sl 0)) := e_sl g.toG0 rfl (by first | exact Or.inl (by decide +kernel) | exact Or.inr (Or.inl (by decide +kernel)) | exact Or.inr (Or.inr (by decide +kernel))) (by decide +kernel) (by decide +kernel)
theorem xo_l_cell_at_1 (g : G M xC_l_cell_at W k X) {pos : Pos} : PE X (.Name "_law_k" pos) (tO M W (.sl 1)) := e_sl g.toG0 rfl (by first | exact Or.inl (by decide +kernel) | exact Or.inr (Or.inl (by decide +kernel)) | exact Or.inr (Or.inr (by decide +kernel))) (by decide +kernel) (by decide +kernel)
theorem xw_l_cell_at (E : Env M)  (hk : 0 ≤ k) (g : G M xC_l_cell_at W k X) : PSs X (defBody xs_l_cell_at) (tS M W xb_l_cell_at) :=
  s_cons (s_if (t_cmp o_lt (xo_l_cell_at_1 g) (o_ex (e_callB g.toG0 (f := gLen) (c_glen g.hK) (by decide +kernel) E.b_len boot_len (a_cons (xo_l_cell_at_0 g) (a_nil) rfl) (by decide +kernel) (by decide +kernel) rfl rfl)) rfl) (s_one (s_ret (e_gix g.toG0 (xo_l_cell_at_0 g) (xo_l_cell_at_1 g) (by intro _ _; rfl)))) s_nil)
  (s_one (s_ret (e_int)))
theorem xsc_l_cell_at : FnScope xN_l_cell_at ["_law_script", "_law_k"] (defScope xs_l_cell_at) := ⟨rfl, rfl, rfl, by decide +kernel, rfl, by decide +kernel, by decide +kernel⟩
abbrev xF_l_cell_at (K : PySem.W.Frag) (f : Addr) (fd : FuncData) : Prop := FunD K "_law_cell_at" "_law_cell_at" (defArgs xs_l_cell_at) (defBody xs_l_cell_at) (defScope xs_l_cell_at) [] [] f fd
theorem xv_l_cell_at (hx : M.xn = none) (E : Env M)  {f : Addr} {fd : FuncData} (F : xF_l_cell_at M.K f fd) (hm : M.mg "_law_cell_at" = some (.ref f)) : FnV M 1 "_law_cell_at" 2 xf_l_cell_at :=
  ⟨f, fd, ["_law_script", "_law_k"], fn_ok hx (k := 0) F xsc_l_cell_at (fun X W g => xw_l_cell_at E  (Nat.le_refl _) g), hm, F.kp, rfl, F.bindsN fun _ _ _ _ _ _ us hl => match us, hl with | [_, _], _ => rfl⟩
end
/-! ### _law_well -/
abbrev xN_l_well : List Str := ["_law_cell"]
abbrev xC_l_well : Cs := ⟨xN_l_well, defScope xs_l_well, fun _ => true⟩
section
variable {M : Md} {W : WX} {k : Nat} {X : Cx}
theorem xo_l_well_0 (g : G M xC_l_well W k X) {pos : Pos} : PE X (.Name "_law_cell" pos) (tO M W (.sl 0)) := e_sl g.toG0 rfl (by first | exact Or.inl (by decide +kernel) | exact Or.inr (Or.inl (by decide +kernel)) | exact Or.inr (Or.inr (by decide +kernel))) (by decide +kernel) (by decide +kernel)
theorem xn_l_well_0 (g : G M xC_l_well W k X) {pos : Pos} : PE X (.Name "_law_cell" pos) (tE M W (nm 0)) := e_nm g.toG0 rfl (by first | exact Or.inl (by decide +kernel) | exact Or.inr (Or.inl (by decide +kernel)) | exact Or.inr (Or.inr (by decide +kernel))) (by decide +kernel) (by decide +kernel)
theorem xw_l_well (E : Env M)  (hk : 0 ≤ k) (g : G M xC_l_well W k X) : PSs X (defBody xs_l_well) (tS M W xb_l_well) :=
  s_one (s_ret (e_lst (φs := [app gItem [.ex (disp mkL [cst (.int 0), nm 0]), .ex (app fInt [.ex (app fGe [.sl 0, .ex (app fPow [.ex (cst (.int 10)), .ex (cst (.int 18))])])])], app fMod [.sl 0, .ex (cst (.int 2147483629))], cst (.int 0)]) (a_cons (o_ex (e_gix g.toG0 (o_ex (e_lst (φs := [cst (.int 0), nm 0]) (a_cons (o_ex (e_int)) (a_cons (o_ex (xn_l_well_0 g)) (a_nil) rfl) rfl) (by decide))) (o_ex (e_callTy g.toG0 (f := fInt) (c_int) (by decide +kernel) E.b_int boot_int (a_cons (o_ex (e_cmp o_ge (xo_l_well_0 g) (o_ex (e_bin o_pow (o_ex (e_int)) (o_ex (e_int)))) rfl)) (a_nil) rfl) (by decide +kernel) (by decide +kernel) rfl rfl)) (by intro _ _; rfl))) (a_cons (o_ex (e_bin o_mod (xo_l_well_0 g) (o_ex (e_int)))) (a_cons (o_ex (e_int)) (a_nil) rfl) rfl) rfl) (by decide)))
theorem xsc_l_well : FnScope xN_l_well ["_law_cell"] (defScope xs_l_well) := ⟨rfl, rfl, rfl, by decide +kernel, rfl, by decide +kernel, by decide +kernel⟩
abbrev xF_l_well (K : PySem.W.Frag) (f : Addr) (fd : FuncData) : Prop := FunD K "_law_well" "_law_well" (defArgs xs_l_well) (defBody xs_l_well) (defScope xs_l_well) [] [] f fd
theorem xv_l_well (hx : M.xn = none) (E : Env M)  {f : Addr} {fd : FuncData} (F : xF_l_well M.K f fd) (hm : M.mg "_law_well" = some (.ref f)) : FnV M 1 "_law_well" 1 xf_l_well :=
  ⟨f, fd, ["_law_cell"], fn_ok hx (k := 0) F xsc_l_well (fun X W g => xw_l_well E  (Nat.le_refl _) g), hm, F.kp, rfl, F.bindsN fun _ _ _ _ _ _ us hl => match us, hl with | [_], _ => rfl⟩
end
/-! ### _law_draw -/
abbrev xN_l_draw : List Str := ["_law_well_here", "_law_size", "_law_mix", "_law_digit"]
abbrev xC_l_draw : Cs := ⟨xN_l_draw, defScope xs_l_draw, fun _ => true⟩
section
variable {M : Md} {W : WX} {k : Nat} {X : Cx}
theorem xo_l_draw_0 (g : G M xC_l_draw W k X) {pos : Pos} : PE X (.Name "_law_well_here" pos) (tO M W (.sl 0)) := e_sl g.toG0 rfl (by first | exact Or.inl (by decide +kernel) | exact Or.inr (Or.inl (by decide +kernel)) | exact Or.inr (Or.inr (by decide +kernel))) (by decide +kernel) (by decide +kernel)
theorem xo_l_draw_1 (g : G M xC_l_draw W k X) {pos : Pos} : PE X (.Name "_law_size" pos) (tO M W (.sl 1)) := e_sl g.toG0 rfl (by first | exact Or.inl (by decide +kernel) | exact Or.inr (Or.inl (by decide +kernel)) | exact Or.inr (Or.inr (by decide +kernel))) (by decide +kernel) (by decide +kernel)
theorem xo_l_draw_2 (g : G M xC_l_draw W k X) {pos : Pos} : PE X (.Name "_law_mix" pos) (tO M W (.sl 2)) := e_sl g.toG0 rfl (by first | exact Or.inl (by decide +kernel) | exact Or.inr (Or.inl (by decide +kernel)) | exact Or.inr (Or.inr (by decide +kernel))) (by decide +kernel) (by decide +kernel)
theorem xw_l_draw (E : Env M)  (hk : 0 ≤ k) (g : G M xC_l_draw W k X) : PSs X (defBody xs_l_draw) (tS M W xb_l_draw) :=
  s_cons (s_if (t_cmp o_gt (o_ex (e_gix g.toG0 (xo_l_draw_0 g) (o_ex (e_int)) (by intro _ _; rfl))) (o_ex (e_int)) rfl) (s_cons (s_set g (i := 3) rfl (by first | exact Or.inl (by decide +kernel) | exact Or.inr (by decide +kernel)) (e_bin o_mod (o_ex (e_gix g.toG0 (xo_l_draw_0 g) (o_ex (e_int)) (by intro _ _; rfl))) (xo_l_draw_1 g)) rfl (.inl rfl))
  (s_frz (s_cons (s_storeG g (i := 0) rfl (by first | exact Or.inl (by decide +kernel) | exact Or.inr (Or.inl (by decide +kernel)) | exact Or.inr (Or.inr (by decide +kernel))) (by decide +kernel) (by decide +kernel) (e_bin o_fdiv (o_ex (e_gix g.toG0 (xo_l_draw_0 g) (o_ex (e_int)) (by intro _ _; rfl))) (xo_l_draw_1 g)) (o_ex (e_int)) (by intro _; rfl) rfl rfl rfl)
  (s_one (s_retI g.toG0 (i := 3) rfl (by first | exact Or.inl (by decide +kernel) | exact Or.inr (Or.inl (by decide +kernel)) | exact Or.inr (Or.inr (by decide +kernel))) (by decide +kernel) (by decide +kernel)))))) s_nil)
  (s_cons (s_storeG g (i := 0) rfl (by first | exact Or.inl (by decide +kernel) | exact Or.inr (Or.inl (by decide +kernel)) | exact Or.inr (Or.inr (by decide +kernel))) (by decide +kernel) (by decide +kernel) (e_bin (o_add g.hK) (o_ex (e_gix g.toG0 (xo_l_draw_0 g) (o_ex (e_int)) (by intro _ _; rfl))) (o_ex (e_int))) (o_ex (e_int)) (by intro _; rfl) rfl rfl rfl)
  (s_cons (s_set g (i := 2) rfl (by first | exact Or.inl (by decide +kernel) | exact Or.inr (by decide +kernel)) (e_bin o_mod (o_ex (e_bin o_pow (o_ex (e_bin (o_add g.hK) (o_ex (e_bin (o_add g.hK) (o_ex (e_gix g.toG0 (xo_l_draw_0 g) (o_ex (e_int)) (by intro _ _; rfl))) (o_ex (e_bin o_mul (o_ex (e_int)) (o_ex (e_gix g.toG0 (xo_l_draw_0 g) (o_ex (e_int)) (by intro _ _; rfl))))))) (o_ex (e_int)))) (o_ex (e_int)))) (o_ex (e_int))) rfl (.inl rfl))
  (s_frz (s_cons (s_set g (i := 2) rfl (by first | exact Or.inl (by decide +kernel) | exact Or.inr (by decide +kernel)) (e_bin o_mod (o_ex (e_bin o_mul (xo_l_draw_2 g) (o_ex (e_bin (o_add g.hK) (o_ex (e_bin (o_add g.hK) (o_ex (e_bin o_fdiv (xo_l_draw_2 g) (o_ex (e_int)))) (o_ex (e_int)))) (o_ex (e_gix g.toG0 (xo_l_draw_0 g) (o_ex (e_int)) (by intro _ _; rfl))))))) (o_ex (e_int))) rfl (.inl rfl))
  (s_frz (s_one (s_ret (e_bin o_mod (o_ex (e_bin o_mod (o_ex (e_bin o_mul (xo_l_draw_2 g) (o_ex (e_bin (o_add g.hK) (o_ex (e_bin o_fdiv (xo_l_draw_2 g) (o_ex (e_int)))) (o_ex (e_int)))))) (o_ex (e_int)))) (xo_l_draw_1 g)))))))))
theorem xsc_l_draw : FnScope xN_l_draw ["_law_well_here", "_law_size"] (defScope xs_l_draw) := ⟨rfl, rfl, rfl, by decide +kernel, rfl, by decide +kernel, by decide +kernel⟩
abbrev xF_l_draw (K : PySem.W.Frag) (f : Addr) (fd : FuncData) : Prop := FunD K "_law_draw" "_law_draw" (defArgs xs_l_draw) (defBody xs_l_draw) (defScope xs_l_draw) [] [] f fd
theorem xv_l_draw (hx : M.xn = none) (E : Env M)  {f : Addr} {fd : FuncData} (F : xF_l_draw M.K f fd) (hm : M.mg "_law_draw" = some (.ref f)) : FnV M 1 "_law_draw" 2 xf_l_draw :=
  ⟨f, fd, ["_law_well_here", "_law_size"], fn_ok hx (k := 0) F xsc_l_draw (fun X W g => xw_l_draw E  (Nat.le_refl _) g), hm, F.kp, rfl, F.bindsN fun _ _ _ _ _ _ us hl => match us, hl with | [_, _], _ => rfl⟩
end
/-! ### _law_options -/
abbrev xN_l_options : List Str := ["_law_well_here", "_law_size", "_law_letters", "_law_first", "_law_found", "_law_k", "_law_word", "_law_j"]
abbrev xC_l_options : Cs := ⟨xN_l_options, defScope xs_l_options, fun _ => true⟩
section
variable {M : Md} {W : WX} {k : Nat} {X : Cx}
theorem xo_l_options_0 (g : G M xC_l_options W k X) {pos : Pos} : PE X (.Name "_law_well_here" pos) (tO M W (.sl 0)) := e_sl g.toG0 rfl (by first | exact Or.inl (by decide +kernel) | exact Or.inr (Or.inl (by decide +kernel)) | exact Or.inr (Or.inr (by decide +kernel))) (by decide +kernel) (by decide +kernel)
theorem xn_l_options_1 (g : G M xC_l_options W k X) {pos : Pos} : PE X (.Name "_law_size" pos) (tE M W (nm 1)) := e_nm g.toG0 rfl (by first | exact Or.inl (by decide +kernel) | exact Or.inr (Or.inl (by decide +kernel)) | exact Or.inr (Or.inr (by decide +kernel))) (by decide +kernel) (by decide +kernel)
theorem xo_l_options_2 (g : G M xC_l_options W k X) {pos : Pos} : PE X (.Name "_law_letters" pos) (tO M W (.sl 2)) := e_sl g.toG0 rfl (by first | exact Or.inl (by decide +kernel) | exact Or.inr (Or.inl (by decide +kernel)) | exact Or.inr (Or.inr (by decide +kernel))) (by decide +kernel) (by decide +kernel)
theorem xo_l_options_3 (g : G M xC_l_options W k X) {pos : Pos} : PE X (.Name "_law_first" pos) (tO M W (.sl 3)) := e_sl g.toG0 rfl (by first | exact Or.inl (by decide +kernel) | exact Or.inr (Or.inl (by decide +kernel)) | exact Or.inr (Or.inr (by decide +kernel))) (by decide +kernel) (by decide +kernel)
theorem xo_l_options_4 (g : G M xC_l_options W k X) {pos : Pos} : PE X (.Name "_law_found" pos) (tO M W (.sl 4)) := e_sl g.toG0 rfl (by first | exact Or.inl (by decide +kernel) | exact Or.inr (Or.inl (by decide +kernel)) | exact Or.inr (Or.inr (by decide +kernel))) (by decide +kernel) (by decide +kernel)
theorem xo_l_options_5 (g : G M xC_l_options W k X) {pos : Pos} : PE X (.Name "_law_k" pos) (tO M W (.sl 5)) := e_sl g.toG0 rfl (by first | exact Or.inl (by decide +kernel) | exact Or.inr (Or.inl (by decide +kernel)) | exact Or.inr (Or.inr (by decide +kernel))) (by decide +kernel) (by decide +kernel)
theorem xo_l_options_6 (g : G M xC_l_options W k X) {pos : Pos} : PE X (.Name "_law_word" pos) (tO M W (.sl 6)) := e_sl g.toG0 rfl (by first | exact Or.inl (by decide +kernel) | exact Or.inr (Or.inl (by decide +kernel)) | exact Or.inr (Or.inr (by decide +kernel))) (by decide +kernel) (by decide +kernel)
theorem xw_l_options (E : Env M) (xh_l_draw : FnV M 1 "_law_draw" 2 xf_l_draw) (hk : 1 ≤ k) (g : G M xC_l_options W k X) : PSs X (defBody xs_l_options) (tS M W xb_l_options) :=
  s_cons (s_set g (i := 2) rfl (by first | exact Or.inl (by decide +kernel) | exact Or.inr (by decide +kernel)) (e_str) rfl (.inl rfl))
  (s_frz (s_cons (s_set g (i := 3) rfl (by first | exact Or.inl (by decide +kernel) | exact Or.inr (by decide +kernel)) (e_call g xh_l_draw (Nat.le_trans (by decide) hk) (by decide +kernel) (a_cons (xo_l_options_0 g) (a_cons (o_ex (e_int)) (a_nil) rfl) rfl) rfl (by decide +kernel) rfl rfl) rfl (.inl rfl))
  (s_frz (s_cons (s_set g (i := 4) rfl (by first | exact Or.inl (by decide +kernel) | exact Or.inr (by decide +kernel)) (e_lst (φs := []) (a_nil) (by decide)) rfl (.inl rfl))
  (s_cons (s_for g (i_rng1 g (by decide +kernel) E.b_range (a_cons (o_ex (xn_l_options_1 g)) (a_nil) rfl) rfl) (p_nm g (i := 5) rfl (by first | exact Or.inl (by decide +kernel) | exact Or.inr (by decide +kernel)) (.inl rfl)) (s_cons (s_set g (i := 6) rfl (by first | exact Or.inl (by decide +kernel) | exact Or.inr (by decide +kernel)) (e_str) rfl (.inl rfl))
  (s_frz (s_cons (s_for g (i_rng1 g (by decide +kernel) E.b_range (a_cons (o_ex (e_call g xh_l_draw (Nat.le_trans (by decide) hk) (by decide +kernel) (a_cons (xo_l_options_0 g) (a_cons (o_ex (e_int)) (a_nil) rfl) rfl) rfl (by decide +kernel) rfl rfl)) (a_nil) rfl) rfl) (p_nm g (i := 7) rfl (by first | exact Or.inl (by decide +kernel) | exact Or.inr (by decide +kernel)) (.inl rfl)) (s_cons (s_set g (i := 6) rfl (by first | exact Or.inl (by decide +kernel) | exact Or.inr (by decide +kernel)) (e_bin (o_add g.hK) (xo_l_options_6 g) (o_ex (e_gix g.toG0 (xo_l_options_2 g) (o_ex (e_call g xh_l_draw (Nat.le_trans (by decide) hk) (by decide +kernel) (a_cons (xo_l_options_0 g) (a_cons (o_ex (e_int)) (a_nil) rfl) rfl) rfl (by decide +kernel) rfl rfl)) (by intro _ _; rfl)))) rfl (.inl rfl))
  (s_frz (s_kill (s_nil)))) (by intro _; rfl))
  (s_cons (s_expr (e_mut g (φs := [app fAdd [.sl 6, .ex (app gItem [.sl 2, .ex (app fMod [.ex (app fAdd [.sl 3, .ex (app fMul [.ex (cst (.int 3)), .sl 5])]), .ex (cst (.int 26))])])]]) PySem.F.plainAttrs_list PySem.F.slot_list_append PySem.F.type_list_append m_append (i := 4) rfl (by first | exact Or.inl (by decide +kernel) | exact Or.inr (Or.inl (by decide +kernel)) | exact Or.inr (Or.inr (by decide +kernel))) (by decide +kernel) (by decide +kernel) (a_cons (o_ex (e_bin (o_add g.hK) (xo_l_options_6 g) (o_ex (e_gix g.toG0 (xo_l_options_2 g) (o_ex (e_bin o_mod (o_ex (e_bin (o_add g.hK) (xo_l_options_3 g) (o_ex (e_bin o_mul (o_ex (e_int)) (xo_l_options_5 g))))) (o_ex (e_int)))) (by intro _ _; rfl))))) (a_nil) rfl) rfl rfl rfl rfl rfl) rfl)
  (s_kill (s_kill (s_nil))))))) (by intro _; rfl))
  (s_frz (s_one (s_ret (e_callTy g.toG0 (f := fTuple) ((c_tuple g.hK)) (by decide +kernel) E.b_tuple boot_tuple (a_cons (xo_l_options_4 g) (a_nil) rfl) (by decide +kernel) (by decide +kernel) rfl rfl)))))))))
theorem xsc_l_options : FnScope xN_l_options ["_law_well_here", "_law_size"] (defScope xs_l_options) := ⟨rfl, rfl, rfl, by decide +kernel, rfl, by decide +kernel, by decide +kernel⟩
abbrev xF_l_options (K : PySem.W.Frag) (f : Addr) (fd : FuncData) : Prop := FunD K "_law_options" "_law_options" (defArgs xs_l_options) (defBody xs_l_options) (defScope xs_l_options) [] [] f fd
theorem xv_l_options (hx : M.xn = none) (E : Env M) (xh_l_draw : FnV M 1 "_law_draw" 2 xf_l_draw) {f : Addr} {fd : FuncData} (F : xF_l_options M.K f fd) (hm : M.mg "_law_options" = some (.ref f)) : FnV M 2 "_law_options" 2 xf_l_options :=
  ⟨f, fd, ["_law_well_here", "_law_size"], fn_ok hx (k := 1) F xsc_l_options (fun X W g => xw_l_options E xh_l_draw (Nat.le_refl _) g), hm, F.kp, rfl, F.bindsN fun _ _ _ _ _ _ us hl => match us, hl with | [_, _], _ => rfl⟩
end
/-! ### _law_shuffled -/
abbrev xN_l_shuffled : List Str := ["_law_well_here", "_law_some", "_law_left", "_law_k"]
abbrev xC_l_shuffled : Cs := ⟨xN_l_shuffled, defScope xs_l_shuffled, fun _ => true⟩
section
variable {M : Md} {W : WX} {k : Nat} {X : Cx}
theorem xo_l_shuffled_1 (g : G M xC_l_shuffled W k X) {pos : Pos} : PE X (.Name "_law_some" pos) (tO M W (.sl 1)) := e_sl g.toG0 rfl (by first | exact Or.inl (by decide +kernel) | exact Or.inr (Or.inl (by decide +kernel)) | exact Or.inr (Or.inr (by decide +kernel))) (by decide +kernel) (by decide +kernel)
theorem xo_l_shuffled_2 (g : G M xC_l_shuffled W k X) {pos : Pos} : PE X (.Name "_law_left" pos) (tO M W (.sl 2)) := e_sl g.toG0 rfl (by first | exact Or.inl (by decide +kernel) | exact Or.inr (Or.inl (by decide +kernel)) | exact Or.inr (Or.inr (by decide +kernel))) (by decide +kernel) (by decide +kernel)
theorem xw_l_shuffled (E : Env M) (xh_l_draw : FnV M 1 "_law_draw" 2 xf_l_draw) (hk : 1 ≤ k) (g : G M xC_l_shuffled W k X) : PSs X (defBody xs_l_shuffled) (tS M W xb_l_shuffled) :=
  s_cons (s_set g (i := 2) rfl (by first | exact Or.inl (by decide +kernel) | exact Or.inr (by decide +kernel)) (e_callTy g.toG0 (f := fList) ((c_list g.hK)) (by decide +kernel) E.b_list boot_list (a_cons (xo_l_shuffled_1 g) (a_nil) rfl) (by decide +kernel) (by decide +kernel) rfl rfl) rfl (.inl rfl))
  (s_one (s_ret (e_lc g (own := [("_law_k", 3)]) (i_rng1 g (by decide +kernel) E.b_range (a_cons (o_ex (e_callB g.toG0 (f := gLen) (c_glen g.hK) (by decide +kernel) E.b_len boot_len (a_cons (xo_l_shuffled_2 g) (a_nil) rfl) (by decide +kernel) (by decide +kernel) rfl rfl)) (a_nil) rfl) rfl) (by decide +kernel) rfl ⟨fun X g => p_nm g (i := 3) rfl (by first | exact Or.inl (by decide +kernel) | exact Or.inr (by decide +kernel)) (by first | exact .inr (by decide +kernel) | exact .inl (by decide +kernel)), fun X g => ts_nil, fun X g => e_mut g (φs := [callF xf_l_draw [.sl 0, .ex (app gLen [.sl 2])] []]) PySem.F.plainAttrs_list PySem.F.slot_list_pop PySem.F.type_list_pop m_pop (i := 2) rfl (by first | exact Or.inl (by decide +kernel) | exact Or.inr (Or.inl (by decide +kernel)) | exact Or.inr (Or.inr (by decide +kernel))) (by decide +kernel) (by decide +kernel) (a_cons (o_ex (e_call g xh_l_draw (Nat.le_trans (by decide) hk) (by decide +kernel) (a_cons (e_sl g.toG0 (i := 0) (x := "_law_well_here") rfl (by first | exact Or.inl (by decide +kernel) | exact Or.inr (Or.inl (by decide +kernel)) | exact Or.inr (Or.inr (by decide +kernel))) (by decide +kernel) (by decide +kernel)) (a_cons (o_ex (e_callB g.toG0 (f := gLen) (c_glen g.hK) (by decide +kernel) E.b_len boot_len (a_cons (e_sl g.toG0 (i := 2) (x := "_law_left") rfl (by first | exact Or.inl (by decide +kernel) | exact Or.inr (Or.inl (by decide +kernel)) | exact Or.inr (Or.inr (by decide +kernel))) (by decide +kernel) (by decide +kernel)) (a_nil) rfl) (by decide +kernel) (by decide +kernel) rfl rfl)) (a_nil) rfl) rfl) rfl (by decide +kernel) rfl rfl)) (a_nil) rfl) rfl rfl rfl rfl rfl⟩ (by intro _; rfl))))
theorem xsc_l_shuffled : FnScope xN_l_shuffled ["_law_well_here", "_law_some"] (defScope xs_l_shuffled) := ⟨rfl, rfl, rfl, by decide +kernel, rfl, by decide +kernel, by decide +kernel⟩
abbrev xF_l_shuffled (K : PySem.W.Frag) (f : Addr) (fd : FuncData) : Prop := FunD K "_law_shuffled" "_law_shuffled" (defArgs xs_l_shuffled) (defBody xs_l_shuffled) (defScope xs_l_shuffled) [] [] f fd
theorem xv_l_shuffled (hx : M.xn = none) (E : Env M) (xh_l_draw : FnV M 1 "_law_draw" 2 xf_l_draw) {f : Addr} {fd : FuncData} (F : xF_l_shuffled M.K f fd) (hm : M.mg "_law_shuffled" = some (.ref f)) : FnV M 2 "_law_shuffled" 2 xf_l_shuffled :=
  ⟨f, fd, ["_law_well_here", "_law_some"], fn_ok hx (k := 1) F xsc_l_shuffled (fun X W g => xw_l_shuffled E xh_l_draw (Nat.le_refl _) g), hm, F.kp, rfl, F.bindsN fun _ _ _ _ _ _ us hl => match us, hl with | [_, _], _ => rfl⟩
end
/-! ### _law_tiers_drawn -/
abbrev xN_l_tiers_drawn : List Str := ["_law_well_here", "_law_some", "_law_found", "_law_word"]
abbrev xC_l_tiers_drawn : Cs := ⟨xN_l_tiers_drawn, defScope xs_l_tiers_drawn, fun _ => true⟩
section
variable {M : Md} {W : WX} {k : Nat} {X : Cx}
theorem xo_l_tiers_drawn_0 (g : G M xC_l_tiers_drawn W k X) {pos : Pos} : PE X (.Name "_law_well_here" pos) (tO M W (.sl 0)) := e_sl g.toG0 rfl (by first | exact Or.inl (by decide +kernel) | exact Or.inr (Or.inl (by decide +kernel)) | exact Or.inr (Or.inr (by decide +kernel))) (by decide +kernel) (by decide +kernel)
theorem xo_l_tiers_drawn_1 (g : G M xC_l_tiers_drawn W k X) {pos : Pos} : PE X (.Name "_law_some" pos) (tO M W (.sl 1)) := e_sl g.toG0 rfl (by first | exact Or.inl (by decide +kernel) | exact Or.inr (Or.inl (by decide +kernel)) | exact Or.inr (Or.inr (by decide +kernel))) (by decide +kernel) (by decide +kernel)
theorem xn_l_tiers_drawn_1 (g : G M xC_l_tiers_drawn W k X) {pos : Pos} : PE X (.Name "_law_some" pos) (tE M W (nm 1)) := e_nm g.toG0 rfl (by first | exact Or.inl (by decide +kernel) | exact Or.inr (Or.inl (by decide +kernel)) | exact Or.inr (Or.inr (by decide +kernel))) (by decide +kernel) (by decide +kernel)
theorem xo_l_tiers_drawn_2 (g : G M xC_l_tiers_drawn W k X) {pos : Pos} : PE X (.Name "_law_found" pos) (tO M W (.sl 2)) := e_sl g.toG0 rfl (by first | exact Or.inl (by decide +kernel) | exact Or.inr (Or.inl (by decide +kernel)) | exact Or.inr (Or.inr (by decide +kernel))) (by decide +kernel) (by decide +kernel)
theorem xn_l_tiers_drawn_3 (g : G M xC_l_tiers_drawn W k X) {pos : Pos} : PE X (.Name "_law_word" pos) (tE M W (nm 3)) := e_nm g.toG0 rfl (by first | exact Or.inl (by decide +kernel) | exact Or.inr (Or.inl (by decide +kernel)) | exact Or.inr (Or.inr (by decide +kernel))) (by decide +kernel) (by decide +kernel)
theorem xw_l_tiers_drawn (E : Env M) (xh_l_shuffled : FnV M 2 "_law_shuffled" 2 xf_l_shuffled) (xh_l_draw : FnV M 1 "_law_draw" 2 xf_l_draw) (hk : 2 ≤ k) (g : G M xC_l_tiers_drawn W k X) : PSs X (defBody xs_l_tiers_drawn) (tS M W xb_l_tiers_drawn) :=
  s_cons (s_set g (i := 2) rfl (by first | exact Or.inl (by decide +kernel) | exact Or.inr (by decide +kernel)) (e_lst (φs := []) (a_nil) (by decide)) rfl (.inl rfl))
  (s_cons (s_for g (i_seq g (o_ex (e_slc g.toG0 (ol := none) (oh := (some (.ex (app fSub [.ex (app gLen [.sl 1]), .ex (app fMod [.ex (app gItem [.ex (disp mkL [cst (.int 0), cst (.int 0), cst (.int 0), cst (.int 1), cst (.int 2)]), .ex (callF xf_l_draw [.sl 0, .ex (cst (.int 5))] [])]), .ex (app fAdd [.ex (app gLen [.sl 1]), .ex (cst (.int 1))])])])))) (o_ex (e_call g xh_l_shuffled (Nat.le_trans (by decide) hk) (by decide +kernel) (a_cons (xo_l_tiers_drawn_0 g) (a_cons (o_ex (xn_l_tiers_drawn_1 g)) (a_nil) rfl) rfl) rfl (by decide +kernel) rfl rfl)) trivial (o_ex (e_bin o_sub (o_ex (e_callB g.toG0 (f := gLen) (c_glen g.hK) (by decide +kernel) E.b_len boot_len (a_cons (xo_l_tiers_drawn_1 g) (a_nil) rfl) (by decide +kernel) (by decide +kernel) rfl rfl)) (o_ex (e_bin o_mod (o_ex (e_gix g.toG0 (o_ex (e_lst (φs := [cst (.int 0), cst (.int 0), cst (.int 0), cst (.int 1), cst (.int 2)]) (a_cons (o_ex (e_int)) (a_cons (o_ex (e_int)) (a_cons (o_ex (e_int)) (a_cons (o_ex (e_int)) (a_cons (o_ex (e_int)) (a_nil) rfl) rfl) rfl) rfl) rfl) (by decide))) (o_ex (e_call g xh_l_draw (Nat.le_trans (by decide) hk) (by decide +kernel) (a_cons (xo_l_tiers_drawn_0 g) (a_cons (o_ex (e_int)) (a_nil) rfl) rfl) rfl (by decide +kernel) rfl rfl)) (by intro _ _; rfl))) (o_ex (e_bin (o_add g.hK) (o_ex (e_callB g.toG0 (f := gLen) (c_glen g.hK) (by decide +kernel) E.b_len boot_len (a_cons (xo_l_tiers_drawn_1 g) (a_nil) rfl) (by decide +kernel) (by decide +kernel) rfl rfl)) (o_ex (e_int))))))))))) (p_nm g (i := 3) rfl (by first | exact Or.inl (by decide +kernel) | exact Or.inr (by decide +kernel)) (.inl rfl)) (s_one (s_if (t_w (w_and (t_cmp (o_ne g.hK g.hu) (xo_l_tiers_drawn_2 g) (o_ex (e_lst (φs := []) (a_nil) (by decide))) rfl) (w_and1 (t_cmp (o_eq g.hK g.hu) (o_ex (e_call g xh_l_draw (Nat.le_trans (by decide) hk) (by decide +kernel) (a_cons (xo_l_tiers_drawn_0 g) (a_cons (o_ex (e_int)) (a_nil) rfl) rfl) rfl (by decide +kernel) rfl rfl)) (o_ex (e_int)) rfl)))) (s_cons (s_storeG g (i := 2) rfl (by first | exact Or.inl (by decide +kernel) | exact Or.inr (Or.inl (by decide +kernel)) | exact Or.inr (Or.inr (by decide +kernel))) (by decide +kernel) (by decide +kernel) (e_bin (o_add g.hK) (o_ex (e_gix g.toG0 (xo_l_tiers_drawn_2 g) (o_ex (e_un o_neg (o_ex (e_int)))) (by intro _ _; rfl))) (o_ex (e_tup (φs := [nm 3]) (a_cons (o_ex (xn_l_tiers_drawn_3 g)) (a_nil) rfl) (by decide)))) (o_ex (e_un o_neg (o_ex (e_int)))) (by intro _; rfl) rfl rfl rfl)
  (s_kill (s_nil))) (s_cons (s_expr (e_mut g (φs := [disp mkT [nm 3]]) PySem.F.plainAttrs_list PySem.F.slot_list_append PySem.F.type_list_append m_append (i := 2) rfl (by first | exact Or.inl (by decide +kernel) | exact Or.inr (Or.inl (by decide +kernel)) | exact Or.inr (Or.inr (by decide +kernel))) (by decide +kernel) (by decide +kernel) (a_cons (o_ex (e_tup (φs := [nm 3]) (a_cons (o_ex (xn_l_tiers_drawn_3 g)) (a_nil) rfl) (by decide))) (a_nil) rfl) rfl rfl rfl rfl rfl) rfl)
  (s_kill (s_nil))))) (by intro _; rfl))
  (s_frz (s_one (s_ret (e_callTy g.toG0 (f := fTuple) ((c_tuple g.hK)) (by decide +kernel) E.b_tuple boot_tuple (a_cons (xo_l_tiers_drawn_2 g) (a_nil) rfl) (by decide +kernel) (by decide +kernel) rfl rfl)))))
theorem xsc_l_tiers_drawn : FnScope xN_l_tiers_drawn ["_law_well_here", "_law_some"] (defScope xs_l_tiers_drawn) := ⟨rfl, rfl, rfl, by decide +kernel, rfl, by decide +kernel, by decide +kernel⟩
abbrev xF_l_tiers_drawn (K : PySem.W.Frag) (f : Addr) (fd : FuncData) : Prop := FunD K "_law_tiers_drawn" "_law_tiers_drawn" (defArgs xs_l_tiers_drawn) (defBody xs_l_tiers_drawn) (defScope xs_l_tiers_drawn) [] [] f fd
theorem xv_l_tiers_drawn (hx : M.xn = none) (E : Env M) (xh_l_shuffled : FnV M 2 "_law_shuffled" 2 xf_l_shuffled) (xh_l_draw : FnV M 1 "_law_draw" 2 xf_l_draw) {f : Addr} {fd : FuncData} (F : xF_l_tiers_drawn M.K f fd) (hm : M.mg "_law_tiers_drawn" = some (.ref f)) : FnV M 3 "_law_tiers_drawn" 2 xf_l_tiers_drawn :=
  ⟨f, fd, ["_law_well_here", "_law_some"], fn_ok hx (k := 2) F xsc_l_tiers_drawn (fun X W g => xw_l_tiers_drawn E xh_l_shuffled xh_l_draw (Nat.le_refl _) g), hm, F.kp, rfl, F.bindsN fun _ _ _ _ _ _ us hl => match us, hl with | [_, _], _ => rfl⟩
end
/-! ### _law_ballot -/
abbrev xN_l_ballot : List Str := ["_law_well_here", "_law_choices", "_law_way", "_law_some", "_law_word"]
abbrev xC_l_ballot : Cs := ⟨xN_l_ballot, defScope xs_l_ballot, fun _ => true⟩
section
variable {M : Md} {W : WX} {k : Nat} {X : Cx}
theorem xo_l_ballot_0 (g : G M xC_l_ballot W k X) {pos : Pos} : PE X (.Name "_law_well_here" pos) (tO M W (.sl 0)) := e_sl g.toG0 rfl (by first | exact Or.inl (by decide +kernel) | exact Or.inr (Or.inl (by decide +kernel)) | exact Or.inr (Or.inr (by decide +kernel))) (by decide +kernel) (by decide +kernel)
theorem xo_l_ballot_1 (g : G M xC_l_ballot W k X) {pos : Pos} : PE X (.Name "_law_choices" pos) (tO M W (.sl 1)) := e_sl g.toG0 rfl (by first | exact Or.inl (by decide +kernel) | exact Or.inr (Or.inl (by decide +kernel)) | exact Or.inr (Or.inr (by decide +kernel))) (by decide +kernel) (by decide +kernel)
theorem xn_l_ballot_1 (g : G M xC_l_ballot W k X) {pos : Pos} : PE X (.Name "_law_choices" pos) (tE M W (nm 1)) := e_nm g.toG0 rfl (by first | exact Or.inl (by decide +kernel) | exact Or.inr (Or.inl (by decide +kernel)) | exact Or.inr (Or.inr (by decide +kernel))) (by decide +kernel) (by decide +kernel)
theorem xo_l_ballot_2 (g : G M xC_l_ballot W k X) {pos : Pos} : PE X (.Name "_law_way" pos) (tO M W (.sl 2)) := e_sl g.toG0 rfl (by first | exact Or.inl (by decide +kernel) | exact Or.inr (Or.inl (by decide +kernel)) | exact Or.inr (Or.inr (by decide +kernel))) (by decide +kernel) (by decide +kernel)
theorem xo_l_ballot_3 (g : G M xC_l_ballot W k X) {pos : Pos} : PE X (.Name "_law_some" pos) (tO M W (.sl 3)) := e_sl g.toG0 rfl (by first | exact Or.inl (by decide +kernel) | exact Or.inr (Or.inl (by decide +kernel)) | exact Or.inr (Or.inr (by decide +kernel))) (by decide +kernel) (by decide +kernel)
theorem xn_l_ballot_3 (g : G M xC_l_ballot W k X) {pos : Pos} : PE X (.Name "_law_some" pos) (tE M W (nm 3)) := e_nm g.toG0 rfl (by first | exact Or.inl (by decide +kernel) | exact Or.inr (Or.inl (by decide +kernel)) | exact Or.inr (Or.inr (by decide +kernel))) (by decide +kernel) (by decide +kernel)
theorem xw_l_ballot (E : Env M) (xh_l_draw : FnV M 1 "_law_draw" 2 xf_l_draw) (xh_l_shuffled : FnV M 2 "_law_shuffled" 2 xf_l_shuffled) (xh_l_tiers_drawn : FnV M 3 "_law_tiers_drawn" 2 xf_l_tiers_drawn) (hk : 3 ≤ k) (g : G M xC_l_ballot W k X) : PSs X (defBody xs_l_ballot) (tS M W xb_l_ballot) :=
  s_cons (s_set g (i := 2) rfl (by first | exact Or.inl (by decide +kernel) | exact Or.inr (by decide +kernel)) (e_call g xh_l_draw (Nat.le_trans (by decide) hk) (by decide +kernel) (a_cons (xo_l_ballot_0 g) (a_cons (o_ex (e_int)) (a_nil) rfl) rfl) rfl (by decide +kernel) rfl rfl) rfl (.inl rfl))
  (s_frz (s_cons (s_set g (i := 3) rfl (by first | exact Or.inl (by decide +kernel) | exact Or.inr (by decide +kernel)) (e_slc g.toG0 (ol := none) (oh := (some (.ex (callF xf_l_draw [.sl 0, .ex (app fAdd [.ex (app gLen [.sl 1]), .ex (cst (.int 1))])] [])))) (o_ex (e_call g xh_l_shuffled (Nat.le_trans (by decide) hk) (by decide +kernel) (a_cons (xo_l_ballot_0 g) (a_cons (o_ex (xn_l_ballot_1 g)) (a_nil) rfl) rfl) rfl (by decide +kernel) rfl rfl)) trivial (o_ex (e_call g xh_l_draw (Nat.le_trans (by decide) hk) (by decide +kernel) (a_cons (xo_l_ballot_0 g) (a_cons (o_ex (e_bin (o_add g.hK) (o_ex (e_callB g.toG0 (f := gLen) (c_glen g.hK) (by decide +kernel) E.b_len boot_len (a_cons (xo_l_ballot_1 g) (a_nil) rfl) (by decide +kernel) (by decide +kernel) rfl rfl)) (o_ex (e_int)))) (a_nil) rfl) rfl) rfl (by decide +kernel) rfl rfl))) rfl (.inl rfl))
  (s_frz (s_cons (s_if (t_cmp (o_eq g.hK g.hu) (xo_l_ballot_2 g) (o_ex (e_int)) rfl) (s_one (s_ret (e_tup (φs := [cst (.str "lets"), app fTuple [.sl 3]]) (a_cons (o_ex (e_str)) (a_cons (o_ex (e_callTy g.toG0 (f := fTuple) ((c_tuple g.hK)) (by decide +kernel) E.b_tuple boot_tuple (a_cons (xo_l_ballot_3 g) (a_nil) rfl) (by decide +kernel) (by decide +kernel) rfl rfl)) (a_nil) rfl) rfl) (by decide)))) s_nil)
  (s_cons (s_if (t_cmp (o_eq g.hK g.hu) (xo_l_ballot_2 g) (o_ex (e_int)) rfl) (s_one (s_ret (e_tup (φs := [cst (.str "marks"), app fTuple [.ex (comp ⟨[.ex (nm 3)], sSeq⟩ (.nm 4) [4] (yes) (disp mkT [nm 4, callF xf_l_draw [.sl 0, .ex (cst (.int 10))] []]))]]) (a_cons (o_ex (e_str)) (a_cons (o_ex (e_callTy g.toG0 (f := fTuple) ((c_tuple g.hK)) (by decide +kernel) E.b_tuple boot_tuple (a_cons (o_ex (e_lc g (own := [("_law_word", 4)]) (i_seq g (o_ex (xn_l_ballot_3 g))) (by decide +kernel) rfl ⟨fun X g => p_nm g (i := 4) rfl (by first | exact Or.inl (by decide +kernel) | exact Or.inr (by decide +kernel)) (by first | exact .inr (by decide +kernel) | exact .inl (by decide +kernel)), fun X g => ts_nil, fun X g => e_tup (φs := [nm 4, callF xf_l_draw [.sl 0, .ex (cst (.int 10))] []]) (a_cons (o_ex (e_nm g.toG0 (i := 4) (x := "_law_word") rfl (by first | exact Or.inl (by decide +kernel) | exact Or.inr (Or.inl (by decide +kernel)) | exact Or.inr (Or.inr (by decide +kernel))) (by decide +kernel) (by decide +kernel))) (a_cons (o_ex (e_call g xh_l_draw (Nat.le_trans (by decide) hk) (by decide +kernel) (a_cons (e_sl g.toG0 (i := 0) (x := "_law_well_here") rfl (by first | exact Or.inl (by decide +kernel) | exact Or.inr (Or.inl (by decide +kernel)) | exact Or.inr (Or.inr (by decide +kernel))) (by decide +kernel) (by decide +kernel)) (a_cons (o_ex (e_int)) (a_nil) rfl) rfl) rfl (by decide +kernel) rfl rfl)) (a_nil) rfl) rfl) (by decide)⟩ (by intro _; rfl))) (a_nil) rfl) (by decide +kernel) (by decide +kernel) rfl rfl)) (a_nil) rfl) rfl) (by decide)))) s_nil)
  (s_one (s_ret (e_tup (φs := [cst (.str "order"), callF xf_l_tiers_drawn [.sl 0, .ex (nm 1)] []]) (a_cons (o_ex (e_str)) (a_cons (o_ex (e_call g xh_l_tiers_drawn (Nat.le_trans (by decide) hk) (by decide +kernel) (a_cons (xo_l_ballot_0 g) (a_cons (o_ex (xn_l_ballot_1 g)) (a_nil) rfl) rfl) rfl (by decide +kernel) rfl rfl)) (a_nil) rfl) rfl) (by decide)))))))))
theorem xsc_l_ballot : FnScope xN_l_ballot ["_law_well_here", "_law_choices"] (defScope xs_l_ballot) := ⟨rfl, rfl, rfl, by decide +kernel, rfl, by decide +kernel, by decide +kernel⟩
abbrev xF_l_ballot (K : PySem.W.Frag) (f : Addr) (fd : FuncData) : Prop := FunD K "_law_ballot" "_law_ballot" (defArgs xs_l_ballot) (defBody xs_l_ballot) (defScope xs_l_ballot) [] [] f fd
theorem xv_l_ballot (hx : M.xn = none) (E : Env M) (xh_l_draw : FnV M 1 "_law_draw" 2 xf_l_draw) (xh_l_shuffled : FnV M 2 "_law_shuffled" 2 xf_l_shuffled) (xh_l_tiers_drawn : FnV M 3 "_law_tiers_drawn" 2 xf_l_tiers_drawn) {f : Addr} {fd : FuncData} (F : xF_l_ballot M.K f fd) (hm : M.mg "_law_ballot" = some (.ref f)) : FnV M 4 "_law_ballot" 2 xf_l_ballot :=
  ⟨f, fd, ["_law_well_here", "_law_choices"], fn_ok hx (k := 3) F xsc_l_ballot (fun X W g => xw_l_ballot E xh_l_draw xh_l_shuffled xh_l_tiers_drawn (Nat.le_refl _) g), hm, F.kp, rfl, F.bindsN fun _ _ _ _ _ _ us hl => match us, hl with | [_, _], _ => rfl⟩
end
/-! ### are_unlike -/
abbrev xN_are_unlike : List Str := ["some", "at", "one"]
abbrev xC_are_unlike : Cs := ⟨xN_are_unlike, defScope xs_are_unlike, fun _ => true⟩
section
variable {M : Md} {W : WX} {k : Nat} {X : Cx}
theorem xn_are_unlike_0 (g : G M xC_are_unlike W k X) {pos : Pos} : PE X (.Name "some" pos) (tE M W (nm 0)) := e_nm g.toG0 rfl (by first | exact Or.inl (by decide +kernel) | exact Or.inr (Or.inl (by decide +kernel)) | exact Or.inr (Or.inr (by decide +kernel))) (by decide +kernel) (by decide +kernel)
theorem xw_are_unlike (E : Env M)  (hk : 0 ≤ k) (g : G M xC_are_unlike W k X) : PSs X (defBody xs_are_unlike) (tS M W xb_are_unlike) :=
  s_one (s_ret (e_callB g.toG0 (f := fAll) ((c_all g.hK g.calm)) (by decide +kernel) E.b_all boot_all (a_cons (o_ex (e_lc g (own := [("at", 1), ("one", 2)]) (i_enumG g (by decide +kernel) E.b_enumerate (a_cons (o_ex (xn_are_unlike_0 g)) (a_nil) rfl) rfl) (by decide +kernel) rfl ⟨fun X g => p_tup g (ps_cons (p_nm g (i := 1) rfl (by first | exact Or.inl (by decide +kernel) | exact Or.inr (by decide +kernel)) (by first | exact .inr (by decide +kernel) | exact .inl (by decide +kernel))) (ps_cons (p_nm g (i := 2) rfl (by first | exact Or.inl (by decide +kernel) | exact Or.inr (by decide +kernel)) (by first | exact .inr (by decide +kernel) | exact .inl (by decide +kernel))) (ps_nil) rfl) rfl) rfl rfl, fun X g => ts_nil, fun X g => e_cmp (o_gnotin g.hK g.hu) (e_sl g.toG0 (i := 2) (x := "one") rfl (by first | exact Or.inl (by decide +kernel) | exact Or.inr (Or.inl (by decide +kernel)) | exact Or.inr (Or.inr (by decide +kernel))) (by decide +kernel) (by decide +kernel)) (o_ex (e_slc g.toG0 (ol := none) (oh := (some (.ex (nm 1)))) (e_sl g.toG0 (i := 0) (x := "some") rfl (by first | exact Or.inl (by decide +kernel) | exact Or.inr (Or.inl (by decide +kernel)) | exact Or.inr (Or.inr (by decide +kernel))) (by decide +kernel) (by decide +kernel)) trivial (o_ex (e_nm g.toG0 (i := 1) (x := "at") rfl (by first | exact Or.inl (by decide +kernel) | exact Or.inr (Or.inl (by decide +kernel)) | exact Or.inr (Or.inr (by decide +kernel))) (by decide +kernel) (by decide +kernel))))) rfl⟩ (by intro _; rfl))) (a_nil) rfl) (by decide +kernel) (by decide +kernel) rfl rfl))
theorem xsc_are_unlike : FnScope xN_are_unlike ["some"] (defScope xs_are_unlike) := ⟨rfl, rfl, rfl, by decide +kernel, rfl, by decide +kernel, by decide +kernel⟩
abbrev xF_are_unlike (K : PySem.W.Frag) (f : Addr) (fd : FuncData) : Prop := FunD K "are_unlike" "are_unlike" (defArgs xs_are_unlike) (defBody xs_are_unlike) (defScope xs_are_unlike) [] [] f fd
theorem xv_are_unlike (hx : M.xn = none) (E : Env M)  {f : Addr} {fd : FuncData} (F : xF_are_unlike M.K f fd) (hm : M.mg "are_unlike" = some (.ref f)) : FnV M 1 "are_unlike" 1 xf_are_unlike :=
  ⟨f, fd, ["some"], fn_ok hx (k := 0) F xsc_are_unlike (fun X W g => xw_are_unlike E  (Nat.le_refl _) g), hm, F.kp, rfl, F.bindsN fun _ _ _ _ _ _ us hl => match us, hl with | [_], _ => rfl⟩
end
/-! ### are_some_of -/
abbrev xN_are_some_of : List Str := ["some", "options", "one"]
abbrev xC_are_some_of : Cs := ⟨xN_are_some_of, defScope xs_are_some_of, fun _ => true⟩
section
variable {M : Md} {W : WX} {k : Nat} {X : Cx}
theorem xn_are_some_of_0 (g : G M xC_are_some_of W k X) {pos : Pos} : PE X (.Name "some" pos) (tE M W (nm 0)) := e_nm g.toG0 rfl (by first | exact Or.inl (by decide +kernel) | exact Or.inr (Or.inl (by decide +kernel)) | exact Or.inr (Or.inr (by decide +kernel))) (by decide +kernel) (by decide +kernel)
theorem xw_are_some_of (E : Env M) (xh_are_unlike : FnV M 1 "are_unlike" 1 xf_are_unlike) (hk : 1 ≤ k) (g : G M xC_are_some_of W k X) : PSs X (defBody xs_are_some_of) (tS M W xb_are_some_of) :=
  s_one (s_ret (e_and g.toG0 (e_callB g.toG0 (f := fAll) ((c_all g.hK g.calm)) (by decide +kernel) E.b_all boot_all (a_cons (o_ex (e_lc g (own := [("one", 2)]) (i_seq g (o_ex (xn_are_some_of_0 g))) (by decide +kernel) rfl ⟨fun X g => p_nm g (i := 2) rfl (by first | exact Or.inl (by decide +kernel) | exact Or.inr (by decide +kernel)) (by first | exact .inr (by decide +kernel) | exact .inl (by decide +kernel)), fun X g => ts_nil, fun X g => e_and g.toG0 (e_isi g.toG0 (by decide +kernel) E.b_isinstance (by decide +kernel) E.b_str boot_str (by decide +kernel) (by decide +kernel) (e_sl g.toG0 (i := 2) (x := "one") rfl (by first | exact Or.inl (by decide +kernel) | exact Or.inr (Or.inl (by decide +kernel)) | exact Or.inr (Or.inr (by decide +kernel))) (by decide +kernel) (by decide +kernel)) rfl) (e_and1 (e_cmp (o_gin g.hK g.hu) (e_sl g.toG0 (i := 2) (x := "one") rfl (by first | exact Or.inl (by decide +kernel) | exact Or.inr (Or.inl (by decide +kernel)) | exact Or.inr (Or.inr (by decide +kernel))) (by decide +kernel) (by decide +kernel)) (e_sl g.toG0 (i := 1) (x := "options") rfl (by first | exact Or.inl (by decide +kernel) | exact Or.inr (Or.inl (by decide +kernel)) | exact Or.inr (Or.inr (by decide +kernel))) (by decide +kernel) (by decide +kernel)) rfl))⟩ (by intro _; rfl))) (a_nil) rfl) (by decide +kernel) (by decide +kernel) rfl rfl) (e_and1 (e_call g xh_are_unlike (Nat.le_trans (by decide) hk) (by decide +kernel) (a_cons (o_ex (xn_are_some_of_0 g)) (a_nil) rfl) rfl (by decide +kernel) rfl rfl))))
theorem xsc_are_some_of : FnScope xN_are_some_of ["some", "options"] (defScope xs_are_some_of) := ⟨rfl, rfl, rfl, by decide +kernel, rfl, by decide +kernel, by decide +kernel⟩
abbrev xF_are_some_of (K : PySem.W.Frag) (f : Addr) (fd : FuncData) : Prop := FunD K "are_some_of" "are_some_of" (defArgs xs_are_some_of) (defBody xs_are_some_of) (defScope xs_are_some_of) [] [] f fd
theorem xv_are_some_of (hx : M.xn = none) (E : Env M) (xh_are_unlike : FnV M 1 "are_unlike" 1 xf_are_unlike) {f : Addr} {fd : FuncData} (F : xF_are_some_of M.K f fd) (hm : M.mg "are_some_of" = some (.ref f)) : FnV M 2 "are_some_of" 2 xf_are_some_of :=
  ⟨f, fd, ["some", "options"], fn_ok hx (k := 1) F xsc_are_some_of (fun X W g => xw_are_some_of E xh_are_unlike (Nat.le_refl _) g), hm, F.kp, rfl, F.bindsN fun _ _ _ _ _ _ us hl => match us, hl with | [_, _], _ => rfl⟩
end
/-! ### are_tiers -/
abbrev xN_are_tiers : List Str := ["thing", "options", "tier", "name"]
abbrev xC_are_tiers : Cs := ⟨xN_are_tiers, defScope xs_are_tiers, fun _ => true⟩
section
variable {M : Md} {W : WX} {k : Nat} {X : Cx}
theorem xo_are_tiers_0 (g : G M xC_are_tiers W k X) {pos : Pos} : PE X (.Name "thing" pos) (tO M W (.sl 0)) := e_sl g.toG0 rfl (by first | exact Or.inl (by decide +kernel) | exact Or.inr (Or.inl (by decide +kernel)) | exact Or.inr (Or.inr (by decide +kernel))) (by decide +kernel) (by decide +kernel)
theorem xn_are_tiers_0 (g : G M xC_are_tiers W k X) {pos : Pos} : PE X (.Name "thing" pos) (tE M W (nm 0)) := e_nm g.toG0 rfl (by first | exact Or.inl (by decide +kernel) | exact Or.inr (Or.inl (by decide +kernel)) | exact Or.inr (Or.inr (by decide +kernel))) (by decide +kernel) (by decide +kernel)
theorem xn_are_tiers_1 (g : G M xC_are_tiers W k X) {pos : Pos} : PE X (.Name "options" pos) (tE M W (nm 1)) := e_nm g.toG0 rfl (by first | exact Or.inl (by decide +kernel) | exact Or.inr (Or.inl (by decide +kernel)) | exact Or.inr (Or.inr (by decide +kernel))) (by decide +kernel) (by decide +kernel)
theorem xw_are_tiers (E : Env M) (xh_are_some_of : FnV M 2 "are_some_of" 2 xf_are_some_of) (hk : 2 ≤ k) (g : G M xC_are_tiers W k X) : PSs X (defBody xs_are_tiers) (tS M W xb_are_tiers) :=
  s_cons (s_if (t_w (w_or (t_not (t_tru g.toG0 (o_ex (e_isi g.toG0 (by decide +kernel) E.b_isinstance (by decide +kernel) E.b_tuple boot_tuple (by decide +kernel) (by decide +kernel) (xo_are_tiers_0 g) rfl)) (by intro _; rfl))) (w_or1 (t_not (t_tru g.toG0 (o_ex (e_callB g.toG0 (f := fAll) ((c_all g.hK g.calm)) (by decide +kernel) E.b_all boot_all (a_cons (o_ex (e_lc g (own := [("tier", 2)]) (i_seq g (o_ex (xn_are_tiers_0 g))) (by decide +kernel) rfl ⟨fun X g => p_nm g (i := 2) rfl (by first | exact Or.inl (by decide +kernel) | exact Or.inr (by decide +kernel)) (by first | exact .inr (by decide +kernel) | exact .inl (by decide +kernel)), fun X g => ts_nil, fun X g => e_and g.toG0 (e_isi g.toG0 (by decide +kernel) E.b_isinstance (by decide +kernel) E.b_tuple boot_tuple (by decide +kernel) (by decide +kernel) (e_sl g.toG0 (i := 2) (x := "tier") rfl (by first | exact Or.inl (by decide +kernel) | exact Or.inr (Or.inl (by decide +kernel)) | exact Or.inr (Or.inr (by decide +kernel))) (by decide +kernel) (by decide +kernel)) rfl) (e_and1 (e_cmp (o_ne g.hK g.hu) (e_sl g.toG0 (i := 2) (x := "tier") rfl (by first | exact Or.inl (by decide +kernel) | exact Or.inr (Or.inl (by decide +kernel)) | exact Or.inr (Or.inr (by decide +kernel))) (by decide +kernel) (by decide +kernel)) (o_ex (e_tup (φs := []) (a_nil) (by decide))) rfl))⟩ (by intro _; rfl))) (a_nil) rfl) (by decide +kernel) (by decide +kernel) rfl rfl)) (by intro _; rfl)))))) (s_one (s_ret (e_bl))) s_nil)
  (s_one (s_ret (e_call g xh_are_some_of (Nat.le_trans (by decide) hk) (by decide +kernel) (a_cons (o_ex (e_lc2 g (own := [("tier", 2), ("name", 3)]) (vs1 := [3]) (i_seq g (o_ex (xn_are_tiers_0 g))) (by decide +kernel) rfl rfl rfl ⟨fun X g => p_nm g (i := 2) rfl (by first | exact Or.inl (by decide +kernel) | exact Or.inr (by decide +kernel)) (by first | exact .inr (by decide +kernel) | exact .inl (by decide +kernel)), fun X g => ts_nil, fun X g => i_seq g (o_ex (e_nm g.toG0 (i := 2) (x := "tier") rfl (by first | exact Or.inl (by decide +kernel) | exact Or.inr (Or.inl (by decide +kernel)) | exact Or.inr (Or.inr (by decide +kernel))) (by decide +kernel) (by decide +kernel))), fun X g => p_nm g (i := 3) rfl (by first | exact Or.inl (by decide +kernel) | exact Or.inr (by decide +kernel)) (by first | exact .inr (by decide +kernel) | exact .inl (by decide +kernel)), fun X g => ts_nil, fun X g => e_nm g.toG0 (i := 3) (x := "name") rfl (by first | exact Or.inl (by decide +kernel) | exact Or.inr (Or.inl (by decide +kernel)) | exact Or.inr (Or.inr (by decide +kernel))) (by decide +kernel) (by decide +kernel)⟩ (by intro _; rfl) (by intro _ _; rfl))) (a_cons (o_ex (xn_are_tiers_1 g)) (a_nil) rfl) rfl) rfl (by decide +kernel) rfl rfl)))
theorem xsc_are_tiers : FnScope xN_are_tiers ["thing", "options"] (defScope xs_are_tiers) := ⟨rfl, rfl, rfl, by decide +kernel, rfl, by decide +kernel, by decide +kernel⟩
abbrev xF_are_tiers (K : PySem.W.Frag) (f : Addr) (fd : FuncData) : Prop := FunD K "are_tiers" "are_tiers" (defArgs xs_are_tiers) (defBody xs_are_tiers) (defScope xs_are_tiers) [] [] f fd
theorem xv_are_tiers (hx : M.xn = none) (E : Env M) (xh_are_some_of : FnV M 2 "are_some_of" 2 xf_are_some_of) {f : Addr} {fd : FuncData} (F : xF_are_tiers M.K f fd) (hm : M.mg "are_tiers" = some (.ref f)) : FnV M 3 "are_tiers" 2 xf_are_tiers :=
  ⟨f, fd, ["thing", "options"], fn_ok hx (k := 2) F xsc_are_tiers (fun X W g => xw_are_tiers E xh_are_some_of (Nat.le_refl _) g), hm, F.kp, rfl, F.bindsN fun _ _ _ _ _ _ us hl => match us, hl with | [_, _], _ => rfl⟩
end
/-! ### is_whole -/
abbrev xN_is_whole : List Str := ["thing"]
abbrev xC_is_whole : Cs := ⟨xN_is_whole, defScope xs_is_whole, fun _ => true⟩
section
variable {M : Md} {W : WX} {k : Nat} {X : Cx}
theorem xo_is_whole_0 (g : G M xC_is_whole W k X) {pos : Pos} : PE X (.Name "thing" pos) (tO M W (.sl 0)) := e_sl g.toG0 rfl (by first | exact Or.inl (by decide +kernel) | exact Or.inr (Or.inl (by decide +kernel)) | exact Or.inr (Or.inr (by decide +kernel))) (by decide +kernel) (by decide +kernel)
theorem xw_is_whole (E : Env M)  (hk : 0 ≤ k) (g : G M xC_is_whole W k X) : PSs X (defBody xs_is_whole) (tS M W xb_is_whole) :=
  s_one (s_ret (e_and g.toG0 (e_isi g.toG0 (by decide +kernel) E.b_isinstance (by decide +kernel) E.b_int boot_int (by decide +kernel) (by decide +kernel) (xo_is_whole_0 g) rfl) (e_and1 (e_not g.toG0 (o_ex (e_isi g.toG0 (by decide +kernel) E.b_isinstance (by decide +kernel) E.b_bool boot_bool (by decide +kernel) (by decide +kernel) (xo_is_whole_0 g) rfl))))))
theorem xsc_is_whole : FnScope xN_is_whole ["thing"] (defScope xs_is_whole) := ⟨rfl, rfl, rfl, by decide +kernel, rfl, by decide +kernel, by decide +kernel⟩
abbrev xF_is_whole (K : PySem.W.Frag) (f : Addr) (fd : FuncData) : Prop := FunD K "is_whole" "is_whole" (defArgs xs_is_whole) (defBody xs_is_whole) (defScope xs_is_whole) [] [] f fd
theorem xv_is_whole (hx : M.xn = none) (E : Env M)  {f : Addr} {fd : FuncData} (F : xF_is_whole M.K f fd) (hm : M.mg "is_whole" = some (.ref f)) : FnV M 1 "is_whole" 1 xf_is_whole :=
  ⟨f, fd, ["thing"], fn_ok hx (k := 0) F xsc_is_whole (fun X W g => xw_is_whole E  (Nat.le_refl _) g), hm, F.kp, rfl, F.bindsN fun _ _ _ _ _ _ us hl => match us, hl with | [_], _ => rfl⟩
end
/-! ### are_marks -/
abbrev xN_are_marks : List Str := ["thing", "options", "name", "mark", "pair"]
abbrev xC_are_marks : Cs := ⟨xN_are_marks, defScope xs_are_marks, fun _ => true⟩
section
variable {M : Md} {W : WX} {k : Nat} {X : Cx}
theorem xo_are_marks_0 (g : G M xC_are_marks W k X) {pos : Pos} : PE X (.Name "thing" pos) (tO M W (.sl 0)) := e_sl g.toG0 rfl (by first | exact Or.inl (by decide +kernel) | exact Or.inr (Or.inl (by decide +kernel)) | exact Or.inr (Or.inr (by decide +kernel))) (by decide +kernel) (by decide +kernel)
theorem xn_are_marks_0 (g : G M xC_are_marks W k X) {pos : Pos} : PE X (.Name "thing" pos) (tE M W (nm 0)) := e_nm g.toG0 rfl (by first | exact Or.inl (by decide +kernel) | exact Or.inr (Or.inl (by decide +kernel)) | exact Or.inr (Or.inr (by decide +kernel))) (by decide +kernel) (by decide +kernel)
theorem xn_are_marks_1 (g : G M xC_are_marks W k X) {pos : Pos} : PE X (.Name "options" pos) (tE M W (nm 1)) := e_nm g.toG0 rfl (by first | exact Or.inl (by decide +kernel) | exact Or.inr (Or.inl (by decide +kernel)) | exact Or.inr (Or.inr (by decide +kernel))) (by decide +kernel) (by decide +kernel)
theorem xw_are_marks (E : Env M) (xh_is_whole : FnV M 1 "is_whole" 1 xf_is_whole) (xh_are_some_of : FnV M 2 "are_some_of" 2 xf_are_some_of) (hk : 2 ≤ k) (g : G M xC_are_marks W k X) : PSs X (defBody xs_are_marks) (tS M W xb_are_marks) :=
  s_cons (s_if (t_w (w_or (t_not (t_tru g.toG0 (o_ex (e_isi g.toG0 (by decide +kernel) E.b_isinstance (by decide +kernel) E.b_tuple boot_tuple (by decide +kernel) (by decide +kernel) (xo_are_marks_0 g) rfl)) (by intro _; rfl))) (w_or1 (t_not (t_tru g.toG0 (o_ex (e_callB g.toG0 (f := fAll) ((c_all g.hK g.calm)) (by decide +kernel) E.b_all boot_all (a_cons (o_ex (e_lc g (own := [("pair", 4)]) (i_seq g (o_ex (xn_are_marks_0 g))) (by decide +kernel) rfl ⟨fun X g => p_nm g (i := 4) rfl (by first | exact Or.inl (by decide +kernel) | exact Or.inr (by decide +kernel)) (by first | exact .inr (by decide +kernel) | exact .inl (by decide +kernel)), fun X g => ts_nil, fun X g => e_and g.toG0 (e_isi g.toG0 (by decide +kernel) E.b_isinstance (by decide +kernel) E.b_tuple boot_tuple (by decide +kernel) (by decide +kernel) (e_sl g.toG0 (i := 4) (x := "pair") rfl (by first | exact Or.inl (by decide +kernel) | exact Or.inr (Or.inl (by decide +kernel)) | exact Or.inr (Or.inr (by decide +kernel))) (by decide +kernel) (by decide +kernel)) rfl) (e_and1 (e_cmp (o_eq g.hK g.hu) (o_ex (e_callB g.toG0 (f := gLen) (c_glen g.hK) (by decide +kernel) E.b_len boot_len (a_cons (e_sl g.toG0 (i := 4) (x := "pair") rfl (by first | exact Or.inl (by decide +kernel) | exact Or.inr (Or.inl (by decide +kernel)) | exact Or.inr (Or.inr (by decide +kernel))) (by decide +kernel) (by decide +kernel)) (a_nil) rfl) (by decide +kernel) (by decide +kernel) rfl rfl)) (o_ex (e_int)) rfl))⟩ (by intro _; rfl))) (a_nil) rfl) (by decide +kernel) (by decide +kernel) rfl rfl)) (by intro _; rfl)))))) (s_one (s_ret (e_bl))) s_nil)
  (s_cons (s_if (t_not (t_tru g.toG0 (o_ex (e_callB g.toG0 (f := fAll) ((c_all g.hK g.calm)) (by decide +kernel) E.b_all boot_all (a_cons (o_ex (e_lc g (own := [("name", 2), ("mark", 3)]) (i_seq g (o_ex (xn_are_marks_0 g))) (by decide +kernel) rfl ⟨fun X g => p_tup g (ps_cons (p_nm g (i := 2) rfl (by first | exact Or.inl (by decide +kernel) | exact Or.inr (by decide +kernel)) (by first | exact .inr (by decide +kernel) | exact .inl (by decide +kernel))) (ps_cons (p_nm g (i := 3) rfl (by first | exact Or.inl (by decide +kernel) | exact Or.inr (by decide +kernel)) (by first | exact .inr (by decide +kernel) | exact .inl (by decide +kernel))) (ps_nil) rfl) rfl) rfl rfl, fun X g => ts_nil, fun X g => e_and g.toG0 (e_call g xh_is_whole (Nat.le_trans (by decide) hk) (by decide +kernel) (a_cons (o_ex (e_nm g.toG0 (i := 3) (x := "mark") rfl (by first | exact Or.inl (by decide +kernel) | exact Or.inr (Or.inl (by decide +kernel)) | exact Or.inr (Or.inr (by decide +kernel))) (by decide +kernel) (by decide +kernel))) (a_nil) rfl) rfl (by decide +kernel) rfl rfl) (e_and1 (e_chn o_le o_le (o_ex (e_int)) (e_sl g.toG0 (i := 3) (x := "mark") rfl (by first | exact Or.inl (by decide +kernel) | exact Or.inr (Or.inl (by decide +kernel)) | exact Or.inr (Or.inr (by decide +kernel))) (by decide +kernel) (by decide +kernel)) (o_ex (e_glob g.toG0 E.c_MOST_MARK (by decide +kernel) (by decide +kernel))) (by with_unfolding_all rfl)))⟩ (by intro _; rfl))) (a_nil) rfl) (by decide +kernel) (by decide +kernel) rfl rfl)) (by intro _; rfl))) (s_one (s_ret (e_bl))) s_nil)
  (s_one (s_ret (e_call g xh_are_some_of (Nat.le_trans (by decide) hk) (by decide +kernel) (a_cons (o_ex (e_lc g (own := [("name", 2), ("mark", 3)]) (i_seq g (o_ex (xn_are_marks_0 g))) (by decide +kernel) rfl ⟨fun X g => p_tup g (ps_cons (p_nm g (i := 2) rfl (by first | exact Or.inl (by decide +kernel) | exact Or.inr (by decide +kernel)) (by first | exact .inr (by decide +kernel) | exact .inl (by decide +kernel))) (ps_cons (p_nm g (i := 3) rfl (by first | exact Or.inl (by decide +kernel) | exact Or.inr (by decide +kernel)) (by first | exact .inr (by decide +kernel) | exact .inl (by decide +kernel))) (ps_nil) rfl) rfl) rfl rfl, fun X g => ts_nil, fun X g => e_nm g.toG0 (i := 2) (x := "name") rfl (by first | exact Or.inl (by decide +kernel) | exact Or.inr (Or.inl (by decide +kernel)) | exact Or.inr (Or.inr (by decide +kernel))) (by decide +kernel) (by decide +kernel)⟩ (by intro _; rfl))) (a_cons (o_ex (xn_are_marks_1 g)) (a_nil) rfl) rfl) rfl (by decide +kernel) rfl rfl))))
theorem xsc_are_marks : FnScope xN_are_marks ["thing", "options"] (defScope xs_are_marks) := ⟨rfl, rfl, rfl, by decide +kernel, rfl, by decide +kernel, by decide +kernel⟩
abbrev xF_are_marks (K : PySem.W.Frag) (f : Addr) (fd : FuncData) : Prop := FunD K "are_marks" "are_marks" (defArgs xs_are_marks) (defBody xs_are_marks) (defScope xs_are_marks) [] [] f fd
theorem xv_are_marks (hx : M.xn = none) (E : Env M) (xh_is_whole : FnV M 1 "is_whole" 1 xf_is_whole) (xh_are_some_of : FnV M 2 "are_some_of" 2 xf_are_some_of) {f : Addr} {fd : FuncData} (F : xF_are_marks M.K f fd) (hm : M.mg "are_marks" = some (.ref f)) : FnV M 3 "are_marks" 2 xf_are_marks :=
  ⟨f, fd, ["thing", "options"], fn_ok hx (k := 2) F xsc_are_marks (fun X W g => xw_are_marks E xh_is_whole xh_are_some_of (Nat.le_refl _) g), hm, F.kp, rfl, F.bindsN fun _ _ _ _ _ _ us hl => match us, hl with | [_, _], _ => rfl⟩
end
/-! ### is_ballot -/
abbrev xN_is_ballot : List Str := ["options", "ballot", "word", "things"]
abbrev xC_is_ballot : Cs := ⟨xN_is_ballot, defScope xs_is_ballot, fun _ => true⟩
section
variable {M : Md} {W : WX} {k : Nat} {X : Cx}
theorem xn_is_ballot_0 (g : G M xC_is_ballot W k X) {pos : Pos} : PE X (.Name "options" pos) (tE M W (nm 0)) := e_nm g.toG0 rfl (by first | exact Or.inl (by decide +kernel) | exact Or.inr (Or.inl (by decide +kernel)) | exact Or.inr (Or.inr (by decide +kernel))) (by decide +kernel) (by decide +kernel)
theorem xo_is_ballot_1 (g : G M xC_is_ballot W k X) {pos : Pos} : PE X (.Name "ballot" pos) (tO M W (.sl 1)) := e_sl g.toG0 rfl (by first | exact Or.inl (by decide +kernel) | exact Or.inr (Or.inl (by decide +kernel)) | exact Or.inr (Or.inr (by decide +kernel))) (by decide +kernel) (by decide +kernel)
theorem xn_is_ballot_1 (g : G M xC_is_ballot W k X) {pos : Pos} : PE X (.Name "ballot" pos) (tE M W (nm 1)) := e_nm g.toG0 rfl (by first | exact Or.inl (by decide +kernel) | exact Or.inr (Or.inl (by decide +kernel)) | exact Or.inr (Or.inr (by decide +kernel))) (by decide +kernel) (by decide +kernel)
theorem xo_is_ballot_2 (g : G M xC_is_ballot W k X) {pos : Pos} : PE X (.Name "word" pos) (tO M W (.sl 2)) := e_sl g.toG0 rfl (by first | exact Or.inl (by decide +kernel) | exact Or.inr (Or.inl (by decide +kernel)) | exact Or.inr (Or.inr (by decide +kernel))) (by decide +kernel) (by decide +kernel)
theorem xo_is_ballot_3 (g : G M xC_is_ballot W k X) {pos : Pos} : PE X (.Name "things" pos) (tO M W (.sl 3)) := e_sl g.toG0 rfl (by first | exact Or.inl (by decide +kernel) | exact Or.inr (Or.inl (by decide +kernel)) | exact Or.inr (Or.inr (by decide +kernel))) (by decide +kernel) (by decide +kernel)
theorem xn_is_ballot_3 (g : G M xC_is_ballot W k X) {pos : Pos} : PE X (.Name "things" pos) (tE M W (nm 3)) := e_nm g.toG0 rfl (by first | exact Or.inl (by decide +kernel) | exact Or.inr (Or.inl (by decide +kernel)) | exact Or.inr (Or.inr (by decide +kernel))) (by decide +kernel) (by decide +kernel)
theorem xw_is_ballot (E : Env M) (xh_are_tiers : FnV M 3 "are_tiers" 2 xf_are_tiers) (xh_are_some_of : FnV M 2 "are_some_of" 2 xf_are_some_of) (xh_are_marks : FnV M 3 "are_marks" 2 xf_are_marks) (hk : 3 ≤ k) (g : G M xC_is_ballot W k X) : PSs X (defBody xs_is_ballot) (tS M W xb_is_ballot) :=
  s_cons (s_if (t_w (w_or (t_not (t_tru g.toG0 (o_ex (e_isi g.toG0 (by decide +kernel) E.b_isinstance (by decide +kernel) E.b_tuple boot_tuple (by decide +kernel) (by decide +kernel) (xo_is_ballot_1 g) rfl)) (by intro _; rfl))) (w_or (t_cmp (o_ne g.hK g.hu) (o_ex (e_callB g.toG0 (f := gLen) (c_glen g.hK) (by decide +kernel) E.b_len boot_len (a_cons (xo_is_ballot_1 g) (a_nil) rfl) (by decide +kernel) (by decide +kernel) rfl rfl)) (o_ex (e_int)) rfl) (w_or1 (t_not (t_tru g.toG0 (o_ex (e_isi g.toG0 (by decide +kernel) E.b_isinstance (by decide +kernel) E.b_str boot_str (by decide +kernel) (by decide +kernel) (o_ex (e_gix g.toG0 (xo_is_ballot_1 g) (o_ex (e_int)) (by intro _ _; rfl))) rfl)) (by intro _; rfl))))))) (s_one (s_ret (e_bl))) s_nil)
  (s_cons (s_put g (xn_is_ballot_1 g) (p_tup g (ps_cons (p_nm g (i := 2) rfl (by first | exact Or.inl (by decide +kernel) | exact Or.inr (by decide +kernel)) (.inl rfl)) (ps_cons (p_nm g (i := 3) rfl (by first | exact Or.inl (by decide +kernel) | exact Or.inr (by decide +kernel)) (.inl rfl)) (ps_nil) rfl) rfl) rfl rfl) rfl rfl rfl)
  (s_cons (s_if (t_cmp (o_eq g.hK g.hu) (xo_is_ballot_2 g) (o_ex (e_str)) rfl) (s_one (s_ret (e_call g xh_are_tiers (Nat.le_trans (by decide) hk) (by decide +kernel) (a_cons (o_ex (xn_is_ballot_3 g)) (a_cons (o_ex (xn_is_ballot_0 g)) (a_nil) rfl) rfl) rfl (by decide +kernel) rfl rfl))) s_nil)
  (s_cons (s_if (t_cmp (o_eq g.hK g.hu) (xo_is_ballot_2 g) (o_ex (e_str)) rfl) (s_one (s_ret (e_and g.toG0 (e_isi g.toG0 (by decide +kernel) E.b_isinstance (by decide +kernel) E.b_tuple boot_tuple (by decide +kernel) (by decide +kernel) (xo_is_ballot_3 g) rfl) (e_and1 (e_call g xh_are_some_of (Nat.le_trans (by decide) hk) (by decide +kernel) (a_cons (o_ex (xn_is_ballot_3 g)) (a_cons (o_ex (xn_is_ballot_0 g)) (a_nil) rfl) rfl) rfl (by decide +kernel) rfl rfl))))) s_nil)
  (s_one (s_ret (e_and g.toG0 (e_cmp (o_eq g.hK g.hu) (xo_is_ballot_2 g) (o_ex (e_str)) rfl) (e_and1 (e_call g xh_are_marks (Nat.le_trans (by decide) hk) (by decide +kernel) (a_cons (o_ex (xn_is_ballot_3 g)) (a_cons (o_ex (xn_is_ballot_0 g)) (a_nil) rfl) rfl) rfl (by decide +kernel) rfl rfl))))))))
theorem xsc_is_ballot : FnScope xN_is_ballot ["options", "ballot"] (defScope xs_is_ballot) := ⟨rfl, rfl, rfl, by decide +kernel, rfl, by decide +kernel, by decide +kernel⟩
abbrev xF_is_ballot (K : PySem.W.Frag) (f : Addr) (fd : FuncData) : Prop := FunD K "is_ballot" "is_ballot" (defArgs xs_is_ballot) (defBody xs_is_ballot) (defScope xs_is_ballot) [] [] f fd
theorem xv_is_ballot (hx : M.xn = none) (E : Env M) (xh_are_tiers : FnV M 3 "are_tiers" 2 xf_are_tiers) (xh_are_some_of : FnV M 2 "are_some_of" 2 xf_are_some_of) (xh_are_marks : FnV M 3 "are_marks" 2 xf_are_marks) {f : Addr} {fd : FuncData} (F : xF_is_ballot M.K f fd) (hm : M.mg "is_ballot" = some (.ref f)) : FnV M 4 "is_ballot" 2 xf_is_ballot :=
  ⟨f, fd, ["options", "ballot"], fn_ok hx (k := 3) F xsc_is_ballot (fun X W g => xw_is_ballot E xh_are_tiers xh_are_some_of xh_are_marks (Nat.le_refl _) g), hm, F.kp, rfl, F.bindsN fun _ _ _ _ _ _ us hl => match us, hl with | [_, _], _ => rfl⟩
end
/-! ### check_ballot -/
abbrev xN_check_ballot : List Str := ["options", "ballot"]
abbrev xC_check_ballot : Cs := ⟨xN_check_ballot, defScope xs_check_ballot, fun _ => true⟩
section
variable {M : Md} {W : WX} {k : Nat} {X : Cx}
theorem xn_check_ballot_0 (g : G M xC_check_ballot W k X) {pos : Pos} : PE X (.Name "options" pos) (tE M W (nm 0)) := e_nm g.toG0 rfl (by first | exact Or.inl (by decide +kernel) | exact Or.inr (Or.inl (by decide +kernel)) | exact Or.inr (Or.inr (by decide +kernel))) (by decide +kernel) (by decide +kernel)
theorem xn_check_ballot_1 (g : G M xC_check_ballot W k X) {pos : Pos} : PE X (.Name "ballot" pos) (tE M W (nm 1)) := e_nm g.toG0 rfl (by first | exact Or.inl (by decide +kernel) | exact Or.inr (Or.inl (by decide +kernel)) | exact Or.inr (Or.inr (by decide +kernel))) (by decide +kernel) (by decide +kernel)
theorem xw_check_ballot (E : Env M) (xh_is_ballot : FnV M 4 "is_ballot" 2 xf_is_ballot) (hk : 4 ≤ k) (g : G M xC_check_ballot W k X) : PSs X (defBody xs_check_ballot) (tS M W xb_check_ballot) :=
  s_cons (s_if (t_not (t_tru g.toG0 (o_ex (e_call g xh_is_ballot (Nat.le_trans (by decide) hk) (by decide +kernel) (a_cons (o_ex (xn_check_ballot_0 g)) (a_cons (o_ex (xn_check_ballot_1 g)) (a_nil) rfl) rfl) rfl (by decide +kernel) rfl rfl)) (by intro _; rfl))) (s_one (s_raiseW g E.er_BadBallot (Nat.le_trans (by decide) hk) (by decide +kernel) (by decide +kernel) (e_str) rfl)) s_nil)
  (s_nil)
theorem xsc_check_ballot : FnScope xN_check_ballot ["options", "ballot"] (defScope xs_check_ballot) := ⟨rfl, rfl, rfl, by decide +kernel, rfl, by decide +kernel, by decide +kernel⟩
abbrev xF_check_ballot (K : PySem.W.Frag) (f : Addr) (fd : FuncData) : Prop := FunD K "check_ballot" "check_ballot" (defArgs xs_check_ballot) (defBody xs_check_ballot) (defScope xs_check_ballot) [] [] f fd
theorem xv_check_ballot (hx : M.xn = none) (E : Env M) (xh_is_ballot : FnV M 4 "is_ballot" 2 xf_is_ballot) {f : Addr} {fd : FuncData} (F : xF_check_ballot M.K f fd) (hm : M.mg "check_ballot" = some (.ref f)) : FnV M 5 "check_ballot" 2 xf_check_ballot :=
  ⟨f, fd, ["options", "ballot"], fn_ok hx (k := 4) F xsc_check_ballot (fun X W g => xw_check_ballot E xh_is_ballot (Nat.le_refl _) g), hm, F.kp, rfl, F.bindsN fun _ _ _ _ _ _ us hl => match us, hl with | [_, _], _ => rfl⟩
theorem xvk_check_ballot_0_ballot_options (hx : M.xn = none) (E : Env M) (xh_is_ballot : FnV M 4 "is_ballot" 2 xf_is_ballot) {f : Addr} {fd : FuncData} (F : xF_check_ballot M.K f fd) (hm : M.mg "check_ballot" = some (.ref f)) : FnVK M 5 "check_ballot" 0 ["ballot", "options"] [.at 1, .at 0] xf_check_ballot :=
  fnVK_of (ps := ["options", "ballot"]) [1, 0] F (fn_ok hx (k := 4) F xsc_check_ballot (fun X W g => xw_check_ballot E xh_is_ballot (Nat.le_refl _) g)) hm (by decide) (fun _ _ _ _ _ _ us ws hl hm => match us, ws, hl, hm with | [], [_, _], _, _ => by kernel_rfl)
end
/-! ### _law_told -/
abbrev xN_l_told_2 : List Str := ["_law_choices", "_law_thing", "_law_told_here", "e", "_law_others"]
abbrev xC_l_told_2 : Cs := ⟨xN_l_told_2, defScope xs_l_told_2, fun _ => true⟩
section
variable {M : Md} {W : WX} {k : Nat} {X : Cx}
theorem xn_l_told_2_0 (g : G M xC_l_told_2 W k X) {pos : Pos} : PE X (.Name "_law_choices" pos) (tE M W (nm 0)) := e_nm g.toG0 rfl (by first | exact Or.inl (by decide +kernel) | exact Or.inr (Or.inl (by decide +kernel)) | exact Or.inr (Or.inr (by decide +kernel))) (by decide +kernel) (by decide +kernel)
theorem xn_l_told_2_1 (g : G M xC_l_told_2 W k X) {pos : Pos} : PE X (.Name "_law_thing" pos) (tE M W (nm 1)) := e_nm g.toG0 rfl (by first | exact Or.inl (by decide +kernel) | exact Or.inr (Or.inl (by decide +kernel)) | exact Or.inr (Or.inr (by decide +kernel))) (by decide +kernel) (by decide +kernel)
theorem xw_l_told_2 (E : Env M) (xh_check_ballot : FnV M 5 "check_ballot" 2 xf_check_ballot) (hk : 5 ≤ k) (gf : GF M xC_l_told_2 W k X) : PSs X (defBody xs_l_told_2) (tS M W xb_l_told_2) :=
  have g := gf.toG
  s_cons (s_set g (i := 2) rfl (by first | exact Or.inl (by decide +kernel) | exact Or.inr (by decide +kernel)) (e_str) rfl (.inl rfl))
  (s_frz (s_cons (s_try1 gf (i := 3) rfl (by decide +kernel) (by decide +kernel) (by decide +kernel) E.hd_PollError_BadBallot (fun X W gf => have g := gf.toG; s_one (s_if (t_cmp o_isnot (o_ex (e_call g xh_check_ballot (Nat.le_trans (by decide) hk) (by decide +kernel) (a_cons (o_ex (xn_l_told_2_0 g)) (a_cons (o_ex (xn_l_told_2_1 g)) (a_nil) rfl) rfl) rfl (by decide +kernel) rfl rfl)) (o_ex (e_non)) rfl) (s_cons (s_set g (i := 2) rfl (by first | exact Or.inl (by decide +kernel) | exact Or.inr (by decide +kernel)) (e_str) rfl (.inl rfl))
  (s_frz (s_nil))) (s_nil))) (fun a dx C oe pn x gx hxc => s_cons (s_setH gx.g (i := 4) (fun t e => by have e : some _ = some t := e; cases e; show (3 : Nat) ≠ 4; decide) rfl (by first | exact Or.inl (by decide +kernel) | exact Or.inr (by decide +kernel)) (e_isXs gx hxc E.xc_BadBallot E.iss_BadBallot_BadClaim_BadMargins_BadOrder_BadPoll_BadRule_BadSums rfl (by first | exact Or.inl (by decide +kernel) | exact Or.inr (Or.inl (by decide +kernel)) | exact Or.inr (Or.inr (by decide +kernel))) (by decide +kernel) (by decide +kernel) (by decide +kernel) E.b_isinstance (by decide) (show PA _ _ (tCons (tC (.ref (He.ga M.K "BadClaim"))) (tCons (tC (.ref (He.ga M.K "BadMargins"))) (tCons (tC (.ref (He.ga M.K "BadOrder"))) (tCons (tC (.ref (He.ga M.K "BadPoll"))) (tCons (tC (.ref (He.ga M.K "BadRule"))) (tCons (tC (.ref (He.ga M.K "BadSums"))) (tNil))))))) from pa_cons (gx_gl gx (by decide +kernel) (by decide +kernel) (E.iss_BadBallot_BadClaim_BadMargins_BadOrder_BadPoll_BadRule_BadSums.hd "BadClaim" (by simp))) (pa_cons (gx_gl gx (by decide +kernel) (by decide +kernel) (E.iss_BadBallot_BadClaim_BadMargins_BadOrder_BadPoll_BadRule_BadSums.hd "BadMargins" (by simp))) (pa_cons (gx_gl gx (by decide +kernel) (by decide +kernel) (E.iss_BadBallot_BadClaim_BadMargins_BadOrder_BadPoll_BadRule_BadSums.hd "BadOrder" (by simp))) (pa_cons (gx_gl gx (by decide +kernel) (by decide +kernel) (E.iss_BadBallot_BadClaim_BadMargins_BadOrder_BadPoll_BadRule_BadSums.hd "BadPoll" (by simp))) (pa_cons (gx_gl gx (by decide +kernel) (by decide +kernel) (E.iss_BadBallot_BadClaim_BadMargins_BadOrder_BadPoll_BadRule_BadSums.hd "BadRule" (by simp))) (pa_cons (gx_gl gx (by decide +kernel) (by decide +kernel) (E.iss_BadBallot_BadClaim_BadMargins_BadOrder_BadPoll_BadRule_BadSums.hd "BadSums" (by simp))) (pa_nil) rfl) rfl) rfl) rfl) rfl) rfl)) rfl (.inl rfl))
  (s_frz (s_cons (s_setH gx.g (i := 2) (fun t e => by have e : some _ = some t := e; cases e; show (3 : Nat) ≠ 2; decide) rfl (by first | exact Or.inl (by decide +kernel) | exact Or.inr (by decide +kernel)) (e_gix gx.g (o_ex (e_lst (φs := [cst (.str "odd"), cst (.str "refused")]) (a_cons (o_ex (e_str)) (a_cons (o_ex (e_str)) (a_nil) rfl) rfl) (by decide))) (o_ex (e_callTy gx.g (f := fInt) (c_int) (by decide +kernel) E.b_int boot_int (a_cons (o_ex (e_and gx.g (e_isX1 gx hxc E.xc_BadBallot E.is_BadBallot_BadBallot rfl (by first | exact Or.inl (by decide +kernel) | exact Or.inr (Or.inl (by decide +kernel)) | exact Or.inr (Or.inr (by decide +kernel))) (by decide +kernel) (by decide +kernel) (by decide +kernel) E.b_isinstance (by decide +kernel) (by decide +kernel)) (e_and1 (e_not gx.g (e_sl gx.g (i := 4) (x := "_law_others") rfl (by first | exact Or.inl (by decide +kernel) | exact Or.inr (Or.inl (by decide +kernel)) | exact Or.inr (Or.inr (by decide +kernel))) (by decide +kernel) (by decide +kernel)))))) (a_nil) rfl) (by decide +kernel) (by decide +kernel) rfl rfl)) (by intro _ _; rfl)) rfl (.inl rfl))
  (s_frz (s_kill (s_nil)))))))
  (s_one (s_retI g.toG0 (i := 2) rfl (by first | exact Or.inl (by decide +kernel) | exact Or.inr (Or.inl (by decide +kernel)) | exact Or.inr (Or.inr (by decide +kernel))) (by decide +kernel) (by decide +kernel)))))
theorem xsc_l_told_2 : FnScope xN_l_told_2 ["_law_choices", "_law_thing"] (defScope xs_l_told_2) := ⟨rfl, rfl, rfl, by decide +kernel, rfl, by decide +kernel, by decide +kernel⟩
abbrev xF_l_told_2 (K : PySem.W.Frag) (f : Addr) (fd : FuncData) : Prop := FunD K "_law_told" "_law_told" (defArgs xs_l_told_2) (defBody xs_l_told_2) (defScope xs_l_told_2) [] [] f fd
theorem xv_l_told_2 (hx : M.xn = none) (E : Env M) (xh_check_ballot : FnV M 5 "check_ballot" 2 xf_check_ballot) {f : Addr} {fd : FuncData} (F : xF_l_told_2 M.K f fd) (hm : M.mg "_law_told" = some (.ref f)) : FnV M 6 "_law_told" 2 xf_l_told_2 :=
  ⟨f, fd, ["_law_choices", "_law_thing"], fn_okF hx (k := 5) F xsc_l_told_2 (fun X W g => xw_l_told_2 E xh_check_ballot (Nat.le_refl _) g), hm, F.kp, rfl, F.bindsN fun _ _ _ _ _ _ us hl => match us, hl with | [_, _], _ => rfl⟩
end
/-! ### _law_one -/
abbrev xN_l_one : List Str := ["_law_well_here", "_law_some"]
abbrev xC_l_one : Cs := ⟨xN_l_one, defScope xs_l_one, fun _ => true⟩
section
variable {M : Md} {W : WX} {k : Nat} {X : Cx}
theorem xo_l_one_0 (g : G M xC_l_one W k X) {pos : Pos} : PE X (.Name "_law_well_here" pos) (tO M W (.sl 0)) := e_sl g.toG0 rfl (by first | exact Or.inl (by decide +kernel) | exact Or.inr (Or.inl (by decide +kernel)) | exact Or.inr (Or.inr (by decide +kernel))) (by decide +kernel) (by decide +kernel)
theorem xo_l_one_1 (g : G M xC_l_one W k X) {pos : Pos} : PE X (.Name "_law_some" pos) (tO M W (.sl 1)) := e_sl g.toG0 rfl (by first | exact Or.inl (by decide +kernel) | exact Or.inr (Or.inl (by decide +kernel)) | exact Or.inr (Or.inr (by decide +kernel))) (by decide +kernel) (by decide +kernel)
theorem xw_l_one (E : Env M) (xh_l_draw : FnV M 1 "_law_draw" 2 xf_l_draw) (hk : 1 ≤ k) (g : G M xC_l_one W k X) : PSs X (defBody xs_l_one) (tS M W xb_l_one) :=
  s_one (s_ret (e_gix g.toG0 (xo_l_one_1 g) (o_ex (e_call g xh_l_draw (Nat.le_trans (by decide) hk) (by decide +kernel) (a_cons (xo_l_one_0 g) (a_cons (o_ex (e_callB g.toG0 (f := gLen) (c_glen g.hK) (by decide +kernel) E.b_len boot_len (a_cons (xo_l_one_1 g) (a_nil) rfl) (by decide +kernel) (by decide +kernel) rfl rfl)) (a_nil) rfl) rfl) rfl (by decide +kernel) rfl rfl)) (by intro _ _; rfl)))
theorem xsc_l_one : FnScope xN_l_one ["_law_well_here", "_law_some"] (defScope xs_l_one) := ⟨rfl, rfl, rfl, by decide +kernel, rfl, by decide +kernel, by decide +kernel⟩
abbrev xF_l_one (K : PySem.W.Frag) (f : Addr) (fd : FuncData) : Prop := FunD K "_law_one" "_law_one" (defArgs xs_l_one) (defBody xs_l_one) (defScope xs_l_one) [] [] f fd
theorem xv_l_one (hx : M.xn = none) (E : Env M) (xh_l_draw : FnV M 1 "_law_draw" 2 xf_l_draw) {f : Addr} {fd : FuncData} (F : xF_l_one M.K f fd) (hm : M.mg "_law_one" = some (.ref f)) : FnV M 2 "_law_one" 2 xf_l_one :=
  ⟨f, fd, ["_law_well_here", "_law_some"], fn_ok hx (k := 1) F xsc_l_one (fun X W g => xw_l_one E xh_l_draw (Nat.le_refl _) g), hm, F.kp, rfl, F.bindsN fun _ _ _ _ _ _ us hl => match us, hl with | [_, _], _ => rfl⟩
end
/-! ### _law_odd -/
abbrev xN_l_odd : List Str := ["_law_well_here", "_law_choices", "_law_some"]
abbrev xC_l_odd : Cs := ⟨xN_l_odd, defScope xs_l_odd, fun _ => true⟩
section
variable {M : Md} {W : WX} {k : Nat} {X : Cx}
theorem xo_l_odd_0 (g : G M xC_l_odd W k X) {pos : Pos} : PE X (.Name "_law_well_here" pos) (tO M W (.sl 0)) := e_sl g.toG0 rfl (by first | exact Or.inl (by decide +kernel) | exact Or.inr (Or.inl (by decide +kernel)) | exact Or.inr (Or.inr (by decide +kernel))) (by decide +kernel) (by decide +kernel)
theorem xo_l_odd_1 (g : G M xC_l_odd W k X) {pos : Pos} : PE X (.Name "_law_choices" pos) (tO M W (.sl 1)) := e_sl g.toG0 rfl (by first | exact Or.inl (by decide +kernel) | exact Or.inr (Or.inl (by decide +kernel)) | exact Or.inr (Or.inr (by decide +kernel))) (by decide +kernel) (by decide +kernel)
theorem xn_l_odd_2 (g : G M xC_l_odd W k X) {pos : Pos} : PE X (.Name "_law_some" pos) (tE M W (nm 2)) := e_nm g.toG0 rfl (by first | exact Or.inl (by decide +kernel) | exact Or.inr (Or.inl (by decide +kernel)) | exact Or.inr (Or.inr (by decide +kernel))) (by decide +kernel) (by decide +kernel)
theorem xw_l_odd (E : Env M) (xh_l_one : FnV M 2 "_law_one" 2 xf_l_one) (hk : 2 ≤ k) (g : G M xC_l_odd W k X) : PSs X (defBody xs_l_odd) (tS M W xb_l_odd) :=
  s_cons (s_set g (i := 2) rfl (by first | exact Or.inl (by decide +kernel) | exact Or.inr (by decide +kernel)) (e_lst (φs := [cst (.str "zzzzzzzz"), cst (.str ""), cst (.str "A"), cst (.str "abcdefghi"), cst .non, cst (.int 0), cst (.bl true), disp mkT [], disp mkT [cst (.str "a")], disp mkL [], app gItem [.sl 1, .ex (cst (.int 0))], app gItem [.sl 1, .ex (app fNeg [.ex (cst (.int 1))])], disp mkT [app gItem [.sl 1, .ex (cst (.int 0))]], cst (.int 9)]) (a_cons (o_ex (e_str)) (a_cons (o_ex (e_str)) (a_cons (o_ex (e_str)) (a_cons (o_ex (e_str)) (a_cons (o_ex (e_non)) (a_cons (o_ex (e_int)) (a_cons (o_ex (e_bl)) (a_cons (o_ex (e_tup (φs := []) (a_nil) (by decide))) (a_cons (o_ex (e_tup (φs := [cst (.str "a")]) (a_cons (o_ex (e_str)) (a_nil) rfl) (by decide))) (a_cons (o_ex (e_lst (φs := []) (a_nil) (by decide))) (a_cons (o_ex (e_gix g.toG0 (xo_l_odd_1 g) (o_ex (e_int)) (by intro _ _; rfl))) (a_cons (o_ex (e_gix g.toG0 (xo_l_odd_1 g) (o_ex (e_un o_neg (o_ex (e_int)))) (by intro _ _; rfl))) (a_cons (o_ex (e_tup (φs := [app gItem [.sl 1, .ex (cst (.int 0))]]) (a_cons (o_ex (e_gix g.toG0 (xo_l_odd_1 g) (o_ex (e_int)) (by intro _ _; rfl))) (a_nil) rfl) (by decide))) (a_cons (o_ex (e_int)) (a_nil) rfl) rfl) rfl) rfl) rfl) rfl) rfl) rfl) rfl) rfl) rfl) rfl) rfl) rfl) (by decide)) rfl (.inl rfl))
  (s_frz (s_one (s_ret (e_call g xh_l_one (Nat.le_trans (by decide) hk) (by decide +kernel) (a_cons (xo_l_odd_0 g) (a_cons (o_ex (xn_l_odd_2 g)) (a_nil) rfl) rfl) rfl (by decide +kernel) rfl rfl))))
theorem xsc_l_odd : FnScope xN_l_odd ["_law_well_here", "_law_choices"] (defScope xs_l_odd) := ⟨rfl, rfl, rfl, by decide +kernel, rfl, by decide +kernel, by decide +kernel⟩
abbrev xF_l_odd (K : PySem.W.Frag) (f : Addr) (fd : FuncData) : Prop := FunD K "_law_odd" "_law_odd" (defArgs xs_l_odd) (defBody xs_l_odd) (defScope xs_l_odd) [] [] f fd
theorem xv_l_odd (hx : M.xn = none) (E : Env M) (xh_l_one : FnV M 2 "_law_one" 2 xf_l_one) {f : Addr} {fd : FuncData} (F : xF_l_odd M.K f fd) (hm : M.mg "_law_odd" = some (.ref f)) : FnV M 3 "_law_odd" 2 xf_l_odd :=
  ⟨f, fd, ["_law_well_here", "_law_choices"], fn_ok hx (k := 2) F xsc_l_odd (fun X W g => xw_l_odd E xh_l_one (Nat.le_refl _) g), hm, F.kp, rfl, F.bindsN fun _ _ _ _ _ _ us hl => match us, hl with | [_, _], _ => rfl⟩
end
/-! ### _law_bent -/
abbrev xN_l_bent_2 : List Str := ["_law_well_here", "_law_slip", "_law_choices", "_law_way", "_law_odd_here", "_law_at", "_law_piece", "_law_word", "_law_things", "_law_some", "_law_spot", "_law_mark"]
abbrev xC_l_bent_2 : Cs := ⟨xN_l_bent_2, defScope xs_l_bent_2, fun _ => true⟩
section
variable {M : Md} {W : WX} {k : Nat} {X : Cx}
theorem xo_l_bent_2_0 (g : G M xC_l_bent_2 W k X) {pos : Pos} : PE X (.Name "_law_well_here" pos) (tO M W (.sl 0)) := e_sl g.toG0 rfl (by first | exact Or.inl (by decide +kernel) | exact Or.inr (Or.inl (by decide +kernel)) | exact Or.inr (Or.inr (by decide +kernel))) (by decide +kernel) (by decide +kernel)
theorem xn_l_bent_2_1 (g : G M xC_l_bent_2 W k X) {pos : Pos} : PE X (.Name "_law_slip" pos) (tE M W (nm 1)) := e_nm g.toG0 rfl (by first | exact Or.inl (by decide +kernel) | exact Or.inr (Or.inl (by decide +kernel)) | exact Or.inr (Or.inr (by decide +kernel))) (by decide +kernel) (by decide +kernel)
theorem xn_l_bent_2_2 (g : G M xC_l_bent_2 W k X) {pos : Pos} : PE X (.Name "_law_choices" pos) (tE M W (nm 2)) := e_nm g.toG0 rfl (by first | exact Or.inl (by decide +kernel) | exact Or.inr (Or.inl (by decide +kernel)) | exact Or.inr (Or.inr (by decide +kernel))) (by decide +kernel) (by decide +kernel)
theorem xo_l_bent_2_3 (g : G M xC_l_bent_2 W k X) {pos : Pos} : PE X (.Name "_law_way" pos) (tO M W (.sl 3)) := e_sl g.toG0 rfl (by first | exact Or.inl (by decide +kernel) | exact Or.inr (Or.inl (by decide +kernel)) | exact Or.inr (Or.inr (by decide +kernel))) (by decide +kernel) (by decide +kernel)
theorem xn_l_bent_2_4 (g : G M xC_l_bent_2 W k X) {pos : Pos} : PE X (.Name "_law_odd_here" pos) (tE M W (nm 4)) := e_nm g.toG0 rfl (by first | exact Or.inl (by decide +kernel) | exact Or.inr (Or.inl (by decide +kernel)) | exact Or.inr (Or.inr (by decide +kernel))) (by decide +kernel) (by decide +kernel)
theorem xo_l_bent_2_5 (g : G M xC_l_bent_2 W k X) {pos : Pos} : PE X (.Name "_law_at" pos) (tO M W (.sl 5)) := e_sl g.toG0 rfl (by first | exact Or.inl (by decide +kernel) | exact Or.inr (Or.inl (by decide +kernel)) | exact Or.inr (Or.inr (by decide +kernel))) (by decide +kernel) (by decide +kernel)
theorem xn_l_bent_2_5 (g : G M xC_l_bent_2 W k X) {pos : Pos} : PE X (.Name "_law_at" pos) (tE M W (nm 5)) := e_nm g.toG0 rfl (by first | exact Or.inl (by decide +kernel) | exact Or.inr (Or.inl (by decide +kernel)) | exact Or.inr (Or.inr (by decide +kernel))) (by decide +kernel) (by decide +kernel)
theorem xo_l_bent_2_6 (g : G M xC_l_bent_2 W k X) {pos : Pos} : PE X (.Name "_law_piece" pos) (tO M W (.sl 6)) := e_sl g.toG0 rfl (by first | exact Or.inl (by decide +kernel) | exact Or.inr (Or.inl (by decide +kernel)) | exact Or.inr (Or.inr (by decide +kernel))) (by decide +kernel) (by decide +kernel)
theorem xn_l_bent_2_6 (g : G M xC_l_bent_2 W k X) {pos : Pos} : PE X (.Name "_law_piece" pos) (tE M W (nm 6)) := e_nm g.toG0 rfl (by first | exact Or.inl (by decide +kernel) | exact Or.inr (Or.inl (by decide +kernel)) | exact Or.inr (Or.inr (by decide +kernel))) (by decide +kernel) (by decide +kernel)
theorem xo_l_bent_2_7 (g : G M xC_l_bent_2 W k X) {pos : Pos} : PE X (.Name "_law_word" pos) (tO M W (.sl 7)) := e_sl g.toG0 rfl (by first | exact Or.inl (by decide +kernel) | exact Or.inr (Or.inl (by decide +kernel)) | exact Or.inr (Or.inr (by decide +kernel))) (by decide +kernel) (by decide +kernel)
theorem xn_l_bent_2_7 (g : G M xC_l_bent_2 W k X) {pos : Pos} : PE X (.Name "_law_word" pos) (tE M W (nm 7)) := e_nm g.toG0 rfl (by first | exact Or.inl (by decide +kernel) | exact Or.inr (Or.inl (by decide +kernel)) | exact Or.inr (Or.inr (by decide +kernel))) (by decide +kernel) (by decide +kernel)
theorem xo_l_bent_2_8 (g : G M xC_l_bent_2 W k X) {pos : Pos} : PE X (.Name "_law_things" pos) (tO M W (.sl 8)) := e_sl g.toG0 rfl (by first | exact Or.inl (by decide +kernel) | exact Or.inr (Or.inl (by decide +kernel)) | exact Or.inr (Or.inr (by decide +kernel))) (by decide +kernel) (by decide +kernel)
theorem xn_l_bent_2_8 (g : G M xC_l_bent_2 W k X) {pos : Pos} : PE X (.Name "_law_things" pos) (tE M W (nm 8)) := e_nm g.toG0 rfl (by first | exact Or.inl (by decide +kernel) | exact Or.inr (Or.inl (by decide +kernel)) | exact Or.inr (Or.inr (by decide +kernel))) (by decide +kernel) (by decide +kernel)
theorem xo_l_bent_2_9 (g : G M xC_l_bent_2 W k X) {pos : Pos} : PE X (.Name "_law_some" pos) (tO M W (.sl 9)) := e_sl g.toG0 rfl (by first | exact Or.inl (by decide +kernel) | exact Or.inr (Or.inl (by decide +kernel)) | exact Or.inr (Or.inr (by decide +kernel))) (by decide +kernel) (by decide +kernel)
theorem xo_l_bent_2_10 (g : G M xC_l_bent_2 W k X) {pos : Pos} : PE X (.Name "_law_spot" pos) (tO M W (.sl 10)) := e_sl g.toG0 rfl (by first | exact Or.inl (by decide +kernel) | exact Or.inr (Or.inl (by decide +kernel)) | exact Or.inr (Or.inr (by decide +kernel))) (by decide +kernel) (by decide +kernel)
theorem xn_l_bent_2_10 (g : G M xC_l_bent_2 W k X) {pos : Pos} : PE X (.Name "_law_spot" pos) (tE M W (nm 10)) := e_nm g.toG0 rfl (by first | exact Or.inl (by decide +kernel) | exact Or.inr (Or.inl (by decide +kernel)) | exact Or.inr (Or.inr (by decide +kernel))) (by decide +kernel) (by decide +kernel)
theorem xn_l_bent_2_11 (g : G M xC_l_bent_2 W k X) {pos : Pos} : PE X (.Name "_law_mark" pos) (tE M W (nm 11)) := e_nm g.toG0 rfl (by first | exact Or.inl (by decide +kernel) | exact Or.inr (Or.inl (by decide +kernel)) | exact Or.inr (Or.inr (by decide +kernel))) (by decide +kernel) (by decide +kernel)
theorem xw_l_bent_2 (E : Env M) (xh_l_draw : FnV M 1 "_law_draw" 2 xf_l_draw) (xh_l_odd : FnV M 3 "_law_odd" 2 xf_l_odd) (xh_l_one : FnV M 2 "_law_one" 2 xf_l_one) (hk : 3 ≤ k) (g : G M xC_l_bent_2 W k X) : PSs X (defBody xs_l_bent_2) (tS M W xb_l_bent_2) :=
  s_cons (s_put g (xn_l_bent_2_1 g) (p_tup g (ps_cons (p_nm g (i := 7) rfl (by first | exact Or.inl (by decide +kernel) | exact Or.inr (by decide +kernel)) (.inl rfl)) (ps_cons (p_nm g (i := 8) rfl (by first | exact Or.inl (by decide +kernel) | exact Or.inr (by decide +kernel)) (.inl rfl)) (ps_nil) rfl) rfl) rfl rfl) rfl rfl rfl)
  (s_cons (s_set g (i := 3) rfl (by first | exact Or.inl (by decide +kernel) | exact Or.inr (by decide +kernel)) (e_call g xh_l_draw (Nat.le_trans (by decide) hk) (by decide +kernel) (a_cons (xo_l_bent_2_0 g) (a_cons (o_ex (e_int)) (a_nil) rfl) rfl) rfl (by decide +kernel) rfl rfl) rfl (.inl rfl))
  (s_frz (s_cons (s_set g (i := 4) rfl (by first | exact Or.inl (by decide +kernel) | exact Or.inr (by decide +kernel)) (e_call g xh_l_odd (Nat.le_trans (by decide) hk) (by decide +kernel) (a_cons (xo_l_bent_2_0 g) (a_cons (o_ex (xn_l_bent_2_2 g)) (a_nil) rfl) rfl) rfl (by decide +kernel) rfl rfl) rfl (.inl rfl))
  (s_frz (s_cons (s_if (t_cmp (o_eq g.hK g.hu) (xo_l_bent_2_3 g) (o_ex (e_int)) rfl) (s_cons (s_set g (i := 9) rfl (by first | exact Or.inl (by decide +kernel) | exact Or.inr (by decide +kernel)) (e_lst (φs := [cst .non, cst (.str "order"), disp mkT [nm 7], disp mkT [nm 7, nm 8, disp mkT []], disp mkL [nm 7, nm 8], disp mkT [], disp mkT [nm 8, nm 7], nm 7]) (a_cons (o_ex (e_non)) (a_cons (o_ex (e_str)) (a_cons (o_ex (e_tup (φs := [nm 7]) (a_cons (o_ex (xn_l_bent_2_7 g)) (a_nil) rfl) (by decide))) (a_cons (o_ex (e_tup (φs := [nm 7, nm 8, disp mkT []]) (a_cons (o_ex (xn_l_bent_2_7 g)) (a_cons (o_ex (xn_l_bent_2_8 g)) (a_cons (o_ex (e_tup (φs := []) (a_nil) (by decide))) (a_nil) rfl) rfl) rfl) (by decide))) (a_cons (o_ex (e_lst (φs := [nm 7, nm 8]) (a_cons (o_ex (xn_l_bent_2_7 g)) (a_cons (o_ex (xn_l_bent_2_8 g)) (a_nil) rfl) rfl) (by decide))) (a_cons (o_ex (e_tup (φs := []) (a_nil) (by decide))) (a_cons (o_ex (e_tup (φs := [nm 8, nm 7]) (a_cons (o_ex (xn_l_bent_2_8 g)) (a_cons (o_ex (xn_l_bent_2_7 g)) (a_nil) rfl) rfl) (by decide))) (a_cons (o_ex (xn_l_bent_2_7 g)) (a_nil) rfl) rfl) rfl) rfl) rfl) rfl) rfl) rfl) (by decide)) rfl (.inl rfl))
  (s_frz (s_one (s_ret (e_call g xh_l_one (Nat.le_trans (by decide) hk) (by decide +kernel) (a_cons (xo_l_bent_2_0 g) (a_cons (o_ex (e_bin (o_add g.hK) (xo_l_bent_2_9 g) (o_ex (e_lst (φs := [disp mkT [nm 7, app fList [.sl 8]]]) (a_cons (o_ex (e_tup (φs := [nm 7, app fList [.sl 8]]) (a_cons (o_ex (xn_l_bent_2_7 g)) (a_cons (o_ex (e_callTy g.toG0 (f := fList) ((c_list g.hK)) (by decide +kernel) E.b_list boot_list (a_cons (xo_l_bent_2_8 g) (a_nil) rfl) (by decide +kernel) (by decide +kernel) rfl rfl)) (a_nil) rfl) rfl) (by decide))) (a_nil) rfl) (by decide))))) (a_nil) rfl) rfl) rfl (by decide +kernel) rfl rfl))))) s_nil)
  (s_cons (s_if (t_cmp (o_eq g.hK g.hu) (xo_l_bent_2_3 g) (o_ex (e_int)) rfl) (s_one (s_ret (e_tup (φs := [callF xf_l_one [.sl 0, .ex (disp mkL [cst (.str "order"), cst (.str "lets"), cst (.str "marks"), cst (.str "Order"), cst (.str ""), cst .non, cst (.str "ranks"), disp mkT [cst (.str "order")]])] [], nm 8]) (a_cons (o_ex (e_call g xh_l_one (Nat.le_trans (by decide) hk) (by decide +kernel) (a_cons (xo_l_bent_2_0 g) (a_cons (o_ex (e_lst (φs := [cst (.str "order"), cst (.str "lets"), cst (.str "marks"), cst (.str "Order"), cst (.str ""), cst .non, cst (.str "ranks"), disp mkT [cst (.str "order")]]) (a_cons (o_ex (e_str)) (a_cons (o_ex (e_str)) (a_cons (o_ex (e_str)) (a_cons (o_ex (e_str)) (a_cons (o_ex (e_str)) (a_cons (o_ex (e_non)) (a_cons (o_ex (e_str)) (a_cons (o_ex (e_tup (φs := [cst (.str "order")]) (a_cons (o_ex (e_str)) (a_nil) rfl) (by decide))) (a_nil) rfl) rfl) rfl) rfl) rfl) rfl) rfl) rfl) (by decide))) (a_nil) rfl) rfl) rfl (by decide +kernel) rfl rfl)) (a_cons (o_ex (xn_l_bent_2_8 g)) (a_nil) rfl) rfl) (by decide)))) s_nil)
  (s_cons (s_if (t_w (w_or (t_cmp (o_eq g.hK g.hu) (xo_l_bent_2_8 g) (o_ex (e_tup (φs := []) (a_nil) (by decide))) rfl) (w_or1 (t_cmp (o_eq g.hK g.hu) (xo_l_bent_2_3 g) (o_ex (e_int)) rfl)))) (s_cons (s_set g (i := 5) rfl (by first | exact Or.inl (by decide +kernel) | exact Or.inr (by decide +kernel)) (e_call g xh_l_draw (Nat.le_trans (by decide) hk) (by decide +kernel) (a_cons (xo_l_bent_2_0 g) (a_cons (o_ex (e_bin (o_add g.hK) (o_ex (e_callB g.toG0 (f := gLen) (c_glen g.hK) (by decide +kernel) E.b_len boot_len (a_cons (xo_l_bent_2_8 g) (a_nil) rfl) (by decide +kernel) (by decide +kernel) rfl rfl)) (o_ex (e_int)))) (a_nil) rfl) rfl) rfl (by decide +kernel) rfl rfl) rfl (.inl rfl))
  (s_frz (s_one (s_ret (e_tup (φs := [nm 7, app fAdd [.ex (app fAdd [.ex (slc (.sl 8) none (some (.ex (nm 5)))), .ex (disp mkT [nm 4])]), .ex (slc (.sl 8) (some (.ex (nm 5))) none)]]) (a_cons (o_ex (xn_l_bent_2_7 g)) (a_cons (o_ex (e_bin (o_add g.hK) (o_ex (e_bin (o_add g.hK) (o_ex (e_slc g.toG0 (ol := none) (oh := (some (.ex (nm 5)))) (xo_l_bent_2_8 g) trivial (o_ex (xn_l_bent_2_5 g)))) (o_ex (e_tup (φs := [nm 4]) (a_cons (o_ex (xn_l_bent_2_4 g)) (a_nil) rfl) (by decide))))) (o_ex (e_slc g.toG0 (ol := (some (.ex (nm 5)))) (oh := none) (xo_l_bent_2_8 g) (o_ex (xn_l_bent_2_5 g)) trivial)))) (a_nil) rfl) rfl) (by decide)))))) s_nil)
  (s_cons (s_set g (i := 5) rfl (by first | exact Or.inl (by decide +kernel) | exact Or.inr (by decide +kernel)) (e_call g xh_l_draw (Nat.le_trans (by decide) hk) (by decide +kernel) (a_cons (xo_l_bent_2_0 g) (a_cons (o_ex (e_callB g.toG0 (f := gLen) (c_glen g.hK) (by decide +kernel) E.b_len boot_len (a_cons (xo_l_bent_2_8 g) (a_nil) rfl) (by decide +kernel) (by decide +kernel) rfl rfl)) (a_nil) rfl) rfl) rfl (by decide +kernel) rfl rfl) rfl (.inl rfl))
  (s_frz (s_cons (s_set g (i := 6) rfl (by first | exact Or.inl (by decide +kernel) | exact Or.inr (by decide +kernel)) (e_gix g.toG0 (xo_l_bent_2_8 g) (xo_l_bent_2_5 g) (by intro _ _; rfl)) rfl (.inl rfl))
  (s_frz (s_cons (s_if (t_cmp (o_eq g.hK g.hu) (xo_l_bent_2_3 g) (o_ex (e_int)) rfl) (s_one (s_ret (e_tup (φs := [nm 7, app fAdd [.ex (app fAdd [.ex (slc (.sl 8) none (some (.ex (nm 5)))), .ex (app fMulT [.ex (slc (.sl 8) (some (.ex (nm 5))) (some (.ex (app fAdd [.sl 5, .ex (cst (.int 1))])))), .ex (cst (.int 2))])]), .ex (slc (.sl 8) (some (.ex (app fAdd [.sl 5, .ex (cst (.int 1))]))) none)]]) (a_cons (o_ex (xn_l_bent_2_7 g)) (a_cons (o_ex (e_bin (o_add g.hK) (o_ex (e_bin (o_add g.hK) (o_ex (e_slc g.toG0 (ol := none) (oh := (some (.ex (nm 5)))) (xo_l_bent_2_8 g) trivial (o_ex (xn_l_bent_2_5 g)))) (o_ex (e_bin (o_mulT g.hK) (o_ex (e_slc g.toG0 (ol := (some (.ex (nm 5)))) (oh := (some (.ex (app fAdd [.sl 5, .ex (cst (.int 1))])))) (xo_l_bent_2_8 g) (o_ex (xn_l_bent_2_5 g)) (o_ex (e_bin (o_add g.hK) (xo_l_bent_2_5 g) (o_ex (e_int)))))) (o_ex (e_int)))))) (o_ex (e_slc g.toG0 (ol := (some (.ex (app fAdd [.sl 5, .ex (cst (.int 1))])))) (oh := none) (xo_l_bent_2_8 g) (o_ex (e_bin (o_add g.hK) (xo_l_bent_2_5 g) (o_ex (e_int)))) trivial)))) (a_nil) rfl) rfl) (by decide)))) s_nil)
  (s_cons (s_if (t_w (w_and (t_cmp (o_eq g.hK g.hu) (xo_l_bent_2_3 g) (o_ex (e_int)) rfl) (w_and1 (t_tru g.toG0 (o_ex (e_isi g.toG0 (by decide +kernel) E.b_isinstance (by decide +kernel) E.b_tuple boot_tuple (by decide +kernel) (by decide +kernel) (xo_l_bent_2_6 g) rfl)) (by intro _; rfl))))) (s_cons (s_set g (i := 10) rfl (by first | exact Or.inl (by decide +kernel) | exact Or.inr (by decide +kernel)) (e_call g xh_l_draw (Nat.le_trans (by decide) hk) (by decide +kernel) (a_cons (xo_l_bent_2_0 g) (a_cons (o_ex (e_callB g.toG0 (f := gLen) (c_glen g.hK) (by decide +kernel) E.b_len boot_len (a_cons (xo_l_bent_2_6 g) (a_nil) rfl) (by decide +kernel) (by decide +kernel) rfl rfl)) (a_nil) rfl) rfl) rfl (by decide +kernel) rfl rfl) rfl (.inl rfl))
  (s_frz (s_one (s_ret (e_tup (φs := [nm 7, app fAdd [.ex (app fAdd [.ex (slc (.sl 8) none (some (.ex (nm 5)))), .ex (disp mkT [app fAdd [.ex (app fAdd [.ex (slc (.sl 6) none (some (.ex (nm 10)))), .ex (disp mkT [nm 4])]), .ex (slc (.sl 6) (some (.ex (app fAdd [.sl 10, .ex (cst (.int 1))]))) none)]])]), .ex (slc (.sl 8) (some (.ex (app fAdd [.sl 5, .ex (cst (.int 1))]))) none)]]) (a_cons (o_ex (xn_l_bent_2_7 g)) (a_cons (o_ex (e_bin (o_add g.hK) (o_ex (e_bin (o_add g.hK) (o_ex (e_slc g.toG0 (ol := none) (oh := (some (.ex (nm 5)))) (xo_l_bent_2_8 g) trivial (o_ex (xn_l_bent_2_5 g)))) (o_ex (e_tup (φs := [app fAdd [.ex (app fAdd [.ex (slc (.sl 6) none (some (.ex (nm 10)))), .ex (disp mkT [nm 4])]), .ex (slc (.sl 6) (some (.ex (app fAdd [.sl 10, .ex (cst (.int 1))]))) none)]]) (a_cons (o_ex (e_bin (o_add g.hK) (o_ex (e_bin (o_add g.hK) (o_ex (e_slc g.toG0 (ol := none) (oh := (some (.ex (nm 10)))) (xo_l_bent_2_6 g) trivial (o_ex (xn_l_bent_2_10 g)))) (o_ex (e_tup (φs := [nm 4]) (a_cons (o_ex (xn_l_bent_2_4 g)) (a_nil) rfl) (by decide))))) (o_ex (e_slc g.toG0 (ol := (some (.ex (app fAdd [.sl 10, .ex (cst (.int 1))])))) (oh := none) (xo_l_bent_2_6 g) (o_ex (e_bin (o_add g.hK) (xo_l_bent_2_10 g) (o_ex (e_int)))) trivial)))) (a_nil) rfl) (by decide))))) (o_ex (e_slc g.toG0 (ol := (some (.ex (app fAdd [.sl 5, .ex (cst (.int 1))])))) (oh := none) (xo_l_bent_2_8 g) (o_ex (e_bin (o_add g.hK) (xo_l_bent_2_5 g) (o_ex (e_int)))) trivial)))) (a_nil) rfl) rfl) (by decide)))))) s_nil)
  (s_cons (s_if (t_w (w_and (t_cmp (o_eq g.hK g.hu) (xo_l_bent_2_3 g) (o_ex (e_int)) rfl) (w_and1 (t_tru g.toG0 (o_ex (e_isi g.toG0 (by decide +kernel) E.b_isinstance (by decide +kernel) E.b_tuple boot_tuple (by decide +kernel) (by decide +kernel) (xo_l_bent_2_6 g) rfl)) (by intro _; rfl))))) (s_cons (s_set g (i := 6) rfl (by first | exact Or.inl (by decide +kernel) | exact Or.inr (by decide +kernel)) (e_call g xh_l_one (Nat.le_trans (by decide) hk) (by decide +kernel) (a_cons (xo_l_bent_2_0 g) (a_cons (o_ex (e_lst (φs := [app fAdd [.sl 6, .ex (disp mkT [nm 4])], slc (.sl 6) (some (.ex (cst (.int 1)))) none, app fList [.sl 6], app fAdd [.sl 6, .sl 6], disp mkT []]) (a_cons (o_ex (e_bin (o_add g.hK) (xo_l_bent_2_6 g) (o_ex (e_tup (φs := [nm 4]) (a_cons (o_ex (xn_l_bent_2_4 g)) (a_nil) rfl) (by decide))))) (a_cons (o_ex (e_slc g.toG0 (ol := (some (.ex (cst (.int 1))))) (oh := none) (xo_l_bent_2_6 g) (o_ex (e_int)) trivial)) (a_cons (o_ex (e_callTy g.toG0 (f := fList) ((c_list g.hK)) (by decide +kernel) E.b_list boot_list (a_cons (xo_l_bent_2_6 g) (a_nil) rfl) (by decide +kernel) (by decide +kernel) rfl rfl)) (a_cons (o_ex (e_bin (o_add g.hK) (xo_l_bent_2_6 g) (xo_l_bent_2_6 g))) (a_cons (o_ex (e_tup (φs := []) (a_nil) (by decide))) (a_nil) rfl) rfl) rfl) rfl) rfl) (by decide))) (a_nil) rfl) rfl) rfl (by decide +kernel) rfl rfl) rfl (.inl rfl))
  (s_frz (s_one (s_ret (e_tup (φs := [nm 7, app fAdd [.ex (app fAdd [.ex (slc (.sl 8) none (some (.ex (nm 5)))), .ex (disp mkT [nm 6])]), .ex (slc (.sl 8) (some (.ex (app fAdd [.sl 5, .ex (cst (.int 1))]))) none)]]) (a_cons (o_ex (xn_l_bent_2_7 g)) (a_cons (o_ex (e_bin (o_add g.hK) (o_ex (e_bin (o_add g.hK) (o_ex (e_slc g.toG0 (ol := none) (oh := (some (.ex (nm 5)))) (xo_l_bent_2_8 g) trivial (o_ex (xn_l_bent_2_5 g)))) (o_ex (e_tup (φs := [nm 6]) (a_cons (o_ex (xn_l_bent_2_6 g)) (a_nil) rfl) (by decide))))) (o_ex (e_slc g.toG0 (ol := (some (.ex (app fAdd [.sl 5, .ex (cst (.int 1))])))) (oh := none) (xo_l_bent_2_8 g) (o_ex (e_bin (o_add g.hK) (xo_l_bent_2_5 g) (o_ex (e_int)))) trivial)))) (a_nil) rfl) rfl) (by decide)))))) s_nil)
  (s_cons (s_if (t_w (w_and (t_cmp (o_eq g.hK g.hu) (xo_l_bent_2_3 g) (o_ex (e_int)) rfl) (w_and1 (t_cmp (o_eq g.hK g.hu) (xo_l_bent_2_7 g) (o_ex (e_str)) rfl)))) (s_cons (s_set g (i := 11) rfl (by first | exact Or.inl (by decide +kernel) | exact Or.inr (by decide +kernel)) (e_call g xh_l_one (Nat.le_trans (by decide) hk) (by decide +kernel) (a_cons (xo_l_bent_2_0 g) (a_cons (o_ex (e_lst (φs := [cst (.int 10), app fNeg [.ex (cst (.int 1))], cst (.bl true), cst (.str "3"), cst .non, cst (.int 9), cst (.int 0), app fPow [.ex (cst (.int 10)), .ex (cst (.int 30))], disp mkT [cst (.int 3)]]) (a_cons (o_ex (e_int)) (a_cons (o_ex (e_un o_neg (o_ex (e_int)))) (a_cons (o_ex (e_bl)) (a_cons (o_ex (e_str)) (a_cons (o_ex (e_non)) (a_cons (o_ex (e_int)) (a_cons (o_ex (e_int)) (a_cons (o_ex (e_bin o_pow (o_ex (e_int)) (o_ex (e_int)))) (a_cons (o_ex (e_tup (φs := [cst (.int 3)]) (a_cons (o_ex (e_int)) (a_nil) rfl) (by decide))) (a_nil) rfl) rfl) rfl) rfl) rfl) rfl) rfl) rfl) rfl) (by decide))) (a_nil) rfl) rfl) rfl (by decide +kernel) rfl rfl) rfl (.inl rfl))
  (s_frz (s_one (s_ret (e_tup (φs := [nm 7, app fAdd [.ex (app fAdd [.ex (slc (.sl 8) none (some (.ex (nm 5)))), .ex (disp mkT [disp mkT [app gItem [.sl 6, .ex (cst (.int 0))], nm 11]])]), .ex (slc (.sl 8) (some (.ex (app fAdd [.sl 5, .ex (cst (.int 1))]))) none)]]) (a_cons (o_ex (xn_l_bent_2_7 g)) (a_cons (o_ex (e_bin (o_add g.hK) (o_ex (e_bin (o_add g.hK) (o_ex (e_slc g.toG0 (ol := none) (oh := (some (.ex (nm 5)))) (xo_l_bent_2_8 g) trivial (o_ex (xn_l_bent_2_5 g)))) (o_ex (e_tup (φs := [disp mkT [app gItem [.sl 6, .ex (cst (.int 0))], nm 11]]) (a_cons (o_ex (e_tup (φs := [app gItem [.sl 6, .ex (cst (.int 0))], nm 11]) (a_cons (o_ex (e_gix g.toG0 (xo_l_bent_2_6 g) (o_ex (e_int)) (by intro _ _; rfl))) (a_cons (o_ex (xn_l_bent_2_11 g)) (a_nil) rfl) rfl) (by decide))) (a_nil) rfl) (by decide))))) (o_ex (e_slc g.toG0 (ol := (some (.ex (app fAdd [.sl 5, .ex (cst (.int 1))])))) (oh := none) (xo_l_bent_2_8 g) (o_ex (e_bin (o_add g.hK) (xo_l_bent_2_5 g) (o_ex (e_int)))) trivial)))) (a_nil) rfl) rfl) (by decide)))))) s_nil)
  (s_one (s_ret (e_tup (φs := [nm 7, app fAdd [.ex (app fAdd [.ex (slc (.sl 8) none (some (.ex (nm 5)))), .ex (disp mkT [nm 4])]), .ex (slc (.sl 8) (some (.ex (app fAdd [.sl 5, .ex (cst (.int 1))]))) none)]]) (a_cons (o_ex (xn_l_bent_2_7 g)) (a_cons (o_ex (e_bin (o_add g.hK) (o_ex (e_bin (o_add g.hK) (o_ex (e_slc g.toG0 (ol := none) (oh := (some (.ex (nm 5)))) (xo_l_bent_2_8 g) trivial (o_ex (xn_l_bent_2_5 g)))) (o_ex (e_tup (φs := [nm 4]) (a_cons (o_ex (xn_l_bent_2_4 g)) (a_nil) rfl) (by decide))))) (o_ex (e_slc g.toG0 (ol := (some (.ex (app fAdd [.sl 5, .ex (cst (.int 1))])))) (oh := none) (xo_l_bent_2_8 g) (o_ex (e_bin (o_add g.hK) (xo_l_bent_2_5 g) (o_ex (e_int)))) trivial)))) (a_nil) rfl) rfl) (by decide)))))))))))))))))))
theorem xsc_l_bent_2 : FnScope xN_l_bent_2 ["_law_well_here", "_law_slip", "_law_choices"] (defScope xs_l_bent_2) := ⟨rfl, rfl, rfl, by decide +kernel, rfl, by decide +kernel, by decide +kernel⟩
abbrev xF_l_bent_2 (K : PySem.W.Frag) (f : Addr) (fd : FuncData) : Prop := FunD K "_law_bent" "_law_bent" (defArgs xs_l_bent_2) (defBody xs_l_bent_2) (defScope xs_l_bent_2) [] [] f fd
theorem xv_l_bent_2 (hx : M.xn = none) (E : Env M) (xh_l_draw : FnV M 1 "_law_draw" 2 xf_l_draw) (xh_l_odd : FnV M 3 "_law_odd" 2 xf_l_odd) (xh_l_one : FnV M 2 "_law_one" 2 xf_l_one) {f : Addr} {fd : FuncData} (F : xF_l_bent_2 M.K f fd) (hm : M.mg "_law_bent" = some (.ref f)) : FnV M 4 "_law_bent" 3 xf_l_bent_2 :=
  ⟨f, fd, ["_law_well_here", "_law_slip", "_law_choices"], fn_ok hx (k := 3) F xsc_l_bent_2 (fun X W g => xw_l_bent_2 E xh_l_draw xh_l_odd xh_l_one (Nat.le_refl _) g), hm, F.kp, rfl, F.bindsN fun _ _ _ _ _ _ us hl => match us, hl with | [_, _, _], _ => rfl⟩
end
/-! ### _law_are_names -/
abbrev xN_l_are_names : List Str := ["_law_some", "_law_choices", "_law_found", "_law_unlike", "_law_one_here", "_law_k"]
abbrev xC_l_are_names : Cs := ⟨xN_l_are_names, defScope xs_l_are_names, fun _ => true⟩
section
variable {M : Md} {W : WX} {k : Nat} {X : Cx}
theorem xo_l_are_names_0 (g : G M xC_l_are_names W k X) {pos : Pos} : PE X (.Name "_law_some" pos) (tO M W (.sl 0)) := e_sl g.toG0 rfl (by first | exact Or.inl (by decide +kernel) | exact Or.inr (Or.inl (by decide +kernel)) | exact Or.inr (Or.inr (by decide +kernel))) (by decide +kernel) (by decide +kernel)
theorem xn_l_are_names_0 (g : G M xC_l_are_names W k X) {pos : Pos} : PE X (.Name "_law_some" pos) (tE M W (nm 0)) := e_nm g.toG0 rfl (by first | exact Or.inl (by decide +kernel) | exact Or.inr (Or.inl (by decide +kernel)) | exact Or.inr (Or.inr (by decide +kernel))) (by decide +kernel) (by decide +kernel)
theorem xo_l_are_names_2 (g : G M xC_l_are_names W k X) {pos : Pos} : PE X (.Name "_law_found" pos) (tO M W (.sl 2)) := e_sl g.toG0 rfl (by first | exact Or.inl (by decide +kernel) | exact Or.inr (Or.inl (by decide +kernel)) | exact Or.inr (Or.inr (by decide +kernel))) (by decide +kernel) (by decide +kernel)
theorem xo_l_are_names_3 (g : G M xC_l_are_names W k X) {pos : Pos} : PE X (.Name "_law_unlike" pos) (tO M W (.sl 3)) := e_sl g.toG0 rfl (by first | exact Or.inl (by decide +kernel) | exact Or.inr (Or.inl (by decide +kernel)) | exact Or.inr (Or.inr (by decide +kernel))) (by decide +kernel) (by decide +kernel)
theorem xw_l_are_names (E : Env M)  (hk : 0 ≤ k) (g : G M xC_l_are_names W k X) : PSs X (defBody xs_l_are_names) (tS M W xb_l_are_names) :=
  s_cons (s_setLc g (i := 2) (own := [("_law_one_here", 4)]) rfl (by decide +kernel) rfl rfl (by decide +kernel) (i_seq g (o_ex (xn_l_are_names_0 g))) (by decide +kernel) rfl ⟨fun X g => p_nm g (i := 4) rfl (by first | exact Or.inl (by decide +kernel) | exact Or.inr (by decide +kernel)) (by first | exact .inr (by decide +kernel) | exact .inl (by decide +kernel)), fun X g => ts_one (t_w (w_or (t_not (t_tru g.toG0 (o_ex (e_isi g.toG0 (by decide +kernel) E.b_isinstance (by decide +kernel) E.b_str boot_str (by decide +kernel) (by decide +kernel) (e_sl g.toG0 (i := 4) (x := "_law_one_here") rfl (by first | exact Or.inl (by decide +kernel) | exact Or.inr (Or.inl (by decide +kernel)) | exact Or.inr (Or.inr (by decide +kernel))) (by decide +kernel) (by decide +kernel)) rfl)) (by intro _; rfl))) (w_or1 (t_cmp (o_gnotin g.hK g.hu) (e_sl g.toG0 (i := 4) (x := "_law_one_here") rfl (by first | exact Or.inl (by decide +kernel) | exact Or.inr (Or.inl (by decide +kernel)) | exact Or.inr (Or.inr (by decide +kernel))) (by decide +kernel) (by decide +kernel)) (e_sl g.toG0 (i := 1) (x := "_law_choices") rfl (by first | exact Or.inl (by decide +kernel) | exact Or.inr (Or.inl (by decide +kernel)) | exact Or.inr (Or.inr (by decide +kernel))) (by decide +kernel) (by decide +kernel)) rfl)))), fun X g => e_nm g.toG0 (i := 4) (x := "_law_one_here") rfl (by first | exact Or.inl (by decide +kernel) | exact Or.inr (Or.inl (by decide +kernel)) | exact Or.inr (Or.inr (by decide +kernel))) (by decide +kernel) (by decide +kernel)⟩ (by intro _; rfl))
  (s_frz (s_cons (s_setLc g (i := 3) (own := [("_law_k", 5), ("_law_one_here", 4)]) rfl (by decide +kernel) rfl rfl (by decide +kernel) (i_enumG g (by decide +kernel) E.b_enumerate (a_cons (o_ex (xn_l_are_names_0 g)) (a_nil) rfl) rfl) (by decide +kernel) rfl ⟨fun X g => p_tup g (ps_cons (p_nm g (i := 5) rfl (by first | exact Or.inl (by decide +kernel) | exact Or.inr (by decide +kernel)) (by first | exact .inr (by decide +kernel) | exact .inl (by decide +kernel))) (ps_cons (p_nm g (i := 4) rfl (by first | exact Or.inl (by decide +kernel) | exact Or.inr (by decide +kernel)) (by first | exact .inr (by decide +kernel) | exact .inl (by decide +kernel))) (ps_nil) rfl) rfl) rfl rfl, fun X g => ts_one (t_cmp (o_gnotin g.hK g.hu) (e_sl g.toG0 (i := 4) (x := "_law_one_here") rfl (by first | exact Or.inl (by decide +kernel) | exact Or.inr (Or.inl (by decide +kernel)) | exact Or.inr (Or.inr (by decide +kernel))) (by decide +kernel) (by decide +kernel)) (o_ex (e_slc g.toG0 (ol := none) (oh := (some (.ex (nm 5)))) (e_sl g.toG0 (i := 0) (x := "_law_some") rfl (by first | exact Or.inl (by decide +kernel) | exact Or.inr (Or.inl (by decide +kernel)) | exact Or.inr (Or.inr (by decide +kernel))) (by decide +kernel) (by decide +kernel)) trivial (o_ex (e_nm g.toG0 (i := 5) (x := "_law_k") rfl (by first | exact Or.inl (by decide +kernel) | exact Or.inr (Or.inl (by decide +kernel)) | exact Or.inr (Or.inr (by decide +kernel))) (by decide +kernel) (by decide +kernel))))) rfl), fun X g => e_nm g.toG0 (i := 4) (x := "_law_one_here") rfl (by first | exact Or.inl (by decide +kernel) | exact Or.inr (Or.inl (by decide +kernel)) | exact Or.inr (Or.inr (by decide +kernel))) (by decide +kernel) (by decide +kernel)⟩ (by intro _; rfl))
  (s_frz (s_one (s_ret (e_and g.toG0 (e_cmp (o_eq g.hK g.hu) (xo_l_are_names_2 g) (o_ex (e_lst (φs := []) (a_nil) (by decide))) rfl) (e_and1 (e_cmp (o_eq g.hK g.hu) (o_ex (e_callB g.toG0 (f := gLen) (c_glen g.hK) (by decide +kernel) E.b_len boot_len (a_cons (xo_l_are_names_0 g) (a_nil) rfl) (by decide +kernel) (by decide +kernel) rfl rfl)) (o_ex (e_callB g.toG0 (f := gLen) (c_glen g.hK) (by decide +kernel) E.b_len boot_len (a_cons (xo_l_are_names_3 g) (a_nil) rfl) (by decide +kernel) (by decide +kernel) rfl rfl)) rfl))))))))
theorem xsc_l_are_names : FnScope xN_l_are_names ["_law_some", "_law_choices"] (defScope xs_l_are_names) := ⟨rfl, rfl, rfl, by decide +kernel, rfl, by decide +kernel, by decide +kernel⟩
abbrev xF_l_are_names (K : PySem.W.Frag) (f : Addr) (fd : FuncData) : Prop := FunD K "_law_are_names" "_law_are_names" (defArgs xs_l_are_names) (defBody xs_l_are_names) (defScope xs_l_are_names) [] [] f fd
theorem xv_l_are_names (hx : M.xn = none) (E : Env M)  {f : Addr} {fd : FuncData} (F : xF_l_are_names M.K f fd) (hm : M.mg "_law_are_names" = some (.ref f)) : FnV M 1 "_law_are_names" 2 xf_l_are_names :=
  ⟨f, fd, ["_law_some", "_law_choices"], fn_ok hx (k := 0) F xsc_l_are_names (fun X W g => xw_l_are_names E  (Nat.le_refl _) g), hm, F.kp, rfl, F.bindsN fun _ _ _ _ _ _ us hl => match us, hl with | [_, _], _ => rfl⟩
end
/-! ### _law_is_order -/
abbrev xN_l_is_order : List Str := ["_law_things", "_law_choices", "_law_some", "_law_tier"]
abbrev xC_l_is_order : Cs := ⟨xN_l_is_order, defScope xs_l_is_order, fun _ => true⟩
section
variable {M : Md} {W : WX} {k : Nat} {X : Cx}
theorem xn_l_is_order_0 (g : G M xC_l_is_order W k X) {pos : Pos} : PE X (.Name "_law_things" pos) (tE M W (nm 0)) := e_nm g.toG0 rfl (by first | exact Or.inl (by decide +kernel) | exact Or.inr (Or.inl (by decide +kernel)) | exact Or.inr (Or.inr (by decide +kernel))) (by decide +kernel) (by decide +kernel)
theorem xn_l_is_order_1 (g : G M xC_l_is_order W k X) {pos : Pos} : PE X (.Name "_law_choices" pos) (tE M W (nm 1)) := e_nm g.toG0 rfl (by first | exact Or.inl (by decide +kernel) | exact Or.inr (Or.inl (by decide +kernel)) | exact Or.inr (Or.inr (by decide +kernel))) (by decide +kernel) (by decide +kernel)
theorem xo_l_is_order_2 (g : G M xC_l_is_order W k X) {pos : Pos} : PE X (.Name "_law_some" pos) (tO M W (.sl 2)) := e_sl g.toG0 rfl (by first | exact Or.inl (by decide +kernel) | exact Or.inr (Or.inl (by decide +kernel)) | exact Or.inr (Or.inr (by decide +kernel))) (by decide +kernel) (by decide +kernel)
theorem xn_l_is_order_2 (g : G M xC_l_is_order W k X) {pos : Pos} : PE X (.Name "_law_some" pos) (tE M W (nm 2)) := e_nm g.toG0 rfl (by first | exact Or.inl (by decide +kernel) | exact Or.inr (Or.inl (by decide +kernel)) | exact Or.inr (Or.inr (by decide +kernel))) (by decide +kernel) (by decide +kernel)
theorem xo_l_is_order_3 (g : G M xC_l_is_order W k X) {pos : Pos} : PE X (.Name "_law_tier" pos) (tO M W (.sl 3)) := e_sl g.toG0 rfl (by first | exact Or.inl (by decide +kernel) | exact Or.inr (Or.inl (by decide +kernel)) | exact Or.inr (Or.inr (by decide +kernel))) (by decide +kernel) (by decide +kernel)
theorem xw_l_is_order (E : Env M) (xh_l_are_names : FnV M 1 "_law_are_names" 2 xf_l_are_names) (hk : 1 ≤ k) (g : G M xC_l_is_order W k X) : PSs X (defBody xs_l_is_order) (tS M W xb_l_is_order) :=
  s_cons (s_set g (i := 2) rfl (by first | exact Or.inl (by decide +kernel) | exact Or.inr (by decide +kernel)) (e_lst (φs := []) (a_nil) (by decide)) rfl (.inl rfl))
  (s_frz (s_cons (s_for g (i_seq g (o_ex (xn_l_is_order_0 g))) (p_nm g (i := 3) rfl (by first | exact Or.inl (by decide +kernel) | exact Or.inr (by decide +kernel)) (.inl rfl)) (s_cons (s_if (t_w (w_or (t_not (t_tru g.toG0 (o_ex (e_isi g.toG0 (by decide +kernel) E.b_isinstance (by decide +kernel) E.b_tuple boot_tuple (by decide +kernel) (by decide +kernel) (xo_l_is_order_3 g) rfl)) (by intro _; rfl))) (w_or1 (t_cmp (o_eq g.hK g.hu) (xo_l_is_order_3 g) (o_ex (e_tup (φs := []) (a_nil) (by decide))) rfl)))) (s_one (s_ret (e_bl))) s_nil)
  (s_cons (s_set g (i := 2) rfl (by first | exact Or.inl (by decide +kernel) | exact Or.inr (by decide +kernel)) (e_bin (o_add g.hK) (xo_l_is_order_2 g) (o_ex (e_callTy g.toG0 (f := fList) ((c_list g.hK)) (by decide +kernel) E.b_list boot_list (a_cons (xo_l_is_order_3 g) (a_nil) rfl) (by decide +kernel) (by decide +kernel) rfl rfl))) rfl (.inl rfl))
  (s_frz (s_kill (s_nil))))) (by intro _; rfl))
  (s_one (s_ret (e_call g xh_l_are_names (Nat.le_trans (by decide) hk) (by decide +kernel) (a_cons (o_ex (xn_l_is_order_2 g)) (a_cons (o_ex (xn_l_is_order_1 g)) (a_nil) rfl) rfl) rfl (by decide +kernel) rfl rfl)))))
theorem xsc_l_is_order : FnScope xN_l_is_order ["_law_things", "_law_choices"] (defScope xs_l_is_order) := ⟨rfl, rfl, rfl, by decide +kernel, rfl, by decide +kernel, by decide +kernel⟩
abbrev xF_l_is_order (K : PySem.W.Frag) (f : Addr) (fd : FuncData) : Prop := FunD K "_law_is_order" "_law_is_order" (defArgs xs_l_is_order) (defBody xs_l_is_order) (defScope xs_l_is_order) [] [] f fd
theorem xv_l_is_order (hx : M.xn = none) (E : Env M) (xh_l_are_names : FnV M 1 "_law_are_names" 2 xf_l_are_names) {f : Addr} {fd : FuncData} (F : xF_l_is_order M.K f fd) (hm : M.mg "_law_is_order" = some (.ref f)) : FnV M 2 "_law_is_order" 2 xf_l_is_order :=
  ⟨f, fd, ["_law_things", "_law_choices"], fn_ok hx (k := 1) F xsc_l_is_order (fun X W g => xw_l_is_order E xh_l_are_names (Nat.le_refl _) g), hm, F.kp, rfl, F.bindsN fun _ _ _ _ _ _ us hl => match us, hl with | [_, _], _ => rfl⟩
end
/-! ### _law_are_marks -/
abbrev xN_l_are_marks : List Str := ["_law_things", "_law_choices", "_law_pair", "_law_mark"]
abbrev xC_l_are_marks : Cs := ⟨xN_l_are_marks, defScope xs_l_are_marks, fun _ => true⟩
section
variable {M : Md} {W : WX} {k : Nat} {X : Cx}
theorem xn_l_are_marks_0 (g : G M xC_l_are_marks W k X) {pos : Pos} : PE X (.Name "_law_things" pos) (tE M W (nm 0)) := e_nm g.toG0 rfl (by first | exact Or.inl (by decide +kernel) | exact Or.inr (Or.inl (by decide +kernel)) | exact Or.inr (Or.inr (by decide +kernel))) (by decide +kernel) (by decide +kernel)
theorem xn_l_are_marks_1 (g : G M xC_l_are_marks W k X) {pos : Pos} : PE X (.Name "_law_choices" pos) (tE M W (nm 1)) := e_nm g.toG0 rfl (by first | exact Or.inl (by decide +kernel) | exact Or.inr (Or.inl (by decide +kernel)) | exact Or.inr (Or.inr (by decide +kernel))) (by decide +kernel) (by decide +kernel)
theorem xo_l_are_marks_2 (g : G M xC_l_are_marks W k X) {pos : Pos} : PE X (.Name "_law_pair" pos) (tO M W (.sl 2)) := e_sl g.toG0 rfl (by first | exact Or.inl (by decide +kernel) | exact Or.inr (Or.inl (by decide +kernel)) | exact Or.inr (Or.inr (by decide +kernel))) (by decide +kernel) (by decide +kernel)
theorem xo_l_are_marks_3 (g : G M xC_l_are_marks W k X) {pos : Pos} : PE X (.Name "_law_mark" pos) (tO M W (.sl 3)) := e_sl g.toG0 rfl (by first | exact Or.inl (by decide +kernel) | exact Or.inr (Or.inl (by decide +kernel)) | exact Or.inr (Or.inr (by decide +kernel))) (by decide +kernel) (by decide +kernel)
theorem xw_l_are_marks (E : Env M) (xh_l_are_names : FnV M 1 "_law_are_names" 2 xf_l_are_names) (hk : 1 ≤ k) (g : G M xC_l_are_marks W k X) : PSs X (defBody xs_l_are_marks) (tS M W xb_l_are_marks) :=
  s_cons (s_for g (i_seq g (o_ex (xn_l_are_marks_0 g))) (p_nm g (i := 2) rfl (by first | exact Or.inl (by decide +kernel) | exact Or.inr (by decide +kernel)) (.inl rfl)) (s_cons (s_if (t_w (w_or (t_not (t_tru g.toG0 (o_ex (e_isi g.toG0 (by decide +kernel) E.b_isinstance (by decide +kernel) E.b_tuple boot_tuple (by decide +kernel) (by decide +kernel) (xo_l_are_marks_2 g) rfl)) (by intro _; rfl))) (w_or1 (t_cmp (o_ne g.hK g.hu) (o_ex (e_callB g.toG0 (f := gLen) (c_glen g.hK) (by decide +kernel) E.b_len boot_len (a_cons (xo_l_are_marks_2 g) (a_nil) rfl) (by decide +kernel) (by decide +kernel) rfl rfl)) (o_ex (e_int)) rfl)))) (s_one (s_ret (e_bl))) s_nil)
  (s_cons (s_set g (i := 3) rfl (by first | exact Or.inl (by decide +kernel) | exact Or.inr (by decide +kernel)) (e_gix g.toG0 (xo_l_are_marks_2 g) (o_ex (e_int)) (by intro _ _; rfl)) rfl (.inl rfl))
  (s_frz (s_cons (s_if (t_w (w_or (t_not (t_tru g.toG0 (o_ex (e_isi g.toG0 (by decide +kernel) E.b_isinstance (by decide +kernel) E.b_int boot_int (by decide +kernel) (by decide +kernel) (xo_l_are_marks_3 g) rfl)) (by intro _; rfl))) (w_or (t_tru g.toG0 (o_ex (e_isi g.toG0 (by decide +kernel) E.b_isinstance (by decide +kernel) E.b_bool boot_bool (by decide +kernel) (by decide +kernel) (xo_l_are_marks_3 g) rfl)) (by intro _; rfl)) (w_or1 (t_not (t_chn o_le o_le (o_ex (e_int)) (xo_l_are_marks_3 g) (o_ex (e_int)) (by with_unfolding_all rfl))))))) (s_one (s_ret (e_bl))) s_nil)
  (s_kill (s_kill (s_nil))))))) (by intro _; rfl))
  (s_one (s_ret (e_call g xh_l_are_names (Nat.le_trans (by decide) hk) (by decide +kernel) (a_cons (o_ex (e_lc g (own := [("_law_pair", 2)]) (i_seq g (o_ex (xn_l_are_marks_0 g))) (by decide +kernel) rfl ⟨fun X g => p_nm g (i := 2) rfl (by first | exact Or.inl (by decide +kernel) | exact Or.inr (by decide +kernel)) (by first | exact .inr (by decide +kernel) | exact .inl (by decide +kernel)), fun X g => ts_nil, fun X g => e_gix g.toG0 (e_sl g.toG0 (i := 2) (x := "_law_pair") rfl (by first | exact Or.inl (by decide +kernel) | exact Or.inr (Or.inl (by decide +kernel)) | exact Or.inr (Or.inr (by decide +kernel))) (by decide +kernel) (by decide +kernel)) (o_ex (e_int)) (by intro _ _; rfl)⟩ (by intro _; rfl))) (a_cons (o_ex (xn_l_are_marks_1 g)) (a_nil) rfl) rfl) rfl (by decide +kernel) rfl rfl)))
theorem xsc_l_are_marks : FnScope xN_l_are_marks ["_law_things", "_law_choices"] (defScope xs_l_are_marks) := ⟨rfl, rfl, rfl, by decide +kernel, rfl, by decide +kernel, by decide +kernel⟩
abbrev xF_l_are_marks (K : PySem.W.Frag) (f : Addr) (fd : FuncData) : Prop := FunD K "_law_are_marks" "_law_are_marks" (defArgs xs_l_are_marks) (defBody xs_l_are_marks) (defScope xs_l_are_marks) [] [] f fd
theorem xv_l_are_marks (hx : M.xn = none) (E : Env M) (xh_l_are_names : FnV M 1 "_law_are_names" 2 xf_l_are_names) {f : Addr} {fd : FuncData} (F : xF_l_are_marks M.K f fd) (hm : M.mg "_law_are_marks" = some (.ref f)) : FnV M 2 "_law_are_marks" 2 xf_l_are_marks :=
  ⟨f, fd, ["_law_things", "_law_choices"], fn_ok hx (k := 1) F xsc_l_are_marks (fun X W g => xw_l_are_marks E xh_l_are_names (Nat.le_refl _) g), hm, F.kp, rfl, F.bindsN fun _ _ _ _ _ _ us hl => match us, hl with | [_, _], _ => rfl⟩
end
/-! ### _law_is_ballot -/
abbrev xN_l_is_ballot : List Str := ["_law_thing", "_law_choices"]
abbrev xC_l_is_ballot : Cs := ⟨xN_l_is_ballot, defScope xs_l_is_ballot, fun _ => true⟩
section
variable {M : Md} {W : WX} {k : Nat} {X : Cx}
theorem xo_l_is_ballot_0 (g : G M xC_l_is_ballot W k X) {pos : Pos} : PE X (.Name "_law_thing" pos) (tO M W (.sl 0)) := e_sl g.toG0 rfl (by first | exact Or.inl (by decide +kernel) | exact Or.inr (Or.inl (by decide +kernel)) | exact Or.inr (Or.inr (by decide +kernel))) (by decide +kernel) (by decide +kernel)
theorem xn_l_is_ballot_1 (g : G M xC_l_is_ballot W k X) {pos : Pos} : PE X (.Name "_law_choices" pos) (tE M W (nm 1)) := e_nm g.toG0 rfl (by first | exact Or.inl (by decide +kernel) | exact Or.inr (Or.inl (by decide +kernel)) | exact Or.inr (Or.inr (by decide +kernel))) (by decide +kernel) (by decide +kernel)
theorem xw_l_is_ballot (E : Env M) (xh_l_is_order : FnV M 2 "_law_is_order" 2 xf_l_is_order) (xh_l_are_names : FnV M 1 "_law_are_names" 2 xf_l_are_names) (xh_l_are_marks : FnV M 2 "_law_are_marks" 2 xf_l_are_marks) (hk : 2 ≤ k) (g : G M xC_l_is_ballot W k X) : PSs X (defBody xs_l_is_ballot) (tS M W xb_l_is_ballot) :=
  s_cons (s_if (t_w (w_or (t_not (t_tru g.toG0 (o_ex (e_isi g.toG0 (by decide +kernel) E.b_isinstance (by decide +kernel) E.b_tuple boot_tuple (by decide +kernel) (by decide +kernel) (xo_l_is_ballot_0 g) rfl)) (by intro _; rfl))) (w_or1 (t_cmp (o_ne g.hK g.hu) (o_ex (e_callB g.toG0 (f := gLen) (c_glen g.hK) (by decide +kernel) E.b_len boot_len (a_cons (xo_l_is_ballot_0 g) (a_nil) rfl) (by decide +kernel) (by decide +kernel) rfl rfl)) (o_ex (e_int)) rfl)))) (s_one (s_ret (e_bl))) s_nil)
  (s_cons (s_if (t_w (w_or (t_not (t_tru g.toG0 (o_ex (e_isi g.toG0 (by decide +kernel) E.b_isinstance (by decide +kernel) E.b_str boot_str (by decide +kernel) (by decide +kernel) (o_ex (e_gix g.toG0 (xo_l_is_ballot_0 g) (o_ex (e_int)) (by intro _ _; rfl))) rfl)) (by intro _; rfl))) (w_or1 (t_not (t_tru g.toG0 (o_ex (e_isi g.toG0 (by decide +kernel) E.b_isinstance (by decide +kernel) E.b_tuple boot_tuple (by decide +kernel) (by decide +kernel) (o_ex (e_gix g.toG0 (xo_l_is_ballot_0 g) (o_ex (e_int)) (by intro _ _; rfl))) rfl)) (by intro _; rfl)))))) (s_one (s_ret (e_bl))) s_nil)
  (s_cons (s_if (t_cmp (o_gnotin g.hK g.hu) (o_ex (e_gix g.toG0 (xo_l_is_ballot_0 g) (o_ex (e_int)) (by intro _ _; rfl))) (o_ex (e_tup (φs := [cst (.str "order"), cst (.str "lets"), cst (.str "marks")]) (a_cons (o_ex (e_str)) (a_cons (o_ex (e_str)) (a_cons (o_ex (e_str)) (a_nil) rfl) rfl) rfl) (by decide))) rfl) (s_one (s_ret (e_bl))) s_nil)
  (s_cons (s_if (t_cmp (o_eq g.hK g.hu) (o_ex (e_gix g.toG0 (xo_l_is_ballot_0 g) (o_ex (e_int)) (by intro _ _; rfl))) (o_ex (e_str)) rfl) (s_one (s_ret (e_call g xh_l_is_order (Nat.le_trans (by decide) hk) (by decide +kernel) (a_cons (o_ex (e_gix g.toG0 (xo_l_is_ballot_0 g) (o_ex (e_int)) (by intro _ _; rfl))) (a_cons (o_ex (xn_l_is_ballot_1 g)) (a_nil) rfl) rfl) rfl (by decide +kernel) rfl rfl))) s_nil)
  (s_cons (s_if (t_cmp (o_eq g.hK g.hu) (o_ex (e_gix g.toG0 (xo_l_is_ballot_0 g) (o_ex (e_int)) (by intro _ _; rfl))) (o_ex (e_str)) rfl) (s_one (s_ret (e_call g xh_l_are_names (Nat.le_trans (by decide) hk) (by decide +kernel) (a_cons (o_ex (e_callTy g.toG0 (f := fList) ((c_list g.hK)) (by decide +kernel) E.b_list boot_list (a_cons (o_ex (e_gix g.toG0 (xo_l_is_ballot_0 g) (o_ex (e_int)) (by intro _ _; rfl))) (a_nil) rfl) (by decide +kernel) (by decide +kernel) rfl rfl)) (a_cons (o_ex (xn_l_is_ballot_1 g)) (a_nil) rfl) rfl) rfl (by decide +kernel) rfl rfl))) s_nil)
  (s_one (s_ret (e_call g xh_l_are_marks (Nat.le_trans (by decide) hk) (by decide +kernel) (a_cons (o_ex (e_gix g.toG0 (xo_l_is_ballot_0 g) (o_ex (e_int)) (by intro _ _; rfl))) (a_cons (o_ex (xn_l_is_ballot_1 g)) (a_nil) rfl) rfl) rfl (by decide +kernel) rfl rfl)))))))
theorem xsc_l_is_ballot : FnScope xN_l_is_ballot ["_law_thing", "_law_choices"] (defScope xs_l_is_ballot) := ⟨rfl, rfl, rfl, by decide +kernel, rfl, by decide +kernel, by decide +kernel⟩
abbrev xF_l_is_ballot (K : PySem.W.Frag) (f : Addr) (fd : FuncData) : Prop := FunD K "_law_is_ballot" "_law_is_ballot" (defArgs xs_l_is_ballot) (defBody xs_l_is_ballot) (defScope xs_l_is_ballot) [] [] f fd
theorem xv_l_is_ballot (hx : M.xn = none) (E : Env M) (xh_l_is_order : FnV M 2 "_law_is_order" 2 xf_l_is_order) (xh_l_are_names : FnV M 1 "_law_are_names" 2 xf_l_are_names) (xh_l_are_marks : FnV M 2 "_law_are_marks" 2 xf_l_are_marks) {f : Addr} {fd : FuncData} (F : xF_l_is_ballot M.K f fd) (hm : M.mg "_law_is_ballot" = some (.ref f)) : FnV M 3 "_law_is_ballot" 2 xf_l_is_ballot :=
  ⟨f, fd, ["_law_thing", "_law_choices"], fn_ok hx (k := 2) F xsc_l_is_ballot (fun X W g => xw_l_is_ballot E xh_l_is_order xh_l_are_names xh_l_are_marks (Nat.le_refl _) g), hm, F.kp, rfl, F.bindsN fun _ _ _ _ _ _ us hl => match us, hl with | [_, _], _ => rfl⟩
end
/-! ### law -/
abbrev xN_law_k11 : List Str := ["_law_script", "_law_cell", "_law_well_here", "_law_choices", "_law_slip", "_law_turn", "_law_thing", "_law_shown", "_law_due"]
abbrev xC_law_k11 : Cs := ⟨xN_law_k11, defScope xs_law_k11, fun _ => true⟩
section
variable {M : Md} {W : WX} {k : Nat} {X : Cx}
theorem xo_law_k11_0 (g : G M xC_law_k11 W k X) {pos : Pos} : PE X (.Name "_law_script" pos) (tO M W (.sl 0)) := e_sl g.toG0 rfl (by first | exact Or.inl (by decide +kernel) | exact Or.inr (Or.inl (by decide +kernel)) | exact Or.inr (Or.inr (by decide +kernel))) (by decide +kernel) (by decide +kernel)
theorem xn_law_k11_0 (g : G M xC_law_k11 W k X) {pos : Pos} : PE X (.Name "_law_script" pos) (tE M W (nm 0)) := e_nm g.toG0 rfl (by first | exact Or.inl (by decide +kernel) | exact Or.inr (Or.inl (by decide +kernel)) | exact Or.inr (Or.inr (by decide +kernel))) (by decide +kernel) (by decide +kernel)
theorem xn_law_k11_1 (g : G M xC_law_k11 W k X) {pos : Pos} : PE X (.Name "_law_cell" pos) (tE M W (nm 1)) := e_nm g.toG0 rfl (by first | exact Or.inl (by decide +kernel) | exact Or.inr (Or.inl (by decide +kernel)) | exact Or.inr (Or.inr (by decide +kernel))) (by decide +kernel) (by decide +kernel)
theorem xo_law_k11_2 (g : G M xC_law_k11 W k X) {pos : Pos} : PE X (.Name "_law_well_here" pos) (tO M W (.sl 2)) := e_sl g.toG0 rfl (by first | exact Or.inl (by decide +kernel) | exact Or.inr (Or.inl (by decide +kernel)) | exact Or.inr (Or.inr (by decide +kernel))) (by decide +kernel) (by decide +kernel)
theorem xn_law_k11_3 (g : G M xC_law_k11 W k X) {pos : Pos} : PE X (.Name "_law_choices" pos) (tE M W (nm 3)) := e_nm g.toG0 rfl (by first | exact Or.inl (by decide +kernel) | exact Or.inr (Or.inl (by decide +kernel)) | exact Or.inr (Or.inr (by decide +kernel))) (by decide +kernel) (by decide +kernel)
theorem xn_law_k11_4 (g : G M xC_law_k11 W k X) {pos : Pos} : PE X (.Name "_law_slip" pos) (tE M W (nm 4)) := e_nm g.toG0 rfl (by first | exact Or.inl (by decide +kernel) | exact Or.inr (Or.inl (by decide +kernel)) | exact Or.inr (Or.inr (by decide +kernel))) (by decide +kernel) (by decide +kernel)
theorem xn_law_k11_6 (g : G M xC_law_k11 W k X) {pos : Pos} : PE X (.Name "_law_thing" pos) (tE M W (nm 6)) := e_nm g.toG0 rfl (by first | exact Or.inl (by decide +kernel) | exact Or.inr (Or.inl (by decide +kernel)) | exact Or.inr (Or.inr (by decide +kernel))) (by decide +kernel) (by decide +kernel)
theorem xo_law_k11_7 (g : G M xC_law_k11 W k X) {pos : Pos} : PE X (.Name "_law_shown" pos) (tO M W (.sl 7)) := e_sl g.toG0 rfl (by first | exact Or.inl (by decide +kernel) | exact Or.inr (Or.inl (by decide +kernel)) | exact Or.inr (Or.inr (by decide +kernel))) (by decide +kernel) (by decide +kernel)
theorem xo_law_k11_8 (g : G M xC_law_k11 W k X) {pos : Pos} : PE X (.Name "_law_due" pos) (tO M W (.sl 8)) := e_sl g.toG0 rfl (by first | exact Or.inl (by decide +kernel) | exact Or.inr (Or.inl (by decide +kernel)) | exact Or.inr (Or.inr (by decide +kernel))) (by decide +kernel) (by decide +kernel)
theorem xw_law_k11 (E : Env M) (xh_l_cell_at : FnV M 1 "_law_cell_at" 2 xf_l_cell_at) (xh_l_well : FnV M 1 "_law_well" 1 xf_l_well) (xh_l_options : FnV M 2 "_law_options" 2 xf_l_options) (xh_l_draw : FnV M 1 "_law_draw" 2 xf_l_draw) (xh_l_ballot : FnV M 4 "_law_ballot" 2 xf_l_ballot) (xh_l_told_2 : FnV M 6 "_law_told" 2 xf_l_told_2) (xh_l_bent_2 : FnV M 4 "_law_bent" 3 xf_l_bent_2) (xh_l_is_ballot : FnV M 3 "_law_is_ballot" 2 xf_l_is_ballot) (xhk_check_ballot_0_ballot_options : FnVK M 5 "check_ballot" 0 ["ballot", "options"] [.at 1, .at 0] xf_check_ballot) (hk : 6 ≤ k) (g : G M xC_law_k11 W k X) (hgd : X.A.guards = some []) : PSs X (defBody xs_law_k11) (tS M W xb_law_k11) :=
  s_cons (s_for g (i_seq g (o_ex (e_bin (o_add g.hK) (o_ex (e_lst (φs := [callF xf_l_cell_at [.ex (nm 0), .ex (cst (.int 0))] []]) (a_cons (o_ex (e_call g xh_l_cell_at (Nat.le_trans (by decide) hk) (by decide +kernel) (a_cons (o_ex (xn_law_k11_0 g)) (a_cons (o_ex (e_int)) (a_nil) rfl) rfl) rfl (by decide +kernel) rfl rfl)) (a_nil) rfl) (by decide))) (o_ex (e_slc g.toG0 (ol := (some (.ex (cst (.int 1))))) (oh := (some (.ex (cst (.int 16))))) (xo_law_k11_0 g) (o_ex (e_int)) (o_ex (e_int))))))) (p_nm g (i := 1) rfl (by first | exact Or.inl (by decide +kernel) | exact Or.inr (by decide +kernel)) (.inl rfl)) (s_cons (s_set g (i := 2) rfl (by first | exact Or.inl (by decide +kernel) | exact Or.inr (by decide +kernel)) (e_call g xh_l_well (Nat.le_trans (by decide) hk) (by decide +kernel) (a_cons (o_ex (xn_law_k11_1 g)) (a_nil) rfl) rfl (by decide +kernel) rfl rfl) rfl (.inl rfl))
  (s_cons (s_set g (i := 3) rfl (by first | exact Or.inl (by decide +kernel) | exact Or.inr (by decide +kernel)) (e_call g xh_l_options (Nat.le_trans (by decide) hk) (by decide +kernel) (a_cons (xo_law_k11_2 g) (a_cons (o_ex (e_bin (o_add g.hK) (o_ex (e_int)) (o_ex (e_call g xh_l_draw (Nat.le_trans (by decide) hk) (by decide +kernel) (a_cons (xo_law_k11_2 g) (a_cons (o_ex (e_int)) (a_nil) rfl) rfl) rfl (by decide +kernel) rfl rfl)))) (a_nil) rfl) rfl) rfl (by decide +kernel) rfl rfl) rfl (.inl rfl))
  (s_frz (s_cons (s_set g (i := 4) rfl (by first | exact Or.inl (by decide +kernel) | exact Or.inr (by decide +kernel)) (e_call g xh_l_ballot (Nat.le_trans (by decide) hk) (by decide +kernel) (a_cons (xo_law_k11_2 g) (a_cons (o_ex (xn_law_k11_3 g)) (a_nil) rfl) rfl) rfl (by decide +kernel) rfl rfl) rfl (.inl rfl))
  (s_frz (s_cons (s_if (t_w (w_or (t_cmp (o_ne g.hK g.hu) (o_ex (e_call g xh_l_told_2 (Nat.le_trans (by decide) hk) (by decide +kernel) (a_cons (o_ex (xn_law_k11_3 g)) (a_cons (o_ex (xn_law_k11_4 g)) (a_nil) rfl) rfl) rfl (by decide +kernel) rfl rfl)) (o_ex (e_str)) rfl) (w_or1 (t_cmp o_isnot (o_ex (e_callK0 g xhk_check_ballot_0_ballot_options (Nat.le_trans (by decide) hk) (by decide +kernel) (k_consK (o_ex (xn_law_k11_4 g)) (k_consK (o_ex (xn_law_k11_3 g)) (k_nilK))) rfl (by decide +kernel) rfl rfl rfl)) (o_ex (e_non)) rfl)))) (s_one (s_ret (e_bl))) s_nil)
  (s_cons (s_for g (i_rng1 g (by decide +kernel) E.b_range (a_cons (o_ex (e_int)) (a_nil) rfl) rfl) (p_nm g (i := 5) rfl (by first | exact Or.inl (by decide +kernel) | exact Or.inr (by decide +kernel)) (.inl rfl)) (s_cons (s_set g (i := 6) rfl (by first | exact Or.inl (by decide +kernel) | exact Or.inr (by decide +kernel)) (e_call g xh_l_bent_2 (Nat.le_trans (by decide) hk) (by decide +kernel) (a_cons (xo_law_k11_2 g) (a_cons (o_ex (xn_law_k11_4 g)) (a_cons (o_ex (xn_law_k11_3 g)) (a_nil) rfl) rfl) rfl) rfl (by decide +kernel) rfl rfl) rfl (.inl rfl))
  (s_frz (s_cons (s_set g (i := 7) rfl (by first | exact Or.inl (by decide +kernel) | exact Or.inr (by decide +kernel)) (e_callB g.toG0 (f := fRepr) (c_repr g.hK g.hu hgd) (by decide +kernel) E.b_repr PyProof.Rows.boot_repr (a_cons (o_ex (e_tup (φs := [nm 3, nm 6]) (a_cons (o_ex (xn_law_k11_3 g)) (a_cons (o_ex (xn_law_k11_6 g)) (a_nil) rfl) rfl) (by decide))) (a_nil) rfl) (by decide +kernel) (by decide +kernel) rfl rfl) rfl (.inl rfl))
  (s_frz (s_cons (s_set g (i := 8) rfl (by first | exact Or.inl (by decide +kernel) | exact Or.inr (by decide +kernel)) (e_gix g.toG0 (o_ex (e_lst (φs := [cst (.str "refused"), cst (.str "fine")]) (a_cons (o_ex (e_str)) (a_cons (o_ex (e_str)) (a_nil) rfl) rfl) (by decide))) (o_ex (e_callTy g.toG0 (f := fInt) (c_int) (by decide +kernel) E.b_int boot_int (a_cons (o_ex (e_call g xh_l_is_ballot (Nat.le_trans (by decide) hk) (by decide +kernel) (a_cons (o_ex (xn_law_k11_6 g)) (a_cons (o_ex (xn_law_k11_3 g)) (a_nil) rfl) rfl) rfl (by decide +kernel) rfl rfl)) (a_nil) rfl) (by decide +kernel) (by decide +kernel) rfl rfl)) (by intro _ _; rfl)) rfl (.inl rfl))
  (s_frz (s_cons (s_if (t_w (w_or (t_cmp (o_ne g.hK g.hu) (o_ex (e_call g xh_l_told_2 (Nat.le_trans (by decide) hk) (by decide +kernel) (a_cons (o_ex (xn_law_k11_3 g)) (a_cons (o_ex (xn_law_k11_6 g)) (a_nil) rfl) rfl) rfl (by decide +kernel) rfl rfl)) (xo_law_k11_8 g) rfl) (w_or1 (t_cmp (o_ne g.hK g.hu) (o_ex (e_callB g.toG0 (f := fRepr) (c_repr g.hK g.hu hgd) (by decide +kernel) E.b_repr PyProof.Rows.boot_repr (a_cons (o_ex (e_tup (φs := [nm 3, nm 6]) (a_cons (o_ex (xn_law_k11_3 g)) (a_cons (o_ex (xn_law_k11_6 g)) (a_nil) rfl) rfl) (by decide))) (a_nil) rfl) (by decide +kernel) (by decide +kernel) rfl rfl)) (xo_law_k11_7 g) rfl)))) (s_one (s_ret (e_bl))) s_nil)
  (s_kill (s_kill (s_kill (s_kill (s_nil)))))))))))) (by intro _; rfl))
  (s_kill (s_kill (s_kill (s_kill (s_nil)))))))))))) (by intro _; rfl))
  (s_one (s_ret (e_bl)))
theorem xsc_law_k11 : FnScope xN_law_k11 ["_law_script"] (defScope xs_law_k11) := ⟨rfl, rfl, rfl, by decide +kernel, rfl, by decide +kernel, by decide +kernel⟩
end
theorem factsX {P : Program} {w : World} {K : PySem.W.Frag} {h : Heap} {mg : Str → Option Value} {f : Addr} (Y : K.In h) (N : h.Ns mainGlobals mg) (hfa : mg ("law" : Str) = some (.ref f)) (cE : VF.SaysE faL fbL fnL K) :
    ∃ fd : FuncData, (∀ (s : Shared) (v : Value), BindsTo s fd ⟨[v], []⟩ [("_law_script", v)]) ∧ ∀ base : Heap, K.In base → base.Ns mainGlobals mg → AtTop ⟨P, w, base, K, mg, [], none, []⟩ 6 "_law_script" f fd xf_law_k11 := by
  have c := cE.d
  obtain ⟨fd0, F0⟩ := c.def_ 0 (d := xd_l_cell_at) rfl
  obtain ⟨fd1, F1⟩ := c.def_ 1 (d := xd_l_well) rfl
  obtain ⟨fd2, F2⟩ := c.def_ 2 (d := xd_l_draw) rfl
  obtain ⟨fd3, F3⟩ := c.def_ 3 (d := xd_l_options) rfl
  obtain ⟨fd4, F4⟩ := c.def_ 4 (d := xd_l_shuffled) rfl
  obtain ⟨fd5, F5⟩ := c.def_ 5 (d := xd_l_tiers_drawn) rfl
  obtain ⟨fd6, F6⟩ := c.def_ 6 (d := xd_l_ballot) rfl
  obtain ⟨fd7, F7⟩ := c.def_ 7 (d := xd_are_unlike) rfl
  obtain ⟨fd8, F8⟩ := c.def_ 8 (d := xd_are_some_of) rfl
  obtain ⟨fd9, F9⟩ := c.def_ 9 (d := xd_are_tiers) rfl
  obtain ⟨fd10, F10⟩ := c.def_ 10 (d := xd_is_whole) rfl
  obtain ⟨fd11, F11⟩ := c.def_ 11 (d := xd_are_marks) rfl
  obtain ⟨fd12, F12⟩ := c.def_ 12 (d := xd_is_ballot) rfl
  obtain ⟨fd13, F13⟩ := c.def_ 13 (d := xd_check_ballot) rfl
  obtain ⟨fd14, F14⟩ := c.def_ 14 (d := xd_l_told_2) rfl
  obtain ⟨fd15, F15⟩ := c.def_ 15 (d := xd_l_one) rfl
  obtain ⟨fd16, F16⟩ := c.def_ 16 (d := xd_l_odd) rfl
  obtain ⟨fd17, F17⟩ := c.def_ 17 (d := xd_l_bent_2) rfl
  obtain ⟨fd18, F18⟩ := c.def_ 18 (d := xd_l_are_names) rfl
  obtain ⟨fd19, F19⟩ := c.def_ 19 (d := xd_l_is_order) rfl
  obtain ⟨fd20, F20⟩ := c.def_ 20 (d := xd_l_are_marks) rfl
  obtain ⟨fd21, F21⟩ := c.def_ 21 (d := xd_l_is_ballot) rfl
  obtain ⟨fd22, F22⟩ := c.def_ 22 (d := xd_law_k11) rfl
  have g0 := He.glo_ok Y N (c.fact 0 (f := .glo "_law_cell_at") rfl)
  have g1 := He.glo_ok Y N (c.fact 1 (f := .glo "_law_well") rfl)
  have g2 := He.glo_ok Y N (c.fact 2 (f := .glo "_law_draw") rfl)
  have g3 := He.glo_ok Y N (c.fact 3 (f := .glo "_law_options") rfl)
  have g4 := He.glo_ok Y N (c.fact 4 (f := .glo "_law_shuffled") rfl)
  have g5 := He.glo_ok Y N (c.fact 5 (f := .glo "_law_tiers_drawn") rfl)
  have g6 := He.glo_ok Y N (c.fact 6 (f := .glo "_law_ballot") rfl)
  have g7 := He.glo_ok Y N (c.fact 7 (f := .glo "are_unlike") rfl)
  have g8 := He.glo_ok Y N (c.fact 8 (f := .glo "are_some_of") rfl)
  have g9 := He.glo_ok Y N (c.fact 9 (f := .glo "are_tiers") rfl)
  have g10 := He.glo_ok Y N (c.fact 10 (f := .glo "is_whole") rfl)
  have g11 := He.glo_ok Y N (c.fact 11 (f := .glo "are_marks") rfl)
  have g12 := He.glo_ok Y N (c.fact 12 (f := .glo "is_ballot") rfl)
  have g13 := He.glo_ok Y N (c.fact 13 (f := .glo "check_ballot") rfl)
  have g14 := He.glo_ok Y N (c.fact 14 (f := .glo "_law_told") rfl)
  have g15 := He.glo_ok Y N (c.fact 15 (f := .glo "_law_one") rfl)
  have g16 := He.glo_ok Y N (c.fact 16 (f := .glo "_law_odd") rfl)
  have g17 := He.glo_ok Y N (c.fact 17 (f := .glo "_law_bent") rfl)
  have g18 := He.glo_ok Y N (c.fact 18 (f := .glo "_law_are_names") rfl)
  have g19 := He.glo_ok Y N (c.fact 19 (f := .glo "_law_is_order") rfl)
  have g20 := He.glo_ok Y N (c.fact 20 (f := .glo "_law_are_marks") rfl)
  have g21 := He.glo_ok Y N (c.fact 21 (f := .glo "_law_is_ballot") rfl)
  have g22 := He.glo_ok Y N (c.fact 22 (f := .glo "law") rfl)
  have g23 := He.free_ok Y N (c.fact 23 (f := .free "all") rfl)
  have g24 := He.free_ok Y N (c.fact 24 (f := .free "bool") rfl)
  have g25 := He.free_ok Y N (c.fact 25 (f := .free "enumerate") rfl)
  have g26 := He.free_ok Y N (c.fact 26 (f := .free "int") rfl)
  have g27 := He.free_ok Y N (c.fact 27 (f := .free "isinstance") rfl)
  have g28 := He.free_ok Y N (c.fact 28 (f := .free "len") rfl)
  have g29 := He.free_ok Y N (c.fact 29 (f := .free "list") rfl)
  have g30 := He.free_ok Y N (c.fact 30 (f := .free "range") rfl)
  have g31 := He.free_ok Y N (c.fact 31 (f := .free "repr") rfl)
  have g32 := He.free_ok Y N (c.fact 32 (f := .free "str") rfl)
  have g33 := He.free_ok Y N (c.fact 33 (f := .free "tuple") rfl)
  have g34 := He.int_ok Y N (c.fact 34 (f := .int "MOST_MARK" 9) rfl)
  have g35 := He.glo_ok Y N (c.fact 35 (f := .glo "BadBallot") rfl)
  have g36 := He.glo_ok Y N (c.fact 36 (f := .glo "BadClaim") rfl)
  have g37 := He.glo_ok Y N (c.fact 37 (f := .glo "BadMargins") rfl)
  have g38 := He.glo_ok Y N (c.fact 38 (f := .glo "BadOrder") rfl)
  have g39 := He.glo_ok Y N (c.fact 39 (f := .glo "BadPoll") rfl)
  have g40 := He.glo_ok Y N (c.fact 40 (f := .glo "BadRule") rfl)
  have g41 := He.glo_ok Y N (c.fact 41 (f := .glo "BadSums") rfl)
  have g42 := He.glo_ok Y N (c.fact 42 (f := .glo "PollError") rfl)
  have g43 := He.free_ok Y N (c.fact 43 (f := .free "ValueError") rfl)
  have e := hfa.symm.trans g22
  cases e
  have b := FunD.bindsA (ps := ["_law_script"]) F22 fun _ _ _ _ _ _ us hl => match us, hl with | [_], _ => rfl
  refine ⟨fd22, fun s v => b s [v] rfl, fun base _ _ => ?_⟩
  obtain ⟨fdPE, FPE⟩ := c.def_ 23 (d := xd_PE) rfl
  have SPE : FnScope ["self", "why"] ["self", "why"] (defScope xs_PE) := ⟨rfl, rfl, rfl, by decide +kernel, rfl, by decide +kernel, by decide +kernel⟩
  have nPE := init_why (M := ⟨P, w, base, K, mg, [], none, []⟩) FPE SPE (by decide +kernel) (by first | exact Or.inl (by decide +kernel) | exact Or.inr (Or.inl (by decide +kernel)) | exact Or.inr (Or.inr (by decide +kernel))) (by first | exact Or.inl (by decide +kernel) | exact Or.inr (Or.inl (by decide +kernel)) | exact Or.inr (Or.inr (by decide +kernel))) g43 (fun _ => rfl) (by rfl)
  obtain ⟨dsPE, vPE, bPE⟩ := FPE.binds1 (ps := ["self", "why"]) 2 1 (fun z => nomatch z) rfl fun _ _ _ _ _ _ _ us its hl hi => match us, its, hl, hi with | [_, _], [_], _, _ => ⟨_, rfl, by kernel_rfl⟩
  have E : Env ⟨P, w, base, K, mg, [], none, []⟩ := ⟨g23, g24, g25, g26, g27, g28, g29, g30, g31, g32, g33, glob_int g34, erv_of g35 (cE.more 0 rfl) nPE vPE bPE, hdF_of g42 g35 (cE.more 1 rfl), isF_of g35 g35 (cE.more 2 rfl), isFs_of g35 (fun x hx => by simp only [List.mem_cons, List.not_mem_nil, or_false] at hx; rcases hx with rfl | rfl | rfl | rfl | rfl | rfl <;> first | exact g36 | exact g37 | exact g38 | exact g39 | exact g40 | exact g41) (cE.more 3 rfl), xcf_of g35 (cE.more 0 rfl)⟩
  have v0 := xv_l_cell_at (M := ⟨P, w, base, K, mg, [], none, []⟩) rfl E  F0 g0
  have v1 := xv_l_well (M := ⟨P, w, base, K, mg, [], none, []⟩) rfl E  F1 g1
  have v2 := xv_l_draw (M := ⟨P, w, base, K, mg, [], none, []⟩) rfl E  F2 g2
  have v3 := xv_l_options (M := ⟨P, w, base, K, mg, [], none, []⟩) rfl E v2 F3 g3
  have v4 := xv_l_shuffled (M := ⟨P, w, base, K, mg, [], none, []⟩) rfl E v2 F4 g4
  have v5 := xv_l_tiers_drawn (M := ⟨P, w, base, K, mg, [], none, []⟩) rfl E v4 v2 F5 g5
  have v6 := xv_l_ballot (M := ⟨P, w, base, K, mg, [], none, []⟩) rfl E v2 v4 v5 F6 g6
  have v7 := xv_are_unlike (M := ⟨P, w, base, K, mg, [], none, []⟩) rfl E  F7 g7
  have v8 := xv_are_some_of (M := ⟨P, w, base, K, mg, [], none, []⟩) rfl E v7 F8 g8
  have v9 := xv_are_tiers (M := ⟨P, w, base, K, mg, [], none, []⟩) rfl E v8 F9 g9
  have v10 := xv_is_whole (M := ⟨P, w, base, K, mg, [], none, []⟩) rfl E  F10 g10
  have v11 := xv_are_marks (M := ⟨P, w, base, K, mg, [], none, []⟩) rfl E v10 v8 F11 g11
  have v12 := xv_is_ballot (M := ⟨P, w, base, K, mg, [], none, []⟩) rfl E v9 v8 v11 F12 g12
  have v13 := xv_check_ballot (M := ⟨P, w, base, K, mg, [], none, []⟩) rfl E v12 F13 g13
  have vk_check_ballot_0_ballot_options := xvk_check_ballot_0_ballot_options (M := ⟨P, w, base, K, mg, [], none, []⟩) rfl E v12 F13 g13
  have v14 := xv_l_told_2 (M := ⟨P, w, base, K, mg, [], none, []⟩) rfl E v13 F14 g14
  have v15 := xv_l_one (M := ⟨P, w, base, K, mg, [], none, []⟩) rfl E v2 F15 g15
  have v16 := xv_l_odd (M := ⟨P, w, base, K, mg, [], none, []⟩) rfl E v15 F16 g16
  have v17 := xv_l_bent_2 (M := ⟨P, w, base, K, mg, [], none, []⟩) rfl E v2 v16 v15 F17 g17
  have v18 := xv_l_are_names (M := ⟨P, w, base, K, mg, [], none, []⟩) rfl E  F18 g18
  have v19 := xv_l_is_order (M := ⟨P, w, base, K, mg, [], none, []⟩) rfl E v18 F19 g19
  have v20 := xv_l_are_marks (M := ⟨P, w, base, K, mg, [], none, []⟩) rfl E v18 F20 g20
  have v21 := xv_l_is_ballot (M := ⟨P, w, base, K, mg, [], none, []⟩) rfl E v19 v18 v20 F21 g21
  exact fn_okG (M := ⟨P, w, base, K, mg, [], none, []⟩) rfl (k := 6) F22 xsc_law_k11 (fun X W g hgd => xw_law_k11 E v0 v1 v3 v2 v6 v14 v17 v21 vk_check_ballot_0_ballot_options (Nat.le_refl _) g hgd)
end K11

open PySem PySem.W PySem.Calls PyProof.Rows
theorem PySem.Challenge.cw_voicefold_k11_ballots_checked_holds : PySem.Challenge.rw_voicefold_k11_ballots_checked.Holds := by
  w_on; o_law
  refine HandSHeadRun.head_any (r := (PySem.W.OpenLaw.row PySem.Challenge.rw_voicefold_k11_ballots_checked)) (q := view (PySem.W.OpenLaw.row PySem.Challenge.rw_voicefold_k11_ballots_checked).prog [35]) (H := K11.hkX) (ob := K11.obX) (M := 20000) (loose := K11.nmX) (d := HandSHeadRun.topDef (PySem.W.OpenLaw.row PySem.Challenge.rw_voicefold_k11_ballots_checked).prog 35) (kwd := []) K11.obX_eq
    (by kernel_rfl) (fun s => by kernel_rfl) K11.runX (by kernel_rfl) (by kernel_rfl) (by kernel_rfl) (by rfl) (by first | assumption | decide +kernel) (by decide +kernel) ⟨rfl, rfl, rfl, rfl, rfl, by decide +kernel⟩ ?hw ?hc
  case hw => w_witness2
  case hc =>
    refine VF.walk_ofG (l := PySem.Challenge.rw_voicefold_k11_ballots_checked) (n := 63) (k := 6) (x := "_law_script") (φ := VP.xf_law_k11) rfl (by decide) (by kernel_rfl) ⟨rfl, by decide, by decide⟩ ?F (fun ns h1 h2 => VF.answer_of (VP.xq_law_k11 _) (VP.answer_k11 ns h1 h2))
    intro w mg fa h Y N hmg0
    obtain ⟨K, KX, c⟩ := Y
    have hmg : mg ("law" : PySem.Str) = some (.ref fa) := by
      have e : (HandSHeadRun.topDef (PySem.W.OpenLaw.row PySem.Challenge.rw_voicefold_k11_ballots_checked).prog 35).name = ("law" : PySem.Str) := by kernel_rfl
      rw [← e]
      exact hmg0
    obtain ⟨fd, hb, hF⟩ := K11.factsX (P := (PySem.Challenge.rw_voicefold_k11_ballots_checked).prog) (w := w) KX N hmg c
    exact ⟨K, fd, [], KX, hb, hF⟩


