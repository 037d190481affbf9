import PyProof.Rows.All
import Wide.All
import OpenK.AllK
import Wide.FinOn
import HandS.ForMost
import HandS.ForExc
import HandS.Lambda
import HandS.HeadHook4
import PySem.Challenge.RW_voicefold_k03_shares_made
import HandS.Words
import HandS.More
import HandS.Wide
import HandS.TupAny
import HandS.Style
import HandS.IsInst
import HandS.ExcCtx
import HandS.Flow
import HandS.Walk
import HandS.Zip
import HandS.Defaults
import HandS.EndBits
import HandS.HeadEnd
import HandS.Head0
import HandS.Head1
import HandS.Head2
import HandS.HeadHook1
import HandS.HeadHook2
import HandS.ExcInit
import HandS.ExcField
import KE.KExcIs
import HandS.Iter
import HandS.TupLen
import HandS.WordsDict
import HandS.Small
import HandS.DictComp
import KE.KDictWalk
import KE.KDictPairs
import KE.GoesEnum
import PyProof.CollectIter
import HandS.MakeKwOnly
import HandS.SortKw
import HandS.EndOwn
import PyProof.Rows.FactsExc_KeyError
import KE.KNestM
import KE.KSortTupUse
import KE.KDictCopyH
import KE.KDictSum
import KE.KDictZip
import PyProof.ReprRoads
import HandS.Ends
import KE.DataFind
import HandS.Strs
import PyProof.AutoSeq1
import PyProof.EqKinds
import HandS.TupMul
import HandS.SetBool
import HandS.SetFor
import HandS.Sort
import HandS.Finally
import HandS.TryMany
import HandS.ListItems
import KE.KDictItemsList
import HandS.DictSubView
import HandS.Text
import KE.DataMinMax
import HandS.Conv
import HandS.HeadHook3
import KE.GoesMore
import KE.GoesZip
import PyProof.TupleOfSeq
import KE.KEqDict
import PyProof.NeKinds
import PyProof.TupleOfStr
import HandS.TupSets
import HandS.HotCalls
import KE.KDictLaw
import PyProof.InstNe
import HandS.OwnEq
import HandS.Exc
import HandS.ClsMeth
import HandS.FStr
import KE.KCallOwn
import HandS.MakeKw
import PyProof.StrBlock2
import PyProof.ReprLen
import PyProof.StrLawsRepr
set_option Elab.async false
set_option linter.all false
set_option autoImplicit false
set_option maxRecDepth 100000
set_option maxHeartbeats 0
namespace VF
open PySem PySem.Spec PyProof.Rows L2
section
variable {fa : List He.Fa} {fb : List (PySem.W.Frag → Bool)} {fn : List He.DefD} {K : PySem.W.Frag}
def obsE (fa : List He.Fa) (fb : List (PySem.W.Frag → Bool)) (fn : List He.DefD) (K : PySem.W.Frag) : He.AlD := (((fa.all fun f => f.ok K) && fn.all fun d => d.ok K) && fb.all fun f => f K, fn.map fun d => He.fnW K d.at_)
def SaysE (fa : List He.Fa) (fb : List (PySem.W.Frag → Bool)) (fn : List He.DefD) (K : PySem.W.Frag) : Prop := obsE fa fb fn K = He.valD fn
def obsEG (n : Nat) (fa : List He.Fa) (fb : List (PySem.W.Frag → Bool)) (fn : List He.DefD) (g : Addr → Option Obj) : He.AlD := obsE fa fb fn (He.frG g (He.asD g n))
def hookE (n : Nat) (fa : List He.Fa) (fb : List (PySem.W.Frag → Bool)) (fn : List He.DefD) : PySem.W.Hook where
  α := He.AlD
  obs := fun s => obsEG n fa fb fn s.heap.get?
  val := fun _ => He.valD fn
  says := fun _ h => ∃ K : PySem.W.Frag, K.In h ∧ SaysE fa fb fn K
  of := fun _ _ e => ⟨_, He.frG_in, e⟩
  keeps := fun _ _ _ ⟨K, hK, c⟩ k => ⟨K, PySem.W.Frag.In.keeps hK k, c⟩
theorem SaysE.d (c : SaysE fa fb fn K) : He.SaysD fa fn K := by
  have c1 : (((fa.all fun f => f.ok K) && fn.all fun d => d.ok K) && fb.all fun f => f K) = true := congrArg (fun z : He.AlD => z.1) c
  have c2 : (fn.map fun d => He.fnW K d.at_) = fn.map He.DefD.val := congrArg (fun z : He.AlD => z.2) c
  show ((fa.all fun f => f.ok K) && fn.all fun d => d.ok K, fn.map fun d => He.fnW K d.at_) = (true, fn.map He.DefD.val)
  rw [(Bool.and_eq_true_iff.mp c1).1, c2]
theorem SaysE.more (c : SaysE fa fb fn K) (i : Nat) {f : PySem.W.Frag → Bool} (h : fb[i]? = some f) : f K = true := by
  have c1 : (((fa.all fun f => f.ok K) && fn.all fun d => d.ok K) && fb.all fun f => f K) = true := congrArg (fun z : He.AlD => z.1) c
  exact List.all_eq_true.mp (Bool.and_eq_true_iff.mp c1).2 f (List.mem_of_getElem? h)
end
def oexB (K : PySem.W.Frag) (C : Addr) : Bool := (match K.lookup C with
  | some ⟨.type "type", _, .cls cd, sl⟩ => (match cd.mro, sl.toList with
    | .ref C' :: bm, [_, _, _, _, some (.builtin n), _] => C' == C && n == "ValueError.__new__" && !cd.hasDel && cd.hasDict && PySem.HandSPX.refsVE bm
    | _, _ => false)
  | _ => false) && (He.eqO (PySem.W.findIn K (.ref C) "__setattr__") (some (some (.builtin "object.__setattr__"))) && (decide (PySem.W.subIn K (.ref C) (.type "BaseException") = some true) && (decide (PySem.W.typeIn K (.ref C) = some (.type "type")) && PySem.W.keepIn K (.ref C))))
def excKB (K : PySem.W.Frag) (C : Addr) : Bool := (PySem.W.clsIn K C).isSome && (He.eqO (PySem.W.findIn K (.ref C) "__getattribute__") (some (some (.builtin "BaseException.__getattribute__"))) && (He.eqO (PySem.W.findIn K (.ref C) "__getattr__") (some none) && (decide (PySem.W.subIn K (.ref C) (.type "BaseException") = some true) && (PySem.W.hasDictIn K C && (He.eqO (PySem.W.findIn K (.ref C) "__class__") (some (some (.builtin "object.__class__"))) && (He.eqO (PySem.W.specialIn K (.builtin "object.__class__") "__get__") (some (some (.builtin "getset_descriptor.__get__"))) && (decide (PySem.W.takesIn K (.builtin "object.__class__") = some true) && decide (PySem.W.mroIn K C (.type "object") = some true))))))))
def erB (c top f : Str) (K : PySem.W.Frag) : Bool := oexB K (He.ga K c) && (He.eqO (PySem.W.findIn K (.ref (He.ga K c)) f) (some none) && (He.eqO (PySem.W.findIn K (.ref (He.ga K c)) "__init__") (some (some (.ref (He.fAd K (top, some "__init__"))))) && (decide (PySem.W.typeIn K (.ref (He.fAd K (top, some "__init__"))) = some (.type "function")) && excKB K (He.ga K c))))
def isXB (c d : Str) (b : Bool) (K : PySem.W.Frag) : Bool := decide (PySem.W.kitOne K (.ref (He.ga K c)) (.ref (He.ga K d)) = some b)
def hdB (c d : Str) (b : Bool) (K : PySem.W.Frag) : Bool := decide (PySem.W.exmOne K (.ref (He.ga K d)) (.ref (He.ga K c)) = some b)
def xfB (c f : Str) (K : PySem.W.Frag) : Bool := excKB K (He.ga K c) && He.eqO (PySem.W.findIn K (.ref (He.ga K c)) f) (some none)
def insKB (K : PySem.W.Frag) (C : Addr) : Bool := PySem.W.plainGet K C Str.empty && (PySem.W.hasDictIn K C && (PySem.W.plainOver K C && (He.eqO (PySem.W.findIn K (.ref C) "__setattr__") (some (some (.builtin "object.__setattr__"))) && (He.eqO (PySem.W.findIn K (.ref C) "__class__") (some (some (.builtin "object.__class__"))) && (He.eqO (PySem.W.specialIn K (.builtin "object.__class__") "__get__") (some (some (.builtin "getset_descriptor.__get__"))) && (decide (PySem.W.takesIn K (.builtin "object.__class__") = some true) && decide (PySem.W.mroIn K C (.type "object") = some true)))))))
def kinds7 : List String := ["NoneType", "bool", "int", "str", "tuple", "list", "dict"]
def isoB (S : Str) (l : List Str) (K : PySem.W.Frag) : Bool := kinds7.all (fun t => decide (PySem.W.kitOne K (.type t) (.ref (He.ga K S)) = some false)) && l.all fun c => insKB K (He.ga K c) && decide (PySem.W.kitOne K (.ref (He.ga K c)) (.ref (He.ga K S)) = some (c == S))
def isjB (T : String) (l : List Str) (K : PySem.W.Frag) : Bool := l.all fun c => insKB K (He.ga K c) && decide (PySem.W.kitOne K (.ref (He.ga K c)) (.type T) = some false)
def eqnB (c : Str) (K : PySem.W.Frag) : Bool := He.eqO (PySem.W.findIn K (.ref (He.ga K c)) "__ne__") (some (some (.builtin "object.__ne__"))) && decide (PySem.W.subIn K (.ref (He.ga K c)) (.type "object") = some true)
def clfB (top m : Str) (K : PySem.W.Frag) : Bool := PySem.W.readsIn K (He.ga K top) (.type "type") && (He.eqO (PySem.W.specialIn K (.ref (He.ga K top)) "__getattribute__") (some (some (.builtin "type.__getattribute__"))) && ((match PySem.W.findCls K (.ref (He.ga K top)) (.type "type") m with
  | some (.val v) => decide (v = .ref (He.fAd K (top, some m)))
  | _ => false) && PySem.W.keepIn K (.ref (He.fAd K (top, some m)))))
def ersB (c : Str) (fs : List Str) (K : PySem.W.Frag) : Bool := oexB K (He.ga K c) && (fs.all (fun f => He.eqO (PySem.W.findIn K (.ref (He.ga K c)) f) (some none)) && (He.eqO (PySem.W.findIn K (.ref (He.ga K c)) "__init__") (some (some (.ref (He.fAd K (c, some "__init__"))))) && decide (PySem.W.typeIn K (.ref (He.fAd K (c, some "__init__"))) = some (.type "function"))))
end VF
namespace VF
open PySem PySem.Spec PyProof.Rows L2
end VF
namespace VF
open PySem PySem.Spec PyProof.Rows L2
def keyCs (kvs : List (Str × He.Dv)) : List Str := kvs.map (·.1)
abbrev Tb : Type := Str × List (Str × He.Dv)
def SaysU (fa : List He.Fa) (fb : List (PySem.W.Frag → Bool)) (fn : List He.DefD) (ts : List Tb) (w : World) (K : PySem.W.Frag) : Prop :=
  SaysE fa fb fn K ∧ (ts.map fun t => (He.dicW K (He.ga K t.1), He.valsB K (He.ga K t.1) t.2)) = ts.map fun t => (some (He.keysIn w.params (keyCs t.2)), true)
end VF
namespace VF
open PySem PySem.Spec PyProof.Rows L2
section
variable {fa : List He.Fa} {fb : List (PySem.W.Frag → Bool)} {fn : List He.DefD}
def obsEAG (n : Nat) (fa : List He.Fa) (fb : List (PySem.W.Frag → Bool)) (fn : List He.DefD) (g : Addr → Option Obj) : He.AlD := obsE fa fb fn (He.frG g (He.asD g n ++ [cStatics]))
def hookEA (n : Nat) (fa : List He.Fa) (fb : List (PySem.W.Frag → Bool)) (fn : List He.DefD) : PySem.W.Hook where
  α := He.AlD
  obs := fun s => obsEAG n fa fb fn s.heap.get?
  val := fun _ => He.valD fn
  says := fun _ h => ∃ K : PySem.W.Frag, K.In h ∧ SaysE fa fb fn K
  of := fun _ _ e => ⟨_, He.frG_in, e⟩
  keeps := fun _ _ _ ⟨K, hK, c⟩ k => ⟨K, PySem.W.Frag.In.keeps hK k, c⟩
theorem obsEAG_eq {n : Nat} {g : Addr → Option Obj} {s : Shared} (h : ∀ a, g a = s.heap.get? a) : obsEAG n fa fb fn g = (hookEA n fa fb fn).obs s := by
  have e : g = s.heap.get? := funext h
  rw [e] <;> rfl
end
end VF
namespace K03
open PySem PySem.Spec PyProof.Rows L2 VF
def topS (i : Nat) : Stmt := (PySem.Challenge.pw_voicefold_k03_shares_made).main.body.getD i (.Pass ⟨0, 0, 0, 0⟩)
abbrev xs_l_cell_at : Stmt := topS 8
abbrev xs_l_well : Stmt := topS 9
abbrev xs_l_draw : Stmt := topS 10
abbrev xs_l_one : Stmt := topS 11
abbrev xs_l_number : Stmt := topS 13
abbrev xs_l_lowest : Stmt := topS 12
abbrev xs_common_part : Stmt := topS 5
abbrev xs_Share_initX : Stmt := inClass (topS 6) 0
abbrev xs_Share_repr : Stmt := inClass (topS 6) 2
abbrev xs_Share_str : Stmt := inClass (topS 6) 3
abbrev xs_l_shown : Stmt := topS 15
abbrev xs_Share_eqX : Stmt := inClass (topS 6) 1
abbrev xs_l_refused : Stmt := topS 14
abbrev xs_law_k03 : Stmt := topS 16
def xd_l_cell_at : He.DefD := ⟨("_law_cell_at", none), "_law_cell_at", "_law_cell_at", defArgs xs_l_cell_at, defBody xs_l_cell_at, defScope xs_l_cell_at, [], []⟩
def xd_l_well : He.DefD := ⟨("_law_well", none), "_law_well", "_law_well", defArgs xs_l_well, defBody xs_l_well, defScope xs_l_well, [], []⟩
def xd_l_draw : He.DefD := ⟨("_law_draw", none), "_law_draw", "_law_draw", defArgs xs_l_draw, defBody xs_l_draw, defScope xs_l_draw, [], []⟩
def xd_l_one : He.DefD := ⟨("_law_one", none), "_law_one", "_law_one", defArgs xs_l_one, defBody xs_l_one, defScope xs_l_one, [], []⟩
def xd_l_number : He.DefD := ⟨("_law_number", none), "_law_number", "_law_number", defArgs xs_l_number, defBody xs_l_number, defScope xs_l_number, [], []⟩
def xd_l_lowest : He.DefD := ⟨("_law_lowest", none), "_law_lowest", "_law_lowest", defArgs xs_l_lowest, defBody xs_l_lowest, defScope xs_l_lowest, [], []⟩
def xd_common_part : He.DefD := ⟨("common_part", none), "common_part", "common_part", defArgs xs_common_part, defBody xs_common_part, defScope xs_common_part, [], []⟩
def xd_Share_initX : He.DefD := ⟨("Share", some "__init__"), "__init__", "Share.__init__", defArgs xs_Share_initX, defBody xs_Share_initX, defScope xs_Share_initX, [.int 1], []⟩
def xd_Share_repr : He.DefD := ⟨("Share", some "__repr__"), "__repr__", "Share.__repr__", defArgs xs_Share_repr, defBody xs_Share_repr, defScope xs_Share_repr, [], []⟩
def xd_Share_str : He.DefD := ⟨("Share", some "__str__"), "__str__", "Share.__str__", defArgs xs_Share_str, defBody xs_Share_str, defScope xs_Share_str, [], []⟩
def xd_l_shown : He.DefD := ⟨("_law_shown", none), "_law_shown", "_law_shown", defArgs xs_l_shown, defBody xs_l_shown, defScope xs_l_shown, [], []⟩
def xd_Share_eqX : He.DefD := ⟨("Share", some "__eq__"), "__eq__", "Share.__eq__", defArgs xs_Share_eqX, defBody xs_Share_eqX, defScope xs_Share_eqX, [], []⟩
def xd_l_refused : He.DefD := ⟨("_law_refused", none), "_law_refused", "_law_refused", defArgs xs_l_refused, defBody xs_l_refused, defScope xs_l_refused, [], []⟩
def xd_law_k03 : He.DefD := ⟨("law", none), "law", "law", defArgs xs_law_k03, defBody xs_law_k03, defScope xs_law_k03, [], []⟩
abbrev xs_PE : Stmt := inClass (topS 2) 0
def xd_PE : He.DefD := ⟨("PollError", some "__init__"), "__init__", "PollError.__init__", defArgs xs_PE, defBody xs_PE, defScope xs_PE, [.str "refused"], []⟩
abbrev xs_NS : Stmt := inClass (topS 3) 0
def xd_NS : He.DefD := ⟨("NoShare", some "__init__"), "__init__", "NoShare.__init__", defArgs xs_NS, defBody xs_NS, defScope xs_NS, [], []⟩
def fnL : List He.DefD := [xd_l_cell_at, xd_l_well, xd_l_draw, xd_l_one, xd_l_number, xd_l_lowest, xd_common_part, xd_Share_initX, xd_Share_repr, xd_Share_str, xd_l_shown, xd_Share_eqX, xd_l_refused, xd_law_k03, xd_PE, xd_NS]
def faL : List He.Fa := [.glo "_law_cell_at", .glo "_law_well", .glo "_law_draw", .glo "_law_one", .glo "_law_number", .glo "_law_lowest", .glo "common_part", .glo "Share", .glo "Share", .glo "Share", .glo "_law_shown", .glo "Share", .glo "_law_refused", .glo "law", .free "abs", .free "int", .free "isinstance", .free "len", .free "range", .free "repr", .free "str", .cls "Share", .mkr "Share", .noat "Share" "num", .noat "Share" "over", .meth "Share" "__eq__", .meth "Share" "__repr__", .meth "Share" "__str__", .glo "NoShare", .glo "PollError", .glo "Share", .free "ValueError"]
abbrev Rw : PySem.W.OpenRow := PySem.W.OpenLaw.row PySem.Challenge.rw_voicefold_k03_shares_made
def fbL : List (PySem.W.Frag → Bool) := [ersB "NoShare" ["why", "num", "over"], clfB "PollError" "__init__", hdB "PollError" "NoShare" true, isXB "NoShare" "NoShare" true, isoB "Share" ["Share"], erB "NoShare" "NoShare" "why", xfB "NoShare" "num", xfB "NoShare" "over", eqnB "Share"]
abbrev hkX : PySem.W.Hook := VF.hookEA 4 faL fbL fnL
def obX (s : PySem.W.SharedT) : He.AlD := VF.obsEAG 4 faL fbL fnL (HandSHeadRun.getT s)
theorem obX_eq (s : PySem.W.SharedT) : obX s = hkX.obs s.abs := VF.obsEAG_eq (HandSHeadRun.getT_eq s)
def nmX : List Str := (["_wall", "PollError", "NoShare", "common_part", "Share", "_law_cell_at", "_law_well", "_law_draw", "_law_one", "_law_lowest", "_law_number", "_law_refused", "_law_shown"] : List Str)
theorem runX (w : World) : HandSHeadRun.RunEq Rw (PySem.W.view Rw.prog [16]) hkX obX 20000 nmX w := by
  intro os
  kernel_rfl
end K03
namespace VF
open PySem PySem.Spec PyProof.Rows L2
abbrev St := L2.St
inductive D where
  | non
  | bl (b : Bool)
  | int (i : Int)
  | str (x : Str)
  | tup (xs : List D)
  | lst (xs : List D)
  | dck (ks : List Key) (ds : List D)
  | dct (ks : List (List Key)) (ds : List D)
  | ins (c : Str) (fs : List Str) (ds : List D)
  | exn (c : Str) (fs : List Str) (ds : List D) (a dx : Addr)
  | tpp (xs : List D)
structure Xn where
  i : Nat
  a : Addr
  dx : Addr
  fs : List Str
  ds : List D
structure Md where
  P : Program
  w : World
  base : Heap
  K : PySem.W.Frag
  mg : Str → Option Value
  cls : List Str
  xn : Option Xn
  T : List (Addr × Str)
def KLst (K : PySem.W.Frag) (a : Addr) (vs : List V) : Prop := ∃ (o : Obj) (its : Array Value) (n : Nat), K.lookup a = some o ∧ o.cls = .type "list" ∧ o.dict = none ∧ o.data = .seq its n ∧ its.size ≤ sizeLine ∧ Vals vs its.toList
mutual
def Rep (M : Md) (F : Addr → Prop) (H : Hp) : D → V → Prop
  | .non, v => v = .non
  | .bl b, v => v = .bl b
  | .int i, v => v = .int i
  | .str x, v => v = .str x
  | .tup ds, v => ∃ a vs, v = .ref a ∧ (SqT M.K H a vs ∧ (ds.length = 2 → H a = some (.tup vs))) ∧ RepL M F H ds vs
  | .lst ds, v => ∃ a vs, v = .ref a ∧ ((F a ∧ Rd H a (.lst vs)) ∨ KLst M.K a vs) ∧ RepL M F H ds vs
  | .dck ks ds, v => ∃ a vs, v = .ref a ∧ F a ∧ Rd H a (.dK vs) ∧ vs.map (·.1) = ks ∧ RepL M F H ds (vs.map (·.2))
  | .dct ks ds, v => ∃ a vs, v = .ref a ∧ F a ∧ Rd H a (.dT vs) ∧ vs.map (·.1) = ks ∧ RepL M F H ds (vs.map (·.2))
  | .ins c fs ds, v => ∃ a C dx vs, v = .ref a ∧ F a ∧ (c ∈ M.cls ∧ M.mg c = some (.ref C)) ∧ H a = some (.ins C dx vs) ∧ vs.map (·.1) = fs ∧ RepL M F H ds (vs.map (·.2))
  | .exn c fs ds a dx, v => v = .ref a ∧ ∃ C vs, M.mg c = some (.ref C) ∧ F dx ∧ H dx = some (.xd vs) ∧ vs.map (·.1) = fs ∧ RepL M F H ds (vs.map (·.2))
  | .tpp ds, v => ∃ a vs o, v = .ref a ∧ F a ∧ H a = some (.frz o (.tup vs)) ∧ o.dict = none ∧ RepL M F H ds vs
def RepL (M : Md) (F : Addr → Prop) (H : Hp) : List D → List V → Prop
  | [], vs => vs = []
  | d :: ds, vs => ∃ v r, vs = v :: r ∧ Rep M F H d v ∧ RepL M F H ds r
end
def IsDD : HO → Prop
  | .dK _ => True
  | .dT _ => True
  | _ => False
def IsDH : HO → Prop
  | .dK _ => True
  | .dT _ => True
  | .tbl _ => True
  | _ => False
def nTB : HO → Prop
  | .tbl _ => False
  | _ => True
theorem IsDD.h {o : HO} (h : IsDD o) : IsDH o := by
  unfold IsDD at h
  split at h
  · trivial
  · trivial
  · exact h.elim
def TabF (F : Addr → Prop) (H : Hp) (P : Addr) (q : Str) : Prop := F P ∧ ∃ ps : Array Value, H P = some (.tbl ps) ∧ TriplesOk ps.toList ∧ ∀ (pos : Pos) (cv : Value), codeAmong pos ps.toList = some cv → ∃ c, cv = .ref c ∧ F c ∧ H c = some (LamX.CodeO c q)
theorem TabF.kept {F F' : Addr → Prop} {H H' : Hp} (f : ∀ a, F a → F' a) (k : ∀ a o, F a → H a = some o → ¬ IsDD o → H' a = some o) {P : Addr} {q : Str} (t : TabF F H P q) : TabF F' H' P q := by
  unfold TabF at t ⊢
  rcases t with ⟨h0, ps, h1, h2, h3⟩
  have n1 : ¬ IsDD (.tbl ps) := fun z => z
  have e1 : H' P = some (.tbl ps) := k P (.tbl ps) h0 h1 n1
  have e3 : ∀ (pos : Pos) (cv : Value), codeAmong pos ps.toList = some cv → ∃ c, cv = .ref c ∧ F' c ∧ H' c = some (LamX.CodeO c q) := fun pos cv hc => by
    obtain ⟨c, e, hf, hco⟩ := h3 pos cv hc
    have n2 : ¬ IsDD (LamX.CodeO c q) := fun z => z
    exact ⟨c, e, f c hf, k c (LamX.CodeO c q) hf hco n2⟩
  exact And.intro (f P h0) (Exists.intro ps (And.intro e1 (And.intro h2 e3)))
def Kpd (f : Prop) (o : HO) (x : Option HO) : Prop := x = some o ∨ (f ∧ IsDH o ∧ ((IsDD o ∧ ∃ od, x = some (.frz od o)) ∨ ∃ ps ps', o = .tbl ps ∧ x = some (.tbl ps')))
theorem Kpd.no {f : Prop} {o : HO} {x : Option HO} (h : Kpd f o x) (n : ¬ f) : x = some o := h.elim id fun z => (n z.1).elim
theorem Kpd.nd {f : Prop} {o : HO} {x : Option HO} (h : Kpd f o x) (n : ¬ IsDH o) : x = some o := h.elim id fun z => (n z.2.1).elim
structure Ext (F : Addr → Prop) (H : Hp) (F' : Addr → Prop) (H' : Hp) : Prop where
  fro : ∀ a, F a → F' a
  rd : ∀ a u, F a → nTB u → Rd H a u → Rd H' a u
  ex : ∀ a o, F a → ¬ IsDH o → H a = some o → H' a = some o
  tup : ∀ a vs, Rd H a (.tup vs) → Rd H' a (.tup vs)
  tp : ∀ a vs, H a = some (.tup vs) → H' a = some (.tup vs)
theorem Ext.refl (F : Addr → Prop) (H : Hp) : Ext F H F H := ⟨fun _ h => h, fun _ _ _ _ h => h, fun _ _ _ _ h => h, fun _ _ h => h, fun _ _ h => h⟩
theorem Ext.trans {F F1 F2 : Addr → Prop} {H H1 H2 : Hp} (a : Ext F H F1 H1) (b : Ext F1 H1 F2 H2) : Ext F H F2 H2 :=
  ⟨fun x h => b.fro x (a.fro x h), fun x u h n r => b.rd x u (a.fro x h) n (a.rd x u h n r), fun x o h n r => b.ex x o (a.fro x h) n (a.ex x o h n r), fun x vs r => b.tup x vs (a.tup x vs r), fun x vs r => b.tp x vs (a.tp x vs r)⟩
theorem Ext.sqT {F F' : Addr → Prop} {H H' : Hp} (x : Ext F H F' H') {K : PySem.W.Frag} {a : Addr} {vs : List V} (h : SqT K H a vs) : SqT K H' a vs :=
  h.elim (fun r => .inl (x.tup a vs r)) .inr
mutual
theorem Rep.mono {M : Md} {F F' : Addr → Prop} {H H' : Hp} (x : Ext F H F' H') : ∀ (d : D) {v : V}, Rep M F H d v → Rep M F' H' d v
  | .non, _, h => by unfold Rep at h ⊢; exact h
  | .bl _, _, h => by unfold Rep at h ⊢; exact h
  | .int _, _, h => by unfold Rep at h ⊢; exact h
  | .str _, _, h => by unfold Rep at h ⊢; exact h
  | .tup ds, _, h => by
    unfold Rep at h ⊢
    obtain ⟨a, vs, e, q, r⟩ := h
    exact ⟨a, vs, e, ⟨x.sqT q.1, fun z => x.tp a vs (q.2 z)⟩, RepL.mono x ds r⟩
  | .lst ds, _, h => by
    unfold Rep at h ⊢
    obtain ⟨a, vs, e, q, r⟩ := h
    exact ⟨a, vs, e, q.imp (fun q => ⟨x.fro a q.1, x.rd a _ q.1 trivial q.2⟩) id, RepL.mono x ds r⟩
  | .dck ks ds, _, h => by
    unfold Rep at h ⊢
    obtain ⟨a, vs, e, f, q, k, r⟩ := h
    exact ⟨a, vs, e, x.fro a f, x.rd a _ f trivial q, k, RepL.mono x ds r⟩
  | .dct ks ds, _, h => by
    unfold Rep at h ⊢
    obtain ⟨a, vs, e, f, q, k, r⟩ := h
    exact ⟨a, vs, e, x.fro a f, x.rd a _ f trivial q, k, RepL.mono x ds r⟩
  | .ins c fs ds, _, h => by
    unfold Rep at h ⊢
    obtain ⟨a, C, dx, vs, e, f, m, q, k, r⟩ := h
    exact ⟨a, C, dx, vs, e, x.fro a f, m, x.ex a _ f (fun z => z) q, k, RepL.mono x ds r⟩
  | .exn c fs ds a dx, _, h => by
    unfold Rep at h ⊢
    obtain ⟨e, C, vs, m, f, q, k, r⟩ := h
    exact ⟨e, C, vs, m, x.fro dx f, x.ex dx _ f (fun z => z) q, k, RepL.mono x ds r⟩
  | .tpp ds, _, h => by
    unfold Rep at h ⊢
    obtain ⟨a, vs, o, e, f, q, n, r⟩ := h
    exact ⟨a, vs, o, e, x.fro a f, x.ex a _ f (fun z => z) q, n, RepL.mono x ds r⟩
theorem RepL.mono {M : Md} {F F' : Addr → Prop} {H H' : Hp} (x : Ext F H F' H') : ∀ (ds : List D) {vs : List V}, RepL M F H ds vs → RepL M F' H' ds vs
  | [], _, h => by unfold RepL at h ⊢; exact h
  | d :: ds, _, h => by
    unfold RepL at h ⊢
    obtain ⟨v, r, e, p, q⟩ := h
    exact ⟨v, r, e, Rep.mono x d p, RepL.mono x ds q⟩
end
def Cont (M : Md) (F : Addr → Prop) (H : Hp) (P : HO → Prop) : D → Prop
  | .lst ds => ∃ vs, P (.lst vs) ∧ RepL M F H ds vs
  | .dck ks ds => ∃ vs, P (.dK vs) ∧ vs.map (·.1) = ks ∧ RepL M F H ds (vs.map (·.2))
  | .dct ks ds => ∃ vs, P (.dT vs) ∧ vs.map (·.1) = ks ∧ RepL M F H ds (vs.map (·.2))
  | .ins c fs ds => ∃ C dx vs, (c ∈ M.cls ∧ M.mg c = some (.ref C)) ∧ P (.ins C dx vs) ∧ vs.map (·.1) = fs ∧ RepL M F H ds (vs.map (·.2))
  | _ => False
theorem Cont.mono {M : Md} {F F' : Addr → Prop} {H H' : Hp} {P P' : HO → Prop} (x : Ext F H F' H') (hp : ∀ u, P u → P' u) : ∀ {d : D}, Cont M F H P d → Cont M F' H' P' d
  | .lst ds, ⟨vs, p, r⟩ => ⟨vs, hp _ p, RepL.mono x ds r⟩
  | .dck ks ds, ⟨vs, p, k, r⟩ => ⟨vs, hp _ p, k, RepL.mono x ds r⟩
  | .dct ks ds, ⟨vs, p, k, r⟩ => ⟨vs, hp _ p, k, RepL.mono x ds r⟩
  | .ins c fs ds, ⟨C, dx, vs, m, p, k, r⟩ => ⟨C, dx, vs, m, hp _ p, k, RepL.mono x ds r⟩
theorem Cont.some_of {M : Md} {F : Addr → Prop} {H : Hp} {P : HO → Prop} : ∀ {d : D}, Cont M F H P d → ∃ u, P u ∧ Mut (some u)
  | .lst ds, ⟨vs, p, r⟩ => ⟨_, p, trivial⟩
  | .dck ks ds, ⟨vs, p, k, r⟩ => ⟨_, p, trivial⟩
  | .dct ks ds, ⟨vs, p, k, r⟩ => ⟨_, p, trivial⟩
  | .ins c fs ds, ⟨C, dx, vs, m, p, k, r⟩ => ⟨_, p, trivial⟩
theorem Cont.rep {M : Md} {F : Addr → Prop} {H : Hp} {a : Addr} (f : F a) : ∀ {d : D}, Cont M F H (fun u => H a = some u) d → Rep M F H d (.ref a)
  | .lst ds, ⟨vs, p, r⟩ => by unfold Rep; exact ⟨a, vs, rfl, .inl ⟨f, .inl p⟩, r⟩
  | .dck ks ds, ⟨vs, p, k, r⟩ => by unfold Rep; exact ⟨a, vs, rfl, f, .inl p, k, r⟩
  | .dct ks ds, ⟨vs, p, k, r⟩ => by unfold Rep; exact ⟨a, vs, rfl, f, .inl p, k, r⟩
  | .ins c fs ds, ⟨C, dx, vs, m, p, k, r⟩ => by unfold Rep; exact ⟨a, C, dx, vs, rfl, f, m, p, k, r⟩
def noIns : HO → Bool
  | .ins _ _ _ => false
  | _ => true
def Rdx (H : Hp) (a : Addr) (u : HO) : Prop := H a = some u ∨ ∃ o, H a = some (.frz o u) ∧ noIns u = true
theorem Rdx.rd {H : Hp} {a : Addr} {u : HO} (h : Rdx H a u) : Rd H a u := h.elim .inl fun ⟨o, e, _⟩ => .inr ⟨o, e⟩
theorem Rdx.ins {H : Hp} {a C dx : Addr} {fs : List (Str × V)} (h : Rdx H a (.ins C dx fs)) : H a = some (.ins C dx fs) := h.elim id fun ⟨o, _, e⟩ => by cases e
inductive Sl where
  | val (d : D)
  | own (d : D)
  | ref (d : D)
  | rd (d : D)
def Sl.d : Sl → D
  | .val d => d
  | .own d => d
  | .ref d => d
  | .rd d => d
abbrev En := List (Option Sl)
def gt (ρ : En) (i : Nat) : Option Sl := (ρ[i]?).join
def gv (σ : St) (i : Nat) : Option V := (σ[i]?).join
def SlR (M : Md) (F : Addr → Prop) (H : Hp) : Sl → V → Prop
  | .val d, v => Rep M F H d v
  | .own d, v => ∃ a, v = .ref a ∧ ¬ F a ∧ Cont M F H (fun u => H a = some u) d
  | .ref d, v => ∃ a, v = .ref a ∧ ¬ F a ∧ Cont M F H (fun u => H a = some u) d
  | .rd d, v => ∃ a, v = .ref a ∧ ¬ F a ∧ Cont M F H (Rdx H a) d
def Sl.top : Sl → Bool
  | .val _ => false
  | _ => true
def OwnAt (σ : St) (ρ : En) (a : Addr) : Prop := ∃ i d, gt ρ i = some (.own d) ∧ gv σ i = some (.ref a)
def RefAt (σ : St) (ρ : En) (a : Addr) : Prop := ∃ i d, gt ρ i = some (.ref d) ∧ gv σ i = some (.ref a)
def TabOk (M : Md) (F : Addr → Prop) (H : Hp) : Prop := ∀ p ∈ M.T, TabF F H p.1 p.2
def XnOk (M : Md) (F : Addr → Prop) (H : Hp) (σ : St) : Prop := (∀ t, M.xn = some t → gv σ t.i = some (.ref t.a) ∧ F t.dx ∧ ∃ vs, H t.dx = some (.xd vs) ∧ vs.map (·.1) = t.fs ∧ RepL M F H t.ds (vs.map (·.2))) ∧ TabOk M F H
theorem XnOk.ext {M : Md} {F F' : Addr → Prop} {H H' : Hp} {σ : St} (h : XnOk M F H σ) (x : Ext F H F' H') (ht : ∀ P q, TabF F H P q → TabF F' H' P q) : XnOk M F' H' σ := ⟨fun t e => by
  obtain ⟨h1, h2, vs, h3, h4, h5⟩ := h.1 t e
  exact ⟨h1, x.fro _ h2, vs, x.ex _ _ h2 (fun z => z) h3, h4, RepL.mono x _ h5⟩, fun p hp => ht _ _ (h.2 p hp)⟩
theorem XnOk.extT {M : Md} {F F' : Addr → Prop} {H H' : Hp} {σ : St} (h : XnOk M F H σ) (x : Ext F H F' H') (ht : TabOk M F' H') : XnOk M F' H' σ := ⟨fun t e => by
  obtain ⟨h1, h2, vs, h3, h4, h5⟩ := h.1 t e
  exact ⟨h1, x.fro _ h2, vs, x.ex _ _ h2 (fun z => z) h3, h4, RepL.mono x _ h5⟩, ht⟩
theorem XnOk.at {M : Md} {F : Addr → Prop} {H : Hp} {σ σ' : St} (h : XnOk M F H σ) (e : ∀ t, M.xn = some t → gv σ' t.i = gv σ t.i) : XnOk M F H σ' := ⟨fun t q => by
  obtain ⟨h1, h2⟩ := h.1 t q
  exact ⟨(e t q).trans h1, h2⟩, h.2⟩
theorem XnOk.no {M : Md} {F : Addr → Prop} {H : Hp} {σ : St} (h : M.xn = none) (t : TabOk M F H) : XnOk M F H σ := ⟨fun t q => (by
  rw [h] at q
  cases q), t⟩
structure SR (M : Md) (F : Addr → Prop) (H : Hp) (σ : St) (ρ : En) : Prop where
  len : σ.length = ρ.length
  dom : ∀ a, F a → H a ≠ none
  slot : ∀ i s, gt ρ i = some s → ∃ v, gv σ i = some v ∧ SlR M F H s v
  dist : ∀ i j s t a, gt ρ i = some s → gt ρ j = some t → s.top = true → t.top = true → gv σ i = some (.ref a) → gv σ j = some (.ref a) → i = j
  xn : XnOk M F H σ
structure Stp (F : Addr → Prop) (H : Hp) (O R : Addr → Prop) (F' : Addr → Prop) (H' : Hp) (O' R' : Addr → Prop) : Prop where
  fro : ∀ a, F a → F' a
  keep : ∀ a o, H a = some o → ¬ O a → ¬ R a → Kpd (F a) o (H' a)
  dom : ∀ a, H' a = none → H a = none
  new : ∀ a, F' a → F a ∨ H a = none ∨ O a
  own : ∀ a, O' a → O a ∨ H a = none
  ref : ∀ a, R' a → R a
theorem Stp.refl (F : Addr → Prop) (H : Hp) (O R : Addr → Prop) : Stp F H O R F H O R := ⟨fun _ h => h, fun _ _ h _ _ => .inl h, fun _ h => h, fun _ h => .inl h, fun _ h => .inl h, fun _ h => h⟩
theorem Stp.trans {F F1 F2 O R O1 R1 O2 R2 : Addr → Prop} {H H1 H2 : Hp} (x : Stp F H O R F1 H1 O1 R1) (y : Stp F1 H1 O1 R1 F2 H2 O2 R2) : Stp F H O R F2 H2 O2 R2 := by
  refine ⟨fun a h => y.fro a (x.fro a h), fun a o h1 h2 h3 => ?_, fun a h => x.dom a (y.dom a h), fun a h => ?_, fun a h => ?_, fun a h => x.ref a (y.ref a h)⟩
  · have n1 : ¬ O1 a := fun z => by
      rcases x.own a z with q | q
      · exact h2 q
      · rw [h1] at q; cases q
    have n2 : ¬ R1 a := fun z => h3 (x.ref a z)
    have fb : F1 a → F a := fun f => by
      rcases x.new a f with q | q | q
      · exact q
      · rw [h1] at q; cases q
      · exact (h2 q).elim
    rcases x.keep a o h1 h2 h3 with e | ⟨f, id, ⟨dd, od, e⟩ | ⟨ps, ps1, eo, e⟩⟩
    · rcases y.keep a o e n1 n2 with e2 | ⟨f, r⟩
      · exact .inl e2
      · exact .inr ⟨fb f, r⟩
    · exact .inr ⟨f, id, .inl ⟨dd, od, (y.keep a _ e n1 n2).nd fun z => z⟩⟩
    · rcases y.keep a _ e n1 n2 with e2 | ⟨_, _, ⟨z, _⟩ | ⟨_, ps2, _, e2⟩⟩
      · exact .inr ⟨f, id, .inr ⟨ps, ps1, eo, e2⟩⟩
      · exact z.elim
      · exact .inr ⟨f, id, .inr ⟨ps, ps2, eo, e2⟩⟩
  · rcases y.new a h with q | q | q
    · exact x.new a q
    · exact .inr (.inl (x.dom a q))
    · rcases x.own a q with z | z
      · exact .inr (.inr z)
      · exact .inr (.inl z)
  · rcases y.own a h with q | q
    · exact x.own a q
    · exact .inr (x.dom a q)
section
variable {M : Md} {F F' : Addr → Prop} {H H' : Hp} {σ σ' : St} {ρ ρ' : En}
theorem SR.own_at (s : SR M F H σ ρ) {a : Addr} (h : OwnAt σ ρ a) : ¬ F a ∧ ∃ u, H a = some u ∧ Mut (some u) := by
  obtain ⟨i, d, h1, h2⟩ := h
  obtain ⟨v, h3, b, e, nf, c⟩ := s.slot i _ h1
  rw [h2] at h3
  cases h3
  cases e
  exact ⟨nf, c.some_of⟩
theorem SR.ref_at (s : SR M F H σ ρ) {a : Addr} (h : RefAt σ ρ a) : ¬ F a ∧ ∃ u, H a = some u ∧ Mut (some u) := by
  obtain ⟨i, d, h1, h2⟩ := h
  obtain ⟨v, h3, b, e, nf, c⟩ := s.slot i _ h1
  rw [h2] at h3
  cases h3
  cases e
  exact ⟨nf, c.some_of⟩
theorem SR.no_tup (s : SR M F H σ ρ) {a : Addr} {vs : List V} (h : Rd H a (.tup vs)) : ¬ OwnAt σ ρ a ∧ ¬ RefAt σ ρ a := by
  have key : ∀ u, H a = some u → Mut (some u) → False := fun u e m => by
    rcases h with h | ⟨o, h⟩
    · rw [h] at e; cases e; exact m
    · rw [h] at e; cases e; exact m
  exact ⟨fun z => by obtain ⟨_, u, e, m⟩ := s.own_at z; exact key u e m, fun z => by obtain ⟨_, u, e, m⟩ := s.ref_at z; exact key u e m⟩
theorem SR.ext (s : SR M F H σ ρ) {O' R' : Addr → Prop} (x : Stp F H (OwnAt σ ρ) (RefAt σ ρ) F' H' O' R') : Ext F H F' H' := by
  have k : ∀ a o, F a → H a = some o → Kpd (F a) o (H' a) := fun a o f e => x.keep a o e (fun z => (s.own_at z).1 f) fun z => (s.ref_at z).1 f
  refine ⟨x.fro, fun a u f nt r => ?_, fun a o f n e => (k a _ f e).nd n, fun a vs r => ?_, fun a vs r => (x.keep a _ r (s.no_tup (.inl r)).1 (s.no_tup (.inl r)).2).nd fun z => z⟩
  · rcases r with r | ⟨o, r⟩
    · rcases k a _ f r with e | ⟨_, _, ⟨_, od, e⟩ | ⟨ps, _, e, _⟩⟩
      · exact .inl e
      · exact .inr ⟨od, e⟩
      · rw [e] at nt; exact nt.elim
    · exact .inr ⟨o, (k a _ f r).nd fun z => z⟩
  · obtain ⟨n1, n2⟩ := s.no_tup r
    rcases r with r | ⟨o, r⟩
    · exact .inl ((x.keep a _ r n1 n2).nd fun z => z)
    · exact .inr ⟨o, (x.keep a _ r n1 n2).nd fun z => z⟩
end
def KpS : Option Sl → Option Sl → Prop
  | none, none => True
  | some (.val d), some (.val d') => d = d'
  | some (.own _), some (.own _) => True
  | some (.own _), some (.val _) => True
  | some (.ref _), some (.ref _) => True
  | some (.rd d), some (.rd d') => d = d'
  | _, _ => False
def Kp (ρ ρ' : En) : Prop := ρ.length = ρ'.length ∧ ∀ i, KpS (gt ρ i) (gt ρ' i)
theorem KpS.refl : ∀ s : Option Sl, KpS s s
  | none => trivial
  | some (.val _) => rfl
  | some (.own _) => trivial
  | some (.ref _) => trivial
  | some (.rd _) => rfl
theorem KpS.trans : ∀ {s t u : Option Sl}, KpS s t → KpS t u → KpS s u
  | none, none, none, _, _ => trivial
  | some (.val _), some (.val _), some (.val _), a, b => Eq.trans a b
  | some (.own _), some (.own _), some (.own _), _, _ => trivial
  | some (.own _), some (.own _), some (.val _), _, _ => trivial
  | some (.own _), some (.val _), some (.val _), _, _ => trivial
  | some (.ref _), some (.ref _), some (.ref _), _, _ => trivial
  | some (.rd _), some (.rd _), some (.rd _), a, b => Eq.trans a b
theorem Kp.refl (ρ : En) : Kp ρ ρ := ⟨rfl, fun _ => .refl _⟩
theorem Kp.trans {ρ ρ1 ρ2 : En} (a : Kp ρ ρ1) (b : Kp ρ1 ρ2) : Kp ρ ρ2 := ⟨a.1.trans b.1, fun i => (a.2 i).trans (b.2 i)⟩
theorem Kp.own {ρ ρ' : En} (k : Kp ρ ρ') {σ : St} {a : Addr} (h : OwnAt σ ρ' a) : OwnAt σ ρ a := by
  obtain ⟨i, d, h1, h2⟩ := h
  have z := k.2 i
  rw [h1] at z
  cases e : gt ρ i with
  | none => rw [e] at z; exact z.elim
  | some s =>
    rw [e] at z
    cases s with
    | own d' => exact ⟨i, d', e, h2⟩
    | _ => exact z.elim
theorem Kp.ref {ρ ρ' : En} (k : Kp ρ ρ') {σ : St} {a : Addr} (h : RefAt σ ρ' a) : RefAt σ ρ a := by
  obtain ⟨i, d, h1, h2⟩ := h
  have z := k.2 i
  rw [h1] at z
  cases e : gt ρ i with
  | none => rw [e] at z; exact z.elim
  | some s =>
    rw [e] at z
    cases s with
    | ref d' => exact ⟨i, d', e, h2⟩
    | _ => exact z.elim
structure Po (M : Md) (F : Addr → Prop) (H : Hp) (σ : St) (ρ : En) (F' : Addr → Prop) (H' : Hp) (ρ' : En) : Prop where
  stp : Stp F H (OwnAt σ ρ) (RefAt σ ρ) F' H' (OwnAt σ ρ') (RefAt σ ρ')
  sr : SR M F' H' σ ρ'
  kp : Kp ρ ρ'
section
variable {M : Md} {F F1 F2 : Addr → Prop} {H H1 H2 : Hp} {σ : St} {ρ ρ1 ρ2 : En}
theorem Po.refl (s : SR M F H σ ρ) : Po M F H σ ρ F H ρ := ⟨.refl _ _ _ _, s, .refl _⟩
theorem Po.trans (a : Po M F H σ ρ F1 H1 ρ1) (b : Po M F1 H1 σ ρ1 F2 H2 ρ2) : Po M F H σ ρ F2 H2 ρ2 :=
  ⟨a.stp.trans b.stp, b.sr, a.kp.trans b.kp⟩
theorem Po.ext (s : SR M F H σ ρ) (a : Po M F H σ ρ F1 H1 ρ1) : Ext F H F1 H1 := s.ext a.stp
end
structure Ex where
  cls : Str
  fs : List Str
  ds : List D
def ExR (M : Md) (F : Addr → Prop) (H : Hp) (x : Ex) (cls : Value) (d : Option Addr) : Prop :=
  ∃ C dx vs, M.mg x.cls = some (.ref C) ∧ cls = .ref C ∧ d = some dx ∧ F dx ∧ H dx = some (.xd vs) ∧ vs.map (·.1) = x.fs ∧ RepL M F H x.ds (vs.map (·.2))
inductive Rv where
  | val (d : D)
  | own (d : D)
def Rv.d : Rv → D
  | .val d => d
  | .own d => d
def RvR (M : Md) (H0 : Hp) (F : Addr → Prop) (H : Hp) : Rv → V → Prop
  | .val d, v => Rep M F H d v
  | .own d, v => ∃ a, v = .ref a ∧ ¬ F a ∧ H0 a = none ∧ Cont M F H (fun u => H a = some u) d
inductive Out (α : Type) where
  | ok (a : α) (ρ : En)
  | exc (x : Ex) (ρ : En)
  | bad
def Out.bind {α β : Type} (o : Out α) (f : α → En → Out β) : Out β := match o with
  | .ok a ρ => f a ρ
  | .exc x ρ => .exc x ρ
  | .bad => .bad
abbrev ES := En → Out Rv
def Want {α : Type} (M : Md) (W : WX) (F : Addr → Prop) (H : Hp) (σ : St) (ρ : En) (o : Out α) (Q : α → (Addr → Prop) → Hp → En → Prop) : Prop := match o with
  | .ok a ρ' => ∀ F' H', Po M F H σ ρ F' H' ρ' → Q a F' H' ρ'
  | .exc x ρ' => ∀ F' H' cls d, Po M F H σ ρ F' H' ρ' → ExR M F' H' x cls d → W cls d σ H'
  | .bad => False
def tE (M : Md) (W : WX) (φ : ES) : TE := fun σ H Q => ∃ F ρ, SR M F H σ ρ ∧ Want M W F H σ ρ (φ ρ) fun r F' H' _ => ∀ v, RvR M H F' H' r v → Q v H'
end VF
namespace VF
open PySem PySem.Spec PyProof.Rows L2
theorem PE_imp {X : Cx} {e : Expr} {t t' : TE} (h : PE X e t) (f : ∀ σ H Q, t' σ H Q → t σ H Q) : PE X e t' := ⟨fun pins s σ H Q I q => h.run pins s σ H Q I (f σ H Q q)⟩
theorem PT_imp {X : Cx} {e : Expr} {t t' : TT} (h : PT X e t) (f : ∀ σ H Q, t' σ H Q → t σ H Q) : PT X e t' := ⟨fun pins s σ H Q I q => h.run pins s σ H Q I (f σ H Q q)⟩
theorem PW_imp {X : Cx} {e : Expr} {t t' : TT} (h : PW X e t) (f : ∀ σ H Q, t' σ H Q → t σ H Q) : PW X e t' := ⟨fun whole pins s σ H Q I q => h.run whole pins s σ H Q I (f σ H Q q)⟩
theorem PS_imp {X : Cx} {e : Stmt} {t t' : TS} (h : PS X e t) (f : ∀ D σ H, t' D σ H → t D σ H) : PS X e t' := ⟨fun pins s σ H D I q => h.run pins s σ H D I (f D σ H q)⟩
theorem PSs_imp {X : Cx} {e : List Stmt} {t t' : TS} (h : PSs X e t) (f : ∀ D σ H, t' D σ H → t D σ H) : PSs X e t' := ⟨fun pins s σ H D I q => h.run pins s σ H D I (f D σ H q)⟩
theorem gt_set_self {ρ : En} {i : Nat} {s : Option Sl} (h : i < ρ.length) : gt (ρ.set i s) i = s := by
  unfold gt
  rw [List.getElem?_set_self h]
  rfl
theorem gt_set_ne {ρ : En} {i j : Nat} {s : Option Sl} (h : i ≠ j) : gt (ρ.set i s) j = gt ρ j := by
  unfold gt
  rw [List.getElem?_set_ne h]
theorem gv_set_self {σ : St} {i : Nat} {s : Option V} (h : i < σ.length) : gv (σ.set i s) i = s := by
  unfold gv
  rw [List.getElem?_set_self h]
  rfl
theorem gv_set_ne {σ : St} {i j : Nat} {s : Option V} (h : i ≠ j) : gv (σ.set i s) j = gv σ j := by
  unfold gv
  rw [List.getElem?_set_ne h]
theorem gt_lt {ρ : En} {i : Nat} {s : Sl} (h : gt ρ i = some s) : i < ρ.length := by
  unfold gt at h
  cases e : ρ[i]? with
  | none => rw [e] at h; cases h
  | some x => exact (List.getElem?_eq_some_iff.mp e).1
theorem gv_some {σ : St} {i : Nat} {v : V} (h : gv σ i = some v) : σ[i]? = some (some v) := by
  unfold gv at h
  cases e : σ[i]? with
  | none => rw [e] at h; cases h
  | some x => rw [e] at h; cases x with
    | none => cases h
    | some y => rw [show y = v from Option.some.inj h]
section
variable {M : Md} {F F' : Addr → Prop} {H H' : Hp} {σ : St} {ρ ρ' : En}
theorem SR.top_at (s : SR M F H σ ρ) {i : Nat} {t : Sl} (h : gt ρ i = some t) (ht : t.top = true) : ∃ a u, gv σ i = some (.ref a) ∧ ¬ F a ∧ H a = some u := by
  obtain ⟨v, e, r⟩ := s.slot i t h
  cases t with
  | val d => cases ht
  | own d =>
    obtain ⟨a, rfl, nf, c⟩ := r
    obtain ⟨u, q, _⟩ := c.some_of
    exact ⟨a, u, e, nf, q⟩
  | ref d =>
    obtain ⟨a, rfl, nf, c⟩ := r
    obtain ⟨u, q, _⟩ := c.some_of
    exact ⟨a, u, e, nf, q⟩
  | rd d =>
    obtain ⟨a, rfl, nf, c⟩ := r
    obtain ⟨u, q, _⟩ := c.some_of
    rcases q with q | ⟨o, q, _⟩
    · exact ⟨a, _, e, nf, q⟩
    · exact ⟨a, _, e, nf, q⟩
theorem Kp.top_of (k : Kp ρ ρ') {i : Nat} {t : Sl} (h : gt ρ' i = some t) (ht : t.top = true) : ∃ t', gt ρ i = some t' ∧ t'.top = true := by
  have z := k.2 i
  rw [h] at z
  cases e : gt ρ i with
  | none => rw [e] at z; exact z.elim
  | some s =>
    rw [e] at z
    refine ⟨s, rfl, ?_⟩
    cases s with
    | val d => cases t with
      | val d' => cases ht
      | _ => exact z.elim
    | _ => rfl
theorem SR.froX (s : SR M F H σ ρ) (x : Ext F H F' H') (hk : ∀ i t a o, gt ρ i = some t → t.top = true → gv σ i = some (.ref a) → H a = some o → ¬ F' a ∧ H' a = some o) (hd : ∀ a, F' a → H' a ≠ none) (hx : XnOk M F' H' σ) : SR M F' H' σ ρ := by
  refine ⟨s.len, hd, fun i t h => ?_, s.dist, hx⟩
  obtain ⟨v, e, r⟩ := s.slot i t h
  refine ⟨v, e, ?_⟩
  cases t with
  | val d => exact Rep.mono x d r
  | own d =>
    obtain ⟨a, rfl, nf, c⟩ := r
    obtain ⟨u, q, _⟩ := c.some_of
    obtain ⟨k1, k2⟩ := hk i _ a _ h rfl e q
    exact ⟨a, rfl, k1, c.mono x fun w (hw : H a = some w) => by rw [q] at hw; cases hw; exact k2⟩
  | ref d =>
    obtain ⟨a, rfl, nf, c⟩ := r
    obtain ⟨u, q, _⟩ := c.some_of
    obtain ⟨k1, k2⟩ := hk i _ a _ h rfl e q
    exact ⟨a, rfl, k1, c.mono x fun w (hw : H a = some w) => by rw [q] at hw; cases hw; exact k2⟩
  | rd d =>
    obtain ⟨a, rfl, nf, c⟩ := r
    refine ⟨a, rfl, ?_, c.mono x fun w hw => ?_⟩
    · obtain ⟨b, u, e2, _, q⟩ := s.top_at h rfl
      rw [e] at e2; cases e2
      exact (hk i _ a _ h rfl e q).1
    · rcases hw with q | ⟨o, q, z⟩
      · exact .inl (hk i _ a _ h rfl e q).2
      · exact .inr ⟨o, (hk i _ a _ h rfl e q).2, z⟩
theorem SR.fro (s : SR M F H σ ρ) (x : Ext F H F' H') (hk : ∀ i t a o, gt ρ i = some t → t.top = true → gv σ i = some (.ref a) → H a = some o → ¬ F' a ∧ H' a = some o) (hd : ∀ a, F' a → H' a ≠ none) (ht : ∀ P q, TabF F H P q → TabF F' H' P q) : SR M F' H' σ ρ := s.froX x hk hd (s.xn.ext x ht)
structure New (F : Addr → Prop) (H : Hp) (F' : Addr → Prop) (H' : Hp) : Prop where
  keep : ∀ a o, H a = some o → H' a = some o
  fro : ∀ a, F a → F' a
  new : ∀ a, F' a → F a ∨ H a = none
  dom : ∀ a, F' a → H' a ≠ none
theorem New.refl (hd : ∀ a, F a → H a ≠ none) : New F H F H := ⟨fun _ _ h => h, fun _ h => h, fun _ h => .inl h, hd⟩
theorem New.ext (n : New F H F' H') : Ext F H F' H' := ⟨n.fro, fun a u _ _ r => by
  rcases r with r | ⟨o, r⟩
  · exact .inl (n.keep a _ r)
  · exact .inr ⟨o, n.keep a _ r⟩, fun a _ _ _ e => n.keep a _ e, fun a vs r => by
  rcases r with r | ⟨o, r⟩
  · exact .inl (n.keep a _ r)
  · exact .inr ⟨o, n.keep a _ r⟩, fun a vs r => n.keep a _ r⟩
theorem New.tab (n : New F H F' H') : ∀ P q, TabF F H P q → TabF F' H' P q := fun P q t => t.kept n.fro fun a o _ h _ => n.keep a o h
theorem New.po (s : SR M F H σ ρ) (n : New F H F' H') : Po M F H σ ρ F' H' ρ := by
  refine ⟨⟨n.fro, fun a o e _ _ => .inl (n.keep a o e), fun a h => ?_, fun a h => ?_, fun _ h => .inl h, fun _ h => h⟩, s.fro n.ext (fun i t a o h ht e q => ⟨fun z => ?_, n.keep a o q⟩) n.dom n.tab, .refl _⟩
  · cases q : H a with
    | none => rfl
    | some o => rw [n.keep a o q] at h; cases h
  · rcases n.new a h with z | z
    · exact .inl z
    · exact .inr (.inl z)
  · rcases n.new a z with y | y
    · obtain ⟨b, u, e2, nf, _⟩ := s.top_at h ht
      rw [e] at e2; cases e2
      exact nf y
    · rw [q] at y; cases y
theorem New.laid (hd : ∀ a, F a → H a ≠ none) {p : Addr} {o : HO} (hp : H p = none) : New F H F (upd H p o) :=
  ⟨fun a u e => by rw [upd_ne (ne_of_none e hp)]; exact e, fun _ h => h, fun _ h => .inl h, fun a h e => by
    have := hd a h
    cases q : H a with
    | none => exact this q
    | some u => rw [upd_ne (ne_of_none q hp), q] at e; cases e⟩
theorem freeze {H0 : Hp} {F0 : Addr → Prop} {ρ0 : En} (s : SR M F0 H0 σ ρ0) (po : Po M F0 H0 σ ρ0 F H ρ) {r : Rv} {v : V} (rv : RvR M H0 F H r v) :
    ∃ F', Po M F0 H0 σ ρ0 F' H ρ ∧ Rep M F' H r.d v ∧ Ext F H F' H := by
  cases r with
  | val d => exact ⟨F, po, rv, .refl _ _⟩
  | own d =>
    obtain ⟨a, rfl, nf, h0, c⟩ := rv
    have x : Ext F H (fun b => F b ∨ b = a) H := ⟨fun _ h => .inl h, fun _ _ _ _ h => h, fun _ _ _ _ h => h, fun _ _ h => h, fun _ _ h => h⟩
    refine ⟨fun b => F b ∨ b = a, ⟨⟨fun b h => .inl (po.stp.fro b h), po.stp.keep, po.stp.dom, fun b h => ?_, po.stp.own, po.stp.ref⟩, po.sr.fro x (fun i t b o h ht e q => ⟨fun z => ?_, q⟩) (fun b h => ?_) (fun P q t => t.kept (fun _ h => .inl h) fun _ _ _ h _ => h), po.kp⟩, (c.mono x fun _ h => h).rep (.inr rfl), x⟩
    · rcases h with h | rfl
      · exact po.stp.new b h
      · exact .inr (.inl h0)
    · obtain ⟨t', h', ht'⟩ := po.kp.top_of h ht
      obtain ⟨b', u, e', _, q'⟩ := s.top_at h' ht'
      rw [e] at e'; cases e'
      rcases z with z | rfl
      · obtain ⟨b', u', e', nf', _⟩ := po.sr.top_at h ht
        rw [e] at e'; cases e'
        exact nf' z
      · rw [h0] at q'; cases q'
    · rcases h with h | rfl
      · exact po.sr.dom b h
      · obtain ⟨u, q, _⟩ := c.some_of
        intro z
        have q' : H b = some u := q
        rw [z] at q'; cases q'
end
inductive Opd where
  | ex (φ : ES)
  | sl (i : Nat)
inductive Ov where
  | val (d : D)
  | at (i : Nat)
def Opd.ev : Opd → En → Out Ov
  | .ex φ, ρ => (φ ρ).bind fun r ρ' => .ok (.val r.d) ρ'
  | .sl i, ρ => match gt ρ i with
    | some _ => .ok (.at i) ρ
    | none => .bad
def evs : List Opd → En → Out (List Ov)
  | [], ρ => .ok [] ρ
  | o :: os, ρ => (o.ev ρ).bind fun x ρ1 => (evs os ρ1).bind fun xs ρ2 => .ok (x :: xs) ρ2
def Ov.dat (ρ : En) : Ov → Option D
  | .val d => some d
  | .at i => (gt ρ i).map Sl.d
def dats (ρ : En) : List Ov → Option (List D)
  | [] => some []
  | x :: xs => match x.dat ρ, dats ρ xs with
    | some d, some ds => some (d :: ds)
    | _, _ => none
def tO (M : Md) (W : WX) : Opd → TE
  | .ex φ => tE M W φ
  | .sl i => tVar i
def tOs (M : Md) (W : WX) : List Opd → TA
  | [] => tNil
  | o :: os => tCons (tO M W o) (tOs M W os)
def OvR (M : Md) (F : Addr → Prop) (H : Hp) (σ : St) : Ov → V → Prop
  | .val d, v => Rep M F H d v
  | .at i, v => gv σ i = some v
def OvRs (M : Md) (F : Addr → Prop) (H : Hp) (σ : St) : List Ov → List V → Prop
  | [], vs => vs = []
  | x :: xs, vs => ∃ v r, vs = v :: r ∧ OvR M F H σ x v ∧ OvRs M F H σ xs r
theorem OvR.mono {M : Md} {F F' : Addr → Prop} {H H' : Hp} {σ : St} (x : Ext F H F' H') : ∀ {o : Ov} {v : V}, OvR M F H σ o v → OvR M F' H' σ o v
  | .val d, _, h => Rep.mono x d h
  | .at _, _, h => h
theorem OvRs.mono {M : Md} {F F' : Addr → Prop} {H H' : Hp} {σ : St} (x : Ext F H F' H') : ∀ {o : List Ov} {v : List V}, OvRs M F H σ o v → OvRs M F' H' σ o v
  | [], _, h => h
  | _ :: _, _, ⟨v, r, e, p, q⟩ => ⟨v, r, e, p.mono x, q.mono x⟩
section
variable {M : Md} {W : WX} {F : Addr → Prop} {H : Hp} {σ : St} {ρ : En}
theorem tE_of (s : SR M F H σ ρ) {φ : ES} {Q : VK} (h : Want M W F H σ ρ (φ ρ) fun r F' H' _ => ∀ v, RvR M H F' H' r v → Q v H') : tE M W φ σ H Q := ⟨F, ρ, s, h⟩
theorem op_run (s : SR M F H σ ρ) {o : Opd} {Q : VK} (h : Want M W F H σ ρ (o.ev ρ) fun x F' H' _ => ∀ v, OvR M F' H' σ x v → Q v H') : tO M W o σ H Q := by
  cases o with
  | sl i =>
    cases e : gt ρ i with
    | none => simp only [Opd.ev, e] at h; exact h.elim
    | some t =>
      simp only [Opd.ev, e] at h
      obtain ⟨v, hv, _⟩ := s.slot i t e
      exact ⟨v, gv_some hv, h F H (.refl s) v hv⟩
  | ex φ =>
    refine tE_of s ?_
    cases e : φ ρ with
    | bad => simp only [Opd.ev, e] at h; exact h
    | exc x ρ' => simp only [Opd.ev, e] at h; exact h
    | ok r ρ' =>
      simp only [Opd.ev, e] at h
      intro F' H' po v rv
      obtain ⟨F2, po2, rp, _⟩ := freeze s po rv
      exact h F2 H' po2 v rp
theorem ops_run : ∀ (os : List Opd) {F : Addr → Prop} {H : Hp} {ρ : En} (_ : SR M F H σ ρ) {Q : List V → Hp → Prop} (_ : Want M W F H σ ρ (evs os ρ) fun xs F' H' _ => ∀ vs, OvRs M F' H' σ xs vs → Q vs H'), tOs M W os σ H Q
  | [], F, H, ρ, s, Q, h => h F H (.refl s) [] rfl
  | o :: os, F, H, ρ, s, Q, h => by
    show tO M W o σ H fun x H1 => tOs M W os σ H1 fun xs H2 => Q (x :: xs) H2
    refine op_run s ?_
    unfold evs at h
    cases e : o.ev ρ with
    | bad => rw [e] at h; exact h
    | exc x ρ' => rw [e] at h; exact h
    | ok x ρ1 =>
      rw [e] at h
      intro F1 H1 po1 v rv
      refine ops_run os po1.sr ?_
      have h : Want M W F H σ ρ ((evs os ρ1).bind fun xs ρ2 => .ok (x :: xs) ρ2) fun xs F' H' _ => ∀ vs, OvRs M F' H' σ xs vs → Q vs H' := h
      cases e2 : evs os ρ1 with
      | bad => rw [e2] at h; exact h
      | exc y ρ2 =>
        rw [e2] at h
        exact fun F2 H2 cls d po2 xr => h F2 H2 cls d (po1.trans po2) xr
      | ok xs ρ2 =>
        rw [e2] at h
        exact fun F2 H2 po2 vs rs => h F2 H2 (po1.trans po2) (v :: vs) ⟨v, vs, rfl, rv.mono (po2.ext po1.sr), rs⟩
end
def OdR (M : Md) (F : Addr → Prop) (H : Hp) (d : D) (v : V) : Prop := Rep M F H d v ∨ ∃ a, v = .ref a ∧ ¬ F a ∧ Cont M F H (Rdx H a) d
def OdRs (M : Md) (F : Addr → Prop) (H : Hp) : List D → List V → Prop
  | [], vs => vs = []
  | d :: ds, vs => ∃ v r, vs = v :: r ∧ OdR M F H d v ∧ OdRs M F H ds r
section
variable {M : Md} {F : Addr → Prop} {H : Hp} {σ : St} {ρ : En}
theorem SlR.od : ∀ {s : Sl} {v : V}, SlR M F H s v → OdR M F H s.d v
  | .val d, _, h => .inl h
  | .own d, _, ⟨a, e, nf, c⟩ => .inr ⟨a, e, nf, c.mono (.refl _ _) fun _ h => .inl h⟩
  | .ref d, _, ⟨a, e, nf, c⟩ => .inr ⟨a, e, nf, c.mono (.refl _ _) fun _ h => .inl h⟩
  | .rd d, _, ⟨a, e, nf, c⟩ => .inr ⟨a, e, nf, c⟩
theorem OvR.od (s : SR M F H σ ρ) {x : Ov} {v : V} {d : D} (h : OvR M F H σ x v) (e : x.dat ρ = some d) : OdR M F H d v := by
  cases x with
  | val d' =>
    cases e
    exact .inl h
  | «at» i =>
    cases q : gt ρ i with
    | none => simp only [Ov.dat, q] at e; cases e
    | some t =>
      simp only [Ov.dat, q] at e
      cases e
      obtain ⟨v', hv, r⟩ := s.slot i t q
      have hv2 : gv σ i = some v := h
      rw [hv] at hv2
      cases hv2
      exact r.od
theorem OvRs.od (s : SR M F H σ ρ) : ∀ {xs : List Ov} {vs : List V} {ds : List D}, OvRs M F H σ xs vs → dats ρ xs = some ds → OdRs M F H ds vs
  | [], _, _, h, e => by cases e; exact h
  | x :: xs, _, ds, ⟨v, r, e1, p, q⟩, e => by
    unfold dats at e
    cases e2 : x.dat ρ with
    | none => rw [e2] at e; cases e
    | some d =>
      cases e3 : dats ρ xs with
      | none => rw [e2, e3] at e; cases e
      | some ds' =>
        rw [e2, e3] at e
        cases e
        exact ⟨v, r, e1, p.od s e2, OvRs.od s q e3⟩
end
def app (f : List D → Option Rv) (os : List Opd) : ES := fun ρ => (evs os ρ).bind fun xs ρ' => match dats ρ' xs with
  | some ds => (match f ds with
    | some r => .ok r ρ'
    | none => .bad)
  | none => .bad
def PrimOK (M : Md) (r : List V → Hp → VK → Prop) (f : List D → Option Rv) : Prop :=
  ∀ (F : Addr → Prop) (H : Hp) (ds : List D) (vs : List V) (rv : Rv) (Q : VK), (∀ a, F a → H a ≠ none) → OdRs M F H ds vs → f ds = some rv → (∀ F' H' v, New F H F' H' → RvR M H F' H' rv v → Q v H') → r vs H Q
theorem RvR.from {M : Md} {H0 H1 H : Hp} {F : Addr → Prop} {r : Rv} {v : V} (h : RvR M H1 F H r v) (k : ∀ a, H1 a = none → H0 a = none) : RvR M H0 F H r v := by
  cases r with
  | val d => exact h
  | own d =>
    obtain ⟨a, e, nf, z, c⟩ := h
    exact ⟨a, e, nf, k a z, c⟩
section
variable {M : Md} {W : WX} {F : Addr → Prop} {H : Hp} {σ : St} {ρ : En}
theorem app_run {r : List V → Hp → VK → Prop} {f : List D → Option Rv} (pk : PrimOK M r f) {os : List Opd} {Q : VK} (h : tE M W (app f os) σ H Q) : tOs M W os σ H fun vs H1 => r vs H1 Q := by
  obtain ⟨F, ρ, s, h⟩ := h
  refine ops_run os s ?_
  cases e : evs os ρ with
  | bad => simp only [app, e] at h; exact h
  | exc x ρ' => simp only [app, e] at h; exact h
  | ok xs ρ1 =>
    simp only [app, e, Out.bind] at h
    intro F1 H1 po1 vs rs
    cases e2 : dats ρ1 xs with
    | none => simp only [e2] at h; exact h.elim
    | some ds =>
      cases e3 : f ds with
      | none => simp only [e2, e3] at h; exact h.elim
      | some rv =>
        simp only [e2, e3] at h
        refine pk F1 H1 ds vs rv Q po1.sr.dom (rs.od po1.sr e2) e3 fun F2 H2 v n rr => ?_
        exact h F2 H2 (po1.trans (n.po po1.sr)) v (rr.from fun a z => po1.stp.dom a z)
end
end VF
namespace VF
open PySem PySem.Spec PyProof.Rows L2
mutual
def D.eq : D → D → Bool
  | .non, .non => true
  | .bl a, .bl b => a == b
  | .bl a, .int j => (if a then 1 else 0) == j
  | .int i, .bl b => i == (if b then 1 else 0)
  | .int i, .int j => i == j
  | .str x, .str y => x == y
  | .lst xs, .lst ys => D.eqs xs ys
  | .tup xs, .tup ys => D.eqs xs ys
  | _, _ => false
def D.eqs : List D → List D → Bool
  | [], [] => true
  | x :: xs, y :: ys => D.eq x y && D.eqs xs ys
  | _, _ => false
end
def pl : Nat → D → Bool
  | 0, _ => false
  | _ + 1, .non => true
  | _ + 1, .bl _ => true
  | _ + 1, .int _ => true
  | _ + 1, .str _ => true
  | n + 1, .tup ds => ds.all (pl n)
  | n + 1, .lst ds => ds.all (pl n)
  | _ + 1, _ => false
mutual
theorem D.eq_refl : ∀ (d : D) (n : Nat), pl n d = true → D.eq d d = true
  | .non, _, _ => by simp [D.eq]
  | .bl _, _, _ => by simp [D.eq]
  | .int _, _, _ => by simp [D.eq]
  | .str x, _, _ => by simp [D.eq]
  | .tup ds, 0, h => by cases h
  | .lst ds, 0, h => by cases h
  | .tup ds, n + 1, h => by
    unfold D.eq
    exact D.eqs_refl ds n (by simpa [pl] using h)
  | .lst ds, n + 1, h => by
    unfold D.eq
    exact D.eqs_refl ds n (by simpa [pl] using h)
  | .dck _ _, 0, h => by cases h
  | .dck _ _, _ + 1, h => by simp [pl] at h
  | .dct _ _, 0, h => by cases h
  | .dct _ _, _ + 1, h => by simp [pl] at h
  | .ins _ _ _, 0, h => by cases h
  | .ins _ _ _, _ + 1, h => by simp [pl] at h
  | .exn _ _ _ _ _, 0, h => by cases h
  | .exn _ _ _ _ _, _ + 1, h => by simp [pl] at h
  | .tpp _, 0, h => by cases h
  | .tpp _, _ + 1, h => by simp [pl] at h
theorem D.eqs_refl : ∀ (ds : List D) (n : Nat), (∀ d ∈ ds, pl n d = true) → D.eqs ds ds = true
  | [], _, _ => by simp [D.eqs]
  | d :: ds, n, h => by
    unfold D.eqs
    rw [D.eq_refl d n (h d List.mem_cons_self), D.eqs_refl ds n fun x hx => h x (List.mem_cons_of_mem _ hx)]
    rfl
end
def pairD (xs ys : List D) (j : Nat) : Bool := match xs[j]?, ys[j]? with
  | some x, some y => D.eq x y
  | _, _ => true
theorem eqs_range : ∀ xs ys : List D, ((List.range (min xs.length ys.length)).all (pairD xs ys) && xs.length == ys.length) = D.eqs xs ys
  | [], [] => by simp [D.eqs]
  | [], _ :: _ => by simp [D.eqs]
  | _ :: _, [] => by simp [D.eqs]
  | x :: xs, y :: ys => by
    have ih := eqs_range xs ys
    unfold D.eqs
    rw [← ih]
    have e : min (x :: xs).length (y :: ys).length = min xs.length ys.length + 1 := by simp only [List.length_cons]; omega
    rw [e, List.range_succ_eq_map, List.all_cons, List.all_map]
    have e2 : (pairD (x :: xs) (y :: ys) ∘ Nat.succ) = pairD xs ys := by
      funext j
      simp [pairD, Function.comp]
    rw [e2]
    have e3 : pairD (x :: xs) (y :: ys) 0 = D.eq x y := by simp [pairD]
    rw [e3, Bool.and_assoc]
    simp
theorem eqs_len {xs ys : List D} (h : xs.length = ys.length) : (List.range xs.length).all (pairD xs ys) = D.eqs xs ys := by
  rw [← eqs_range xs ys, h, Nat.min_self]
  simp
theorem eqs_ne {xs ys : List D} (h : xs.length ≠ ys.length) : D.eqs xs ys = false := by
  rw [← eqs_range xs ys]
  simp [h]
theorem RepL.length {M : Md} {F : Addr → Prop} {H : Hp} : ∀ {ds : List D} {vs : List V}, RepL M F H ds vs → ds.length = vs.length
  | [], _, h => by unfold RepL at h; subst h; rfl
  | d :: ds, _, h => by
    unfold RepL at h
    obtain ⟨v, r, rfl, _, q⟩ := h
    simp [RepL.length q]
theorem RepL.get {M : Md} {F : Addr → Prop} {H : Hp} : ∀ {ds : List D} {vs : List V} {j : Nat} {d : D}, RepL M F H ds vs → ds[j]? = some d → ∃ v, vs[j]? = some v ∧ Rep M F H d v
  | [], _, _, _, _, e => by simp at e
  | d :: ds, _, j, d', h, e => by
    unfold RepL at h
    obtain ⟨v, r, rfl, p, q⟩ := h
    cases j with
    | zero =>
      simp at e
      subst e
      exact ⟨v, rfl, p⟩
    | succ j =>
      obtain ⟨w, h1, h2⟩ := RepL.get (j := j) (d := d') q (by simpa using e)
      exact ⟨w, by simpa using h1, h2⟩
theorem RepL.getV {M : Md} {F : Addr → Prop} {H : Hp} : ∀ {ds : List D} {vs : List V} {j : Nat} {v : V}, RepL M F H ds vs → vs[j]? = some v → ∃ d, ds[j]? = some d ∧ Rep M F H d v
  | [], _, _, _, h, e => by unfold RepL at h; subst h; simp at e
  | d :: ds, _, j, v', h, e => by
    unfold RepL at h
    obtain ⟨v, r, rfl, p, q⟩ := h
    cases j with
    | zero =>
      simp at e
      subst e
      exact ⟨d, rfl, p⟩
    | succ j =>
      obtain ⟨w, h1, h2⟩ := RepL.getV (j := j) (v := v') q (by simpa using e)
      exact ⟨w, by simpa using h1, h2⟩
section
variable {M : Md} {F : Addr → Prop} {H : Hp}
theorem OdR.non {v : V} (h : OdR M F H .non v) : v = .non := by
  rcases h with h | ⟨_, _, _, c⟩
  · unfold Rep at h; exact h
  · exact c.elim
theorem OdR.bl {b : Bool} {v : V} (h : OdR M F H (.bl b) v) : v = .bl b := by
  rcases h with h | ⟨_, _, _, c⟩
  · unfold Rep at h; exact h
  · exact c.elim
theorem OdR.int {b : Int} {v : V} (h : OdR M F H (.int b) v) : v = .int b := by
  rcases h with h | ⟨_, _, _, c⟩
  · unfold Rep at h; exact h
  · exact c.elim
theorem OdR.str {b : Str} {v : V} (h : OdR M F H (.str b) v) : v = .str b := by
  rcases h with h | ⟨_, _, _, c⟩
  · unfold Rep at h; exact h
  · exact c.elim
theorem OdR.tup2 {ds : List D} {v : V} (h : OdR M F H (.tup ds) v) : ∃ a vs, v = .ref a ∧ (SqT M.K H a vs ∧ (ds.length = 2 → H a = some (.tup vs))) ∧ RepL M F H ds vs := by
  rcases h with h | ⟨_, _, _, c⟩
  · unfold Rep at h; exact h
  · exact c.elim
theorem OdR.tup {ds : List D} {v : V} (h : OdR M F H (.tup ds) v) : ∃ a vs, v = .ref a ∧ SqT M.K H a vs ∧ RepL M F H ds vs := by
  obtain ⟨a, vs, e, q, r⟩ := h.tup2
  exact ⟨a, vs, e, q.1, r⟩
theorem OdR.lst {ds : List D} {v : V} (h : OdR M F H (.lst ds) v) : ∃ a vs, v = .ref a ∧ SqL M.K H a vs ∧ RepL M F H ds vs := by
  rcases h with h | ⟨a, e, _, vs, p, r⟩
  · unfold Rep at h
    obtain ⟨a, vs, e, p, r⟩ := h
    exact ⟨a, vs, e, p.imp (·.2) id, r⟩
  · exact ⟨a, vs, e, .inl p.rd, r⟩
theorem OdR.dck {ks : List Key} {ds : List D} {v : V} (h : OdR M F H (.dck ks ds) v) : ∃ a vs, v = .ref a ∧ Rd H a (.dK vs) ∧ vs.map (·.1) = ks ∧ RepL M F H ds (vs.map (·.2)) := by
  rcases h with h | ⟨a, e, _, vs, p, k, r⟩
  · unfold Rep at h
    obtain ⟨a, vs, e, _, p, k, r⟩ := h
    exact ⟨a, vs, e, p, k, r⟩
  · exact ⟨a, vs, e, p.rd, k, r⟩
theorem OdR.dct {ks : List (List Key)} {ds : List D} {v : V} (h : OdR M F H (.dct ks ds) v) : ∃ a vs, v = .ref a ∧ Rd H a (.dT vs) ∧ vs.map (·.1) = ks ∧ RepL M F H ds (vs.map (·.2)) := by
  rcases h with h | ⟨a, e, _, vs, p, k, r⟩
  · unfold Rep at h
    obtain ⟨a, vs, e, _, p, k, r⟩ := h
    exact ⟨a, vs, e, p, k, r⟩
  · exact ⟨a, vs, e, p.rd, k, r⟩
theorem OdR.ins {c : Str} {fs : List Str} {ds : List D} {v : V} (h : OdR M F H (.ins c fs ds) v) : ∃ a C dx vs, v = .ref a ∧ (c ∈ M.cls ∧ M.mg c = some (.ref C)) ∧ H a = some (.ins C dx vs) ∧ vs.map (·.1) = fs ∧ RepL M F H ds (vs.map (·.2)) := by
  rcases h with h | ⟨a, e, _, C, dx, vs, m, p, k, r⟩
  · unfold Rep at h
    obtain ⟨a, C, dx, vs, e, _, m, p, k, r⟩ := h
    exact ⟨a, C, dx, vs, e, m, p, k, r⟩
  · exact ⟨a, C, dx, vs, e, m, p.ins, k, r⟩
theorem OdR.exn {c : Str} {fs : List Str} {ds : List D} {a dx : Addr} {v : V} (h : OdR M F H (.exn c fs ds a dx) v) : v = .ref a ∧ ∃ C vs, M.mg c = some (.ref C) ∧ F dx ∧ H dx = some (.xd vs) ∧ vs.map (·.1) = fs ∧ RepL M F H ds (vs.map (·.2)) := by
  rcases h with h | ⟨_, _, _, c⟩
  · unfold Rep at h; exact h
  · exact c.elim
theorem OdR.tpp {ds : List D} {v : V} (h : OdR M F H (.tpp ds) v) : ∃ a vs o, v = .ref a ∧ F a ∧ H a = some (.frz o (.tup vs)) ∧ o.dict = none ∧ RepL M F H ds vs := by
  rcases h with h | ⟨_, _, _, c⟩
  · unfold Rep at h; exact h
  · exact c.elim
theorem OdR.tpS {ds : List D} {v : V} (h : OdR M F H (.tpp ds) v) : ∃ a vs, v = .ref a ∧ SqT M.K H a vs ∧ RepL M F H ds vs := by
  obtain ⟨a, vs, o, e, _, p, _, l⟩ := h.tpp
  exact ⟨a, vs, e, .inl (.inr ⟨o, p⟩), l⟩
theorem OdRs.nil {vs : List V} (h : OdRs M F H [] vs) : vs = [] := h
theorem OdRs.one {d : D} {vs : List V} (h : OdRs M F H [d] vs) : ∃ v, vs = [v] ∧ OdR M F H d v := by
  obtain ⟨v, r, rfl, p, q⟩ := h
  rw [show r = [] from q]
  exact ⟨v, rfl, p⟩
theorem OdRs.two {d e : D} {vs : List V} (h : OdRs M F H [d, e] vs) : ∃ v w, vs = [v, w] ∧ OdR M F H d v ∧ OdR M F H e w := by
  obtain ⟨v, r, rfl, p, q⟩ := h
  obtain ⟨w, rfl, p2⟩ := OdRs.one q
  exact ⟨v, w, rfl, p, p2⟩
theorem OdRs.three {d e f : D} {vs : List V} (h : OdRs M F H [d, e, f] vs) : ∃ v w x, vs = [v, w, x] ∧ OdR M F H d v ∧ OdR M F H e w ∧ OdR M F H f x := by
  obtain ⟨v, r, rfl, p, q⟩ := h
  obtain ⟨w, x, rfl, p2, p3⟩ := OdRs.two q
  exact ⟨v, w, x, rfl, p, p2, p3⟩
theorem Rd.inj {a : Addr} {xs ys : List V} (h : Rd H a (.lst xs)) (h' : Rd H a (.lst ys)) : xs = ys := by
  rcases h with h | ⟨o, h⟩ <;> rcases h' with h' | ⟨o', h'⟩ <;> rw [h] at h' <;> cases h' <;> rfl
end
section
variable {M : Md} {X : Cx} {pins : List (Addr × Obj)} {F : Addr → Prop} {σ : St} {H : Hp} {s : Shared}
mutual
theorem rep_inj (I : Inv X pins σ H s) (hK : X.K = M.K) : ∀ (d : D) (n : Nat) (e : D) (v : V), pl n d = true → pl n e = true → Rep M F H d v → Rep M F H e v → d = e
  | d, 0, _, _, h, _, _, _ => by cases d <;> cases h
  | .non, n + 1, e, v, _, h2, r1, r2 => by
    unfold Rep at r1
    subst r1
    cases e <;> first | (exact rfl) | (simp [Rep] at r2) | (simp [pl] at h2)
  | .bl b, n + 1, e, v, _, h2, r1, r2 => by
    unfold Rep at r1
    subst r1
    cases e <;> first | (simp [Rep] at r2; done) | (simp [pl] at h2; done) | (simp [Rep] at r2; rw [r2])
  | .int b, n + 1, e, v, _, h2, r1, r2 => by
    unfold Rep at r1
    subst r1
    cases e <;> first | (simp [Rep] at r2; done) | (simp [pl] at h2; done) | (simp [Rep] at r2; rw [r2])
  | .str b, n + 1, e, v, _, h2, r1, r2 => by
    unfold Rep at r1
    subst r1
    cases e <;> first | (simp [Rep] at r2; done) | (simp [pl] at h2; done) | (simp [Rep] at r2; rw [r2])
  | .tup ds, n + 1, e, v, h1, h2, r1, r2 => by
    unfold Rep at r1
    obtain ⟨a, vs, rfl, ⟨q1, _⟩, l1⟩ := r1
    cases e with
    | tup es =>
      unfold Rep at r2
      obtain ⟨b, ws, e, ⟨q2, _⟩, l2⟩ := r2
      cases e
      rw [← hK] at q1 q2
      have e := I.tuple_inj q1 q2
      subst e
      rw [reps_inj I hK ds n es vs (by simpa [pl] using h1) (by simpa [pl] using h2) l1 l2]
    | lst es =>
      unfold Rep at r2
      obtain ⟨b, ws, e, q2, l2⟩ := r2
      cases e
      obtain ⟨_, _, ⟨o, ho, hc, _⟩, _⟩ := I.tuple (show SqT X.K H a vs by rw [hK]; exact q1)
      obtain ⟨_, _, ⟨o', _, ho', hc', _⟩, _⟩ := I.list (show SqL X.K H a ws by rw [hK]; exact q2.imp (·.2) id)
      rw [ho] at ho'
      cases ho'
      rw [hc] at hc'
      exact absurd hc' (by simp)
    | _ => first | (simp [Rep] at r2; done) | (simp [pl] at h2; done)
  | .lst ds, n + 1, e, v, h1, h2, r1, r2 => by
    unfold Rep at r1
    obtain ⟨a, vs, rfl, q1, l1⟩ := r1
    cases e with
    | lst es =>
      unfold Rep at r2
      obtain ⟨b, ws, e, q2, l2⟩ := r2
      cases e
      have e := I.list_inj (show SqL X.K H a vs by rw [hK]; exact q1.imp (·.2) id) (show SqL X.K H a ws by rw [hK]; exact q2.imp (·.2) id)
      subst e
      rw [reps_inj I hK ds n es vs (by simpa [pl] using h1) (by simpa [pl] using h2) l1 l2]
    | tup es =>
      unfold Rep at r2
      obtain ⟨b, ws, e, q2, l2⟩ := r2
      cases e
      obtain ⟨_, _, ⟨o, ho, hc, _⟩, _⟩ := I.tuple (show SqT X.K H a ws by rw [hK]; exact q2.1)
      obtain ⟨_, _, ⟨o', _, ho', hc', _⟩, _⟩ := I.list (show SqL X.K H a vs by rw [hK]; exact q1.imp (·.2) id)
      rw [ho] at ho'
      cases ho'
      rw [hc] at hc'
      exact absurd hc' (by simp)
    | _ => first | (simp [Rep] at r2; done) | (simp [pl] at h2; done)
  | .dck _ _, _ + 1, _, _, h, _, _, _ => by simp [pl] at h
  | .dct _ _, _ + 1, _, _, h, _, _, _ => by simp [pl] at h
  | .ins _ _ _, _ + 1, _, _, h, _, _, _ => by simp [pl] at h
  | .exn _ _ _ _ _, _ + 1, _, _, h, _, _, _ => by simp [pl] at h
  | .tpp _, _ + 1, _, _, h, _, _, _ => by simp [pl] at h
theorem reps_inj (I : Inv X pins σ H s) (hK : X.K = M.K) : ∀ (ds : List D) (n : Nat) (es : List D) (vs : List V), (∀ d ∈ ds, pl n d = true) → (∀ d ∈ es, pl n d = true) → RepL M F H ds vs → RepL M F H es vs → ds = es
  | [], n, es, vs, _, _, r1, r2 => by
    have l1 := RepL.length r1
    have l2 := RepL.length r2
    cases es with
    | nil => rfl
    | cons e es => simp at l1 l2; omega
  | d :: ds, n, es, vs, h1, h2, r1, r2 => by
    cases es with
    | nil =>
      have l1 := RepL.length r1
      have l2 := RepL.length r2
      simp at l1 l2; omega
    | cons e es =>
      unfold RepL at r1 r2
      obtain ⟨v, r, rfl, p1, q1⟩ := r1
      obtain ⟨v', r', e', p2, q2⟩ := r2
      cases e'
      rw [rep_inj I hK d n e v (h1 d List.mem_cons_self) (h2 e List.mem_cons_self) p1 p2, reps_inj I hK ds n es r (fun x hx => h1 x (List.mem_cons_of_mem _ hx)) (fun x hx => h2 x (List.mem_cons_of_mem _ hx)) q1 q2]
end
end
end VF
namespace VF
open PySem PySem.Spec PyProof.Rows L2
open PySem.SeqAt (EqAt RcAt RcNeAt)
section
variable {M : Md} {X : Cx} {pins : List (Addr × Obj)} {F : Addr → Prop} {σ : St} {H : Hp} {s : Shared}
theorem od_list (I : Inv X pins σ H s) (hK : X.K = M.K) {ds : List D} {v : V} {u : Value} (h : OdR M F H (.lst ds) v) (r : RelV v u) : ∃ a vs its, v = .ref a ∧ u = .ref a ∧ SqL X.K H a vs ∧ RepL M F H ds vs ∧ Vals vs its ∧ s.heap.IsList a its.toArray := by
  obtain ⟨a, vs, rfl, q, l⟩ := h.lst
  rw [← hK] at q
  cases r
  obtain ⟨its, rv, p, _⟩ := I.list q
  exact ⟨a, vs, its, rfl, rfl, q, l, rv, p.isList⟩
theorem od_tup (I : Inv X pins σ H s) (hK : X.K = M.K) {ds : List D} {v : V} {u : Value} (h : OdR M F H (.tup ds) v) (r : RelV v u) : ∃ a vs its, v = .ref a ∧ u = .ref a ∧ SqT X.K H a vs ∧ RepL M F H ds vs ∧ Vals vs its ∧ s.heap.IsTuple a its.toArray := by
  obtain ⟨a, vs, rfl, q, l⟩ := h.tup
  rw [← hK] at q
  cases r
  obtain ⟨its, rv, p, _⟩ := I.tuple q
  exact ⟨a, vs, its, rfl, rfl, q, l, rv, p⟩
theorem vals_at : ∀ {vs : List V} {its : List Value} {j : Nat} (h : j < its.length), Vals vs its → ∃ v, vs[j]? = some v ∧ RelV v its[j]
  | _, _, _, h, .nil => absurd h (Nat.not_lt_zero _)
  | _, _, 0, _, .cons r _ => ⟨_, rfl, r⟩
  | _, _, j + 1, h, .cons _ t => by
    obtain ⟨v, e, r⟩ := vals_at (j := j) (Nat.lt_of_succ_lt_succ h) t
    exact ⟨v, by simpa using e, r⟩
theorem od_inj (I : Inv X pins σ H s) (hK : X.K = M.K) {n : Nat} {d e : D} {v : V} (h1 : pl n d = true) (h2 : pl n e = true) (r1 : OdR M F H d v) (r2 : OdR M F H e v) : d = e := by
  rcases r1 with r1 | ⟨a, rfl, nf, c1⟩
  · rcases r2 with r2 | ⟨b, rfl, nf, c2⟩
    · exact rep_inj I hK d n e v h1 h2 r1 r2
    · cases e with
      | lst es =>
        obtain ⟨ws, q2, l2⟩ := c2
        cases d with
        | lst ds =>
          unfold Rep at r1
          obtain ⟨a, vs, e, q1, l1⟩ := r1
          cases e
          have z := I.list_inj (show SqL X.K H b vs by rw [hK]; exact q1.imp (·.2) id) (show SqL X.K H b ws from .inl q2.rd)
          subst z
          cases n with
          | zero => cases h1
          | succ n => rw [reps_inj I hK ds n es vs (by simpa [pl] using h1) (by simpa [pl] using h2) l1 l2]
        | tup ds =>
          unfold Rep at r1
          obtain ⟨a, vs, e, q1, l1⟩ := r1
          cases e
          obtain ⟨_, _, ⟨o, ho, hc, _⟩, _⟩ := I.tuple (show SqT X.K H b vs by rw [hK]; exact q1.1)
          obtain ⟨_, _, ⟨o', _, ho', hc', _⟩, _⟩ := I.list (show SqL X.K H b ws from .inl q2.rd)
          rw [ho] at ho'
          cases ho'
          rw [hc] at hc'
          exact absurd hc' (by simp)
        | _ => cases n <;> first | (simp [Rep] at r1; done) | (simp [pl] at h1; done)
      | _ => first | exact c2.elim | (cases n <;> simp [pl] at h2)
  · cases d with
    | lst ds =>
      obtain ⟨vs, q1, l1⟩ := c1
      cases e with
      | lst es =>
        obtain ⟨b, ws, eb, q2, l2⟩ := r2.lst
        cases eb
        have z := I.list_inj (show SqL X.K H a vs from .inl q1.rd) (show SqL X.K H a ws by rw [hK]; exact q2)
        subst z
        cases n with
        | zero => cases h1
        | succ n => rw [reps_inj I hK ds n es vs (by simpa [pl] using h1) (by simpa [pl] using h2) l1 l2]
      | tup es =>
        obtain ⟨b, ws, eb, q2, l2⟩ := r2.tup
        cases eb
        obtain ⟨_, _, ⟨o, ho, hc, _⟩, _⟩ := I.tuple (show SqT X.K H a ws by rw [hK]; exact q2)
        obtain ⟨_, _, ⟨o', _, ho', hc', _⟩, _⟩ := I.list (show SqL X.K H a vs from .inl q1.rd)
        rw [ho] at ho'
        cases ho'
        rw [hc] at hc'
        exact absurd hc' (by simp)
      | non => have z := r2.non; cases z
      | bl b => have z := r2.bl; cases z
      | int b => have z := r2.int; cases z
      | str b => have z := r2.str; cases z
      | _ => cases n <;> simp [pl] at h2
    | _ => first | exact c1.elim | (cases n <;> simp [pl] at h1)
structure Eq3 (A : Around) (s : Shared) (u w : Value) (b : Bool) : Prop where
  e : EqAt A s u w b
  r : RcAt A s u w b
  n : RcNeAt A s u w (!b)
theorem eqD (I : Inv X pins σ H s) (hK : X.K = M.K) : ∀ (n : Nat) (d e : D) (v w : V) (u u' : Value) (A : Around), OdR M F H d v → OdR M F H e w → RelV v u → RelV w u' → pl n d = true → pl n e = true → A.units + n < cLine → Eq3 A s u u' (D.eq d e) := by
  intro n
  induction n with
  | zero => intro d e v w u u' A _ _ _ _ h _ _; cases d <;> cases h
  | succ n ih =>
    intro d e v w u u' A rd re rv rw' hd he hu
    have hu0 : A.units < cLine := by omega
    have hin : A.in1.units + n < cLine := by
      have : A.in1.units = A.units + 1 := rfl
      omega
    have items : ∀ (ds es : List D) (vs ws : List V) (its its2 : List Value), RepL M F H ds vs → RepL M F H es ws → Vals vs its → Vals ws its2 → (∀ d ∈ ds, pl n d = true) → (∀ d ∈ es, pl n d = true) →
        ∀ j (h1 : j < its.toArray.size) (h2 : j < its2.toArray.size), EqAt A.in1 s its.toArray[j] its2.toArray[j] (pairD ds es j) := fun ds es vs ws its its2 l1 l2 r1 r2 p1 p2 j h1 h2 => by
      have h1' : j < its.length := by simpa using h1
      have h2' : j < its2.length := by simpa using h2
      obtain ⟨v, e1, q1⟩ := vals_at h1' r1
      obtain ⟨w, e2, q2⟩ := vals_at h2' r2
      obtain ⟨d, f1, g1⟩ := RepL.getV l1 e1
      obtain ⟨e, f2, g2⟩ := RepL.getV l2 e2
      have z := ih d e v w its[j] its2[j] A.in1 (.inl g1) (.inl g2) q1 q2 (p1 d (List.mem_of_getElem? f1)) (p2 e (List.mem_of_getElem? f2)) hin
      have zz : pairD ds es j = D.eq d e := by unfold pairD; rw [f1, f2]
      rw [zz]
      simpa using z.e
    have same : ∀ a, v = .ref a → w = .ref a → u = u' → EqAt A s u u' (D.eq d e) := fun a e1 e2 e3 => by
      subst e1
      subst e2
      have z := od_inj I hK hd he rd re
      subst z
      rw [D.eq_refl d (n + 1) hd, e3]
      exact EqAt.same _
    cases d with
    | non =>
      cases rd.non
      cases rv
      cases e with
      | non => cases re.non; cases rw'; simp only [D.eq]; exact ⟨.same _, .none_none, .none_none⟩
      | bl b => cases re.bl; cases rw'; simp only [D.eq]; exact ⟨.none_bool b, .none_bool b, .none_bool b⟩
      | int b => cases re.int; obtain ⟨t, rfl⟩ := rw'; simp only [D.eq]; exact ⟨.none_int b t, .none_int b t, .none_int b t⟩
      | str b => cases re.str; obtain ⟨t, rfl⟩ := rw'; simp only [D.eq]; exact ⟨.none_str b t, .none_str b t, .none_str b t⟩
      | lst es => obtain ⟨a, vs, its, rfl, rfl, q, l, r, p⟩ := od_list I hK re rw'; simp only [D.eq]; exact ⟨.none_list p hu0, .none_list p hu0, .none_list p hu0⟩
      | tup es => obtain ⟨a, vs, its, rfl, rfl, q, l, r, p⟩ := od_tup I hK re rw'; simp only [D.eq]; exact ⟨.none_tuple p hu0, .none_tuple p hu0, .none_tuple p hu0⟩
      | _ => simp [pl] at he
    | bl x =>
      cases rd.bl
      cases rv
      cases e with
      | non => cases re.non; cases rw'; simp only [D.eq]; exact ⟨.bool_none x, .bool_none x, .bool_none x⟩
      | bl b => cases re.bl; cases rw'; simp only [D.eq]; exact ⟨.bool_bool x b, .bool_bool x b, .bool_bool x b⟩
      | int b => cases re.int; obtain ⟨t, rfl⟩ := rw'; simp only [D.eq]; exact ⟨.bool_int x b t, .bool_int x b t, .bool_int x b t⟩
      | str b => cases re.str; obtain ⟨t, rfl⟩ := rw'; simp only [D.eq]; exact ⟨.bool_str x b t, .bool_str x b t, .bool_str x b t⟩
      | lst es => obtain ⟨a, vs, its, rfl, rfl, q, l, r, p⟩ := od_list I hK re rw'; simp only [D.eq]; exact ⟨.bool_list x p hu0, .bool_list x p hu0, .bool_list x p hu0⟩
      | tup es => obtain ⟨a, vs, its, rfl, rfl, q, l, r, p⟩ := od_tup I hK re rw'; simp only [D.eq]; exact ⟨.bool_tuple x p hu0, .bool_tuple x p hu0, .bool_tuple x p hu0⟩
      | _ => simp [pl] at he
    | int x =>
      cases rd.int
      obtain ⟨t', rfl⟩ := rv
      cases e with
      | non => cases re.non; cases rw'; simp only [D.eq]; exact ⟨.int_none x t', .int_none x t', .int_none x t'⟩
      | bl b => cases re.bl; cases rw'; simp only [D.eq]; exact ⟨.int_bool x t' b, .int_bool x t' b, .int_bool x t' b⟩
      | int b => cases re.int; obtain ⟨t, rfl⟩ := rw'; simp only [D.eq]; exact ⟨.int_int x t' b t, .int_int x t' b t, .int_int x t' b t⟩
      | str b => cases re.str; obtain ⟨t, rfl⟩ := rw'; simp only [D.eq]; exact ⟨.int_str x t' b t, .int_str x t' b t, .int_str x t' b t⟩
      | lst es => obtain ⟨a, vs, its, rfl, rfl, q, l, r, p⟩ := od_list I hK re rw'; simp only [D.eq]; exact ⟨.int_list x t' p hu0, .int_list x t' p hu0, .int_list x t' p hu0⟩
      | tup es => obtain ⟨a, vs, its, rfl, rfl, q, l, r, p⟩ := od_tup I hK re rw'; simp only [D.eq]; exact ⟨.int_tuple x t' p hu0, .int_tuple x t' p hu0, .int_tuple x t' p hu0⟩
      | _ => simp [pl] at he
    | str x =>
      cases rd.str
      obtain ⟨t', rfl⟩ := rv
      cases e with
      | non => cases re.non; cases rw'; simp only [D.eq]; exact ⟨.str_none x t', .str_none x t', .str_none x t'⟩
      | bl b => cases re.bl; cases rw'; simp only [D.eq]; exact ⟨.str_bool x t' b, .str_bool x t' b, .str_bool x t' b⟩
      | int b => cases re.int; obtain ⟨t, rfl⟩ := rw'; simp only [D.eq]; exact ⟨.str_int x t' b t, .str_int x t' b t, .str_int x t' b t⟩
      | str b => cases re.str; obtain ⟨t, rfl⟩ := rw'; simp only [D.eq]; exact ⟨.str_str x t' b t, .str_str x t' b t, .str_str x t' b t⟩
      | lst es => obtain ⟨a, vs, its, rfl, rfl, q, l, r, p⟩ := od_list I hK re rw'; simp only [D.eq]; exact ⟨.str_list x t' p hu0, .str_list x t' p hu0, .str_list x t' p hu0⟩
      | tup es => obtain ⟨a, vs, its, rfl, rfl, q, l, r, p⟩ := od_tup I hK re rw'; simp only [D.eq]; exact ⟨.str_tuple x t' p hu0, .str_tuple x t' p hu0, .str_tuple x t' p hu0⟩
      | _ => simp [pl] at he
    | lst ds =>
      obtain ⟨a, vs, its, rfl, rfl, q, l, r, p⟩ := od_list I hK rd rv
      cases e with
      | non => cases re.non; cases rw'; simp only [D.eq]; exact ⟨.list_none p hu0, .list_none p hu0, .list_none p hu0⟩
      | bl b => cases re.bl; cases rw'; simp only [D.eq]; exact ⟨.list_bool b p hu0, .list_bool b p hu0, .list_bool b p hu0⟩
      | int b => cases re.int; obtain ⟨t, rfl⟩ := rw'; simp only [D.eq]; exact ⟨.list_int b t p hu0, .list_int b t p hu0, .list_int b t p hu0⟩
      | str b => cases re.str; obtain ⟨t, rfl⟩ := rw'; simp only [D.eq]; exact ⟨.list_str b t p hu0, .list_str b t p hu0, .list_str b t p hu0⟩
      | tup es => obtain ⟨a', vs', its', rfl, rfl, q', l', r', p'⟩ := od_tup I hK re rw'; simp only [D.eq]; exact ⟨.list_tuple p p' hu0, .list_tuple p p' hu0, .list_tuple p p' hu0⟩
      | lst es =>
        obtain ⟨a', vs', its', rfl, rfl, q', l', r', p'⟩ := od_list I hK re rw'
        have it := items ds es vs vs' its its' l l' r r' (by simpa [pl] using hd) (by simpa [pl] using he)
        have n1 : its.toArray.size = ds.length := by rw [List.size_toArray, l.length]; exact r.length.symm
        have n2 : its'.toArray.size = es.length := by rw [List.size_toArray, l'.length]; exact r'.length.symm
        have rr : RcAt A s (.ref a) (.ref a') (D.eq (.lst ds) (.lst es)) ∧ RcNeAt A s (.ref a) (.ref a') (!D.eq (.lst ds) (.lst es)) := by
          simp only [D.eq]
          by_cases hsz : its.toArray.size = its'.toArray.size
          · have z := eqs_len (show ds.length = es.length by omega)
            rw [← z, ← n1]
            exact ⟨.lists p p' hsz hu0 it, .lists p p' hsz hu0 it⟩
          · rw [eqs_ne (show ds.length ≠ es.length by omega)]
            exact ⟨.lists_lengths p p' (by simpa using hsz) hu0, .lists_lengths p p' (by simpa using hsz) hu0⟩
        refine ⟨?_, rr.1, rr.2⟩
        by_cases ha : a = a'
        · subst ha
          exact same a rfl rfl rfl
        · exact .of_refs ha rr.1
      | _ => simp [pl] at he
    | tup ds =>
      obtain ⟨a, vs, its, rfl, rfl, q, l, r, p⟩ := od_tup I hK rd rv
      cases e with
      | non => cases re.non; cases rw'; simp only [D.eq]; exact ⟨.tuple_none p hu0, .tuple_none p hu0, .tuple_none p hu0⟩
      | bl b => cases re.bl; cases rw'; simp only [D.eq]; exact ⟨.tuple_bool b p hu0, .tuple_bool b p hu0, .tuple_bool b p hu0⟩
      | int b => cases re.int; obtain ⟨t, rfl⟩ := rw'; simp only [D.eq]; exact ⟨.tuple_int b t p hu0, .tuple_int b t p hu0, .tuple_int b t p hu0⟩
      | str b => cases re.str; obtain ⟨t, rfl⟩ := rw'; simp only [D.eq]; exact ⟨.tuple_str b t p hu0, .tuple_str b t p hu0, .tuple_str b t p hu0⟩
      | lst es => obtain ⟨a', vs', its', rfl, rfl, q', l', r', p'⟩ := od_list I hK re rw'; simp only [D.eq]; exact ⟨.tuple_list p p' hu0, .tuple_list p p' hu0, .tuple_list p p' hu0⟩
      | tup es =>
        obtain ⟨a', vs', its', rfl, rfl, q', l', r', p'⟩ := od_tup I hK re rw'
        have it := items ds es vs vs' its its' l l' r r' (by simpa [pl] using hd) (by simpa [pl] using he)
        have n1 : its.toArray.size = ds.length := by rw [List.size_toArray, l.length]; exact r.length.symm
        have n2 : its'.toArray.size = es.length := by rw [List.size_toArray, l'.length]; exact r'.length.symm
        have rr : RcAt A s (.ref a) (.ref a') (D.eq (.tup ds) (.tup es)) ∧ RcNeAt A s (.ref a) (.ref a') (!D.eq (.tup ds) (.tup es)) := by
          simp only [D.eq]
          rw [← eqs_range ds es, ← n1, ← n2]
          exact ⟨.tuples p p' hu0 it, .tuples p p' hu0 it⟩
        refine ⟨?_, rr.1, rr.2⟩
        by_cases ha : a = a'
        · subst ha
          exact same a rfl rfl rfl
        · exact .of_refs ha rr.1
      | _ => simp [pl] at he
    | _ => simp [pl] at hd
end
end VF
namespace VF
open PySem PySem.Spec PyProof.Rows L2
open PySem.SeqAt (EqAt RcAt RcNeAt)
def rDs (M : Md) (f : List D → Option Rv) : List V → Hp → VK → Prop := fun vs H Q => ∃ F ds rv, (∀ a, F a → H a ≠ none) ∧ OdRs M F H ds vs ∧ f ds = some rv ∧ ∀ F' H' v, New F H F' H' → RvR M H F' H' rv v → Q v H'
def r2D (M : Md) (f : List D → Option Rv) : R2 := fun x y H Q => rDs M f [x, y] H Q
theorem prim_ok (M : Md) (f : List D → Option Rv) : PrimOK M (rDs M f) f := fun F H ds vs rv Q hd od e q => ⟨F, ds, rv, hd, od, e, q⟩
section
variable {M : Md} {F : Addr → Prop} {H : Hp}
theorem rv_same (hd : ∀ a, F a → H a ≠ none) {rv : Rv} {v : V} {Q : VK} (q : ∀ F' H' v, New F H F' H' → RvR M H F' H' rv v → Q v H') (r : RvR M H F H rv v) : Q v H := q F H v (.refl hd) r
theorem rep_int (i : Int) : RvR M H F H (.val (.int i)) (.int i) := by show Rep M F H (.int i) (.int i); unfold Rep; rfl
theorem rep_bl (i : Bool) : RvR M H F H (.val (.bl i)) (.bl i) := by show Rep M F H (.bl i) (.bl i); unfold Rep; rfl
theorem rep_str (i : Str) : RvR M H F H (.val (.str i)) (.str i) := by show Rep M F H (.str i) (.str i); unfold Rep; rfl
theorem rv_list (hd : ∀ a, F a → H a ≠ none) {p : Addr} {ds : List D} {vs : List V} (hp : H p = none) (l : RepL M F H ds vs) : RvR M H F (upd H p (.lst vs)) (.own (.lst ds)) (.ref p) :=
  ⟨p, rfl, fun z => hd p z hp, hp, vs, upd_same, RepL.mono (New.laid hd hp).ext ds l⟩
theorem rv_tup (hd : ∀ a, F a → H a ≠ none) {p : Addr} {ds : List D} {vs : List V} (hp : H p = none) (l : RepL M F H ds vs) : RvR M H F (upd H p (.tup vs)) (.val (.tup ds)) (.ref p) := by
  show Rep M F _ (.tup ds) (.ref p)
  unfold Rep
  exact ⟨p, vs, rfl, ⟨.of upd_same, fun _ => upd_same⟩, RepL.mono (New.laid hd hp).ext ds l⟩
theorem RepL.append : ∀ {ds es : List D} {vs ws : List V}, RepL M F H ds vs → RepL M F H es ws → RepL M F H (ds ++ es) (vs ++ ws)
  | [], _, _, _, h, g => by unfold RepL at h; subst h; exact g
  | d :: ds, es, _, ws, h, g => by
    unfold RepL at h
    obtain ⟨v, r, rfl, p, q⟩ := h
    show RepL M F H (d :: (ds ++ es)) (v :: (r ++ ws))
    unfold RepL
    exact ⟨v, r ++ ws, rfl, p, RepL.append q g⟩
theorem RepL.drop : ∀ (n : Nat) {ds : List D} {vs : List V}, RepL M F H ds vs → RepL M F H (ds.drop n) (vs.drop n)
  | 0, _, _, h => h
  | _ + 1, [], _, h => by unfold RepL at h; subst h; simp [RepL]
  | n + 1, d :: ds, _, h => by
    unfold RepL at h
    obtain ⟨v, r, rfl, p, q⟩ := h
    exact RepL.drop n q
theorem RepL.take : ∀ (n : Nat) {ds : List D} {vs : List V}, RepL M F H ds vs → RepL M F H (ds.take n) (vs.take n)
  | 0, _, _, h => by simp [RepL]
  | _ + 1, [], _, h => by unfold RepL at h; subst h; simp [RepL]
  | n + 1, d :: ds, _, h => by
    unfold RepL at h
    obtain ⟨v, r, rfl, p, q⟩ := h
    show RepL M F H (d :: ds.take n) (v :: r.take n)
    unfold RepL
    exact ⟨v, r.take n, rfl, p, RepL.take n q⟩
theorem RepL.cons {d : D} {v : V} {ds : List D} {vs : List V} (p : Rep M F H d v) (q : RepL M F H ds vs) : RepL M F H (d :: ds) (v :: vs) := by
  unfold RepL
  exact ⟨v, vs, rfl, p, q⟩
theorem RepL.nil : RepL M F H [] [] := by unfold RepL; rfl
theorem RepL.ints : ∀ {ns : List Int} {vs : List V}, RepL M F H (ns.map D.int) vs → vs = ns.map V.int
  | [], _, h => by unfold RepL at h; exact h
  | n :: ns, _, h => by
    rw [List.map_cons] at h
    unfold RepL at h
    obtain ⟨v, r, rfl, p, q⟩ := h
    unfold Rep at p
    rw [p, RepL.ints q]
    rfl
theorem RepL.strs : ∀ {ns : List Str} {vs : List V}, RepL M F H (ns.map D.str) vs → vs = ns.map V.str
  | [], _, h => by unfold RepL at h; exact h
  | n :: ns, _, h => by
    rw [List.map_cons] at h
    unfold RepL at h
    obtain ⟨v, r, rfl, p, q⟩ := h
    unfold Rep at p
    rw [p, RepL.strs q]
    rfl
end
def D.int? : D → Option Int
  | .int i => some i
  | _ => none
def D.str? : D → Option Str
  | .str i => some i
  | _ => none
def D.bl? : D → Option Bool
  | .bl i => some i
  | _ => none
def allOf {α : Type} (g : D → Option α) : List D → Option (List α)
  | [] => some []
  | d :: ds => match g d, allOf g ds with
    | some a, some r => some (a :: r)
    | _, _ => none
theorem allOf_map {α : Type} {g : D → Option α} {c : α → D} (hg : ∀ a, g (c a) = some a) : ∀ xs : List α, allOf g (xs.map c) = some xs
  | [] => rfl
  | x :: xs => by
    simp only [List.map_cons, allOf, hg x, allOf_map hg xs]
theorem allOf_eq {α : Type} {g : D → Option α} {c : α → D} (hg : ∀ d a, g d = some a → d = c a) : ∀ {ds : List D} {xs : List α}, allOf g ds = some xs → ds = xs.map c
  | [], xs, h => by cases h; rfl
  | d :: ds, xs, h => by
    cases e1 : g d with
    | none => simp only [allOf, e1] at h; cases h
    | some a =>
      cases e2 : allOf g ds with
      | none => simp only [allOf, e1, e2] at h; cases h
      | some r =>
        simp only [allOf, e1, e2] at h
        cases h
        rw [hg d a e1, allOf_eq hg e2]
        rfl
theorem strs_eq {ds : List D} {xs : List Str} (h : allOf D.str? ds = some xs) : ds = xs.map D.str := allOf_eq (fun d a e => by cases d <;> simp [D.str?] at e; rw [e]) h
def fAdd : List D → Option Rv
  | [.int i, .int j] => some (.val (.int (i + j)))
  | [.str x, .str y] => if x.length + y.length ≤ sizeLine then some (.val (.str (x ++ y))) else none
  | [.lst xs, .lst ys] => if xs.length + ys.length ≤ sizeLine then some (.own (.lst (xs ++ ys))) else none
  | [.tup xs, .tup ys] => if xs.length + ys.length ≤ sizeLine then some (.val (.tup (xs ++ ys))) else none
  | _ => none
def fSub : List D → Option Rv
  | [.int i, .int j] => some (.val (.int (i - j)))
  | _ => none
def fMul : List D → Option Rv
  | [.int i, .int j] => if i.natAbs.log2 + j.natAbs.log2 < 1000000 ∨ i.natAbs < 18446744073709551616 ∨ j.natAbs < 18446744073709551616 then some (.val (.int (i * j))) else none
  | _ => none
def fFdiv : List D → Option Rv
  | [.int i, .int j] => if j ≠ 0 ∧ j.natAbs.log2 < 9000 then some (.val (.int (i.fdiv j))) else none
  | _ => none
def fMod : List D → Option Rv
  | [.int i, .int j] => if j ≠ 0 then some (.val (.int (i.fmod j))) else none
  | _ => none
def fPow : List D → Option Rv
  | [.int i, .int j] => if 0 ≤ j ∧ j ≤ 1000000 ∧ i.natAbs < 2 ^ 64 then some (.val (.int (i ^ j.toNat))) else none
  | _ => none
def fNeg : List D → Option Rv
  | [.int i] => some (.val (.int (-i)))
  | _ => none
def fLt : List D → Option Rv
  | [.int i, .int j] => some (.val (.bl (decide (i < j))))
  | [.str i, .str j] => some (.val (.bl (decide (i.cps.toList < j.cps.toList))))
  | _ => none
def fLe : List D → Option Rv
  | [.int i, .int j] => some (.val (.bl (decide (i ≤ j))))
  | [.str i, .str j] => some (.val (.bl (!decide (j.cps.toList < i.cps.toList))))
  | _ => none
def fGt : List D → Option Rv
  | [.int i, .int j] => some (.val (.bl (decide (j < i))))
  | [.str i, .str j] => some (.val (.bl (decide (j.cps.toList < i.cps.toList))))
  | _ => none
def fGe : List D → Option Rv
  | [.int i, .int j] => some (.val (.bl (decide (j ≤ i))))
  | [.str i, .str j] => some (.val (.bl (!decide (i.cps.toList < j.cps.toList))))
  | _ => none
def fEq : List D → Option Rv
  | [d, e] => if pl 60 d = true ∧ pl 60 e = true then some (.val (.bl (D.eq d e))) else none
  | _ => none
def fNe : List D → Option Rv
  | [d, e] => if pl 60 d = true ∧ pl 60 e = true then some (.val (.bl (!D.eq d e))) else none
  | _ => none
def D.isNon : D → Bool
  | .non => true
  | _ => false
def fIs : List D → Option Rv
  | [.bl a, .bl b] => some (.val (.bl (decide (a = b))))
  | [d, .non] => some (.val (.bl d.isNon))
  | _ => none
def fIsNot : List D → Option Rv
  | [.bl a, .bl b] => some (.val (.bl (!decide (a = b))))
  | [d, .non] => some (.val (.bl (!d.isNon)))
  | _ => none
def fIn : List D → Option Rv
  | [.str x, .str y] => some (.val (.bl (!(Builtin.Str.occurrences y x 0 y.length 1).isEmpty)))
  | [d, .lst ds] => if pl 60 d = true ∧ ds.all (pl 60) = true then some (.val (.bl (ds.any fun e => D.eq e d))) else none
  | [d, .tup ds] => if pl 60 d = true ∧ ds.all (pl 60) = true then some (.val (.bl (ds.any fun e => D.eq e d))) else none
  | [d, .tpp ds] => if pl 60 d = true ∧ ds.all (pl 60) = true then some (.val (.bl (ds.any fun e => D.eq e d))) else none
  | _ => none
def fNotIn : List D → Option Rv
  | [.str x, .str y] => some (.val (.bl (!(!(Builtin.Str.occurrences y x 0 y.length 1).isEmpty))))
  | [d, .lst ds] => if pl 60 d = true ∧ ds.all (pl 60) = true then some (.val (.bl (!ds.any fun e => D.eq e d))) else none
  | [d, .tup ds] => if pl 60 d = true ∧ ds.all (pl 60) = true then some (.val (.bl (!ds.any fun e => D.eq e d))) else none
  | [d, .tpp ds] => if pl 60 d = true ∧ ds.all (pl 60) = true then some (.val (.bl (!ds.any fun e => D.eq e d))) else none
  | _ => none
section
variable {M : Md} {X : Cx}
theorem OpR_or {f : Value → Value → Sem Value} {r r' : R2} (a : OpR X f r) (b : OpR X f r') : OpR X f (fun x y H Q => r x y H Q ∨ r' x y H Q) :=
  fun pins s σ H x y v u Q I rx ry h => h.elim (a pins s σ H x y v u Q I rx ry) (b pins s σ H x y v u Q I rx ry)
theorem OpR_imp {f : Value → Value → Sem Value} {r r' : R2} (a : OpR X f r) (h : ∀ x y H Q, r' x y H Q → r x y H Q) : OpR X f r' :=
  fun pins s σ H x y v u Q I rx ry q => a pins s σ H x y v u Q I rx ry (h x y H Q q)
theorem CallR_or {f : Value} {r r' : List V → Hp → VK → Prop} (a : CallR X f r) (b : CallR X f r') : CallR X f (fun xs H Q => r xs H Q ∨ r' xs H Q) :=
  fun pins s σ H xs us Q I rx h => h.elim (a pins s σ H xs us Q I rx) (b pins s σ H xs us Q I rx)
theorem CallR_imp {f : Value} {r r' : List V → Hp → VK → Prop} (a : CallR X f r) (h : ∀ xs H Q, r' xs H Q → r xs H Q) : CallR X f r' :=
  fun pins s σ H xs us Q I rx q => a pins s σ H xs us Q I rx (h xs H Q q)
theorem MtR_imp {id : String} {r r' : V → List V → Hp → VK → Prop} (a : MtR X id r) (h : ∀ x xs H Q, r' x xs H Q → r x xs H Q) : MtR X id r' :=
  fun pins s σ H x xs v us Q I rx rs q => a pins s σ H x xs v us Q I rx rs (h x xs H Q q)
theorem op_catS : OpR X (binaryOp .Add) (fun x y H Q => ∃ l b xs zs, x = .ref l ∧ y = .ref b ∧ SqL X.K H l xs ∧ SqL X.K H b zs ∧ xs.length + zs.length ≤ sizeLine ∧ ∀ p, H p = none → Q (.ref p) (upd H p (.lst (xs ++ zs)))) := by
  intro pins s σ H x y v u Q I rx ry h
  obtain ⟨l, b, xs, zs, rfl, rfl, hH, hB, hz, q⟩ := h
  cases rx
  cases ry
  obtain ⟨its, r, p1, _⟩ := I.list hH
  obtain ⟨its2, r2, p2, _⟩ := I.list hB
  have hl := r.length
  have hl2 := r2.length
  obtain ⟨⟨cls, dd, data, sl⟩, ho, hc, n, hd⟩ := p1.isList
  obtain ⟨⟨cls2, dd2, data2, sl2⟩, ho2, hc2, n2, hd2⟩ := p2.isList
  simp only at hc hd hc2 hd2
  subst hc hd hc2 hd2
  have e : its.toArray ++ its2.toArray = (its ++ its2).toArray := by simp
  refine concat_meets ⟨_, ho, rfl⟩ ⟨_, ho2, rfl⟩ noFill_list_add seq_list_add PySem.F.slot_list_add PySem.F.entry_list_add (PySem.F.args_list_add_2 _ _) (list_addW l b its.toArray its2.toArray n n2 dd dd2 sl sl2 (by simp; omega)) ⟨ho, ho2, ?_⟩
  rw [e]
  exact ⟨.ref _, _, I.lnew (t' := s.toks) (r.append r2) (by rw [List.length_append]; omega), rfl, q _ I.fresh⟩
theorem o_add (hK : X.K = M.K) : OpR X (binaryOp .Add) (r2D M fAdd) := by
  refine OpR_imp (OpR_or op_add (OpR_or op_add_str (OpR_or op_catS op_catA))) fun x y H Q h => ?_
  obtain ⟨F, ds, rv, hd, od, ef, q⟩ := h
  unfold fAdd at ef
  split at ef
  · obtain ⟨v, w, e, r1, r2⟩ := od.two
    cases e
    cases r1.int
    cases r2.int
    cases ef
    exact .inl ⟨_, _, rfl, rfl, rv_same hd q (rep_int _)⟩
  · obtain ⟨v, w, e, r1, r2⟩ := od.two
    cases e
    cases r1.str
    cases r2.str
    split at ef
    · rename_i hz
      cases ef
      exact .inr (.inl ⟨_, _, rfl, rfl, hz, rv_same hd q (rep_str _)⟩)
    · cases ef
  · obtain ⟨v, w, e, r1, r2⟩ := od.two
    cases e
    obtain ⟨a, vs, rfl, p1, l1⟩ := r1.lst
    obtain ⟨b, ws, rfl, p2, l2⟩ := r2.lst
    split at ef
    · rename_i hz
      cases ef
      refine .inr (.inr (.inl ⟨a, b, vs, ws, rfl, rfl, by rw [hK]; exact p1, by rw [hK]; exact p2, by rw [← l1.length, ← l2.length]; exact hz, fun p hp => ?_⟩))
      exact q F _ _ (New.laid hd hp) (rv_list hd hp (l1.append l2))
    · cases ef
  · obtain ⟨v, w, e, r1, r2⟩ := od.two
    cases e
    obtain ⟨a, vs, rfl, ⟨p1, t1⟩, l1⟩ := r1.tup2
    obtain ⟨b, ws, rfl, ⟨p2, t2⟩, l2⟩ := r2.tup2
    split at ef
    · rename_i hz
      cases ef
      refine .inr (.inr (.inr ⟨a, b, vs, ws, rfl, rfl, by rw [hK]; exact p1, by rw [hK]; exact p2, by rw [← l1.length, ← l2.length]; exact hz, fun e => ?_, fun _ e => ?_, fun _ _ p hp => ?_⟩))
      · subst e
        refine rv_same hd q ?_
        show Rep M F H _ _
        unfold Rep
        exact ⟨b, _, rfl, ⟨p2, fun z => t2 (by have e1 := l1.length; simp at e1 z; simp [e1] at z; exact z)⟩, l1.append l2⟩
      · subst e
        refine rv_same hd q ?_
        show Rep M F H _ _
        unfold Rep
        have z := l1.append l2
        rw [List.append_nil] at z
        exact ⟨a, _, rfl, ⟨p1, fun y => t1 (by have e2 := l2.length; simp at e2 y; simp [e2] at y; exact y)⟩, z⟩
      · exact q F _ _ (New.laid hd hp) (rv_tup hd hp (l1.append l2))
    · cases ef
  · cases ef
theorem r2_ints {f : List D → Option Rv} {x y : V} {H : Hp} {Q : VK} {C : Int → Int → Prop} {g : Int → Int → D} {gv : Int → Int → V} (hf : ∀ ds rv, f ds = some rv → ∃ i j, ds = [.int i, .int j] ∧ C i j ∧ rv = .val (g i j)) (hg : ∀ F i j, RvR M H F H (.val (g i j)) (gv i j))
    (h : r2D M f x y H Q) : rI C gv x y H Q := by
  obtain ⟨F, ds, rv, hd, od, ef, q⟩ := h
  obtain ⟨i, j, rfl, c, rfl⟩ := hf ds rv ef
  obtain ⟨v, w, e, r1, r2⟩ := od.two
  cases e
  cases r1.int
  cases r2.int
  exact ⟨i, j, rfl, rfl, c, rv_same hd q (hg F i j)⟩
theorem o_sub : OpR X (binaryOp .Sub) (r2D M fSub) := by
  refine OpR_imp op_sub fun x y H Q h => ?_
  obtain ⟨i, j, e1, e2, _, q⟩ := r2_ints (C := fun _ _ => True) (g := fun i j => .int (i - j)) (gv := fun i j => .int (i - j)) (fun ds rv e => by
    unfold fSub at e
    split at e
    · cases e; exact ⟨_, _, rfl, trivial, rfl⟩
    · cases e) (fun F i j => rep_int _) h
  exact ⟨i, j, e1, e2, q⟩
def CMulD (i j : Int) : Prop := i.natAbs.log2 + j.natAbs.log2 < 1000000 ∨ i.natAbs < 18446744073709551616 ∨ j.natAbs < 18446744073709551616
theorem CMulD.ok {i j : Int} (h : CMulD i j) : IntMulOk i j := by
  rcases h with h | h | h
  · exact CMulW.ok h
  · exact CMul.ok (.inl (by constructor <;> omega))
  · exact CMul.ok (.inr (by constructor <;> omega))
theorem op_mulD : OpR X (binaryOp .Mult) (rI CMulD fun i j => .int (i * j)) := opI fun _ _ _ _ _ _ _ hc q => mul_int q hc.ok
theorem o_mul : OpR X (binaryOp .Mult) (r2D M fMul) := OpR_imp op_mulD fun x y H Q h => r2_ints (C := CMulD) (g := fun i j => .int (i * j)) (gv := fun i j => .int (i * j)) (fun ds rv e => by
    unfold fMul at e
    split at e
    · split at e
      · rename_i hz
        cases e; exact ⟨_, _, rfl, hz, rfl⟩
      · cases e
    · cases e) (fun F i j => rep_int _) h
theorem op_fdivX : OpR X (binaryOp .FloorDiv) (rI (fun _ j => j ≠ 0 ∧ j.natAbs.log2 < 9000) fun i j => .int (i.fdiv j)) := opI fun i j _ _ _ _ _ hc q => floordiv_int hc.1 q (.inl (PyProof.noPylong_of_log2 hc.2))
theorem o_fdiv : OpR X (binaryOp .FloorDiv) (r2D M fFdiv) := OpR_imp op_fdivX fun x y H Q h => r2_ints (C := fun _ j => j ≠ 0 ∧ j.natAbs.log2 < 9000) (g := fun i j => .int (i.fdiv j)) (gv := fun i j => .int (i.fdiv j)) (fun ds rv e => by
    unfold fFdiv at e
    split at e
    · split at e
      · rename_i hz
        cases e; exact ⟨_, _, rfl, hz, rfl⟩
      · cases e
    · cases e) (fun F i j => rep_int _) h
theorem o_mod : OpR X (binaryOp .Mod) (r2D M fMod) := OpR_imp op_modN fun x y H Q h => r2_ints (C := fun _ j => j ≠ 0) (g := fun i j => .int (i.fmod j)) (gv := fun i j => .int (i.fmod j)) (fun ds rv e => by
    unfold fMod at e
    split at e
    · split at e
      · rename_i hz
        cases e; exact ⟨_, _, rfl, hz, rfl⟩
      · cases e
    · cases e) (fun F i j => rep_int _) h
theorem o_pow : OpR X (binaryOp .Pow) (r2D M fPow) := OpR_imp op_pow fun x y H Q h => r2_ints (C := CPow) (g := fun i j => .int (i ^ j.toNat)) (gv := fun i j => .int (i ^ j.toNat)) (fun ds rv e => by
    unfold fPow at e
    split at e
    · split at e
      · rename_i hz
        cases e; exact ⟨_, _, rfl, hz, rfl⟩
      · cases e
    · cases e) (fun F i j => rep_int _) h
theorem r2_cmp {f : List D → Option Rv} {p : Int → Int → Bool} {ps : Str → Str → Bool} (hf : ∀ ds rv, f ds = some rv → (∃ i j, ds = [.int i, .int j] ∧ rv = .val (.bl (p i j))) ∨ ∃ i j, ds = [.str i, .str j] ∧ rv = .val (.bl (ps i j))) {x y : V} {H : Hp} {Q : VK} (h : r2D M f x y H Q) :
    rI0 (fun i j => .bl (p i j)) x y H Q ∨ ∃ i j, x = .str i ∧ y = .str j ∧ Q (.bl (ps i j)) H := by
  obtain ⟨F, ds, rv, hd, od, ef, q⟩ := h
  rcases hf ds rv ef with ⟨i, j, rfl, rfl⟩ | ⟨i, j, rfl, rfl⟩
  · obtain ⟨v, w, e, r1, r2⟩ := od.two
    cases e
    cases r1.int
    cases r2.int
    exact .inl ⟨i, j, rfl, rfl, rv_same hd q (rep_bl _)⟩
  · obtain ⟨v, w, e, r1, r2⟩ := od.two
    cases e
    cases r1.str
    cases r2.str
    exact .inr ⟨i, j, rfl, rfl, rv_same hd q (rep_bl _)⟩
theorem o_lt : OpR X (compareOp .Lt) (r2D M fLt) := OpR_imp (OpR_or op_lt op_lt_str) fun x y H Q h => r2_cmp (p := fun i j => decide (i < j)) (ps := fun i j => decide (i.cps.toList < j.cps.toList)) (fun ds rv e => by
  unfold fLt at e
  split at e
  · cases e; exact .inl ⟨_, _, rfl, rfl⟩
  · cases e; exact .inr ⟨_, _, rfl, rfl⟩
  · cases e) h
theorem o_gt : OpR X (compareOp .Gt) (r2D M fGt) := OpR_imp (OpR_or op_gt op_gt_str) fun x y H Q h => r2_cmp (p := fun i j => decide (j < i)) (ps := fun i j => decide (j.cps.toList < i.cps.toList)) (fun ds rv e => by
  unfold fGt at e
  split at e
  · cases e; exact .inl ⟨_, _, rfl, rfl⟩
  · cases e; exact .inr ⟨_, _, rfl, rfl⟩
  · cases e) h
theorem o_ge : OpR X (compareOp .GtE) (r2D M fGe) := OpR_imp (OpR_or op_ge op_ge_str) fun x y H Q h => r2_cmp (p := fun i j => decide (j ≤ i)) (ps := fun i j => !decide (i.cps.toList < j.cps.toList)) (fun ds rv e => by
  unfold fGe at e
  split at e
  · cases e; exact .inl ⟨_, _, rfl, rfl⟩
  · cases e; exact .inr ⟨_, _, rfl, rfl⟩
  · cases e) h
theorem o_eq (hK : X.K = M.K) (hu : X.A.units + 64 < cLine) : OpR X (compareOp .Eq) (r2D M fEq) := by
  intro pins s σ H x y v u Q I rx ry h
  obtain ⟨F, ds, rv, hd, od, ef, q⟩ := h
  unfold fEq at ef
  split at ef
  · obtain ⟨v, w, e, r1, r2⟩ := od.two
    cases e
    split at ef
    · rename_i hp
      cases ef
      exact (eqD I hK 60 _ _ _ _ _ _ X.A r1 r2 rx ry hp.1 hp.2 (by omega)).r _ _ _ _ ⟨.bl _, H, I, rfl, rv_same hd q (rep_bl _)⟩
    · cases ef
  · cases ef
theorem o_ne (hK : X.K = M.K) (hu : X.A.units + 64 < cLine) : OpR X (compareOp .NotEq) (r2D M fNe) := by
  intro pins s σ H x y v u Q I rx ry h
  obtain ⟨F, ds, rv, hd, od, ef, q⟩ := h
  unfold fNe at ef
  split at ef
  · obtain ⟨v, w, e, r1, r2⟩ := od.two
    cases e
    split at ef
    · rename_i hp
      cases ef
      exact (eqD I hK 60 _ _ _ _ _ _ X.A r1 r2 rx ry hp.1 hp.2 (by omega)).n _ _ _ _ ⟨.bl _, H, I, rfl, rv_same hd q (rep_bl _)⟩
    · cases ef
  · cases ef
end
end VF
namespace VF
open PySem PySem.Spec PyProof.Rows L2
def kget {κ : Type} [DecidableEq κ] : List κ → List D → κ → Option D
  | k :: ks, d :: ds, x => if k = x then some d else kget ks ds x
  | _, _, _ => none
def D.key? : D → Option Key
  | .int i => some (.inl i)
  | .str x => some (.inr x)
  | _ => none
section
variable {M : Md} {F : Addr → Prop} {H : Hp}
theorem kget_val {κ : Type} [DecidableEq κ] {x : κ} : ∀ {kvs : List (κ × V)} {ds : List D}, RepL M F H ds (kvs.map (·.2)) →
    (kget (kvs.map (·.1)) ds x = none ∧ valV kvs x = none) ∨ ∃ d v, kget (kvs.map (·.1)) ds x = some d ∧ valV kvs x = some v ∧ Rep M F H d v
  | [], ds, h => by
    cases ds with
    | nil => exact .inl ⟨rfl, rfl⟩
    | cons d ds => unfold RepL at h; obtain ⟨v, r, e, _⟩ := h; cases e
  | (k, w) :: kvs, ds, h => by
    cases ds with
    | nil => unfold RepL at h; cases h
    | cons d ds =>
      unfold RepL at h
      obtain ⟨v, r, e, p, q⟩ := h
      cases e
      simp only [List.map_cons, kget]
      by_cases hk : k = x
      · rw [if_pos hk, valV_pos (p := (k, w)) hk]
        exact .inr ⟨d, w, rfl, rfl, p⟩
      · rw [if_neg hk, valV_neg (p := (k, w)) hk]
        exact kget_val q
theorem key_rep {d : D} {k : Key} {v : V} (e : d.key? = some k) (h : OdR M F H d v) : v = kV k := by
  cases d <;> simp [D.key?] at e
  · rw [h.int, ← e]; rfl
  · rw [h.str, ← e]; rfl
theorem keys_rep : ∀ {ds : List D} {ks : List Key} {vs : List V}, allOf D.key? ds = some ks → RepL M F H ds vs → vs = ks.map kV
  | [], ks, vs, e, h => by cases e; unfold RepL at h; exact h
  | d :: ds, ks, vs, e, h => by
    cases e1 : d.key? with
    | none => simp only [allOf, e1] at e; cases e
    | some k =>
      cases e2 : allOf D.key? ds with
      | none => simp only [allOf, e1, e2] at e; cases e
      | some r =>
        simp only [allOf, e1, e2] at e
        cases e
        unfold RepL at h
        obtain ⟨v, w, rfl, p, q⟩ := h
        rw [key_rep e1 (.inl p), keys_rep e2 q]
        rfl
end
def fItem : List D → Option Rv
  | [.lst ds, .int i] => (atI ds i).map .val
  | [.tup ds, .int i] => (atI ds i).map .val
  | [.str z, .int i] => if z.length ≤ sizeLine then (atI z.cps.toList i).map fun c => .val (.str ⟨#[c]⟩) else none
  | [.dck ks ds, e] => match e.key? with
    | some k => (kget ks ds k).map .val
    | none => none
  | [.tpp ds, .int i] => (atI ds i).map .val
  | _ => none
theorem at_rep {M : Md} {F : Addr → Prop} {H : Hp} {ds : List D} {vs : List V} {i : Int} {d : D} (l : RepL M F H ds vs) (e : atI ds i = some d) : ∃ v, atI vs i = some v ∧ Rep M F H d v := by
  unfold atI at e ⊢
  rw [← l.length]
  cases q : ixN ds.length i with
  | none => rw [q] at e; cases e
  | some j =>
    rw [q] at e
    obtain ⟨v, h1, h2⟩ := RepL.get l (show ds[j]? = some d from e)
    exact ⟨v, h1, h2⟩
section
variable {M : Md} {X : Cx}
theorem ix_dict (hu : X.A.units + 1 < cLine) : IxR X (fun x y H Q => ∃ a v, x = .ref a ∧ DGet H a y (some v) ∧ Q v H) := by
  intro value slice pins s σ H x y v u Q I rx ry h hs
  obtain ⟨a, w, rfl, g, q⟩ := h
  cases rx
  exact tail_any (dict_typeIs I g) PySem.F.slot_dict_getitem.lookup (d_getItem hu I g ry fun w' s' I' rw' => ⟨w, H, I', rw', q⟩) hs
theorem IxR_imp {r r' : R2} (a : IxR X r) (h : ∀ x y H Q, r' x y H Q → r x y H Q) : IxR X r' :=
  fun value slice pins s σ H x y v u Q I rx ry q hs => a value slice pins s σ H x y v u Q I rx ry (h x y H Q q) hs
theorem i_item (hK : X.K = M.K) (hu : X.A.units + 1 < cLine) : IxR X (r2D M fItem) := by
  refine IxR_imp (ix_list.or (ix_tup.or (ix_str.or (ix_dict hu)))) fun x y H Q h => ?_
  obtain ⟨F, ds, rv, hd, od, ef, q⟩ := h
  unfold fItem at ef
  split at ef
  · obtain ⟨v, w, e, r1, r2⟩ := od.two
    cases e
    cases r2.int
    obtain ⟨a, vs, rfl, p1, l1⟩ := r1.lst
    obtain ⟨d, e1, rfl⟩ := Option.map_eq_some_iff.mp ef
    obtain ⟨z, h1, h2⟩ := at_rep l1 e1
    exact .inl ⟨a, vs, _, z, rfl, rfl, by rw [hK]; exact p1, h1, rv_same hd q h2⟩
  · obtain ⟨v, w, e, r1, r2⟩ := od.two
    cases e
    cases r2.int
    obtain ⟨a, vs, rfl, p1, l1⟩ := r1.tup
    obtain ⟨d, e1, rfl⟩ := Option.map_eq_some_iff.mp ef
    obtain ⟨z, h1, h2⟩ := at_rep l1 e1
    exact .inr (.inl ⟨a, vs, _, z, rfl, rfl, by rw [hK]; exact p1, h1, rv_same hd q h2⟩)
  · obtain ⟨v, w, e, r1, r2⟩ := od.two
    cases e
    cases r2.int
    cases r1.str
    split at ef
    · rename_i hz
      obtain ⟨c, e1, rfl⟩ := Option.map_eq_some_iff.mp ef
      exact .inr (.inr (.inl ⟨_, _, c, rfl, rfl, hz, e1, rv_same hd q (rep_str _)⟩))
    · cases ef
  · obtain ⟨v, w, e, r1, r2⟩ := od.two
    cases e
    obtain ⟨a, vs, rfl, p1, k1, l1⟩ := r1.dck
    split at ef
    · rename_i k ek
      obtain ⟨d, e1, rfl⟩ := Option.map_eq_some_iff.mp ef
      subst k1
      rcases kget_val (x := k) l1 with ⟨z, _⟩ | ⟨d', v', z1, z2, z3⟩
      · rw [z] at e1; cases e1
      · rw [z1] at e1
        cases e1
        exact .inr (.inr (.inr ⟨a, v', rfl, .inl ⟨vs, k, p1, key_rep ek r2, z2.symm⟩, rv_same hd q z3⟩))
    · cases ef
  · obtain ⟨v, w, e, r1, r2⟩ := od.two
    cases e
    cases r2.int
    obtain ⟨a, vs, rfl, p1, l1⟩ := r1.tpS
    obtain ⟨d, e1, rfl⟩ := Option.map_eq_some_iff.mp ef
    obtain ⟨z, h1, h2⟩ := at_rep l1 e1
    exact .inr (.inl ⟨a, vs, _, z, rfl, rfl, by rw [hK]; exact p1, h1, rv_same hd q h2⟩)
  · cases ef
end
def cutD (ds : List D) (lo hi : Option Int) : List D := (ds.drop (HT.sIx ds.length 0 lo)).take (HT.sIx ds.length ds.length hi - HT.sIx ds.length 0 lo)
def fSl : D → Option Int → Option Int → Option Rv
  | .lst ds, lo, hi => some (.own (.lst (cutD ds lo hi)))
  | .tup ds, lo, hi => some (.val (.tup (cutD ds lo hi)))
  | .str z, lo, hi => if z.length ≤ sizeLine then some (.val (.str (cutS z lo hi))) else none
  | .tpp ds, lo, hi => if (cutD ds lo hi).length = ds.length then some (.val (.tpp ds)) else some (.val (.tup (cutD ds lo hi)))
  | _, _, _ => none
def rSlD (M : Md) : V → Option Int → Option Int → Hp → VK → Prop := fun x lo hi H Q => ∃ F d rv, (∀ a, F a → H a ≠ none) ∧ OdR M F H d x ∧ fSl d lo hi = some rv ∧ ∀ F' H' v, New F H F' H' → RvR M H F' H' rv v → Q v H'
theorem cut_rep {M : Md} {F : Addr → Prop} {H : Hp} {ds : List D} {vs : List V} (lo hi : Option Int) (l : RepL M F H ds vs) : RepL M F H (cutD ds lo hi) (cutV vs lo hi) := by
  unfold cutD cutV
  rw [l.length]
  exact (l.drop _).take _
theorem SlR_imp {X : Cx} {r r' : V → Option Int → Option Int → Hp → VK → Prop} (a : L2.SlR X r) (h : ∀ x lo hi H Q, r' x lo hi H Q → r x lo hi H Q) : L2.SlR X r' :=
  fun pins s σ H x v vl vu lo hi sl Q I rx hs pl pu q => a pins s σ H x v vl vu lo hi sl Q I rx hs pl pu (h x lo hi H Q q)
theorem cut_whole {vs : List V} {lo hi : Option Int} {ds : List D} (he : (cutD ds lo hi).length = vs.length) (hn : ds.length = vs.length) : HT.sIx vs.length 0 lo = 0 ∧ HT.sIx vs.length vs.length hi = vs.length := by
  unfold cutD at he
  rw [hn, List.length_take, List.length_drop, hn] at he
  have h1 := HT.sIx_le vs.length 0 (Nat.zero_le _) lo
  have h2 := HT.sIx_le vs.length vs.length (Nat.le_refl _) hi
  omega
theorem s_slice {M : Md} {X : Cx} (hK : X.K = M.K) : L2.SlR X (rSlD M) := by
  refine SlR_imp (sl_list.or (sl_tupA.or sl_str)) fun x lo hi H Q h => ?_
  obtain ⟨F, d, rv, hd, od, ef, q⟩ := h
  cases d <;> simp only [fSl] at ef
  case lst ds =>
    cases ef
    obtain ⟨a, vs, rfl, p1, l1⟩ := od.lst
    exact .inl ⟨a, vs, rfl, by rw [hK]; exact p1, fun p hp => q F _ _ (New.laid hd hp) (rv_list hd hp (cut_rep lo hi l1))⟩
  case tup ds =>
    cases ef
    obtain ⟨a, vs, rfl, ⟨p1, t1⟩, l1⟩ := od.tup2
    refine .inr (.inl ⟨a, vs, rfl, by rw [hK]; exact p1, fun hw => ?_, fun _ p hp => q F _ _ (New.laid hd hp) (rv_tup hd hp (cut_rep lo hi l1))⟩)
    refine rv_same hd q ?_
    show Rep M F H _ _
    unfold Rep
    have z := cut_rep lo hi l1
    have e : cutV vs lo hi = vs := by
      unfold cutV
      rw [hw.1, hw.2]
      simp
    rw [e] at z
    exact ⟨a, vs, rfl, ⟨p1, fun y => t1 (by rw [l1.length, ← z.length]; exact y)⟩, z⟩
  case str z =>
    split at ef
    · rename_i hz
      cases ef
      cases od.str
      exact .inr (.inr ⟨z, rfl, hz, rv_same hd q (rep_str _)⟩)
    · cases ef
  case tpp ds =>
    split at ef
    · rename_i he
      cases ef
      obtain ⟨a, vs, o, rfl, fa, p2, dn, l1⟩ := od.tpp
      refine .inr (.inl ⟨a, vs, rfl, by rw [hK]; exact .inl (.inr ⟨o, p2⟩), fun _ => ?_, fun hw p hp => absurd (cut_whole (he.trans l1.length) l1.length) hw⟩)
      refine rv_same hd q ?_
      show Rep M F H _ _
      unfold Rep
      exact ⟨a, vs, o, rfl, fa, p2, dn, l1⟩
    · rename_i hne
      cases ef
      obtain ⟨a, vs, rfl, p1, l1⟩ := od.tpS
      refine .inr (.inl ⟨a, vs, rfl, by rw [hK]; exact p1, fun hw => ?_, fun _ p hp => q F _ _ (New.laid hd hp) (rv_tup hd hp (cut_rep lo hi l1))⟩)
      have z := cut_rep lo hi l1
      have e : cutV vs lo hi = vs := by
        unfold cutV
        rw [hw.1, hw.2]
        simp
      rw [e] at z
      exact absurd (z.length.trans l1.length.symm) hne
  all_goals cases ef
def fLen : List D → Option Rv
  | [.lst ds] => some (.val (.int ds.length))
  | [.tup ds] => some (.val (.int ds.length))
  | [.str z] => if z.length ≤ sizeLine then some (.val (.int z.length)) else none
  | [.tpp ds] => some (.val (.int ds.length))
  | _ => none
def fInt : List D → Option Rv
  | [.int i] => some (.val (.int i))
  | [.bl k] => some (.val (.int (if k then 1 else 0)))
  | _ => none
def fStr : List D → Option Rv
  | [.int i] => if i.natAbs.log2 < 1920 then some (.val (.str (toString i))) else none
  | _ => none
def fAbs : List D → Option Rv
  | [.int i] => some (.val (.int (if i < 0 then -i else i)))
  | _ => none
def fMax2 : List D → Option Rv
  | [.int i, .int j] => some (.val (.int (if j > i then j else i)))
  | _ => none
def fList : List D → Option Rv
  | [.lst ds] => some (.own (.lst ds))
  | [.tup ds] => some (.own (.lst ds))
  | [.tpp ds] => some (.own (.lst ds))
  | _ => none
def fTuple : List D → Option Rv
  | [.lst ds] => some (.val (.tup ds))
  | [.tup ds] => some (.val (.tup ds))
  | _ => none
def fAll : List D → Option Rv
  | [.lst ds] => match allOf D.bl? ds with
    | some bs => some (.val (.bl (bs.all id)))
    | none => none
  | _ => none
def fAny : List D → Option Rv
  | [.lst ds] => match allOf D.bl? ds with
    | some bs => some (.val (.bl (bs.any id)))
    | none => none
  | _ => none
def fSum : List D → Option Rv
  | [.lst ds] => match allOf D.int? ds with
    | some ns => some (.val (.int ns.sum))
    | none => none
  | _ => none
def imax : List Int → Int
  | [] => 0
  | [x] => x
  | x :: xs => max x (imax xs)
def imin : List Int → Int
  | [] => 0
  | [x] => x
  | x :: xs => min x (imin xs)
theorem imin_spec : ∀ (xs : List Int), xs ≠ [] → imin xs ∈ xs ∧ ∀ y ∈ xs, imin xs ≤ y
  | [], h => absurd rfl h
  | [x], _ => by simp [imin]
  | x :: y :: r, _ => by
    obtain ⟨h1, h2⟩ := imin_spec (y :: r) (by simp)
    have e : imin (x :: y :: r) = min x (imin (y :: r)) := rfl
    rw [e]
    constructor
    · rcases Int.le_total x (imin (y :: r)) with h | h
      · rw [Int.min_eq_left h]; exact List.mem_cons_self
      · rw [Int.min_eq_right h]; exact List.mem_cons_of_mem _ h1
    · intro z hz
      rcases List.mem_cons.mp hz with rfl | hz
      · exact Int.min_le_left _ _
      · exact Int.le_trans (Int.min_le_right _ _) (h2 z hz)
def fMax : List D → Option Rv
  | [.lst ds] => match allOf D.int? ds with
    | some (n :: ns) => some (.val (.int (imax (n :: ns))))
    | _ => none
  | _ => none
def fMin : List D → Option Rv
  | [.lst ds] => match allOf D.int? ds with
    | some (n :: ns) => some (.val (.int (imin (n :: ns))))
    | _ => none
  | _ => none
section
variable {M : Md} {X : Cx}
theorem c_len (hK : X.K = M.K) : CallR X (.builtin "len") (rDs M fLen) := by
  refine CallR_imp (CallR_or call_len_seq call_len_str) fun xs H Q h => ?_
  obtain ⟨F, ds, rv, hd, od, ef, q⟩ := h
  unfold fLen at ef
  split at ef
  · obtain ⟨v, rfl, r1⟩ := od.one
    obtain ⟨a, vs, rfl, p1, l1⟩ := r1.lst
    cases ef
    refine .inl ⟨a, vs, rfl, .inl (by rw [hK]; exact p1), ?_⟩
    rw [← l1.length]
    exact rv_same hd q (rep_int _)
  · obtain ⟨v, rfl, r1⟩ := od.one
    obtain ⟨a, vs, rfl, p1, l1⟩ := r1.tup
    cases ef
    refine .inl ⟨a, vs, rfl, .inr (by rw [hK]; exact p1), ?_⟩
    rw [← l1.length]
    exact rv_same hd q (rep_int _)
  · obtain ⟨v, rfl, r1⟩ := od.one
    cases r1.str
    split at ef
    · rename_i hz
      cases ef
      exact .inr ⟨_, rfl, hz, rv_same hd q (rep_int _)⟩
    · cases ef
  · obtain ⟨v, rfl, r1⟩ := od.one
    obtain ⟨a, vs, rfl, p1, l1⟩ := r1.tpS
    cases ef
    refine .inl ⟨a, vs, rfl, .inr (by rw [hK]; exact p1), ?_⟩
    rw [← l1.length]
    exact rv_same hd q (rep_int _)
  · cases ef
theorem c_int : CallR X (.type "int") (rDs M fInt) := by
  refine CallR_imp call_int1 fun xs H Q h => ?_
  obtain ⟨F, ds, rv, hd, od, ef, q⟩ := h
  unfold fInt at ef
  split at ef
  · obtain ⟨v, rfl, r1⟩ := od.one
    cases r1.int
    cases ef
    exact .inl ⟨_, rfl, rv_same hd q (rep_int _)⟩
  · obtain ⟨v, rfl, r1⟩ := od.one
    cases r1.bl
    cases ef
    exact .inr ⟨_, rfl, rv_same hd q (rep_int _)⟩
  · cases ef
theorem c_str : CallR X (.type "str") (rDs M fStr) := by
  refine CallR_imp call_str_int fun xs H Q h => ?_
  obtain ⟨F, ds, rv, hd, od, ef, q⟩ := h
  unfold fStr at ef
  split at ef
  · obtain ⟨v, rfl, r1⟩ := od.one
    cases r1.int
    split at ef
    · rename_i hz
      cases ef
      exact ⟨_, rfl, hz, rv_same hd q (rep_str _)⟩
    · cases ef
  · cases ef
theorem c_abs : CallR X (.builtin "abs") (rDs M fAbs) := by
  refine CallR_imp call_abs fun xs H Q h => ?_
  obtain ⟨F, ds, rv, hd, od, ef, q⟩ := h
  unfold fAbs at ef
  split at ef
  · obtain ⟨v, rfl, r1⟩ := od.one
    cases r1.int
    cases ef
    exact ⟨_, rfl, rv_same hd q (rep_int _)⟩
  · cases ef
end
def fJoin : List D → Option Rv
  | [.str a, .lst ds] => match allOf D.str? ds with
    | some ys => if (ys.map (·.length)).sum + ys.length * a.length ≤ 16777216 then some (.val (.str (Txt.join a ys))) else none
    | none => none
  | _ => none
def rMD (M : Md) (f : List D → Option Rv) : V → List V → Hp → VK → Prop := fun x xs H Q => rDs M f (x :: xs) H Q
theorem m_join {M : Md} {X : Cx} (hK : X.K = M.K) : MtR X "str.join" (rMD M fJoin) := by
  refine MtR_imp mt_join fun x xs H Q h => ?_
  obtain ⟨F, ds, rv, hd, od, ef, q⟩ := h
  unfold fJoin at ef
  split at ef
  · obtain ⟨v, w, e, r1, r2⟩ := od.two
    cases e
    cases r1.str
    obtain ⟨a, vs, rfl, p1, l1⟩ := r2.lst
    split at ef
    · rename_i ys e
      split at ef
      · rename_i hz
        cases ef
        rw [strs_eq e] at l1
        rw [l1.strs] at p1
        exact ⟨_, a, ys, rfl, rfl, .inl (by rw [hK]; exact p1), hz, rv_same hd q (rep_str _)⟩
      · cases ef
    · cases ef
  · cases ef
end VF
namespace VF
open PySem PySem.Spec PyProof.Rows L2
def cst (d : D) : ES := fun ρ => .ok (.val d) ρ
def nm (i : Nat) : ES := fun ρ => match gt ρ i with
  | some (.val d) => .ok (.val d) ρ
  | some (.own d) => .ok (.val d) (ρ.set i (some (.val d)))
  | _ => .bad
def evI : Option Opd → En → Out (Option Int)
  | none, ρ => .ok none ρ
  | some o, ρ => (o.ev ρ).bind fun x ρ' => match x.dat ρ' with
    | some (.int i) => .ok (some i) ρ'
    | _ => .bad
def slc (o : Opd) (lo hi : Option Opd) : ES := fun ρ => (o.ev ρ).bind fun x ρ1 => (evI lo ρ1).bind fun l ρ2 => (evI hi ρ2).bind fun u ρ3 => match x.dat ρ3 with
  | some d => (match fSl d l u with
    | some r => .ok r ρ3
    | none => .bad)
  | none => .bad
def chn (f g : List D → Option Rv) (a b c : Opd) : ES := fun ρ => (a.ev ρ).bind fun x ρ0 => (b.ev ρ0).bind fun y ρ1 => match x.dat ρ1, y.dat ρ1 with
  | some d, some e => (match f [d, e] with
    | some (.val (.bl true)) => (c.ev ρ1).bind fun z ρ2 => (match y.dat ρ2, z.dat ρ2 with
      | some e', some k => (match g [e', k] with
        | some r => .ok r ρ2
        | none => .bad)
      | _, _ => .bad)
    | some (.val (.bl false)) => .ok (.val (.bl false)) ρ1
    | _ => .bad)
  | _, _ => .bad
def vals : List Ov → Option (List D)
  | [] => some []
  | .val d :: xs => (vals xs).map (d :: ·)
  | .at _ :: _ => none
def disp (mk : List D → Rv) (φs : List ES) : ES := fun ρ => (evs (φs.map .ex) ρ).bind fun xs ρ' => match vals xs with
  | some ds => .ok (mk ds) ρ'
  | none => .bad
def D.truth : D → Option Bool
  | .non => some false
  | .bl b => some b
  | .int i => some (i != 0)
  | .str y => if y.length ≤ sizeLine then some ((y.length : Int) != 0) else none
  | .tup ds => some (!ds.isEmpty)
  | .lst ds => some (!ds.isEmpty)
  | _ => none
abbrev BS := En → Out Bool
def tru (o : Opd) : BS := fun ρ => (o.ev ρ).bind fun x ρ' => match x.dat ρ' with
  | some d => (match d.truth with
    | some k => .ok k ρ'
    | none => .bad)
  | none => .bad
def bnot (t : BS) : BS := fun ρ => (t ρ).bind fun b ρ' => .ok (!b) ρ'
def band (t u : BS) : BS := fun ρ => (t ρ).bind fun b ρ' => if b then u ρ' else .ok false ρ'
def bor (t u : BS) : BS := fun ρ => (t ρ).bind fun b ρ' => if b then .ok true ρ' else u ρ'
def iff (t : BS) (a b : ES) : ES := fun ρ => (t ρ).bind fun c ρ' => if c then a ρ' else b ρ'
def andE (a b : ES) : ES := fun ρ => (a ρ).bind fun r ρ' => match r.d.truth with
  | some true => b ρ'
  | some false => .ok r ρ'
  | none => .bad
def orE (a b : ES) : ES := fun ρ => (a ρ).bind fun r ρ' => match r.d.truth with
  | some false => b ρ'
  | some true => .ok r ρ'
  | none => .bad
def notE (o : Opd) : ES := fun ρ => (tru o ρ).bind fun b ρ' => .ok (.val (.bl (!b))) ρ'
def tT (M : Md) (W : WX) (φ : BS) : TT := fun σ H Q => ∃ F ρ, SR M F H σ ρ ∧ Want M W F H σ ρ (φ ρ) fun b _ H' _ => Q b H'
section
variable {M : Md} {W : WX} {F : Addr → Prop} {H : Hp} {σ : St} {ρ : En}
theorem Want.bind {α β : Type} {o : Out α} {f : α → En → Out β} {Q : β → (Addr → Prop) → Hp → En → Prop} (h : Want M W F H σ ρ (o.bind f) Q) :
    Want M W F H σ ρ o fun a F1 H1 ρ1 => Po M F H σ ρ F1 H1 ρ1 → Want M W F1 H1 σ ρ1 (f a ρ1) fun b F2 H2 ρ2 => Po M F H σ ρ F2 H2 ρ2 → Q b F2 H2 ρ2 := by
  cases o with
  | bad => exact h
  | exc x ρ' => exact h
  | ok a ρ1 =>
    intro F1 H1 po1 _
    have h : Want M W F H σ ρ (f a ρ1) Q := h
    cases e : f a ρ1 with
    | bad => rw [e] at h; exact h
    | exc x ρ2 => rw [e] at h; exact fun F2 H2 cls d po2 xr => h F2 H2 cls d (po1.trans po2) xr
    | ok b ρ2 => rw [e] at h; exact fun F2 H2 po2 _ => h F2 H2 (po1.trans po2)
theorem Want.mono {α : Type} {o : Out α} {Q Q' : α → (Addr → Prop) → Hp → En → Prop} (h : Want M W F H σ ρ o Q) (k : ∀ a F' H' ρ', Po M F H σ ρ F' H' ρ' → Q a F' H' ρ' → Q' a F' H' ρ') : Want M W F H σ ρ o Q' := by
  cases o with
  | bad => exact h
  | exc x ρ' => exact h
  | ok a ρ' => exact fun F' H' po => k a F' H' ρ' po (h F' H' po)
theorem Want.ok {α : Type} {a : α} {ρ' : En} {Q : α → (Addr → Prop) → Hp → En → Prop} (h : Want M W F H σ ρ (.ok a ρ') Q) {F' : Addr → Prop} {H' : Hp} (po : Po M F H σ ρ F' H' ρ') : Q a F' H' ρ' := h F' H' po
theorem freeze_slot (s : SR M F H σ ρ) {i : Nat} {d : D} (e : gt ρ i = some (.own d)) : ∃ F' v, gv σ i = some v ∧ Po M F H σ ρ F' H (ρ.set i (some (.val d))) ∧ Rep M F' H d v := by
  obtain ⟨v, hv, a, rfl, nf, c⟩ := s.slot i _ e
  have hi := gt_lt e
  have x : Ext F H (fun b => F b ∨ b = a) H := ⟨fun _ h => .inl h, fun _ _ _ _ h => h, fun _ _ _ _ h => h, fun _ _ h => h, fun _ _ h => h⟩
  obtain ⟨u, hu, _⟩ := c.some_of
  have ne : ∀ j t, j ≠ i → gt ρ j = some t → t.top = true → gv σ j ≠ some (.ref a) := fun j t hj ht htop z => hj (s.dist j i t _ a ht e htop rfl z hv)
  refine ⟨fun b => F b ∨ b = a, .ref a, hv, ⟨⟨fun b h => .inl h, fun b o h _ _ => .inl h, fun b h => h, fun b h => ?_, fun b h => ?_, fun b h => ?_⟩, ⟨by rw [List.length_set]; exact s.len, fun b h => ?_, fun j t h => ?_, fun j k t t' b h1 h2 h3 h4 h5 h6 => ?_, s.xn.ext x (fun P q t => t.kept (fun _ h => .inl h) fun _ _ _ h _ => h)⟩, ⟨by rw [List.length_set], fun j => ?_⟩⟩, (c.mono x fun _ h => h).rep (.inr rfl)⟩
  · rcases h with h | rfl
    · exact .inl h
    · exact .inr (.inr ⟨i, d, e, hv⟩)
  · obtain ⟨j, d', h1, h2⟩ := h
    by_cases hj : i = j
    · subst hj
      rw [gt_set_self hi] at h1
      cases h1
    · rw [gt_set_ne hj] at h1
      exact .inl ⟨j, d', h1, h2⟩
  · obtain ⟨j, d', h1, h2⟩ := h
    by_cases hj : i = j
    · subst hj
      rw [gt_set_self hi] at h1
      cases h1
    · rw [gt_set_ne hj] at h1
      exact ⟨j, d', h1, h2⟩
  · rcases h with h | rfl
    · exact s.dom b h
    · intro z
      have hu : H b = some u := hu
      rw [z] at hu
      cases hu
  · by_cases hj : i = j
    · subst hj
      rw [gt_set_self hi] at h
      cases h
      exact ⟨.ref a, hv, (c.mono x fun _ h => h).rep (.inr rfl)⟩
    · rw [gt_set_ne hj] at h
      obtain ⟨w, hw, r⟩ := s.slot j t h
      refine ⟨w, hw, ?_⟩
      cases t with
      | val d' => exact Rep.mono x d' r
      | own d' =>
        obtain ⟨b, rfl, nf', c'⟩ := r
        exact ⟨b, rfl, fun z => z.elim nf' fun z => ne j _ (Ne.symm hj) h rfl (by rw [hw, z]), c'.mono x fun _ h => h⟩
      | ref d' =>
        obtain ⟨b, rfl, nf', c'⟩ := r
        exact ⟨b, rfl, fun z => z.elim nf' fun z => ne j _ (Ne.symm hj) h rfl (by rw [hw, z]), c'.mono x fun _ h => h⟩
      | rd d' =>
        obtain ⟨b, rfl, nf', c'⟩ := r
        exact ⟨b, rfl, fun z => z.elim nf' fun z => ne j _ (Ne.symm hj) h rfl (by rw [hw, z]), c'.mono x fun _ h => h⟩
  · by_cases hj : i = j
    · subst hj
      rw [gt_set_self hi] at h1
      cases h1
      cases h3
    · by_cases hk : i = k
      · subst hk
        rw [gt_set_self hi] at h2
        cases h2
        cases h4
      · rw [gt_set_ne hj] at h1
        rw [gt_set_ne hk] at h2
        exact s.dist j k t t' b h1 h2 h3 h4 h5 h6
  · by_cases hj : i = j
    · subst hj
      rw [gt_set_self hi, e]
      trivial
    · rw [gt_set_ne hj]
      exact .refl _
theorem nm_run {i : Nat} {Q : VK} (h : tE M W (nm i) σ H Q) : tVar i σ H Q := by
  obtain ⟨F, ρ, s, h⟩ := h
  cases e : gt ρ i with
  | none => simp only [nm, e] at h; exact h.elim
  | some t =>
    cases t with
    | val d =>
      simp only [nm, e] at h
      obtain ⟨v, hv, r⟩ := s.slot i _ e
      exact ⟨v, gv_some hv, h F H (.refl s) v r⟩
    | own d =>
      simp only [nm, e] at h
      obtain ⟨F', v, hv, po, r⟩ := freeze_slot s e
      exact ⟨v, gv_some hv, h F' H po v r⟩
    | ref d => simp only [nm, e] at h; exact h.elim
    | rd d => simp only [nm, e] at h; exact h.elim
theorem cst_run {d : D} {v : V} {Q : VK} (r : ∀ F H, Rep M F H d v) (h : tE M W (cst d) σ H Q) : Q v H := by
  obtain ⟨F, ρ, s, h⟩ := h
  exact h F H (.refl s) v (r F H)
theorem op_bind (s : SR M F H σ ρ) {o : Opd} {β : Type} {f : Ov → En → Out β} {Q : β → (Addr → Prop) → Hp → En → Prop} {Q' : VK} (h : Want M W F H σ ρ ((o.ev ρ).bind f) Q)
    (k : ∀ x F1 H1 ρ1 v, Po M F H σ ρ F1 H1 ρ1 → OvR M F1 H1 σ x v → Want M W F1 H1 σ ρ1 (f x ρ1) (fun b F2 H2 ρ2 => Po M F H σ ρ F2 H2 ρ2 → Q b F2 H2 ρ2) → Q' v H1) : tO M W o σ H Q' :=
  op_run s ((Want.bind h).mono fun x F1 H1 ρ1 po q v rv => k x F1 H1 ρ1 v po rv (q po))
theorem tE_of' (s : SR M F H σ ρ) {φ : ES} {β : Type} {f : Rv → En → Out β} {Q : β → (Addr → Prop) → Hp → En → Prop} {Q' : VK} (h : Want M W F H σ ρ ((φ ρ).bind f) Q)
    (k : ∀ r F1 H1 ρ1 v, Po M F H σ ρ F1 H1 ρ1 → RvR M H F1 H1 r v → Want M W F1 H1 σ ρ1 (f r ρ1) (fun b F2 H2 ρ2 => Po M F H σ ρ F2 H2 ρ2 → Q b F2 H2 ρ2) → Q' v H1) : tE M W φ σ H Q' :=
  tE_of s ((Want.bind h).mono fun x F1 H1 ρ1 po q v rv => k x F1 H1 ρ1 v po rv (q po))
theorem tT_of (s : SR M F H σ ρ) {φ : BS} {β : Type} {f : Bool → En → Out β} {Q : β → (Addr → Prop) → Hp → En → Prop} {Q' : Bool → Hp → Prop} (h : Want M W F H σ ρ ((φ ρ).bind f) Q)
    (k : ∀ b F1 H1 ρ1, Po M F H σ ρ F1 H1 ρ1 → Want M W F1 H1 σ ρ1 (f b ρ1) (fun c F2 H2 ρ2 => Po M F H σ ρ F2 H2 ρ2 → Q c F2 H2 ρ2) → Q' b H1) : tT M W φ σ H Q' :=
  ⟨F, ρ, s, (Want.bind h).mono fun b F1 H1 ρ1 po q => k b F1 H1 ρ1 po (q po)⟩
theorem od_truth {d : D} {v : V} {k : Bool} (h : OdR M F H d v) (e : d.truth = some k) : TruV M.K v H k := by
  cases d with
  | non => cases h.non; cases e; rfl
  | bl b => cases h.bl; cases e; rfl
  | int b => cases h.int; cases e; rfl
  | str b =>
    cases h.str
    simp only [D.truth] at e
    split at e
    · rename_i hz
      cases e
      exact ⟨hz, rfl⟩
    · cases e
  | tup ds =>
    obtain ⟨a, vs, rfl, q, l⟩ := h.tup
    cases e
    refine .inr (.inl ⟨vs, q, ?_⟩)
    have := l.length
    cases ds <;> cases vs <;> simp at this ⊢
  | lst ds =>
    obtain ⟨a, vs, rfl, q, l⟩ := h.lst
    cases e
    refine .inl ⟨vs, q, ?_⟩
    have := l.length
    cases ds <;> cases vs <;> simp at this ⊢
  | dck ks ds => cases e
  | dct ks ds => cases e
  | ins c fs ds => cases e
  | exn c fs ds a dx => cases e
  | tpp ds => cases e
end
structure Cs where
  N : List Str
  sc : Scope
  fb : Str → Bool
structure G0 (M : Md) (cs : Cs) (k : Nat) (X : Cx) : Prop where
  hP : X.prog = M.P
  hw : X.w = M.w
  hb : X.base = M.base
  hK : X.K = M.K
  hmg : X.mg = M.mg
  hN : X.N = cs.N
  nd : cs.N.Nodup
  hsc : X.env.scope = cs.sc
  hfn : X.fn = cs.fb
  un : X.A.units + 16 * k + 200 < cLine
structure G (M : Md) (cs : Cs) (W : WX) (k : Nat) (X : Cx) : Prop extends G0 M cs k X where
  calm : X.calm = true
  tk : L2N.Takes X W
  room : Room k X.A
  pass : PassesOwn (model X.prog X.w) X.A X.env X.xe
  nx : M.xn = none
section
variable {M : Md} {cs : Cs} {W : WX} {k : Nat} {X : Cx}
theorem G0.hu (g : G0 M cs k X) : X.A.units + 64 < cLine := by have := g.un; omega
theorem G0.hu1 (g : G0 M cs k X) : X.A.units + 1 < cLine := by have := g.un; omega
theorem G0.vis (g : G0 M cs k X) {x : Str} (h : Vis cs.sc x) : Vis X.env.scope x := by rw [g.hsc]; exact h
theorem G0.gl (g : G0 M cs k X) {x : Str} (h : cs.sc.names.lookup x = some .globalImplicit) : Gl X x := by
  show X.env.scope.names.lookup x = _
  rw [g.hsc]
  exact h
theorem e_sl (g : G0 M cs k X) {i : Nat} {x : Str} {pos : Pos} (hi : cs.N[i]? = some x) (hv : Vis cs.sc x) (hd : (x == ("__debug__" : Str)) = false) (hcd : (x == ("__classdict__" : Str)) = false) : PE X (.Name x pos) (tO M W (.sl i)) :=
  pe_var (by rw [g.hN]; exact hi) (g.vis hv) hd hcd
theorem e_nm (g : G0 M cs k X) {i : Nat} {x : Str} {pos : Pos} (hi : cs.N[i]? = some x) (hv : Vis cs.sc x) (hd : (x == ("__debug__" : Str)) = false) (hcd : (x == ("__classdict__" : Str)) = false) : PE X (.Name x pos) (tE M W (nm i)) :=
  PE_imp (pe_var (by rw [g.hN]; exact hi) (g.vis hv) hd hcd) fun σ H Q h => nm_run h
theorem e_int {i : Int} {j : Nat} {pos : Pos} : PE X (.Constant (.int i) j pos) (tE M W (cst (.int i))) := PE_imp pe_int fun σ H Q h => cst_run (fun F H => by unfold Rep; rfl) h
theorem e_bl {i : Bool} {j : Nat} {pos : Pos} : PE X (.Constant (.bool i) j pos) (tE M W (cst (.bl i))) := PE_imp pe_bl fun σ H Q h => cst_run (fun F H => by unfold Rep; rfl) h
theorem e_str {i : Str} {j : Nat} {pos : Pos} : PE X (.Constant (.str i) j pos) (tE M W (cst (.str i))) := PE_imp pe_str fun σ H Q h => cst_run (fun F H => by unfold Rep; rfl) h
theorem e_non {j : Nat} {pos : Pos} : PE X (.Constant .none j pos) (tE M W (cst .non)) := PE_imp pe_non fun σ H Q h => cst_run (fun F H => by unfold Rep; rfl) h
theorem o_ex {e : Expr} {φ : ES} (h : PE X e (tE M W φ)) : PE X e (tO M W (.ex φ)) := h
theorem a_nil : PA X [] (tOs M W []) := pa_nil
theorem a_cons {e : Expr} {es : List Expr} {o : Opd} {os : List Opd} (h : PE X e (tO M W o)) (hr : PA X es (tOs M W os)) (hs : starEach (e :: es) X.env = (false, eval e X.env) :: starEach es X.env) : PA X (e :: es) (tOs M W (o :: os)) := pa_cons h hr hs
theorem e_bin {a b : Expr} {op : Operator} {pos : Pos} {f : List D → Option Rv} {oa ob : Opd} (ho : OpR X (binaryOp op) (r2D M f)) (ha : PE X a (tO M W oa)) (hb : PE X b (tO M W ob)) : PE X (.BinOp a op b pos) (tE M W (app f [oa, ob])) :=
  PE_imp (pe_op ho ha hb) fun σ H Q h => app_run (prim_ok M f) h
theorem e_cmp {a b : Expr} {op : CmpOp} {pos : Pos} {f : List D → Option Rv} {oa ob : Opd} (ho : OpR X (compareOp op) (r2D M f)) (ha : PE X a (tO M W oa)) (hb : PE X b (tO M W ob)) (hm : behindInMarks op b = false) : PE X (.Compare a [op] [b] pos) (tE M W (app f [oa, ob])) :=
  PE_imp (pe_cmpR ho ha hb hm) fun σ H Q h => app_run (prim_ok M f) h
theorem e_callB (g : G0 M cs k X) {x : Str} {p pos : Pos} {e : Expr} {es : List Expr} {id : String} {f : List D → Option Rv} {os : List Opd} (hc : CallR X (.builtin id) (rDs M f)) (hg : cs.sc.names.lookup x = some .globalImplicit) (hm : M.mg x = none) (hv : bootBuiltins x = some (.builtin id)) (ha : PA X (e :: es) (tOs M W os))
    (hn : x ≠ "__name__") (hdb : (x == ("__debug__" : Str)) = false) (he : starEach (e :: es) X.env = (false, eval e X.env) :: starEach es X.env) (hpl : (backTo pos (starEach es X.env)).any (·.1) = false) : PE X (.Call (.Name x p) (e :: es) [] pos) (tE M W (app f os)) :=
  PE_imp (pe_callB hc (g.gl hg) (by rw [g.hmg]; exact hm) hv ha hn hdb he hpl) fun σ H Q h => app_run (prim_ok M f) h
theorem e_callTy (g : G0 M cs k X) {x : Str} {p pos : Pos} {e : Expr} {es : List Expr} {T : String} {f : List D → Option Rv} {os : List Opd} (hc : CallR X (.type T) (rDs M f)) (hg : cs.sc.names.lookup x = some .globalImplicit) (hm : M.mg x = none) (hv : bootBuiltins x = some (.type T)) (ha : PA X (e :: es) (tOs M W os))
    (hn : x ≠ "__name__") (hdb : (x == ("__debug__" : Str)) = false) (he : starEach (e :: es) X.env = (false, eval e X.env) :: starEach es X.env) (hpl : (backTo pos (starEach es X.env)).any (·.1) = false) : PE X (.Call (.Name x p) (e :: es) [] pos) (tE M W (app f os)) :=
  PE_imp (pe_callTy hc (g.gl hg) (by rw [g.hmg]; exact hm) hv ha hn hdb he hpl) fun σ H Q h => app_run (prim_ok M f) h
theorem part_run {F : Addr → Prop} {H : Hp} {σ : St} {ρ : En} (s : SR M F H σ ρ) {o : Opd} {β : Type} {f : Option Int → En → Out β} {Q : β → (Addr → Prop) → Hp → En → Prop} {Q' : Option Int → Hp → Prop} (h : Want M W F H σ ρ ((evI (some o) ρ).bind f) Q)
    (k : ∀ x F1 H1 ρ1, Po M F H σ ρ F1 H1 ρ1 → Want M W F1 H1 σ ρ1 (f x ρ1) (fun b F2 H2 ρ2 => Po M F H σ ρ F2 H2 ρ2 → Q b F2 H2 ρ2) → Q' x H1) : tPart (tO M W o) σ H Q' := by
  have h1 : Want M W F H σ ρ ((o.ev ρ).bind fun x ρ' => (match x.dat ρ' with | some (.int i) => Out.ok (some i) ρ' | _ => .bad).bind f) Q := by
    have e : (evI (some o) ρ).bind f = ((o.ev ρ).bind fun x ρ' => (match x.dat ρ' with | some (.int i) => Out.ok (some i) ρ' | _ => .bad).bind f) := by
      simp only [evI]
      cases o.ev ρ <;> rfl
    rw [← e]
    exact h
  refine op_bind s h1 fun x F1 H1 ρ1 v po rv q => ?_
  cases e : x.dat ρ1 with
  | none => simp only [e] at q; exact q.elim
  | some d =>
    cases d with
    | int i =>
      simp only [e] at q
      exact ⟨i, (rv.od po.sr e).int, k _ F1 H1 ρ1 po q⟩
    | _ => simp only [e] at q; exact q.elim
theorem e_slc (g : G0 M cs k X) {a : Expr} {lo hi : Option Expr} {p2 pos : Pos} {oa : Opd} {ol oh : Option Opd} (ha : PE X a (tO M W oa)) (hl : match lo, ol with | some e, some o => PE X e (tO M W o) | none, none => True | _, _ => False)
    (hh : match hi, oh with | some e, some o => PE X e (tO M W o) | none, none => True | _, _ => False) : PE X (.Subscript a (.Slice lo hi none p2) pos) (tE M W (slc oa ol oh)) := by
  have fin : ∀ {F : Addr → Prop} {H : Hp} {σ : St} {ρ : En} {l u : Option Int} {x : Ov} {v : V} {Q : VK} {F0 : Addr → Prop} {H0 : Hp} {ρ0 : En}, SR M F H σ ρ → (∀ a, H a = none → H0 a = none) → Po M F0 H0 σ ρ0 F H ρ → OvR M F H σ x v →
      Want M W F H σ ρ (match x.dat ρ with | some d => (match fSl d l u with | some r => Out.ok r ρ | none => .bad) | none => .bad) (fun r F2 H2 ρ2 => Po M F0 H0 σ ρ0 F2 H2 ρ2 → ∀ v, RvR M H0 F2 H2 r v → Q v H2) → rSlD M v l u H Q := fun {F H σ ρ l u x v Q F0 H0 ρ0} s hd po0 rv q => by
    cases e : x.dat ρ with
    | none => simp only [e] at q; exact q.elim
    | some d =>
      simp only [e] at q
      cases e2 : fSl d l u with
      | none => simp only [e2] at q; exact q.elim
      | some r =>
        simp only [e2] at q
        exact ⟨F, d, r, s.dom, rv.od s e, e2, fun F' H' w n rr => q F' H' (n.po s) (po0.trans (n.po s)) w (rr.from hd)⟩
  cases lo with
  | none =>
    cases ol with
    | some _ => exact hl.elim
    | none =>
      cases hi with
      | none =>
        cases oh with
        | some _ => exact hh.elim
        | none =>
          refine PE_imp (pe_slice (s_slice g.hK) ha po_none po_none) fun σ H Q h => ?_
          obtain ⟨F, ρ, s, h⟩ := h
          exact op_bind s h fun x F1 H1 ρ1 v po rv q => fin po.sr (fun a => po.stp.dom a) po rv q
      | some ei =>
        cases oh with
        | none => exact hh.elim
        | some o2 =>
          refine PE_imp (pe_slice (s_slice g.hK) ha po_none (po_some hh)) fun σ H Q h => ?_
          obtain ⟨F, ρ, s, h⟩ := h
          refine op_bind s h fun x F1 H1 ρ1 v po rv q => ?_
          show tPart (tO M W o2) σ H1 fun u H3 => rSlD M v none u H3 Q
          refine part_run po.sr q fun j F2 H2 ρ2 po2 q2 => ?_
          exact fin po2.sr (fun a z => po.stp.dom a (po2.stp.dom a z)) (po.trans po2) (rv.mono (po2.ext po.sr)) (q2.mono fun r F3 H3 ρ3 po3 z y => z (po2.trans po3) y)
  | some el =>
    cases ol with
    | none => exact hl.elim
    | some o1 =>
      cases hi with
      | none =>
        cases oh with
        | some _ => exact hh.elim
        | none =>
          refine PE_imp (pe_slice (s_slice g.hK) ha (po_some hl) po_none) fun σ H Q h => ?_
          obtain ⟨F, ρ, s, h⟩ := h
          refine op_bind s h fun x F1 H1 ρ1 v po rv q => ?_
          refine part_run po.sr q fun j F2 H2 ρ2 po2 q2 => ?_
          exact fin po2.sr (fun a z => po.stp.dom a (po2.stp.dom a z)) (po.trans po2) (rv.mono (po2.ext po.sr)) (q2.mono fun r F3 H3 ρ3 po3 z y => z (po2.trans po3) y)
      | some ei =>
        cases oh with
        | none => exact hh.elim
        | some o2 =>
          refine PE_imp (pe_slice (s_slice g.hK) ha (po_some hl) (po_some hh)) fun σ H Q h => ?_
          obtain ⟨F, ρ, s, h⟩ := h
          refine op_bind s h fun x F1 H1 ρ1 v po rv q => ?_
          refine part_run po.sr q fun j F2 H2 ρ2 po2 q2 => ?_
          refine part_run po2.sr q2 fun j3 F3 H3 ρ3 po3 q3 => ?_
          exact fin po3.sr (fun a z => po.stp.dom a (po2.stp.dom a (po3.stp.dom a z))) (po.trans (po2.trans po3)) ((rv.mono (po2.ext po.sr)).mono (po3.ext po2.sr)) (q3.mono fun r F4 H4 ρ4 po4 z y => z (po3.trans po4) (po2.trans (po3.trans po4)) y)
end
end VF
namespace VF
open PySem PySem.Spec PyProof.Rows L2
section
variable {M : Md} {W : WX} {cs : Cs} {k : Nat} {X : Cx}
theorem evs_length : ∀ {os : List Opd} {ρ ρ' : En} {xs : List Ov}, evs os ρ = .ok xs ρ' → xs.length = os.length
  | [], _, _, _, h => by cases h; rfl
  | o :: os, ρ, ρ', xs, h => by
    unfold evs at h
    cases e : o.ev ρ with
    | bad => rw [e] at h; cases h
    | exc x ρ1 => rw [e] at h; cases h
    | ok x ρ1 =>
      rw [e] at h
      have h : (evs os ρ1).bind (fun xs ρ2 => .ok (x :: xs) ρ2) = .ok xs ρ' := h
      cases e2 : evs os ρ1 with
      | bad => rw [e2] at h; cases h
      | exc x ρ1 => rw [e2] at h; cases h
      | ok ys ρ2 =>
        rw [e2] at h
        cases h
        simp [evs_length e2]
theorem vals_rep {F : Addr → Prop} {H : Hp} {σ : St} : ∀ {xs : List Ov} {ds : List D} {vs : List V}, vals xs = some ds → OvRs M F H σ xs vs → RepL M F H ds vs
  | [], ds, vs, e, h => by cases e; rw [show vs = [] from h]; exact .nil
  | .val d :: xs, ds, vs, e, h => by
    obtain ⟨r, e1, rfl⟩ := Option.map_eq_some_iff.mp (show (vals xs).map (d :: ·) = some ds from e)
    obtain ⟨v, w, rfl, p, q⟩ := h
    exact .cons p (vals_rep e1 q)
  | .at i :: xs, ds, vs, e, h => by cases e
theorem disp_run {mk : List D → Rv} {φs : List ES} {σ : St} {H : Hp} {Q : VK} (h : tE M W (disp mk φs) σ H Q) {R : List V → Hp → Prop}
    (k : ∀ (F : Addr → Prop) (ρ : En) (ds : List D) (vs : List V) (H1 : Hp), (∀ a, F a → H1 a ≠ none) → RepL M F H1 ds vs → vs.length = φs.length → (∀ F' H' v, New F H1 F' H' → RvR M H1 F' H' (mk ds) v → Q v H') → R vs H1) : tOs M W (φs.map .ex) σ H R := by
  obtain ⟨F, ρ, s, h⟩ := h
  refine ops_run _ s ?_
  cases e : evs (φs.map .ex) ρ with
  | bad => simp only [disp, e] at h; exact h
  | exc x ρ' => simp only [disp, e] at h; exact h
  | ok xs ρ1 =>
    simp only [disp, e, Out.bind] at h
    intro F1 H1 po1 vs rs
    cases e2 : vals xs with
    | none => simp only [e2] at h; exact h.elim
    | some ds =>
      simp only [e2] at h
      have hl : vs.length = φs.length := by
        have l1 := evs_length e
        have l2 := (vals_rep e2 rs).length
        have l3 : ∀ {xs : List Ov} {ds : List D}, vals xs = some ds → ds.length = xs.length := by
          intro xs
          induction xs with
          | nil => intro ds e; cases e; rfl
          | cons x xs ih =>
            intro ds e
            cases x with
            | val d =>
              obtain ⟨r, e1, rfl⟩ := Option.map_eq_some_iff.mp (show (vals xs).map (d :: ·) = some ds from e)
              simp [ih e1]
            | «at» i => cases e
        have := l3 e2
        simp at l1
        omega
      exact k F1 ρ1 ds vs H1 po1.sr.dom (vals_rep e2 rs) hl fun F' H' v n rr => h F' H' (po1.trans (n.po po1.sr)) v (rr.from fun a z => po1.stp.dom a z)
def mkT (ds : List D) : Rv := .val (.tup ds)
def mkL (ds : List D) : Rv := .own (.lst ds)
theorem e_tup {es : List Expr} {x1 : Nat} {pos : Pos} {φs : List ES} (h : PA X es (tOs M W (φs.map .ex))) (hz : φs.length ≤ sizeLine) : PE X (.Tuple es x1 pos) (tE M W (disp mkT φs)) :=
  PE_imp (pe_tup h) fun σ H Q h => disp_run h fun F ρ ds vs H1 hd l hl q => ⟨by rw [hl]; exact hz, fun p hp => q F _ _ (New.laid hd hp) (rv_tup hd hp l)⟩
theorem e_lst {es : List Expr} {pos : Pos} {φs : List ES} (h : PA X es (tOs M W (φs.map .ex))) (hz : φs.length ≤ sizeLine) : PE X (.List es pos) (tE M W (disp mkL φs)) :=
  PE_imp (pe_lst h) fun σ H Q h => disp_run h fun F ρ ds vs H1 hd l hl q => ⟨by rw [hl]; exact hz, fun p hp => q F _ _ (New.laid hd hp) (rv_list hd hp l)⟩
theorem t_tru (g : G0 M cs k X) {a : Expr} {o : Opd} (h : PE X a (tO M W o)) (he : ∀ whole, isTrue a X.env whole = (do let v ← whole; standAt a.pos; holding [v] (truthy v))) : PT X a (tT M W (tru o)) := by
  refine PT_imp (pt_truth h he) fun σ H Q h => ?_
  obtain ⟨F, ρ, s, h⟩ := h
  refine op_bind s h fun x F1 H1 ρ1 v po rv q => ?_
  cases e : x.dat ρ1 with
  | none => simp only [e] at q; exact q.elim
  | some d =>
    simp only [e] at q
    cases e2 : d.truth with
    | none => simp only [e2] at q; exact q.elim
    | some b =>
      simp only [e2] at q
      exact ⟨b, by rw [g.hK]; exact od_truth (rv.od po.sr e) e2, q F1 H1 (.refl po.sr) po⟩
def tst (φ : ES) : BS := fun ρ => (φ ρ).bind fun r ρ' => match r with
  | .val (.bl b) => .ok b ρ'
  | _ => .bad
theorem tst_run {φ : ES} {σ : St} {H : Hp} {Q : Bool → Hp → Prop} (h : tT M W (tst φ) σ H Q) : tE M W φ σ H fun v H' => ∃ b, v = .bl b ∧ Q b H' := by
  obtain ⟨F, ρ, s, h⟩ := h
  refine tE_of' s h fun r F1 H1 ρ1 v po rv q => ?_
  cases r with
  | own _ => exact q.elim
  | val d =>
    cases d with
    | bl b =>
      have rv : Rep M F1 H1 (.bl b) v := rv
      unfold Rep at rv
      exact ⟨b, rv, q F1 H1 (.refl po.sr) po⟩
    | _ => exact q.elim
theorem t_cmp {a b : Expr} {op : CmpOp} {pos : Pos} {f : List D → Option Rv} {oa ob : Opd} (ho : OpR X (compareOp op) (r2D M f)) (ha : PE X a (tO M W oa)) (hb : PE X b (tO M W ob)) (hm : behindInMarks op b = false) : PT X (.Compare a [op] [b] pos) (tT M W (tst (app f [oa, ob]))) :=
  PT_imp (pt_cmpR ho ha hb hm) fun σ H Q h => app_run (prim_ok M f) (tst_run h)
theorem t_w {a : Expr} {t : BS} (h : PW X a (tT M W t)) : PT X a (tT M W t) := ⟨fun pins s σ H Q I hw => h.run _ pins s σ H Q I hw⟩
theorem w_and1 {a : Expr} {pos : Pos} {t : BS} (h : PT X a (tT M W t)) : PW X (.BoolOp .And [a] pos) (tT M W t) := pw_and1 h
theorem w_or1 {a : Expr} {pos : Pos} {t : BS} (h : PT X a (tT M W t)) : PW X (.BoolOp .Or [a] pos) (tT M W t) := pw_or1 h
theorem w_and {a b : Expr} {rest : List Expr} {pos : Pos} {t u : BS} (h : PT X a (tT M W t)) (hb : PW X (.BoolOp .And (b :: rest) pos) (tT M W u)) : PW X (.BoolOp .And (a :: b :: rest) pos) (tT M W (band t u)) := by
  refine PW_imp (pw_and h hb) fun σ H Q h => ?_
  obtain ⟨F, ρ, s, h⟩ := h
  refine tT_of s h fun b F1 H1 ρ1 po q => ?_
  cases b with
  | true => exact ⟨F1, ρ1, po.sr, (show Want M W F1 H1 σ ρ1 (u ρ1) _ from q).mono fun b F2 H2 ρ2 po2 z => z (po.trans po2)⟩
  | false => exact q F1 H1 (.refl po.sr) po
theorem w_or {a b : Expr} {rest : List Expr} {pos : Pos} {t u : BS} (h : PT X a (tT M W t)) (hb : PW X (.BoolOp .Or (b :: rest) pos) (tT M W u)) : PW X (.BoolOp .Or (a :: b :: rest) pos) (tT M W (bor t u)) := by
  refine PW_imp (pw_or h hb) fun σ H Q h => ?_
  obtain ⟨F, ρ, s, h⟩ := h
  refine tT_of s h fun b F1 H1 ρ1 po q => ?_
  cases b with
  | false => exact ⟨F1, ρ1, po.sr, (show Want M W F1 H1 σ ρ1 (u ρ1) _ from q).mono fun b F2 H2 ρ2 po2 z => z (po.trans po2)⟩
  | true => exact q F1 H1 (.refl po.sr) po
theorem rv_truth {H0 : Hp} {F : Addr → Prop} {H : Hp} {r : Rv} {v : V} {b : Bool} (h : RvR M H0 F H r v) (e : r.d.truth = some b) : TruV M.K v H b := by
  cases r with
  | val d => exact od_truth (.inl h) e
  | own d =>
    obtain ⟨a, rfl, nf, _, c⟩ := h
    exact od_truth (.inr ⟨a, rfl, nf, c.mono (.refl _ _) fun _ h => .inl h⟩) e
theorem e_and1 {a : Expr} {pos : Pos} {φ : ES} (h : PE X a (tE M W φ)) : PE X (.BoolOp .And [a] pos) (tE M W φ) := pe_one h
theorem e_and (g : G0 M cs k X) {a b : Expr} {rest : List Expr} {pos : Pos} {φ ψ : ES} (h : PE X a (tE M W φ)) (hb : PE X (.BoolOp .And (b :: rest) pos) (tE M W ψ)) : PE X (.BoolOp .And (a :: b :: rest) pos) (tE M W (andE φ ψ)) := by
  refine PE_imp (pe_andT h hb) fun σ H Q h => ?_
  obtain ⟨F, ρ, s, h⟩ := h
  refine tE_of' s h fun r F1 H1 ρ1 v po rv q => ?_
  cases e : r.d.truth with
  | none => simp only [e] at q; exact q.elim
  | some b =>
    refine ⟨b, by rw [g.hK]; exact rv_truth rv e, ?_⟩
    cases b with
    | true =>
      simp only [e] at q
      rw [if_pos rfl]
      exact ⟨F1, ρ1, po.sr, (show Want M W F1 H1 σ ρ1 (ψ ρ1) _ from q).mono fun b F2 H2 ρ2 po2 z v rr => z (po.trans po2) v (rr.from fun a y => po.stp.dom a y)⟩
    | false =>
      simp only [e] at q
      rw [if_neg (by decide)]
      exact q F1 H1 (.refl po.sr) po v rv
end
def D.ty : D → Option String
  | .str _ => some "str"
  | .lst _ => some "list"
  | .dck _ _ => some "dict"
  | .dct _ _ => some "dict"
  | .tpp _ => some "tuple"
  | _ => none
def meth (T : String) (f : List D → Option Rv) (o : Opd) (os : List Opd) : ES := fun ρ => (o.ev ρ).bind fun x ρ1 => match x.dat ρ1 with
  | some d => if d.ty = some T then (evs os ρ1).bind fun xs ρ2 => (match x.dat ρ2, dats ρ2 xs with
    | some d', some ds => (match f (d' :: ds) with
      | some r => .ok r ρ2
      | none => .bad)
    | _, _ => .bad) else .bad
  | none => .bad
section
variable {M : Md} {W : WX} {cs : Cs} {k : Nat} {X : Cx}
theorem od_type {pins : List (Addr × Obj)} {σ : St} {H : Hp} {s : Shared} {F : Addr → Prop} {d : D} {v : V} {u : Value} {T : String} (I : Inv X pins σ H s) (hK : X.K = M.K) (h : OdR M F H d v) (r : RelV v u) (e : d.ty = some T) :
    s.TypeIs u T ∧ ∀ a, u = .ref a → ∃ ob, s.heap.get? a = some ob ∧ ob.dict = none := by
  cases d with
  | str z =>
    cases h.str
    obtain ⟨t, rfl⟩ := r
    cases e
    exact ⟨typeIs_str s z t, fun _ e => nomatch e⟩
  | lst ds =>
    obtain ⟨a, vs, rfl, q, l⟩ := h.lst
    cases r
    cases e
    rw [← hK] at q
    obtain ⟨its, _, ⟨o, n, z, z1, z2, _⟩, _⟩ := I.list q
    exact ⟨⟨o, z, z1⟩, fun b e => by cases e; exact ⟨o, z, z2⟩⟩
  | dck ks ds =>
    obtain ⟨a, vs, rfl, q, _, l⟩ := h.dck
    cases r
    cases e
    obtain ⟨_, _, _, _, o, _, _, z, ex, _⟩ := q.ok I.hok
    exact ⟨⟨o, z, ex.1⟩, fun b e => by cases e; exact ⟨o, z, ex.2.1⟩⟩
  | dct ks ds =>
    obtain ⟨a, vs, rfl, q, _, l⟩ := h.dct
    cases r
    cases e
    obtain ⟨_, _, _, _, o, _, _, z, ex, _⟩ := q.ok I.hok
    exact ⟨⟨o, z, ex.1⟩, fun b e => by cases e; exact ⟨o, z, ex.2.1⟩⟩
  | tpp ds =>
    obtain ⟨a, vs, o, rfl, _, q, dn, l⟩ := h.tpp
    cases r
    cases e
    obtain ⟨h1, _, its, _, o2, h2, hc, _⟩ := I.hok a _ q
    rw [h1] at h2
    cases h2
    exact ⟨⟨o, h1, hc⟩, fun b e => by cases e; exact ⟨o, h1, dn⟩⟩
  | _ => cases e
theorem meth_run {T : String} {f : List D → Option Rv} {oo : Opd} {os : List Opd} {σ : St} {H : Hp} {Q : VK} (h : tE M W (meth T f oo os) σ H Q) :
    tO M W oo σ H fun x H1 => ∃ F d, d.ty = some T ∧ OdR M F H1 d x ∧ tOs M W os σ H1 fun xs H2 => rMD M f x xs H2 Q := by
  obtain ⟨F, ρ, s, h⟩ := h
  refine op_bind s h fun x F1 H1 ρ1 v po rv q => ?_
  cases e : x.dat ρ1 with
  | none => simp only [e] at q; exact q.elim
  | some d =>
    simp only [e] at q
    by_cases ht : d.ty = some T
    · rw [if_pos ht] at q
      refine ⟨F1, d, ht, rv.od po.sr e, ops_run os po.sr ((Want.bind q).mono fun xs F2 H2 ρ2 po2 q2 vs rs => ?_)⟩
      have q2 := q2 po2
      cases e3 : x.dat ρ2 with
      | none => simp only [e3] at q2; exact q2.elim
      | some d' =>
        cases e4 : dats ρ2 xs with
        | none => simp only [e3, e4] at q2; exact q2.elim
        | some ds =>
          simp only [e3, e4] at q2
          cases e5 : f (d' :: ds) with
          | none => simp only [e5] at q2; exact q2.elim
          | some r =>
            simp only [e5] at q2
            exact ⟨F2, d' :: ds, r, po2.sr.dom, ⟨v, vs, rfl, (rv.mono (po2.ext po.sr)).od po2.sr e3, rs.od po2.sr e4⟩, e5, fun F3 H3 w n rr => q2 F3 H3 (n.po po2.sr) (po2.trans (n.po po2.sr)) (po.trans (po2.trans (n.po po2.sr))) w (rr.from fun a z => po.stp.dom a (po2.stp.dom a z))⟩
    · rw [if_neg ht] at q
      exact q.elim
theorem e_meth (g : G0 M cs k X) {o e : Expr} {es : List Expr} {name : Str} {apos cpos : Pos} {T id : String} {f : List D → Option Rv} {oo : Opd} {os : List Opd} (pa : PlainAttrs T) (slot : Slot T name id) (hty : typeOf (.builtin id) = pure (.type "method_descriptor")) (hm : MtR X id (rMD M f)) (ho : PE X o (tO M W oo)) (ha : PA X (e :: es) (tOs M W os))
    (hbase : attributeBase o name X.env (eval o X.env) = eval o X.env)
    (hfew : ((backTo cpos (starEach (e :: es) X.env)).all (fun x => !x.1) && (backToKw cpos (keywordEach [] X.env)).all (fun x => x.1.isSome)
      && decide ((e :: es).length + ([] : List Keyword).length + (if ([] : List Keyword).isEmpty then 0 else 1) < 30)) = true)
    (hline : (apos.endLine == cpos.line) = true) (hs : starEach (e :: es) X.env = (false, eval e X.env) :: starEach es X.env) (hplain : (backTo cpos (starEach es X.env)).any (·.1) = false) :
    PE X (.Call (.Attribute o name apos) (e :: es) [] cpos) (tE M W (meth T f oo os)) := by
  refine ⟨fun pins s σ H Q I h => ?_⟩
  refine wpAny_Call_method_late hbase hfew hline rfl (thn (ho.run pins s σ H _ I (meth_run h)) fun v s1 ⟨x, H1, I1, r1, F, d, ht, od, q1⟩ => ?_)
  obtain ⟨h1, h2⟩ := od_type I1 g.hK od r1 ht
  refine ⟨T, id, pa, slot, hty, h1, h2, ?_⟩
  have hA := ha.run cpos pins s1 σ H1 _ I1 q1
  rw [hs] at hA ⊢
  refine Calls.callWith_builtin (by show (false || (backTo cpos (starEach es X.env)).any (·.1)) = false; rw [hplain] <;> rfl) (Calls.evalArgs_plain ?_)
  exact thn hA fun us s2 ⟨vs, H2, I2, r2, q2⟩ => hm pins s2 σ H2 x vs v us Q I2 r1 r2 q2
end
end VF
namespace VF
open PySem PySem.Spec PyProof.Rows L2
def Wk (M : Md) (J : It) (ds items : List D) (vs : List V) : Prop := ∀ (i : Nat) (F : Addr → Prop) (H : Hp), (∀ a, F a → H a ≠ none) → OdRs M F H ds vs →
  (items.length ≤ i → J.stop i H) ∧ ∀ d, items[i]? = some d → J.go i H ∧ ∀ x H', J.yld i H x H' → ∃ F', New F H F' H' ∧ Rep M F' H' d x
def rIt (M : Md) (f : List D → Option (List D)) : List V → Hp → (It → Hp → Prop) → Prop := fun vs H R => ∃ F ds items, (∀ a, F a → H a ≠ none) ∧ OdRs M F H ds vs ∧ f ds = some items ∧ ∀ J, Wk M J ds items vs → items.length ≤ sizeLine → R J H
structure Src where
  ops : List Opd
  f : List D → Option (List D)
def tI (M : Md) (W : WX) (src : Src) : TI := fun σ H R => tOs M W src.ops σ H fun vs H1 => rIt M src.f vs H1 R
def sSeq : List D → Option (List D)
  | [.lst ds] => some ds
  | [.tup ds] => some ds
  | [.tpp ds] => some ds
  | [.str z] => if z.length ≤ sizeLine then some (z.cps.toList.map fun c => .str ⟨#[c]⟩) else none
  | _ => none
def sRng1 : List D → Option (List D)
  | [.int n] => if n ≤ 16777216 ∧ -(2 ^ 62) ≤ n then some ((List.range n.toNat).map fun i => .int (i : Nat)) else none
  | _ => none
section
variable {M : Md} {X : Cx}
theorem wk_list {K : PySem.W.Frag} {a : Addr} {ds : List D} (hK : K = M.K) : Wk M (Itl K a) [.lst ds] ds [.ref a] := fun i F H hd od => by
  obtain ⟨v, e, r⟩ := od.one
  cases e
  obtain ⟨b, vs, e, p, l⟩ := r.lst
  cases e
  have sq : SqL K H a vs := by rw [hK]; exact p
  refine ⟨fun hi => ⟨vs, sq, by rw [← l.length]; exact hi⟩, fun d hdd => ?_⟩
  obtain ⟨v, h1, h2⟩ := RepL.get l hdd
  refine ⟨⟨vs, v, sq, h1⟩, fun x H' y => ?_⟩
  obtain ⟨rfl, hy⟩ := y
  have z := hy vs sq
  rw [h1] at z
  cases z
  exact ⟨F, .refl hd, h2⟩
theorem wk_tup {K : PySem.W.Frag} {a : Addr} {ds : List D} (hK : K = M.K) : Wk M (Itt K a) [.tup ds] ds [.ref a] := fun i F H hd od => by
  obtain ⟨v, e, r⟩ := od.one
  cases e
  obtain ⟨b, vs, e, p, l⟩ := r.tup
  cases e
  have sq : SqT K H a vs := by rw [hK]; exact p
  refine ⟨fun hi => ⟨vs, sq, by rw [← l.length]; exact hi⟩, fun d hdd => ?_⟩
  obtain ⟨v, h1, h2⟩ := RepL.get l hdd
  refine ⟨⟨vs, v, sq, h1⟩, fun x H' y => ?_⟩
  obtain ⟨rfl, hy⟩ := y
  have z := hy vs sq
  rw [h1] at z
  cases z
  exact ⟨F, .refl hd, h2⟩
theorem wk_tpp {K : PySem.W.Frag} {a : Addr} {ds : List D} : Wk M (Itt K a) [.tpp ds] ds [.ref a] := fun i F H hd od => by
  obtain ⟨v, e, r⟩ := od.one
  cases e
  obtain ⟨b, vs, o, e, f, p, n, l⟩ := r.tpp
  cases e
  have sq : SqT K H a vs := .inl (.inr ⟨o, p⟩)
  refine ⟨fun hi => ⟨vs, sq, by rw [← l.length]; exact hi⟩, fun d hdd => ?_⟩
  obtain ⟨v, h1, h2⟩ := RepL.get l hdd
  refine ⟨⟨vs, v, sq, h1⟩, fun x H' y => ?_⟩
  obtain ⟨rfl, hy⟩ := y
  have z := hy vs sq
  rw [h1] at z
  cases z
  exact ⟨F, .refl hd, h2⟩
theorem wk_str {z : Str} : Wk M (Its z) [.str z] (z.cps.toList.map fun c => .str ⟨#[c]⟩) [.str z] := fun i F H hd od => by
  refine ⟨fun hi => show z.cps.size ≤ i by simpa using hi, fun d hdd => ?_⟩
  rw [List.getElem?_map] at hdd
  obtain ⟨c, h1, rfl⟩ := Option.map_eq_some_iff.mp hdd
  have h2 : z.cps[i]? = some c := by simpa using h1
  refine ⟨(Array.getElem?_eq_some_iff.mp h2).1, fun x H' y => ?_⟩
  obtain ⟨rfl, c', h3, rfl⟩ := y
  rw [h2] at h3
  cases h3
  exact ⟨F, .refl hd, by unfold Rep; rfl⟩
theorem wk_range {lo : Int} {n : Nat} {ds : List D} {vs : List V} : Wk M (Itr lo n) ds ((List.range n).map fun i => .int (lo + (i : Nat))) vs := fun i F H hd od => by
  refine ⟨fun hi => show n ≤ i by simpa using hi, fun d hdd => ?_⟩
  rw [List.getElem?_map] at hdd
  obtain ⟨c, h1, rfl⟩ := Option.map_eq_some_iff.mp hdd
  obtain ⟨h2, h3⟩ := List.getElem?_eq_some_iff.mp h1
  have h4 : i < n := by simpa using h2
  have h5 : c = i := by simpa using h3.symm
  subst h5
  refine ⟨h4, fun x H' y => ?_⟩
  obtain ⟨rfl, rfl⟩ := y
  exact ⟨F, .refl hd, by unfold Rep; rfl⟩
theorem wk_range0 (n : Int) : Wk M (Itr 0 n.toNat) [.int n] ((List.range n.toNat).map fun i => .int (i : Nat)) [.int n] := by
  have z := wk_range (M := M) (lo := 0) (n := n.toNat) (ds := [.int n]) (vs := [.int n])
  simpa using z
theorem pi_seq {tg l : Expr} {tl : TE} (hl : PE X l tl) : PI X tg l (fun σ H R => tl σ H fun x H1 => (∃ a xs, x = .ref a ∧ SqL X.K H1 a xs ∧ (xs.length ≤ sizeLine → R (Itl X.K a) H1)) ∨ (∃ a xs, x = .ref a ∧ SqT X.K H1 a xs ∧ (xs.length ≤ sizeLine → R (Itt X.K a) H1)) ∨ ∃ z, x = .str z ∧ R (Its z) H1) := by
  refine ⟨fun pins s σ H R I h => ?_⟩
  refine thn (hl.run pins s σ H _ I h) fun v s1 ⟨x, H1, I1, r1, q1⟩ => ?_
  rcases q1 with ⟨a, xs, rfl, hq, q⟩ | ⟨a, xs, rfl, hq, q⟩ | ⟨z, rfl, q⟩
  · cases r1
    obtain ⟨its, rv, p, hz⟩ := I1.list hq
    exact wpAny_pyIter_list p.isList (pi_one (tk := s1.toks) I1 _ (turn_list a _) ⟨_, Heap.get?_push_size _ rfl, rfl, rfl⟩ (q hz))
  · cases r1
    obtain ⟨its, rv, p, hz⟩ := I1.tuple hq
    exact wpAny_pyIter_tuple (show s1.heap.IsTuple a its.toArray from p) (pi_one (tk := s1.toks) I1 _ (turn_tuple a _) ⟨_, Heap.get?_push_size _ rfl, rfl, rfl⟩ (q hz))
  · obtain ⟨t, rfl⟩ := r1
    cases ha : z.cps.all (· < 128)
    · exact wpAny_pyIter_wide ha (pi_one (tk := s1.toks) I1 _ (turn_str _ z t "str_iterator" (.inr rfl)) ⟨_, Heap.get?_push_size _ rfl, rfl, rfl⟩ q)
    · exact wpAny_pyIter_ascii ha (pi_one (tk := s1.toks) I1 _ (turn_str _ z t "str_ascii_iterator" (.inl rfl)) ⟨_, Heap.get?_push_size _ rfl, rfl, rfl⟩ q)
theorem PI_imp {tg l : Expr} {w w' : TI} (h : PI X tg l w) (f : ∀ σ H R, w' σ H R → w σ H R) : PI X tg l w' := ⟨fun pins s σ H R I q => h.run pins s σ H R I (f σ H R q)⟩
theorem tO_mono {W : WX} {o : Opd} {σ : St} {H : Hp} {Q Q' : VK} (h : tO M W o σ H Q) (k : ∀ v H', Q v H' → Q' v H') : tO M W o σ H Q' := by
  cases o with
  | sl i =>
    obtain ⟨v, e, q⟩ := h
    exact ⟨v, e, k v H q⟩
  | ex φ =>
    obtain ⟨F, ρ, s, h⟩ := h
    exact ⟨F, ρ, s, h.mono fun r F' H' ρ' po q v rv => k v H' (q v rv)⟩
theorem tOs_mono {W : WX} : ∀ {os : List Opd} {σ : St} {H : Hp} {Q Q' : List V → Hp → Prop}, tOs M W os σ H Q → (∀ v H', Q v H' → Q' v H') → tOs M W os σ H Q'
  | [], _, _, _, _, h, k => k _ _ h
  | o :: os, _, _, _, _, h, k => tO_mono h fun v H' q => tOs_mono (os := os) q fun vs H2 q2 => k (v :: vs) H2 q2
section
variable {cs : Cs} {W : WX} {k : Nat}
theorem i_seq (g : G M cs W k X) {tg l : Expr} {o : Opd} (h : PE X l (tO M W o)) : PI X tg l (tI M W ⟨[o], sSeq⟩) := by
  refine PI_imp (pi_seq h) fun σ H R q => ?_
  have q : tO M W o σ H fun x H1 => rIt M sSeq [x] H1 R := q
  refine tO_mono q fun x H1 ⟨F, ds, items, hd, od, ef, q⟩ => ?_
  unfold sSeq at ef
  split at ef
  · cases ef
    obtain ⟨v, e, r⟩ := od.one
    cases e
    obtain ⟨a, vs, rfl, p, l⟩ := r.lst
    exact .inl ⟨a, vs, rfl, by rw [g.hK]; exact p, fun hz => q _ (wk_list g.hK) (by rw [l.length]; exact hz)⟩
  · cases ef
    obtain ⟨v, e, r⟩ := od.one
    cases e
    obtain ⟨a, vs, rfl, p, l⟩ := r.tup
    exact .inr (.inl ⟨a, vs, rfl, by rw [g.hK]; exact p, fun hz => q _ (wk_tup g.hK) (by rw [l.length]; exact hz)⟩)
  · cases ef
    obtain ⟨v, e, r⟩ := od.one
    cases e
    obtain ⟨a, vs, o, rfl, f, p, n, l⟩ := r.tpp
    exact .inr (.inl ⟨a, vs, rfl, .inl (.inr ⟨o, p⟩), fun hz => q _ wk_tpp (by rw [l.length]; exact hz)⟩)
  · split at ef
    · rename_i hz
      cases ef
      obtain ⟨v, e, r⟩ := od.one
      cases e
      cases r.str
      exact .inr (.inr ⟨_, rfl, q _ wk_str (by rw [List.length_map, Array.length_toList]; exact hz)⟩)
    · cases ef
  · cases ef
theorem i_rng1 (g : G M cs W k X) {tg a : Expr} {p pos : Pos} {o : Opd} (hg : cs.sc.names.lookup ("range" : Str) = some .globalImplicit) (hm : M.mg "range" = none) (ha : PA X [a] (tOs M W [o])) (hs : starEach [a] X.env = [(false, eval a X.env)]) : PI X tg (.Call (.Name "range" p) [a] [] pos) (tI M W ⟨[o], sRng1⟩) := by
  refine PI_imp (pi_range1 (g.gl hg) (by rw [g.hmg]; exact hm) ha hs) fun σ H R q => ?_
  refine tOs_mono (M := M) (W := W) (os := [o]) q fun vs H1 ⟨F, ds, items, hd, od, ef, q⟩ => ?_
  have ef : sRng1 ds = some items := ef
  unfold sRng1 at ef
  split at ef
  · split at ef
    · rename_i hz
      cases ef
      obtain ⟨v, rfl, r⟩ := od.one
      cases r.int
      exact ⟨_, rfl, hz.2, by omega, q _ (wk_range0 _) (by rw [sizeLine_eq]; simp; omega)⟩
    · cases ef
  · cases ef
end
end
end VF
namespace VF
open PySem PySem.Spec PyProof.Rows L2
def KpT (σ : St) (ρ : En) (σ' : St) (ρ' : En) : Prop := ρ.length = ρ'.length ∧ ∀ i, (∀ d, gt ρ i = some (.ref d) → (∃ d', gt ρ' i = some (.ref d')) ∧ gv σ' i = gv σ i) ∧ (∀ d, gt ρ i = some (.rd d) → gt ρ' i = some (.rd d) ∧ gv σ' i = gv σ i) ∧
  (∀ d, gt ρ' i = some (.ref d) → ∃ d', gt ρ i = some (.ref d')) ∧ ∀ d, gt ρ' i = some (.rd d) → gt ρ i = some (.rd d)
theorem KpT.refl (σ : St) (ρ : En) : KpT σ ρ σ ρ := ⟨rfl, fun i => ⟨fun d h => ⟨⟨d, h⟩, rfl⟩, fun d h => ⟨h, rfl⟩, fun d h => ⟨d, h⟩, fun d h => h⟩⟩
theorem KpT.trans {σ σ1 σ2 : St} {ρ ρ1 ρ2 : En} (a : KpT σ ρ σ1 ρ1) (b : KpT σ1 ρ1 σ2 ρ2) : KpT σ ρ σ2 ρ2 := by
  refine ⟨a.1.trans b.1, fun i => ⟨fun d h => ?_, fun d h => ?_, fun d h => ?_, fun d h => ?_⟩⟩
  · obtain ⟨⟨d1, h1⟩, e1⟩ := (a.2 i).1 d h
    obtain ⟨h2, e2⟩ := (b.2 i).1 d1 h1
    exact ⟨h2, e2.trans e1⟩
  · obtain ⟨h1, e1⟩ := (a.2 i).2.1 d h
    obtain ⟨h2, e2⟩ := (b.2 i).2.1 d h1
    exact ⟨h2, e2.trans e1⟩
  · obtain ⟨d1, h1⟩ := (b.2 i).2.2.1 d h
    exact (a.2 i).2.2.1 d1 h1
  · exact (a.2 i).2.2.2 d ((b.2 i).2.2.2 d h)
theorem Kp.t {σ : St} {ρ ρ' : En} (k : Kp ρ ρ') : KpT σ ρ σ ρ' := by
  refine ⟨k.1, fun i => ?_⟩
  have z := k.2 i
  refine ⟨fun d h => ?_, fun d h => ?_, fun d h => ?_, fun d h => ?_⟩
  · rw [h] at z
    cases e : gt ρ' i with
    | none => rw [e] at z; exact z.elim
    | some t => rw [e] at z; cases t with
      | ref d' => exact ⟨⟨d', rfl⟩, rfl⟩
      | _ => exact z.elim
  · rw [h] at z
    cases e : gt ρ' i with
    | none => rw [e] at z; exact z.elim
    | some t => rw [e] at z; cases t with
      | rd d' => rw [show d = d' from z]; exact ⟨rfl, rfl⟩
      | _ => exact z.elim
  · rw [h] at z
    cases e : gt ρ i with
    | none => rw [e] at z; exact z.elim
    | some t => rw [e] at z; cases t with
      | ref d' => exact ⟨d', rfl⟩
      | _ => exact z.elim
  · rw [h] at z
    cases e : gt ρ i with
    | none => rw [e] at z; exact z.elim
    | some t => rw [e] at z; cases t with
      | rd d' => rw [show d' = d from z]
      | _ => exact z.elim
theorem KpT.ref {σ σ' : St} {ρ ρ' : En} (k : KpT σ ρ σ' ρ') {a : Addr} (h : RefAt σ' ρ' a) : RefAt σ ρ a := by
  obtain ⟨i, d, h1, h2⟩ := h
  obtain ⟨d', h3⟩ := (k.2 i).2.2.1 d h1
  obtain ⟨_, e⟩ := (k.2 i).1 d' h3
  exact ⟨i, d', h3, by rw [← e]; exact h2⟩
structure PoS (M : Md) (F : Addr → Prop) (H : Hp) (σ : St) (ρ : En) (F' : Addr → Prop) (H' : Hp) (σ' : St) (ρ' : En) : Prop where
  stp : Stp F H (OwnAt σ ρ) (RefAt σ ρ) F' H' (OwnAt σ' ρ') (RefAt σ' ρ')
  sr : SR M F' H' σ' ρ'
  kp : KpT σ ρ σ' ρ'
section
variable {M : Md} {F F1 F2 : Addr → Prop} {H H1 H2 : Hp} {σ σ1 σ2 : St} {ρ ρ1 ρ2 : En}
theorem PoS.refl (s : SR M F H σ ρ) : PoS M F H σ ρ F H σ ρ := ⟨.refl _ _ _ _, s, .refl _ _⟩
theorem PoS.trans (a : PoS M F H σ ρ F1 H1 σ1 ρ1) (b : PoS M F1 H1 σ1 ρ1 F2 H2 σ2 ρ2) : PoS M F H σ ρ F2 H2 σ2 ρ2 := ⟨a.stp.trans b.stp, b.sr, a.kp.trans b.kp⟩
theorem Po.s (a : Po M F H σ ρ F1 H1 ρ1) : PoS M F H σ ρ F1 H1 σ ρ1 := ⟨a.stp, a.sr, a.kp.t⟩
theorem PoS.ext (s : SR M F H σ ρ) (a : PoS M F H σ ρ F1 H1 σ1 ρ1) : Ext F H F1 H1 := s.ext a.stp
def noRef : Option Sl → Bool
  | some (.ref _) => false
  | some (.rd _) => false
  | _ => true
theorem put_slot (s : SR M F H σ ρ) {i : Nat} {t : Sl} {v : V} (hl : ∀ t, M.xn = some t → t.i ≠ i) (hi : i < ρ.length) (hn : noRef (gt ρ i) = true) (r : SlR M F H t v) (ht : ∀ a, t.top = true → v = .ref a → (∃ d, t = .own d) ∧ ∀ j u, j ≠ i → gt ρ j = some u → u.top = true → gv σ j ≠ some (.ref a)) :
    SR M F H (σ.set i (some v)) (ρ.set i (some t)) ∧ (∀ a, OwnAt (σ.set i (some v)) (ρ.set i (some t)) a → OwnAt σ ρ a ∨ H a = none ∨ ∃ d, t = .own d ∧ v = .ref a) ∧ KpT σ ρ (σ.set i (some v)) (ρ.set i (some t)) := by
  have hi' : i < σ.length := by rw [s.len]; exact hi
  have tn : ∀ d, t ≠ .ref d ∧ t ≠ .rd d := fun d => by
    constructor <;> intro e <;> subst e
    · obtain ⟨a, e, _⟩ := r
      obtain ⟨⟨d', z⟩, _⟩ := ht a rfl e
      cases z
    · obtain ⟨a, e, _⟩ := r
      obtain ⟨⟨d', z⟩, _⟩ := ht a rfl e
      cases z
  refine ⟨⟨by rw [List.length_set, List.length_set]; exact s.len, s.dom, fun j u h => ?_, fun j k u w a h1 h2 h3 h4 h5 h6 => ?_, s.xn.at fun t e => gv_set_ne (Ne.symm (hl t e))⟩, fun a h => ?_, by rw [List.length_set], fun j => ?_⟩
  · by_cases hj : i = j
    · subst hj
      rw [gt_set_self hi] at h
      cases h
      exact ⟨v, gv_set_self hi', r⟩
    · rw [gt_set_ne hj] at h
      rw [gv_set_ne hj]
      exact s.slot j u h
  · by_cases hj : i = j
    · subst hj
      by_cases hk : i = k
      · exact hk
      · exfalso
        rw [gt_set_self hi] at h1
        rw [gt_set_ne hk] at h2
        rw [gv_set_self hi'] at h5
        rw [gv_set_ne hk] at h6
        cases h1
        cases h5
        exact (ht a h3 rfl).2 k w (Ne.symm hk) h2 h4 h6
    · rw [gt_set_ne hj] at h1
      rw [gv_set_ne hj] at h5
      by_cases hk : i = k
      · subst hk
        exfalso
        rw [gt_set_self hi] at h2
        rw [gv_set_self hi'] at h6
        cases h2
        cases h6
        exact (ht a h4 rfl).2 j u (Ne.symm hj) h1 h3 h5
      · rw [gt_set_ne hk] at h2
        rw [gv_set_ne hk] at h6
        exact s.dist j k u w a h1 h2 h3 h4 h5 h6
  · obtain ⟨j, d, h1, h2⟩ := h
    by_cases hj : i = j
    · subst hj
      rw [gt_set_self hi] at h1
      rw [gv_set_self hi'] at h2
      cases h1
      cases h2
      exact .inr (.inr ⟨d, rfl, rfl⟩)
    · rw [gt_set_ne hj] at h1
      rw [gv_set_ne hj] at h2
      exact .inl ⟨j, d, h1, h2⟩
  · by_cases hj : i = j
    · subst hj
      rw [gt_set_self hi]
      refine ⟨fun d h => ?_, fun d h => ?_, fun d h => ?_, fun d h => ?_⟩
      · rw [h] at hn; cases hn
      · rw [h] at hn; cases hn
      · exact absurd (Option.some.inj h) (tn d).1
      · exact absurd (Option.some.inj h) (tn d).2
    · rw [gt_set_ne hj, gv_set_ne hj]
      exact (KpT.refl σ ρ).2 j
theorem put_val (s : SR M F H σ ρ) {i : Nat} {d : D} {v : V} (hl : ∀ t, M.xn = some t → t.i ≠ i) (hi : i < ρ.length) (hn : noRef (gt ρ i) = true) (r : Rep M F H d v) : PoS M F H σ ρ F H (σ.set i (some v)) (ρ.set i (some (.val d))) := by
  obtain ⟨h1, h2, h3⟩ := put_slot (t := .val d) s hl hi hn r (fun a z => by cases z)
  refine ⟨⟨fun _ h => h, fun _ _ h _ _ => .inl h, fun _ h => h, fun _ h => .inl h, fun a h => ?_, fun a h => h3.ref h⟩, h1, h3⟩
  rcases h2 a h with z | z | ⟨d, z, _⟩
  · exact .inl z
  · exact .inr z
  · cases z
theorem put_own (s : SR M F H σ ρ) {F0 : Addr → Prop} {H0 : Hp} {ρ0 : En} (po : Po M F0 H0 σ ρ0 F H ρ) (s0 : SR M F0 H0 σ ρ0) {i : Nat} {d : D} {v : V} (hl : ∀ t, M.xn = some t → t.i ≠ i) (hi : i < ρ.length) (hn : noRef (gt ρ i) = true) (r : RvR M H0 F H (.own d) v) : PoS M F0 H0 σ ρ0 F H (σ.set i (some v)) (ρ.set i (some (.own d))) := by
  obtain ⟨a, rfl, nf, h0, c⟩ := r
  have ne : ∀ j u, gt ρ j = some u → u.top = true → gv σ j ≠ some (.ref a) := fun j u h ht z => by
    obtain ⟨t', h', ht'⟩ := po.kp.top_of h ht
    obtain ⟨b, w, e, _, q⟩ := s0.top_at h' ht'
    rw [z] at e
    cases e
    rw [h0] at q
    cases q
  obtain ⟨h1, h2, h3⟩ := put_slot (t := .own d) (v := .ref a) s hl hi hn ⟨a, rfl, nf, c⟩ (fun b _ e => ⟨⟨d, rfl⟩, fun j u _ h ht => by cases e; exact ne j u h ht⟩)
  refine ⟨⟨po.stp.fro, po.stp.keep, po.stp.dom, po.stp.new, fun b h => ?_, fun b h => po.stp.ref b (h3.ref h)⟩, h1, po.kp.t.trans h3⟩
  rcases h2 b h with z | z | ⟨d', _, z⟩
  · exact po.stp.own b z
  · exact .inr (po.stp.dom b z)
  · cases z
    exact .inr h0
end
inductive Tg where
  | nm (i : Nat)
  | tup (ts : List Tg)
mutual
def put : Tg → D → En → Option En
  | .nm i, d, ρ => if noRef (gt ρ i) = true ∧ i < ρ.length then some (ρ.set i (some (.val d))) else none
  | .tup ts, d, ρ => match d with
    | .tup ds => puts ts ds ρ
    | _ => none
def puts : List Tg → List D → En → Option En
  | [], ds, ρ => match ds with
    | [] => some ρ
    | _ => none
  | t :: ts, ds, ρ => match ds with
    | d :: ds => (match put t d ρ with
      | some ρ' => puts ts ds ρ'
      | none => none)
    | [] => none
end
mutual
def tgs : Tg → List Nat
  | .nm i => [i]
  | .tup ts => tgss ts
def tgss : List Tg → List Nat
  | [] => []
  | t :: ts => tgs t ++ tgss ts
end
mutual
def gT (K : PySem.W.Frag) : Tg → TG
  | .nm i => gName i
  | .tup ts => gTup K ts.length (gTs K ts)
def gTs (K : PySem.W.Frag) : List Tg → TGs
  | [] => gNil
  | t :: ts => gCons (gT K t) (gTs K ts)
end
def Upd (S : List Nat) (σ : St) (ρ : En) (σ' : St) (ρ' : En) : Prop := σ'.length = σ.length ∧ ∀ j, j ∉ S → σ'[j]? = σ[j]? ∧ gt ρ' j = gt ρ j
section
variable {M : Md} {F : Addr → Prop} {H : Hp}
mutual
theorem put_run {K : PySem.W.Frag} (hx : M.xn = none) (hK : K = M.K) : ∀ (t : Tg) {σ : St} {ρ ρ' : En} {d : D} {v : V} {Q : St → Hp → Prop}, SR M F H σ ρ → Rep M F H d v → put t d ρ = some ρ' → (∀ σ', PoS M F H σ ρ F H σ' ρ' → Upd (tgs t) σ ρ σ' ρ' → (∀ j t, gt ρ' j = some t → t.top = true → gt ρ j = some t) → Q σ' H) → gT K t v σ H Q
  | .nm i, σ, ρ, ρ', d, v, Q, s, r, e, q => by
    unfold put at e
    split at e
    · rename_i h
      cases e
      unfold gT
      refine q _ (put_val s (fun t e => by rw [hx] at e; cases e) h.2 h.1 r) ⟨by rw [List.length_set], fun j hj => ?_⟩ fun j t h1 h2 => ?_
      · unfold tgs at hj
        have hj : i ≠ j := fun z => hj (by rw [z]; exact List.mem_singleton_self _)
        exact ⟨List.getElem?_set_ne hj, gt_set_ne hj⟩
      · by_cases hj : i = j
        · subst hj
          rw [gt_set_self h.2] at h1
          cases h1
          cases h2
        · rw [gt_set_ne hj] at h1
          exact h1
    · cases e
  | .tup ts, σ, ρ, ρ', d, v, Q, s, r, e, q => by
    unfold put at e
    split at e
    · unfold Rep at r
      obtain ⟨a, vs, rfl, p, l⟩ := r
      unfold gT
      have hl := puts_len ts e
      exact ⟨a, vs, rfl, by rw [hK]; exact p.1, by rw [← l.length, hl], puts_run hx hK ts s l e fun σ' h1 h2 h3 => q σ' h1 (by unfold tgs; exact h2) h3⟩
    · cases e
theorem puts_run {K : PySem.W.Frag} (hx : M.xn = none) (hK : K = M.K) : ∀ (ts : List Tg) {σ : St} {ρ ρ' : En} {ds : List D} {vs : List V} {Q : St → Hp → Prop}, SR M F H σ ρ → RepL M F H ds vs → puts ts ds ρ = some ρ' → (∀ σ', PoS M F H σ ρ F H σ' ρ' → Upd (tgss ts) σ ρ σ' ρ' → (∀ j t, gt ρ' j = some t → t.top = true → gt ρ j = some t) → Q σ' H) → gTs K ts vs σ H Q
  | [], σ, ρ, ρ', ds, vs, Q, s, r, e, q => by
    unfold puts at e
    split at e
    · cases e
      unfold RepL at r
      unfold gTs
      exact ⟨r, q σ (.refl s) ⟨rfl, fun j _ => ⟨rfl, rfl⟩⟩ fun j t h _ => h⟩
    · cases e
  | t :: ts, σ, ρ, ρ', ds, vs, Q, s, r, e, q => by
    unfold puts at e
    split at e
    · split at e
      · rename_i ρ1 e1
        unfold RepL at r
        obtain ⟨v, w, rfl, p, l⟩ := r
        unfold gTs
        refine ⟨v, w, rfl, put_run hx hK t s p e1 fun σ1 po1 u1 k1 => ?_⟩
        refine puts_run hx hK ts po1.sr l e fun σ2 po2 u2 k2 => ?_
        refine q σ2 (po1.trans po2) ⟨u2.1.trans u1.1, fun j hj => ?_⟩ fun j t h1 h2 => k1 j t (k2 j t h1 h2) h2
        unfold tgss at hj
        obtain ⟨n1, n2⟩ := not_or.mp (fun z => hj (List.mem_append.mpr z))
        exact ⟨(u2.2 j n2).1.trans (u1.2 j n1).1, (u2.2 j n2).2.trans (u1.2 j n1).2⟩
      · cases e
    · cases e
theorem puts_len : ∀ (ts : List Tg) {ds : List D} {ρ ρ' : En}, puts ts ds ρ = some ρ' → ds.length = ts.length
  | [], ds, ρ, ρ', e => by
    unfold puts at e
    split at e
    · rfl
    · cases e
  | t :: ts, ds, ρ, ρ', e => by
    unfold puts at e
    split at e
    · split at e
      · simp [puts_len ts e]
      · cases e
    · cases e
end
end
section
variable {M : Md} {cs : Cs} {W : WX} {k : Nat} {X : Cx}
theorem p_s (g : G M cs W k X) {i : Nat} {x : Str} {pos : Pos} (hi : cs.N[i]? = some x) (hx : Loc cs.sc x) (hf : cs.fb x = true ∨ cs.sc.names.lookup x = some .local) : PG X (.Name x pos) (gT X.K (.nm i)) := by
  unfold gT
  exact pg_name (by rw [g.hN]; exact g.nd) (by rw [g.hN]; exact hi) (by rw [g.hsc]; exact hx) (by rw [g.hfn, g.hsc]; exact hf)
end
def Mask (σ : St) (ρ : En) (σm : St) (ρm : En) : Prop := σm.length = σ.length ∧ ρm.length = ρ.length ∧ ∀ j t, gt ρm j = some t → gv σm j = gv σ j ∧ (gt ρ j = some t ∨ ∃ d, t = .rd d ∧ (gt ρ j = some (.own d) ∨ gt ρ j = some (.ref d)))
section
variable {M : Md} {F F' : Addr → Prop} {H H' : Hp} {σ σm σe : St} {ρ ρm ρe : En}
theorem Mask.own (m : Mask σ ρ σm ρm) {a : Addr} (h : OwnAt σm ρm a) : OwnAt σ ρ a := by
  obtain ⟨i, d, h1, h2⟩ := h
  obtain ⟨e, z⟩ := m.2.2 i _ h1
  rw [e] at h2
  rcases z with z | ⟨d', z, _⟩
  · exact ⟨i, d, z, h2⟩
  · cases z
theorem Mask.ref (m : Mask σ ρ σm ρm) {a : Addr} (h : RefAt σm ρm a) : RefAt σ ρ a := by
  obtain ⟨i, d, h1, h2⟩ := h
  obtain ⟨e, z⟩ := m.2.2 i _ h1
  rw [e] at h2
  rcases z with z | ⟨d', z, _⟩
  · exact ⟨i, d, z, h2⟩
  · cases z
theorem Mask.top (m : Mask σ ρ σm ρm) {i : Nat} {t : Sl} (h : gt ρm i = some t) (ht : t.top = true) : ∃ t', gt ρ i = some t' ∧ t'.top = true := by
  obtain ⟨_, z⟩ := m.2.2 i _ h
  rcases z with z | ⟨d', rfl, z | z⟩
  · exact ⟨t, z, ht⟩
  · exact ⟨_, z, rfl⟩
  · exact ⟨_, z, rfl⟩
theorem SR.mask (s : SR M F H σ ρ) (hx : M.xn = none) (m : Mask σ ρ σm ρm) : SR M F H σm ρm := by
  refine ⟨by rw [m.1, m.2.1]; exact s.len, s.dom, fun i t h => ?_, fun i j t u a h1 h2 h3 h4 h5 h6 => ?_, .no hx s.xn.2⟩
  · obtain ⟨e, z⟩ := m.2.2 i _ h
    rw [e]
    rcases z with z | ⟨d', rfl, z | z⟩
    · exact s.slot i t z
    · obtain ⟨v, e1, a, rfl, nf, c⟩ := s.slot i _ z
      exact ⟨_, e1, a, rfl, nf, c.mono (.refl _ _) fun _ h => .inl h⟩
    · obtain ⟨v, e1, a, rfl, nf, c⟩ := s.slot i _ z
      exact ⟨_, e1, a, rfl, nf, c.mono (.refl _ _) fun _ h => .inl h⟩
  · obtain ⟨t', z1, z2⟩ := m.top h1 h3
    obtain ⟨u', y1, y2⟩ := m.top h2 h4
    rw [(m.2.2 i _ h1).1] at h5
    rw [(m.2.2 j _ h2).1] at h6
    exact s.dist i j t' u' a z1 y1 z2 y2 h5 h6
def rst (ρ1 : En) : List Nat → En → En
  | [], ρ => ρ
  | i :: S, ρ => rst ρ1 S (ρ.set i (gt ρ1 i))
theorem rst_length {ρ1 : En} : ∀ (S : List Nat) (ρ : En), (rst ρ1 S ρ).length = ρ.length
  | [], _ => rfl
  | i :: S, ρ => by unfold rst; rw [rst_length S, List.length_set]
theorem rst_out {ρ1 : En} {j : Nat} : ∀ (S : List Nat) {ρ : En}, j ∉ S → gt (rst ρ1 S ρ) j = gt ρ j
  | [], _, _ => rfl
  | i :: S, ρ, h => by
    unfold rst
    rw [rst_out S (fun z => h (List.mem_cons_of_mem _ z)), gt_set_ne (fun z => h (by rw [z]; exact List.mem_cons_self))]
theorem rst_in {ρ1 : En} {j : Nat} : ∀ (S : List Nat) {ρ : En}, j ∈ S → j < ρ.length → gt (rst ρ1 S ρ) j = gt ρ1 j
  | [], _, h, _ => by cases h
  | i :: S, ρ, h, hl => by
    unfold rst
    by_cases hj : j ∈ S
    · exact rst_in S hj (by rw [List.length_set]; exact hl)
    · rw [rst_out S hj]
      rcases List.mem_cons.mp h with rfl | h
      · exact gt_set_self hl
      · exact absurd h hj
end
end VF
namespace VF
open PySem PySem.Spec PyProof.Rows L2
def wp : List Nat → En → En
  | [], ρ => ρ
  | i :: S, ρ => wp S (ρ.set i none)
def lk : List Ov → En → En
  | [], ρ => ρ
  | .val _ :: xs, ρ => lk xs ρ
  | .at i :: xs, ρ => lk xs (match gt ρ i with
    | some (.own d) => ρ.set i (some (.rd d))
    | some (.ref d) => ρ.set i (some (.rd d))
    | _ => ρ)
def ats : List Ov → List Nat
  | [] => []
  | .val _ :: xs => ats xs
  | .at i :: xs => i :: ats xs
theorem wp_length : ∀ (S : List Nat) (ρ : En), (wp S ρ).length = ρ.length
  | [], _ => rfl
  | i :: S, ρ => by unfold wp; rw [wp_length S, List.length_set]
theorem wp_out {j : Nat} : ∀ (S : List Nat) {ρ : En}, j ∉ S → gt (wp S ρ) j = gt ρ j
  | [], _, _ => rfl
  | i :: S, ρ, h => by
    unfold wp
    rw [wp_out S (fun z => h (List.mem_cons_of_mem _ z)), gt_set_ne (fun z => h (by rw [z]; exact List.mem_cons_self))]
theorem wp_in {j : Nat} : ∀ (S : List Nat) {ρ : En}, j ∈ S → gt (wp S ρ) j = none
  | [], _, h => by cases h
  | i :: S, ρ, h => by
    unfold wp
    by_cases hj : j ∈ S
    · exact wp_in S hj
    · rw [wp_out S hj]
      rcases List.mem_cons.mp h with rfl | h
      · by_cases hl : j < ρ.length
        · exact gt_set_self hl
        · unfold gt
          rw [List.getElem?_eq_none (by rw [List.length_set]; omega)]
          rfl
      · exact absurd h hj
theorem lk_length : ∀ (xs : List Ov) (ρ : En), (lk xs ρ).length = ρ.length
  | [], _ => rfl
  | .val _ :: xs, ρ => lk_length xs ρ
  | .at i :: xs, ρ => by
    unfold lk
    rw [lk_length xs]
    split <;> simp
theorem lk_out {j : Nat} : ∀ (xs : List Ov) {ρ : En}, j ∉ ats xs → gt (lk xs ρ) j = gt ρ j
  | [], _, _ => rfl
  | .val _ :: xs, ρ, h => lk_out xs h
  | .at i :: xs, ρ, h => by
    unfold ats at h
    have hj : i ≠ j := fun z => h (by rw [z]; exact List.mem_cons_self)
    unfold lk
    rw [lk_out xs fun z => h (List.mem_cons_of_mem _ z)]
    split
    · exact gt_set_ne hj
    · exact gt_set_ne hj
    · rfl
theorem lk_at {j : Nat} {t : Sl} : ∀ (xs : List Ov) {ρ : En}, gt (lk xs ρ) j = some t → gt ρ j = some t ∨ ∃ d, t = .rd d ∧ (gt ρ j = some (.own d) ∨ gt ρ j = some (.ref d))
  | [], _, h => .inl h
  | .val _ :: xs, ρ, h => lk_at xs h
  | .at i :: xs, ρ, h => by
    unfold lk at h
    by_cases hj : i = j
    · subst hj
      cases e : gt ρ i with
      | none =>
        simp only [e] at h
        have z := lk_at xs h
        rw [e] at z
        exact z
      | some s =>
        have hl := gt_lt e
        cases s with
        | val d => simp only [e] at h; have z := lk_at xs h; rw [e] at z; exact z
        | rd d => simp only [e] at h; have z := lk_at xs h; rw [e] at z; exact z
        | own d =>
          simp only [e] at h
          have z := lk_at xs h
          rw [gt_set_self hl] at z
          rcases z with z | ⟨d', _, z | z⟩
          · cases z; exact .inr ⟨d, rfl, .inl rfl⟩
          · cases z
          · cases z
        | ref d =>
          simp only [e] at h
          have z := lk_at xs h
          rw [gt_set_self hl] at z
          rcases z with z | ⟨d', _, z | z⟩
          · cases z; exact .inr ⟨d, rfl, .inr rfl⟩
          · cases z
          · cases z
    · have z := lk_at xs h
      have e : gt (match gt ρ i with | some (.own d) => ρ.set i (some (.rd d)) | some (.ref d) => ρ.set i (some (.rd d)) | _ => ρ) j = gt ρ j := by
        split
        · exact gt_set_ne hj
        · exact gt_set_ne hj
        · rfl
      rw [e] at z
      exact z
theorem lk_in {j : Nat} : ∀ (xs : List Ov) {ρ : En}, j ∈ ats xs → (gt (lk xs ρ) j).map Sl.d = (gt ρ j).map Sl.d ∧ ∀ t, gt (lk xs ρ) j = some t → t.top = true → ∃ d, t = .rd d
  | [], _, h => by cases h
  | .val _ :: xs, ρ, h => lk_in xs h
  | .at i :: xs, ρ, h => by
    have same : ∀ {ρ1 : En}, gt ρ1 j = gt ρ j ∨ (∃ d, gt ρ1 j = some (.rd d) ∧ (gt ρ j = some (.own d) ∨ gt ρ j = some (.ref d))) → (gt ρ1 j).map Sl.d = (gt ρ j).map Sl.d := fun z => by
      rcases z with z | ⟨d, z, y | y⟩
      · rw [z]
      · rw [z, y]; rfl
      · rw [z, y]; rfl
    unfold lk
    by_cases hm : j ∈ ats xs
    · obtain ⟨h1, h2⟩ := lk_in xs (ρ := match gt ρ i with | some (.own d) => ρ.set i (some (.rd d)) | some (.ref d) => ρ.set i (some (.rd d)) | _ => ρ) hm
      refine ⟨h1.trans (same ?_), h2⟩
      by_cases hj : i = j
      · subst hj
        cases e : gt ρ i with
        | none => simp only [e]; exact .inl trivial
        | some s =>
          have hl := gt_lt e
          cases s with
          | val d => simp only [e]; exact .inl trivial
          | rd d => simp only [e]; exact .inl trivial
          | own d => simp only; exact .inr ⟨d, gt_set_self hl, .inl rfl⟩
          | ref d => simp only; exact .inr ⟨d, gt_set_self hl, .inr rfl⟩
      · refine .inl ?_
        split
        · exact gt_set_ne hj
        · exact gt_set_ne hj
        · rfl
    · rw [lk_out xs hm]
      have hj : i = j := by
        unfold ats at h
        rcases List.mem_cons.mp h with z | z
        · exact z.symm
        · exact absurd z hm
      subst hj
      cases e : gt ρ i with
      | none => simp only [e]; exact ⟨trivial, fun t z => by cases z⟩
      | some s =>
        have hl := gt_lt e
        cases s with
        | val d => simp only [e]; exact ⟨trivial, fun t z y => by cases z; cases y⟩
        | rd d => simp only [e]; exact ⟨trivial, fun t z y => by cases z; exact ⟨d, rfl⟩⟩
        | own d => simp only; rw [gt_set_self hl]; exact ⟨rfl, fun t z y => by cases z; exact ⟨d, rfl⟩⟩
        | ref d => simp only; rw [gt_set_self hl]; exact ⟨rfl, fun t z y => by cases z; exact ⟨d, rfl⟩⟩
theorem wipe_at {σ : St} {j : Nat} : ∀ {S : List Nat}, j ∈ S → gv (wipe σ S) j = none
  | [], h => by cases h
  | i :: S, h => by
    unfold wipe
    by_cases hj : i = j
    · subst hj
      by_cases hl : i < (wipe σ S).length
      · exact gv_set_self hl
      · unfold gv
        rw [List.getElem?_eq_none (by rw [List.length_set]; omega)]
        rfl
    · rw [gv_set_ne hj]
      rcases List.mem_cons.mp h with z | z
      · exact absurd z.symm hj
      · exact wipe_at z
theorem wipe_eq {σ σ' : St} {S S' : List Nat} (hl : σ'.length = σ.length) (h : ∀ j, j ∉ S' → σ'[j]? = σ[j]?) (hs : ∀ j, j ∈ S' → j ∈ S) : wipe σ' S = wipe σ S := by
  apply List.ext_getElem?
  intro j
  by_cases hj : j ∈ S
  · have e1 := wipe_at (σ := σ') hj
    have e2 := wipe_at (σ := σ) hj
    have l1 := wipe_length σ' S
    have l2 := wipe_length σ S
    by_cases hlt : j < σ.length
    · unfold gv at e1 e2
      have a1 : j < (wipe σ' S).length := by rw [l1, hl]; exact hlt
      have a2 : j < (wipe σ S).length := by rw [l2]; exact hlt
      rw [List.getElem?_eq_getElem a1] at e1 ⊢
      rw [List.getElem?_eq_getElem a2] at e2 ⊢
      cases h1 : (wipe σ' S)[j] with
      | some v => rw [h1] at e1; cases e1
      | none =>
        cases h2 : (wipe σ S)[j] with
        | some v => rw [h2] at e2; cases e2
        | none => rfl
    · rw [List.getElem?_eq_none (by rw [l1, hl]; omega), List.getElem?_eq_none (by rw [l2]; omega)]
  · rw [wipe_out hj, wipe_out hj]
    exact h j fun z => hj (hs j z)
theorem wipe_wipe {σ : St} {S : List Nat} : wipe (wipe σ S) S = wipe σ S := by
  apply List.ext_getElem?
  intro j
  by_cases hj : j ∈ S
  · have hl1 := wipe_length (wipe σ S) S
    have hl2 := wipe_length σ S
    have e1 := wipe_at (σ := wipe σ S) hj
    have e2 := wipe_at (σ := σ) hj
    by_cases hlt : j < σ.length
    · unfold gv at e1 e2
      have a1 : j < (wipe (wipe σ S) S).length := by omega
      have a2 : j < (wipe σ S).length := by omega
      rw [List.getElem?_eq_getElem a1] at e1 ⊢
      rw [List.getElem?_eq_getElem a2] at e2 ⊢
      cases h1 : (wipe (wipe σ S) S)[j] with
      | some v => rw [h1] at e1; cases e1
      | none =>
        cases h2 : (wipe σ S)[j] with
        | some v => rw [h2] at e2; cases e2
        | none => rfl
    · rw [List.getElem?_eq_none (by omega), List.getElem?_eq_none (by omega)]
  · rw [wipe_out hj]
def loopC (tg : Tg) (own : List Nat) (t : BS) (φ : ES) : List D → En → List D → Out (List D)
  | [], ρ, acc => .ok acc ρ
  | d :: ds, ρ, acc => match put tg d ρ with
    | none => .bad
    | some ρ1 => (t ρ1).bind fun b ρ2 => if b then (φ ρ2).bind fun r ρ3 => loopC tg own t φ ds (wp own ρ3) (acc ++ [r.d]) else loopC tg own t φ ds (wp own ρ2) acc
def noX {α : Type} : Out α → Out α
  | .ok a ρ => .ok a ρ
  | _ => .bad
def comp (src : Src) (tg : Tg) (own : List Nat) (t : BS) (φ : ES) : ES := fun ρ => (evs src.ops ρ).bind fun xs ρ1 => match dats ρ1 xs with
  | some ds => (match src.f ds with
    | some items => if (own.all fun i => !(ats xs).contains i) = true then (noX (loopC tg own t φ items (wp own (lk xs ρ1)) [])).bind fun out ρ2 => .ok (.own (.lst out)) (rst ρ1 (own ++ ats xs) ρ2) else .bad
    | none => .bad)
  | none => .bad
def yes : BS := fun ρ => .ok true ρ
def WF : WX := fun _ _ _ _ => False
theorem Stp.weak {F F' O R O' R' O2 R2 : Addr → Prop} {H H' : Hp} (x : Stp F H O R F' H' O' R') (ho : ∀ a, O2 a → O' a) (hr : ∀ a, R2 a → R' a) : Stp F H O R F' H' O2 R2 := ⟨x.fro, x.keep, x.dom, x.new, fun a h => x.own a (ho a h), fun a h => x.ref a (hr a h)⟩
section
variable {M : Md}
structure Btw (M : Md) (own : List Nat) (F1 : Addr → Prop) (H1 : Hp) (σw : St) (ρm : En) (D : Addr) (acc : List VF.D) (F : Addr → Prop) (H : Hp) (ρ : En) : Prop where
  stp : Stp F1 H1 (OwnAt σw ρm) (RefAt σw ρm) F H (OwnAt σw ρ) (RefAt σw ρ)
  sr : SR M F H σw ρ
  kp : Kp ρm ρ
  nf : ¬ F D
  list : ∃ vs, H D = some (.lst vs) ∧ RepL M F H acc vs
def Fin (M : Md) (own : List Nat) (F1 : Addr → Prop) (H1 : Hp) (σw : St) (ρm : En) (D : Addr) (Q : Hp → Prop) : Out (List VF.D) → Prop
  | .ok out ρ' => ∀ F H, Btw M own F1 H1 σw ρm D out F H ρ' → Q H
  | _ => False
end
end VF
namespace VF
open PySem PySem.Spec PyProof.Rows L2
theorem OvRs.upd {M : Md} {F F' : Addr → Prop} {H H' : Hp} {σ σ' : St} (x : Ext F H F' H') : ∀ {xs : List Ov} {vs : List V}, (∀ j, j ∈ ats xs → gv σ' j = gv σ j) → OvRs M F H σ xs vs → OvRs M F' H' σ' xs vs
  | [], _, _, h => h
  | .val d :: xs, _, k, ⟨v, r, e, p, q⟩ => ⟨v, r, e, Rep.mono x d p, OvRs.upd x (xs := xs) k q⟩
  | .at i :: xs, _, k, ⟨v, r, e, p, q⟩ => ⟨v, r, e, (k i List.mem_cons_self).trans p, OvRs.upd x (xs := xs) (fun j hj => k j (List.mem_cons_of_mem _ hj)) q⟩
section
variable {M : Md} {W : WX} {F : Addr → Prop} {H : Hp} {σ : St} {ρ : En}
end
section
variable {M : Md} {cs : Cs} {W : WX} {k : Nat} {X : Cx}
def Cs.blk (cs : Cs) (scope : Scope) : Cs := ⟨cs.N, relS scope cs.sc, fun x => scope.names.lookup x == some .cell⟩
theorem G.blk (g : G M cs W k X) (s : Shared) (H : Hp) (scope : Scope) (cl : List (Str × Addr)) (C : Addr) (fp : List Addr) : G M (cs.blk scope) WF k (X.blk s H scope (compEnvC scope cl C X.env) fp) :=
  ⟨⟨g.hP, g.hw, g.hb, g.hK, g.hmg, g.hN, g.nd, by show relS scope X.env.scope = relS scope cs.sc; rw [g.hsc], rfl, g.un⟩, g.calm, (fun u s' ⟨_, _, _, _, _, _, _, _, _, _, _, _, _, _, _, _, w⟩ => w.elim), g.room, PassesOwn.never, g.nx⟩
structure LcOk (M : Md) (cs : Cs) (k : Nat) (scope : Scope) (tg elt : Expr) (ifs : List Expr) (T : Tg) (t : BS) (φ : ES) : Prop where
  hg : ∀ X, G M (cs.blk scope) WF k X → PG X tg (gT X.K T)
  ht : ∀ X, G M (cs.blk scope) WF k X → PTs X ifs (tT M WF t)
  he : ∀ X, G M (cs.blk scope) WF k X → PE X elt (tE M WF φ)
end
end VF
namespace VF
open PySem PySem.Spec PyProof.Rows L2
inductive SO where
  | nx (ρ : En)
  | rt (r : Rv) (ρ : En)
  | bk (ρ : En)
  | ct (ρ : En)
  | exc (x : Ex) (ρ : En)
  | bad
abbrev SS := En → SO
def RtR (M : Md) (O : Addr → Prop) (H0 : Hp) (F : Addr → Prop) (H : Hp) : Rv → V → Prop
  | .val d, v => Rep M F H d v
  | .own d, v => ∃ a, v = .ref a ∧ ¬ F a ∧ (H0 a = none ∨ O a) ∧ Cont M F H (fun u => H a = some u) d
def WantS (M : Md) (W : WX) (F : Addr → Prop) (H : Hp) (σ : St) (ρ : En) (o : SO) (D : Ends) : Prop := match o with
  | .nx ρ' => ∀ F' H' σ', PoS M F H σ ρ F' H' σ' ρ' → D.nx σ' H'
  | .bk ρ' => ∀ F' H' σ', PoS M F H σ ρ F' H' σ' ρ' → D.bk σ' H'
  | .ct ρ' => ∀ F' H' σ', PoS M F H σ ρ F' H' σ' ρ' → D.ct σ' H'
  | .rt r ρ' => ∀ F' H' σ' v, PoS M F H σ ρ F' H' σ' ρ' → RtR M (OwnAt σ ρ) H F' H' r v → D.rt v H'
  | .exc x ρ' => ∀ F' H' σ' cls d, PoS M F H σ ρ F' H' σ' ρ' → ExR M F' H' x cls d → W cls d σ' H'
  | .bad => False
def tS (M : Md) (W : WX) (φ : SS) : TS := fun D σ H => ∃ F ρ, SR M F H σ ρ ∧ WantS M W F H σ ρ (φ ρ) D
def Out.bindS {α : Type} (o : Out α) (f : α → En → SO) : SO := match o with
  | .ok a ρ => f a ρ
  | .exc x ρ => .exc x ρ
  | .bad => .bad
section
variable {M : Md} {W : WX} {F F1 : Addr → Prop} {H H1 : Hp} {σ σ1 : St} {ρ ρ1 : En}
theorem RtR.step {r : Rv} {v : V} {F' : Addr → Prop} {H' : Hp} (st : Stp F H (OwnAt σ ρ) (RefAt σ ρ) F1 H1 (OwnAt σ1 ρ1) (RefAt σ1 ρ1)) (h : RtR M (OwnAt σ1 ρ1) H1 F' H' r v) : RtR M (OwnAt σ ρ) H F' H' r v := by
  cases r with
  | val d => exact h
  | own d =>
    obtain ⟨a, e, nf, z, c⟩ := h
    refine ⟨a, e, nf, ?_, c⟩
    rcases z with z | z
    · exact .inl (st.dom a z)
    · exact (st.own a z).symm
theorem WantS.step {o : SO} {D : Ends} (po : PoS M F H σ ρ F1 H1 σ1 ρ1) (h : WantS M W F H σ ρ o D) : WantS M W F1 H1 σ1 ρ1 o D := by
  cases o with
  | nx ρ' => exact fun F' H' σ' p => h F' H' σ' (po.trans p)
  | bk ρ' => exact fun F' H' σ' p => h F' H' σ' (po.trans p)
  | ct ρ' => exact fun F' H' σ' p => h F' H' σ' (po.trans p)
  | rt r ρ' => exact fun F' H' σ' v p rt => h F' H' σ' v (po.trans p) (rt.step po.stp)
  | exc x ρ' => exact fun F' H' σ' cls d p xr => h F' H' σ' cls d (po.trans p) xr
  | bad => exact h
theorem WantS.ends {o : SO} {D D' : Ends} (h : WantS M W F H σ ρ o D) (h1 : ∀ σ' H', D.nx σ' H' → D'.nx σ' H') (h2 : ∀ σ' H', D.bk σ' H' → D'.bk σ' H') (h3 : ∀ σ' H', D.ct σ' H' → D'.ct σ' H') (h4 : ∀ v H', D.rt v H' → D'.rt v H') : WantS M W F H σ ρ o D' := by
  cases o with
  | nx ρ' => exact fun F' H' σ' p => h1 _ _ (h F' H' σ' p)
  | bk ρ' => exact fun F' H' σ' p => h2 _ _ (h F' H' σ' p)
  | ct ρ' => exact fun F' H' σ' p => h3 _ _ (h F' H' σ' p)
  | rt r ρ' => exact fun F' H' σ' v p rt => h4 _ _ (h F' H' σ' v p rt)
  | exc x ρ' => exact h
  | bad => exact h
theorem bindS_want {α : Type} {o : Out α} {f : α → En → SO} {D : Ends} (h : WantS M W F H σ ρ (o.bindS f) D) :
    Want M W F H σ ρ o fun a _ _ ρ1 => WantS M W F H σ ρ (f a ρ1) D := by
  cases o with
  | bad => exact h
  | exc x ρ' => exact fun F' H' cls d po xr => h F' H' σ cls d po.s xr
  | ok a ρ1 => exact fun F1 H1 po => h
end
def skip : SS := fun ρ => .nx ρ
def seq (a b : SS) : SS := fun ρ => match a ρ with
  | .nx ρ' => b ρ'
  | o => o
def ifS (t : BS) (a b : SS) : SS := fun ρ => (t ρ).bindS fun c ρ' => if c then a ρ' else b ρ'
def retE (φ : ES) : SS := fun ρ => (φ ρ).bindS fun r ρ' => .rt r ρ'
def retI (i : Nat) : SS := fun ρ => match gt ρ i with
  | some (.own d) => .rt (.own d) (ρ.set i none)
  | some (.val d) => .rt (.val d) ρ
  | _ => .bad
def dropE (φ : ES) : SS := fun ρ => (φ ρ).bindS fun _ ρ' => .nx ρ'
def setI (i : Nat) (φ : ES) : SS := fun ρ => (φ ρ).bindS fun r ρ' => if noRef (gt ρ' i) = true ∧ i < ρ'.length then (match r with
  | .val d => .nx (ρ'.set i (some (.val d)))
  | .own d => .nx (ρ'.set i (some (.own d)))) else .bad
def putS (tg : Tg) (φ : ES) : SS := fun ρ => (φ ρ).bindS fun r ρ' => match put tg r.d ρ' with
  | some ρ2 => .nx ρ2
  | none => .bad
def kill (i : Nat) (a : SS) : SS := fun ρ => match gt ρ i with
  | some (.ref _) => .bad
  | some (.rd _) => .bad
  | _ => a (ρ.set i none)
section
variable {M : Md} {cs : Cs} {W : WX} {k : Nat} {X : Cx}
theorem s_nil : PSs X [] (tS M W skip) := PSs_imp pss_nil fun D σ H ⟨F, ρ, s, h⟩ => h F H σ (.refl s)
theorem s_cons {st : Stmt} {rest : List Stmt} {a b : SS} (h1 : PS X st (tS M W a)) (h2 : PSs X rest (tS M W b)) : PSs X (st :: rest) (tS M W (seq a b)) := by
  refine PSs_imp (pss_cons h1 h2) fun D σ H ⟨F, ρ, s, h⟩ => ⟨F, ρ, s, ?_⟩
  unfold seq at h
  cases e : a ρ with
  | nx ρ1 =>
    simp only [e] at h
    exact fun F1 H1 σ1 po => ⟨F1, ρ1, po.sr, h.step po⟩
  | bk ρ1 => simp only [e] at h; exact h
  | ct ρ1 => simp only [e] at h; exact h
  | rt r ρ1 => simp only [e] at h; exact h
  | exc x ρ1 => simp only [e] at h; exact h
  | bad => simp only [e] at h; exact h
theorem s_one {st : Stmt} {a : SS} (h1 : PS X st (tS M W a)) : PSs X [st] (tS M W a) := pss_one h1
theorem s_if {c : Expr} {a b : List Stmt} {pos : Pos} {t : BS} {p q : SS} (hc : PT X c (tT M W t)) (ha : PSs X a (tS M W p)) (hb : PSs X b (tS M W q)) : PS X (.If c a b pos) (tS M W (ifS t p q)) := by
  refine PS_imp (ps_if hc ha hb) fun D σ H ⟨F, ρ, s, h⟩ => ⟨F, ρ, s, (bindS_want h).mono fun b F1 H1 ρ1 po z => ?_⟩
  have z := z.step po.s
  cases b with
  | true => exact ⟨F1, ρ1, po.sr, z⟩
  | false => exact ⟨F1, ρ1, po.sr, z⟩
theorem s_ret {e : Expr} {pos : Pos} {φ : ES} (he : PE X e (tE M W φ)) : PS X (.Return (some e) pos) (tS M W (retE φ)) := by
  refine PS_imp (ps_ret he) fun D σ H ⟨F, ρ, s, h⟩ => tE_of s ((bindS_want h).mono fun r F1 H1 ρ1 po z v rv => ?_)
  refine z F1 H1 σ v po.s ?_
  cases r with
  | val d => exact rv
  | own d =>
    obtain ⟨a, e, nf, h0, c⟩ := rv
    exact ⟨a, e, nf, .inl h0, c⟩
theorem forget {F : Addr → Prop} {H : Hp} {σ : St} {ρ : En} (s : SR M F H σ ρ) {i : Nat} (hn : noRef (gt ρ i) = true) : PoS M F H σ ρ F H σ (ρ.set i none) := by
  have key : ∀ {j : Nat} {t : Sl}, gt (ρ.set i none) j = some t → gt ρ j = some t := fun {j t} h => by
    by_cases hj : i = j
    · subst hj
      have hl := gt_lt h
      rw [List.length_set] at hl
      rw [gt_set_self hl] at h
      cases h
    · rw [gt_set_ne hj] at h
      exact h
  refine ⟨⟨fun _ h => h, fun _ _ h _ _ => .inl h, fun _ h => h, fun _ h => .inl h, fun a ⟨j, d, h1, h2⟩ => .inl ⟨j, d, key h1, h2⟩, fun a ⟨j, d, h1, h2⟩ => ⟨j, d, key h1, h2⟩⟩, ⟨by rw [List.length_set]; exact s.len, s.dom, fun j t h => s.slot j t (key h), fun j l t u a h1 h2 => s.dist j l t u a (key h1) (key h2), s.xn⟩, by rw [List.length_set], fun j => ?_⟩
  by_cases hj : i = j
  · subst hj
    have z : ∀ t, gt (ρ.set i none) i ≠ some t := fun t e => by
      have hl := gt_lt e
      rw [List.length_set] at hl
      rw [gt_set_self hl] at e
      cases e
    refine ⟨fun d h => ?_, fun d h => ?_, fun d h => absurd h (z _), fun d h => absurd h (z _)⟩
    · rw [h] at hn; cases hn
    · rw [h] at hn; cases hn
  · rw [gt_set_ne hj]
    exact (KpT.refl σ ρ).2 j
theorem s_retI (g : G0 M cs k X) {i : Nat} {x : Str} {pos p2 : Pos} (hi : cs.N[i]? = some x) (hv : Vis cs.sc x) (hd : (x == ("__debug__" : Str)) = false) (hcd : (x == ("__classdict__" : Str)) = false) : PS X (.Return (some (.Name x pos)) p2) (tS M W (retI i)) := by
  refine PS_imp (ps_ret (pe_var (by rw [g.hN]; exact hi) (g.vis hv) hd hcd)) fun D σ H ⟨F, ρ, s, h⟩ => ?_
  unfold retI at h
  cases e : gt ρ i with
  | none => simp only [e] at h; exact h.elim
  | some t =>
    obtain ⟨v, hv, r⟩ := s.slot i t e
    refine ⟨v, gv_some hv, ?_⟩
    cases t with
    | val d => simp only [e] at h; exact h F H σ v (.refl s) r
    | own d =>
      simp only [e] at h
      obtain ⟨a, rfl, nf, c⟩ := r
      exact h F H σ _ (forget s (by rw [e]; rfl)) ⟨a, rfl, nf, .inr ⟨i, d, e, hv⟩, c⟩
    | ref d => simp only [e] at h; exact h.elim
    | rd d => simp only [e] at h; exact h.elim
theorem s_kill {st : List Stmt} {i : Nat} {a : SS} (h : PSs X st (tS M W a)) : PSs X st (tS M W (kill i a)) := by
  refine PSs_imp h fun D σ H ⟨F, ρ, s, h⟩ => ?_
  unfold kill at h
  have go : noRef (gt ρ i) = true → WantS M W F H σ ρ (a (ρ.set i none)) D → tS M W a D σ H := fun hn h => ⟨F, _, (forget s hn).sr, h.step (forget s hn)⟩
  cases e : gt ρ i with
  | none => simp only [e] at h; exact go (by rw [e]; rfl) h
  | some t => cases t with
    | val d => simp only [e] at h; exact go (by rw [e]; rfl) h
    | own d => simp only [e] at h; exact go (by rw [e]; rfl) h
    | ref d => simp only [e] at h; exact h.elim
    | rd d => simp only [e] at h; exact h.elim
theorem s_expr {e : Expr} {pos : Pos} {φ : ES} (he : PE X e (tE M W φ)) (hs : swapsWith e none pos.line X.env = pure false) : PS X (.Expr e pos) (tS M W (dropE φ)) := by
  refine PS_imp (ps_expr he hs) fun D σ H ⟨F, ρ, s, h⟩ => tE_of s ((bindS_want h).mono fun r F1 H1 ρ1 po z v rv => ?_)
  exact z F1 H1 σ po.s
theorem set_run {i : Nat} (hl : ∀ t, M.xn = some t → t.i ≠ i) {φ : ES} {D : Ends} {σ : St} {H : Hp} (h : tS M W (setI i φ) D σ H) : tAsg (tE M W φ) (gName i) D σ H := by
  obtain ⟨F, ρ, s, h⟩ := h
  refine tE_of s ((bindS_want h).mono fun r F1 H1 ρ1 po z v rv => ?_)
  show D.nx (σ.set i (some v)) H1
  by_cases hc : noRef (gt ρ1 i) = true ∧ i < ρ1.length
  · rw [if_pos hc] at z
    cases r with
    | val d => exact z F1 H1 _ (po.s.trans (put_val po.sr hl hc.2 hc.1 rv))
    | own d => exact z F1 H1 _ (put_own po.sr po s hl hc.2 hc.1 rv)
  · rw [if_neg hc] at z
    exact z.elim
theorem s_setH (g : G0 M cs k X) {i : Nat} {x : Str} {e : Expr} {pos' pos : Pos} {φ : ES} (hl : ∀ t, M.xn = some t → t.i ≠ i) (hi : cs.N[i]? = some x) (hx : Loc cs.sc x) (he : PE X e (tE M W φ)) (hs : swapsWith e (some (.Name x pos')) pos.line X.env = pure false) (hf : cs.fb x = true ∨ cs.sc.names.lookup x = some .local) :
    PS X (.Assign [.Name x pos'] e pos) (tS M W (setI i φ)) :=
  PS_imp (ps_set (by rw [g.hN]; exact g.nd) (by rw [g.hN]; exact hi) (by rw [g.hsc]; exact hx) he hs (by rw [g.hfn, g.hsc]; exact hf)) fun D σ H h => set_run hl h
theorem G.lk (g : G M cs W k X) (i : Nat) : ∀ t, M.xn = some t → t.i ≠ i := fun t e => by
  rw [g.nx] at e
  cases e
theorem s_set (g : G M cs W k X) {i : Nat} {x : Str} {e : Expr} {pos' pos : Pos} {φ : ES} (hi : cs.N[i]? = some x) (hx : Loc cs.sc x) (he : PE X e (tE M W φ)) (hs : swapsWith e (some (.Name x pos')) pos.line X.env = pure false) (hf : cs.fb x = true ∨ cs.sc.names.lookup x = some .local) :
    PS X (.Assign [.Name x pos'] e pos) (tS M W (setI i φ)) := s_setH g.toG0 (g.lk i) hi hx he hs hf
end
end VF
namespace VF
open PySem PySem.Spec PyProof.Rows L2
def lks (ρ : En) (xs : List Ov) : List Nat := (ats xs).filter fun i => match gt ρ i with
  | some (.own _) => true
  | some (.ref _) => true
  | _ => false
def unl (ρ1 : En) (S : List Nat) : SO → SO
  | .nx ρ => .nx (rst ρ1 S ρ)
  | .bk ρ => .bk (rst ρ1 S ρ)
  | .ct ρ => .ct (rst ρ1 S ρ)
  | .rt r ρ => .rt r (rst ρ1 S ρ)
  | .exc x ρ => .exc x (rst ρ1 S ρ)
  | .bad => .bad
def loopS (tg : Tg) (body : SS) : List D → SS
  | [], ρ => .nx ρ
  | d :: ds, ρ => match put tg d ρ with
    | none => .bad
    | some ρ1 => (match body ρ1 with
      | .nx ρ2 => loopS tg body ds ρ2
      | .ct ρ2 => loopS tg body ds ρ2
      | .bk ρ2 => .nx ρ2
      | o => o)
def forS (src : Src) (tg : Tg) (body : SS) : SS := fun ρ => (evs src.ops ρ).bindS fun xs ρ1 => match dats ρ1 xs with
  | some ds => (match src.f ds with
    | some items => unl ρ1 (lks ρ1 xs) (loopS tg body items (lk xs ρ1))
    | none => .bad)
  | none => .bad
def whileS (t : BS) (body : SS) : Nat → SS
  | 0, _ => .bad
  | n + 1, ρ => (t ρ).bindS fun b ρ1 => if b then (match body ρ1 with
      | .nx ρ2 => whileS t body n ρ2
      | .ct ρ2 => whileS t body n ρ2
      | .bk ρ2 => .nx ρ2
      | o => o) else .nx ρ1
theorem lk_rd {j : Nat} {d : D} : ∀ (xs : List Ov) {ρ : En}, gt ρ j = some (.rd d) → gt (lk xs ρ) j = some (.rd d)
  | [], _, h => h
  | .val _ :: xs, ρ, h => lk_rd xs h
  | .at i :: xs, ρ, h => by
    unfold lk
    refine lk_rd xs ?_
    by_cases hj : i = j
    · subst hj
      simp only [h]
    · split
      · rw [gt_set_ne hj]; exact h
      · rw [gt_set_ne hj]; exact h
      · exact h
theorem mem_lks {ρ : En} {xs : List Ov} {j : Nat} : j ∈ lks ρ xs ↔ j ∈ ats xs ∧ ∃ d, gt ρ j = some (.own d) ∨ gt ρ j = some (.ref d) := by
  unfold lks
  rw [List.mem_filter]
  refine and_congr_right fun _ => ?_
  constructor
  · intro h
    split at h
    · rename_i d e; exact ⟨d, .inl e⟩
    · rename_i d e; exact ⟨d, .inr e⟩
    · cases h
  · rintro ⟨d, e | e⟩ <;> simp only [e]
theorem lk_own {ρ : En} {xs : List Ov} {j : Nat} {d : D} (hj : j ∈ ats xs) (h : gt ρ j = some (.own d) ∨ gt ρ j = some (.ref d)) : gt (lk xs ρ) j = some (.rd d) := by
  obtain ⟨h1, h2⟩ := lk_in xs (ρ := ρ) hj
  cases e : gt (lk xs ρ) j with
  | none => rw [e] at h1; rcases h with h | h <;> (rw [h] at h1; cases h1)
  | some t =>
    have ed : t.d = d := by
      rw [e] at h1
      rcases h with h | h <;> (rw [h] at h1; cases h1; rfl)
    cases t with
    | val d' =>
      rcases lk_at xs e with z | ⟨d2, z, _⟩
      · rcases h with h | h <;> (rw [h] at z; cases z)
      · cases z
    | own d' => obtain ⟨d2, z⟩ := h2 _ e rfl; cases z
    | ref d' => obtain ⟨d2, z⟩ := h2 _ e rfl; cases z
    | rd d' => rw [show d' = d from ed]
section
variable {M : Md} {W : WX} {F F' : Addr → Prop} {H H' : Hp} {σ σ' : St} {ρ ρe : En}
theorem mask_lk {xs : List Ov} : Mask σ ρ σ (lk xs ρ) := ⟨rfl, lk_length _ _, fun j t h => ⟨rfl, lk_at xs h⟩⟩
theorem unlock (s : SR M F H σ ρ) (hx : M.xn = none) {xs : List Ov} (po : PoS M F H σ (lk xs ρ) F' H' σ' ρe) : PoS M F H σ ρ F' H' σ' (rst ρ (lks ρ xs) ρe) := by
  have mk : Mask σ ρ σ (lk xs ρ) := mask_lk
  have x : Ext F H F' H' := (s.mask hx mk).ext po.stp
  have hl : ρe.length = ρ.length := po.kp.1.symm.trans (lk_length _ _)
  have lkd : ∀ j, j ∈ lks ρ xs → ∃ d, gt (rst ρ (lks ρ xs) ρe) j = gt ρ j ∧ (gt ρ j = some (.own d) ∨ gt ρ j = some (.ref d)) ∧ gt ρe j = some (.rd d) ∧ gv σ' j = gv σ j := fun j hj => by
    obtain ⟨h1, d, h2⟩ := mem_lks.mp hj
    have h3 := lk_own h1 h2
    obtain ⟨h4, h5⟩ := (po.kp.2 j).2.1 d h3
    exact ⟨d, rst_in _ hj (gt_lt h4), h2, h4, h5⟩
  have out : ∀ j, j ∉ lks ρ xs → gt (rst ρ (lks ρ xs) ρe) j = gt ρe j := fun j hj => rst_out _ hj
  have same : ∀ j d, j ∉ lks ρ xs → gt ρ j = some (.own d) ∨ gt ρ j = some (.ref d) → gt (lk xs ρ) j = gt ρ j := fun j d hj h => by
    refine lk_out xs fun z => hj (mem_lks.mpr ⟨z, d, h⟩)
  refine ⟨⟨x.fro, fun a o h1 h2 h3 => po.stp.keep a o h1 (fun z => h2 (mk.own z)) fun z => h3 (mk.ref z), po.stp.dom, fun a h => ?_, fun a h => ?_, fun a h => ?_⟩, ⟨?_, po.sr.dom, fun j t h => ?_, fun i j t u a h1 h2 h3 h4 h5 h6 => ?_, .no hx po.sr.xn.2⟩, by rw [rst_length, hl], fun j => ?_⟩
  · rcases po.stp.new a h with z | z | z
    · exact .inl z
    · exact .inr (.inl z)
    · exact .inr (.inr (mk.own z))
  · obtain ⟨j, d, h1, h2⟩ := h
    by_cases hj : j ∈ lks ρ xs
    · obtain ⟨d', e1, _, _, e4⟩ := lkd j hj
      rw [e1] at h1
      rw [e4] at h2
      exact .inl ⟨j, d, h1, h2⟩
    · rw [out j hj] at h1
      rcases po.stp.own a ⟨j, d, h1, h2⟩ with z | z
      · exact .inl (mk.own z)
      · exact .inr z
  · obtain ⟨j, d, h1, h2⟩ := h
    by_cases hj : j ∈ lks ρ xs
    · obtain ⟨d', e1, _, _, e4⟩ := lkd j hj
      rw [e1] at h1
      rw [e4] at h2
      exact ⟨j, d, h1, h2⟩
    · rw [out j hj] at h1
      exact mk.ref (po.stp.ref a ⟨j, d, h1, h2⟩)
  · rw [rst_length]; exact po.sr.len
  · by_cases hj : j ∈ lks ρ xs
    · obtain ⟨d, e1, e2, e3, e4⟩ := lkd j hj
      rw [e1] at h
      obtain ⟨v, ev, r⟩ := s.slot j t h
      rw [e4]
      refine ⟨v, ev, ?_⟩
      have key : ∀ (a : Addr) (u : HO), v = .ref a → H a = some u → H' a = some u ∧ ¬ F' a := fun a u ea hu => by
        subst ea
        have top : t.top = true := by rcases e2 with e2 | e2 <;> (rw [e2] at h; cases h; rfl)
        have ne : ∀ i t', gt (lk xs ρ) i = some t' → t'.top = true → gv σ i = some (.ref a) → ∃ d, t' = .rd d := fun i t' k1 k2 k3 => by
          obtain ⟨t2, k4, k5⟩ := mk.top k1 k2
          have e := s.dist i j t2 t a k4 h k5 top k3 ev
          subst e
          exact (lk_in xs (mem_lks.mp hj).1).2 t' k1 k2
        have n1 : ¬ OwnAt σ (lk xs ρ) a := fun ⟨i, d, k1, k2⟩ => by
          obtain ⟨d', z⟩ := ne i _ k1 rfl k2
          cases z
        have n2 : ¬ RefAt σ (lk xs ρ) a := fun ⟨i, d, k1, k2⟩ => by
          obtain ⟨d', z⟩ := ne i _ k1 rfl k2
          cases z
        obtain ⟨b, w, e5, nf, _⟩ := po.sr.top_at e3 rfl
        rw [e4, ev] at e5
        cases e5
        exact ⟨(po.stp.keep a u hu n1 n2).no fun f => nf (po.stp.fro a f), nf⟩
      rcases e2 with e2 | e2
      · rw [e2] at h
        cases h
        obtain ⟨a, rfl, nf, c⟩ := r
        obtain ⟨u, hu, _⟩ := c.some_of
        obtain ⟨k1, k2⟩ := key a u rfl hu
        exact ⟨a, rfl, k2, c.mono x fun w (hw : H a = some w) => (key a w rfl hw).1⟩
      · rw [e2] at h
        cases h
        obtain ⟨a, rfl, nf, c⟩ := r
        obtain ⟨u, hu, _⟩ := c.some_of
        obtain ⟨k1, k2⟩ := key a u rfl hu
        exact ⟨a, rfl, k2, c.mono x fun w (hw : H a = some w) => (key a w rfl hw).1⟩
    · rw [out j hj] at h
      exact po.sr.slot j t h
  · have back : ∀ {i : Nat} {t : Sl}, gt (rst ρ (lks ρ xs) ρe) i = some t → t.top = true → ∃ t', gt ρe i = some t' ∧ t'.top = true := fun {i t} k1 k2 => by
      by_cases hj : i ∈ lks ρ xs
      · obtain ⟨d, _, _, e3, _⟩ := lkd i hj
        exact ⟨_, e3, rfl⟩
      · rw [out i hj] at k1
        exact ⟨t, k1, k2⟩
    obtain ⟨t', k1, k2⟩ := back h1 h3
    obtain ⟨u', k3, k4⟩ := back h2 h4
    exact po.sr.dist i j t' u' a k1 k3 k2 k4 h5 h6
  · by_cases hj : j ∈ lks ρ xs
    · obtain ⟨d, e1, e2, e3, e4⟩ := lkd j hj
      rw [e1, e4]
      exact (KpT.refl σ ρ).2 j
    · rw [out j hj]
      refine ⟨fun d h => ?_, fun d h => ?_, fun d h => ?_, fun d h => ?_⟩
      · exact (po.kp.2 j).1 d ((same j d hj (.inr h)).trans h)
      · exact (po.kp.2 j).2.1 d (lk_rd xs h)
      · obtain ⟨d', z⟩ := (po.kp.2 j).2.2.1 d h
        rcases lk_at xs z with y | ⟨_, y, _⟩
        · exact ⟨d', y⟩
        · cases y
      · have z := (po.kp.2 j).2.2.2 d h
        rcases lk_at xs z with y | ⟨d2, y, y2⟩
        · exact y
        · cases y
          have e := same j _ hj y2
          rw [z] at e
          rcases y2 with y2 | y2 <;> (rw [y2] at e; cases e)
theorem ods_later (s : SR M F H σ ρ) (x : Ext F H F' H') (s' : SR M F' H' σ' ρe) : ∀ {xs : List Ov} {vs : List V} {ds : List D}, OvRs M F H σ xs vs → dats ρ xs = some ds → (∀ j t d, j ∈ ats xs → gt ρ j = some t → t.top = true → t.d = d → gt ρe j = some (.rd d) ∧ gv σ' j = gv σ j) → OdRs M F' H' ds vs
  | [], _, _, h, e, _ => by cases e; exact h
  | x1 :: xs, _, ds, ⟨v, r, e1, p, q⟩, e, k => by
    unfold dats at e
    cases e2 : x1.dat ρ with
    | none => rw [e2] at e; cases e
    | some d =>
      cases e3 : dats ρ xs with
      | none => rw [e2, e3] at e; cases e
      | some ds' =>
        rw [e2, e3] at e
        cases e
        refine ⟨v, r, e1, ?_, ods_later s x s' q e3 fun j t d hj => k j t d ?_⟩
        · cases x1 with
          | val d' =>
            cases e2
            exact .inl (Rep.mono x _ p)
          | «at» i =>
            cases e4 : gt ρ i with
            | none => simp only [Ov.dat, e4] at e2; cases e2
            | some t =>
              simp only [Ov.dat, e4] at e2
              cases e2
              obtain ⟨w, hw, rr⟩ := s.slot i t e4
              have p : gv σ i = some v := p
              rw [p] at hw
              cases hw
              by_cases ht : t.top = true
              · obtain ⟨z1, z2⟩ := k i t _ List.mem_cons_self e4 ht rfl
                obtain ⟨w', hw', rr'⟩ := s'.slot i _ z1
                rw [z2, p] at hw'
                cases hw'
                exact rr'.od
              · cases t with
                | val d => exact .inl (Rep.mono x _ rr)
                | own d => exact absurd rfl ht
                | ref d => exact absurd rfl ht
                | rd d => exact absurd rfl ht
        · cases x1 with
          | val d' => exact hj
          | «at» i => exact List.mem_cons_of_mem _ hj
theorem unl_want (s : SR M F H σ ρ) (hx : M.xn = none) {xs : List Ov} {o : SO} {D : Ends} (h : WantS M W F H σ ρ (unl ρ (lks ρ xs) o) D) : WantS M W F H σ (lk xs ρ) o D := by
  cases o with
  | nx ρ' => exact fun F' H' σ' p => h F' H' σ' (unlock s hx p)
  | bk ρ' => exact fun F' H' σ' p => h F' H' σ' (unlock s hx p)
  | ct ρ' => exact fun F' H' σ' p => h F' H' σ' (unlock s hx p)
  | rt r ρ' =>
    refine fun F' H' σ' v p rt => h F' H' σ' v (unlock s hx p) ?_
    cases r with
    | val d => exact rt
    | own d =>
      obtain ⟨a, e, nf, z, c⟩ := rt
      exact ⟨a, e, nf, z.imp id fun z => mask_lk.own z, c⟩
  | exc x ρ' => exact fun F' H' σ' cls d p xr => h F' H' σ' cls d (unlock s hx p) xr
  | bad => exact h
end
section
variable {M : Md} {cs : Cs} {W : WX} {k : Nat} {X : Cx}
theorem for_run {src : Src} {tg : Tg} {body : SS} {K : PySem.W.Frag} (hx : M.xn = none) (hK : K = M.K) {D : Ends} {σ : St} {H : Hp} (h : tS M W (forS src tg body) D σ H) : tFor (tI M W src) (gT K tg) (tS M W body) D σ H := by
  obtain ⟨F, ρ, s, h⟩ := h
  show tOs M W src.ops σ H fun vs H1 => rIt M src.f vs H1 _
  refine ops_run _ s ((bindS_want h).mono fun xs F1 H1 ρ1 po1 q vs rs => ?_)
  have q := q.step po1.s
  cases e1 : dats ρ1 xs with
  | none => simp only [e1] at q; exact q.elim
  | some ds =>
    simp only [e1] at q
    cases e2 : src.f ds with
    | none => simp only [e2] at q; exact q.elim
    | some items =>
      simp only [e2] at q
      refine ⟨F1, ds, items, po1.sr.dom, rs.od po1.sr e1, e2, fun J wk hz => ?_⟩
      have sm := po1.sr.mask hx (mask_lk (xs := xs))
      have q := unl_want po1.sr hx q
      let Pv : Nat → St → Hp → Prop := fun i σ' H' => ∃ F' ρ', PoS M F1 H1 σ (lk xs ρ1) F' H' σ' ρ' ∧ WantS M W F' H' σ' ρ' (loopS tg body (items.drop i) ρ') D
      refine ⟨fun i m σ' H' => m = items.length - i ∧ i ≤ items.length ∧ Pv i σ' H', ⟨items.length, by simp, Nat.zero_le _, F1, lk xs ρ1, .refl sm, q⟩, ?_⟩
      rintro i m σ2 H2 ⟨rfl, hi, F2, ρ2, po2, w2⟩
      have ods : OdRs M F2 H2 ds vs := ods_later po1.sr (sm.ext po2.stp) po2.sr rs e1 fun j t d hj ht top ed => by
        have z : gt (lk xs ρ1) j = some (.rd d) := by
          cases t with
          | val d' => cases top
          | own d' => cases ed; exact lk_own hj (.inl ht)
          | ref d' => cases ed; exact lk_own hj (.inr ht)
          | rd d' => cases ed; exact lk_rd xs ht
        exact (po2.kp.2 j).2.1 d z
      obtain ⟨w3, w4⟩ := wk i F2 H2 po2.sr.dom ods
      by_cases hlt : i < items.length
      · have ed : items[i]? = some items[i] := List.getElem?_eq_getElem hlt
        obtain ⟨go, yl⟩ := w4 _ ed
        refine .inr ⟨go, Pv (i + 1), fun σ' H' p' => ⟨items.length - (i + 1), by omega, rfl, hlt, p'⟩, fun x H' y => ?_⟩
        obtain ⟨F', nw, rx⟩ := yl x H' y
        rw [List.drop_eq_getElem_cons hlt] at w2
        unfold loopS at w2
        have pn := (nw.po po2.sr).s
        cases e3 : put tg items[i] ρ2 with
        | none => simp only [e3] at w2; exact w2.elim
        | some ρ3 =>
          simp only [e3] at w2
          refine put_run hx hK tg pn.sr rx e3 fun σ3 po3 _ _ => ⟨F', ρ3, po3.sr, ?_⟩
          have w3 := w2.step (pn.trans po3)
          cases e4 : body ρ3 with
          | nx ρ4 =>
            simp only [e4] at w3
            exact fun F4 H4 σ4 po4 => ⟨F4, ρ4, po2.trans (pn.trans (po3.trans po4)), w3.step po4⟩
          | ct ρ4 =>
            simp only [e4] at w3
            exact fun F4 H4 σ4 po4 => ⟨F4, ρ4, po2.trans (pn.trans (po3.trans po4)), w3.step po4⟩
          | bk ρ4 => simp only [e4] at w3; exact w3
          | rt r ρ4 => simp only [e4] at w3; exact w3
          | exc x ρ4 => simp only [e4] at w3; exact w3
          | bad => simp only [e4] at w3; exact w3
      · have e : i = items.length := by omega
        subst e
        rw [List.drop_length] at w2
        exact .inl ⟨w3 (Nat.le_refl _), w2 F2 H2 σ2 (.refl po2.sr)⟩
theorem s_for (g : G M cs W k X) {tg iter : Expr} {body : List Stmt} {pos : Pos} {src : Src} {T : Tg} {b : SS} (hi : PI X tg iter (tI M W src)) (hg : PG X tg (gT X.K T)) (hb : PSs X body (tS M W b)) (hs : ∀ x, foldedSetIterable iter X.env x = pure x) : PS X (.For tg iter body [] pos) (tS M W (forS src T b)) :=
  PS_imp (ps_for g.pass g.calm hi hg hb hs) fun D σ H h => for_run g.nx g.hK h
theorem s_while (g : G M cs W k X) {c : Expr} {body : List Stmt} {pos : Pos} {t : BS} {b : SS} (n : Nat) (hc : PT X c (tT M W t)) (hb : PSs X body (tS M W b)) : PS X (.While c body [] pos) (tS M W (whileS t b n)) := by
  refine PS_imp (ps_while g.pass hc hb) fun D σ H h => ⟨fun m σ' H' => tS M W (whileS t b m) D σ' H', ⟨n, h⟩, ?_⟩
  rintro m σ1 H1 ⟨F, ρ, s, h⟩
  cases m with
  | zero => exact h.elim
  | succ m =>
    unfold whileS at h
    refine ⟨F, ρ, s, (bindS_want h).mono fun c F1 H1 ρ1 po z => ?_⟩
    have z := z.step po.s
    cases c with
    | false =>
      simp only [Bool.false_eq_true, if_false] at z ⊢
      exact z F1 H1 _ (.refl po.sr)
    | true =>
      simp only [if_true] at z ⊢
      refine ⟨fun σ' H' => tS M W (whileS t b m) D σ' H', fun σ' H' p => ⟨m, Nat.lt_succ_self _, p⟩, F1, ρ1, po.sr, ?_⟩
      cases e4 : b ρ1 with
      | nx ρ4 => simp only [e4] at z; exact fun F4 H4 σ4 po4 => ⟨F4, ρ4, po4.sr, z.step po4⟩
      | ct ρ4 => simp only [e4] at z; exact fun F4 H4 σ4 po4 => ⟨F4, ρ4, po4.sr, z.step po4⟩
      | bk ρ4 => simp only [e4] at z; exact z
      | rt r ρ4 => simp only [e4] at z; exact z
      | exc x ρ4 => simp only [e4] at z; exact z
      | bad => simp only [e4] at z; exact z
end
end VF
namespace VF
open PySem PySem.Spec PyProof.Rows L2
def mutS {α : Type} (i : Nat) (f : D → Option (α × D)) (ρ : En) : Option (α × En) := match gt ρ i with
  | some (.own d) => (match f d with
    | some (a, d') => some (a, ρ.set i (some (.own d')))
    | none => none)
  | some (.ref d) => (match f d with
    | some (a, d') => some (a, ρ.set i (some (.ref d')))
    | none => none)
  | _ => none
section
variable {M : Md} {F : Addr → Prop} {H : Hp} {σ : St} {ρ ρ' : En}
theorem mut_core (s : SR M F H σ ρ) {i : Nat} {t t' : Sl} {p : Addr} {u : HO} (e : gt ρ i = some t) (ht : (∃ d d', t = .own d ∧ t' = .own d') ∨ ∃ d d', t = .ref d ∧ t' = .ref d') (hv : gv σ i = some (.ref p)) (c : Cont M F H (fun w => w = u) t'.d) : Po M F H σ ρ F (upd H p u) (ρ.set i (some t')) := by
  have hi := gt_lt e
  have top : t.top = true := by rcases ht with ⟨d, d', rfl, rfl⟩ | ⟨d, d', rfl, rfl⟩ <;> rfl
  obtain ⟨b, u0, e1, nf, hp⟩ := s.top_at e top
  rw [hv] at e1
  cases e1
  have mut0 : Mut (some u0) := by
    obtain ⟨v, e2, r⟩ := s.slot i t e
    rw [hv] at e2
    cases e2
    rcases ht with ⟨d, d', rfl, rfl⟩ | ⟨d, d', rfl, rfl⟩ <;>
    · obtain ⟨a, e3, _, c0⟩ := r
      cases e3
      obtain ⟨w, hw, m⟩ := c0.some_of
      have hw : H p = some w := hw
      rw [hp] at hw
      cases hw
      exact m
  have x : Ext F H F (upd H p u) := by
    have ne : ∀ a, F a → a ≠ p := fun a f z => nf (by rw [← z]; exact f)
    refine ⟨fun _ h => h, fun a w f _ r => ?_, fun a o f _ q => by rw [upd_ne (ne a f)]; exact q, fun a vs r => ?_, fun a vs r => by rw [upd_ne fun z => by subst z; rw [r] at hp; cases hp; exact mut0]; exact r⟩
    · rcases r with r | ⟨o, r⟩
      · exact .inl (by rw [upd_ne (ne a f)]; exact r)
      · exact .inr ⟨o, by rw [upd_ne (ne a f)]; exact r⟩
    · have ne : a ≠ p := fun z => by
        subst z
        rcases r with r | ⟨o, r⟩
        · rw [r] at hp; cases hp; exact mut0
        · rw [r] at hp; cases hp; exact mut0
      rcases r with r | ⟨o, r⟩
      · exact .inl (by rw [upd_ne ne]; exact r)
      · exact .inr ⟨o, by rw [upd_ne ne]; exact r⟩
  have xt : ∀ P q, TabF F H P q → TabF F (upd H p u) P q := fun P q t => t.kept (fun _ h => h) fun a o f q _ => by rw [upd_ne (fun z => nf (by rw [← z]; exact f))]; exact q
  have at_p : (∃ d, t = .own d) ∧ OwnAt σ ρ p ∨ (∃ d, t = .ref d) ∧ RefAt σ ρ p := by
    rcases ht with ⟨d, d', rfl, rfl⟩ | ⟨d, d', rfl, rfl⟩
    · exact .inl ⟨⟨d, rfl⟩, i, d, e, hv⟩
    · exact .inr ⟨⟨d, rfl⟩, i, d, e, hv⟩
  have kp : Kp ρ (ρ.set i (some t')) := ⟨by rw [List.length_set], fun j => by
    by_cases hj : i = j
    · subst hj
      rw [gt_set_self hi, e]
      rcases ht with ⟨d, d', rfl, rfl⟩ | ⟨d, d', rfl, rfl⟩ <;> trivial
    · rw [gt_set_ne hj]; exact .refl _⟩
  refine ⟨⟨fun _ h => h, fun a o h1 h2 h3 => ?_, fun a h => ?_, fun a h => .inl h, fun a h => .inl (kp.own h), fun a h => kp.ref h⟩, ⟨by rw [List.length_set]; exact s.len, fun a h => ?_, fun j w h => ?_, fun j k w y a h1 h2 h3 h4 h5 h6 => ?_, s.xn.ext x xt⟩, kp⟩
  · have ne : a ≠ p := fun z => by
      subst z
      rcases at_p with ⟨_, z⟩ | ⟨_, z⟩
      · exact h2 z
      · exact h3 z
    rw [upd_ne ne]; exact .inl h1
  · by_cases ha : a = p
    · subst ha; rw [upd_same] at h; cases h
    · rw [upd_ne ha] at h; exact h
  · by_cases ha : a = p
    · subst ha; rw [upd_same]; exact fun z => by cases z
    · rw [upd_ne ha]; exact s.dom a h
  · by_cases hj : i = j
    · subst hj
      rw [gt_set_self hi] at h
      cases h
      refine ⟨.ref p, hv, ?_⟩
      have c' : Cont M F (upd H p u) (fun o => upd H p u p = some o) t'.d := c.mono x fun w (hw : w = u) => by rw [hw]; exact upd_same
      rcases ht with ⟨d, d', rfl, rfl⟩ | ⟨d, d', rfl, rfl⟩
      · exact ⟨p, rfl, nf, c'⟩
      · exact ⟨p, rfl, nf, c'⟩
    · rw [gt_set_ne hj] at h
      obtain ⟨v, ev, r⟩ := s.slot j w h
      refine ⟨v, ev, ?_⟩
      have ne : ∀ a, w.top = true → v = .ref a → a ≠ p := fun a hw ea z => by
        subst ea; subst z
        exact hj (s.dist i j t w a e h top hw hv ev)
      cases w with
      | val d => exact Rep.mono x d r
      | own d =>
        obtain ⟨a, rfl, na, c0⟩ := r
        exact ⟨a, rfl, na, c0.mono x fun o (ho : H a = some o) => by rw [upd_ne (ne a rfl rfl)]; exact ho⟩
      | ref d =>
        obtain ⟨a, rfl, na, c0⟩ := r
        exact ⟨a, rfl, na, c0.mono x fun o (ho : H a = some o) => by rw [upd_ne (ne a rfl rfl)]; exact ho⟩
      | rd d =>
        obtain ⟨a, rfl, na, c0⟩ := r
        exact ⟨a, rfl, na, c0.mono x fun o ho => ho.imp (fun z => by rw [upd_ne (ne a rfl rfl)]; exact z) fun ⟨q, z, y⟩ => ⟨q, by rw [upd_ne (ne a rfl rfl)]; exact z, y⟩⟩
  · obtain ⟨w', k1, k2⟩ := kp.top_of h1 h3
    obtain ⟨y', k3, k4⟩ := kp.top_of h2 h4
    exact s.dist j k w' y' a k1 k3 k2 k4 h5 h6
theorem mut_slot (s : SR M F H σ ρ) {α : Type} {i : Nat} {f : D → Option (α × D)} {a : α} (e : mutS i f ρ = some (a, ρ')) : ∃ p d d', gv σ i = some (.ref p) ∧ ¬ F p ∧ f d = some (a, d') ∧ Cont M F H (fun u => H p = some u) d ∧ ∀ u, Cont M F H (fun w => w = u) d' → Po M F H σ ρ F (upd H p u) ρ' := by
  unfold mutS at e
  split at e
  · rename_i d eq
    split at e
    · rename_i a' d' ef
      cases e
      obtain ⟨v, ev, p, rfl, nf, c⟩ := s.slot i _ eq
      exact ⟨p, d, d', ev, nf, ef, c, fun u cu => mut_core s eq (.inl ⟨d, d', rfl, rfl⟩) ev cu⟩
    · cases e
  · rename_i d eq
    split at e
    · rename_i a' d' ef
      cases e
      obtain ⟨v, ev, p, rfl, nf, c⟩ := s.slot i _ eq
      exact ⟨p, d, d', ev, nf, ef, c, fun u cu => mut_core s eq (.inr ⟨d, d', rfl, rfl⟩) ev cu⟩
    · cases e
  · cases e
end
def stD (v k : D) : D → Option (Unit × D)
  | .lst ds => match k with
    | .int j => (ixN ds.length j).map fun n => ((), .lst (ds.set n v))
    | _ => none
  | _ => none
def storeI (i : Nat) (ix : Opd) (φ : ES) : SS := fun ρ => (φ ρ).bindS fun r ρ1 => ((Opd.sl i).ev ρ1).bindS fun _ ρ1 => (ix.ev ρ1).bindS fun y ρ2 => match y.dat ρ2 with
  | some k => (match mutS i (stD r.d k) ρ2 with
    | some (_, ρ3) => .nx ρ3
    | none => .bad)
  | none => .bad
section
variable {M : Md} {cs : Cs} {W : WX} {k : Nat} {X : Cx}
theorem bindS_op {F : Addr → Prop} {H : Hp} {σ : St} {ρ : En} (s : SR M F H σ ρ) {o : Opd} {f : Ov → En → SO} {D : Ends} {Q' : VK} (h : WantS M W F H σ ρ ((o.ev ρ).bindS f) D)
    (k : ∀ x F1 H1 ρ1 v, Po M F H σ ρ F1 H1 ρ1 → OvR M F1 H1 σ x v → WantS M W F1 H1 σ ρ1 (f x ρ1) D → Q' v H1) : tO M W o σ H Q' :=
  op_run s ((bindS_want h).mono fun x F1 H1 ρ1 po q v rv => k x F1 H1 ρ1 v po rv (q.step po.s))
theorem bindS_sl {F : Addr → Prop} {H : Hp} {σ : St} {ρ : En} (s : SR M F H σ ρ) {i : Nat} {f : Ov → En → SO} {D : Ends} {Q' : VK} (h : WantS M W F H σ ρ (((Opd.sl i).ev ρ).bindS f) D)
    (k : ∀ t v, gt ρ i = some t → gv σ i = some v → SlR M F H t v → WantS M W F H σ ρ (f (.at i) ρ) D → Q' v H) : tVar i σ H Q' := by
  cases e : gt ρ i with
  | none => simp only [Opd.ev, e, Out.bindS] at h; exact h.elim
  | some t =>
    simp only [Opd.ev, e, Out.bindS] at h
    obtain ⟨v, hv, r⟩ := s.slot i t e
    exact ⟨v, gv_some hv, k t v e hv r h⟩
theorem RepL_set {M : Md} {F : Addr → Prop} {H : Hp} {d : D} {v : V} (r : Rep M F H d v) : ∀ {ds : List D} {vs : List V} (n : Nat), RepL M F H ds vs → RepL M F H (ds.set n d) (vs.set n v)
  | [], _, _, h => by unfold RepL at h; subst h; exact .nil
  | _ :: _, _, 0, h => by
    unfold RepL at h
    obtain ⟨w, q, rfl, p, l⟩ := h
    exact .cons r l
  | _ :: _, _, n + 1, h => by
    unfold RepL at h
    obtain ⟨w, q, rfl, p, l⟩ := h
    exact .cons p (RepL_set r n l)
def mutM (T : String) (f : List D → D → Option (D × D)) (i : Nat) (φs : List ES) : ES := fun ρ => ((Opd.sl i).ev ρ).bind fun x ρ0 => match x.dat ρ0 with
  | some d => if d.ty = some T then (evs (φs.map .ex) ρ0).bind fun xs ρ1 => (match vals xs with
    | some ds => (match mutS i (f ds) ρ1 with
      | some (r, ρ2) => .ok (.val r) ρ2
      | none => .bad)
    | none => .bad) else .bad
  | none => .bad
def mAppend : List D → D → Option (D × D)
  | [y], .lst ds => if ds.length < sizeLine then some (.non, .lst (ds ++ [y])) else none
  | _, _ => none
end
end VF
namespace VF
open PySem PySem.Spec PyProof.Rows L2
inductive FO where
  | ok (r : Rv) (outs : List Sl)
  | exc (x : Ex) (outs : List Sl)
  | bad
abbrev FSem := List Sl → FO
def WantF (M : Md) (F : Addr → Prop) (H : Hp) (σ : St) (ρ : En) (o : FO) (Q : VK) (E : XK) : Prop := match o with
  | .ok r outs => ∀ F' H' v, Po M F H σ ρ F' H' (outs.map some) → RvR M H F' H' r v → Q v H'
  | .exc x outs => ∀ F' H' cls d, Po M F H σ ρ F' H' (outs.map some) → ExR M F' H' x cls d → E cls d H'
  | .bad => False
def noOwn : Sl → Bool
  | .own _ => false
  | _ => true
def spF (M : Md) (np : Nat) (φ : FSem) : Sp := fun vs H Q E => vs.length = np ∧ ∃ F sls, SR M F H (vs.map some) (sls.map some) ∧ sls.all noOwn = true ∧ WantF M F H (vs.map some) (sls.map some) (φ sls) Q E
def finA (sls : List Sl) (ρ : En) : List Sl := sls.mapIdx fun i s => match s with
  | .ref d => (match gt ρ i with
    | some (.ref d') => .ref d'
    | _ => .ref d)
  | s => s
def fnS (n : Nat) (b : SS) : FSem := fun sls => match b (sls.map some ++ List.replicate (n - sls.length) none) with
  | .nx ρ => .ok (.val .non) (finA sls ρ)
  | .rt r ρ => .ok r (finA sls ρ)
  | .exc x ρ => .exc x (finA sls ρ)
  | _ => .bad
theorem gt_map {sls : List Sl} {i : Nat} : gt (sls.map some) i = sls[i]? := by
  unfold gt
  rw [List.getElem?_map]
  cases sls[i]? <;> rfl
theorem gv_map {vs : List V} {i : Nat} : gv (vs.map some) i = vs[i]? := by
  unfold gv
  rw [List.getElem?_map]
  cases vs[i]? <;> rfl
theorem gt_pad {ρ : En} {n i : Nat} : gt (ρ ++ List.replicate n none) i = gt ρ i := by
  unfold gt
  by_cases h : i < ρ.length
  · rw [List.getElem?_append_left h]
  · rw [List.getElem?_append_right (by omega), List.getElem?_eq_none (show ρ.length ≤ i by omega), List.getElem?_replicate]
    split <;> rfl
theorem gv_pad {ρ : St} {n i : Nat} : gv (ρ ++ List.replicate n none) i = gv ρ i := by
  unfold gv
  by_cases h : i < ρ.length
  · rw [List.getElem?_append_left h]
  · rw [List.getElem?_append_right (by omega), List.getElem?_eq_none (show ρ.length ≤ i by omega), List.getElem?_replicate]
    split <;> rfl
section
variable {M : Md} {F F' : Addr → Prop} {H H' : Hp}
theorem noOwn_at {sls : List Sl} (h : sls.all noOwn = true) {i : Nat} {d : D} : sls[i]? ≠ some (.own d) := fun e => by
  have z := List.all_eq_true.mp h _ (List.mem_of_getElem? e)
  cases z
theorem SR.pad {σ : St} {ρ : En} (s : SR M F H σ ρ) (n : Nat) : SR M F H (σ ++ List.replicate n none) (ρ ++ List.replicate n none) :=
  ⟨by simp [s.len], s.dom, fun i t h => by rw [gt_pad] at h; rw [gv_pad]; exact s.slot i t h, fun i j t u a h1 h2 h3 h4 h5 h6 => by
    rw [gt_pad] at h1 h2; rw [gv_pad] at h5 h6; exact s.dist i j t u a h1 h2 h3 h4 h5 h6, s.xn.at fun t _ => gv_pad⟩
theorem fin_po (hx : M.xn = none) {vs : List V} {sls : List Sl} {n : Nat} {σ' : St} {ρ' : En} (s : SR M F H (vs.map some) (sls.map some)) (hno : sls.all noOwn = true)
    (po : PoS M F H (vs.map some ++ List.replicate n none) (sls.map some ++ List.replicate n none) F' H' σ' ρ') : Po M F H (vs.map some) (sls.map some) F' H' ((finA sls ρ').map some) ∧ ∀ a, ¬ OwnAt (vs.map some ++ List.replicate n none) (sls.map some ++ List.replicate n none) a := by
  have no : ∀ a, ¬ OwnAt (vs.map some ++ List.replicate n none) (sls.map some ++ List.replicate n none) a := fun a ⟨i, d, h1, h2⟩ => by
    rw [gt_pad, gt_map] at h1
    exact noOwn_at hno h1
  have x : Ext F H F' H' := (s.pad n).ext po.stp
  have rf : ∀ {a}, RefAt (vs.map some ++ List.replicate n none) (sls.map some ++ List.replicate n none) a → RefAt (vs.map some) (sls.map some) a := fun ⟨i, d, h1, h2⟩ => by
    rw [gt_pad] at h1; rw [gv_pad] at h2
    exact ⟨i, d, h1, h2⟩
  have rf' : ∀ {a}, RefAt (vs.map some) (sls.map some) a → RefAt (vs.map some ++ List.replicate n none) (sls.map some ++ List.replicate n none) a := fun ⟨i, d, h1, h2⟩ => ⟨i, d, by rw [gt_pad]; exact h1, by rw [gv_pad]; exact h2⟩
  have kp : Kp (sls.map some) ((finA sls ρ').map some) := by
    refine ⟨by simp [finA], fun i => ?_⟩
    rw [gt_map, gt_map]
    unfold finA
    rw [List.getElem?_mapIdx]
    cases e : sls[i]? with
    | none => trivial
    | some t =>
      cases t with
      | val d => exact rfl
      | own d => exact absurd e (noOwn_at hno)
      | rd d => exact rfl
      | ref d =>
        simp only [Option.map_some]
        split <;> trivial
  have noO : ∀ a, ¬ OwnAt (vs.map some) ((finA sls ρ').map some) a := fun a h => by
    obtain ⟨i, d, h1, _⟩ := kp.own h
    rw [gt_map] at h1
    exact noOwn_at hno h1
  refine ⟨⟨⟨x.fro, fun a o h1 h2 h3 => po.stp.keep a o h1 (no a) fun z => h3 (rf z), po.stp.dom, fun a h => ?_, fun a h => absurd h (noO a), fun a h => kp.ref h⟩, ⟨by simp [finA]; simpa using s.len, po.sr.dom, fun i t h => ?_, fun i j t u a h1 h2 h3 h4 h5 h6 => ?_, .no hx po.sr.xn.2⟩, kp⟩, no⟩
  · rcases po.stp.new a h with z | z | z
    · exact .inl z
    · exact .inr (.inl z)
    · exact absurd z (no a)
  · rw [gt_map] at h
    unfold finA at h
    rw [List.getElem?_mapIdx] at h
    obtain ⟨t0, e0, e1⟩ := Option.map_eq_some_iff.mp h
    have g0 : gt (sls.map some) i = some t0 := by rw [gt_map]; exact e0
    have g0' : gt (sls.map some ++ List.replicate n none) i = some t0 := by rw [gt_pad]; exact g0
    obtain ⟨v, hv, r⟩ := s.slot i t0 g0
    refine ⟨v, hv, ?_⟩
    have hv' : gv (vs.map some ++ List.replicate n none) i = some v := by rw [gv_pad]; exact hv
    cases t0 with
    | val d => cases e1; exact Rep.mono x d r
    | own d => exact absurd e0 (noOwn_at hno)
    | rd d =>
      cases e1
      obtain ⟨k1, k2⟩ := (po.kp.2 i).2.1 d g0'
      obtain ⟨w, hw, rw'⟩ := po.sr.slot i _ k1
      rw [k2, hv'] at hw
      cases hw
      exact rw'
    | ref d =>
      obtain ⟨⟨d', k1⟩, k2⟩ := (po.kp.2 i).1 d g0'
      simp only [k1] at e1
      cases e1
      obtain ⟨w, hw, rw'⟩ := po.sr.slot i _ k1
      rw [k2, hv'] at hw
      cases hw
      exact rw'
  · obtain ⟨t', k1, k2⟩ := kp.top_of h1 h3
    obtain ⟨u', k3, k4⟩ := kp.top_of h2 h4
    exact s.dist i j t' u' a k1 k3 k2 k4 h5 h6
theorem body_run (hx : M.xn = none) {b : SS} {N : List Str} {np : Nat} {vs : List V} {Q : VK} {E : XK} (h : spF M np (fnS N.length b) vs H Q E) : tS M (fun cls d _ H => E cls d H) b { nx := fun _ H' => Q .non H', rt := Q } (start N vs) H := by
  obtain ⟨hl, F, sls, s, hno, w⟩ := h
  have e : sls.length = vs.length := by have := s.len; simpa using this.symm
  refine ⟨F, sls.map some ++ List.replicate (N.length - sls.length) none, by unfold L2.start; rw [e]; exact s.pad _, ?_⟩
  unfold L2.start
  rw [e]
  unfold fnS at w
  rw [e] at w
  cases eb : b (sls.map some ++ List.replicate (N.length - vs.length) none) with
  | nx ρ' =>
    simp only [eb] at w
    intro F' H' σ' po
    obtain ⟨po', _⟩ := fin_po hx s hno po
    exact w F' H' .non po' (by show Rep M F' H' .non .non; unfold Rep; rfl)
  | rt r ρ' =>
    simp only [eb] at w
    intro F' H' σ' v po rt
    obtain ⟨po', no⟩ := fin_po hx s hno po
    refine w F' H' v po' ?_
    cases r with
    | val d => exact rt
    | own d =>
      obtain ⟨a, e, nf, z, c⟩ := rt
      exact ⟨a, e, nf, z.elim id fun z => absurd z (no a), c⟩
  | exc x ρ' =>
    simp only [eb] at w
    intro F' H' σ' cls d po xr
    obtain ⟨po', _⟩ := fin_po hx s hno po
    exact w F' H' cls d po' xr
  | bk ρ' => simp only [eb] at w; exact w.elim
  | ct ρ' => simp only [eb] at w; exact w.elim
  | bad => simp only [eb] at w; exact w.elim
end
structure FnV (M : Md) (k : Nat) (x : Str) (np : Nat) (φ : FSem) : Prop where
  ex : ∃ f fd ps, FnOk M.P M.w M.K M.mg M.base (L2N.CX M.P M.w) k f fd ps (spF M np φ) ∧ M.mg x = some (.ref f) ∧ PySem.W.keepIn M.K (.ref f) = true ∧ ps.length = np ∧ Binds M.K fd ps []
theorem fn_ok {M : Md} (hx : M.xn = none) {k : Nat} {x qual : Str} {params : Arguments} {body : List Stmt} {scope : Scope} {kws : List (Str × V)} {dvs : List V} {f : Addr} {fd : FuncData} {N ps : List Str} {b : SS} (F : FunD M.K x qual params body scope dvs kws f fd) (S : FnScope N ps scope)
    (hb : ∀ X W, G M ⟨N, scope, fun _ => true⟩ W k X → PSs X body (tS M W b)) : FnOk M.P M.w M.K M.mg M.base (L2N.CX M.P M.w) (k + 1) f fd ps (spF M ps.length (fnS N.length b)) := by
  refine F.ok S (fun vs H Q E h => h.1) fun cdv A outer s H vs Q E hr hsp => ?_
  refine ⟨_, hb _ (fun cls d _ H => E cls d H) ⟨⟨rfl, rfl, rfl, rfl, rfl, rfl, S.nd, rfl, rfl, hr.un⟩, rfl, L2N.takes_of rfl rfl rfl rfl, hr, passes_of rfl, hx⟩, body_run hx hsp⟩
def slO (ρ : En) : Ov → Option Sl
  | .val d => some (.val d)
  | .at i => match gt ρ i with
    | some (.own d) => some (.ref d)
    | t => t
def slOs (ρ : En) : List Ov → Option (List Sl)
  | [] => some []
  | x :: xs => match slO ρ x, slOs ρ xs with
    | some s, some ss => some (s :: ss)
    | _, _ => none
def isTop (ρ : En) (i : Nat) : Bool := match gt ρ i with
  | some t => t.top
  | none => false
def tpI (ρ : En) : List Ov → List Nat
  | [] => []
  | .val _ :: xs => tpI ρ xs
  | .at i :: xs => if isTop ρ i then i :: tpI ρ xs else tpI ρ xs
def ndB : List Nat → Bool
  | [] => true
  | i :: r => !r.contains i && ndB r
def look : List Ov → List Sl → Nat → Option D
  | .at i :: xs, .ref d :: ss, j => if i = j then some d else look xs ss j
  | _ :: xs, _ :: ss, j => look xs ss j
  | _, _, _ => none
def bk1 (xs : List Ov) (outs : List Sl) (j : Nat) : Option Sl → Option Sl
  | some (.own d) => (match look xs outs j with
    | some d' => some (.own d')
    | none => some (.own d))
  | some (.ref d) => (match look xs outs j with
    | some d' => some (.ref d')
    | none => some (.ref d))
  | t => t
def back (xs : List Ov) (outs : List Sl) (ρ : En) : En := ρ.mapIdx (bk1 xs outs)
def callF (φ : FSem) (os : List Opd) (dd : List D) : ES := fun ρ => (evs os ρ).bind fun xs0 ρ1 => match slOs ρ1 (xs0 ++ dd.map .val) with
  | some sls => if ndB (tpI ρ1 (xs0 ++ dd.map .val)) = true then (match φ sls with
    | .ok r outs => .ok r (back (xs0 ++ dd.map .val) outs ρ1)
    | .exc x outs => .exc x (back (xs0 ++ dd.map .val) outs ρ1)
    | .bad => .bad) else .bad
  | none => .bad
theorem slOs_get {ρ : En} : ∀ {xs : List Ov} {sls : List Sl} {i : Nat} {s : Sl}, slOs ρ xs = some sls → sls[i]? = some s → ∃ x, xs[i]? = some x ∧ slO ρ x = some s
  | [], _, _, _, e, h => by cases e; cases h
  | x :: xs, sls, i, s, e, h => by
    unfold slOs at e
    cases e1 : slO ρ x with
    | none => rw [e1] at e; cases e
    | some t =>
      cases e2 : slOs ρ xs with
      | none => rw [e1, e2] at e; cases e
      | some ss =>
        rw [e1, e2] at e
        cases e
        cases i with
        | zero => cases h; exact ⟨x, rfl, e1⟩
        | succ i => exact slOs_get (i := i) e2 h
theorem slOs_get' {ρ : En} : ∀ {xs : List Ov} {sls : List Sl} {i : Nat} {x : Ov}, slOs ρ xs = some sls → xs[i]? = some x → ∃ s, sls[i]? = some s ∧ slO ρ x = some s
  | [], _, _, _, e, h => by cases h
  | y :: xs, sls, i, x, e, h => by
    unfold slOs at e
    cases e1 : slO ρ y with
    | none => rw [e1] at e; cases e
    | some t =>
      cases e2 : slOs ρ xs with
      | none => rw [e1, e2] at e; cases e
      | some ss =>
        rw [e1, e2] at e
        cases e
        cases i with
        | zero => cases h; exact ⟨t, rfl, e1⟩
        | succ i => exact slOs_get' (i := i) e2 h
theorem slOs_length {ρ : En} : ∀ {xs : List Ov} {sls : List Sl}, slOs ρ xs = some sls → sls.length = xs.length
  | [], _, e => by cases e; rfl
  | y :: xs, sls, e => by
    unfold slOs at e
    cases e1 : slO ρ y with
    | none => rw [e1] at e; cases e
    | some t =>
      cases e2 : slOs ρ xs with
      | none => rw [e1, e2] at e; cases e
      | some ss =>
        rw [e1, e2] at e
        cases e
        simp [slOs_length e2]
theorem OvRs.get {M : Md} {F : Addr → Prop} {H : Hp} {σ : St} : ∀ {xs : List Ov} {vs : List V} {i : Nat} {x : Ov}, OvRs M F H σ xs vs → xs[i]? = some x → ∃ v, vs[i]? = some v ∧ OvR M F H σ x v
  | [], _, _, _, _, h => by cases h
  | _ :: _, _, 0, _, ⟨v, r, e, p, q⟩, h => by cases h; subst e; exact ⟨v, rfl, p⟩
  | _ :: xs, _, i + 1, _, ⟨v, r, e, p, q⟩, h => by subst e; exact OvRs.get (i := i) q h
theorem OvRs.length {M : Md} {F : Addr → Prop} {H : Hp} {σ : St} : ∀ {xs : List Ov} {vs : List V}, OvRs M F H σ xs vs → vs.length = xs.length
  | [], _, h => by cases h; rfl
  | _ :: _, _, ⟨v, r, e, p, q⟩ => by subst e; simp [OvRs.length q]
theorem tp_mem {ρ : En} {p : Nat} (ht : isTop ρ p = true) : ∀ {xs : List Ov} {j : Nat}, xs[j]? = some (.at p) → p ∈ tpI ρ xs
  | [], _, h => by cases h
  | .val _ :: xs, 0, h => by cases h
  | .val _ :: xs, j + 1, h => tp_mem ht (xs := xs) (j := j) h
  | .at i :: xs, 0, h => by
    cases h
    unfold tpI
    rw [if_pos ht]
    exact List.mem_cons_self
  | .at i :: xs, j + 1, h => by
    unfold tpI
    have z := tp_mem ht (xs := xs) (j := j) h
    split
    · exact List.mem_cons_of_mem _ z
    · exact z
theorem tp_inj {ρ : En} {p : Nat} (ht : isTop ρ p = true) : ∀ {xs : List Ov} {i j : Nat}, ndB (tpI ρ xs) = true → xs[i]? = some (.at p) → xs[j]? = some (.at p) → i = j
  | [], _, _, _, h, _ => by cases h
  | .val _ :: xs, 0, _, _, h, _ => by cases h
  | .val _ :: xs, _ + 1, 0, _, _, h => by cases h
  | .val _ :: xs, i + 1, j + 1, nd, h, h' => congrArg Nat.succ (tp_inj ht (xs := xs) nd h h')
  | .at q :: xs, 0, 0, _, _, _ => rfl
  | .at q :: xs, 0, j + 1, nd, h, h' => by
    cases h
    unfold tpI at nd
    rw [if_pos ht] at nd
    unfold ndB at nd
    have z := tp_mem ht (xs := xs) (j := j) h'
    simp at nd
    exact absurd z nd.1
  | .at q :: xs, i + 1, 0, nd, h, h' => by
    cases h'
    unfold tpI at nd
    rw [if_pos ht] at nd
    unfold ndB at nd
    have z := tp_mem ht (xs := xs) (j := i) h
    simp at nd
    exact absurd z nd.1
  | .at q :: xs, i + 1, j + 1, nd, h, h' => by
    refine congrArg Nat.succ (tp_inj ht (xs := xs) ?_ h h')
    unfold tpI at nd
    split at nd
    · unfold ndB at nd
      simp at nd
      exact nd.2
    · exact nd
theorem look_some {j : Nat} {d : D} : ∀ {xs : List Ov} {ss : List Sl}, look xs ss j = some d → ∃ i : Nat, xs[i]? = some (Ov.at j) ∧ ss[i]? = some (Sl.ref d)
  | [], _, h => by unfold look at h; cases h
  | x :: xs, [], h => by unfold look at h; cases x <;> cases h
  | .val _ :: xs, s :: ss, h => by
    unfold look at h
    obtain ⟨i, h1, h2⟩ := look_some h
    exact ⟨i + 1, h1, h2⟩
  | .at q :: xs, .val _ :: ss, h => by
    unfold look at h
    obtain ⟨i, h1, h2⟩ := look_some h
    exact ⟨i + 1, h1, h2⟩
  | .at q :: xs, .own _ :: ss, h => by
    unfold look at h
    obtain ⟨i, h1, h2⟩ := look_some h
    exact ⟨i + 1, h1, h2⟩
  | .at q :: xs, .rd _ :: ss, h => by
    unfold look at h
    obtain ⟨i, h1, h2⟩ := look_some h
    exact ⟨i + 1, h1, h2⟩
  | .at q :: xs, .ref d' :: ss, h => by
    unfold look at h
    split at h
    · rename_i e
      cases h
      subst e
      exact ⟨0, rfl, rfl⟩
    · obtain ⟨i, h1, h2⟩ := look_some h
      exact ⟨i + 1, h1, h2⟩
theorem look_none {j : Nat} : ∀ {xs : List Ov} {ss : List Sl} {i : Nat} {d : D}, look xs ss j = none → xs[i]? = some (.at j) → ss[i]? ≠ some (.ref d)
  | [], _, _, _, _, h => by cases h
  | x :: xs, [], _, _, _, _ => by simp
  | x :: xs, s :: ss, 0, d, h, h1 => by
    cases h1
    intro h2
    cases h2
    unfold look at h
    rw [if_pos rfl] at h
    cases h
  | x :: xs, s :: ss, i + 1, d, h, h1 => by
    refine look_none (xs := xs) (ss := ss) (i := i) (d := d) ?_ h1
    cases x with
    | val _ => unfold look at h; exact h
    | «at» q =>
      cases s with
      | ref d' =>
        unfold look at h
        split at h
        · cases h
        · exact h
      | val _ => unfold look at h; exact h
      | own _ => unfold look at h; exact h
      | rd _ => unfold look at h; exact h
section
variable {M : Md} {F F' : Addr → Prop} {H H' : Hp} {σ : St} {ρ : En} {xs : List Ov} {vs : List V} {sls : List Sl}
theorem slO_top {x : Ov} {s : Sl} (e : slO ρ x = some s) (ht : s.top = true) : ∃ p t, x = .at p ∧ gt ρ p = some t ∧ t.top = true ∧ t.d = s.d ∧ ((∃ d, s = .rd d) → t = s) ∧ ((∃ d, s = .ref d) → t = .own s.d ∨ t = .ref s.d) := by
  cases x with
  | val d => cases e; cases ht
  | «at» p =>
    unfold slO at e
    cases e1 : gt ρ p with
    | none => simp only [e1] at e; cases e
    | some t =>
      refine ⟨p, t, rfl, e1, ?_⟩
      cases t with
      | val d => simp only [e1] at e; cases e; cases ht
      | own d => simp only [e1] at e; cases e; exact ⟨rfl, rfl, fun ⟨_, z⟩ => (by cases z), fun _ => .inl rfl⟩
      | ref d => simp only [e1] at e; cases e; exact ⟨rfl, rfl, fun ⟨_, z⟩ => (by cases z), fun _ => .inr rfl⟩
      | rd d => simp only [e1] at e; cases e; exact ⟨rfl, rfl, fun _ => rfl, fun ⟨_, z⟩ => (by cases z)⟩
theorem args_sr (hx : M.xn = none) (s : SR M F H σ ρ) (rs : OvRs M F H σ xs vs) (e : slOs ρ xs = some sls) (nd : ndB (tpI ρ xs) = true) : SR M F H (vs.map some) (sls.map some) ∧ sls.all noOwn = true := by
  refine ⟨⟨by simp [rs.length, slOs_length e], s.dom, fun i t h => ?_, fun i j t u a h1 h2 h3 h4 h5 h6 => ?_, .no hx s.xn.2⟩, List.all_eq_true.mpr fun t ht => ?_⟩
  · rw [gt_map] at h
    rw [gv_map]
    obtain ⟨x, h1, h2⟩ := slOs_get e h
    obtain ⟨v, h3, h4⟩ := rs.get h1
    refine ⟨v, h3, ?_⟩
    cases x with
    | val d => cases h2; exact h4
    | «at» p =>
      have h4 : gv σ p = some v := h4
      unfold slO at h2
      cases e1 : gt ρ p with
      | none => simp only [e1] at h2; cases h2
      | some t0 =>
        obtain ⟨w, hw, r⟩ := s.slot p t0 e1
        rw [h4] at hw
        cases hw
        cases t0 with
        | val d => simp only [e1] at h2; cases h2; exact r
        | own d => simp only [e1] at h2; cases h2; exact r
        | ref d => simp only [e1] at h2; cases h2; exact r
        | rd d => simp only [e1] at h2; cases h2; exact r
  · rw [gt_map] at h1 h2
    rw [gv_map] at h5 h6
    obtain ⟨x, k1, k2⟩ := slOs_get e h1
    obtain ⟨y, k3, k4⟩ := slOs_get e h2
    obtain ⟨p, t0, rfl, g1, g2, _⟩ := slO_top k2 h3
    obtain ⟨q, u0, rfl, g3, g4, _⟩ := slO_top k4 h4
    obtain ⟨v, l1, l2⟩ := rs.get k1
    obtain ⟨w, l3, l4⟩ := rs.get k3
    rw [h5] at l1
    rw [h6] at l3
    cases l1
    cases l3
    have epq := s.dist p q t0 u0 a g1 g3 g2 g4 l2 l4
    subst epq
    exact tp_inj (by unfold isTop; rw [g1]; exact g2) nd k1 k3
  · obtain ⟨i, hi⟩ := List.getElem?_of_mem ht
    obtain ⟨x, h1, h2⟩ := slOs_get e hi
    cases x with
    | val d => cases h2; rfl
    | «at» p =>
      unfold slO at h2
      cases e1 : gt ρ p with
      | none => simp only [e1] at h2; cases h2
      | some t0 => cases t0 with
        | val d => simp only [e1] at h2; cases h2; rfl
        | own d => simp only [e1] at h2; cases h2; rfl
        | ref d => simp only [e1] at h2; cases h2; rfl
        | rd d => simp only [e1] at h2; cases h2; rfl
theorem back_po (hx : M.xn = none) (s : SR M F H σ ρ) (rs : OvRs M F H σ xs vs) (e : slOs ρ xs = some sls) (nd : ndB (tpI ρ xs) = true) {outs : List Sl} (po : Po M F H (vs.map some) (sls.map some) F' H' (outs.map some)) : Po M F H σ ρ F' H' (back xs outs ρ) := by
  obtain ⟨sa, hno⟩ := args_sr hx s rs e nd
  have x : Ext F H F' H' := sa.ext po.stp
  have no : ∀ a, ¬ OwnAt (vs.map some) (sls.map some) a := fun a ⟨i, d, h1, _⟩ => by
    rw [gt_map] at h1
    exact noOwn_at hno h1
  have rf : ∀ {a}, RefAt (vs.map some) (sls.map some) a → ∃ p t, ∃ i : Nat, xs[i]? = some (Ov.at p) ∧ gt ρ p = some t ∧ (∃ d, t = .own d ∨ t = .ref d) ∧ gv σ p = some (.ref a) := fun {a} ⟨i, d, h1, h2⟩ => by
    rw [gt_map] at h1
    rw [gv_map] at h2
    obtain ⟨y, k1, k2⟩ := slOs_get e h1
    obtain ⟨p, t, rfl, g1, g2, g3, _, g5⟩ := slO_top k2 rfl
    obtain ⟨v, l1, l2⟩ := rs.get k1
    rw [h2] at l1
    cases l1
    exact ⟨p, t, i, k1, g1, ⟨_, g5 ⟨d, rfl⟩⟩, l2⟩
  have gb : ∀ j, gt (back xs outs ρ) j = bk1 xs outs j (gt ρ j) := fun j => by
    unfold gt back
    rw [List.getElem?_mapIdx]
    cases ρ[j]? with
    | none => rfl
    | some t => rfl
  have kp : Kp ρ (back xs outs ρ) := by
    refine ⟨by simp [back], fun j => ?_⟩
    rw [gb]
    cases e1 : gt ρ j with
    | none => trivial
    | some t =>
      cases t with
      | val d => exact rfl
      | rd d => exact rfl
      | own d => unfold bk1; dsimp only; split <;> trivial
      | ref d => unfold bk1; dsimp only; split <;> trivial
  have nr : ∀ j t a, gt ρ j = some t → t.top = true → gv σ j = some (.ref a) → (∀ i : Nat, xs[i]? = some (Ov.at j) → ∃ d, t = .rd d) → ¬ RefAt (vs.map some) (sls.map some) a := fun j t a h1 h2 h3 h4 z => by
    obtain ⟨p, t', i, k1, k2, ⟨d, k3⟩, k4⟩ := rf z
    have top' : t'.top = true := by rcases k3 with rfl | rfl <;> rfl
    have ep := s.dist p j t' t a k2 h1 top' h2 k4 h3
    subst ep
    rw [h1] at k2
    cases k2
    obtain ⟨d', z⟩ := h4 i k1
    rcases k3 with k3 | k3 <;> (rw [z] at k3; cases k3)
  have kept : ∀ j t a u, gt ρ j = some t → t.top = true → gv σ j = some (.ref a) → H a = some u → (∀ i : Nat, xs[i]? = some (Ov.at j) → ∃ d, t = .rd d) → H' a = some u ∧ ¬ F' a := fun j t a u h1 h2 h3 h4 h5 => by
    refine ⟨(po.stp.keep a u h4 (no a) (nr j t a h1 h2 h3 h5)).no (fun f => by obtain ⟨b, w, e, nf, _⟩ := s.top_at h1 h2; rw [h3] at e; cases e; exact nf f), fun z => ?_⟩
    rcases po.stp.new a z with y | y | y
    · obtain ⟨b, w, e2, nf, _⟩ := s.top_at h1 h2
      rw [h3] at e2
      cases e2
      exact nf y
    · rw [h4] at y; cases y
    · exact no a y
  refine ⟨⟨x.fro, fun a o h1 h2 h3 => po.stp.keep a o h1 (no a) fun z => ?_, po.stp.dom, fun a h => ?_, fun a h => .inl (kp.own h), fun a h => kp.ref h⟩, ⟨by simp [back, s.len], po.sr.dom, fun j t h => ?_, fun i j t u a h1 h2 h3 h4 h5 h6 => ?_, .no hx po.sr.xn.2⟩, kp⟩
  · obtain ⟨p, t, i, k1, k2, ⟨d, k3⟩, k4⟩ := rf z
    rcases k3 with rfl | rfl
    · exact h2 ⟨p, d, k2, k4⟩
    · exact h3 ⟨p, d, k2, k4⟩
  · rcases po.stp.new a h with z | z | z
    · exact .inl z
    · exact .inr (.inl z)
    · exact absurd z (no a)
  · rw [gb] at h
    cases e1 : gt ρ j with
    | none => rw [e1] at h; cases h
    | some t0 =>
      rw [e1] at h
      obtain ⟨v, hv, r⟩ := s.slot j t0 e1
      refine ⟨v, hv, ?_⟩
      have chg : ∀ d', look xs outs j = some d' → ∃ a, v = .ref a ∧ ¬ F' a ∧ Cont M F' H' (fun u => H' a = some u) d' := fun d' el => by
        obtain ⟨i, k1, k2⟩ := look_some el
        obtain ⟨w, l1, l2⟩ := rs.get k1
        have l2 : gv σ j = some w := l2
        rw [hv] at l2
        cases l2
        obtain ⟨w2, m1, a, m2, m3, m4⟩ := po.sr.slot i (.ref d') (by rw [gt_map]; exact k2)
        rw [gv_map, l1] at m1
        cases m1
        exact ⟨a, m2, m3, m4⟩
      have unp : look xs outs j = none → (∃ d, t0 = .own d ∨ t0 = .ref d) → ∀ i : Nat, xs[i]? = some (Ov.at j) → ∃ d, t0 = .rd d := fun el ⟨d, ho⟩ i hi => by
        exfalso
        obtain ⟨sl, k1, k2⟩ := slOs_get' e hi
        have es : sl = .ref d := by
          unfold slO at k2
          rcases ho with rfl | rfl
          · simp only [e1] at k2; cases k2; rfl
          · simp only [e1] at k2; cases k2; rfl
        subst es
        have z := po.kp.2 i
        rw [gt_map, gt_map, k1] at z
        cases e3 : outs[i]? with
        | none => rw [e3] at z; exact z
        | some o =>
          rw [e3] at z
          cases o with
          | ref d' => exact look_none el hi e3
          | val _ => exact z
          | own _ => exact z
          | rd _ => exact z
      cases t0 with
      | val d => cases h; exact Rep.mono x d r
      | rd d =>
        cases h
        obtain ⟨a, rfl, nf, c⟩ := r
        obtain ⟨b, u, e2, _, hu⟩ := s.top_at e1 rfl
        rw [hv] at e2
        cases e2
        obtain ⟨k1, k2⟩ := kept j _ a u e1 rfl hv hu fun _ _ => ⟨d, rfl⟩
        refine ⟨a, rfl, k2, c.mono x fun w hw => ?_⟩
        rcases hw with hw | ⟨o, hw, z⟩
        · rw [hu] at hw; cases hw; exact .inl k1
        · rw [hu] at hw; cases hw; exact .inr ⟨o, k1, z⟩
      | own d =>
        unfold bk1 at h
        dsimp only at h
        split at h
        · rename_i d' el
          cases h
          exact chg d' el
        · rename_i el
          cases h
          obtain ⟨a, rfl, nf, c⟩ := r
          obtain ⟨u, hu, _⟩ := c.some_of
          obtain ⟨k1, k2⟩ := kept j _ a u e1 rfl hv hu (unp el ⟨d, .inl rfl⟩)
          exact ⟨a, rfl, k2, c.mono x fun w (hw : H a = some w) => by
            have hu : H a = some u := hu
            rw [hu] at hw; cases hw; exact k1⟩
      | ref d =>
        unfold bk1 at h
        dsimp only at h
        split at h
        · rename_i d' el
          cases h
          exact chg d' el
        · rename_i el
          cases h
          obtain ⟨a, rfl, nf, c⟩ := r
          obtain ⟨u, hu, _⟩ := c.some_of
          obtain ⟨k1, k2⟩ := kept j _ a u e1 rfl hv hu (unp el ⟨d, .inr rfl⟩)
          exact ⟨a, rfl, k2, c.mono x fun w (hw : H a = some w) => by
            have hu : H a = some u := hu
            rw [hu] at hw; cases hw; exact k1⟩
  · obtain ⟨t', k1, k2⟩ := kp.top_of h1 h3
    obtain ⟨u', k3, k4⟩ := kp.top_of h2 h4
    exact s.dist i j t' u' a k1 k3 k2 k4 h5 h6
theorem OvRs.append {xs ys : List Ov} {vs ws : List V} : ∀ {xs : List Ov} {vs : List V}, OvRs M F H σ xs vs → OvRs M F H σ ys ws → OvRs M F H σ (xs ++ ys) (vs ++ ws)
  | [], _, h, q => by cases h; exact q
  | _ :: _, _, ⟨v, r, e, p, q⟩, h => by subst e; exact ⟨v, r ++ ws, rfl, p, OvRs.append (xs := xs) (vs := vs) q h⟩
end
def ConstD (M : Md) : List D → List V → Prop
  | [], vs => vs = []
  | d :: ds, vs => ∃ v r, vs = v :: r ∧ (∀ F H, Rep M F H d v) ∧ ConstD M ds r
theorem ConstD.ov {M : Md} {F : Addr → Prop} {H : Hp} {σ : St} : ∀ {ds : List D} {vs : List V}, ConstD M ds vs → OvRs M F H σ (ds.map .val) vs
  | [], _, h => h
  | _ :: _, _, ⟨v, r, e, p, q⟩ => ⟨v, r, e, p F H, ConstD.ov q⟩
section
variable {M : Md} {cs : Cs} {W : WX} {k : Nat} {X : Cx}
theorem callF_run (hx : M.xn = none) {np : Nat} {φ : FSem} {os : List Opd} {dd : List D} {dvs : List V} {σ : St} {H : Hp} {Q : VK} (cd : ConstD M dd dvs) (hn : os.length + dd.length = np) (h : tE M W (callF φ os dd) σ H Q) :
    tOs M W os σ H fun vs H1 => spF M np φ (vs ++ dvs) H1 Q fun cls d H' => W cls d σ H' := by
  obtain ⟨F, ρ, s, h⟩ := h
  refine ops_run _ s ?_
  cases ev : evs os ρ with
  | bad => simp only [callF, ev] at h; exact h
  | exc x ρ' => simp only [callF, ev] at h; exact h
  | ok xs ρ1 =>
    simp only [callF, ev, Out.bind] at h
    intro F1 H1 po vs rs
    cases e1 : slOs ρ1 (xs ++ dd.map .val) with
    | none => simp only [e1] at h; exact h.elim
    | some sls =>
      simp only [e1] at h
      by_cases nd : ndB (tpI ρ1 (xs ++ dd.map .val)) = true
      · rw [if_pos nd] at h
        have rs' : OvRs M F1 H1 σ (xs ++ dd.map .val) (vs ++ dvs) := OvRs.append (xs := xs) (vs := vs) rs cd.ov
        obtain ⟨sa, hno⟩ := args_sr hx po.sr rs' e1 nd
        have hlen : (vs ++ dvs).length = np := by
          rw [rs'.length, List.length_append, List.length_map, evs_length ev]
          exact hn
        refine ⟨hlen, F1, sls, sa, hno, ?_⟩
        cases ef : φ sls with
        | bad => simp only [ef] at h; exact h
        | ok r outs =>
          simp only [ef] at h
          intro F2 H2 v po2 rv
          exact h F2 H2 (po.trans (back_po hx po.sr rs' e1 nd po2)) v (rv.from fun a z => po.stp.dom a z)
        | exc x outs =>
          simp only [ef] at h
          intro F2 H2 cls d po2 xr
          exact h F2 H2 cls d (po.trans (back_po hx po.sr rs' e1 nd po2)) xr
      · rw [if_neg nd] at h
        exact h.elim
theorem run_fnW {CX' : CXT} {f : Addr} {fd : FuncData} {ps : List Str} {sp : Sp} {ds : List Value} {pins : List (Addr × Obj)} {σ : St} {H : Hp} {s : Shared} {Q : VK} {us : List Value} {vs dvs : List V} (F : FnOk X.prog X.w X.K X.mg X.base (L2N.CX X.prog X.w) k f fd ps sp) (hr : Room k X.A) (hb : Binds X.K fd ps ds) (hd : Vals dvs ds) (tk : L2N.Takes X W)
    (I : Inv X pins σ H s) (r : Vals vs us) (h : sp (vs ++ dvs) H Q fun cls d H' => W cls d σ H') : wpAny (model X.prog X.w) X.A (call (.ref f) us) (EP X pins σ Q) X.xe s := by
  have r2 : Vals (vs ++ dvs) (us ++ ds) := r.append hd
  have hl : (us ++ ds).length = ps.length := by rw [← r2.length]; exact F.len _ _ _ _ h
  refine wpAny_call (codeAny_mono (F.run X.A X.stack s H ⟨us, []⟩ (us ++ ds) (vs ++ dvs) Q _ hr I.env0 (hb s us I.kIn hl) r2 h) fun r s' hq => ?_)
  cases r with
  | error e => exact tk e s' (L2N.XE.of_call I (fun cls d H' h => h) hq)
  | ok fl =>
    cases fl with
    | ret u => exact I.after hq
    | next => exact False.elim hq
    | brk => exact False.elim hq
    | cont => exact False.elim hq
theorem e_call (g : G M cs W k X) {j np : Nat} {x : Str} {φ : FSem} {p pos : Pos} {e : Expr} {es : List Expr} {os : List Opd} (fv : FnV M j x np φ) (hj : j ≤ k) (hg : cs.sc.names.lookup x = some .globalImplicit) (ha : PA X (e :: es) (tOs M W os)) (hn : os.length = np) (hdb : (x == ("__debug__" : Str)) = false)
    (he : starEach (e :: es) X.env = (false, eval e X.env) :: starEach es X.env) (hpl : (backTo pos (starEach es X.env)).any (·.1) = false) : PE X (.Call (.Name x p) (e :: es) [] pos) (tE M W (callF φ os [])) := by
  obtain ⟨f, fd, ps, F, hm, hk, hps, hb⟩ := fv.ex
  rw [← g.hP, ← g.hw, ← g.hb, ← g.hK, ← g.hmg] at F
  rw [← g.hmg] at hm
  rw [← g.hK] at hk hb
  refine ⟨fun pins s σ H Q I h => ?_⟩
  refine wpAny_Call_Name_kw (ld_glob I (g.gl hg) hm ?_ hdb)
  refine PySem.W.callWith_K (h₀ := X.base) I.ok.mod.kin hk (thn (ha.run pos pins s σ H _ I (callF_run g.nx (np := np) (dd := []) (dvs := []) rfl (by simpa using hn) h)) fun us s1 ⟨vs, H1, I1, r, q⟩ => ⟨I1.kIn, ?_⟩) he hpl
  exact run_fnW (CX' := L2N.CX X.prog X.w) (F.mono hj) g.room hb .nil g.tk I1 r q
end
end VF
namespace VF
open PySem PySem.Spec PyProof.Rows L2
def D.tyName : D → Option String
  | .non => some "NoneType"
  | .bl _ => some "bool"
  | .int _ => some "int"
  | .str _ => some "str"
  | .tup _ => some "tuple"
  | .lst _ => some "list"
  | .dck _ _ => some "dict"
  | .dct _ _ => none
  | .ins _ _ _ => none
  | .exn _ _ _ _ _ => none
  | .tpp _ => some "tuple"
def isB (T : String) (d : D) : Option Bool := match d.tyName with
  | some t => kitB t T
  | none => none
def fIsi (T : String) : List D → Option Rv
  | [d] => (isB T d).map fun b => .val (.bl b)
  | _ => none
section
variable {M : Md} {cs : Cs} {W : WX} {k : Nat} {X : Cx}
theorem od_ty {F : Addr → Prop} {H : Hp} {d : D} {v : V} {t : String} (h : OdR M F H d v) (e : d.tyName = some t) (hK : X.K = M.K) : TyX X.K H v (.type t) := by
  cases d with
  | non => cases h.non; cases e; exact .base .non
  | bl b => cases h.bl; cases e; exact .base (.bl b)
  | int b => cases h.int; cases e; exact .base (.int b)
  | str b => cases h.str; cases e; exact .base (.str b)
  | tup ds =>
    obtain ⟨a, vs, rfl, q, _⟩ := h.tup
    cases e
    rcases q with (q | ⟨o, q⟩) | ⟨o, its, n, q1, q2, _⟩
    · exact .base (.tup q)
    · exact .fTuple q
    · exact .kTuple (by rw [hK]; exact q1) q2
  | lst ds =>
    obtain ⟨a, vs, rfl, q, _⟩ := h.lst
    cases e
    rcases q with (q | ⟨o, q⟩) | ⟨o, its, n, q1, q2, _⟩
    · exact .base (.lst q)
    · exact .base (.frz q)
    · exact .kList (by rw [hK]; exact q1) q2
  | dck ks ds =>
    obtain ⟨a, vs, rfl, q, _, _⟩ := h.dck
    cases e
    rcases q with q | ⟨o, q⟩
    · exact .base (.dK q)
    · exact .fDict q
  | dct ks ds => cases e
  | ins c fs ds => cases e
  | exn c fs ds a dx => cases e
  | tpp ds =>
    obtain ⟨a, vs, o, rfl, _, q, _⟩ := h.tpp
    cases e
    exact .fTuple q
def mkD (_ : List D) : Rv := .own (.dck [] [])
end
end VF
namespace VF
open PySem PySem.Spec PyProof.Rows L2
theorem RepL_ints {M : Md} {F : Addr → Prop} {H : Hp} : ∀ ns : List Int, RepL M F H (ns.map D.int) (ns.map V.int)
  | [] => .nil
  | n :: ns => .cons (by unfold Rep; rfl) (RepL_ints ns)
theorem script_sp {M : Md} (hx : M.xn = none) (hT : M.T = []) {φ : FSem} {H : Hp} {a : Addr} {ns : List Int} (hO : Only H) (hS : SqL M.K H a (ns.map V.int)) {outs : List Sl} (e : φ [.val (.lst (ns.map .int))] = .ok (.val (.bl true)) outs) : spF M 1 φ [.ref a] H (fun v _ => v = .bl true) fun _ _ _ => False := by
  refine ⟨rfl, fun b => H b ≠ none, [.val (.lst (ns.map .int))], ⟨rfl, fun b h => h, fun i t h => ?_, fun i j t u b h1 h2 h3 => ?_, .no hx fun p hp => (by rw [hT] at hp; cases hp)⟩, rfl, ?_⟩
  · cases i with
    | zero =>
      cases h
      refine ⟨.ref a, rfl, ?_⟩
      show Rep M _ H (.lst (ns.map .int)) (.ref a)
      unfold Rep
      refine ⟨a, ns.map V.int, rfl, ?_, RepL_ints ns⟩
      rcases hS with hS | hS
      · refine .inl ⟨fun z => ?_, hS⟩
        rcases hS with hS | ⟨o, hS⟩ <;> (rw [z] at hS; cases hS)
      · exact .inr hS
    | succ i => cases h
  · cases i with
    | zero => cases h1; cases h3
    | succ i => cases h1
  · rw [e]
    intro F' H' v po rv
    have rv : Rep M F' H' (.bl true) v := rv
    unfold Rep at rv
    exact rv
theorem walk_ofV {l : PySem.W.OpenLaw} {n k : Nat} {q : Program} {loose : List Str} {XP : (Str → Option Value) → Heap → Prop} {YP : World → Heap → Prop} {d : DefRec} {x : Str} {φ : FSem}
    (hn : l.most = some n) (hn2 : n ≤ sizeLine) (hdf : d.params.defaults = []) (hr : Room k callerA)
    (F : ∀ (w : World) (mg : Str → Option Value) (fa : Addr) (h : Heap), YP w h → h.Ns mainGlobals mg → mg d.name = some (.ref fa) →
      ∃ (K : PySem.W.Frag) (fd : FuncData) (cls : List Str), K.In h ∧ (∀ (s : Shared) (u : Value), BindsTo s fd ⟨[u], []⟩ [(x, u)]) ∧
        ∀ base : Heap, K.In base → base.Ns mainGlobals mg → FnOk l.prog w K mg base (L2N.CX l.prog w) k fa fd [x] (spF ⟨l.prog, w, base, K, mg, cls, none, []⟩ 1 φ))
    (hφ : ∀ ns : List Int, ns.length ≤ n → (∀ z ∈ ns, Builtin.Int.intBits z ≤ 1048576) → ∃ outs, φ [.val (.lst (ns.map .int))] = .ok (.val (.bl true)) outs) :
    PySem.W.WalkO q loose XP YP l.row.toRowW d [] (fun f vs => PySem.call f vs) := by
  refine Att.attach_callB hn hdf fun w s₀ s₁ mg mb fa o pm cd doc a vs ns G Y ho hd hcd hmg hobj hints hlen hbits hg => ?_
  obtain ⟨K, fd, cls, KX, hb, hF⟩ := F w mg fa _ Y G.T.g hmg
  refine law_call (sp := fun vs H Q E => ∀ base : Heap, spF ⟨l.prog, w, base, K, mg, cls, none, []⟩ 1 φ vs H Q E) KX G.T.g G.T.b G.T.builtins G.T.nolimit hg hobj hints (Nat.le_trans hlen hn2) hr (fun base h1 h2 => (hF base h1 h2).imp fun vs H Q E h => h base) hb (fun H hO hS base => ?_) fun H e s' z => ?_
  · obtain ⟨outs, e⟩ := hφ ns hlen hbits
    exact script_sp rfl rfl hO hS e
  · obtain ⟨_, _, _, _, _, _, _, _, _, _, _, _, z⟩ := z
    exact z
end VF
namespace VF
open PySem PySem.Spec PyProof.Rows L2
@[simp] theorem gt_zero {t : Option Sl} {ρ : En} : gt (t :: ρ) 0 = t := by cases t <;> rfl
@[simp] theorem gt_succ {t : Option Sl} {ρ : En} {i : Nat} : gt (t :: ρ) (i + 1) = gt ρ i := by simp [gt]
@[simp] theorem gt_nil {i : Nat} : gt [] i = none := rfl
@[simp] theorem bind_ok {α β : Type} {a : α} {ρ : En} {f : α → En → Out β} : (Out.ok a ρ).bind f = f a ρ := rfl
@[simp] theorem bind_exc {α β : Type} {x : Ex} {ρ : En} {f : α → En → Out β} : (Out.exc x ρ : Out α).bind f = .exc x ρ := rfl
@[simp] theorem bind_bad {α β : Type} {f : α → En → Out β} : (Out.bad : Out α).bind f = .bad := rfl
@[simp] theorem bindS_ok {α : Type} {a : α} {ρ : En} {f : α → En → SO} : (Out.ok a ρ).bindS f = f a ρ := rfl
@[simp] theorem bindS_exc {α : Type} {x : Ex} {ρ : En} {f : α → En → SO} : (Out.exc x ρ : Out α).bindS f = .exc x ρ := rfl
@[simp] theorem bindS_bad {α : Type} {f : α → En → SO} : (Out.bad : Out α).bindS f = .bad := rfl
@[simp] theorem cst_eq {d : D} {ρ : En} : cst d ρ = .ok (.val d) ρ := rfl
@[simp] theorem nm_eq {i : Nat} {ρ : En} : nm i ρ = (match gt ρ i with
  | some (.val d) => .ok (.val d) ρ
  | some (.own d) => .ok (.val d) (ρ.set i (some (.val d)))
  | _ => .bad) := rfl
@[simp] theorem ev_ex {φ : ES} {ρ : En} : (Opd.ex φ).ev ρ = (φ ρ).bind fun r ρ' => .ok (.val r.d) ρ' := rfl
@[simp] theorem ev_sl {i : Nat} {ρ : En} : (Opd.sl i).ev ρ = (match gt ρ i with | some _ => .ok (.at i) ρ | none => .bad) := rfl
@[simp] theorem evs_nil {ρ : En} : evs [] ρ = .ok [] ρ := rfl
@[simp] theorem evs_cons {o : Opd} {os : List Opd} {ρ : En} : evs (o :: os) ρ = (o.ev ρ).bind fun x ρ1 => (evs os ρ1).bind fun xs ρ2 => .ok (x :: xs) ρ2 := rfl
@[simp] theorem dat_val {d : D} {ρ : En} : (Ov.val d).dat ρ = some d := rfl
@[simp] theorem dat_at {i : Nat} {ρ : En} : (Ov.at i).dat ρ = (gt ρ i).map Sl.d := rfl
@[simp] theorem dats_nil {ρ : En} : dats ρ [] = some [] := rfl
@[simp] theorem dats_cons {x : Ov} {xs : List Ov} {ρ : En} : dats ρ (x :: xs) = (match x.dat ρ, dats ρ xs with
    | some d, some ds => some (d :: ds)
    | _, _ => none) := rfl
@[simp] theorem d_val {d : D} : (Sl.val d).d = d := rfl
@[simp] theorem d_own {d : D} : (Sl.own d).d = d := rfl
@[simp] theorem d_ref {d : D} : (Sl.ref d).d = d := rfl
@[simp] theorem d_rd {d : D} : (Sl.rd d).d = d := rfl
@[simp] theorem rd_val {d : D} : (Rv.val d).d = d := rfl
@[simp] theorem rd_own {d : D} : (Rv.own d).d = d := rfl
@[simp] theorem app_eq {f : List D → Option Rv} {os : List Opd} {ρ : En} : app f os ρ = (evs os ρ).bind fun xs ρ' => match dats ρ' xs with
  | some ds => (match f ds with
    | some r => .ok r ρ'
    | none => .bad)
  | none => .bad := rfl
@[simp] theorem tst_eq {φ : ES} {ρ : En} : tst φ ρ = (φ ρ).bind fun r ρ' => match r with
  | .val (.bl b) => .ok b ρ'
  | _ => .bad := rfl
@[simp] theorem tru_eq {o : Opd} {ρ : En} : tru o ρ = (o.ev ρ).bind fun x ρ' => match x.dat ρ' with
  | some d => (match d.truth with
    | some k => .ok k ρ'
    | none => .bad)
  | none => .bad := rfl
@[simp] theorem bnot_eq {t : BS} {ρ : En} : bnot t ρ = (t ρ).bind fun b ρ' => .ok (!b) ρ' := rfl
@[simp] theorem band_eq {t u : BS} {ρ : En} : band t u ρ = (t ρ).bind fun b ρ' => if b then u ρ' else .ok false ρ' := rfl
@[simp] theorem bor_eq {t u : BS} {ρ : En} : bor t u ρ = (t ρ).bind fun b ρ' => if b then .ok true ρ' else u ρ' := rfl
@[simp] theorem iff_eq {t : BS} {a b : ES} {ρ : En} : iff t a b ρ = (t ρ).bind fun c ρ' => if c then a ρ' else b ρ' := rfl
@[simp] theorem andE_eq {a b : ES} {ρ : En} : andE a b ρ = (a ρ).bind fun r ρ' => match r.d.truth with
  | some true => b ρ'
  | some false => .ok r ρ'
  | none => .bad := rfl
@[simp] theorem orE_eq {a b : ES} {ρ : En} : orE a b ρ = (a ρ).bind fun r ρ' => match r.d.truth with
  | some false => b ρ'
  | some true => .ok r ρ'
  | none => .bad := rfl
@[simp] theorem notE_eq {o : Opd} {ρ : En} : notE o ρ = (tru o ρ).bind fun b ρ' => .ok (.val (.bl (!b))) ρ' := rfl
@[simp] theorem truth_non : D.non.truth = some false := rfl
@[simp] theorem truth_bl {b : Bool} : (D.bl b).truth = some b := rfl
@[simp] theorem truth_int {i : Int} : (D.int i).truth = some (i != 0) := rfl
@[simp] theorem truth_lst {ds : List D} : (D.lst ds).truth = some (!ds.isEmpty) := rfl
@[simp] theorem truth_tup {ds : List D} : (D.tup ds).truth = some (!ds.isEmpty) := rfl
@[simp] theorem chn_eq {f g : List D → Option Rv} {a b c : Opd} {ρ : En} : chn f g a b c ρ = (a.ev ρ).bind fun x ρ0 => (b.ev ρ0).bind fun y ρ1 => match x.dat ρ1, y.dat ρ1 with
  | some d, some e => (match f [d, e] with
    | some (.val (.bl true)) => (c.ev ρ1).bind fun z ρ2 => (match y.dat ρ2, z.dat ρ2 with
      | some e', some k => (match g [e', k] with
        | some r => .ok r ρ2
        | none => .bad)
      | _, _ => .bad)
    | some (.val (.bl false)) => .ok (.val (.bl false)) ρ1
    | _ => .bad)
  | _, _ => .bad := rfl
@[simp] theorem evI_none {ρ : En} : evI none ρ = .ok none ρ := rfl
@[simp] theorem evI_some {o : Opd} {ρ : En} : evI (some o) ρ = (o.ev ρ).bind fun x ρ' => match x.dat ρ' with
    | some (.int i) => .ok (some i) ρ'
    | _ => .bad := rfl
@[simp] theorem slc_eq {o : Opd} {lo hi : Option Opd} {ρ : En} : slc o lo hi ρ = (o.ev ρ).bind fun x ρ1 => (evI lo ρ1).bind fun l ρ2 => (evI hi ρ2).bind fun u ρ3 => match x.dat ρ3 with
  | some d => (match fSl d l u with
    | some r => .ok r ρ3
    | none => .bad)
  | none => .bad := rfl
@[simp] theorem vals_nil : vals [] = some [] := rfl
@[simp] theorem vals_cons {d : D} {xs : List Ov} : vals (.val d :: xs) = (vals xs).map (d :: ·) := rfl
@[simp] theorem disp_eq {mk : List D → Rv} {φs : List ES} {ρ : En} : disp mk φs ρ = (evs (φs.map .ex) ρ).bind fun xs ρ' => match vals xs with
  | some ds => .ok (mk ds) ρ'
  | none => .bad := rfl
@[simp] theorem mkT_eq {ds : List D} : mkT ds = .val (.tup ds) := rfl
@[simp] theorem mkL_eq {ds : List D} : mkL ds = .own (.lst ds) := rfl
@[simp] theorem mkD_eq {ds : List D} : mkD ds = .own (.dck [] []) := rfl
@[simp] theorem skip_eq {ρ : En} : skip ρ = .nx ρ := rfl
@[simp] theorem seq_eq {a b : SS} {ρ : En} : seq a b ρ = (match a ρ with
  | .nx ρ' => b ρ'
  | o => o) := rfl
@[simp] theorem ifS_eq {t : BS} {a b : SS} {ρ : En} : ifS t a b ρ = (t ρ).bindS fun c ρ' => if c then a ρ' else b ρ' := rfl
@[simp] theorem retE_eq {φ : ES} {ρ : En} : retE φ ρ = (φ ρ).bindS fun r ρ' => .rt r ρ' := rfl
@[simp] theorem retI_eq {i : Nat} {ρ : En} : retI i ρ = (match gt ρ i with
  | some (.own d) => .rt (.own d) (ρ.set i none)
  | some (.val d) => .rt (.val d) ρ
  | _ => .bad) := rfl
@[simp] theorem dropE_eq {φ : ES} {ρ : En} : dropE φ ρ = (φ ρ).bindS fun _ ρ' => .nx ρ' := rfl
@[simp] theorem setI_eq {i : Nat} {φ : ES} {ρ : En} : setI i φ ρ = (φ ρ).bindS fun r ρ' => if noRef (gt ρ' i) = true ∧ i < ρ'.length then (match r with
  | .val d => .nx (ρ'.set i (some (.val d)))
  | .own d => .nx (ρ'.set i (some (.own d)))) else .bad := rfl
@[simp] theorem putS_eq {tg : Tg} {φ : ES} {ρ : En} : putS tg φ ρ = (φ ρ).bindS fun r ρ' => match put tg r.d ρ' with
  | some ρ2 => .nx ρ2
  | none => .bad := rfl
@[simp] theorem noRef_none : noRef none = true := rfl
@[simp] theorem noRef_val {d : D} : noRef (some (.val d)) = true := rfl
@[simp] theorem noRef_own {d : D} : noRef (some (.own d)) = true := rfl
@[simp] theorem put_nm {i : Nat} {d : D} {ρ : En} : put (.nm i) d ρ = if noRef (gt ρ i) = true ∧ i < ρ.length then some (ρ.set i (some (.val d))) else none := by unfold put; rfl
@[simp] theorem put_tup {ts : List Tg} {ds : List D} {ρ : En} : put (.tup ts) (.tup ds) ρ = puts ts ds ρ := by unfold put; rfl
@[simp] theorem puts_nil {ρ : En} : puts [] [] ρ = some ρ := by unfold puts; rfl
@[simp] theorem puts_cons {t : Tg} {ts : List Tg} {d : D} {ds : List D} {ρ : En} : puts (t :: ts) (d :: ds) ρ = (match put t d ρ with
      | some ρ' => puts ts ds ρ'
      | none => none) := by
  rw [puts]
  all_goals (cases put t d ρ <;> rfl)
@[simp] theorem storeI_eq {i : Nat} {ix : Opd} {φ : ES} {ρ : En} : storeI i ix φ ρ = (φ ρ).bindS fun r ρ1 => ((Opd.sl i).ev ρ1).bindS fun _ ρ1 => (ix.ev ρ1).bindS fun y ρ2 => match y.dat ρ2 with
  | some k => (match mutS i (stD r.d k) ρ2 with
    | some (_, ρ3) => .nx ρ3
    | none => .bad)
  | none => .bad := rfl
@[simp] theorem stD_eq {v : D} {j : Int} {ds : List D} : stD v (.int j) (.lst ds) = (ixN ds.length j).map fun n => ((), .lst (ds.set n v)) := rfl
@[simp] theorem mutS_eq {α : Type} {i : Nat} {f : D → Option (α × D)} {ρ : En} : mutS i f ρ = (match gt ρ i with
  | some (.own d) => (match f d with
    | some (a, d') => some (a, ρ.set i (some (.own d')))
    | none => none)
  | some (.ref d) => (match f d with
    | some (a, d') => some (a, ρ.set i (some (.ref d')))
    | none => none)
  | _ => none) := rfl
@[simp] theorem slO_val {d : D} {ρ : En} : slO ρ (.val d) = some (.val d) := rfl
@[simp] theorem slO_at {i : Nat} {ρ : En} : slO ρ (.at i) = (match gt ρ i with
    | some (.own d) => some (.ref d)
    | t => t) := rfl
@[simp] theorem slOs_nil {ρ : En} : slOs ρ [] = some [] := rfl
@[simp] theorem slOs_cons {ρ : En} {x : Ov} {xs : List Ov} : slOs ρ (x :: xs) = (match slO ρ x, slOs ρ xs with
    | some s, some ss => some (s :: ss)
    | _, _ => none) := rfl
@[simp] theorem isTop_eq {ρ : En} {i : Nat} : isTop ρ i = (match gt ρ i with | some t => t.top | none => false) := rfl
@[simp] theorem top_val {d : D} : (Sl.val d).top = false := rfl
@[simp] theorem top_own {d : D} : (Sl.own d).top = true := rfl
@[simp] theorem top_ref {d : D} : (Sl.ref d).top = true := rfl
@[simp] theorem top_rd {d : D} : (Sl.rd d).top = true := rfl
@[simp] theorem tpI_nil {ρ : En} : tpI ρ [] = [] := rfl
@[simp] theorem tpI_val {ρ : En} {d : D} {xs : List Ov} : tpI ρ (.val d :: xs) = tpI ρ xs := rfl
@[simp] theorem tpI_at {ρ : En} {i : Nat} {xs : List Ov} : tpI ρ (.at i :: xs) = if isTop ρ i then i :: tpI ρ xs else tpI ρ xs := rfl
@[simp] theorem ndB_nil : ndB [] = true := rfl
@[simp] theorem ndB_cons {i : Nat} {r : List Nat} : ndB (i :: r) = (!r.contains i && ndB r) := rfl
@[simp] theorem look_nil {ss : List Sl} {j : Nat} : look [] ss j = none := rfl
@[simp] theorem look_at_ref {i j : Nat} {d : D} {xs : List Ov} {ss : List Sl} : look (.at i :: xs) (.ref d :: ss) j = if i = j then some d else look xs ss j := rfl
@[simp] theorem look_val {j : Nat} {d : D} {xs : List Ov} {s : Sl} {ss : List Sl} : look (.val d :: xs) (s :: ss) j = look xs ss j := rfl
@[simp] theorem look_at_val {i j : Nat} {d : D} {xs : List Ov} {ss : List Sl} : look (.at i :: xs) (.val d :: ss) j = look xs ss j := rfl
@[simp] theorem look_at_rd {i j : Nat} {d : D} {xs : List Ov} {ss : List Sl} : look (.at i :: xs) (.rd d :: ss) j = look xs ss j := rfl
@[simp] theorem bk1_none {xs : List Ov} {outs : List Sl} {j : Nat} : bk1 xs outs j none = none := rfl
@[simp] theorem bk1_val {xs : List Ov} {outs : List Sl} {j : Nat} {d : D} : bk1 xs outs j (some (.val d)) = some (.val d) := rfl
@[simp] theorem bk1_rd {xs : List Ov} {outs : List Sl} {j : Nat} {d : D} : bk1 xs outs j (some (.rd d)) = some (.rd d) := rfl
@[simp] theorem bk1_own {xs : List Ov} {outs : List Sl} {j : Nat} {d : D} : bk1 xs outs j (some (.own d)) = (match look xs outs j with
    | some d' => some (.own d')
    | none => some (.own d)) := rfl
@[simp] theorem bk1_ref {xs : List Ov} {outs : List Sl} {j : Nat} {d : D} : bk1 xs outs j (some (.ref d)) = (match look xs outs j with
    | some d' => some (.ref d')
    | none => some (.ref d)) := rfl
theorem look_no {j : Nat} {outs : List Sl} (h : ∀ d, Sl.ref d ∉ outs) : ∀ {xs : List Ov}, look xs outs j = none := by
  intro xs
  cases e : look xs outs j with
  | none => rfl
  | some d =>
    obtain ⟨i, _, h2⟩ := look_some e
    exact absurd (List.mem_of_getElem? h2) (h d)
@[simp] theorem back_vals {ds : List D} {xs : List Ov} {ρ : En} : back xs (ds.map .val) ρ = ρ := by
  unfold back
  have h : ∀ j t, bk1 xs (ds.map Sl.val) j t = t := fun j t => by
    have hl : look xs (ds.map Sl.val) j = none := look_no fun d hd => by simp at hd
    cases t with
    | none => rfl
    | some t => cases t with
      | val d => rfl
      | rd d => rfl
      | own d => simp [hl]
      | ref d => simp [hl]
  apply List.ext_getElem?
  intro i
  rw [List.getElem?_mapIdx]
  cases ρ[i]? with
  | none => rfl
  | some t => simp [h]
@[simp] theorem callF_eq {φ : FSem} {os : List Opd} {dd : List D} {ρ : En} : callF φ os dd ρ = (evs os ρ).bind fun xs0 ρ1 => match slOs ρ1 (xs0 ++ dd.map .val) with
  | some sls => if ndB (tpI ρ1 (xs0 ++ dd.map .val)) = true then (match φ sls with
    | .ok r outs => .ok r (back (xs0 ++ dd.map .val) outs ρ1)
    | .exc x outs => .exc x (back (xs0 ++ dd.map .val) outs ρ1)
    | .bad => .bad) else .bad
  | none => .bad := rfl
@[simp] theorem fAdd_int {i j : Int} : fAdd [.int i, .int j] = some (.val (.int (i + j))) := rfl
@[simp] theorem fSub_int {i j : Int} : fSub [.int i, .int j] = some (.val (.int (i - j))) := rfl
@[simp] theorem fLt_int {i j : Int} : fLt [.int i, .int j] = some (.val (.bl (decide (i < j)))) := rfl
@[simp] theorem fLe_int {i j : Int} : fLe [.int i, .int j] = some (.val (.bl (decide (i ≤ j)))) := rfl
@[simp] theorem fGt_int {i j : Int} : fGt [.int i, .int j] = some (.val (.bl (decide (j < i)))) := rfl
@[simp] theorem fGe_int {i j : Int} : fGe [.int i, .int j] = some (.val (.bl (decide (j ≤ i)))) := rfl
@[simp] theorem fNeg_int {i : Int} : fNeg [.int i] = some (.val (.int (-i))) := rfl
@[simp] theorem fMod_int {i j : Int} : fMod [.int i, .int j] = if j ≠ 0 then some (.val (.int (i.fmod j))) else none := rfl
theorem fFdiv_int {i j : Int} : fFdiv [.int i, .int j] = if j ≠ 0 ∧ j.natAbs.log2 < 9000 then some (.val (.int (i.fdiv j))) else none := rfl
theorem fMul_int {i j : Int} : fMul [.int i, .int j] = if i.natAbs.log2 + j.natAbs.log2 < 1000000 ∨ i.natAbs < 18446744073709551616 ∨ j.natAbs < 18446744073709551616 then some (.val (.int (i * j))) else none := rfl
@[simp] theorem fItem_lst {ds : List D} {i : Int} : fItem [.lst ds, .int i] = (atI ds i).map .val := rfl
@[simp] theorem fItem_tup {ds : List D} {i : Int} : fItem [.tup ds, .int i] = (atI ds i).map .val := rfl
@[simp] theorem fLen_lst {ds : List D} : fLen [.lst ds] = some (.val (.int ds.length)) := rfl
@[simp] theorem fLen_tup {ds : List D} : fLen [.tup ds] = some (.val (.int ds.length)) := rfl
@[simp] theorem fLen_str {z : Str} : fLen [.str z] = if z.length ≤ sizeLine then some (.val (.int z.length)) else none := rfl
@[simp] theorem fInt_int {i : Int} : fInt [.int i] = some (.val (.int i)) := rfl
@[simp] theorem fInt_bl {b : Bool} : fInt [.bl b] = some (.val (.int (if b then 1 else 0))) := rfl
@[simp] theorem fIs_bl {a b : Bool} : fIs [.bl a, .bl b] = some (.val (.bl (decide (a = b)))) := rfl
@[simp] theorem fIsNot_bl {a b : Bool} : fIsNot [.bl a, .bl b] = some (.val (.bl (!decide (a = b)))) := rfl
theorem l64 {i : Int} (h : i.natAbs < 2 ^ 64) : i.natAbs.log2 < 64 := by
  by_cases h0 : i.natAbs = 0
  · rw [h0]; decide
  · exact (Nat.log2_lt h0).mpr h
theorem fFdiv_ok {i j : Int} (h1 : j ≠ 0) (h2 : j.natAbs < 2 ^ 64) : fFdiv [.int i, .int j] = some (.val (.int (i.fdiv j))) := by
  have := l64 h2
  rw [fFdiv_int, if_pos ⟨h1, by omega⟩]
@[simp] theorem lk_nil' {ρ : En} : lk [] ρ = ρ := rfl
@[simp] theorem lk_val' {d : D} {xs : List Ov} {ρ : En} : lk (.val d :: xs) ρ = lk xs ρ := rfl
@[simp] theorem ats_nil' : ats [] = [] := rfl
@[simp] theorem ats_val' {d : D} {xs : List Ov} : ats (.val d :: xs) = ats xs := rfl
@[simp] theorem ats_at' {i : Nat} {xs : List Ov} : ats (.at i :: xs) = i :: ats xs := rfl
@[simp] theorem lks_eq {ρ : En} {xs : List Ov} : lks ρ xs = (ats xs).filter fun i => match gt ρ i with
  | some (.own _) => true
  | some (.ref _) => true
  | _ => false := rfl
@[simp] theorem rst_nil' {ρ1 ρ : En} : rst ρ1 [] ρ = ρ := rfl
@[simp] theorem rst_cons' {ρ1 ρ : En} {i : Nat} {S : List Nat} : rst ρ1 (i :: S) ρ = rst ρ1 S (ρ.set i (gt ρ1 i)) := rfl
@[simp] theorem unl_nil' {ρ1 : En} {o : SO} : unl ρ1 [] o = o := by cases o <;> rfl
@[simp] theorem wp_nil' {ρ : En} : wp [] ρ = ρ := rfl
@[simp] theorem wp_cons' {ρ : En} {i : Nat} {S : List Nat} : wp (i :: S) ρ = wp S (ρ.set i none) := rfl
@[simp] theorem forS_eq {src : Src} {tg : Tg} {body : SS} {ρ : En} : forS src tg body ρ = (evs src.ops ρ).bindS fun xs ρ1 => match dats ρ1 xs with
  | some ds => (match src.f ds with
    | some items => unl ρ1 (lks ρ1 xs) (loopS tg body items (lk xs ρ1))
    | none => .bad)
  | none => .bad := rfl
@[simp] theorem noX_ok {α : Type} {a : α} {ρ : En} : noX (.ok a ρ) = .ok a ρ := rfl
@[simp] theorem comp_eq {src : Src} {tg : Tg} {own : List Nat} {t : BS} {φ : ES} {ρ : En} : comp src tg own t φ ρ = (evs src.ops ρ).bind fun xs ρ1 => match dats ρ1 xs with
  | some ds => (match src.f ds with
    | some items => if (own.all fun i => !(ats xs).contains i) = true then (noX (loopC tg own t φ items (wp own (lk xs ρ1)) [])).bind fun out ρ2 => .ok (.own (.lst out)) (rst ρ1 (own ++ ats xs) ρ2) else .bad
    | none => .bad)
  | none => .bad := rfl
@[simp] theorem yes_eq {ρ : En} : yes ρ = .ok true ρ := rfl
@[simp] theorem meth_eq {T : String} {f : List D → Option Rv} {o : Opd} {os : List Opd} {ρ : En} : meth T f o os ρ = (o.ev ρ).bind fun x ρ1 => match x.dat ρ1 with
  | some d => if d.ty = some T then (evs os ρ1).bind fun xs ρ2 => (match x.dat ρ2, dats ρ2 xs with
    | some d', some ds => (match f (d' :: ds) with
      | some r => .ok r ρ2
      | none => .bad)
    | _, _ => .bad) else .bad
  | none => .bad := rfl
@[simp] theorem mutM_eq {T : String} {f : List D → D → Option (D × D)} {i : Nat} {φs : List ES} {ρ : En} : mutM T f i φs ρ = ((Opd.sl i).ev ρ).bind fun x ρ0 => match x.dat ρ0 with
  | some d => if d.ty = some T then (evs (φs.map .ex) ρ0).bind fun xs ρ1 => (match vals xs with
    | some ds => (match mutS i (f ds) ρ1 with
      | some (r, ρ2) => .ok (.val r) ρ2
      | none => .bad)
    | none => .bad) else .bad
  | none => .bad := rfl
theorem bk1_look {xs ys : List Ov} {os ps : List Sl} {j : Nat} {t : Option Sl} (h : look xs os j = look ys ps j) : bk1 xs os j t = bk1 ys ps j t := by
  cases t with
  | none => rfl
  | some t => cases t with
    | val d => rfl
    | rd d => rfl
    | own d => simp only [bk1_own, h]
    | ref d => simp only [bk1_ref, h]
@[simp] theorem bk1_nil {outs : List Sl} {j : Nat} {t : Option Sl} : bk1 [] outs j t = t := by
  cases t with
  | none => rfl
  | some t => cases t <;> rfl
@[simp] theorem bk1_cv {d : D} {s : Sl} {xs : List Ov} {outs : List Sl} {j : Nat} {t : Option Sl} : bk1 (.val d :: xs) (s :: outs) j t = bk1 xs outs j t := bk1_look rfl
@[simp] theorem bk1_av {i : Nat} {d : D} {xs : List Ov} {outs : List Sl} {j : Nat} {t : Option Sl} : bk1 (.at i :: xs) (.val d :: outs) j t = bk1 xs outs j t := bk1_look rfl
@[simp] theorem bk1_ar {i : Nat} {d : D} {xs : List Ov} {outs : List Sl} {j : Nat} {t : Option Sl} : bk1 (.at i :: xs) (.rd d :: outs) j t = bk1 xs outs j t := bk1_look rfl
@[simp] theorem bk1_ne {i : Nat} {d : D} {xs : List Ov} {outs : List Sl} {j : Nat} {t : Option Sl} (h : i ≠ j) : bk1 (.at i :: xs) (.ref d :: outs) j t = bk1 xs outs j t := bk1_look (by rw [look_at_ref, if_neg h])
@[simp] theorem back_eq {xs : List Ov} {outs : List Sl} {t : Option Sl} {ρ : En} : back xs outs (t :: ρ) = bk1 xs outs 0 t :: List.mapIdx (fun i => bk1 xs outs (i + 1)) ρ := by
  unfold back
  rw [List.mapIdx_cons]
@[simp] theorem sSeq_lst {ds : List D} : sSeq [.lst ds] = some ds := rfl
@[simp] theorem sSeq_tup {ds : List D} : sSeq [.tup ds] = some ds := rfl
end VF
namespace VF
open PySem PySem.Spec PyProof.Rows L2
def fFld (f : Str) : List D → Option Rv
  | [.ins _ fs ds] => (kget fs ds f).map .val
  | _ => none
def FldOk (M : Md) (f : Str) : Prop := ∀ c C, c ∈ M.cls → M.mg c = some (.ref C) → Cls M.K C ∧ NoAttr M.K C f
theorem kget_rep {M : Md} {F : Addr → Prop} {H : Hp} {f : Str} {d : D} : ∀ {vs : List (Str × V)} {fs : List Str} {ds : List D}, vs.map (·.1) = fs → RepL M F H ds (vs.map (·.2)) → kget fs ds f = some d → ∃ v, vs.lookup f = some v ∧ Rep M F H d v
  | [], _, _, h1, h2, h3 => by
    cases h1
    unfold kget at h3
    cases h3
  | (g, v) :: vs, fs, ds, h1, h2, h3 => by
    cases h1
    cases ds with
    | nil => unfold kget at h3; cases h3
    | cons e ds =>
      simp only [List.map_cons] at h2 h3
      unfold RepL at h2
      obtain ⟨w, r, e1, p, q⟩ := h2
      cases e1
      unfold kget at h3
      by_cases hg : g = f
      · rw [if_pos hg] at h3
        cases h3
        exact ⟨v, by rw [List.lookup_cons]; simp [hg], p⟩
      · rw [if_neg hg] at h3
        obtain ⟨v', h4, h5⟩ := kget_rep (vs := vs) rfl q h3
        refine ⟨v', ?_, h5⟩
        rw [List.lookup_cons]
        have : (f == g) = false := by simpa using fun z => hg z.symm
        rw [this]
        exact h4
section
variable {M : Md} {cs : Cs} {W : WX} {k : Nat} {X : Cx}
theorem e_fld (g : G0 M cs k X) {e : Expr} {f : Str} {pos : Pos} {o : Opd} (fo : FldOk M f) (he : PE X e (tO M W o)) (hb : attributeBase e f X.env (eval e X.env) = eval e X.env) : PE X (.Attribute e f pos) (tE M W (app (fFld f) [o])) := by
  refine PE_imp (pe_fld he hb) fun σ H Q h => ?_
  refine tO_mono (M := M) (W := W) (o := o) (app_run (prim_ok M (fFld f)) h) fun v H1 ⟨F, ds, rv, hd, od, ef, q⟩ => ?_
  unfold fFld at ef
  split at ef
  · obtain ⟨w, e1, r⟩ := od.one
    cases e1
    obtain ⟨a, C, dx, vs, rfl, ⟨hc, hm⟩, ha, hk, l⟩ := r.ins
    obtain ⟨d, e2, e3⟩ := Option.map_eq_some_iff.mp ef
    subst e3
    obtain ⟨v', h4, h5⟩ := kget_rep hk l e2
    obtain ⟨c1, c2⟩ := fo _ C hc hm
    exact ⟨a, C, dx, vs, v', rfl, ha, by rw [g.hK]; exact c1, by rw [g.hK]; exact c2, h4, rv_same hd q h5⟩
  · cases ef
end
def putK (f : Str) (d : D) : List Str → List D → List Str × List D
  | g :: fs, e :: ds => if g = f then (g :: fs, d :: ds) else ((g :: (putK f d fs ds).1), (e :: (putK f d fs ds).2))
  | _, _ => ([f], [d])
def stF (f : Str) (v : D) : D → Option (Unit × D)
  | .ins c fs ds => if fs.length < 1000 ∧ fs.length = ds.length then some ((), .ins c (putK f v fs ds).1 (putK f v fs ds).2) else none
  | _ => none
theorem putK_rep {M : Md} {F : Addr → Prop} {H : Hp} {f : Str} {d : D} {v : V} (r : Rep M F H d v) : ∀ {vs : List (Str × V)} {fs : List Str} {ds : List D}, vs.map (·.1) = fs → RepL M F H ds (vs.map (·.2)) →
    (putF f v vs).map (·.1) = (putK f d fs ds).1 ∧ RepL M F H (putK f d fs ds).2 ((putF f v vs).map (·.2))
  | [], _, ds, h1, h2 => by
    cases h1
    exact ⟨rfl, .cons r .nil⟩
  | (g, w) :: vs, _, ds, h1, h2 => by
    cases h1
    cases ds with
    | nil =>
      have := h2.length
      simp at this
    | cons e ds =>
      simp only [List.map_cons] at h2 ⊢
      unfold RepL at h2
      obtain ⟨w', r', e1, p, q⟩ := h2
      cases e1
      unfold putF putK
      by_cases hg : g = f
      · rw [if_pos hg, if_pos hg]
        exact ⟨rfl, .cons r q⟩
      · rw [if_neg hg, if_neg hg]
        obtain ⟨h3, h4⟩ := putK_rep r (vs := vs) rfl q
        exact ⟨by simp [h3], .cons p h4⟩
def setF (i : Nat) (f : Str) (φ : ES) : SS := fun ρ => (φ ρ).bindS fun r ρ1 => ((Opd.sl i).ev ρ1).bindS fun _ ρ2 => match mutS i (stF f r.d) ρ2 with
  | some (_, ρ3) => .nx ρ3
  | none => .bad
section
variable {M : Md} {cs : Cs} {W : WX} {k : Nat} {X : Cx}
theorem s_fld (g : G M cs W k X) {i : Nat} {x f : Str} {e : Expr} {p1 p2 pos : Pos} {φ : ES} (fo : FldOk M f) (hi : cs.N[i]? = some x) (hv : Vis cs.sc x) (hd : (x == ("__debug__" : Str)) = false) (hcd : (x == ("__classdict__" : Str)) = false) (he : PE X e (tE M W φ))
    (hs : swapsWith e (some (.Attribute (.Name x p1) f p2)) pos.line X.env = pure false) : PS X (.Assign [.Attribute (.Name x p1) f p2] e pos) (tS M W (setF i f φ)) := by
  refine PS_imp (ps_fld (pe_var (by rw [g.hN]; exact hi) (g.vis hv) hd hcd) he hs) fun D σ H ⟨F, ρ, s, h⟩ => tE_of s ((bindS_want h).mono fun r F1 H1 ρ1 po z v rv => ?_)
  obtain ⟨F2, po2, rp, _⟩ := freeze s po rv
  have z := z.step po2.s
  refine bindS_sl po2.sr z fun t w _ ew _ z => ?_
  cases e2 : mutS i (stF f r.d) ρ1 with
  | none => simp only [e2] at z; exact z.elim
  | some q =>
    obtain ⟨_, ρ4⟩ := q
    simp only [e2] at z
    obtain ⟨p, d, d', ep, nf, ef, c, put⟩ := mut_slot po2.sr e2
    rw [ew] at ep
    cases ep
    unfold stF at ef
    split at ef
    · split at ef
      · rename_i hz
        cases ef
        obtain ⟨C, dx, vs, ⟨hc, hm⟩, hp, hk, l⟩ := c
        obtain ⟨c1, c2⟩ := fo _ C hc hm
        obtain ⟨h3, h4⟩ := putK_rep rp hk l
        refine ⟨p, C, dx, vs, rfl, hp, by rw [g.hK]; exact c1, by rw [g.hK]; exact c2, by rw [← List.length_map (f := (·.1)), hk]; exact hz.1, ?_⟩
        exact z F2 _ σ (put _ ⟨C, dx, putF f v vs, ⟨hc, hm⟩, rfl, h3, h4⟩).s
      · cases ef
    · cases ef
end
def callT (φ : FSem) (xs : List Ov) (dd : List D) : ES := fun ρ1 => match slOs ρ1 (xs ++ dd.map .val) with
  | some sls => if ndB (tpI ρ1 (xs ++ dd.map .val)) = true then (match φ sls with
    | .ok r outs => .ok r (back (xs ++ dd.map .val) outs ρ1)
    | .exc x outs => .exc x (back (xs ++ dd.map .val) outs ρ1)
    | .bad => .bad) else .bad
  | none => .bad
section
variable {M : Md} {cs : Cs} {W : WX} {k : Nat} {X : Cx}
theorem callT_run (hx : M.xn = none) {np : Nat} {φ : FSem} {xs : List Ov} {dd : List D} {vs dvs : List V} {F : Addr → Prop} {H : Hp} {σ : St} {ρ : En} {Q : VK} (s : SR M F H σ ρ) (rs : OvRs M F H σ xs vs) (cd : ConstD M dd dvs) (hn : xs.length + dd.length = np)
    (h : Want M W F H σ ρ (callT φ xs dd ρ) fun r F' H' _ => ∀ v, RvR M H F' H' r v → Q v H') : spF M np φ (vs ++ dvs) H Q fun cls d H' => W cls d σ H' := by
  unfold callT at h
  have rs' : OvRs M F H σ (xs ++ dd.map .val) (vs ++ dvs) := OvRs.append (xs := xs) (vs := vs) rs cd.ov
  cases e1 : slOs ρ (xs ++ dd.map .val) with
  | none => simp only [e1] at h; exact h.elim
  | some sls =>
    simp only [e1] at h
    by_cases nd : ndB (tpI ρ (xs ++ dd.map .val)) = true
    · rw [if_pos nd] at h
      obtain ⟨sa, hno⟩ := args_sr hx s rs' e1 nd
      refine ⟨by rw [rs'.length, List.length_append, List.length_map]; exact hn, F, sls, sa, hno, ?_⟩
      cases ef : φ sls with
      | bad => simp only [ef] at h; exact h
      | ok r outs =>
        simp only [ef] at h
        exact fun F2 H2 v po2 rv => h F2 H2 (back_po hx s rs' e1 nd po2) v rv
      | exc x outs =>
        simp only [ef] at h
        exact fun F2 H2 cls d po2 xr => h F2 H2 cls d (back_po hx s rs' e1 nd po2) xr
    · rw [if_neg nd] at h
      exact h.elim
end
structure MtV (M : Md) (k : Nat) (c m : Str) (np : Nat) (φ : FSem) : Prop where
  ex : ∃ C f fd ps, c ∈ M.cls ∧ M.mg c = some (.ref C) ∧ Cls M.K C ∧ Meth M.K C m f ∧ FnOk M.P M.w M.K M.mg M.base (L2N.CX M.P M.w) k f fd ps (spF M np φ) ∧ ps.length = np ∧ Binds M.K fd ps []
section
variable {M : Md} {cs : Cs} {W : WX} {k : Nat} {X : Cx}
end
end VF
namespace VF
open PySem PySem.Spec PyProof.Rows L2
def mkI (c : Str) (φ : FSem) (os : List Opd) (dd : List D) : ES := fun ρ => (evs os ρ).bind fun xs ρ1 => match slOs ρ1 (xs ++ dd.map .val) with
  | some sls => if ndB (tpI ρ1 (xs ++ dd.map .val)) = true then (match φ (.ref (.ins c [] []) :: sls) with
    | .ok (.val .non) (.ref d' :: outs) => .ok (.own d') (back (xs ++ dd.map .val) outs ρ1)
    | .exc x (.ref _ :: outs) => .exc x (back (xs ++ dd.map .val) outs ρ1)
    | _ => .bad) else .bad
  | none => .bad
theorem gt_app {ρ τ : En} {i : Nat} {t : Sl} (h : gt ρ i = some t) : gt (ρ ++ τ) i = some t := by
  have hl := gt_lt h
  unfold gt at h ⊢
  rw [List.getElem?_append_left hl]
  exact h
theorem gv_lt {σ : St} {i : Nat} {v : V} (h : gv σ i = some v) : i < σ.length := (List.getElem?_eq_some_iff.mp (gv_some h)).1
theorem gv_app {σ τ : St} {i : Nat} {v : V} (h : gv σ i = some v) : gv (σ ++ τ) i = some v := by
  have hl := gv_lt h
  unfold gv at h ⊢
  rw [List.getElem?_append_left hl]
  exact h
theorem gt_app_lt {ρ τ : En} {i : Nat} (h : i < ρ.length) : gt (ρ ++ τ) i = gt ρ i := by
  unfold gt
  rw [List.getElem?_append_left h]
theorem gv_app_lt {ρ τ : St} {i : Nat} (h : i < ρ.length) : gv (ρ ++ τ) i = gv ρ i := by
  unfold gv
  rw [List.getElem?_append_left h]
theorem gt_last {ρ : En} {t : Option Sl} : gt (ρ ++ [t]) ρ.length = t := by
  unfold gt
  rw [List.getElem?_append_right (Nat.le_refl _)]
  simp
theorem gv_last {ρ : St} {t : Option V} : gv (ρ ++ [t]) ρ.length = t := by
  unfold gv
  rw [List.getElem?_append_right (Nat.le_refl _)]
  simp
theorem slO_app {ρ τ : En} {x : Ov} {s : Sl} (h : slO ρ x = some s) : slO (ρ ++ τ) x = some s := by
  cases x with
  | val d => exact h
  | «at» i =>
    rw [slO_at] at h ⊢
    cases e : gt ρ i with
    | none => simp only [e] at h; cases h
    | some t =>
      rw [gt_app e]
      rw [e] at h
      exact h
theorem slOs_app {ρ τ : En} : ∀ {xs : List Ov} {sls : List Sl}, slOs ρ xs = some sls → slOs (ρ ++ τ) xs = some sls
  | [], _, h => h
  | x :: xs, sls, h => by
    unfold slOs at h ⊢
    cases e1 : slO ρ x with
    | none => rw [e1] at h; cases h
    | some s =>
      cases e2 : slOs ρ xs with
      | none => rw [e1, e2] at h; cases h
      | some ss =>
        rw [e1, e2] at h
        rw [slO_app e1, slOs_app e2]
        exact h
theorem tpI_app {ρ τ : En} : ∀ {xs : List Ov} {sls : List Sl}, slOs ρ xs = some sls → tpI (ρ ++ τ) xs = tpI ρ xs ∧ ∀ i ∈ tpI ρ xs, i < ρ.length
  | [], _, _ => ⟨rfl, fun i h => by cases h⟩
  | x :: xs, sls, h => by
    unfold slOs at h
    cases e1 : slO ρ x with
    | none => rw [e1] at h; cases h
    | some s =>
      cases e2 : slOs ρ xs with
      | none => rw [e1, e2] at h; cases h
      | some ss =>
        obtain ⟨h1, h2⟩ := tpI_app (τ := τ) e2
        cases x with
        | val d => exact ⟨h1, h2⟩
        | «at» i =>
          have hi : i < ρ.length := by
            unfold slO at e1
            cases e : gt ρ i with
            | none => simp only [e] at e1; cases e1
            | some t => exact gt_lt e
          have ht : isTop (ρ ++ τ) i = isTop ρ i := by
            unfold isTop
            rw [gt_app_lt hi]
          unfold tpI
          rw [ht]
          split
          · refine ⟨by rw [h1], fun j hj => ?_⟩
            rcases List.mem_cons.mp hj with rfl | hj
            · exact hi
            · exact h2 j hj
          · exact ⟨h1, h2⟩
theorem OvRs.app {M : Md} {F F' : Addr → Prop} {H H' : Hp} {σ τ : St} (x : Ext F H F' H') : ∀ {xs : List Ov} {vs : List V}, OvRs M F H σ xs vs → OvRs M F' H' (σ ++ τ) xs vs
  | [], _, h => h
  | .val d :: xs, _, ⟨v, r, e, p, q⟩ => ⟨v, r, e, Rep.mono x d p, OvRs.app x q⟩
  | .at i :: xs, _, ⟨v, r, e, p, q⟩ => ⟨v, r, e, gv_app p, OvRs.app x q⟩
theorem back_app {xs : List Ov} {outs : List Sl} {ρ : En} {d d' : D} : back (.at ρ.length :: xs) (.ref d' :: outs) (ρ ++ [some (.own d)]) = back xs outs ρ ++ [some (.own d')] := by
  unfold back
  rw [List.mapIdx_append]
  congr 1
  · apply List.ext_getElem?
    intro j
    rw [List.getElem?_mapIdx, List.getElem?_mapIdx]
    cases e : ρ[j]? with
    | none => rfl
    | some t =>
      have hj : ρ.length ≠ j := by
        have := (List.getElem?_eq_some_iff.mp e).1
        omega
      simp only [Option.map_some]
      rw [bk1_ne hj]
  · simp
section
variable {M : Md} {W : WX} {F F' : Addr → Prop} {H H' : Hp} {σ : St} {ρ : En}
theorem made_sr (hn0 : M.xn = none) (s : SR M F H σ ρ) {c : Str} {C x dx : Addr} (hc : c ∈ M.cls ∧ M.mg c = some (.ref C)) (hx : H x = none) (hdx : H dx = none) (hne : dx ≠ x) :
    New F H F (upd (upd H dx (.own x)) x (.ins C dx [])) ∧ SR M F (upd (upd H dx (.own x)) x (.ins C dx [])) (σ ++ [some (.ref x)]) (ρ ++ [some (.own (.ins c [] []))]) := by
  have n1 : New F H F (upd H dx (.own x)) := New.laid s.dom hdx
  have hx1 : upd H dx (.own x) x = none := by rw [upd_ne (Ne.symm hne)]; exact hx
  have n2 : New F (upd H dx (.own x)) F (upd (upd H dx (.own x)) x (.ins C dx [])) := New.laid n1.dom hx1
  have nn : New F H F (upd (upd H dx (.own x)) x (.ins C dx [])) := ⟨fun a o e => n2.keep a o (n1.keep a o e), fun _ h => h, fun _ h => .inl h, n2.dom⟩
  have s2 := (nn.po s).sr
  have key : ∀ j t, gt (ρ ++ [some (.own (.ins c [] []))]) j = some t → (j < ρ.length ∧ gt ρ j = some t) ∨ (j = ρ.length ∧ t = .own (.ins c [] [])) := fun j t h => by
    by_cases hj : j < ρ.length
    · rw [gt_app_lt hj] at h
      exact .inl ⟨hj, h⟩
    · have hl := gt_lt h
      have ej : j = ρ.length := by simp at hl; omega
      subst ej
      rw [gt_last] at h
      cases h
      exact .inr ⟨rfl, rfl⟩
  have el : σ.length = ρ.length := s.len
  have gl : gv (σ ++ [some (V.ref x)]) ρ.length = some (.ref x) := by rw [← el]; exact gv_last
  refine ⟨nn, ⟨by simp [s.len], nn.dom, fun j t h => ?_, fun i j t u a h1 h2 h3 h4 h5 h6 => ?_, .no hn0 (s.xn.ext nn.ext nn.tab).2⟩⟩
  · rcases key j t h with ⟨hj, h⟩ | ⟨rfl, rfl⟩
    · rw [gv_app_lt (by rw [el]; exact hj)]
      exact s2.slot j t h
    · exact ⟨.ref x, gl, x, rfl, fun z => s.dom x z hx, C, dx, [], hc, upd_same, rfl, by unfold RepL; rfl⟩
  · have old : ∀ {j t}, gt ρ j = some t → t.top = true → gv (σ ++ [some (V.ref x)]) j = some (.ref x) → False := fun {j t} h ht hv => by
      rw [gv_app_lt (by rw [el]; exact gt_lt h)] at hv
      obtain ⟨b, w, e, _, q⟩ := s.top_at h ht
      rw [hv] at e
      cases e
      rw [hx] at q
      cases q
    rcases key i t h1 with ⟨hi, h1⟩ | ⟨rfl, rfl⟩
    · rcases key j u h2 with ⟨hj, h2⟩ | ⟨rfl, rfl⟩
      · rw [gv_app_lt (by rw [el]; exact hi)] at h5
        rw [gv_app_lt (by rw [el]; exact hj)] at h6
        exact s.dist i j t u a h1 h2 h3 h4 h5 h6
      · rw [gl] at h6
        cases h6
        exact (old h1 h3 h5).elim
    · rcases key j u h2 with ⟨hj, h2⟩ | ⟨rfl, rfl⟩
      · rw [gl] at h5
        cases h5
        exact (old h2 h4 h6).elim
      · rfl
theorem made_po (hn0 : M.xn = none) (s : SR M F H σ ρ) {c : Str} {C x dx : Addr} {d' : D} {ρ2 : En} (hx : H x = none) (hdx : H dx = none) (hne : dx ≠ x) (hl : ρ2.length = ρ.length)
    (po : Po M F (upd (upd H dx (.own x)) x (.ins C dx [])) (σ ++ [some (.ref x)]) (ρ ++ [some (.own (.ins c [] []))]) F' H' (ρ2 ++ [some (.own d')])) : Po M F H σ ρ F' H' ρ2 ∧ RvR M H F' H' (.own d') (.ref x) := by
  have el : σ.length = ρ.length := s.len
  have gl : gv (σ ++ [some (V.ref x)]) ρ.length = some (.ref x) := by rw [← el]; exact gv_last
  have h2 : ∀ a, upd (upd H dx (.own x)) x (.ins C dx []) a = none → H a = none := fun a h => by
    by_cases h1 : a = x
    · rw [h1]; exact hx
    · rw [upd_ne h1] at h
      by_cases h3 : a = dx
      · rw [h3]; exact hdx
      · rw [upd_ne h3] at h; exact h
  have kp2 : ∀ a o, H a = some o → upd (upd H dx (.own x)) x (.ins C dx []) a = some o := fun a o h => by
    rw [upd_ne (ne_of_none h hx), upd_ne (ne_of_none h hdx)]; exact h
  have ow : ∀ a, OwnAt (σ ++ [some (V.ref x)]) (ρ ++ [some (.own (.ins c [] []))]) a → OwnAt σ ρ a ∨ a = x := fun a ⟨i, d, k1, k2⟩ => by
    by_cases hi : i < ρ.length
    · rw [gt_app_lt hi] at k1
      rw [gv_app_lt (by rw [el]; exact hi)] at k2
      exact .inl ⟨i, d, k1, k2⟩
    · have := gt_lt k1
      have ej : i = ρ.length := by simp at this; omega
      subst ej
      rw [gl] at k2
      cases k2
      exact .inr rfl
  have rw1 : ∀ a, RefAt (σ ++ [some (V.ref x)]) (ρ ++ [some (.own (.ins c [] []))]) a → RefAt σ ρ a := fun a ⟨i, d, k1, k2⟩ => by
    by_cases hi : i < ρ.length
    · rw [gt_app_lt hi] at k1
      rw [gv_app_lt (by rw [el]; exact hi)] at k2
      exact ⟨i, d, k1, k2⟩
    · have := gt_lt k1
      have ej : i = ρ.length := by simp at this; omega
      subst ej
      rw [gt_last] at k1
      cases k1
  have gt2 : ∀ i, i < ρ.length → gt (ρ2 ++ [some (.own d')]) i = gt ρ2 i := fun i hi => gt_app_lt (by rw [hl]; exact hi)
  have lt2 : ∀ {i t}, gt ρ2 i = some t → i < ρ.length := fun h => by rw [← hl]; exact gt_lt h
  have up : ∀ {i t}, gt ρ2 i = some t → gt (ρ2 ++ [some (.own d')]) i = some t := fun h => gt_app h
  have gvs : ∀ {i t}, gt ρ2 i = some t → gv (σ ++ [some (V.ref x)]) i = gv σ i := fun h => gv_app_lt (by rw [el]; exact lt2 h)
  refine ⟨⟨⟨po.stp.fro, fun a o k1 k2 k3 => po.stp.keep a o (kp2 a o k1) (fun z => ?_) fun z => k3 (rw1 a z), fun a h => h2 a (po.stp.dom a h), fun a h => ?_, fun a h => ?_, fun a h => ?_⟩, ⟨by rw [hl]; exact el, po.sr.dom, fun i t h => ?_, fun i j t u a k1 k2 k3 k4 k5 k6 => ?_, .no hn0 po.sr.xn.2⟩, by rw [hl], fun i => ?_⟩, ?_⟩
  · rcases ow a z with z | z
    · exact k2 z
    · rw [z, hx] at k1; cases k1
  · rcases po.stp.new a h with z | z | z
    · exact .inl z
    · exact .inr (.inl (h2 a z))
    · rcases ow a z with z | z
      · exact .inr (.inr z)
      · exact .inr (.inl (by rw [z]; exact hx))
  · obtain ⟨i, d, k1, k2⟩ := h
    rcases po.stp.own a ⟨i, d, up k1, by rw [gvs k1]; exact k2⟩ with z | z
    · rcases ow a z with z | z
      · exact .inl z
      · exact .inr (by rw [z]; exact hx)
    · exact .inr (h2 a z)
  · obtain ⟨i, d, k1, k2⟩ := h
    exact rw1 a (po.stp.ref a ⟨i, d, up k1, by rw [gvs k1]; exact k2⟩)
  · obtain ⟨v, k1, k2⟩ := po.sr.slot i t (up h)
    rw [gvs h] at k1
    exact ⟨v, k1, k2⟩
  · exact po.sr.dist i j t u a (up k1) (up k2) k3 k4 (by rw [gvs k1]; exact k5) (by rw [gvs k2]; exact k6)
  · by_cases hi : i < ρ.length
    · have z := po.kp.2 i
      rw [gt_app_lt hi, gt2 i hi] at z
      exact z
    · have e1 : gt ρ i = none := by
        unfold gt
        rw [List.getElem?_eq_none (by omega)]
        rfl
      have e2 : gt ρ2 i = none := by
        unfold gt
        rw [List.getElem?_eq_none (by omega)]
        rfl
      rw [e1, e2]
      trivial
  · obtain ⟨v, k1, a, k2, k3, k4⟩ := po.sr.slot ρ.length (.own d') (by rw [← hl]; exact gt_last)
    rw [gl] at k1
    cases k1
    cases k2
    exact ⟨x, rfl, k3, hx, k4⟩
end
structure MkV (M : Md) (k : Nat) (c : Str) (np : Nat) (dd : List D) (φ : FSem) : Prop where
  ex : ∃ C f fd ps dvs ds, (c ∈ M.cls ∧ M.mg c = some (.ref C)) ∧ Mk M.K C f ∧ FnOk M.P M.w M.K M.mg M.base (L2N.CX M.P M.w) k f fd ps (spF M (np + 1) φ) ∧ ConstD M dd dvs ∧ Vals dvs ds ∧ Binds M.K fd ps ds
section
variable {M : Md} {cs : Cs} {W : WX} {k : Nat} {X : Cx}
theorem mkI_run (hn0 : M.xn = none) {np : Nat} {c : Str} {C : Addr} {φ : FSem} {os : List Opd} {dd : List D} {dvs : List V} {σ : St} {H : Hp} {Q : VK} (hc : c ∈ M.cls ∧ M.mg c = some (.ref C)) (cd : ConstD M dd dvs) (hn : os.length + dd.length = np) (h : tE M W (mkI c φ os dd) σ H Q) :
    tOs M W os σ H fun vs H1 => ∀ x dx, H1 x = none → H1 dx = none → dx ≠ x → spF M (np + 1) φ (.ref x :: (vs ++ dvs)) (upd (upd H1 dx (.own x)) x (.ins C dx [])) (fun v H2 => v = .non ∧ Q (.ref x) H2) fun cls d H' => W cls d σ H' := by
  obtain ⟨F, ρ, s, h⟩ := h
  refine ops_run _ s ?_
  cases ev : evs os ρ with
  | bad => simp only [mkI, ev] at h; exact h
  | exc x ρ' => simp only [mkI, ev] at h; exact h
  | ok xs ρ1 =>
    simp only [mkI, ev, Out.bind] at h
    intro F1 H1 po vs rs x dx hx hdx hne
    cases e1 : slOs ρ1 (xs ++ dd.map .val) with
    | none => simp only [e1] at h; exact h.elim
    | some sls =>
      simp only [e1] at h
      by_cases nd : ndB (tpI ρ1 (xs ++ dd.map .val)) = true
      · rw [if_pos nd] at h
        have rs' : OvRs M F1 H1 σ (xs ++ dd.map .val) (vs ++ dvs) := OvRs.append (xs := xs) (vs := vs) rs cd.ov
        obtain ⟨nn, sm⟩ := made_sr hn0 po.sr hc hx hdx hne
        have rs2 : OvRs M F1 (upd (upd H1 dx (.own x)) x (.ins C dx [])) (σ ++ [some (.ref x)]) (.at ρ1.length :: (xs ++ dd.map .val)) (.ref x :: (vs ++ dvs)) :=
          ⟨_, _, rfl, by show gv _ _ = _; rw [← po.sr.len]; exact gv_last, rs'.app nn.ext⟩
        have e2 : slOs (ρ1 ++ [some (.own (.ins c [] []))]) (.at ρ1.length :: (xs ++ dd.map .val)) = some (.ref (.ins c [] []) :: sls) := by
          unfold slOs
          rw [slOs_app e1]
          have : slO (ρ1 ++ [some (.own (.ins c [] []))]) (.at ρ1.length) = some (.ref (.ins c [] [])) := by
            rw [slO_at, gt_last]
          rw [this]
        obtain ⟨t1, t2⟩ := tpI_app (τ := [some (.own (.ins c [] []))]) e1
        have nd2 : ndB (tpI (ρ1 ++ [some (.own (.ins c [] []))]) (.at ρ1.length :: (xs ++ dd.map .val))) = true := by
          have it : isTop (ρ1 ++ [some (.own (.ins c [] []))]) ρ1.length = true := by
            unfold isTop
            rw [gt_last]
            rfl
          unfold tpI
          rw [if_pos it, t1]
          unfold ndB
          rw [nd]
          simp
          exact fun z => absurd (t2 _ z) (Nat.lt_irrefl _)
        obtain ⟨sa, hno⟩ := args_sr hn0 sm rs2 e2 nd2
        refine ⟨by rw [rs2.length, List.length_cons, List.length_append, List.length_map, evs_length ev, hn], F1, _, sa, hno, ?_⟩
        have bl : ∀ outs : List Sl, (back (xs ++ dd.map .val) outs ρ1).length = ρ1.length := fun outs => by simp [back]
        cases ef : φ (.ref (.ins c [] []) :: sls) with
        | bad => simp only [ef] at h; exact h
        | ok r outs =>
          simp only [ef] at h
          split at h
          · rename_i d' outs' heq
            cases heq
            intro F2 H2 v po2 rv
            have rv : Rep M F2 H2 .non v := rv
            unfold Rep at rv
            refine ⟨rv, ?_⟩
            have po3 := back_po hn0 sm rs2 e2 nd2 po2
            rw [back_app] at po3
            obtain ⟨po4, rx⟩ := made_po hn0 po.sr hx hdx hne (bl _) po3
            exact h F2 H2 (po.trans po4) (.ref x) (rx.from fun a z => po.stp.dom a z)
          · rename_i heq; cases heq
          · exact h.elim
        | exc y outs =>
          simp only [ef] at h
          split at h
          · rename_i heq; cases heq
          · rename_i y' d' outs' heq
            cases heq
            intro F2 H2 cls d po2 xr
            have po3 := back_po hn0 sm rs2 e2 nd2 po2
            rw [back_app] at po3
            obtain ⟨po4, _⟩ := made_po hn0 po.sr hx hdx hne (bl _) po3
            exact h F2 H2 cls d (po.trans po4) xr
          · exact h.elim
      · rw [if_neg nd] at h
        exact h.elim
theorem run_makeW {C f : Addr} {fd : FuncData} {ps : List Str} {sp : Sp} {ds : List Value} {pins : List (Addr × Obj)} {σ : St} {H : Hp} {s : Shared} {Q : VK} {us : List Value} {vs dvs : List V} (MK : Mk X.K C f) (F : FnOk X.prog X.w X.K X.mg X.base (L2N.CX X.prog X.w) k f fd ps sp) (hr : Room (k + 1) X.A) (hb : Binds X.K fd ps ds) (hd : Vals dvs ds) (tk : L2N.Takes X W)
    (I : Inv X pins σ H s) (r : Vals vs us) (h : ∀ x dx, H x = none → H dx = none → dx ≠ x → sp (.ref x :: (vs ++ dvs)) (upd (upd H dx (.own x)) x (.ins C dx [])) (fun v H2 => v = .non ∧ Q (.ref x) H2) fun cls d H' => W cls d σ H') :
    wpAny (model X.prog X.w) X.A (call (.ref C) us) (EP X pins σ Q) X.xe s := by
  have hq := h (s.heap.objs.size + 1) s.heap.objs.size (I.hok.fresh (Nat.le_succ _)) (I.hok.fresh (Nat.le_refl _)) (Nat.ne_of_lt (Nat.lt_succ_self _))
  have I2 := Inv.made (C := C) I
  have r2 : Vals (V.ref (s.heap.objs.size + 1) :: (vs ++ dvs)) (Value.ref (s.heap.objs.size + 1) :: (us ++ ds)) := .cons rfl (r.append hd)
  have hl : (Value.ref (s.heap.objs.size + 1) :: us ++ ds).length = ps.length := by
    have e := r2.length
    rw [F.len _ _ _ _ hq] at e
    exact e.symm
  refine wpAny_call (make_map (f := f) I.kIn MK.makes MK.init (beq_iff_eq.mp MK.fn) (codeAny_mono (F.run _ X.stack _ _ ⟨Value.ref (s.heap.objs.size + 1) :: us, []⟩ (Value.ref (s.heap.objs.size + 1) :: (us ++ ds)) _ _ _ (hr.make C us [])
    (I2.env0.make C us []) (hb _ (Value.ref (s.heap.objs.size + 1) :: us) I2.kIn hl) r2 hq) fun r s' hq' => ?_))
  cases r with
  | error e => exact tk e s' (L2N.XE.of_call I2 (fun cls d H' h => h) hq')
  | ok fl =>
    cases fl with
    | ret u =>
      obtain ⟨v, H', I3, rv, ev, q3⟩ := I2.after hq'
      subst ev
      exact ⟨rv, ⟨V.ref (s.heap.objs.size + 1), H', I3, rfl, q3⟩⟩
    | next => exact False.elim hq'
    | brk => exact False.elim hq'
    | cont => exact False.elim hq'
theorem e_make (g : G M cs W k X) {j np : Nat} {c : Str} {dd : List D} {φ : FSem} {p pos : Pos} {e : Expr} {es : List Expr} {os : List Opd} (mv : MkV M j c np dd φ) (hj : j + 1 ≤ k) (hg : cs.sc.names.lookup c = some .globalImplicit) (ha : PA X (e :: es) (tOs M W os)) (hn : os.length + dd.length = np) (hdb : (c == ("__debug__" : Str)) = false)
    (he : starEach (e :: es) X.env = (false, eval e X.env) :: starEach es X.env) (hpl : (backTo pos (starEach es X.env)).any (·.1) = false) : PE X (.Call (.Name c p) (e :: es) [] pos) (tE M W (mkI c φ os dd)) := by
  obtain ⟨C, f, fd, ps, dvs, ds, hc, MK, F, cd, hd, hb⟩ := mv.ex
  rw [← g.hP, ← g.hw, ← g.hb, ← g.hK, ← g.hmg] at F
  rw [← g.hK] at MK hb
  refine ⟨fun pins s σ H Q I h => ?_⟩
  refine wpAny_Call_Name_kw (ld_glob I (g.gl hg) (by rw [g.hmg]; exact hc.2) ?_ hdb)
  refine PySem.W.callWith_K (h₀ := X.base) I.ok.mod.kin MK.kp (thn (ha.run pos pins s σ H _ I (mkI_run g.nx hc cd hn h)) fun us s1 ⟨vs, H1, I1, r, q⟩ => ⟨I1.kIn, ?_⟩) he hpl
  exact run_makeW (k := j) MK F (g.room.mono hj) hb hd g.tk I1 r q
end
end VF
namespace L2
open PySem PySem.Spec PyProof.Rows
section
variable {X : Cx} {o e : Expr} {es : List Expr} {to te : TE} {ta : TA} {f : Str} {p p' p1 p2 pos : Pos}
theorem mk_endN {pins : List (Addr × Obj)} {σ : St} {H1 H2 : Hp} {Q : XK} {hp hp2 h2 : Heap} {g1 g2 : Array GenState} {d1 d2 : Drawn} {t1 t2 : Nat} {os1 os2 : OsState} {a C d : Addr} {fs : List (Str × V)} (T : Raises X (.ref C)) (I1 : Inv X pins σ H1 ⟨hp, g1, d1, t1, os1⟩)
    (ha : hp.objs.size ≤ a) (k : ∀ b o, hp.get? b = some o → hp2.get? b = some o) (un : Un (frs X.stack) [] (upd H1 a (exo a C none)) H2 hp2 h2) (hok : HOk X.prog X.w H2 h2) (ho : os2 = os1) (hb : AllBare g2)
    (ea : H2 a = some (exo a C (some d))) (ed : H2 d = some (exd d fs)) (hd1 : H1 d = none) (q : Q (.ref C) (some d) (upd (del H2 a) d (.xd fs))) : L2N.MkP X pins σ Q (.ref a) ⟨h2, g2, d2, t2, os2⟩ := by
  obtain ⟨t0, G, J, kG, ge, hoe, na⟩ := mk_end0 (d2 := d2) (t2 := t2) I1 ha k un hok ho hb ea ed hd1
  exact ⟨a, _, _, ⟨G, g2, d2, t2, os2⟩, _, .ref C, some d, rfl, J, kG, ge, hoe, ⟨rfl, rfl, fun vs e => by cases e; rfl⟩, rfl, rfl, na, rfl, hb, T, q⟩
end
end L2
namespace VF
open PySem PySem.Spec PyProof.Rows L2
theorem oex_of {K : PySem.W.Frag} {C : Addr} (q : oexB K C = true) : OexC K C := by
  unfold oexB at q
  simp only [Bool.and_eq_true, decide_eq_true_eq] at q
  obtain ⟨q1, q2, q3, q4, q5⟩ := q
  refine ⟨?_, He.eqO_ok q2, q3, q4, q5⟩
  split at q1
  · rename_i dd cd sl ho
    split at q1
    · rename_i C' bm k0 k1 k2 k3 n k5 hm hs
      simp only [Bool.and_eq_true, beq_iff_eq, Bool.not_eq_true'] at q1
      obtain ⟨⟨⟨⟨rfl, rfl⟩, hdel⟩, hdct⟩, ht⟩ := q1
      obtain ⟨nm, bs, mro, ns, qn, hd, sn, sub, ab, col, del⟩ := cd
      dsimp only at hm hdel hdct
      subst hm hdel hdct
      have hsl : sl = #[k0, k1, k2, k3, some (.builtin "ValueError.__new__"), k5] := by
        obtain ⟨l⟩ := sl
        simp only at hs
        rw [hs]
      subst hsl
      exact ⟨nm, qn, ns, bs, bm, sn, sub, ab, col, dd, k0, k1, k2, k3, k5, ho, ht⟩
    · cases q1
  · cases q1
def spW (K : PySem.W.Frag) (f : Str) : Sp := fun vs H Q _ => ∃ (a C : Addr) (w : V), vs = [.ref a, w] ∧ OexC K C ∧ PySem.W.findIn K (.ref C) f = some none ∧ H a = some (exo a C none) ∧
  ∀ dx, H dx = none → dx ≠ a → Q .non (upd (upd H dx (exd dx [(f, w)])) a (exo a C (some dx)))
structure ErV (M : Md) (k : Nat) (c f : Str) (dd : List D) : Prop where
  ex : ∃ C fI fd ps dvs ds, M.mg c = some (.ref C) ∧ OexC M.K C ∧ PySem.W.findIn M.K (.ref C) f = some none ∧ PySem.W.findIn M.K (.ref C) "__init__" = some (some (.ref fI)) ∧ PySem.W.typeIn M.K (.ref fI) = some (.type "function") ∧
    FnOk M.P M.w M.K M.mg M.base (L2N.CX M.P M.w) k fI fd ps (spW M.K f) ∧ ConstD M dd dvs ∧ Vals dvs ds ∧ Binds M.K fd ps ds
section
variable {M : Md} {cs : Cs} {W : WX} {k : Nat} {X : Cx}
theorem made_heap {H : Hp} {a dx C : Addr} {fs : List (Str × V)} (ha : H a = none) (hdx : dx ≠ a) : upd (del (upd (upd (upd H a (exo a C none)) dx (exd dx fs)) a (exo a C (some dx))) a) dx (.xd fs) = upd H dx (.xd fs) := by
  funext b
  by_cases h1 : b = dx
  · rw [h1, upd_same, upd_same]
  · rw [upd_ne h1, upd_ne h1]
    by_cases h2 : b = a
    · rw [h2, del_same, ha]
    · rw [del_ne h2, upd_ne h2, upd_ne h1, upd_ne h2]
end
end VF
namespace VF
open PySem PySem.Spec PyProof.Rows L2
structure Same (M N : Md) : Prop where
  k : M.K = N.K
  g : M.mg = N.mg
  c : M.cls = N.cls
  t : M.T = N.T
mutual
theorem Rep.same {M N : Md} {F : Addr → Prop} {H : Hp} (e : Same M N) : ∀ (d : D) {v : V}, Rep M F H d v → Rep N F H d v
  | .non, _, h => by unfold Rep at h ⊢; exact h
  | .bl _, _, h => by unfold Rep at h ⊢; exact h
  | .int _, _, h => by unfold Rep at h ⊢; exact h
  | .str _, _, h => by unfold Rep at h ⊢; exact h
  | .tup ds, _, h => by
    unfold Rep at h ⊢
    obtain ⟨a, vs, e1, q, r⟩ := h
    exact ⟨a, vs, e1, by rw [← e.k]; exact q, RepL.same e ds r⟩
  | .lst ds, _, h => by
    unfold Rep at h ⊢
    obtain ⟨a, vs, e1, q, r⟩ := h
    exact ⟨a, vs, e1, by rw [← e.k]; exact q, RepL.same e ds r⟩
  | .dck ks ds, _, h => by
    unfold Rep at h ⊢
    obtain ⟨a, vs, e1, f, q, k, r⟩ := h
    exact ⟨a, vs, e1, f, q, k, RepL.same e ds r⟩
  | .dct ks ds, _, h => by
    unfold Rep at h ⊢
    obtain ⟨a, vs, e1, f, q, k, r⟩ := h
    exact ⟨a, vs, e1, f, q, k, RepL.same e ds r⟩
  | .ins c fs ds, _, h => by
    unfold Rep at h ⊢
    obtain ⟨a, C, dx, vs, e1, f, m, q, k, r⟩ := h
    exact ⟨a, C, dx, vs, e1, f, by rw [← e.c, ← e.g]; exact m, q, k, RepL.same e ds r⟩
  | .exn c fs ds a dx, _, h => by
    unfold Rep at h ⊢
    obtain ⟨e1, C, vs, m, f, q, k, r⟩ := h
    exact ⟨e1, C, vs, by rw [← e.g]; exact m, f, q, k, RepL.same e ds r⟩
  | .tpp ds, _, h => by
    unfold Rep at h ⊢
    obtain ⟨a, vs, o, e1, f, q, n, r⟩ := h
    exact ⟨a, vs, o, e1, f, q, n, RepL.same e ds r⟩
theorem RepL.same {M N : Md} {F : Addr → Prop} {H : Hp} (e : Same M N) : ∀ (ds : List D) {vs : List V}, RepL M F H ds vs → RepL N F H ds vs
  | [], _, h => by unfold RepL at h ⊢; exact h
  | d :: ds, _, h => by
    unfold RepL at h ⊢
    obtain ⟨v, r, e1, p, q⟩ := h
    exact ⟨v, r, e1, Rep.same e d p, RepL.same e ds q⟩
end
theorem Cont.same {M N : Md} {F : Addr → Prop} {H : Hp} {P : HO → Prop} (e : Same M N) : ∀ {d : D}, Cont M F H P d → Cont N F H P d
  | .lst ds, ⟨vs, p, r⟩ => ⟨vs, p, RepL.same e ds r⟩
  | .dck ks ds, ⟨vs, p, k, r⟩ => ⟨vs, p, k, RepL.same e ds r⟩
  | .dct ks ds, ⟨vs, p, k, r⟩ => ⟨vs, p, k, RepL.same e ds r⟩
  | .ins c fs ds, ⟨C, dx, vs, m, p, k, r⟩ => ⟨C, dx, vs, by rw [← e.c, ← e.g]; exact m, p, k, RepL.same e ds r⟩
theorem SlR.same {M N : Md} {F : Addr → Prop} {H : Hp} (e : Same M N) : ∀ {s : Sl} {v : V}, SlR M F H s v → SlR N F H s v
  | .val d, _, h => Rep.same e d h
  | .own d, _, ⟨a, q, nf, c⟩ => ⟨a, q, nf, c.same e⟩
  | .ref d, _, ⟨a, q, nf, c⟩ => ⟨a, q, nf, c.same e⟩
  | .rd d, _, ⟨a, q, nf, c⟩ => ⟨a, q, nf, c.same e⟩
theorem SR.same {M N : Md} {F : Addr → Prop} {H : Hp} {σ : St} {ρ : En} (e : Same M N) (s : SR M F H σ ρ) (x : XnOk N F H σ) : SR N F H σ ρ :=
  ⟨s.len, s.dom, fun i t h => by obtain ⟨v, h1, h2⟩ := s.slot i t h; exact ⟨v, h1, h2.same e⟩, s.dist, x⟩
theorem PoS.same {M N : Md} {F F' : Addr → Prop} {H H' : Hp} {σ σ' : St} {ρ ρ' : En} (e : Same M N) (p : PoS M F H σ ρ F' H' σ' ρ') (x : XnOk N F' H' σ') : PoS N F H σ ρ F' H' σ' ρ' := ⟨p.stp, p.sr.same e x, p.kp⟩
theorem RtR.same {M N : Md} {O F : Addr → Prop} {H0 H : Hp} {r : Rv} {v : V} (e : Same M N) (h : RtR M O H0 F H r v) : RtR N O H0 F H r v := by
  cases r with
  | val d => exact Rep.same e d h
  | own d =>
    obtain ⟨a, q, nf, z, c⟩ := h
    exact ⟨a, q, nf, z, c.same e⟩
def Md.on (M : Md) (t : Xn) : Md := { M with xn := some t }
theorem same_on (M : Md) (t : Xn) : Same M (M.on t) := ⟨rfl, rfl, rfl, rfl⟩
theorem same_off (M : Md) (t : Xn) : Same (M.on t) M := ⟨rfl, rfl, rfl, rfl⟩
def endK (i : Nat) : SO → SO
  | .nx ρ => .nx (ρ.set i none)
  | .bk ρ => .bk (ρ.set i none)
  | .ct ρ => .ct (ρ.set i none)
  | .rt r ρ => .rt r (ρ.set i none)
  | _ => .bad
def tryAs (body : SS) (tbl : Str → Option Bool) (i : Nat) (su : Ex → SS) : SS := fun ρ => match body ρ with
  | .exc x ρ' => (match tbl x.cls with
    | some true => if noRef (gt ρ' i) = true ∧ i < ρ'.length then endK i (su x (ρ'.set i none)) else .bad
    | some false => .exc x ρ'
    | none => .bad)
  | o => o
structure GX (M : Md) (cs : Cs) (k : Nat) (X : Cx) (a dx C : Addr) (oe : Obj) (pn : List (Addr × Obj)) (i : Nat) (x : Ex) : Prop where
  g : G0 (M.on ⟨i, a, dx, x.fs, x.ds⟩) cs k (X.suite a ((a, oe) :: pn))
  hz : L2N.Zn (.ref C) (some dx) oe
  hf : ∃ vs, oe.data = .fields vs
  hC : M.mg x.cls = some (.ref C)
structure GF (M : Md) (cs : Cs) (W : WX) (k : Nat) (X : Cx) : Prop extends G M cs W k X where
  stk : X.stack = X.env :: X.outer
  frm : X.env.frame = some X.env.locals
section
variable {M : Md} {cs : Cs} {W : WX} {k : Nat} {X : Cx}
theorem GF.tr (g : GF M cs W k X) {W' : WX} {pn : List (Addr × Obj)} {xe : Value → Shared → Prop} (tk : L2N.Takes (X.tr pn xe) W') (ps : PassesOwn (model X.prog X.w) X.A X.env xe) : GF M cs W' k (X.tr pn xe) :=
  ⟨⟨⟨g.hP, g.hw, g.hb, g.hK, g.hmg, g.hN, g.nd, g.hsc, g.hfn, g.un⟩, g.calm, tk, g.room, ps, g.nx⟩, g.stk, g.frm⟩
theorem s_tryAs (g : GF M cs W k X) {i : Nat} {c n : Str} {cv : Value} {body suite : List Stmt} {b₀ : Stmt} {np pos pos' : Pos} {b : SS} {tbl : Str → Option Bool} {su : Ex → SS}
    (hi : cs.N[i]? = some n) (hln : cs.sc.names.lookup n = some .local) (hg : cs.sc.names.lookup c = some .globalImplicit) (hdb : (c == ("__debug__" : Str)) = false) (hcv : M.mg c = some cv)
    (htb : ∀ e C r, M.mg e = some (.ref C) → tbl e = some r → PySem.W.exmOne M.K (.ref C) cv = some r)
    (hb : ∀ X W, GF M cs W k X → PSs X body (tS M W b))
    (hsu : ∀ (a dx C : Addr) (oe : Obj) (pn : List (Addr × Obj)) (x : Ex), GX M cs k X a dx C oe pn i x → PSs (X.suite a ((a, oe) :: pn)) (b₀ :: suite) (tS (M.on ⟨i, a, dx, x.fs, x.ds⟩) WF (su x))) :
    PS X (.Try body [.ExceptHandler (some (.Name c np)) (some n) (b₀ :: suite) pos'] [] [] pos) (tS M W (tryAs b tbl i su)) := by
  let ts : Addr → Value → Option Addr → TS := fun a cls d D σ H => ∃ x F ρ, ExR M F H x cls d ∧ gv σ i = some (.ref a) ∧ SR M F H σ ρ ∧ ∀ t : Xn, t.i = i → WantS (M.on t) WF F H σ ρ (su x ρ) D
  refine PS_imp (L2N.ps_try_as (tb := fun W => tS M W b) (ts := ts) g.stk g.frm (by rw [g.hN]; exact g.nd) (by rw [g.hN]; exact hi) (show X.env.scope.names.lookup n = _ by rw [g.hsc]; exact hln) ⟨g.toG0.gl hg, hdb, .inl (by rw [g.hmg]; exact hcv)⟩ g.tk (fun W' pn xe tk ps => hb _ W' (g.tr tk ps)) fun a oe cls d pn hz hf => ?_) fun D σ H h => ?_
  · refine ⟨fun pins s σ H D I h => ?_⟩
    obtain ⟨x, F, ρ, ⟨C, dx, vs, hC, rfl, rfl, hF, hH, hk, l⟩, hv, sr, w⟩ := h
    have gx : GX M cs k X a dx C oe pn i x := ⟨⟨g.hP, g.hw, g.hb, g.hK, g.hmg, g.hN, g.nd, g.hsc, g.hfn, g.un⟩, hz, hf, hC⟩
    refine (hsu a dx C oe pn x gx).run pins s σ H D I ⟨F, ρ, sr.same (same_on M _) ⟨fun t e => ?_, sr.xn.2⟩, w _ rfl⟩
    cases e
    exact ⟨hv, hF, vs, hH, hk, RepL.same (same_on M _) _ l⟩
  · obtain ⟨F, ρ, s, h⟩ := h
    refine ⟨F, ρ, s, ?_⟩
    unfold tryAs at h
    cases e1 : b ρ with
    | nx ρ1 => simp only [e1] at h; exact h
    | bk ρ1 => simp only [e1] at h; exact h
    | ct ρ1 => simp only [e1] at h; exact h
    | rt r ρ1 => simp only [e1] at h; exact h
    | bad => simp only [e1] at h; exact h
    | exc x ρ1 =>
      simp only [e1] at h
      intro F1 H1 σ1 cls d po xr
      obtain ⟨C, dx, vs, hC, rfl, rfl, hF, hH, hk, l⟩ := xr
      cases e2 : tbl x.cls with
      | none => simp only [e2] at h; exact h.elim
      | some r =>
        refine ⟨r, by rw [g.hK]; exact htb _ C r hC e2, fun hr a ha => ?_, fun hr => ?_⟩
        · subst hr
          simp only [e2] at h
          by_cases hc : noRef (gt ρ1 i) = true ∧ i < ρ1.length
          · rw [if_pos hc] at h
            have h := h.step po
            have sf := (forget po.sr hc.1).sr
            have key : ∀ {j : Nat} {t : Sl}, gt (ρ1.set i none) j = some t → i ≠ j := fun {j t} h z => by
              subst z
              rw [gt_set_self hc.2] at h
              cases h
            have s2 : SR M F1 H1 (σ1.set i (some (.ref a))) (ρ1.set i none) := by
              refine ⟨by rw [List.length_set]; exact sf.len, sf.dom, fun j t h => ?_, fun j l t u b h1 h2 h3 h4 h5 h6 => ?_, .no g.nx sf.xn.2⟩
              · rw [gv_set_ne (key h)]
                exact sf.slot j t h
              · rw [gv_set_ne (key h1)] at h5
                rw [gv_set_ne (key h2)] at h6
                exact sf.dist j l t u b h1 h2 h3 h4 h5 h6
            have gvi : gv (σ1.set i (some (.ref a))) i = some (.ref a) := gv_set_self (by rw [po.sr.len]; exact hc.2)
            refine ⟨x, F1, ρ1.set i none, ⟨C, dx, vs, hC, rfl, rfl, hF, hH, hk, l⟩, gvi, s2, fun t ti => ?_⟩
            have back : ∀ {F2 : Addr → Prop} {H2 : Hp} {σ2 : St} {ρ2 : En}, PoS (M.on t) F1 H1 (σ1.set i (some (.ref a))) (ρ1.set i none) F2 H2 σ2 ρ2 → PoS M F1 H1 σ1 ρ1 F2 H2 (σ2.set i none) (ρ2.set i none) := fun {F2 H2 σ2 ρ2} p => by
              have ow : ∀ b, OwnAt (σ1.set i (some (.ref a))) (ρ1.set i none) b → OwnAt σ1 ρ1 b := fun b ⟨j, d, h1, h2⟩ => by
                have hj := key h1
                rw [gt_set_ne hj] at h1
                rw [gv_set_ne hj] at h2
                exact ⟨j, d, h1, h2⟩
              have rf : ∀ b, RefAt (σ1.set i (some (.ref a))) (ρ1.set i none) b → RefAt σ1 ρ1 b := fun b ⟨j, d, h1, h2⟩ => by
                have hj := key h1
                rw [gt_set_ne hj] at h1
                rw [gv_set_ne hj] at h2
                exact ⟨j, d, h1, h2⟩
              have l2 : i < ρ2.length := by
                have := p.kp.1
                rw [List.length_set] at this
                rw [← this]
                exact hc.2
              have key2 : ∀ {j : Nat} {t : Sl}, gt (ρ2.set i none) j = some t → i ≠ j := fun {j t} h z => by
                subst z
                rw [gt_set_self l2] at h
                cases h
              refine ⟨⟨p.stp.fro, fun b o h1 h2 h3 => p.stp.keep b o h1 (fun z => h2 (ow b z)) fun z => h3 (rf b z), p.stp.dom, fun b h => ?_, fun b h => ?_, fun b h => ?_⟩, ⟨by rw [List.length_set, List.length_set]; exact p.sr.len, p.sr.dom, fun j u h => ?_, fun j l u w b h1 h2 h3 h4 h5 h6 => ?_, .no g.nx p.sr.xn.2⟩, by rw [List.length_set]; exact (List.length_set (as := ρ1)).symm.trans p.kp.1, fun j => ?_⟩
              · rcases p.stp.new b h with z | z | z
                · exact .inl z
                · exact .inr (.inl z)
                · exact .inr (.inr (ow b z))
              · obtain ⟨j, d, h1, h2⟩ := h
                have hj := key2 h1
                rw [gt_set_ne hj] at h1
                rw [gv_set_ne hj] at h2
                rcases p.stp.own b ⟨j, d, h1, h2⟩ with z | z
                · exact .inl (ow b z)
                · exact .inr z
              · obtain ⟨j, d, h1, h2⟩ := h
                have hj := key2 h1
                rw [gt_set_ne hj] at h1
                rw [gv_set_ne hj] at h2
                exact rf b (p.stp.ref b ⟨j, d, h1, h2⟩)
              · have hj := key2 h
                rw [gt_set_ne hj] at h
                rw [gv_set_ne hj]
                obtain ⟨v, k1, k2⟩ := p.sr.slot j u h
                exact ⟨v, k1, k2.same (same_off M t)⟩
              · have hj := key2 h1
                have hl := key2 h2
                rw [gt_set_ne hj] at h1
                rw [gt_set_ne hl] at h2
                rw [gv_set_ne hj] at h5
                rw [gv_set_ne hl] at h6
                exact p.sr.dist j l u w b h1 h2 h3 h4 h5 h6
              · by_cases hj : i = j
                · subst hj
                  rw [gt_set_self l2]
                  refine ⟨fun d h => ?_, fun d h => ?_, fun d h => (by cases h), fun d h => (by cases h)⟩
                  · have := hc.1; rw [h] at this; cases this
                  · have := hc.1; rw [h] at this; cases this
                · have z := p.kp.2 j
                  rw [gt_set_ne hj, gv_set_ne hj] at z
                  rw [gt_set_ne hj, gv_set_ne hj]
                  exact z
            cases e3 : su x (ρ1.set i none) with
            | nx ρ2 => rw [e3] at h; exact fun F2 H2 σ2 p => h F2 H2 _ (back p)
            | bk ρ2 => rw [e3] at h; exact fun F2 H2 σ2 p => h F2 H2 _ (back p)
            | ct ρ2 => rw [e3] at h; exact fun F2 H2 σ2 p => h F2 H2 _ (back p)
            | rt r ρ2 =>
              rw [e3] at h
              refine fun F2 H2 σ2 v p rt => h F2 H2 _ v (back p) ?_
              have rt := rt.same (same_off M t)
              cases r with
              | val d => exact rt
              | own d =>
                obtain ⟨b, q, nf, z, c⟩ := rt
                refine ⟨b, q, nf, z.imp id fun z => ?_, c⟩
                obtain ⟨j, d', h1, h2⟩ := z
                have hj := key h1
                rw [gt_set_ne hj] at h1
                rw [gv_set_ne hj] at h2
                exact ⟨j, d', h1, h2⟩
            | exc y ρ2 => rw [e3] at h; exact h.elim
            | bad => rw [e3] at h; exact h.elim
          · rw [if_neg hc] at h
            exact h.elim
        · subst hr
          simp only [e2] at h
          exact h F1 H1 σ1 (.ref C) (some dx) po ⟨C, dx, vs, hC, rfl, rfl, hF, hH, hk, l⟩
end
end VF
namespace VF
open PySem PySem.Spec PyProof.Rows L2
structure ExcK (K : PySem.W.Frag) (C : Addr) : Prop where
  cl : (PySem.W.clsIn K C).isSome = true
  ga : PySem.W.findIn K (.ref C) "__getattribute__" = some (some (.builtin "BaseException.__getattribute__"))
  gg : PySem.W.findIn K (.ref C) "__getattr__" = some none
  sub : PySem.W.subIn K (.ref C) (.type "BaseException") = some true
  hd : PySem.W.hasDictIn K C = true
  ca : PySem.W.findIn K (.ref C) "__class__" = some (some (.builtin "object.__class__"))
  cn : PySem.W.specialIn K (.builtin "object.__class__") "__get__" = some (some (.builtin "getset_descriptor.__get__"))
  ct : PySem.W.takesIn K (.builtin "object.__class__") = some true
  cm : PySem.W.mroIn K C (.type "object") = some true
theorem excK_of {K : PySem.W.Frag} {C : Addr} (h : excKB K C = true) : ExcK K C := by
  unfold excKB at h
  simp only [Bool.and_eq_true, decide_eq_true_eq] at h
  obtain ⟨h1, h2, h3, h4, h5, h6, h7, h8, h9⟩ := h
  exact ⟨h1, He.eqO_ok h2, He.eqO_ok h3, h4, h5, He.eqO_ok h6, He.eqO_ok h7, h8, h9⟩
def xfE (x : Ex) (f : Str) : ES := fun ρ => match kget x.fs x.ds f with
  | some d => .ok (.val d) ρ
  | none => .bad
def xis (tbl : Str → Option Bool) (x : Ex) : ES := fun ρ => match tbl x.cls with
  | some b => .ok (.val (.bl b)) ρ
  | none => .bad
section
variable {M : Md} {cs : Cs} {W : WX} {k : Nat} {X : Cx} {a dx C : Addr} {oe : Obj} {pn : List (Addr × Obj)} {i : Nat} {x : Ex}
theorem e_xf (gx : GX M cs k X a dx C oe pn i x) {n f : Str} {p pos : Pos} (hi : cs.N[i]? = some n) (hv : Vis cs.sc n) (hd : (n == ("__debug__" : Str)) = false) (hcd : (n == ("__classdict__" : Str)) = false) (T : ExcK M.K C) (hno : PySem.W.findIn M.K (.ref C) f = some none)
    (hb : attributeBase (.Name n p) f X.env (eval (.Name n p) X.env) = eval (.Name n p) X.env) : PE (X.suite a ((a, oe) :: pn)) (.Attribute (.Name n p) f pos) (tE (M.on ⟨i, a, dx, x.fs, x.ds⟩) W (xfE x f)) := by
  have hK : X.K = M.K := gx.g.hK
  refine PE_imp (pe_xf (C := C) ⟨by rw [hK]; exact T.ga, by rw [hK]; exact T.gg, by rw [hK]; exact T.sub, by rw [hK]; exact T.hd⟩ (by rw [hK]; exact hno) gx.hz.zc gx.hf (pe_var (X := X.suite a ((a, oe) :: pn)) (i := i) (show X.N[i]? = some n by rw [show X.N = cs.N from gx.g.hN]; exact hi) (gx.g.vis hv) hd hcd) hb) fun σ H Q ⟨F, ρ, s, h⟩ => ?_
  obtain ⟨h1, h2, vs, h3, h4, h5⟩ := s.xn.1 _ rfl
  refine ⟨.ref a, gv_some h1, rfl, rfl, dx, vs, ?_⟩
  unfold xfE at h
  cases e : kget x.fs x.ds f with
  | none => simp only [e] at h; exact h.elim
  | some d =>
    simp only [e] at h
    obtain ⟨v, h6, h7⟩ := kget_rep h4 h5 e
    exact ⟨v, rfl, h3, h6, h F H (.refl s) v h7⟩
theorem call_isX (gx : GX M cs k X a dx C oe pn i x) (T : ExcK M.K C) : CallR (X.suite a ((a, oe) :: pn)) (.builtin "isinstance") (fun xs H Q => ∃ c u b vs, xs = [.ref a, c] ∧ ClsV c u ∧ H dx = some (.xd vs) ∧ PySem.W.kitOne M.K (.ref C) u = some b ∧ Q (.bl b) H) := by
  intro pins s σ H xs us Q I r h
  obtain ⟨c, u, b, vs, rfl, hc, hH, e, q⟩ := h
  obtain ⟨u1, u2, rfl, r1, r2⟩ := vals2 r
  cases r1
  have e2 := hc.eq r2
  subst e2
  have hK : X.K = M.K := gx.g.hK
  obtain ⟨hget, _⟩ := I.pin (a, oe) (List.mem_append.mpr (.inl List.mem_cons_self))
  obtain ⟨fv, hv⟩ := gx.hf
  obtain ⟨mA, hns, _⟩ := (show ObjOk X.prog X.w H s.heap dx (.xd vs) from I.hok dx _ hH)
  obtain ⟨od, ho, _⟩ := lookIn_ns hns
  have J : PySem.W.InstAt s.heap a oe C (some od) := ⟨hget, gx.hz.1, by unfold PySem.W.notCls; rw [hv] <;> rfl, by rw [gx.hz.2.1]; exact ho⟩
  have Kin : M.K.In s.heap := by rw [← hK]; exact I.kIn
  exact PySem.W.kia_one (PySem.W.kitx_exc T.cl T.ga T.gg T.sub T.ca T.cn T.ct T.cm) Kin J e (fun z => nomatch z) fun tk => ⟨.bl b, H, I.kept (t' := tk) fun _ _ z => z, rfl, q⟩
theorem e_isX (gx : GX M cs k X a dx C oe pn i x) {n c2 : Str} {cv : V} {u : Value} {tbl : Str → Option Bool} {p p1 p2 pos : Pos} (hi : cs.N[i]? = some n) (hv : Vis cs.sc n) (hd : (n == ("__debug__" : Str)) = false) (hcd : (n == ("__classdict__" : Str)) = false) (hg : cs.sc.names.lookup ("isinstance" : Str) = some .globalImplicit) (hm : M.mg "isinstance" = none)
    (hc : PE (X.suite a ((a, oe) :: pn)) (.Name c2 p2) (tC cv)) (hcv : ClsV cv u) (T : ExcK M.K C) (ht : ∀ b, tbl x.cls = some b → PySem.W.kitOne M.K (.ref C) u = some b) :
    PE (X.suite a ((a, oe) :: pn)) (.Call (.Name "isinstance" p) [.Name n p1, .Name c2 p2] [] pos) (tE (M.on ⟨i, a, dx, x.fs, x.ds⟩) W (xis tbl x)) := by
  refine PE_imp (pe_callB (call_isX gx T) (gx.g.gl hg) (show X.mg "isinstance" = none by rw [show X.mg = M.mg from gx.g.hmg]; exact hm) boot_isinstance (pa_cons (pe_var (X := X.suite a ((a, oe) :: pn)) (i := i) (show X.N[i]? = some n by rw [show X.N = cs.N from gx.g.hN]; exact hi) (gx.g.vis hv) hd hcd) (pa_cons hc pa_nil rfl) rfl) (by decide) rfl rfl rfl) fun σ H Q ⟨F, ρ, s, h⟩ => ?_
  obtain ⟨h1, h2, vs, h3, h4, h5⟩ := s.xn.1 _ rfl
  refine ⟨.ref a, gv_some h1, ?_⟩
  unfold xis at h
  cases e : tbl x.cls with
  | none => simp only [e] at h; exact h.elim
  | some b =>
    simp only [e] at h
    exact ⟨cv, u, b, vs, rfl, hcv, h3, ht b e, h F H (.refl s) (.bl b) (rep_bl b)⟩
end
end VF
namespace VF
open PySem PySem.Spec PyProof.Rows L2
theorem swap_two {x y : Str} {a b : Expr} {px py pt : Pos} {kt k2 : Nat} {pt2 : Pos} {env : Env} (hk : env.scope.kind = .function) (hx : env.scope.names.lookup x = some .local) (hy : env.scope.names.lookup y = some .local) (hxy : (x == y) = false) (hl : (py.line == px.line) = true)
    (hst : ([a, b].any fun | .Starred .. => true | _ => false) = false) (hf : [a, b].all (foldedForSure 8) = false) (hc : [a, b].all (constantsAlone 8) = false) :
    swappedStores [.Tuple [.Name x px, .Name y py] kt pt] (.Tuple [a, b] k2 pt2) env = pure (some [x, y]) := by
  have kx : env.kindOf x = some .local := hx
  have ky : env.kindOf y = some .local := hy
  have hb : env.blockKind = .function := by unfold Env.blockKind; rw [hk]; rfl
  have hne : x ≠ y := fun z => by simp [z] at hxy
  have hl' : py.line = px.line := by simpa using hl
  have ed : [x, y].eraseDups = [x, y] := by
    rw [List.eraseDups_cons]
    have : (y == x) = false := by simpa using fun z => hne z.symm
    simp [this, List.eraseDups_cons]
  unfold swappedStores
  simp only [hb, hst, hf, hc]
  simp [kx, ky, hl', Expr.pos, ed]
  intro z
  exfalso
  simp only [List.any_cons, List.any_nil, Bool.or_false, Bool.or_eq_false_iff] at hst
  obtain ⟨h1, h2⟩ := hst
  rcases z with z | z
  · cases a <;> first | (cases z; done) | (cases h1; done)
  · cases b <;> first | (cases z; done) | (cases h2; done)
def parS (i j : Nat) (φ ψ : ES) : SS := fun ρ => (evs [.ex φ, .ex ψ] ρ).bindS fun xs ρ1 => match vals xs with
  | some [d, e] => if (noRef (gt ρ1 i) = true ∧ i < ρ1.length) ∧ (noRef (gt ρ1 j) = true ∧ j < ρ1.length) then .nx ((ρ1.set i (some (.val d))).set j (some (.val e))) else .bad
  | _ => .bad
section
variable {M : Md} {cs : Cs} {W : WX} {k : Nat} {X : Cx}
theorem s_par (g : G M cs W k X) {i j : Nat} {x y : Str} {a b : Expr} {px py pt pos : Pos} {kt k2 : Nat} {pt2 : Pos} {φ ψ : ES} (hi : cs.N[i]? = some x) (hj : cs.N[j]? = some y) (hij : i ≠ j) (hk : cs.sc.kind = .function) (hx : cs.sc.names.lookup x = some .local) (hy : cs.sc.names.lookup y = some .local) (hxy : (x == y) = false) (hl : (py.line == px.line) = true)
    (hst : ([a, b].any fun | .Starred .. => true | _ => false) = false) (hf : [a, b].all (foldedForSure 8) = false) (hc : [a, b].all (constantsAlone 8) = false) (ha : PA X [a, b] (tOs M W [.ex φ, .ex ψ])) (hs : swapsWithSole [.Tuple [.Name x px, .Name y py] kt pt] (.Tuple [a, b] k2 pt2) pos.line X.env = pure false) :
    PS X (.Assign [.Tuple [.Name x px, .Name y py] kt pt] (.Tuple [a, b] k2 pt2) pos) (tS M W (parS i j φ ψ)) := by
  refine PS_imp (ps_par g.calm (by rw [g.hN]; exact g.nd) (by rw [g.hN]; exact hi) (by rw [g.hN]; exact hj) hij (by rw [g.hsc]; exact hx) (by rw [g.hsc]; exact hy) ha (swap_two (by rw [g.hsc]; exact hk) (by rw [g.hsc]; exact hx) (by rw [g.hsc]; exact hy) hxy hl hst hf hc) hs) fun D σ H ⟨F, ρ, s, h⟩ => ?_
  refine ops_run _ s ((bindS_want h).mono fun xs F1 H1 ρ1 po z vs rs => ?_)
  have z := z.step po.s
  cases e1 : vals xs with
  | none => simp only [e1] at z; exact z.elim
  | some ds =>
    have l := vals_rep e1 rs
    simp only [e1] at z
    match ds, l, z with
    | [d, e], l, z =>
      unfold RepL at l
      obtain ⟨v, r, rfl, p1, l⟩ := l
      unfold RepL at l
      obtain ⟨w, r2, rfl, p2, l⟩ := l
      unfold RepL at l
      subst l
      refine ⟨v, w, rfl, ?_⟩
      by_cases hc : (noRef (gt ρ1 i) = true ∧ i < ρ1.length) ∧ (noRef (gt ρ1 j) = true ∧ j < ρ1.length)
      · simp only [if_pos hc] at z
        have q1 := put_val po.sr (g.lk i) hc.1.2 hc.1.1 p1
        have q2 := put_val q1.sr (g.lk j) (by rw [List.length_set]; exact hc.2.2) (by rw [gt_set_ne hij]; exact hc.2.1) p2
        exact z F1 H1 _ (q1.trans q2)
      · simp only [if_neg hc] at z
        exact z.elim
    | [], _, z => exact z.elim
    | [_], _, z => exact z.elim
    | _ :: _ :: _ :: _, _, z => exact z.elim
end
end VF
namespace VF
open PySem PySem.Spec PyProof.Rows L2
theorem init_why {M : Md} {qual : Str} {params : Arguments} {scope : Scope} {dvs : List V} {kws : List (Str × V)} {f : Addr} {fd : FuncData} {p1 p2 p3 p4 p5 p6 p7 p8 p9 p10 : Pos}
    (F : FunD M.K "__init__" qual params [.Expr (.Call (.Attribute (.Name "ValueError" p1) "__init__" p2) [.Name "self" p3, .Name "why" p4] [] p5) p6, .Assign [.Attribute (.Name "self" p7) "why" p8] (.Name "why" p9) p10] scope dvs kws f fd)
    (S : FnScope ["self", "why"] ["self", "why"] scope) (hg : scope.names.lookup ("ValueError" : Str) = some .globalImplicit) (h0 : Vis scope "self") (h1 : Vis scope "why") (hm : M.mg "ValueError" = none)
    {plq : Env → Sem Bool} (hev : ∀ env : Env, eval (.Call (.Attribute (.Name "ValueError" p1) "__init__" p2) [.Name "self" p3, .Name "why" p4] [] p5) env = (do
      let ov ← eval (.Name "ValueError" p1) env
      standAt p2.atName
      let (f, first) ← holding [ov] (getMethod ov "__init__" (plq env))
      callWith p5 f first (backTo p5 (starEach [.Name "self" p3, .Name "why" p4] env)) (backToKw p5 (keywordEach [] env))))
    (vV : PySem.W.findCls M.K (.type "ValueError") (.type "type") "__init__" = some (.val (.builtin "ValueError.__init__"))) : FnOk M.P M.w M.K M.mg M.base (L2N.CX M.P M.w) 1 f fd ["self", "why"] (spW M.K "why") := by
  refine F.ok (k := 0) S (fun vs H Q E h => ?_) fun cdv A outer s H vs Q E hr h => ?_
  · obtain ⟨a, C, w, rfl, _⟩ := h
    rfl
  · refine ⟨tSeq (tDrop (tVeI M.K (tCons (tVar 0) (tCons (tVar 1) tNil)))) (tOst M.K "why" (tVar 0) (tVar 1)), ?_, ?_⟩
    · have v0 : ∀ {pos : Pos}, PE (cxOf (L2N.CX M.P M.w) M.P M.w M.K M.mg M.base ["self", "why"] qual scope f cdv A outer s H E) (.Name "self" pos) (tVar 0) := fun {pos} => pe_var rfl h0 (by decide +kernel) (by decide +kernel)
      have v1 : ∀ {pos : Pos}, PE (cxOf (L2N.CX M.P M.w) M.P M.w M.K M.mg M.base ["self", "why"] qual scope f cdv A outer s H E) (.Name "why" pos) (tVar 1) := fun {pos} => pe_var rfl h1 (by decide +kernel) (by decide +kernel)
      exact pss_cons (ps_expr (pe_veinit hg hm vV (pa_cons v0 (pa_cons v1 pa_nil)) (hev _))) (pss_one (ps_ost v0 v1))
    · obtain ⟨a, C, w, rfl, T, hno, ha, q⟩ := h
      exact ⟨.ref a, rfl, w, rfl, a, C, [w], rfl, by simp, T, ha, w, rfl, .ref a, rfl, a, C, rfl, T, hno, .inl ⟨ha, fun dx h1 h2 => q dx h1 h2⟩⟩
end VF
namespace VF
open PySem PySem.Spec PyProof.Rows L2
structure InsK (K : PySem.W.Frag) (C : Addr) : Prop where
  cl : Cls K C
  ca : PySem.W.findIn K (.ref C) "__class__" = some (some (.builtin "object.__class__"))
  cn : PySem.W.specialIn K (.builtin "object.__class__") "__get__" = some (some (.builtin "getset_descriptor.__get__"))
  ct : PySem.W.takesIn K (.builtin "object.__class__") = some true
  cm : PySem.W.mroIn K C (.type "object") = some true
theorem insK_of {K : PySem.W.Frag} {C : Addr} (h : insKB K C = true) : InsK K C := by
  unfold insKB at h
  simp only [Bool.and_eq_true, decide_eq_true_eq] at h
  obtain ⟨h1, h2, h3, h4, h5, h6, h7, h8⟩ := h
  exact ⟨⟨h1, h2, h3, He.eqO_ok h4⟩, He.eqO_ok h5, He.eqO_ok h6, h7, h8⟩
def isT (bt : String → Option Bool) (it : Str → Option Bool) (d : D) : Option Bool := match d.tyName with
  | some t => bt t
  | none => match d with
    | .ins c _ _ => it c
    | _ => none
def fIsT (bt : String → Option Bool) (it : Str → Option Bool) : List D → Option Rv
  | [d] => (isT bt it d).map fun b => .val (.bl b)
  | _ => none
section
variable {M : Md} {cs : Cs} {W : WX} {k : Nat} {X : Cx}
theorem e_isiC (g : G0 M cs k X) {c2 : Str} {cv : V} {u : Value} {bt : String → Option Bool} {it : Str → Option Bool} {p p2 pos : Pos} {e : Expr} {o : Opd} (hg : cs.sc.names.lookup ("isinstance" : Str) = some .globalImplicit) (hm : M.mg "isinstance" = none) (hc : PE X (.Name c2 p2) (tC cv)) (hcv : ClsV cv u)
    (hb : ∀ t b, bt t = some b → PySem.W.kitOne M.K (.type t) u = some b) (hi : ∀ c C b, M.mg c = some (.ref C) → it c = some b → InsK M.K C ∧ PySem.W.kitOne M.K (.ref C) u = some b) (ho : PE X e (tO M W o))
    (he : starEach [e, .Name c2 p2] X.env = (false, eval e X.env) :: starEach [.Name c2 p2] X.env) : PE X (.Call (.Name "isinstance" p) [e, .Name c2 p2] [] pos) (tE M W (app (fIsT bt it) [o])) := by
  refine PE_imp (pe_callB call_isi (g.gl hg) (by rw [g.hmg]; exact hm) boot_isinstance (pa_cons ho (pa_cons hc pa_nil rfl) he) (by decide) rfl he rfl) fun σ H Q h => ?_
  refine tO_mono (M := M) (W := W) (o := o) (app_run (prim_ok M (fIsT bt it)) h) fun v H1 ⟨F, ds, rv, hd, od, ef, q⟩ => ?_
  unfold fIsT at ef
  split at ef
  · rename_i d
    obtain ⟨w, e1, r⟩ := od.one
    cases e1
    obtain ⟨b, eb, er⟩ := Option.map_eq_some_iff.mp ef
    subst er
    unfold isT at eb
    cases et : d.tyName with
    | some t =>
      rw [et] at eb
      exact ⟨v, cv, .type t, u, b, rfl, hcv, od_ty r et g.hK, by rw [g.hK]; exact hb t b eb, rv_same hd q (rep_bl _)⟩
    | none =>
      rw [et] at eb
      cases d with
      | ins c fs ds =>
        obtain ⟨a, C, dx, vs, rfl, ⟨_, hC⟩, ha, _, _⟩ := r.ins
        obtain ⟨T, kt⟩ := hi c C b hC eb
        rw [← g.hK] at T kt
        exact ⟨.ref a, cv, .ref C, u, b, rfl, hcv, .base (.ins ha T.cl T.ca T.cn T.ct T.cm), kt, rv_same hd q (rep_bl _)⟩
      | _ => cases eb
  · cases ef
end
end VF
namespace VF
open PySem PySem.Spec PyProof.Rows L2
structure FnVD (M : Md) (k : Nat) (x : Str) (np : Nat) (dd : List D) (φ : FSem) : Prop where
  ex : ∃ f fd ps dvs ds, FnOk M.P M.w M.K M.mg M.base (L2N.CX M.P M.w) k f fd ps (spF M np φ) ∧ M.mg x = some (.ref f) ∧ PySem.W.keepIn M.K (.ref f) = true ∧ ConstD M dd dvs ∧ Vals dvs ds ∧ Binds M.K fd ps ds
section
variable {M : Md} {cs : Cs} {W : WX} {k : Nat} {X : Cx}
end
end VF
namespace VF
open PySem PySem.Spec PyProof.Rows L2
section
variable {M : Md} {X : Cx} {cs : Cs} {W : WX} {k : Nat}
end
end VF
namespace VF
open PySem PySem.Spec PyProof.Rows L2
def sZip : List D → Option (List D)
  | [.lst ds, .lst es] => if ds.length ≤ 1000000 then some (List.zipWith (fun d e => .tup [d, e]) ds es) else none
  | [.tup ds, .tup es] => if ds.length ≤ 1000000 then some (List.zipWith (fun d e => .tup [d, e]) ds es) else none
  | _ => none
section
variable {M : Md} {X : Cx} {cs : Cs} {W : WX} {k : Nat}
end
end VF
namespace VF
open PySem PySem.Spec PyProof.Rows L2
def dAsk : D → D → Option (Option D)
  | .dck ks ds, e => match e.key? with
    | some k => some (kget ks ds k)
    | none => none
  | .dct ks ds, .tup es => if es.length = 2 then (match allOf D.key? es with
    | some k => some (kget ks ds k)
    | none => none) else none
  | _, _ => none
def D.isD : D → Bool
  | .dck _ _ => true
  | .dct _ _ => true
  | _ => false
section
variable {M : Md} {F : Addr → Prop} {H : Hp}
theorem ask_run {d e : D} {x y : V} {r : Option D} (h : dAsk d e = some r) (rx : OdR M F H d x) (ry : OdR M F H e y) : ∃ a o, x = .ref a ∧ DGet H a y o ∧ ((r = none ∧ o = none) ∨ ∃ w v, r = some w ∧ o = some v ∧ Rep M F H w v) := by
  cases d with
  | dck ks ds =>
    obtain ⟨a, vs, rfl, p1, k1, l1⟩ := rx.dck
    have h : (match e.key? with | some k => some (kget ks ds k) | none => none) = some r := h
    cases ek : e.key? with
    | none => rw [ek] at h; cases h
    | some k =>
      rw [ek] at h
      cases h
      subst k1
      rcases kget_val (x := k) l1 with ⟨z, z2⟩ | ⟨d', v', z1, z2, z3⟩
      · exact ⟨a, none, rfl, .inl ⟨vs, k, p1, key_rep ek ry, z2.symm⟩, .inl ⟨z, rfl⟩⟩
      · exact ⟨a, some v', rfl, .inl ⟨vs, k, p1, key_rep ek ry, z2.symm⟩, .inr ⟨d', v', z1, rfl, z3⟩⟩
  | dct ks ds =>
    obtain ⟨a, vs, rfl, p1, k1, l1⟩ := rx.dct
    cases e with
    | tup es =>
      have h : (if es.length = 2 then (match allOf D.key? es with | some k => some (kget ks ds k) | none => none) else none) = some r := h
      by_cases h2 : es.length = 2
      · rw [if_pos h2] at h
        cases ek : allOf D.key? es with
        | none => rw [ek] at h; cases h
        | some k =>
          rw [ek] at h
          cases h
          subst k1
          obtain ⟨b, ws, rfl, ⟨_, t2⟩, l2⟩ := ry.tup2
          have eb := t2 h2
          rw [keys_rep ek l2] at eb
          rcases kget_val (x := k) l1 with ⟨z, z2⟩ | ⟨d', v', z1, z2, z3⟩
          · exact ⟨a, none, rfl, .inr ⟨vs, k, b, p1, rfl, eb, z2.symm⟩, .inl ⟨z, rfl⟩⟩
          · exact ⟨a, some v', rfl, .inr ⟨vs, k, b, p1, rfl, eb, z2.symm⟩, .inr ⟨d', v', z1, rfl, z3⟩⟩
      · rw [if_neg h2] at h; cases h
    | _ => cases h
  | _ => cases h
end
def gItem : List D → Option Rv
  | [d, e] => if d.isD = true then (match dAsk d e with
    | some (some w) => some (.val w)
    | _ => none) else fItem [d, e]
  | _ => none
def gIn : List D → Option Rv
  | [e, d] => if d.isD = true then (match dAsk d e with
    | some r => some (.val (.bl r.isSome))
    | _ => none) else fIn [e, d]
  | _ => none
def gNotIn : List D → Option Rv
  | [e, d] => if d.isD = true then (match dAsk d e with
    | some r => some (.val (.bl (!r.isSome)))
    | _ => none) else fNotIn [e, d]
  | _ => none
def gLen : List D → Option Rv
  | [.dck ks _] => some (.val (.int ks.length))
  | [.dct ks _] => if ks.length ≤ 1000000 then some (.val (.int ks.length)) else none
  | xs => fLen xs
section
variable {M : Md} {X : Cx}
theorem i_gitem (hK : X.K = M.K) (hu : X.A.units + 1 < cLine) : IxR X (r2D M gItem) := by
  refine IxR_imp ((i_item hK hu).or (ix_dict hu)) fun x y H Q h => ?_
  obtain ⟨F, ds, rv, hd, od, ef, q⟩ := h
  match ds, od, ef with
  | [d, e], od, ef =>
    have ef : (if d.isD = true then (match dAsk d e with | some (some w) => some (Rv.val w) | _ => none) else fItem [d, e]) = some rv := ef
    by_cases hi : d.isD = true
    · rw [if_pos hi] at ef
      obtain ⟨v, w, e1, r1, r2⟩ := od.two
      cases e1
      cases ea : dAsk d e with
      | none => rw [ea] at ef; cases ef
      | some r =>
        rw [ea] at ef
        cases r with
        | none => cases ef
        | some z =>
          cases ef
          obtain ⟨a, o, ex, g, h3⟩ := ask_run ea r1 r2
          rcases h3 with ⟨h3, _⟩ | ⟨w', v', h3, h4, h5⟩
          · cases h3
          · cases h3
            subst h4
            exact .inr ⟨a, v', ex, g, rv_same hd q h5⟩
    · rw [if_neg hi] at ef
      exact .inl ⟨F, [d, e], rv, hd, od, ef, q⟩
  | [], _, ef => cases ef
  | [_], _, ef => cases ef
  | _ :: _ :: _ :: _, _, ef => cases ef
theorem c_glen (hK : X.K = M.K) : CallR X (.builtin "len") (rDs M gLen) := by
  intro pins s σ H xs us Q I r h
  obtain ⟨F, ds, rv, hd, od, ef, q⟩ := h
  unfold gLen at ef
  split at ef
  · cases ef
    obtain ⟨v, rfl, r1⟩ := od.one
    obtain ⟨a, vs, rfl, p1, k1, l1⟩ := r1.dck
    obtain ⟨u, rfl, ru⟩ := vals1 r
    cases ru
    subst k1
    refine d_len I p1 fun t s' I' => ⟨.int _, H, I', ⟨t, rfl⟩, ?_⟩
    rw [show vs.length = (vs.map (·.1)).length by simp]
    exact rv_same hd q (rep_int _)
  · split at ef
    · cases ef
      obtain ⟨v, rfl, r1⟩ := od.one
      obtain ⟨a, vs, rfl, p1, k1, l1⟩ := r1.dct
      obtain ⟨u, rfl, ru⟩ := vals1 r
      cases ru
      subst k1
      obtain ⟨z, hdm, ys, rel, dd⟩ := dt_rd I.hok p1
      have hl : vs.length = ys.length := Paired.length rel
      refine call_len_dictH hdm dd (by rw [← hl]; rw [sizeLine_eq] at z; omega) ?_
      rw [← hl]
      refine ⟨.int _, H, I.tok _, ⟨_, rfl⟩, ?_⟩
      rw [show vs.length = (vs.map (·.1)).length by simp]
      exact rv_same hd q (rep_int _)
    · cases ef
  · exact c_len hK pins s σ H xs us Q I r ⟨F, _, rv, hd, od, ef, q⟩
end
section
variable {M : Md} {cs : Cs} {W : WX} {k : Nat} {X : Cx}
theorem e_gix {a b : Expr} {pos : Pos} {oa ob : Opd} (g : G0 M cs k X) (ha : PE X a (tO M W oa)) (hb : PE X b (tO M W ob)) (hs : PlainIx b) : PE X (.Subscript a b pos) (tE M W (app gItem [oa, ob])) :=
  PE_imp (pe_ix (i_gitem g.hK g.hu1) ha hb hs) fun σ H Q h => app_run (prim_ok M gItem) h
end
end VF
namespace VF
open PySem PySem.Spec PyProof.Rows L2
def kset {κ : Type} [DecidableEq κ] (k : κ) (d : D) : List κ → List D → List D
  | g :: ks, e :: ds => (if g = k then d else e) :: kset k d ks ds
  | _, _ => []
def kput {κ : Type} [DecidableEq κ] (ks : List κ) (ds : List D) (k : κ) (d : D) : List κ × List D := if (ks.any fun g => decide (g = k)) = true then (ks, kset k d ks ds) else (ks ++ [k], ds ++ [d])
section
variable {M : Md} {F : Addr → Prop} {H : Hp}
theorem kset_rep {κ : Type} [DecidableEq κ] {k : κ} {d : D} {v : V} (r : Rep M F H d v) : ∀ {kvs : List (κ × V)} {ds : List D}, RepL M F H ds (kvs.map (·.2)) → RepL M F H (kset k d (kvs.map (·.1)) ds) ((kvs.map fun kv => if kv.1 = k then (kv.1, v) else kv).map (·.2))
  | [], ds, h => by
    cases ds with
    | nil => exact .nil
    | cons e ds => unfold RepL at h; obtain ⟨w, q, z, _⟩ := h; cases z
  | (g, w) :: kvs, ds, h => by
    cases ds with
    | nil => unfold RepL at h; cases h
    | cons e ds =>
      unfold RepL at h
      obtain ⟨w', q, z, p, l⟩ := h
      cases z
      simp only [List.map_cons, kset]
      by_cases hg : g = k
      · rw [if_pos hg, if_pos hg]; exact .cons r (kset_rep r l)
      · rw [if_neg hg, if_neg hg]; exact .cons p (kset_rep r l)
theorem kput_rep {κ : Type} [DecidableEq κ] {k : κ} {d : D} {v : V} (r : Rep M F H d v) {kvs : List (κ × V)} {ds : List D} (l : RepL M F H ds (kvs.map (·.2))) :
    (L2.putK kvs k v).map (·.1) = (kput (kvs.map (·.1)) ds k d).1 ∧ RepL M F H (kput (kvs.map (·.1)) ds k d).2 ((L2.putK kvs k v).map (·.2)) := by
  have ha : ((kvs.map (·.1)).any fun g => decide (g = k)) = kvs.any fun kv => decide (kv.1 = k) := by rw [List.any_map]; rfl
  by_cases h : (kvs.any fun kv => decide (kv.1 = k)) = true
  · have e1 : L2.putK kvs k v = kvs.map fun kv => if kv.1 = k then (kv.1, v) else kv := if_pos h
    have e2 : kput (kvs.map (·.1)) ds k d = (kvs.map (·.1), kset k d (kvs.map (·.1)) ds) := if_pos (by rw [ha]; exact h)
    rw [e1, e2]
    refine ⟨?_, kset_rep r l⟩
    rw [List.map_map]
    apply List.map_congr_left
    intro kv _
    show (if kv.1 = k then (kv.1, v) else kv).1 = kv.1
    split <;> rfl
  · have e1 : L2.putK kvs k v = kvs ++ [(k, v)] := if_neg h
    have e2 : kput (kvs.map (·.1)) ds k d = (kvs.map (·.1) ++ [k], ds ++ [d]) := if_neg (by rw [ha]; exact h)
    rw [e1, e2]
    refine ⟨by simp, ?_⟩
    rw [List.map_append]
    exact l.append (.cons r .nil)
end
def dPut : D → D → D → Option D
  | .dck ks ds, e, v => match e.key? with
    | some k => if ks.length < sizeLine then some (.dck (kput ks ds k v).1 (kput ks ds k v).2) else none
    | none => none
  | .dct ks ds, .tup es, v => if es.length = 2 ∧ ks.length < sizeLine then (match allOf D.key? es with
    | some k => some (.dct (kput ks ds k v).1 (kput ks ds k v).2)
    | none => none) else none
  | _, _, _ => none
def stG (v k d : D) : Option (Unit × D) := match d with
  | .lst ds => stD v k (.lst ds)
  | d => (dPut d k v).map fun d' => ((), d')
section
variable {M : Md} {F : Addr → Prop} {H : Hp}
theorem put_dict {d e w d' : D} {a : Addr} {y v : V} (h : dPut d e w = some d') (c : Cont M F H (fun u => H a = some u) d) (ry : OdR M F H e y) (rv : Rep M F H w v) : ∃ u, DPut H a y v (upd H a u) ∧ Cont M F H (fun z => z = u) d' := by
  cases d with
  | dck ks ds =>
    obtain ⟨vs, hp, k1, l1⟩ := c
    have h : (match e.key? with | some k => if ks.length < sizeLine then some (D.dck (kput ks ds k w).1 (kput ks ds k w).2) else none | none => none) = some d' := h
    cases ek : e.key? with
    | none => rw [ek] at h; cases h
    | some k =>
      rw [ek] at h
      simp only at h
      split at h
      · rename_i hl
        cases h
        subst k1
        obtain ⟨z1, z2⟩ := kput_rep (k := k) rv l1
        refine ⟨.dK (L2.putK vs k v), .inl ⟨vs, k, hp, key_rep ek ry, by simpa using hl, rfl⟩, L2.putK vs k v, rfl, z1, z2⟩
      · cases h
  | dct ks ds =>
    cases e with
    | tup es =>
      obtain ⟨vs, hp, k1, l1⟩ := c
      have h : (if es.length = 2 ∧ ks.length < sizeLine then (match allOf D.key? es with | some k => some (D.dct (kput ks ds k w).1 (kput ks ds k w).2) | none => none) else none) = some d' := h
      by_cases h2 : es.length = 2 ∧ ks.length < sizeLine
      · rw [if_pos h2] at h
        cases ek : allOf D.key? es with
        | none => rw [ek] at h; cases h
        | some k =>
          rw [ek] at h
          cases h
          subst k1
          obtain ⟨b, ws, rfl, ⟨_, t2⟩, l2⟩ := ry.tup2
          have eb := t2 h2.1
          rw [keys_rep ek l2] at eb
          obtain ⟨z1, z2⟩ := kput_rep (k := k) rv l1
          exact ⟨.dT (L2.putK vs k v), .inr ⟨vs, k, b, hp, rfl, eb, by simpa using h2.2, rfl⟩, L2.putK vs k v, rfl, z1, z2⟩
      · rw [if_neg h2] at h; cases h
    | _ => cases h
  | _ => cases h
end
def storeG (i : Nat) (ix : Opd) (φ : ES) : SS := fun ρ => (φ ρ).bindS fun r ρ1 => ((Opd.sl i).ev ρ1).bindS fun _ ρ1 => (ix.ev ρ1).bindS fun y ρ2 => match y.dat ρ2 with
  | some k => (match mutS i (stG r.d k) ρ2 with
    | some (_, ρ3) => .nx ρ3
    | none => .bad)
  | none => .bad
section
variable {M : Md} {cs : Cs} {W : WX} {k : Nat} {X : Cx}
theorem set_ld (hu : X.A.units + 1 < cLine) : PSet X (fun o i v H Q => rSetL o i v H Q ∨ rSetD o i v H Q) := fun pins s σ H o i v ov iv u Q I ro ri rv h => h.elim (set_list pins s σ H o i v ov iv u Q I ro ri rv) (set_dict hu pins s σ H o i v ov iv u Q I ro ri rv)
theorem s_storeG (g : G M cs W k X) {i : Nat} {x : Str} {ie e : Expr} {p1 p2 pos : Pos} {ix : Opd} {φ : ES} (hi : cs.N[i]? = some x) (hv : Vis cs.sc x) (hd : (x == ("__debug__" : Str)) = false) (hcd : (x == ("__classdict__" : Str)) = false) (he : PE X e (tE M W φ)) (hix : PE X ie (tO M W ix))
    (ha : ∀ v, assign (.Subscript (.Name x p1) ie p2) X.env v = (do
      let ov ← holding [v] (eval (.Name x p1) X.env)
      let iv ← holding [v, ov] (eval ie X.env)
      standAt p2
      holding [v, ov, iv] (setItem ov iv v)
      release [v, ov, iv] []))
    (hs : swapsWithSole [.Subscript (.Name x p1) ie p2] e pos.line X.env = pure false) (hw : swappedStores [.Subscript (.Name x p1) ie p2] e X.env = pure none) (h1 : (assignEach [.Subscript (.Name x p1) ie p2] X.env).map (·.2) = [assign (.Subscript (.Name x p1) ie p2) X.env]) :
    PS X (.Assign [.Subscript (.Name x p1) ie p2] e pos) (tS M W (storeG i ix φ)) := by
  refine PS_imp (ps_asg he (pg_sub (pe_var (by rw [g.hN]; exact hi) (g.vis hv) hd hcd) hix (set_ld g.hu1) ha) hs hw h1) fun D σ H ⟨F, ρ, s, h⟩ => tE_of s ((bindS_want h).mono fun r F1 H1 ρ1 po z v rv => ?_)
  obtain ⟨F2, po2, rp, _⟩ := freeze s po rv
  have z := z.step po2.s
  refine bindS_sl po2.sr z fun t w _ ew _ z => ?_
  refine bindS_op po2.sr z fun y F4 H4 ρ4 kv po4 rk z => ?_
  cases e1 : y.dat ρ4 with
  | none => simp only [e1] at z; exact z.elim
  | some kd =>
    simp only [e1] at z
    cases e2 : mutS i (stG r.d kd) ρ4 with
    | none => simp only [e2] at z; exact z.elim
    | some q =>
      obtain ⟨_, ρ5⟩ := q
      simp only [e2] at z
      obtain ⟨p, d, d', ep, nf, ef, c, put⟩ := mut_slot po4.sr e2
      rw [ew] at ep
      cases ep
      have rp4 := Rep.mono (po4.ext po2.sr) _ rp
      by_cases hl : ∃ ds, d = .lst ds
      · obtain ⟨ds, rfl⟩ := hl
        have ef : stD r.d kd (.lst ds) = some ((), d') := ef
        unfold stD at ef
        simp only at ef
        split at ef
        · obtain ⟨n, en, e3⟩ := Option.map_eq_some_iff.mp ef
          cases e3
          obtain ⟨vs, hp, l⟩ := c
          cases (rk.od po4.sr e1).int
          refine .inl ⟨p, vs, _, n, rfl, rfl, hp, by rw [← l.length]; exact en, ?_⟩
          exact z F4 _ σ (put _ ⟨_, rfl, RepL_set rp4 n l⟩).s
        · cases ef
      · have ef : (dPut d kd r.d).map (fun d' => ((), d')) = some ((), d') := by
          cases d <;> first | exact ef | exact absurd ⟨_, rfl⟩ hl
        obtain ⟨d2, e3, e4⟩ := Option.map_eq_some_iff.mp ef
        cases e4
        obtain ⟨u, g1, c1⟩ := put_dict e3 c (rk.od po4.sr e1) rp4
        exact .inr ⟨p, _, rfl, g1, z F4 _ σ (put u c1).s⟩
end
end VF
namespace VF
open PySem PySem.Spec PyProof.Rows L2
def dAdd (k : D) (w n : Int) (d : D) : Option (Unit × D) := (dPut d k (.int (w + n))).map fun d' => ((), d')
section
variable {M : Md} {cs : Cs} {W : WX} {k : Nat} {X : Cx}
end
end VF
namespace VF
open PySem PySem.Spec PyProof.Rows L2
structure Bt (M : Md) (F1 : Addr → Prop) (H1 : Hp) (σb : St) (ρb : En) (D : Addr) (σi : St) (ρi : En) (acc : VF.D) (F : Addr → Prop) (H : Hp) (ρ : En) : Prop where
  stp : Stp F1 H1 (OwnAt σb ρb) (RefAt σb ρb) F H (OwnAt σi ρ) (RefAt σi ρ)
  sr : SR M F H σi ρ
  kp : Kp ρi ρ
  nf : ¬ F D
  con : Cont M F H (fun u => H D = some u) acc
def Nm (σb : St) (ρb : En) (σi : St) (ρi : En) : Prop := ∀ j u, gt ρi j = some u → u.top = true → (∃ u', gt ρb j = some u' ∧ u'.top = true) ∧ gv σi j = gv σb j
section
variable {M : Md} {F1 : Addr → Prop} {H1 : Hp} {σb : St} {ρb : En} {D : Addr} {σi : St} {ρi : En} {acc acc' : VF.D} {F F' : Addr → Prop} {H H' : Hp} {ρ ρ' : En}
theorem Nm.kp (n : Nm σb ρb σi ρi) (k : Kp ρi ρ) : Nm σb ρb σi ρ := fun j u h1 h2 => by
  obtain ⟨u', a, b⟩ := k.top_of h1 h2
  exact n j u' a b
theorem Nm.notD (n : Nm σb ρb σi ρi) (s1 : SR M F1 H1 σb ρb) (hD : H1 D = none) {j : Nat} {u : Sl} (h1 : gt ρi j = some u) (h2 : u.top = true) : gv σi j ≠ some (.ref D) := fun z => by
  obtain ⟨⟨u', a1, a2⟩, e⟩ := n j u h1 h2
  obtain ⟨b, w, e2, _, q⟩ := s1.top_at a1 a2
  rw [e, e2] at z
  cases z
  rw [hD] at q
  cases q
theorem Bt.po (b : Bt M F1 H1 σb ρb D σi ρi acc F H ρ) (n : Nm σb ρb σi ρi) (s1 : SR M F1 H1 σb ρb) (hD : H1 D = none) (p : Po M F H σi ρ F' H' ρ') : Bt M F1 H1 σb ρb D σi ρi acc F' H' ρ' := by
  have nm := n.kp b.kp
  have no : ¬ OwnAt σi ρ D := fun ⟨j, d, h1, h2⟩ => nm.notD s1 hD h1 rfl h2
  have nr : ¬ RefAt σi ρ D := fun ⟨j, d, h1, h2⟩ => nm.notD s1 hD h1 rfl h2
  obtain ⟨u, hu, _⟩ := b.con.some_of
  refine ⟨b.stp.trans p.stp, p.sr, b.kp.trans p.kp, fun z => ?_, b.con.mono (p.ext b.sr) fun w hw => (p.stp.keep D w hw no nr).no b.nf⟩
  rcases p.stp.new D z with y | y | y
  · exact b.nf y
  · rw [hu] at y; cases y
  · exact no y
theorem Bt.start (s1 : SR M F1 H1 σb ρb) (hD : H1 D = none) {u : HO} (c : Cont M F1 H1 (fun w => w = u) acc) : Bt M F1 H1 σb ρb D σb ρb acc F1 (upd H1 D u) ρb := by
  have nw : New F1 H1 F1 (upd H1 D u) := New.laid s1.dom hD
  exact ⟨(nw.po s1).stp, (nw.po s1).sr, .refl _, fun z => s1.dom D z hD, c.mono nw.ext fun z hz => by rw [hz]; exact upd_same⟩
def WkAt (M : Md) (J : It) (items : List VF.D) (i : Nat) (F : Addr → Prop) (H : Hp) : Prop := (items.length ≤ i → J.stop i H) ∧ ∀ d, items[i]? = some d → J.go i H ∧ ∀ x H', J.yld i H x H' → ∃ F', New F H F' H' ∧ Rep M F' H' d x
def loopG (tg : Tg) (own : List Nat) (t : BS) (body : En → VF.D → Out VF.D) : List VF.D → En → VF.D → Out VF.D
  | [], ρ, acc => .ok acc ρ
  | d :: ds, ρ, acc => match put tg d ρ with
    | none => .bad
    | some ρ1 => (t ρ1).bind fun b ρ2 => if b then (body ρ2 acc).bind fun acc' ρ3 => loopG tg own t body ds (wp own ρ3) acc' else loopG tg own t body ds (wp own ρ2) acc
def Wb (M : Md) (F1 : Addr → Prop) (H1 : Hp) (σb : St) (ρb : En) (D : Addr) (σi : St) (ρi : En) (F0 : Addr → Prop) (H0 : Hp) (Q : Hp → Prop) : Out VF.D → Prop
  | .ok acc ρ' => ∀ F H, Ext F0 H0 F H → Bt M F1 H1 σb ρb D σi ρi acc F H ρ' → Q H
  | _ => False
end
theorem turns {M : Md} {F1 : Addr → Prop} {H1 : Hp} {σb : St} {ρb : En} {D : Addr} {own : List Nat} {tg : Tg} {t : BS} {σ : St} {ρi : En} {Q : Hp → Prop} {J : It} {items : List VF.D} {K : PySem.W.Frag} {Bd : St → Hp → (Hp → Prop) → Prop} {body : En → VF.D → Out VF.D} {acc0 : VF.D} {F0 : Addr → Prop} {H0 : Hp} {ρ0 : En}
    (hx : M.xn = none) (hK : K = M.K) (hD : H1 D = none) (s1 : SR M F1 H1 σb ρb) (nm : Nm σb ρb (wipe σ own) ρi) (hno : ∀ j, j ∈ own → gt ρi j = none) (htg : ∀ j, j ∈ tgs tg → j ∈ own)
    (src : ∀ i F H ρ acc, Ext F0 H0 F H → Bt M F1 H1 σb ρb D (wipe σ own) ρi acc F H ρ → WkAt M J items i F H)
    (hB : ∀ σ2 ρ2 acc F H Nx, Nm σb ρb σ2 ρ2 → Bt M F1 H1 σb ρb D σ2 ρ2 acc F H ρ2 → (∀ j, j ∈ own → j ∉ tgs tg → gt ρ2 j = none) → Wb M F1 H1 σb ρb D σ2 ρ2 F H Nx (body ρ2 acc) → Bd σ2 H Nx)
    (b0 : Bt M F1 H1 σb ρb D (wipe σ own) ρi acc0 F0 H0 ρ0) (h : Wb M F1 H1 σb ρb D (wipe σ own) ρi F0 H0 Q (loopG tg own t body items ρ0 acc0)) :
    ∃ Wd : Nat → Nat → Hp → Prop, (∃ m, Wd 0 m H0) ∧ ∀ i m H, Wd i m H → (J.stop i H ∧ Q H) ∨ (J.go i H ∧ ∃ Nx : Hp → Prop, (∀ H', Nx H' → ∃ m', m' < m ∧ Wd (i + 1) m' H') ∧
      ∀ x H', J.yld i H x H' → gT K tg x (wipe σ own) H' fun σ2 H2 => wipe σ2 own = wipe σ own ∧ tT M WF t σ2 H2 fun b H3 => if b = true then Bd σ2 H3 Nx else Nx H3) := by
  let Pv : Nat → Hp → Prop := fun i H => ∃ F ρ acc, Ext F0 H0 F H ∧ Bt M F1 H1 σb ρb D (wipe σ own) ρi acc F H ρ ∧ Wb M F1 H1 σb ρb D (wipe σ own) ρi F0 H0 Q (loopG tg own t body (items.drop i) ρ acc)
  refine ⟨fun i m H => m = items.length - i ∧ i ≤ items.length ∧ Pv i H, ⟨items.length, by simp, Nat.zero_le _, F0, ρ0, acc0, .refl _ _, b0, h⟩, ?_⟩
  rintro i m H ⟨rfl, hi, F, ρ, acc, xt, bt, fin⟩
  obtain ⟨w1, w2⟩ := src i F H ρ acc xt bt
  by_cases hlt : i < items.length
  · obtain ⟨go, yl⟩ := w2 _ (List.getElem?_eq_getElem hlt)
    refine .inr ⟨go, Pv (i + 1), fun H' p' => ⟨items.length - (i + 1), by omega, rfl, hlt, p'⟩, fun x H' y => ?_⟩
    obtain ⟨F', nw, rx⟩ := yl x H' y
    rw [List.drop_eq_getElem_cons hlt] at fin
    unfold loopG at fin
    cases e1 : put tg items[i] ρ with
    | none => simp only [e1] at fin; exact fin.elim
    | some ρ1 =>
      simp only [e1] at fin
      have pn := nw.po bt.sr
      have bn := bt.po nm s1 hD pn
      refine put_run hx hK tg pn.sr rx e1 fun σ2 po2 up top2 => ?_
      have hno' : ∀ j, j ∈ own → gt ρ j = none := fun j hj => by
        have z := bt.kp.2 j
        rw [hno j hj] at z
        cases e : gt ρ j with
        | none => rfl
        | some u => rw [e] at z; exact z.elim
      have gv2 : ∀ j, j ∉ own → gv σ2 j = gv (wipe σ own) j := fun j hj => by
        unfold gv
        rw [(up.2 j fun z => hj (htg j z)).1]
      have nm1 : Nm σb ρb σ2 ρ1 := fun j u h1 h2 => by
        have a3 := top2 j u h1 h2
        have nj : j ∉ own := fun z => by rw [hno' j z] at a3; cases a3
        obtain ⟨a4, a5⟩ := nm.kp bt.kp j u a3 h2
        exact ⟨a4, (gv2 j nj).trans a5⟩
      have b1 : Bt M F1 H1 σb ρb D σ2 ρ1 acc F' H' ρ1 := ⟨bn.stp.trans po2.stp, po2.sr, .refl _, bn.nf, bn.con⟩
      have back : ∀ {ρ2 : En} {acc3 : VF.D} {F3 : Addr → Prop} {H3 : Hp} {ρ3 : En}, Kp ρ1 ρ2 → Bt M F1 H1 σb ρb D σ2 ρ2 acc3 F3 H3 ρ3 → Bt M F1 H1 σb ρb D (wipe σ own) ρi acc3 F3 H3 (wp own ρ3) := fun {ρ2 acc3 F3 H3 ρ3} k12 b3 => by
        have mk : Mask σ2 ρ3 (wipe σ own) (wp own ρ3) := by
          refine ⟨?_, wp_length _ _, fun j u h => ?_⟩
          · rw [up.1]
          · by_cases hj : j ∈ own
            · rw [wp_in own hj] at h; cases h
            · rw [wp_out own hj] at h
              exact ⟨(gv2 j hj).symm, .inl h⟩
        refine ⟨b3.stp.weak (fun a z => mk.own z) fun a z => mk.ref z, b3.sr.mask hx mk, ⟨?_, fun j => ?_⟩, b3.nf, b3.con⟩
        · rw [wp_length]
          exact bt.kp.1.trans (po2.kp.1.trans (k12.1.trans b3.kp.1))
        · by_cases hj : j ∈ own
          · rw [wp_in own hj, hno j hj]
            trivial
          · rw [wp_out own hj]
            refine (bt.kp.2 j).trans ?_
            have z := (k12.trans b3.kp).2 j
            rw [(up.2 j fun z => hj (htg j z)).2] at z
            exact z
      refine ⟨(wipe_eq (σ := wipe σ own) (σ' := σ2) (S' := tgs tg) (by rw [up.1]) (fun j hj => (up.2 j hj).1) htg).trans wipe_wipe, F', ρ1, po2.sr, ?_⟩
      cases e2 : t ρ1 with
      | bad => simp only [e2, Out.bind] at fin; exact fin.elim
      | exc xx ρ9 => simp only [e2, Out.bind] at fin; exact fin.elim
      | ok b ρ2 =>
        simp only [e2, Out.bind] at fin
        intro F3 H3 po3
        have b3 := b1.po nm1 s1 hD po3
        have xt3 : Ext F0 H0 F3 H3 := xt.trans (nw.ext.trans (po3.ext po2.sr))
        cases b with
        | false =>
          simp only [Bool.false_eq_true, if_false] at fin ⊢
          exact ⟨F3, wp own ρ2, acc, xt3, back (ρ2 := ρ1) (.refl _) b3, fin⟩
        | true =>
          simp only [if_true] at fin ⊢
          have b4 : Bt M F1 H1 σb ρb D σ2 ρ2 acc F3 H3 ρ2 := ⟨b3.stp, b3.sr, .refl _, b3.nf, b3.con⟩
          refine hB σ2 ρ2 acc F3 H3 (Pv (i + 1)) (nm1.kp po3.kp) b4 (fun j h1 h2 => ?_) ?_
          · have z := po3.kp.2 j
            rw [(up.2 j h2).2, hno' j h1] at z
            cases e : gt ρ2 j with
            | none => rfl
            | some u => rw [e] at z; exact z.elim
          · cases e3 : body ρ2 acc with
            | bad => simp only [e3, Out.bind] at fin; exact fin.elim
            | exc xx ρ9 => simp only [e3, Out.bind] at fin; exact fin.elim
            | ok acc' ρ3 =>
              simp only [e3, Out.bind] at fin
              intro F4 H4 x4 b5
              exact ⟨F4, wp own ρ3, acc', xt3.trans x4, back po3.kp b5, fin⟩
  · have e : i = items.length := by omega
    subst e
    refine .inl ⟨w1 (Nat.le_refl _), ?_⟩
    rw [List.drop_length] at fin
    exact fin F H xt bt
end VF
namespace VF
open PySem PySem.Spec PyProof.Rows L2
theorem RepL.ods {M : Md} {F : Addr → Prop} {H : Hp} : ∀ {ds : List D} {vs : List V}, RepL M F H ds vs → OdRs M F H ds vs
  | [], _, h => by unfold RepL at h; exact h
  | d :: ds, _, h => by
    unfold RepL at h
    obtain ⟨v, r, e, p, q⟩ := h
    exact ⟨v, r, e, .inl p, q.ods⟩
section
variable {M : Md} {F : Addr → Prop} {H : Hp} {σ : St} {ρ : En} {own : List Nat}
end
section
variable {M : Md} {W : WX} {F : Addr → Prop} {H : Hp} {σ : St} {ρ : En}
end
end VF
namespace VF
open PySem PySem.Spec PyProof.Rows L2
def dpK (acc k v : D) : Option D := match acc with
  | .dck ks ds => dPut (.dck ks ds) k v
  | _ => none
def dpT (acc k v : D) : Option D := match acc with
  | .dct ks ds => dPut (.dct ks ds) k v
  | _ => none
section
variable {M : Md} {cs : Cs} {W : WX} {k : Nat} {X : Cx}
structure Lc2Ok (M : Md) (cs : Cs) (k : Nat) (scope : Scope) (tg elt : Expr) (ifs : List Expr) (tg1 iter1 : Expr) (ifs1 : List Expr) (T : Tg) (t : BS) (src1 : Src) (T1 : Tg) (t1 : BS) (φ : ES) : Prop where
  hg : ∀ X, G M (cs.blk scope) WF k X → PG X tg (gT X.K T)
  ht : ∀ X, G M (cs.blk scope) WF k X → PTs X ifs (tT M WF t)
  hi1 : ∀ X, G M (cs.blk scope) WF k X → PI X tg1 iter1 (tI M WF src1)
  hg1 : ∀ X, G M (cs.blk scope) WF k X → PG X tg1 (gT X.K T1)
  ht1 : ∀ X, G M (cs.blk scope) WF k X → PTs X ifs1 (tT M WF t1)
  he : ∀ X, G M (cs.blk scope) WF k X → PE X elt (tE M WF φ)
structure DcOk (M : Md) (cs : Cs) (k : Nat) (scope : Scope) (tg kx vx : Expr) (ifs : List Expr) (T : Tg) (t : BS) (κ φ : ES) : Prop where
  hg : ∀ X, G M (cs.blk scope) WF k X → PG X tg (gT X.K T)
  ht : ∀ X, G M (cs.blk scope) WF k X → PTs X ifs (tT M WF t)
  hk : ∀ X, G M (cs.blk scope) WF k X → PE X kx (tE M WF κ)
  he : ∀ X, G M (cs.blk scope) WF k X → PE X vx (tE M WF φ)
end
end VF
namespace VF
open PySem PySem.Spec PyProof.Rows L2
end VF
namespace VF
open PySem PySem.Spec PyProof.Rows L2
section
variable {P : Program} {w : World} {K : PySem.W.Frag} {d : Addr} {o : Obj} {es : Array DictEntry} {ep : Nat}
end
section
variable {X : Cx} {e : Expr} {td : TE} {apos cpos : Pos}
end
end VF
namespace VF
open PySem PySem.Spec PyProof.Rows L2
def keyD : Key → D
  | .inl i => .int i
  | .inr x => .str x
def dItems : D → Option (List D)
  | .dck ks ds => some (List.zipWith (fun k d => .tup [keyD k, d]) ks ds)
  | .dct ks ds => some (List.zipWith (fun k d => .tup [.tup (k.map keyD), d]) ks ds)
  | _ => none
def dVals : D → Option (List D)
  | .dck _ ds => some ds
  | .dct _ ds => some ds
  | _ => none
def dKeys : D → Option (List D)
  | .dck ks _ => some (ks.map keyD)
  | .dct ks _ => some (ks.map fun k => .tup (k.map keyD))
  | _ => none
section
variable {M : Md} {F : Addr → Prop} {H : Hp}
end
section
variable {M : Md} {W : WX} {F : Addr → Prop} {H : Hp} {σ : St} {ρ : En}
structure WkD (M : Md) (f : D → Option (List D)) (JK : Addr → Obj → List (Key × V) → It) (JT : Addr → Obj → List (List Key × V) → It) : Prop where
  no : ∀ d items, f d = some items → d.isD = true
  k : ∀ {F : Addr → Prop} {H : Hp} {a : Addr} {o : Obj} {vs : List (Key × V)} {ds items : List D} {i : Nat}, f (.dck (vs.map (·.1)) ds) = some items → (∀ a, F a → H a ≠ none) → H a = some (.frz o (.dK vs)) → RepL M F H ds (vs.map (·.2)) → WkAt M (JK a o vs) items i F H
  t : ∀ {F : Addr → Prop} {H : Hp} {a : Addr} {o : Obj} {vs : List (List Key × V)} {ds items : List D} {i : Nat}, f (.dct (vs.map (·.1)) ds) = some items → (∀ a, F a → H a ≠ none) → H a = some (.frz o (.dT vs)) → RepL M F H ds (vs.map (·.2)) → WkAt M (JT a o vs) items i F H
end
section
variable {M : Md} {cs : Cs} {W : WX} {k : Nat} {X : Cx} {e : Expr} {φ : ES} {apos cpos : Pos}
end
section
variable {M : Md} {W : WX} {F : Addr → Prop} {H : Hp} {σ : St} {ρ : En}
end
section
variable {M : Md} {cs : Cs} {W : WX} {k : Nat} {X : Cx}
end
end VF
namespace VF
open PySem PySem.Spec PyProof.Rows L2
def kmerge {κ : Type} [DecidableEq κ] : List κ → List D → List κ → List D → List κ × List D
  | ks, ds, k :: ks2, d :: ds2 => kmerge (kput ks ds k d).1 (kput ks ds k d).2 ks2 ds2
  | ks, ds, _, _ => (ks, ds)
def mergeG {κ : Type} [DecidableEq κ] (kvs more : List (κ × V)) : List (κ × V) := more.foldl (fun acc kv => L2.putK acc kv.1 kv.2) kvs
section
variable {M : Md} {F : Addr → Prop} {H : Hp}
end
def mUpd : List D → D → Option (D × D)
  | [.dck ks2 ds2], .dck ks ds => if ks.length + ks2.length ≤ sizeLine then some (.non, .dck (kmerge ks ds ks2 ds2).1 (kmerge ks ds ks2 ds2).2) else none
  | _, _ => none
def prK : List D → Option (List Key × List D)
  | [] => some ([], [])
  | .tup [k, d] :: r => match k.key?, prK r with
    | some k, some (ks, ds) => some (k :: ks, d :: ds)
    | _, _ => none
  | _ => none
def fDictK : List D → Option Rv
  | [.lst ps] => (prK ps).map fun r => .own (.dck (kmerge [] [] r.1 r.2).1 (kmerge [] [] r.1 r.2).2)
  | [.tpp ps] => (prK ps).map fun r => .own (.dck (kmerge [] [] r.1 r.2).1 (kmerge [] [] r.1 r.2).2)
  | _ => none
section
variable {M : Md} {F : Addr → Prop} {H : Hp} {X : Cx}
end
end VF
namespace VF
open PySem PySem.Spec PyProof.Rows L2
section
variable {M : Md} {X : Cx}
theorem KT.all {H : Hp} : ∀ {more : List (List Key × V)} {ps : List (List Key × Addr × Value)} {kvs : List (List Key × V)} {xs : List (List Key × Addr × Value)}, KT H more ps → KT H kvs xs → KT H (mergeG kvs more) (storedAllH xs ps)
  | [], _, kvs, xs, .nil, r => r
  | p :: more, q :: ps, kvs, xs, .cons h t, r => by
    obtain ⟨e1, e2, e3⟩ := h
    show KT H (mergeG (L2.putK kvs p.1 p.2) more) (storedAllH (storedH xs q.1 q.2.1 q.2.2) ps)
    refine KT.all t ?_
    rw [← e1]
    exact r.put p.1 e2 e3
end
end VF
namespace VF
open PySem PySem.Spec PyProof.Rows L2
section
variable {M : Md} {X : Cx} {cs : Cs} {W : WX} {k : Nat}
def sEnumG : List D → Option (List D)
  | [.lst ds] => if ds.length ≤ 1000000 then some (ds.mapIdx fun i d => .tup [.int (i : Nat), d]) else none
  | [.tup ds] => if ds.length ≤ 1000000 then some (ds.mapIdx fun i d => .tup [.int (i : Nat), d]) else none
  | [.tpp ds] => if ds.length ≤ 1000000 then some (ds.mapIdx fun i d => .tup [.int (i : Nat), d]) else none
  | _ => none
end
end VF
namespace VF
open PySem PySem.Spec PyProof.Rows L2
section
variable {prog : Program} {w : World} {A : Around} {E : Value → Shared → Prop}
end
section
variable {M : Md} {cs : Cs} {W : WX} {k : Nat} {X : Cx}
end
end VF
namespace VF
open PySem PySem.Spec PyProof.Rows L2
section
variable {M : Md} {F F' : Addr → Prop} {H H' : Hp} {σ : St} {ρ ρ' : En}
end
section
variable {M : Md} {cs : Cs} {W : WX} {k : Nat} {X : Cx}
def badS : SS := fun _ => .bad
end
end VF
namespace VF
open PySem PySem.Spec PyProof.Rows L2
section
variable {X : Cx} {i : Nat} {y : Str} {py : Pos} {kx vx tg iter : Expr} {ifs : List Expr} {scope : Scope} {own : List (Str × Nat)} {pos spos : Pos} {wi : TI} {g : TG} {tt : TT} {tk tv : TE}
end
section
variable {M : Md} {cs : Cs} {W : WX} {k : Nat} {X : Cx}
end
end VF
namespace VF
open PySem PySem.Spec PyProof.Rows L2
inductive Pk where
  | at (i : Nat)
  | df (d : D)
def pkO (xs : List Ov) : List Pk → List Ov
  | [] => []
  | .at i :: r => xs.getD i (.val .non) :: pkO xs r
  | .df d :: r => .val d :: pkO xs r
def PkV (M : Md) (ws : List V) : List Pk → List V → Prop
  | [], rs => rs = []
  | .at i :: r, rs => ∃ v q, rs = v :: q ∧ ws[i]? = some v ∧ PkV M ws r q
  | .df d :: r, rs => ∃ v q, rs = v :: q ∧ (∀ F H, Rep M F H d v) ∧ PkV M ws r q
theorem PkV.ov {M : Md} {F : Addr → Prop} {H : Hp} {σ : St} {xs : List Ov} {ws : List V} (h : OvRs M F H σ xs ws) : ∀ {sel : List Pk} {rs : List V}, PkV M ws sel rs → OvRs M F H σ (pkO xs sel) rs
  | [], _, z => z
  | .at i :: r, _, ⟨v, q, e, e1, z⟩ => by
    refine ⟨v, q, e, ?_, PkV.ov h z⟩
    have hl : i < ws.length := (List.getElem?_eq_some_iff.mp e1).1
    rw [h.length] at hl
    obtain ⟨w, k1, k2⟩ := h.get (List.getElem?_eq_getElem hl)
    rw [e1] at k1
    cases k1
    rw [List.getD_eq_getElem?_getD, List.getElem?_eq_getElem hl]
    exact k2
  | .df d :: r, _, ⟨v, q, e, e1, z⟩ => ⟨v, q, e, e1 F H, PkV.ov h z⟩
theorem PkV.length {M : Md} {ws : List V} : ∀ {sel : List Pk} {rs : List V}, PkV M ws sel rs → rs.length = sel.length
  | [], _, z => by cases z; rfl
  | .at i :: r, _, ⟨v, q, e, _, z⟩ => by subst e; simp [PkV.length z]
  | .df d :: r, _, ⟨v, q, e, _, z⟩ => by subst e; simp [PkV.length z]
section
variable {M : Md} {cs : Cs} {W : WX} {k : Nat} {X : Cx}
structure FnVK (M : Md) (k : Nat) (x : Str) (n : Nat) (ks : List Str) (sel : List Pk) (φ : FSem) : Prop where
  ex : ∃ f fd ps g gV, FnOk M.P M.w M.K M.mg M.base (L2N.CX M.P M.w) k f fd ps (spF M sel.length φ) ∧ M.mg x = some (.ref f) ∧ PySem.W.keepIn M.K (.ref f) = true ∧ KBn M.K fd ps n ks g gV ∧ ∀ vs zs, vs.length = n → zs.length = ks.length → PkV M (vs ++ zs) sel (gV vs zs)
theorem tOs_two {os2 : List Opd} : ∀ {os1 : List Opd} {σ : St} {H : Hp} {Q : List V → Hp → Prop}, tOs M W (os1 ++ os2) σ H Q → tOs M W os1 σ H fun vs H1 => tOs M W os2 σ H1 fun zs H2 => Q (vs ++ zs) H2
  | [], σ, H, Q, h => h
  | o :: os, σ, H, Q, h => by
    have h : tO M W o σ H fun x H1 => tOs M W (os ++ os2) σ H1 fun xs H2 => Q (x :: xs) H2 := h
    show tO M W o σ H fun x H1 => tOs M W os σ H1 fun xs H2 => tOs M W os2 σ H2 fun zs H3 => Q (x :: xs ++ zs) H3
    refine tO_mono h fun v H1 q => ?_
    exact tOs_two (os1 := os) q
theorem tOs_len : ∀ {os : List Opd} {σ : St} {H : Hp} {Q : List V → Hp → Prop}, tOs M W os σ H Q → tOs M W os σ H fun vs H1 => vs.length = os.length ∧ Q vs H1
  | [], σ, H, Q, h => ⟨rfl, h⟩
  | o :: os, σ, H, Q, h => by
    have h : tO M W o σ H fun x H1 => tOs M W os σ H1 fun xs H2 => Q (x :: xs) H2 := h
    show tO M W o σ H fun x H1 => tOs M W os σ H1 fun xs H2 => (x :: xs).length = (o :: os).length ∧ Q (x :: xs) H2
    refine tO_mono h fun v H1 q => tOs_mono (tOs_len (os := os) q) fun vs H2 ⟨l, z⟩ => ⟨by simp [l], z⟩
theorem k_nilK : PK X [] (tOs M W []) := pk_nil
theorem k_consK {e : Expr} {nm : Option Str} {kpos : Pos} {kws : List Keyword} {o : Opd} {os : List Opd} (h : PE X e (tO M W o)) (hr : PK X kws (tOs M W os)) : PK X (⟨nm, e, kpos⟩ :: kws) (tOs M W (o :: os)) := pk_cons h hr
end
end VF
namespace VF
open PySem PySem.Spec PyProof.Rows L2
def gsel {α : Type} (is : List Nat) (l : List α) : List α := is.filterMap fun i => l[i]?
theorem vals_get : ∀ {vs : List V} {us : List Value} {i : Nat}, Vals vs us → (vs[i]? = none ∧ us[i]? = none) ∨ ∃ v u, vs[i]? = some v ∧ us[i]? = some u ∧ RelV v u
  | _, _, _, .nil => .inl ⟨rfl, rfl⟩
  | _, _, 0, .cons r _ => .inr ⟨_, _, rfl, rfl, r⟩
  | _, _, i + 1, .cons _ rs => vals_get (i := i) rs
theorem vals_sel {vs : List V} {us : List Value} (h : Vals vs us) : ∀ (is : List Nat), Vals (gsel is vs) (gsel is us)
  | [] => .nil
  | i :: is => by
    have ih := vals_sel h is
    unfold gsel at ih ⊢
    rcases vals_get (i := i) h with ⟨e1, e2⟩ | ⟨v, u, e1, e2, r⟩
    · rw [List.filterMap_cons_none e1, List.filterMap_cons_none e2]; exact ih
    · rw [List.filterMap_cons_some e1, List.filterMap_cons_some e2]; exact .cons r ih
end VF
namespace VF
open PySem PySem.Spec PyProof.Rows L2 HT
section
variable {prog : Program} {w : World} {A : Around} {E : Value → Shared → Prop} {s : Shared}
end
def fRev : List D → Option Rv
  | [.lst ds] => some (.own (.lst ds.reverse))
  | [.tup ds] => some (.val (.tup ds.reverse))
  | _ => none
section
variable {M : Md} {cs : Cs} {W : WX} {X : Cx}
end
def insI (x : Int) : List Int → List Int
  | [] => [x]
  | y :: ys => if x ≤ y then x :: y :: ys else y :: insI x ys
def isort : List Int → List Int
  | [] => []
  | x :: xs => insI x (isort xs)
theorem insI_perm (x : Int) : ∀ ys, (insI x ys).Perm (x :: ys)
  | [] => .refl _
  | y :: ys => by
    unfold insI
    split
    · exact .refl _
    · exact ((insI_perm x ys).cons y).trans (.swap x y ys)
theorem isort_perm : ∀ xs, (isort xs).Perm xs
  | [] => .refl _
  | x :: xs => (insI_perm x (isort xs)).trans ((isort_perm xs).cons x)
theorem insI_sorted (x : Int) : ∀ ys : List Int, ys.Pairwise (· ≤ ·) → (insI x ys).Pairwise (· ≤ ·)
  | [], _ => by simp [insI]
  | y :: ys, h => by
    obtain ⟨h1, h2⟩ := List.pairwise_cons.mp h
    unfold insI
    split
    · rename_i hx
      exact List.pairwise_cons.mpr ⟨fun z hz => by
        rcases List.mem_cons.mp hz with rfl | hz
        · exact hx
        · exact Int.le_trans hx (h1 z hz), h⟩
    · rename_i hx
      refine List.pairwise_cons.mpr ⟨fun z hz => ?_, insI_sorted x ys h2⟩
      rcases List.mem_cons.mp ((insI_perm x ys).mem_iff.mp hz) with rfl | hz
      · omega
      · exact h1 z hz
theorem isort_sorted : ∀ xs, (isort xs).Pairwise (· ≤ ·)
  | [] => .nil
  | x :: xs => insI_sorted x _ (isort_sorted xs)
def fSortI : List D → Option Rv
  | [.lst ds] => match allOf D.int? ds with
    | some ns => some (.own (.lst ((isort ns).map .int)))
    | none => none
  | _ => none
def fSortR : List D → Option Rv
  | [.lst ds] => match allOf D.int? ds with
    | some ns => some (.own (.lst ((isort ns).reverse.map .int)))
    | none => none
  | _ => none
section
variable {M : Md} {cs : Cs} {W : WX} {k : Nat} {X : Cx}
end
end VF
namespace VF
open PySem PySem.Spec PyProof.Rows L2
def dvOf : D → Option He.Dv
  | .non => some .non
  | .bl b => some (.bl b)
  | .int i => some (.int i)
  | .str x => some (.str x)
  | _ => none
end VF
namespace VF
open PySem PySem.Spec PyProof.Rows L2
section
variable {M : Md} {cs : Cs} {W : WX} {k : Nat} {X : Cx}
theorem ss_bad {sts : List Stmt} : PSs X sts (tS M W badS) := PSs_imp pss_never fun D σ H h => by
  obtain ⟨F, ρ, sr, z⟩ := h
  exact (show False from z)
end
end VF
namespace VF
open PySem PySem.Spec PyProof.Rows L2
inductive R (α : Type) where
  | ok (a : α)
  | exc (x : Ex)
  | bad
def R.bind {α β : Type} (c : R α) (f : α → R β) : R β := match c with
  | .ok a => f a
  | .exc x => .exc x
  | .bad => .bad
@[simp] theorem R.bind_ok {α β : Type} (a : α) (f : α → R β) : (R.ok a).bind f = f a := rfl
@[simp] theorem R.bind_exc {α β : Type} (x : Ex) (f : α → R β) : (R.exc x : R α).bind f = .exc x := rfl
@[simp] theorem R.bind_bad {α β : Type} (f : α → R β) : (R.bad : R α).bind f = .bad := rfl
theorem R.bind_assoc {α β γ : Type} (c : R α) (f : α → R β) (g : β → R γ) : (c.bind f).bind g = c.bind fun a => (f a).bind g := by cases c <;> rfl
def R.map {α β : Type} (f : α → β) (c : R α) : R β := c.bind fun a => .ok (f a)
@[simp] theorem R.map_ok {α β : Type} (a : α) (f : α → β) : (R.ok a).map f = .ok (f a) := rfl
@[simp] theorem R.map_exc {α β : Type} (x : Ex) (f : α → β) : (R.exc x : R α).map f = .exc x := rfl
@[simp] theorem R.map_bad {α β : Type} (f : α → β) : (R.bad : R α).map f = .bad := rfl
def R.wp {α : Type} (c : R α) (Q : α → Prop) : Prop := ∃ a, c = .ok a ∧ Q a
theorem R.wp_ok {α : Type} {a : α} {Q : α → Prop} (h : Q a) : (R.ok a).wp Q := ⟨a, rfl, h⟩
theorem R.wp_bind {α β : Type} {c : R α} {f : α → R β} {P : α → Prop} {Q : β → Prop} (h : c.wp P) (k : ∀ a, P a → (f a).wp Q) : (c.bind f).wp Q := by
  obtain ⟨a, rfl, h⟩ := h
  exact k a h
def D.cont : D → Bool
  | .lst _ => true
  | .dck _ _ => true
  | .dct _ _ => true
  | .ins _ _ _ => true
  | _ => false
def pr : Option Rv → R D
  | some (.val d) => .ok d
  | some (.own d) => if d.cont = true then .ok d else .bad
  | none => .bad
def pro : Option Rv → R D
  | some (.own d) => if d.cont = true then .ok d else .bad
  | _ => .bad
@[simp] theorem pr_val (d : D) : pr (some (.val d)) = .ok d := rfl
@[simp] theorem pr_lst (d : List D) : pr (some (.own (.lst d))) = .ok (.lst d) := rfl
@[simp] theorem pr_dck (k : List Key) (d : List D) : pr (some (.own (.dck k d))) = .ok (.dck k d) := rfl
@[simp] theorem pr_dct (k : List (List Key)) (d : List D) : pr (some (.own (.dct k d))) = .ok (.dct k d) := rfl
@[simp] theorem pr_ins (k : Str) (f : List Str) (d : List D) : pr (some (.own (.ins k f d))) = .ok (.ins k f d) := rfl
@[simp] theorem pr_none : pr none = .bad := rfl
@[simp] theorem pro_lst (d : List D) : pro (some (.own (.lst d))) = .ok (.lst d) := rfl
@[simp] theorem pro_dck (k : List Key) (d : List D) : pro (some (.own (.dck k d))) = .ok (.dck k d) := rfl
@[simp] theorem pro_dct (k : List (List Key)) (d : List D) : pro (some (.own (.dct k d))) = .ok (.dct k d) := rfl
@[simp] theorem pro_ins (k : Str) (f : List Str) (d : List D) : pro (some (.own (.ins k f d))) = .ok (.ins k f d) := rfl
def RvOk (o : Bool) (rv : Rv) (d : D) : Prop := (rv = .own d ∧ d.cont = true) ∨ (rv = .val d ∧ o = false)
theorem RvOk.d {o : Bool} {rv : Rv} {d : D} (h : RvOk o rv d) : rv.d = d := by
  rcases h with ⟨h, _⟩ | ⟨h, _⟩ <;> subst h <;> rfl
theorem RvOk.weak {o : Bool} {rv : Rv} {d : D} (h : RvOk o rv d) : RvOk false rv d := h.imp id fun z => ⟨z.1, rfl⟩
def EvP (o : Bool) (φ : ES) (ρ : En) (c : R D) : Prop := match c with
  | .ok d => ∃ rv, φ ρ = .ok rv ρ ∧ RvOk o rv d
  | .exc x => φ ρ = .exc x ρ
  | .bad => True
def EvO (o : Opd) (ρ : En) (c : R D) : Prop := match c with
  | .ok d => ∃ x, o.ev ρ = .ok x ρ ∧ x.dat ρ = some d
  | .exc x => o.ev ρ = .exc x ρ
  | .bad => True
def EvA (o : Opd) (ρ : En) (c : R D) : Prop := match c with
  | .ok d => ∃ x, o.ev ρ = .ok x ρ ∧ slO ρ x = some (.val d)
  | .exc x => o.ev ρ = .exc x ρ
  | .bad => True
def EvT (t : BS) (ρ : En) (c : R Bool) : Prop := match c with
  | .ok b => t ρ = .ok b ρ
  | .exc x => t ρ = .exc x ρ
  | .bad => True
theorem EvP.weak {o : Bool} {φ : ES} {ρ : En} {c : R D} (h : EvP o φ ρ c) : EvP false φ ρ c := by
  cases c with
  | ok d => obtain ⟨rv, e, r⟩ := h; exact ⟨rv, e, r.weak⟩
  | exc x => exact h
  | bad => trivial
section
variable {ρ : En}
theorem ev_cst {d : D} : EvP false (cst d) ρ (.ok d) := ⟨_, rfl, .inr ⟨rfl, rfl⟩⟩
theorem ev_nm {i : Nat} {d : D} (h : gt ρ i = some (.val d)) : EvP false (nm i) ρ (.ok d) := ⟨.val d, by unfold nm; rw [h], .inr ⟨rfl, rfl⟩⟩
theorem eo_sl {i : Nat} {s : Sl} (h : gt ρ i = some s) : EvO (.sl i) ρ (.ok s.d) := ⟨.at i, by simp only [Opd.ev, h], by simp only [Ov.dat, h, Option.map]⟩
theorem eo_ex {o : Bool} {φ : ES} {c : R D} (h : EvP o φ ρ c) : EvO (.ex φ) ρ c := by
  cases c with
  | ok d => obtain ⟨rv, e, r⟩ := h; exact ⟨.val d, by simp only [Opd.ev, e, Out.bind, r.d], rfl⟩
  | exc x => show (φ ρ).bind _ = _; rw [show φ ρ = .exc x ρ from h]; rfl
  | bad => trivial
theorem ea_ex {o : Bool} {φ : ES} {c : R D} (h : EvP o φ ρ c) : EvA (.ex φ) ρ c := by
  cases c with
  | ok d => obtain ⟨rv, e, r⟩ := h; exact ⟨.val d, by simp only [Opd.ev, e, Out.bind, r.d], rfl⟩
  | exc x => show (φ ρ).bind _ = _; rw [show φ ρ = .exc x ρ from h]; rfl
  | bad => trivial
def EvOs (os : List Opd) (ρ : En) (c : R (List D)) : Prop := match c with
  | .ok ds => ∃ xs, evs os ρ = .ok xs ρ ∧ dats ρ xs = some ds
  | .exc x => evs os ρ = .exc x ρ
  | .bad => True
def seqR : List (R D) → R (List D)
  | [] => .ok []
  | c :: cs => c.bind fun d => (seqR cs).bind fun ds => .ok (d :: ds)
@[simp] theorem seqR_nil : seqR [] = .ok [] := rfl
@[simp] theorem seqR_cons (c : R D) (cs : List (R D)) : seqR (c :: cs) = c.bind fun d => (seqR cs).bind fun ds => .ok (d :: ds) := rfl
theorem eos_nil : EvOs [] ρ (seqR []) := ⟨[], rfl, rfl⟩
theorem eos_cons {o : Opd} {os : List Opd} {c : R D} {cs : List (R D)} (h : EvO o ρ c) (hs : EvOs os ρ (seqR cs)) : EvOs (o :: os) ρ (seqR (c :: cs)) := by
  rw [seqR_cons]
  cases c with
  | bad => trivial
  | exc x => show (o.ev ρ).bind _ = _; rw [show o.ev ρ = .exc x ρ from h]; rfl
  | ok d =>
    obtain ⟨x, e1, e2⟩ := h
    rw [R.bind_ok]
    generalize seqR cs = k at hs
    cases k with
    | bad => trivial
    | exc y => show (o.ev ρ).bind _ = _; rw [e1]; show (evs os ρ).bind _ = _; rw [show evs os ρ = .exc y ρ from hs]; rfl
    | ok ds =>
      obtain ⟨xs, e3, e4⟩ := hs
      refine ⟨x :: xs, ?_, ?_⟩
      · show (o.ev ρ).bind _ = _; rw [e1]; show (evs os ρ).bind _ = _; rw [e3]; rfl
      · unfold dats; rw [e2, e4]
theorem pr_rv {a : Option Rv} {d : D} (h : pr a = .ok d) : ∃ rv, a = some rv ∧ RvOk false rv d := by
  cases a with
  | none => cases h
  | some rv => cases rv with
    | val e => cases h; exact ⟨_, rfl, .inr ⟨rfl, rfl⟩⟩
    | own e =>
      have h : (if e.cont = true then R.ok e else .bad) = .ok d := h
      by_cases hc : e.cont = true
      · rw [if_pos hc] at h; cases h; exact ⟨_, rfl, .inl ⟨rfl, hc⟩⟩
      · rw [if_neg hc] at h; cases h
theorem pr_noexc {a : Option Rv} {x : Ex} : pr a ≠ .exc x := by
  intro h
  cases a with
  | none => cases h
  | some rv => cases rv with
    | val e => cases h
    | own e =>
      have h : (if e.cont = true then R.ok e else .bad) = .exc x := h
      split at h <;> cases h
theorem ev_app {f : List D → Option Rv} {os : List Opd} {cs : List (R D)} (h : EvOs os ρ (seqR cs)) : EvP false (app f os) ρ ((seqR cs).bind fun ds => pr (f ds)) := by
  generalize seqR cs = k at h
  cases k with
  | bad => trivial
  | exc x => show (evs os ρ).bind _ = _; rw [show evs os ρ = .exc x ρ from h]; rfl
  | ok ds =>
    obtain ⟨xs, e1, e2⟩ := h
    rw [R.bind_ok]
    cases e : pr (f ds) with
    | bad => trivial
    | exc x => exact absurd e pr_noexc
    | ok d =>
      obtain ⟨rv, e3, r⟩ := pr_rv e
      refine ⟨rv, ?_, r⟩
      unfold app
      rw [e1]
      show (match dats ρ xs with | some ds => _ | none => _) = _
      simp only [e2, e3]
def EvPs (φs : List ES) (ρ : En) (c : R (List D)) : Prop := match c with
  | .ok ds => ∃ xs, evs (φs.map .ex) ρ = .ok xs ρ ∧ vals xs = some ds
  | .exc x => evs (φs.map .ex) ρ = .exc x ρ
  | .bad => True
theorem eps_nil : EvPs [] ρ (seqR []) := ⟨[], rfl, rfl⟩
theorem ex_ev {o : Bool} {φ : ES} {d : D} {rv : Rv} (e : φ ρ = .ok rv ρ) (r : RvOk o rv d) : (Opd.ex φ).ev ρ = .ok (.val d) ρ := by
  simp only [Opd.ev, e, Out.bind, r.d]
theorem eps_cons {o : Bool} {φ : ES} {φs : List ES} {c : R D} {cs : List (R D)} (h : EvP o φ ρ c) (hs : EvPs φs ρ (seqR cs)) : EvPs (φ :: φs) ρ (seqR (c :: cs)) := by
  rw [seqR_cons]
  cases c with
  | bad => trivial
  | exc x => show ((Opd.ex φ).ev ρ).bind _ = _; rw [show (Opd.ex φ).ev ρ = .exc x ρ by simp only [Opd.ev, show φ ρ = .exc x ρ from h, Out.bind]]; rfl
  | ok d =>
    obtain ⟨rv, e1, r⟩ := h
    have e1 := ex_ev e1 r
    rw [R.bind_ok]
    generalize seqR cs = k at hs
    cases k with
    | bad => trivial
    | exc y => show ((Opd.ex φ).ev ρ).bind _ = _; rw [e1]; show (evs (φs.map .ex) ρ).bind _ = _; rw [show evs (φs.map .ex) ρ = .exc y ρ from hs]; rfl
    | ok ds =>
      obtain ⟨xs, e3, e4⟩ := hs
      refine ⟨.val d :: xs, ?_, ?_⟩
      · show ((Opd.ex φ).ev ρ).bind _ = _; rw [e1]; show (evs (φs.map .ex) ρ).bind _ = _; rw [e3]; rfl
      · unfold vals; rw [e4]; rfl
theorem ev_disp {mk : List D → Rv} {o : Bool} {f : List D → D} {φs : List ES} {cs : List (R D)} (hm : ∀ ds, RvOk o (mk ds) (f ds)) (h : EvPs φs ρ (seqR cs)) : EvP o (disp mk φs) ρ ((seqR cs).bind fun ds => .ok (f ds)) := by
  generalize seqR cs = k at h
  cases k with
  | bad => trivial
  | exc x => show (evs (φs.map .ex) ρ).bind _ = _; rw [show evs (φs.map .ex) ρ = .exc x ρ from h]; rfl
  | ok ds =>
    obtain ⟨xs, e1, e2⟩ := h
    refine ⟨mk ds, ?_, hm ds⟩
    unfold disp
    rw [e1]
    show (match vals xs with | some ds => _ | none => _) = _
    simp only [e2]
def tupR (cs : List (R D)) : R D := (seqR cs).bind fun ds => .ok (.tup ds)
def lstR (cs : List (R D)) : R D := (seqR cs).bind fun ds => .ok (.lst ds)
theorem ev_tup {φs : List ES} {cs : List (R D)} (h : EvPs φs ρ (seqR cs)) : EvP false (disp mkT φs) ρ (tupR cs) := ev_disp (fun _ => .inr ⟨rfl, rfl⟩) h
theorem ev_lst {φs : List ES} {cs : List (R D)} (h : EvPs φs ρ (seqR cs)) : EvP true (disp mkL φs) ρ (lstR cs) := ev_disp (fun _ => .inl ⟨rfl, rfl⟩) h
def asB : D → R Bool
  | .bl b => .ok b
  | _ => .bad
@[simp] theorem asB_bl (b : Bool) : asB (.bl b) = .ok b := rfl
def trR (d : D) : R Bool := match d.truth with
  | some b => .ok b
  | none => .bad
@[simp] theorem trR_bl (b : Bool) : trR (.bl b) = .ok b := rfl
theorem et_tst {o : Bool} {φ : ES} {c : R D} (h : EvP o φ ρ c) : EvT (tst φ) ρ (c.bind asB) := by
  cases c with
  | bad => trivial
  | exc x => show (φ ρ).bind _ = _; rw [show φ ρ = .exc x ρ from h]; rfl
  | ok d =>
    obtain ⟨rv, e, r⟩ := h
    rw [R.bind_ok]
    cases d with
    | bl b =>
      rcases r with ⟨_, r⟩ | ⟨r, _⟩
      · cases r
      · subst r
        show (φ ρ).bind _ = _
        rw [e]; rfl
    | _ => trivial
theorem et_tru {o : Opd} {c : R D} (h : EvO o ρ c) : EvT (tru o) ρ (c.bind trR) := by
  cases c with
  | bad => trivial
  | exc x => show (o.ev ρ).bind _ = _; rw [show o.ev ρ = .exc x ρ from h]; rfl
  | ok d =>
    obtain ⟨x, e1, e2⟩ := h
    rw [R.bind_ok]
    unfold trR
    cases e : d.truth with
    | none => trivial
    | some b =>
      show (o.ev ρ).bind _ = _
      rw [e1]
      show (match x.dat ρ with | some d => _ | none => _) = _
      simp only [e2, e]
theorem et_and {t u : BS} {c e : R Bool} (h : EvT t ρ c) (h2 : EvT u ρ e) : EvT (band t u) ρ (c.bind fun b => if b = true then e else .ok false) := by
  cases c with
  | bad => trivial
  | exc x => show (t ρ).bind _ = _; rw [show t ρ = .exc x ρ from h]; rfl
  | ok b =>
    have k : band t u ρ = if b then u ρ else .ok false ρ := by show (t ρ).bind _ = _; rw [show t ρ = .ok b ρ from h]; rfl
    cases b with
    | false => exact k
    | true =>
      rw [R.bind_ok, if_pos rfl]
      unfold EvT at h2 ⊢
      rw [k]
      exact h2
theorem et_or {t u : BS} {c e : R Bool} (h : EvT t ρ c) (h2 : EvT u ρ e) : EvT (bor t u) ρ (c.bind fun b => if b = true then .ok true else e) := by
  cases c with
  | bad => trivial
  | exc x => show (t ρ).bind _ = _; rw [show t ρ = .exc x ρ from h]; rfl
  | ok b =>
    have k : bor t u ρ = if b then .ok true ρ else u ρ := by show (t ρ).bind _ = _; rw [show t ρ = .ok b ρ from h]; rfl
    cases b with
    | true => exact k
    | false =>
      rw [R.bind_ok, if_neg (by decide)]
      unfold EvT at h2 ⊢
      rw [k]
      exact h2
theorem ev_and {o o2 : Bool} {a b : ES} {ca cb : R D} (ha : EvP o a ρ ca) (hb : EvP o2 b ρ cb) : EvP false (andE a b) ρ (ca.bind fun d => (trR d).bind fun k => if k = true then cb else .ok d) := by
  cases ca with
  | bad => trivial
  | exc x => show (a ρ).bind _ = _; rw [show a ρ = .exc x ρ from ha]; rfl
  | ok d =>
    obtain ⟨rv, e, r⟩ := ha
    rw [R.bind_ok]
    unfold trR
    cases et : d.truth with
    | none => trivial
    | some k =>
      have e2 : andE a b ρ = if k then b ρ else .ok rv ρ := by
        show (a ρ).bind _ = _
        rw [e]
        show (match rv.d.truth with | some true => _ | some false => _ | none => _) = _
        rw [r.d, et]
        cases k <;> rfl
      cases k with
      | true => show EvP false (andE a b) ρ cb; have hb := hb.weak; unfold EvP at hb ⊢; rw [e2]; exact hb
      | false => exact ⟨rv, e2, r.weak⟩
def asI : D → R (Option Int)
  | .int i => .ok (some i)
  | _ => .bad
@[simp] theorem asI_int (i : Int) : asI (.int i) = .ok (some i) := rfl
def ptR : Option (R D) → R (Option Int)
  | none => .ok none
  | some c => c.bind asI
def slR (ca : R D) (lo hi : Option (R D)) : R D := ca.bind fun a => (ptR lo).bind fun l => (ptR hi).bind fun h => pr (fSl a l h)
def EvI (o : Option Opd) (ρ : En) (c : Option (R D)) : Prop := match o, c with
  | none, none => True
  | some o, some c => EvO o ρ c
  | _, _ => False
theorem ei_run {o : Option Opd} {c : Option (R D)} (h : EvI o ρ c) : match ptR c with
  | .ok l => evI o ρ = .ok l ρ
  | .exc x => evI o ρ = .exc x ρ
  | .bad => True := by
  cases o with
  | none => cases c with
    | none => rfl
    | some c => exact h.elim
  | some o => cases c with
    | none => exact h.elim
    | some c =>
      have h : EvO o ρ c := h
      unfold ptR
      cases c with
      | bad => trivial
      | exc x => show (o.ev ρ).bind _ = _; rw [show o.ev ρ = .exc x ρ from h]; rfl
      | ok d =>
        obtain ⟨x, e1, e2⟩ := h
        simp only [R.bind_ok]
        cases d with
        | int i =>
          show (o.ev ρ).bind _ = _
          rw [e1]
          show (match x.dat ρ with | some (.int i) => _ | _ => _) = _
          rw [e2]
        | _ => trivial
theorem ev_slc {oa : Opd} {ol oh : Option Opd} {ca : R D} {cl ch : Option (R D)} (ha : EvO oa ρ ca) (hl : EvI ol ρ cl) (hh : EvI oh ρ ch) : EvP false (slc oa ol oh) ρ (slR ca cl ch) := by
  unfold slR
  cases ca with
  | bad => trivial
  | exc x => show (oa.ev ρ).bind _ = _; rw [show oa.ev ρ = .exc x ρ from ha]; rfl
  | ok a =>
    obtain ⟨xa, ea, da⟩ := ha
    rw [R.bind_ok]
    have hl := ei_run hl
    have hh := ei_run hh
    generalize ptR cl = kl at hl
    generalize ptR ch = kh at hh
    cases kl with
    | bad => trivial
    | exc x => show (oa.ev ρ).bind _ = _; rw [ea]; show (evI ol ρ).bind _ = _; simp only at hl; rw [hl]; rfl
    | ok l =>
      simp only at hl
      rw [R.bind_ok]
      cases kh with
      | bad => trivial
      | exc x => show (oa.ev ρ).bind _ = _; rw [ea]; show (evI ol ρ).bind _ = _; rw [hl]; show (evI oh ρ).bind _ = _; simp only at hh; rw [hh]; rfl
      | ok u =>
        simp only at hh
        rw [R.bind_ok]
        cases e : pr (fSl a l u) with
        | bad => trivial
        | exc x => exact absurd e pr_noexc
        | ok d =>
          obtain ⟨rv, e3, r⟩ := pr_rv e
          refine ⟨rv, ?_, r⟩
          show (oa.ev ρ).bind _ = _
          rw [ea]
          show (evI ol ρ).bind _ = _
          rw [hl]
          show (evI oh ρ).bind _ = _
          rw [hh]
          show (match xa.dat ρ with | some d => _ | none => _) = _
          rw [da]
          show (match fSl a l u with | some r => _ | none => _) = _
          rw [e3]
def meR (T : String) (f : List D → Option Rv) (c : R D) (cs : List (R D)) : R D := c.bind fun d => if d.ty = some T then (seqR cs).bind fun ds => pr (f (d :: ds)) else .bad
theorem ev_meth {T : String} {f : List D → Option Rv} {o : Opd} {os : List Opd} {c : R D} {cs : List (R D)} (h : EvO o ρ c) (hs : EvOs os ρ (seqR cs)) : EvP false (meth T f o os) ρ (meR T f c cs) := by
  unfold meR
  cases c with
  | bad => trivial
  | exc x => show (o.ev ρ).bind _ = _; rw [show o.ev ρ = .exc x ρ from h]; rfl
  | ok d =>
    obtain ⟨x, e1, e2⟩ := h
    rw [R.bind_ok]
    by_cases ht : d.ty = some T
    · rw [if_pos ht]
      have e0 : meth T f o os ρ = (evs os ρ).bind fun xs ρ2 => (match x.dat ρ2, dats ρ2 xs with
          | some d', some ds => (match f (d' :: ds) with
            | some r => .ok r ρ2
            | none => .bad)
          | _, _ => .bad) := by
        show (o.ev ρ).bind _ = _
        rw [e1]
        show (match x.dat ρ with | some d => _ | none => _) = _
        rw [e2]
        show (if d.ty = some T then _ else _) = _
        rw [if_pos ht]
        all_goals rfl
      generalize seqR cs = k at hs
      cases k with
      | bad => trivial
      | exc y => show meth T f o os ρ = _; rw [e0, show evs os ρ = .exc y ρ from hs]; rfl
      | ok ds =>
        obtain ⟨xs, e3, e4⟩ := hs
        rw [R.bind_ok]
        cases e : pr (f (d :: ds)) with
        | bad => trivial
        | exc x => exact absurd e pr_noexc
        | ok w =>
          obtain ⟨rv, e5, r⟩ := pr_rv e
          refine ⟨rv, ?_, r⟩
          rw [e0, e3]
          show (match x.dat ρ, dats ρ xs with | some d', some ds => _ | _, _ => _) = _
          rw [e2, e4]
          show (match f (d :: ds) with | some r => _ | none => _) = _
          rw [e5]
    · rw [if_neg ht]; trivial
end
end VF
namespace VF
open PySem PySem.Spec PyProof.Rows L2
def TgOk {T : Type} (tg : Tg) (ρ : En) (u : D → Option T) (enc : T → En) : Prop := ∀ x, put tg x ρ = (u x).map enc
def okI (ρ : En) (i : Nat) : Bool := noRef (gt ρ i) && decide (i < ρ.length)
theorem tg_nm {i : Nat} {ρ : En} (h : okI ρ i = true) : TgOk (.nm i) ρ some (fun d => ρ.set i (some (.val d))) := fun x => by
  have h : noRef (gt ρ i) = true ∧ i < ρ.length := by simpa [okI] using h
  unfold put
  rw [if_pos h]
  rfl
def un2 {A B : Type} (u1 : D → Option A) (u2 : D → Option B) : D → Option (A × B)
  | .tup [x, y] => (u1 x).bind fun a => (u2 y).map fun b => (a, b)
  | _ => none
def noE {α : Type} : R α → R α
  | .ok a => .ok a
  | _ => .bad
@[simp] theorem noE_ok {α : Type} (a : α) : noE (.ok a) = .ok a := rfl
def filR {T : Type} (u : D → Option T) (p : T → R Bool) (f : T → R D) : List D → R (List D)
  | [] => .ok []
  | x :: xs => match u x with
    | none => .bad
    | some t => (noE (p t)).bind fun b => if b = true then (noE (f t)).bind fun d => (filR u p f xs).bind fun ds => .ok (d :: ds) else filR u p f xs
def mapR {T : Type} (u : D → Option T) (f : T → R D) : List D → R (List D)
  | [] => .ok []
  | x :: xs => match u x with
    | none => .bad
    | some t => (noE (f t)).bind fun d => (mapR u f xs).bind fun ds => .ok (d :: ds)
def ofO {α : Type} : Option α → R α
  | some a => .ok a
  | none => .bad
@[simp] theorem ofO_some {α : Type} (a : α) : ofO (some a) = .ok a := rfl
@[simp] theorem ofO_none {α : Type} : ofO (none : Option α) = .bad := rfl
def EvSrc (src : Src) (ρ : En) (c : R (List D)) (al : List Nat) (ρm : En) : Prop := match c with
  | .ok its => ∃ xs ds, evs src.ops ρ = .ok xs ρ ∧ dats ρ xs = some ds ∧ src.f ds = some its ∧ ats xs = al ∧ lk xs ρ = ρm ∧ lks ρ xs = al.filter (fun i => match gt ρ i with | some (.own _) => true | some (.ref _) => true | _ => false)
  | .exc x => evs src.ops ρ = .exc x ρ
  | .bad => True
theorem vals_facts {ρ : En} : ∀ {xs : List Ov} {ds : List D}, vals xs = some ds → dats ρ xs = some ds ∧ ats xs = [] ∧ lk xs ρ = ρ
  | [], ds, e => by cases e; exact ⟨rfl, rfl, rfl⟩
  | .val d :: xs, ds, e => by
    unfold vals at e
    cases e1 : vals xs with
    | none => rw [e1] at e; cases e
    | some r =>
      rw [e1] at e
      cases e
      obtain ⟨h1, h2, h3⟩ := vals_facts (ρ := ρ) e1
      refine ⟨?_, h2, h3⟩
      unfold dats
      rw [h1]
      rfl
  | .at _ :: _, _, e => by cases e
def srR (f : List D → Option (List D)) (cs : List (R D)) : R (List D) := (seqR cs).bind fun ds => ofO (f ds)
theorem es_ex {f : List D → Option (List D)} {φs : List ES} {cs : List (R D)} {ρ : En} (h : EvPs φs ρ (seqR cs)) : EvSrc ⟨φs.map .ex, f⟩ ρ (srR f cs) [] ρ := by
  unfold srR
  generalize seqR cs = k at h
  cases k with
  | bad => trivial
  | exc x => exact h
  | ok ds =>
    obtain ⟨xs, e1, e2⟩ := h
    rw [R.bind_ok]
    cases e : f ds with
    | none => trivial
    | some its =>
      obtain ⟨h1, h2, h3⟩ := vals_facts (ρ := ρ) e2
      exact ⟨xs, ds, e1, h1, e, h2, h3, by unfold lks; rw [h2]; all_goals rfl⟩
end VF
namespace VF
open PySem PySem.Spec PyProof.Rows L2
inductive LS (T α : Type) where
  | nx (t : T)
  | rt (a : α)
def LS.el {T α β : Type} (k : T → β) (r : α → β) : LS T α → β
  | .nx t => k t
  | .rt a => r a
@[simp] theorem LS.el_nx {T α β : Type} (k : T → β) (r : α → β) (t : T) : LS.el k r (.nx t) = k t := rfl
@[simp] theorem LS.el_rt {T α β : Type} (k : T → β) (r : α → β) (a : α) : LS.el k r (.rt a) = r a := rfl
structure Kn (κ : Type) where
  p : SO → R κ → Prop
  ex : ∀ x ρ, p (.exc x ρ) (.exc x)
  bad : ∀ o, p o .bad
def kTl {α : Type} (o : Bool) (val : α → D) (fin : α → En → Prop) : Kn α where
  p := fun s c => match c with
    | .ok a => ∃ rv ρ', s = .rt rv ρ' ∧ RvOk o rv (val a) ∧ fin a ρ'
    | .exc x => ∃ ρ', s = .exc x ρ'
    | .bad => True
  ex := fun x ρ => ⟨ρ, rfl⟩
  bad := fun _ => trivial
def kBn {T : Type} (env : T → En) : Kn T where
  p := fun s c => match c with
    | .ok t => s = .nx (env t)
    | .exc x => ∃ ρ', s = .exc x ρ'
    | .bad => True
  ex := fun x ρ => ⟨ρ, rfl⟩
  bad := fun _ => trivial
def kBk {T α : Type} (o : Bool) (env : T → En) (val : α → D) (fin : α → En → Prop) : Kn (LS T α) where
  p := fun s c => match c with
    | .ok (.nx t) => s = .nx (env t)
    | .ok (.rt a) => ∃ rv ρ', s = .rt rv ρ' ∧ RvOk o rv (val a) ∧ fin a ρ'
    | .exc x => ∃ ρ', s = .exc x ρ'
    | .bad => True
  ex := fun x ρ => ⟨ρ, rfl⟩
  bad := fun _ => trivial
section
variable {κ : Type} {K : Kn κ} {ρ : En}
def frz (i : Nat) (a : SS) : SS := fun ρ => match gt ρ i with
  | some (.own d) => a (ρ.set i (some (.val d)))
  | _ => a ρ
theorem k_kill {i : Nat} {a : SS} {c : R κ} (hn : noRef (gt ρ i) = true) (h : K.p (a (ρ.set i none)) c) : K.p (kill i a ρ) c := by
  have e : kill i a ρ = a (ρ.set i none) := by
    unfold kill
    cases e : gt ρ i with
    | none => rfl
    | some s => cases s with
      | val d => rfl
      | own d => rfl
      | ref d => rw [e] at hn; cases hn
      | rd d => rw [e] at hn; cases hn
  rw [e]
  exact h
theorem k_set {o : Bool} {i : Nat} {φ : ES} {a : SS} {c : R D} {k : D → R κ} (hi : okI ρ i = true) (he : EvP o φ ρ c) (h : ∀ d, K.p (a (ρ.set i (some (.val d)))) (k d)) : K.p (seq (setI i φ) (frz i a) ρ) (c.bind k) := by
  have hi : noRef (gt ρ i) = true ∧ i < ρ.length := by simpa [okI] using hi
  cases c with
  | bad => exact K.bad _
  | exc x =>
    have e : seq (setI i φ) (frz i a) ρ = .exc x ρ := by unfold seq setI; rw [show φ ρ = .exc x ρ from he]; rfl
    rw [e]
    exact K.ex _ _
  | ok d =>
    obtain ⟨rv, e, r⟩ := he
    have e : seq (setI i φ) (frz i a) ρ = a (ρ.set i (some (.val d))) := by
      rcases r with ⟨r, _⟩ | ⟨r, _⟩
      · subst r
        have e1 : setI i φ ρ = .nx (ρ.set i (some (.own d))) := by
          unfold setI
          rw [e]
          show (if noRef (gt ρ i) = true ∧ i < ρ.length then _ else _) = _
          rw [if_pos hi]
        unfold seq
        rw [e1]
        show frz i a (ρ.set i (some (.own d))) = _
        unfold frz
        rw [gt_set_self hi.2]
        show a ((ρ.set i (some (.own d))).set i (some (.val d))) = _
        rw [List.set_set]
      · subst r
        have e1 : setI i φ ρ = .nx (ρ.set i (some (.val d))) := by
          unfold setI
          rw [e]
          show (if noRef (gt ρ i) = true ∧ i < ρ.length then _ else _) = _
          rw [if_pos hi]
        unfold seq
        rw [e1]
        show frz i a (ρ.set i (some (.val d))) = _
        unfold frz
        rw [gt_set_self hi.2]
    rw [e]
    exact h d
theorem k_setO {i : Nat} {φ : ES} {a : SS} {c : R D} {k : D → R κ} (hi : okI ρ i = true) (he : EvP true φ ρ c) (h : ∀ d, K.p (a (ρ.set i (some (.own d)))) (k d)) : K.p (seq (setI i φ) a ρ) (c.bind k) := by
  have hi : noRef (gt ρ i) = true ∧ i < ρ.length := by simpa [okI] using hi
  cases c with
  | bad => exact K.bad _
  | exc x =>
    have e : seq (setI i φ) a ρ = .exc x ρ := by unfold seq setI; rw [show φ ρ = .exc x ρ from he]; rfl
    rw [e]
    exact K.ex _ _
  | ok d =>
    obtain ⟨rv, e, r⟩ := he
    have e : seq (setI i φ) a ρ = a (ρ.set i (some (.own d))) := by
      rcases r with ⟨r, _⟩ | ⟨_, r⟩
      · subst r
        have e1 : setI i φ ρ = .nx (ρ.set i (some (.own d))) := by
          unfold setI
          rw [e]
          show (if noRef (gt ρ i) = true ∧ i < ρ.length then _ else _) = _
          rw [if_pos hi]
        unfold seq
        rw [e1]
      · cases r
    rw [e]
    exact h d
theorem k_par {o o' : Bool} {i j : Nat} {φ ψ : ES} {a : SS} {c e : R D} {k : D → D → R κ} (hi : okI ρ i = true) (hj : okI ρ j = true) (he : EvP o φ ρ c) (hf : EvP o' ψ ρ e) (h : ∀ d w, K.p (a ((ρ.set i (some (.val d))).set j (some (.val w)))) (k d w)) : K.p (seq (parS i j φ ψ) a ρ) (c.bind fun d => e.bind fun w => k d w) := by
  have hi : noRef (gt ρ i) = true ∧ i < ρ.length := by simpa [okI] using hi
  have hj : noRef (gt ρ j) = true ∧ j < ρ.length := by simpa [okI] using hj
  have hp := eps_cons he (eps_cons hf eps_nil)
  have e0 : c.bind (fun d => e.bind fun w => k d w) = (seqR [c, e]).bind fun ds => match ds with | [d, w] => k d w | _ => .bad := by
    cases c with
    | bad => rfl
    | exc x => rfl
    | ok d => cases e <;> rfl
  rw [e0]
  generalize seqR [c, e] = z at hp
  cases z with
  | bad => exact K.bad _
  | exc x =>
    have e : seq (parS i j φ ψ) a ρ = .exc x ρ := by
      have hp : evs ([φ, ψ].map .ex) ρ = .exc x ρ := hp
      unfold seq parS
      rw [show [Opd.ex φ, Opd.ex ψ] = [φ, ψ].map .ex from rfl, hp]
      rfl
    rw [e]
    exact K.ex _ _
  | ok ds =>
    obtain ⟨xs, e1, e2⟩ := hp
    rw [R.bind_ok]
    match ds, e2 with
    | [d, w], e2 =>
      have e : seq (parS i j φ ψ) a ρ = a ((ρ.set i (some (.val d))).set j (some (.val w))) := by
        unfold seq parS
        rw [show [Opd.ex φ, Opd.ex ψ] = [φ, ψ].map .ex from rfl, e1]
        show (match (match vals xs with | some [d, e] => _ | _ => SO.bad) with | .nx ρ' => a ρ' | o => o) = _
        rw [e2]
        show (match (if (noRef (gt ρ i) = true ∧ i < ρ.length) ∧ (noRef (gt ρ j) = true ∧ j < ρ.length) then SO.nx ((ρ.set i (some (.val d))).set j (some (.val w))) else SO.bad) with | .nx ρ' => a ρ' | o => o) = _
        rw [if_pos ⟨hi, hj⟩]
      rw [e]
      exact h d w
    | [], _ => exact K.bad _
    | [_], _ => exact K.bad _
    | _ :: _ :: _ :: _, _ => exact K.bad _
theorem k_if {t : BS} {a b : SS} {ct : R Bool} {ca cb : R κ} (ht : EvT t ρ ct) (ha : K.p (a ρ) ca) (hb : K.p (b ρ) cb) : K.p (ifS t a b ρ) (ct.bind fun k => if k = true then ca else cb) := by
  cases ct with
  | bad => exact K.bad _
  | exc x =>
    have e : ifS t a b ρ = .exc x ρ := by unfold ifS; rw [show t ρ = .exc x ρ from ht]; rfl
    rw [e]
    exact K.ex _ _
  | ok k =>
    have e : ifS t a b ρ = if k = true then a ρ else b ρ := by unfold ifS; rw [show t ρ = .ok k ρ from ht]; rfl
    rw [e, R.bind_ok]
    cases k with
    | true => exact ha
    | false => exact hb
theorem k_seqN {T : Type} {env : T → En} {a b : SS} {c : R T} {k : T → R κ} (ha : (kBn env).p (a ρ) c) (h : ∀ t, K.p (b (env t)) (k t)) : K.p (seq a b ρ) (c.bind k) := by
  cases c with
  | bad => exact K.bad _
  | exc x =>
    obtain ⟨ρ', e⟩ := ha
    have e : seq a b ρ = .exc x ρ' := by unfold seq; rw [e]
    rw [e]
    exact K.ex _ _
  | ok t =>
    have e : seq a b ρ = b (env t) := by unfold seq; rw [show a ρ = .nx (env t) from ha]
    rw [e]
    exact h t
end
section
variable {T α : Type} {o : Bool} {env : T → En} {val : α → D} {fin : α → En → Prop} {ρ : En}
theorem k_nil {t : T} (h : env t = ρ) : (kBn env).p (skip ρ) (.ok t) := by subst h; rfl
theorem bn_bk {s : SO} {c : R T} (h : (kBn env).p s c) : (kBk o env val fin).p s (c.bind fun a => .ok (.nx a)) := by cases c <;> exact h
theorem k_ret {o' : Bool} {φ : ES} {c : R D} {w : D → α} (he : EvP o' φ ρ c) (ho : o = true → o' = true) (hv : ∀ d, val (w d) = d) (hf : ∀ d, fin (w d) ρ) : (kTl o val fin).p (retE φ ρ) (c.bind fun d => .ok (w d)) := by
  cases c with
  | bad => trivial
  | exc x => exact ⟨ρ, by unfold retE; rw [show φ ρ = .exc x ρ from he]; rfl⟩
  | ok d =>
    obtain ⟨rv, e, r⟩ := he
    refine ⟨rv, ρ, by unfold retE; rw [e]; rfl, ?_, hf d⟩
    rw [hv]
    rcases r with ⟨r, z⟩ | ⟨r, z⟩
    · exact .inl ⟨r, z⟩
    · refine .inr ⟨r, ?_⟩
      cases o with
      | false => rfl
      | true => rw [ho rfl] at z; cases z
theorem k_retV {i : Nat} {d : D} {a : α} (hi : gt ρ i = some (.val d)) (hv : val a = d) (hf : fin a ρ) : (kTl false val fin).p (retI i ρ) (.ok a) := by
  refine ⟨.val d, ρ, by unfold retI; rw [hi], .inr ⟨by rw [hv], rfl⟩, hf⟩
def cnR {α : Type} (d : D) (a : α) : R α := if d.cont = true then .ok a else .bad
@[simp] theorem cnR_lst {α : Type} (ds : List D) (a : α) : cnR (.lst ds) a = .ok a := rfl
@[simp] theorem cnR_dck {α : Type} (k : List Key) (ds : List D) (a : α) : cnR (.dck k ds) a = .ok a := rfl
@[simp] theorem cnR_dct {α : Type} (k : List (List Key)) (ds : List D) (a : α) : cnR (.dct k ds) a = .ok a := rfl
@[simp] theorem cnR_ins {α : Type} (k : Str) (f : List Str) (ds : List D) (a : α) : cnR (.ins k f ds) a = .ok a := rfl
theorem k_ifrT {t : BS} {a b : SS} {ct : R Bool} {ca cb : R α} (ht : EvT t ρ ct) (ha : (kTl o val fin).p (a ρ) ca) (hb : (kTl o val fin).p (b ρ) cb) : (kTl o val fin).p (seq (ifS t a skip) b ρ) (ct.bind fun k => if k = true then ca else cb) := by
  cases ct with
  | bad => trivial
  | exc x => exact ⟨ρ, by unfold seq ifS; rw [show t ρ = .exc x ρ from ht]; rfl⟩
  | ok k =>
    rw [R.bind_ok]
    have e : ifS t a skip ρ = if k = true then a ρ else .nx ρ := by unfold ifS; rw [show t ρ = .ok k ρ from ht]; rfl
    cases k with
    | false =>
      have e2 : seq (ifS t a skip) b ρ = b ρ := by unfold seq; rw [e]; rfl
      rw [e2]; exact hb
    | true =>
      have e : ifS t a skip ρ = a ρ := e
      rw [if_pos rfl]
      cases ca with
      | bad => trivial
      | exc x => obtain ⟨ρ', e1⟩ := ha; exact ⟨ρ', by unfold seq; rw [e, e1]⟩
      | ok w => obtain ⟨rv, ρ', e1, r, f⟩ := ha; exact ⟨rv, ρ', by unfold seq; rw [e, e1], r, f⟩
theorem k_ifrB {t : BS} {a b : SS} {ct : R Bool} {ca : R α} {cb : R (LS T α)} (ht : EvT t ρ ct) (ha : (kTl o val fin).p (a ρ) ca) (hb : (kBk o env val fin).p (b ρ) cb) : (kBk o env val fin).p (seq (ifS t a skip) b ρ) (ct.bind fun k => if k = true then ca.bind fun a => .ok (.rt a) else cb) := by
  cases ct with
  | bad => trivial
  | exc x => exact ⟨ρ, by unfold seq ifS; rw [show t ρ = .exc x ρ from ht]; rfl⟩
  | ok k =>
    rw [R.bind_ok]
    have e : ifS t a skip ρ = if k = true then a ρ else .nx ρ := by unfold ifS; rw [show t ρ = .ok k ρ from ht]; rfl
    cases k with
    | false =>
      have e2 : seq (ifS t a skip) b ρ = b ρ := by unfold seq; rw [e]; rfl
      rw [e2]; exact hb
    | true =>
      have e : ifS t a skip ρ = a ρ := e
      rw [if_pos rfl]
      cases ca with
      | bad => trivial
      | exc x => obtain ⟨ρ', e1⟩ := ha; exact ⟨ρ', by unfold seq; rw [e, e1]⟩
      | ok w => obtain ⟨rv, ρ', e1, r, f⟩ := ha; exact ⟨rv, ρ', by unfold seq; rw [e, e1], r, f⟩
theorem k_ifx {κ : Type} {K : Kn κ} {t : BS} {a b : SS} {ct : R Bool} {ca : R Empty} {cb : R κ} (ht : EvT t ρ ct) (ha : (kTl false (fun e : Empty => nomatch e) (fun _ _ => True)).p (a ρ) ca) (hb : K.p (b ρ) cb) : K.p (seq (ifS t a skip) b ρ) (ct.bind fun k => if k = true then ca.bind fun e => nomatch e else cb) := by
  cases ct with
  | bad => exact K.bad _
  | exc x =>
    have e : seq (ifS t a skip) b ρ = .exc x ρ := by unfold seq ifS; rw [show t ρ = .exc x ρ from ht]; rfl
    rw [e]; exact K.ex _ _
  | ok k =>
    rw [R.bind_ok]
    have e : ifS t a skip ρ = if k = true then a ρ else .nx ρ := by unfold ifS; rw [show t ρ = .ok k ρ from ht]; rfl
    cases k with
    | false =>
      have e2 : seq (ifS t a skip) b ρ = b ρ := by unfold seq; rw [e]; rfl
      rw [e2]; exact hb
    | true =>
      have e : ifS t a skip ρ = a ρ := e
      rw [if_pos rfl]
      cases ca with
      | bad => exact K.bad _
      | exc x =>
        obtain ⟨ρ', e1⟩ := ha
        have e2 : seq (ifS t a skip) b ρ = .exc x ρ' := by unfold seq; rw [e, e1]
        rw [e2]; exact K.ex _ _
      | ok w => exact nomatch w
theorem k_seqT {a b : SS} {c : R (LS T α)} {k : T → R α} (ha : (kBk o env val fin).p (a ρ) c) (h : ∀ t, (kTl o val fin).p (b (env t)) (k t)) : (kTl o val fin).p (seq a b ρ) (c.bind (LS.el k fun a => .ok a)) := by
  cases c with
  | bad => trivial
  | exc x => obtain ⟨ρ', e⟩ := ha; exact ⟨ρ', by unfold seq; rw [e]⟩
  | ok s =>
    rw [R.bind_ok]
    cases s with
    | nx t =>
      have e : seq a b ρ = b (env t) := by unfold seq; rw [show a ρ = .nx (env t) from ha]
      rw [e]; exact h t
    | rt w => obtain ⟨rv, ρ', e, r, f⟩ := ha; exact ⟨rv, ρ', by unfold seq; rw [e], r, f⟩
theorem k_seqB {T2 : Type} {env2 : T2 → En} {a b : SS} {c : R (LS T α)} {k : T → R (LS T2 α)} (ha : (kBk o env val fin).p (a ρ) c) (h : ∀ t, (kBk o env2 val fin).p (b (env t)) (k t)) : (kBk o env2 val fin).p (seq a b ρ) (c.bind (LS.el k fun a => .ok (.rt a))) := by
  cases c with
  | bad => trivial
  | exc x => obtain ⟨ρ', e⟩ := ha; exact ⟨ρ', by unfold seq; rw [e]⟩
  | ok s =>
    rw [R.bind_ok]
    cases s with
    | nx t =>
      have e : seq a b ρ = b (env t) := by unfold seq; rw [show a ρ = .nx (env t) from ha]
      rw [e]; exact h t
    | rt w => obtain ⟨rv, ρ', e, r, f⟩ := ha; exact ⟨rv, ρ', by unfold seq; rw [e], r, f⟩
def forN {X : Type} (u : D → Option X) (f : T → X → R T) : List D → T → R T
  | [], t => .ok t
  | d :: ds, t => match u d with
    | none => .bad
    | some x => (f t x).bind fun t' => forN u f ds t'
def forB {X : Type} (u : D → Option X) (f : T → X → R (LS T α)) : List D → T → R (LS T α)
  | [], t => .ok (.nx t)
  | d :: ds, t => match u d with
    | none => .bad
    | some x => (f t x).bind fun s => match s with
      | .nx t' => forB u f ds t'
      | .rt a => .ok (.rt a)
theorem loopB {X : Type} {u : D → Option X} {f : T → X → R (LS T α)} {tg : Tg} {body : SS} {enc : T → X → En} (hu : ∀ t, TgOk tg (env t) u (enc t)) (hb : ∀ t x, (kBk o env val fin).p (body (enc t x)) (f t x)) : ∀ (ds : List D) (t : T), (kBk o env val fin).p (loopS tg body ds (env t)) (forB u f ds t)
  | [], t => rfl
  | d :: ds, t => by
    unfold forB
    cases e : u d with
    | none => trivial
    | some x =>
      have h := hb t x
      have e1 : loopS tg body (d :: ds) (env t) = match body (enc t x) with
          | .nx ρ2 => loopS tg body ds ρ2
          | .ct ρ2 => loopS tg body ds ρ2
          | .bk ρ2 => .nx ρ2
          | o => o := by
        show (match put tg d (env t) with | none => SO.bad | some ρ1 => _) = _
        rw [hu t d, e]
        rfl
      rw [e1]
      show (kBk o env val fin).p _ ((f t x).bind _)
      cases ef : f t x with
      | bad => trivial
      | exc y => rw [ef] at h; obtain ⟨ρ', e2⟩ := h; exact ⟨ρ', by rw [e2]⟩
      | ok s =>
        rw [ef] at h
        rw [R.bind_ok]
        cases s with
        | nx t' =>
          rw [show body (enc t x) = .nx (env t') from h]
          exact loopB hu hb ds t'
        | rt w => obtain ⟨rv, ρ', e2, r, g⟩ := h; exact ⟨rv, ρ', by rw [e2], r, g⟩
theorem k_forB {X : Type} {src : Src} {u : D → Option X} {f : T → X → R (LS T α)} {tg : Tg} {body : SS} {enc : T → X → En} {cs : R (List D)} {t0 : T} (hs : EvSrc src ρ cs [] ρ) (h0 : env t0 = ρ) (hu : ∀ t, TgOk tg (env t) u (enc t)) (hb : ∀ t x, (kBk o env val fin).p (body (enc t x)) (f t x)) :
    (kBk o env val fin).p (forS src tg body ρ) (cs.bind fun its => forB u f its t0) := by
  cases cs with
  | bad => trivial
  | exc x => exact ⟨ρ, by unfold forS; rw [show evs src.ops ρ = .exc x ρ from hs]; rfl⟩
  | ok its =>
    obtain ⟨xs, ds, e1, e2, e3, e4, e5, e6⟩ := hs
    have e : forS src tg body ρ = unl ρ [] (loopS tg body its ρ) := by
      unfold forS
      rw [e1]
      show (match dats ρ xs with | some ds => _ | none => _) = _
      rw [e2]
      show (match src.f ds with | some items => _ | none => _) = _
      rw [e3]
      show unl ρ (lks ρ xs) (loopS tg body its (lk xs ρ)) = _
      rw [e5, e6]
      rfl
    have l := loopB hu hb its t0
    rw [h0] at l
    rw [e, R.bind_ok]
    generalize forB u f its t0 = z at l
    cases z with
    | bad => trivial
    | exc x => obtain ⟨ρ', l⟩ := l; exact ⟨ρ', by rw [l]; rfl⟩
    | ok s => cases s with
      | nx t => rw [show loopS tg body its ρ = .nx (env t) from l]; rfl
      | rt a => obtain ⟨rv, ρ', l, r, g⟩ := l; exact ⟨rv, ρ', by rw [l]; rfl, r, g⟩
def whN (p : T → R Bool) (f : T → R T) : Nat → T → R T
  | 0, _ => .bad
  | n + 1, t => (p t).bind fun b => if b = true then (f t).bind fun t' => whN p f n t' else .ok t
theorem k_while {p : T → R Bool} {f : T → R T} {t : BS} {body : SS} (ht : ∀ a, EvT t (env a) (p a)) (hb : ∀ a, (kBn env).p (body (env a)) (f a)) : ∀ (n : Nat) (a : T), (kBn env).p (whileS t body n (env a)) (whN p f n a)
  | 0, a => trivial
  | n + 1, a => by
    unfold whN
    have h1 := ht a
    cases e1 : p a with
    | bad => trivial
    | exc x => rw [e1] at h1; exact ⟨env a, by unfold whileS; rw [show t (env a) = .exc x (env a) from h1]; rfl⟩
    | ok b =>
      rw [e1] at h1
      have e0 : whileS t body (n + 1) (env a) = if b = true then (match body (env a) with
          | .nx ρ2 => whileS t body n ρ2
          | .ct ρ2 => whileS t body n ρ2
          | .bk ρ2 => .nx ρ2
          | o => o) else .nx (env a) := by
        show (t (env a)).bindS _ = _
        rw [show t (env a) = .ok b (env a) from h1]
        rfl
      rw [R.bind_ok, e0]
      cases b with
      | false => exact rfl
      | true =>
        have h2 := hb a
        rw [if_pos rfl, if_pos rfl]
        cases e2 : f a with
        | bad => trivial
        | exc y => rw [e2] at h2; obtain ⟨ρ', e3⟩ := h2; exact ⟨ρ', by rw [e3]⟩
        | ok t' =>
          rw [e2] at h2
          rw [show body (env a) = .nx (env t') from h2]
          exact k_while ht hb n t'
end
def FnP (o : Bool) (xf : FSem) (ds : List D) (c : R D) : Prop := match c with
  | .ok d => ∃ rv, xf (ds.map .val) = .ok rv (ds.map .val) ∧ RvOk o rv d
  | .exc x => xf (ds.map .val) = .exc x (ds.map .val)
  | .bad => True
def en0 (n : Nat) (ds : List D) : En := ds.map (fun d => some (.val d)) ++ List.replicate (n - ds.length) none
theorem finA_val {ds : List D} {ρ : En} : finA (ds.map .val) ρ = ds.map .val := by
  unfold finA
  apply List.ext_getElem?
  intro i
  rw [List.getElem?_mapIdx, List.getElem?_map]
  cases ds[i]? with
  | none => rfl
  | some d => rfl
theorem fnS_val {n : Nat} {b : SS} {ds : List D} : fnS n b (ds.map .val) = match b (en0 n ds) with
  | .nx ρ => .ok (.val .non) (ds.map .val)
  | .rt r ρ => .ok r (ds.map .val)
  | .exc x ρ => .exc x (ds.map .val)
  | _ => .bad := by
  unfold fnS en0
  rw [List.map_map, List.length_map]
  show (match b (ds.map (fun d => some (Sl.val d)) ++ List.replicate (n - ds.length) none) with | .nx ρ => _ | .rt r ρ => _ | .exc x ρ => _ | _ => _) = _
  cases b (ds.map (fun d => some (Sl.val d)) ++ List.replicate (n - ds.length) none) <;> simp only [finA_val]
def yF : D → En → Prop := fun _ _ => True
theorem fn_tl {o : Bool} {n : Nat} {b : SS} {ds : List D} {c : R D} (h : (kTl o (fun d : D => d) yF).p (b (en0 n ds)) c) : FnP o (fnS n b) ds c := by
  unfold FnP
  rw [fnS_val]
  cases c with
  | bad => trivial
  | exc x => obtain ⟨ρ', e⟩ := h; simp only [e]
  | ok d => obtain ⟨rv, ρ', e, r, _⟩ := h; exact ⟨rv, by rw [e], r⟩
def EvAs (os : List Opd) (ρ : En) (c : R (List D)) : Prop := match c with
  | .ok ds => ∃ xs, evs os ρ = .ok xs ρ ∧ slOs ρ xs = some (ds.map .val)
  | .exc x => evs os ρ = .exc x ρ
  | .bad => True
section
variable {ρ : En}
theorem eas_nil : EvAs [] ρ (seqR []) := ⟨[], rfl, rfl⟩
theorem eas_cons {o : Opd} {os : List Opd} {c : R D} {cs : List (R D)} (h : EvA o ρ c) (hs : EvAs os ρ (seqR cs)) : EvAs (o :: os) ρ (seqR (c :: cs)) := by
  rw [seqR_cons]
  cases c with
  | bad => trivial
  | exc x => show (o.ev ρ).bind _ = _; rw [show o.ev ρ = .exc x ρ from h]; rfl
  | ok d =>
    obtain ⟨x, e1, e2⟩ := h
    rw [R.bind_ok]
    generalize seqR cs = k at hs
    cases k with
    | bad => trivial
    | exc y => show (o.ev ρ).bind _ = _; rw [e1]; show (evs os ρ).bind _ = _; rw [show evs os ρ = .exc y ρ from hs]; rfl
    | ok ds =>
      obtain ⟨xs, e3, e4⟩ := hs
      refine ⟨x :: xs, ?_, ?_⟩
      · show (o.ev ρ).bind _ = _; rw [e1]; show (evs os ρ).bind _ = _; rw [e3]; rfl
      · unfold slOs; rw [e2, e4]; rfl
theorem slOs_val {xs : List Ov} : ∀ {dd : List D}, slOs ρ (dd.map .val) = some (dd.map .val)
  | [] => rfl
  | d :: dd => by show (match some (Sl.val d), slOs ρ (dd.map .val) with | some s, some ss => some (s :: ss) | _, _ => none) = _; rw [slOs_val (xs := xs)]; rfl
theorem slOs_app2 : ∀ {xs ys : List Ov} {ds es : List Sl}, slOs ρ xs = some ds → slOs ρ ys = some es → slOs ρ (xs ++ ys) = some (ds ++ es)
  | [], _, ds, _, e, h => by cases e; exact h
  | x :: xs, ys, ds, es, e, h => by
    unfold slOs at e
    cases e1 : slO ρ x with
    | none => rw [e1] at e; cases e
    | some s =>
      cases e2 : slOs ρ xs with
      | none => rw [e1, e2] at e; cases e
      | some ss =>
        rw [e1, e2] at e
        cases e
        show (match slO ρ x, slOs ρ (xs ++ ys) with | some s, some ss => some (s :: ss) | _, _ => none) = _
        rw [e1, slOs_app2 e2 h]
        rfl
theorem tpI_vals : ∀ {xs : List Ov} {ds : List D}, slOs ρ xs = some (ds.map .val) → tpI ρ xs = []
  | [], _, _ => rfl
  | x :: xs, ds, e => by
    unfold slOs at e
    cases e1 : slO ρ x with
    | none => rw [e1] at e; cases e
    | some s =>
      cases e2 : slOs ρ xs with
      | none => rw [e1, e2] at e; cases e
      | some ss =>
        rw [e1, e2] at e
        cases ds with
        | nil => cases e
        | cons d ds =>
          simp only [List.map_cons, Option.some.injEq, List.cons.injEq] at e
          obtain ⟨rfl, rfl⟩ := e
          have h := tpI_vals e2
          cases x with
          | val w => exact h
          | «at» i =>
            unfold tpI
            have : isTop ρ i = false := by
              have e1 : (match gt ρ i with | some (.own d) => some (Sl.ref d) | t => t) = some (.val d) := e1
              unfold isTop
              cases e3 : gt ρ i with
              | none => rfl
              | some t =>
                rw [e3] at e1
                cases t with
                | val w => rfl
                | own w => cases e1
                | ref w => cases e1
                | rd w => cases e1
            rw [this]
            exact h
theorem look_vals : ∀ {xs : List Ov} {ds : List D} {j : Nat}, look xs (ds.map .val) j = none
  | [], _, _ => by unfold look; rfl
  | x :: xs, [], _ => by unfold look; cases x <;> rfl
  | .val _ :: xs, d :: ds, j => look_vals (xs := xs) (ds := ds)
  | .at _ :: xs, d :: ds, j => look_vals (xs := xs) (ds := ds)
theorem back_val {xs : List Ov} {ds : List D} : back xs (ds.map .val) ρ = ρ := by
  unfold back
  apply List.ext_getElem?
  intro i
  rw [List.getElem?_mapIdx]
  cases ρ[i]? with
  | none => rfl
  | some s =>
    show some (bk1 xs (ds.map .val) i s) = some s
    cases s with
    | none => rfl
    | some t => cases t with
      | val d => rfl
      | rd d => rfl
      | own d => show some (match look xs (ds.map .val) i with | some d' => _ | none => _) = _; rw [look_vals]
      | ref d => show some (match look xs (ds.map .val) i with | some d' => _ | none => _) = _; rw [look_vals]
theorem ev_call {o : Bool} {xf : FSem} {os : List Opd} {dd : List D} {cs : List (R D)} {f : List D → R D} (h : EvAs os ρ (seqR cs)) (hf : ∀ ds, FnP o xf (ds ++ dd) (f ds)) : EvP o (callF xf os dd) ρ ((seqR cs).bind f) := by
  generalize seqR cs = k at h
  cases k with
  | bad => trivial
  | exc x => show (evs os ρ).bind _ = _; rw [show evs os ρ = .exc x ρ from h]; rfl
  | ok ds =>
    obtain ⟨xs, e1, e2⟩ := h
    rw [R.bind_ok]
    have e3 : slOs ρ (xs ++ dd.map .val) = some ((ds ++ dd).map .val) := by rw [List.map_append]; exact slOs_app2 e2 (slOs_val (xs := xs))
    have e0 : callF xf os dd ρ = match xf ((ds ++ dd).map .val) with
        | .ok r outs => .ok r (back (xs ++ dd.map .val) outs ρ)
        | .exc x outs => .exc x (back (xs ++ dd.map .val) outs ρ)
        | .bad => .bad := by
      unfold callF
      rw [e1]
      show (match slOs ρ (xs ++ dd.map .val) with | some sls => _ | none => _) = _
      rw [e3]
      show (if ndB (tpI ρ (xs ++ dd.map .val)) = true then _ else _) = _
      rw [tpI_vals e3]
      rfl
    have hk := hf ds
    cases e : f ds with
    | bad => trivial
    | exc x => rw [e] at hk; show callF xf os dd ρ = _; rw [e0, show xf ((ds ++ dd).map .val) = .exc x ((ds ++ dd).map .val) from hk]; simp only [back_val]
    | ok d => rw [e] at hk; obtain ⟨rv, e4, r⟩ := hk; exact ⟨rv, by rw [e0, e4]; simp only [back_val], r⟩
end
def ap1 (f : D → R D) : List D → R D
  | [a] => f a
  | _ => .bad
def ap2 (f : D → D → R D) : List D → R D
  | [a, b] => f a b
  | _ => .bad
end VF
namespace VF
open PySem PySem.Spec PyProof.Rows L2
def EvS {S : Type} (o : Bool) (φ : ES) (ρ : En) (c : R (D × S)) (enc : S → En) : Prop := match c with
  | .ok p => ∃ rv, φ ρ = .ok rv (enc p.2) ∧ RvOk o rv p.1
  | .exc x => ∃ ρ', φ ρ = .exc x ρ'
  | .bad => True
def EvXs {A : Type} (os : List Opd) (ρ : En) (c : R A) (xs : A → List Ov) (env : A → En) : Prop := match c with
  | .ok a => evs os ρ = .ok (xs a) (env a)
  | .exc x => ∃ ρ', evs os ρ = .exc x ρ'
  | .bad => True
section
variable {ρ : En}
theorem xs_nil : EvXs [] ρ (R.ok ()) (fun _ => []) (fun _ => ρ) := rfl
theorem xs_sl {A : Type} {i : Nat} {s : Sl} {os : List Opd} {c : R A} {xs : A → List Ov} {env : A → En} (h : gt ρ i = some s) (hs : EvXs os ρ c xs env) : EvXs (.sl i :: os) ρ c (fun a => .at i :: xs a) env := by
  have e : evs (.sl i :: os) ρ = (evs os ρ).bind fun xs ρ2 => .ok (.at i :: xs) ρ2 := by
    show (Opd.ev (.sl i) ρ).bind _ = _
    simp only [Opd.ev, h, Out.bind]
  unfold EvXs at hs ⊢
  cases c with
  | bad => trivial
  | exc x => obtain ⟨ρ', h⟩ := hs; exact ⟨ρ', by rw [e, h]; rfl⟩
  | ok a => simp only at hs ⊢; rw [e, hs]; rfl
theorem xs_p {A : Type} {o : Bool} {φ : ES} {os : List Opd} {c : R D} {cs : R A} {xs : A → List Ov} {env : A → En} (h : EvP o φ ρ c) (hs : EvXs os ρ cs xs env) : EvXs (.ex φ :: os) ρ (c.bind fun d => cs.bind fun a => .ok (d, a)) (fun p => .val p.1 :: xs p.2) (fun p => env p.2) := by
  cases c with
  | bad => trivial
  | exc x => exact ⟨ρ, by show (Opd.ev (.ex φ) ρ).bind _ = _; simp only [Opd.ev, show φ ρ = .exc x ρ from h, Out.bind]⟩
  | ok d =>
    obtain ⟨rv, e1, r⟩ := h
    have e : evs (.ex φ :: os) ρ = (evs os ρ).bind fun xs ρ2 => .ok (.val d :: xs) ρ2 := by
      show (Opd.ev (.ex φ) ρ).bind _ = _
      rw [ex_ev e1 r]
      rfl
    rw [R.bind_ok]
    cases cs with
    | bad => trivial
    | exc x => obtain ⟨ρ', h⟩ := hs; exact ⟨ρ', by rw [e, h]; rfl⟩
    | ok a => show evs _ _ = _; rw [e, show evs os ρ = _ from hs]; rfl
theorem xs_s {A S : Type} {o : Bool} {φ : ES} {os : List Opd} {c : R (D × S)} {enc : S → En} {cs : D × S → R A} {xs : D × S → A → List Ov} {env : D × S → A → En} (h : EvS o φ ρ c enc) (hs : ∀ p : D × S, EvXs os (enc p.2) (cs p) (xs p) (env p)) :
    EvXs (.ex φ :: os) ρ (c.bind fun p => (cs p).bind fun a => .ok (p, a)) (fun q => .val q.1.1 :: xs q.1 q.2) (fun q => env q.1 q.2) := by
  cases c with
  | bad => trivial
  | exc x => obtain ⟨ρ', h⟩ := h; exact ⟨ρ', by show (Opd.ev (.ex φ) ρ).bind _ = _; simp only [Opd.ev, h, Out.bind]⟩
  | ok p =>
    obtain ⟨rv, e1, r⟩ := h
    have e : evs (.ex φ :: os) ρ = (evs os (enc p.2)).bind fun xs ρ2 => .ok (.val p.1 :: xs) ρ2 := by
      show (Opd.ev (.ex φ) ρ).bind _ = _
      simp only [Opd.ev, e1, Out.bind, r.d]
    rw [R.bind_ok]
    have hs := hs p
    cases ec : cs p with
    | bad => trivial
    | exc x => rw [ec] at hs; obtain ⟨ρ', h⟩ := hs; exact ⟨ρ', by rw [e, h]; rfl⟩
    | ok a => rw [ec] at hs; show evs _ _ = _; rw [e, show evs os _ = _ from hs]; rfl
theorem es_app {A S : Type} {f : List D → Option Rv} {os : List Opd} {c : R A} {xs : A → List Ov} {env : A → En} {ds : A → List D} {st : A → S} {enc : S → En} (h : EvXs os ρ c xs env) (hd : ∀ a, dats (env a) (xs a) = some (ds a)) (he : ∀ a, env a = enc (st a)) :
    EvS false (app f os) ρ (c.bind fun a => (pr (f (ds a))).bind fun d => .ok (d, st a)) enc := by
  cases c with
  | bad => trivial
  | exc x => obtain ⟨ρ', h⟩ := h; exact ⟨ρ', by unfold app; rw [h]; rfl⟩
  | ok a =>
    rw [R.bind_ok]
    cases e : pr (f (ds a)) with
    | bad => trivial
    | exc x => exact absurd e pr_noexc
    | ok d =>
      obtain ⟨rv, e3, r⟩ := pr_rv e
      refine ⟨rv, ?_, r⟩
      unfold app
      rw [show evs os ρ = _ from h]
      show (match dats (env a) (xs a) with | some ds => _ | none => _) = _
      rw [hd a]
      show (match f (ds a) with | some r => _ | none => _) = _
      rw [e3]
      show Out.ok rv (env a) = _
      rw [he a]
theorem es_disp {A S : Type} {mk : List D → Rv} {o : Bool} {f : List D → D} {φs : List ES} {c : R A} {xs : A → List Ov} {env : A → En} {ds : A → List D} {st : A → S} {enc : S → En} (hm : ∀ ds, RvOk o (mk ds) (f ds)) (h : EvXs (φs.map .ex) ρ c xs env) (hd : ∀ a, vals (xs a) = some (ds a)) (he : ∀ a, env a = enc (st a)) :
    EvS o (disp mk φs) ρ (c.bind fun a => .ok (f (ds a), st a)) enc := by
  cases c with
  | bad => trivial
  | exc x => obtain ⟨ρ', h⟩ := h; exact ⟨ρ', by unfold disp; rw [h]; rfl⟩
  | ok a =>
    refine ⟨mk (ds a), ?_, hm _⟩
    unfold disp
    rw [show evs _ ρ = _ from h]
    show (match vals (xs a) with | some ds => _ | none => _) = _
    rw [hd a, he a]
theorem es_lst {A S : Type} {φs : List ES} {c : R A} {xs : A → List Ov} {env : A → En} {ds : A → List D} {st : A → S} {enc : S → En} (h : EvXs (φs.map .ex) ρ c xs env) (hd : ∀ a, vals (xs a) = some (ds a)) (he : ∀ a, env a = enc (st a)) : EvS true (disp mkL φs) ρ (c.bind fun a => .ok (.lst (ds a), st a)) enc := es_disp (f := .lst) (fun _ => .inl ⟨rfl, rfl⟩) h hd he
end
def FnS {B : Type} (o : Bool) (xf : FSem) (sls : List Sl) (c : R B) (val : B → D) (outs : B → List Sl) : Prop := match c with
  | .ok b => ∃ rv, xf sls = .ok rv (outs b) ∧ RvOk o rv (val b)
  | .exc x => ∃ os, xf sls = .exc x os
  | .bad => True
theorem FnP.s {o : Bool} {xf : FSem} {ds : List D} {c : R D} (h : FnP o xf ds c) : FnS o xf (ds.map .val) c (fun d => d) (fun _ => ds.map .val) := by
  cases c with
  | bad => trivial
  | exc x => exact ⟨_, h⟩
  | ok d => exact h
def enS (n : Nat) (sls : List Sl) : En := sls.map some ++ List.replicate (n - sls.length) none
theorem fs_tl {B : Type} {o : Bool} {n : Nat} {b : SS} {sls : List Sl} {c : R B} {val : B → D} {outs : B → List Sl} (h : (kTl o val (fun a ρ => finA sls ρ = outs a)).p (b (enS n sls)) c) : FnS o (fnS n b) sls c val outs := by
  cases c with
  | bad => trivial
  | exc x =>
    obtain ⟨ρ', e⟩ := h
    refine ⟨finA sls ρ', ?_⟩
    unfold fnS
    rw [show b (sls.map some ++ List.replicate (n - sls.length) none) = .exc x ρ' from e]
  | ok a =>
    obtain ⟨rv, ρ', e, r, f⟩ := h
    refine ⟨rv, ?_, r⟩
    unfold fnS
    rw [show b (sls.map some ++ List.replicate (n - sls.length) none) = .rt rv ρ' from e]
    show FO.ok rv (finA sls ρ') = _
    rw [f]
theorem fs_bn {T : Type} {n : Nat} {b : SS} {sls : List Sl} {c : R T} {env : T → En} {outs : T → List Sl} (h : (kBn env).p (b (enS n sls)) c) (hf : ∀ t, finA sls (env t) = outs t) : FnS false (fnS n b) sls c (fun _ => .non) outs := by
  cases c with
  | bad => trivial
  | exc x =>
    obtain ⟨ρ', e⟩ := h
    refine ⟨finA sls ρ', ?_⟩
    unfold fnS
    rw [show b (sls.map some ++ List.replicate (n - sls.length) none) = .exc x ρ' from e]
  | ok t =>
    refine ⟨.val .non, ?_, .inr ⟨rfl, rfl⟩⟩
    unfold fnS
    rw [show b (sls.map some ++ List.replicate (n - sls.length) none) = .nx (env t) from h]
    show FO.ok _ (finA sls (env t)) = _
    rw [hf t]
section
variable {ρ : En}
theorem es_call {A B S : Type} {o : Bool} {xf : FSem} {os : List Opd} {dd : List D} {c : R A} {xs : A → List Ov} {env : A → En} {sls : A → List Sl} {cf : A → R B} {val : B → D} {outs : A → B → List Sl} {st : A → B → S} {enc : S → En}
    (h : EvXs os ρ c xs env) (hl : ∀ a, slOs (env a) (xs a ++ dd.map .val) = some (sls a)) (hn : ∀ a, ndB (tpI (env a) (xs a ++ dd.map .val)) = true) (hf : ∀ a, FnS o xf (sls a) (cf a) val (outs a)) (he : ∀ a b, back (xs a ++ dd.map .val) (outs a b) (env a) = enc (st a b)) :
    EvS o (callF xf os dd) ρ (c.bind fun a => (cf a).bind fun b => .ok (val b, st a b)) enc := by
  cases c with
  | bad => trivial
  | exc x => obtain ⟨ρ', h⟩ := h; exact ⟨ρ', by unfold callF; rw [h]; rfl⟩
  | ok a =>
    rw [R.bind_ok]
    have e0 : callF xf os dd ρ = match xf (sls a) with
        | .ok r outs => .ok r (back (xs a ++ dd.map .val) outs (env a))
        | .exc x outs => .exc x (back (xs a ++ dd.map .val) outs (env a))
        | .bad => .bad := by
      unfold callF
      rw [show evs os ρ = _ from h]
      show (match slOs (env a) (xs a ++ dd.map .val) with | some sls => _ | none => _) = _
      rw [hl a]
      show (if ndB (tpI (env a) (xs a ++ dd.map .val)) = true then _ else _) = _
      rw [if_pos (hn a)]
      all_goals rfl
    have hk := hf a
    cases e : cf a with
    | bad => trivial
    | exc x => rw [e] at hk; obtain ⟨os', e1⟩ := hk; exact ⟨_, by rw [e0, e1]⟩
    | ok b =>
      rw [e] at hk
      obtain ⟨rv, e1, r⟩ := hk
      refine ⟨rv, ?_, r⟩
      rw [e0, e1]
      show Out.ok rv (back (xs a ++ dd.map .val) (outs a b) (env a)) = _
      rw [he a b]
end
section
variable {κ : Type} {K : Kn κ} {ρ : En}
theorem k_setS {S : Type} {o : Bool} {i : Nat} {φ : ES} {a : SS} {c : R (D × S)} {enc : S → En} {k : D × S → R κ} (he : EvS o φ ρ c enc) (hi : ∀ s, okI (enc s) i = true) (h : ∀ p : D × S, K.p (a ((enc p.2).set i (some (.val p.1)))) (k p)) : K.p (seq (setI i φ) (frz i a) ρ) (c.bind k) := by
  cases c with
  | bad => exact K.bad _
  | exc x =>
    obtain ⟨ρ', he⟩ := he
    have e : seq (setI i φ) (frz i a) ρ = .exc x ρ' := by unfold seq setI; rw [he]; rfl
    rw [e]
    exact K.ex _ _
  | ok p =>
    obtain ⟨d, s⟩ := p
    obtain ⟨rv, e, r⟩ := he
    have hi : noRef (gt (enc s) i) = true ∧ i < (enc s).length := by simpa [okI] using hi s
    have e : seq (setI i φ) (frz i a) ρ = a ((enc s).set i (some (.val d))) := by
      rcases r with ⟨r, _⟩ | ⟨r, _⟩
      · have r : rv = .own d := r
        subst r
        have e1 : setI i φ ρ = .nx ((enc s).set i (some (.own d))) := by
          unfold setI
          rw [e]
          show (if noRef (gt (enc s) i) = true ∧ i < (enc s).length then _ else _) = _
          rw [if_pos hi]
        unfold seq
        rw [e1]
        show frz i a ((enc s).set i (some (.own d))) = _
        unfold frz
        rw [gt_set_self hi.2]
        show a (((enc s).set i (some (.own d))).set i (some (.val d))) = _
        rw [List.set_set]
      · have r : rv = .val d := r
        subst r
        have e1 : setI i φ ρ = .nx ((enc s).set i (some (.val d))) := by
          unfold setI
          rw [e]
          show (if noRef (gt (enc s) i) = true ∧ i < (enc s).length then _ else _) = _
          rw [if_pos hi]
        unfold seq
        rw [e1]
        show frz i a ((enc s).set i (some (.val d))) = _
        unfold frz
        rw [gt_set_self hi.2]
    rw [e]
    exact h (d, s)
end
section
variable {T α : Type} {o : Bool} {env : T → En} {val : α → D} {fin : α → En → Prop} {ρ : En}
theorem k_retS {S : Type} {o' : Bool} {φ : ES} {c : R (D × S)} {enc : S → En} {w : D × S → α} (he : EvS o' φ ρ c enc) (ho : o = true → o' = true) (hv : ∀ p, val (w p) = p.1) (hf : ∀ p : D × S, fin (w p) (enc p.2)) : (kTl o val fin).p (retE φ ρ) (c.bind fun p => .ok (w p)) := by
  cases c with
  | bad => trivial
  | exc x => obtain ⟨ρ', he⟩ := he; exact ⟨ρ', by unfold retE; rw [he]; rfl⟩
  | ok p =>
    obtain ⟨rv, e, r⟩ := he
    refine ⟨rv, enc p.2, by unfold retE; rw [e]; rfl, ?_, hf p⟩
    rw [hv]
    rcases r with ⟨r, z⟩ | ⟨r, z⟩
    · exact .inl ⟨r, z⟩
    · refine .inr ⟨r, ?_⟩
      cases o with
      | false => rfl
      | true => rw [ho rfl] at z; cases z
end
def mapS {S T : Type} (u : D → Option T) (f : S → T → R (D × S)) : List D → S → R (List D × S)
  | [], s => .ok ([], s)
  | x :: xs, s => match u x with
    | none => .bad
    | some t => (noE (f s t)).bind fun q => (mapS u f xs q.2).bind fun r => .ok (q.1 :: r.1, r.2)
theorem k_retP {o o' : Bool} {φ : ES} {ρ : En} {c : R D} (he : EvP o' φ ρ c) (ho : o = true → o' = true) : (kTl o (fun d : D => d) yF).p (retE φ ρ) c := by
  have h := k_ret (val := fun d : D => d) (fin := yF) (w := fun d => d) he ho (fun _ => rfl) (fun _ => trivial)
  cases c <;> exact h
theorem s_frz {M : Md} {W : WX} {X : Cx} {st : List Stmt} {i : Nat} {a : SS} (h : PSs X st (tS M W a)) : PSs X st (tS M W (frz i a)) := by
  refine PSs_imp h fun D σ H ⟨F, ρ, s, q⟩ => ?_
  cases e : gt ρ i with
  | none => exact ⟨F, ρ, s, by unfold frz at q; rw [e] at q; exact q⟩
  | some t =>
    cases t with
    | val d => exact ⟨F, ρ, s, by unfold frz at q; rw [e] at q; exact q⟩
    | ref d => exact ⟨F, ρ, s, by unfold frz at q; rw [e] at q; exact q⟩
    | rd d => exact ⟨F, ρ, s, by unfold frz at q; rw [e] at q; exact q⟩
    | own d =>
      unfold frz at q
      rw [e] at q
      obtain ⟨F', v, _, po, _⟩ := freeze_slot s e
      exact ⟨F', ρ.set i (some (.val d)), po.sr, WantS.step po.s q⟩
end VF
namespace VF
open PySem PySem.Spec PyProof.Rows L2
section
variable {ρ : En}
theorem ev_app1 {f : List D → Option Rv} {o0 : Opd} {c0 : R D} (h0 : EvO o0 ρ c0) : EvP false (app f [o0]) ρ (c0.bind fun a0 => pr (f [a0])) := by
  have h := ev_app (f := f) (eos_cons h0 eos_nil)
  have e : ((seqR [c0]).bind fun ds => pr (f ds)) = c0.bind fun a0 => pr (f [a0]) := by simp only [seqR_cons, seqR_nil, R.bind_assoc, R.bind_ok]
  rw [← e]; exact h
theorem ev_app2 {f : List D → Option Rv} {o0 o1 : Opd} {c0 c1 : R D} (h0 : EvO o0 ρ c0) (h1 : EvO o1 ρ c1) : EvP false (app f [o0, o1]) ρ (c0.bind fun a0 => c1.bind fun a1 => pr (f [a0, a1])) := by
  have h := ev_app (f := f) (eos_cons h0 (eos_cons h1 eos_nil))
  have e : ((seqR [c0, c1]).bind fun ds => pr (f ds)) = c0.bind fun a0 => c1.bind fun a1 => pr (f [a0, a1]) := by simp only [seqR_cons, seqR_nil, R.bind_assoc, R.bind_ok]
  rw [← e]; exact h
theorem ev_call1 {o : Bool} {xf : FSem} {dd : List D} {o0 : Opd} {c0 : R D} {f : D → R D} (h0 : EvA o0 ρ c0) (hf : ∀ a0, FnP o xf ([a0] ++ dd) (f a0)) : EvP o (callF xf [o0] dd) ρ (c0.bind fun a0 => f a0) := by
  have h := ev_call (ρ := ρ) (o := o) (xf := xf) (dd := dd) (f := fun ds => match ds with | [a0] => f a0 | _ => .bad) (eas_cons h0 eas_nil) (fun ds => by
    match ds with
    | [a0] => exact hf a0
    | [] => trivial
    | _ :: _ :: _ => trivial)
  have e : ((seqR [c0]).bind fun ds => match ds with | [a0] => f a0 | _ => .bad) = c0.bind fun a0 => f a0 := by simp only [seqR_cons, seqR_nil, R.bind_assoc, R.bind_ok]
  rw [← e]; exact h
theorem ev_call2 {o : Bool} {xf : FSem} {dd : List D} {o0 o1 : Opd} {c0 c1 : R D} {f : D → D → R D} (h0 : EvA o0 ρ c0) (h1 : EvA o1 ρ c1) (hf : ∀ a0 a1, FnP o xf ([a0, a1] ++ dd) (f a0 a1)) : EvP o (callF xf [o0, o1] dd) ρ (c0.bind fun a0 => c1.bind fun a1 => f a0 a1) := by
  have h := ev_call (ρ := ρ) (o := o) (xf := xf) (dd := dd) (f := fun ds => match ds with | [a0, a1] => f a0 a1 | _ => .bad) (eas_cons h0 (eas_cons h1 eas_nil)) (fun ds => by
    match ds with
    | [a0, a1] => exact hf a0 a1
    | [] => trivial
    | [_] => trivial
    | _ :: _ :: _ :: _ => trivial)
  have e : ((seqR [c0, c1]).bind fun ds => match ds with | [a0, a1] => f a0 a1 | _ => .bad) = c0.bind fun a0 => c1.bind fun a1 => f a0 a1 := by simp only [seqR_cons, seqR_nil, R.bind_assoc, R.bind_ok]
  rw [← e]; exact h
end
end VF
namespace VF
open PySem PySem.Spec PyProof.Rows L2
section
variable {κ : Type} {K : Kn κ} {ρ : En}
theorem k_setA {o : Bool} {i : Nat} {φ : ES} {a : SS} {v : D} {c : R κ} (hi : okI ρ i = true) (he : EvP o φ ρ (.ok v)) (h : K.p (a (ρ.set i (some (.val v)))) c) : K.p (seq (setI i φ) (frz i a) ρ) c := by
  have hi : noRef (gt ρ i) = true ∧ i < ρ.length := by simpa [okI] using hi
  obtain ⟨rv, e, r⟩ := he
  have e : seq (setI i φ) (frz i a) ρ = a (ρ.set i (some (.val v))) := by
    rcases r with ⟨r, _⟩ | ⟨r, _⟩
    · subst r
      have e1 : setI i φ ρ = .nx (ρ.set i (some (.own v))) := by
        unfold setI
        rw [e]
        show (if noRef (gt ρ i) = true ∧ i < ρ.length then _ else _) = _
        rw [if_pos hi]
      unfold seq
      rw [e1]
      show frz i a (ρ.set i (some (.own v))) = _
      unfold frz
      rw [gt_set_self hi.2]
      show a ((ρ.set i (some (.own v))).set i (some (.val v))) = _
      rw [List.set_set]
    · subst r
      have e1 : setI i φ ρ = .nx (ρ.set i (some (.val v))) := by
        unfold setI
        rw [e]
        show (if noRef (gt ρ i) = true ∧ i < ρ.length then _ else _) = _
        rw [if_pos hi]
      unfold seq
      rw [e1]
      show frz i a (ρ.set i (some (.val v))) = _
      unfold frz
      rw [gt_set_self hi.2]
  rw [e]
  exact h
end
section
variable {ρ : En}
end
section
variable {T α : Type} {o : Bool} {env : T → En} {val : α → D} {fin : α → En → Prop} {ρ : En}
end
theorem answer_of {o : Bool} {xf : FSem} {d : D} {c : R D} (h : FnP o xf [d] c) (e : c = .ok (.bl true)) : ∃ outs, xf [.val d] = .ok (.val (.bl true)) outs := by
  subst e
  obtain ⟨rv, e, r⟩ := h
  rcases r with ⟨_, r⟩ | ⟨r, _⟩
  · cases r
  · exact ⟨_, by rw [← r]; exact e⟩
end VF
namespace VF
open PySem PySem.Spec PyProof.Rows L2
def foldG {T : Type} (u : D → Option T) (p : T → R Bool) (g : T → D → R D) : List D → D → R D
  | [], acc => .ok acc
  | x :: xs, acc => match u x with
    | none => .bad
    | some a => (noE (p a)).bind fun b => if b = true then (noE (g a acc)).bind fun acc' => foldG u p g xs acc' else foldG u p g xs acc
def foldM {T : Type} (u : D → Option T) (g : T → D → R D) : List D → D → R D
  | [], acc => .ok acc
  | x :: xs, acc => match u x with
    | none => .bad
    | some a => (noE (g a acc)).bind fun acc' => foldM u g xs acc'
section
variable {ρ : En}
def lsR (c : R D) (acc : D) : R D := c.bind fun d => match acc with
  | .lst ds => if ds.length < sizeLine then .ok (.lst (ds ++ [d])) else .bad
  | _ => .bad
def dkR (ck cv : R D) (acc : D) : R D := ck.bind fun k => cv.bind fun v => ofO (dpK acc k v)
def dtR (ck cv : R D) (acc : D) : R D := ck.bind fun k => cv.bind fun v => ofO (dpT acc k v)
def d1R (k v : D) : Option D := (k.key?).map fun kk => .dck [kk] [v]
end
section
variable {T α : Type} {env : T → En} {o : Bool} {val : α → D} {fin : α → En → Prop} {ρ : En}
end
section
variable {κ : Type} {K : Kn κ} {ρ : En}
def unS : D → Option (D × D)
  | .lst (d :: ds) => some (d, .lst ds)
  | _ => none
theorem k_storeG {i : Nat} {ix : Opd} {φ : ES} {a : SS} {o : Bool} {c ci : R D} {d0 : D} {sm : D → Sl} {k : Unit × D → R κ} (he : EvP o φ ρ c) (hi : EvO ix ρ ci) (hg : gt ρ i = some (sm d0)) (hm : sm = .own ∨ sm = .ref) (h : ∀ q : Unit × D, K.p (a (ρ.set i (some (sm q.2)))) (k q)) :
    K.p (seq (storeG i ix φ) a ρ) (c.bind fun v => ci.bind fun j => (ofO (stG v j d0)).bind k) := by
  cases c with
  | bad => exact K.bad _
  | exc x =>
    have e : seq (storeG i ix φ) a ρ = .exc x ρ := by unfold seq storeG; rw [show φ ρ = .exc x ρ from he]; rfl
    rw [e]; exact K.ex _ _
  | ok v =>
    obtain ⟨rv, e1, r⟩ := he
    rw [R.bind_ok]
    have e0 : storeG i ix φ ρ = (ix.ev ρ).bindS fun y ρ2 => match y.dat ρ2 with
        | some k => (match mutS i (stG v k) ρ2 with
          | some (_, ρ3) => .nx ρ3
          | none => .bad)
        | none => .bad := by
      unfold storeG
      rw [e1]
      simp only [Out.bindS, Opd.ev, hg, r.d]
      all_goals rfl
    cases ci with
    | bad => exact K.bad _
    | exc x =>
      have e : seq (storeG i ix φ) a ρ = .exc x ρ := by unfold seq; rw [e0, show ix.ev ρ = .exc x ρ from hi]; rfl
      rw [e]; exact K.ex _ _
    | ok j =>
      obtain ⟨y, e2, e3⟩ := hi
      rw [R.bind_ok]
      cases es : stG v j d0 with
      | none => exact K.bad _
      | some p =>
        have em : mutS i (stG v j) ρ = some (p.1, ρ.set i (some (sm p.2))) := by
          rcases hm with rfl | rfl <;> simp only [mutS, hg, es]
        have e : seq (storeG i ix φ) a ρ = a (ρ.set i (some (sm p.2))) := by
          have e4 : storeG i ix φ ρ = .nx (ρ.set i (some (sm p.2))) := by
            rw [e0, e2]
            show (match y.dat ρ with | some k => _ | none => _) = _
            rw [e3]
            show (match mutS i (stG v j) ρ with | some (_, ρ3) => _ | none => _) = _
            rw [em]
          unfold seq
          rw [e4]
        rw [e]
        exact h p
theorem k_setF {i : Nat} {f : Str} {φ : ES} {a : SS} {o : Bool} {c : R D} {d0 : D} {sm : D → Sl} {k : Unit × D → R κ} (he : EvP o φ ρ c) (hg : gt ρ i = some (sm d0)) (hm : sm = .own ∨ sm = .ref) (h : ∀ q : Unit × D, K.p (a (ρ.set i (some (sm q.2)))) (k q)) :
    K.p (seq (setF i f φ) a ρ) (c.bind fun v => (ofO (stF f v d0)).bind k) := by
  cases c with
  | bad => exact K.bad _
  | exc x =>
    have e : seq (setF i f φ) a ρ = .exc x ρ := by unfold seq setF; rw [show φ ρ = .exc x ρ from he]; rfl
    rw [e]; exact K.ex _ _
  | ok v =>
    obtain ⟨rv, e1, r⟩ := he
    rw [R.bind_ok]
    cases es : stF f v d0 with
    | none => exact K.bad _
    | some p =>
      have em : mutS i (stF f v) ρ = some (p.1, ρ.set i (some (sm p.2))) := by
        rcases hm with rfl | rfl <;> simp only [mutS, hg, es]
      have e : seq (setF i f φ) a ρ = a (ρ.set i (some (sm p.2))) := by
        have e4 : setF i f φ ρ = .nx (ρ.set i (some (sm p.2))) := by
          unfold setF
          rw [e1]
          simp only [Out.bindS, Opd.ev, hg, r.d]
          rw [em]
        unfold seq
        rw [e4]
      rw [e]
      exact h p
def augA (d y : D) : Option Int := match dAsk d y with
  | some (some (.int w)) => some w
  | _ => none
def augB (d y : D) (w : Int) : D → Option (Unit × D)
  | .int n => dAdd y w n d
  | _ => none
end
end VF
namespace VF
open PySem PySem.Spec PyProof.Rows L2
section
variable {ρ : En}
def mkR (f : List D → R D) (cs : List (R D)) : R D := (seqR cs).bind fun ds => (noE (f ds)).bind fun d => cnR d d
end
end VF
namespace VF
open PySem PySem.Spec PyProof.Rows L2
def pkD (ds : List D) : List Pk → List D
  | [] => []
  | .at i :: r => ds.getD i .non :: pkD ds r
  | .df d :: r => d :: pkD ds r
def inPk (n : Nat) : List Pk → Bool
  | [] => true
  | .at i :: r => decide (i < n) && inPk n r
  | .df _ :: r => inPk n r
section
variable {ρ : En}
theorem slOs_pk {xs : List Ov} {ds : List D} (h : slOs ρ xs = some (ds.map .val)) : ∀ {sel : List Pk}, inPk ds.length sel = true → slOs ρ (pkO xs sel) = some ((pkD ds sel).map .val)
  | [], _ => rfl
  | .at i :: r, hi => by
    unfold inPk at hi
    rw [Bool.and_eq_true, decide_eq_true_iff] at hi
    unfold pkO pkD slOs
    have hl : i < xs.length := by
      have := slOs_length h
      rw [List.length_map] at this
      omega
    obtain ⟨s, k1, k2⟩ := slOs_get' h (List.getElem?_eq_getElem hl)
    rw [List.getElem?_map, List.getElem?_eq_getElem hi.1] at k1
    cases k1
    rw [List.getD_eq_getElem?_getD, List.getElem?_eq_getElem hl, Option.getD_some, k2, slOs_pk h hi.2, List.getD_eq_getElem?_getD, List.getElem?_eq_getElem hi.1]
    rfl
  | .df d :: r, hi => by
    unfold inPk at hi
    unfold pkO pkD slOs
    rw [slOs_pk h hi]
    rfl
section
variable {o : Bool} {xf : FSem} {o1 o2 o3 o4 o5 : Opd} {sel : List Pk} {ca cb cc cd ce : R D}
end
end
end VF
namespace VF
open PySem PySem.Spec PyProof.Rows L2
section
variable {ρ : En}
end
section
variable {κ : Type} {K : Kn κ} {ρ : En}
theorem k_parS {A S : Type} {i j : Nat} {φ ψ : ES} {a : SS} {c : R A} {xs : A → List Ov} {env : A → En} {v w : A → D} {k : A → R κ} (h0 : EvXs [.ex φ, .ex ψ] ρ c xs env) (hv : ∀ z, vals (xs z) = some [v z, w z]) (hi : ∀ z, okI (env z) i = true) (hj : ∀ z, okI (env z) j = true) (h : ∀ z, K.p (a (((env z).set i (some (.val (v z)))).set j (some (.val (w z))))) (k z)) : K.p (seq (parS i j φ ψ) a ρ) (c.bind k) := by
  cases c with
  | bad => exact K.bad _
  | exc x =>
    obtain ⟨ρ', h0⟩ := h0
    have e : seq (parS i j φ ψ) a ρ = .exc x ρ' := by unfold seq parS; rw [h0]; rfl
    rw [e]; exact K.ex _ _
  | ok z =>
    have e : seq (parS i j φ ψ) a ρ = a (((env z).set i (some (.val (v z)))).set j (some (.val (w z)))) := by
      have hi : noRef (gt (env z) i) = true ∧ i < (env z).length := by simpa [okI] using hi z
      have hj : noRef (gt (env z) j) = true ∧ j < (env z).length := by simpa [okI] using hj z
      unfold seq parS
      rw [show evs [.ex φ, .ex ψ] ρ = _ from h0]
      show (match (match vals (xs z) with | some [d, e] => _ | _ => _ : SO) with | .nx ρ => _ | o => _) = _
      rw [hv z]
      show (match (if _ then _ else _ : SO) with | .nx ρ => _ | o => _) = _
      rw [if_pos ⟨hi, hj⟩]
    rw [e]
    exact h z
end
end VF
namespace VF
open PySem PySem.Spec PyProof.Rows L2
section
variable {M : Md} {cs : Cs} {W : WX} {k : Nat} {X : Cx}
end
end VF
namespace VF
open PySem PySem.Spec PyProof.Rows L2
theorem fn_okF {M : Md} (hx : M.xn = none) {k : Nat} {x qual : Str} {params : Arguments} {body : List Stmt} {scope : Scope} {kws : List (Str × V)} {dvs : List V} {f : Addr} {fd : FuncData} {N ps : List Str} {b : SS} (F : FunD M.K x qual params body scope dvs kws f fd) (S : FnScope N ps scope)
    (hb : ∀ X W, GF M ⟨N, scope, fun _ => true⟩ W k X → PSs X body (tS M W b)) : FnOk M.P M.w M.K M.mg M.base (L2N.CX M.P M.w) (k + 1) f fd ps (spF M ps.length (fnS N.length b)) := by
  refine F.ok S (fun vs H Q E h => h.1) fun cdv A outer s H vs Q E hr hsp => ?_
  refine ⟨_, hb _ (fun cls d _ H => E cls d H) ⟨⟨⟨rfl, rfl, rfl, rfl, rfl, rfl, S.nd, rfl, rfl, hr.un⟩, rfl, L2N.takes_of rfl rfl rfl rfl, hr, passes_of rfl, hx⟩, rfl, rfl⟩, body_run hx hsp⟩
structure XcF (M : Md) (c : Str) : Prop where
  ex : ∃ C, M.mg c = some (.ref C) ∧ ExcK M.K C
structure IsF (M : Md) (c d : Str) (b : Bool) : Prop where
  ex : ∃ C E, M.mg c = some (.ref C) ∧ M.mg d = some (.ref E) ∧ PySem.W.kitOne M.K (.ref C) (.ref E) = some b
structure IsF3 (M : Md) (c d1 d2 d3 : Str) (b : Bool) : Prop where
  ex : ∃ C E1 E2 E3, M.mg c = some (.ref C) ∧ M.mg d1 = some (.ref E1) ∧ M.mg d2 = some (.ref E2) ∧ M.mg d3 = some (.ref E3) ∧ PySem.W.kitAny M.K (.ref C) [.ref E1, .ref E2, .ref E3] = some b
structure HdF (M : Md) (c d : Str) (b : Bool) : Prop where
  ex : ∃ C E, M.mg c = some (.ref C) ∧ M.mg d = some (.ref E) ∧ PySem.W.exmOne M.K (.ref E) (.ref C) = some b
section
variable {M : Md} {cs : Cs} {W : WX} {k : Nat} {X : Cx} {a dx C : Addr} {oe : Obj} {pn : List (Addr × Obj)} {i : Nat} {x : Ex}
theorem e_isX1 (gx : GX M cs k X a dx C oe pn i x) {n c d : Str} {b : Bool} {p p1 p2 pos : Pos} (hxc : x.cls = c) (q : XcF M c) (f : IsF M c d b) (hi : cs.N[i]? = some n) (hv : Vis cs.sc n) (hd : (n == ("__debug__" : Str)) = false) (hcd : (n == ("__classdict__" : Str)) = false) (hg : cs.sc.names.lookup ("isinstance" : Str) = some .globalImplicit) (hm : M.mg "isinstance" = none)
    (hgd : cs.sc.names.lookup d = some .globalImplicit) (hdd : (d == ("__debug__" : Str)) = false) :
    PE (X.suite a ((a, oe) :: pn)) (.Call (.Name "isinstance" p) [.Name n p1, .Name d p2] [] pos) (tE (M.on ⟨i, a, dx, x.fs, x.ds⟩) W (cst (.bl b))) := by
  subst hxc
  obtain ⟨C', E, h1, h2, h3⟩ := f.ex
  obtain ⟨C2, h4, T⟩ := q.ex
  have e1 := gx.hC.symm.trans h1
  cases e1
  have e2 := gx.hC.symm.trans h4
  cases e2
  exact e_isX gx (tbl := fun _ => some b) (cv := .ref E) (u := .ref E) hi hv hd hcd hg hm (pe_glob (X := X.suite a ((a, oe) :: pn)) (gx.g.gl hgd) (show X.mg d = some (.ref E) by rw [show X.mg = M.mg from gx.g.hmg]; exact h2) rfl hdd) (.own E) T fun b' e => by cases e; exact h3
end
end VF
namespace VF
open PySem PySem.Spec PyProof.Rows L2
def tblC (cl : Str) : Str → Option Bool := fun s => if s = cl then some true else none
def suC (cl : Str) (su : Ex → SS) : Ex → SS := fun x => if x.cls = cl then su x else badS
section
variable {ρ : En}
end
theorem xcf_of {M : Md} {c top f : Str} (hm : M.mg c = some (.ref (He.ga M.K c))) (h : erB c top f M.K = true) : XcF M c := by
  unfold erB at h
  simp only [Bool.and_eq_true, decide_eq_true_eq] at h
  obtain ⟨h1, h2, h3, h4, h5⟩ := h
  exact ⟨_, hm, excK_of h5⟩
theorem isF_of {M : Md} {c d : Str} {b : Bool} (h1 : M.mg c = some (.ref (He.ga M.K c))) (h2 : M.mg d = some (.ref (He.ga M.K d))) (h : isXB c d b M.K = true) : IsF M c d b := ⟨_, _, h1, h2, of_decide_eq_true h⟩
theorem hdF_of {M : Md} {c d : Str} {b : Bool} (h1 : M.mg c = some (.ref (He.ga M.K c))) (h2 : M.mg d = some (.ref (He.ga M.K d))) (h : hdB c d b M.K = true) : HdF M c d b := ⟨_, _, h1, h2, of_decide_eq_true h⟩
section
variable {M : Md} {cs : Cs} {W : WX} {k : Nat} {X : Cx}
theorem s_try1 (g : GF M cs W k X) {i : Nat} {c cl n : Str} {body suite : List Stmt} {b₀ : Stmt} {np pos pos' : Pos} {b : SS} {su : Ex → SS}
    (hi : cs.N[i]? = some n) (hln : cs.sc.names.lookup n = some .local) (hg : cs.sc.names.lookup c = some .globalImplicit) (hdb : (c == ("__debug__" : Str)) = false) (f : HdF M c cl true)
    (hb : ∀ X W, GF M cs W k X → PSs X body (tS M W b))
    (hsu : ∀ (a dx C : Addr) (oe : Obj) (pn : List (Addr × Obj)) (x : Ex), GX M cs k X a dx C oe pn i x → x.cls = cl → PSs (X.suite a ((a, oe) :: pn)) (b₀ :: suite) (tS (M.on ⟨i, a, dx, x.fs, x.ds⟩) WF (su x))) :
    PS X (.Try body [.ExceptHandler (some (.Name c np)) (some n) (b₀ :: suite) pos'] [] [] pos) (tS M W (tryAs b (tblC cl) i (suC cl su))) := by
  obtain ⟨C, E, h1, h2, h3⟩ := f.ex
  refine s_tryAs g hi hln hg hdb h1 (fun e C' r hm ht => ?_) hb fun a dx C' oe pn x gx => ?_
  · unfold tblC at ht
    by_cases he : e = cl
    · rw [if_pos he] at ht
      cases ht
      subst he
      have z := hm.symm.trans h2
      cases z
      exact h3
    · rw [if_neg he] at ht
      cases ht
  · unfold suC
    by_cases hx : x.cls = cl
    · rw [if_pos hx]
      exact hsu a dx C' oe pn x gx hx
    · rw [if_neg hx]
      exact ss_bad
end
end VF
namespace VF
open PySem PySem.Spec PyProof.Rows L2
def meC (c m : Str) (d : D) (k : R D) : R D := match d with
  | .ins c' fs _ => if c' = c ∧ m ∉ fs then k else .bad
  | _ => .bad
section
variable {ρ : En} {o : Bool} {xf : FSem} {o0 o1 o2 : Opd} {os : List Opd} {c0 c1 c2 : R D} {c m : Str}
theorem slO_dat {x : Ov} {d : D} (h : slO ρ x = some (.val d)) : x.dat ρ = some d := by
  cases x with
  | val e => cases h; rfl
  | «at» i =>
    unfold slO at h
    unfold Ov.dat
    cases e : gt ρ i with
    | none => simp only [e] at h; cases h
    | some s =>
      cases s with
      | val e' => simp only [e] at h; cases h; simp only [e]; rfl
      | own e' => simp only [e] at h; cases h
      | ref e' => simp only [e] at h; cases h
      | rd e' => simp only [e] at h; cases h
end
end VF
namespace VF
open PySem PySem.Spec PyProof.Rows L2
section
variable {prog : Program} {w : World} {A : Around} {E : Value → Shared → Prop}
end
section
variable {M : Md} {cs : Cs} {W : WX} {k : Nat} {X : Cx}
end
end VF
namespace LamX
open PySem PySem.Spec PyProof.Rows L2
section
variable {X : Cx} {pins : List (Addr × Obj)} {σ : L2.St} {H HZ : Hp} {s s1 : Shared}
end
end LamX
namespace VF
open PySem PySem.Spec PyProof.Rows L2
theorem SR.apart {M : Md} {F F' O R O' R' : Addr → Prop} {H H' : Hp} {σ : St} {ρ : En} (s : SR M F H σ ρ) (st : Stp F H O R F' H' O' R') (no : ∀ a, ¬ O a) (nr : ∀ a, ¬ R a) (hd : ∀ a, F' a → H' a ≠ none) (ht : TabOk M F' H') : Po M F H σ ρ F' H' ρ := by
  have st2 : Stp F H (OwnAt σ ρ) (RefAt σ ρ) F' H' (OwnAt σ ρ) (RefAt σ ρ) :=
    ⟨st.fro, fun a o h _ _ => st.keep a o h (no a) (nr a), st.dom, fun a h => (st.new a h).imp id fun z => z.imp id fun z => (no a z).elim, fun _ h => .inl h, fun _ h => h⟩
  refine ⟨st2, s.froX (s.ext st2) (fun i t a o h ht e q => ?_) hd (s.xn.extT (s.ext st2) ht), .refl _⟩
  obtain ⟨b, u, e2, nf, _⟩ := s.top_at h ht
  rw [e] at e2; cases e2
  refine ⟨fun z => ?_, (st.keep a o q (no a) (nr a)).no nf⟩
  rcases st.new a z with y | y | y
  · exact nf y
  · rw [q] at y; cases y
  · exact no a y
def nobody : Addr → Prop := fun _ => False
def Gets (M : Md) (F : Addr → Prop) (H : Hp) (d : D) (Q : VK) : Prop := ∀ F' H' v, Stp F H nobody nobody F' H' nobody nobody → (∀ a, F' a → H' a ≠ none) → TabOk M F' H' → Rep M F' H' d v → Q v H'
def TAsk (M : Md) (yes : D) (tbl : Str → Option Bool) (hnd : Ex → Option D) (tl : XK → Hp → VK → Prop) (H : Hp) (Q : VK) : Prop :=
  tl (fun cls e H' => ∃ x F' d, (∀ a, F' a → H' a ≠ none) ∧ TabOk M F' H' ∧ ExR M F' H' x cls e ∧ tbl x.cls = some true ∧ hnd x = some d ∧ Gets M F' H' d Q) H
    fun _ H' => ∃ F', (∀ a, F' a → H' a ≠ none) ∧ TabOk M F' H' ∧ Gets M F' H' yes Q
structure AskV (M : Md) (k : Nat) (x : Str) (yes : D) (tbl : Str → Option Bool) (hnd : Ex → Option D) : Prop where
  ex : ∃ (g : Addr) (a : Str) (Ng : List Str) (sg : Scope) (bg : List Stmt) (pg : Arguments) (dV kV doc pm cdv ct oc : Value) (an od : Option Addr) (osl : Array (Option Value)),
    M.mg x = some (.ref g) ∧ PySem.W.keepIn M.K (.ref g) = true ∧ M.K.lookup g = some ⟨oc, od, .func (PySem.W.fnOf x x pg bg sg dV kV doc pm an cdv ct), osl⟩ ∧ PySem.W.codeIn M.K cdv x = true ∧ Binds M.K (PySem.W.fnOf x x pg bg sg dV kV doc pm an cdv ct) [a] [] ∧ FnScope Ng [a] sg ∧ Ng[0]? = some a ∧ Vis sg a ∧
    (a == ("__debug__" : Str)) = false ∧ (a == ("__classdict__" : Str)) = false ∧
    ∀ (A : Around) (outer : List Env) (s : Shared) (H : Hp) (f c' : Addr) (q : Str) (tl : XK → Hp → VK → Prop) (Q : VK), Room k (A.deeper (envOfC x sg s.heap.objs.size g cdv)) →
      (∀ (W : WX) (pn : List (Addr × Obj)) (xe : Value → Shared → Prop) (E : XK) (p1 p2 : Pos), L2N.Takes ((cxOf C8.CX0 M.P M.w M.K M.mg M.base Ng x sg g cdv A outer s H C8.E0).tr pn xe) W → (∀ cls d σ' H', E cls d H' → W cls d σ' H') →
        PE ((cxOf C8.CX0 M.P M.w M.K M.mg M.base Ng x sg g cdv A outer s H C8.E0).tr pn xe) (.Call (.Name a p1) [] [] p2) (fun σZ HZ Q => σZ[0]? = some (some (.ref f)) ∧ HZ c' = some (LamX.CodeO c' q) ∧ tl E HZ Q)) →
      H c' = some (LamX.CodeO c' q) → TAsk M yes tbl hnd tl H Q →
      ∃ t, PSs (cxOf C8.CX0 M.P M.w M.K M.mg M.base Ng x sg g cdv A outer s H C8.E0) bg t ∧ t { nx := fun _ H' => Q .non H', rt := Q } (L2.start Ng [.ref f]) H
structure LamD (M : Md) (X : Cx) (P : Addr) (q : Str) : Prop where
  ex : ∃ c, LamX.TabB X.base X.mg c P ∧ X.env.code = .ref c ∧ X.env.qual ++ "<lambda>" = q
  mem : (P, q) ∈ M.T
section
variable {M : Md} {cs : Cs} {W : WX} {k : Nat} {X : Cx}
theorem TabF.s {F : Addr → Prop} {H : Hp} {P : Addr} {q : Str} (t : TabF F H P q) : LamX.TabS H P q := by
  obtain ⟨_, ps, e, t1, co⟩ := t
  refine ⟨ps, e, t1, fun pos cv hc => ?_⟩
  obtain ⟨c, e2, _, e3⟩ := co pos cv hc
  exact ⟨c, e2, e3⟩
end
end VF
namespace VF
open PySem PySem.Spec PyProof.Rows L2
def bare (n : Nat) : En := List.replicate n none
theorem gt_bare {n i : Nat} : gt (bare n) i = none := by
  unfold gt bare
  rw [List.getElem?_replicate]
  split <;> rfl
theorem SR.bare {M : Md} {F : Addr → Prop} {H : Hp} {σ : St} {n : Nat} (hl : σ.length = n) (hd : ∀ a, F a → H a ≠ none) (hx : XnOk M F H σ) : SR M F H σ (bare n) :=
  ⟨by unfold VF.bare; rw [List.length_replicate]; exact hl, hd, fun i s h => (by rw [gt_bare] at h; cases h), fun i j s t a h => (by rw [gt_bare] at h; cases h), hx⟩
end VF
namespace PySem
namespace KEX
open PySem.W PySem.Calls PyProof.Rows PySem.HandSPX
abbrev keT : List Value := [.type "KeyError", .type "LookupError", .type "Exception", .type "BaseException", .type "object"]
section
variable {M : Model} {A : Around} {E : Value → Shared → Prop} {h : Heap} {g : Array GenState} {d : Drawn} {t : Nat} {os : OsState}
variable {nm q : Str} {C N : Addr} {bs : List Value} {hdct : Bool} {sn : List Str} {sub : List Value} {ab : Bool} {col : Option Bool} {dd : Option Addr} {k0 k1 k2 k3 k5 : Option Value}
end
section
variable {prog : Program} {w : World} {A : Around} {E : Value → Shared → Prop} {R : Result → Shared → Prop} {h : Heap} {g : Array GenState} {d : Drawn} {t : Nat} {os : OsState}
variable {nm q : Str} {C N : Addr} {bs : List Value} {hdct : Bool} {sn : List Str} {sub : List Value} {ab : Bool} {col : Option Bool} {dd : Option Addr} {k0 k1 k2 k3 k5 : Option Value}
end
section
open Builtin Builtin.ObjectAttr
variable {prog : Program} {w : World} {A : Around} {E : Value → Shared → Prop} {R : Result → Shared → Prop} {hp : Heap} {g : Array GenState} {d : Drawn} {t : Nat} {os : OsState}
end
end KEX
end PySem
namespace VF
open PySem PySem.Spec PyProof.Rows L2
structure OexK (K : PySem.W.Frag) (C : Addr) : Prop where
  cls : ∃ nm q N bs sn sub ab col dd k0 k1 k2 k3 k5, K.lookup C = some (excClassObj nm q C N bs PySem.KEX.keT true sn sub ab col dd k0 k1 k2 k3 k5 "LookupError.__new__")
  sa : PySem.W.findIn K (.ref C) "__setattr__" = some (some (.builtin "object.__setattr__"))
  exC : PySem.W.subIn K (.ref C) (.type "BaseException") = some true
  tyC : PySem.W.typeIn K (.ref C) = some (.type "type")
  kC : PySem.W.keepIn K (.ref C) = true
section
variable {X : Cx} {pins : List (Addr × Obj)} {σ : St} {H : Hp} {s : Shared} {a C dx : Addr} {f : Str} {y : V} {u : Value} {E : Value → Shared → Prop} {A : Around}
end
section
variable {X : Cx} {o e : Expr} {es : List Expr} {to te : TE} {ta : TA} {f : Str} {p p' p1 p2 pos : Pos}
end
end VF
namespace VF
open PySem PySem.Spec PyProof.Rows L2
section
variable {X : Cx} {e : Expr} {es : List Expr} {ta : TA} {p pos : Pos}
end
def spN (K : PySem.W.Frag) (f : Str) : Sp := fun vs H Q _ => ∃ (a C : Addr) (w : V), vs = [.ref a, w] ∧ OexK K C ∧ PySem.W.findIn K (.ref C) f = some none ∧ H a = some (exo a C none) ∧
  ∀ dx, H dx = none → dx ≠ a → Q .non (upd (upd H dx (exd dx [(f, w)])) a (exo a C (some dx)))
structure ErN (M : Md) (k : Nat) (c f : Str) : Prop where
  ex : ∃ C fI fd ps, M.mg c = some (.ref C) ∧ OexK M.K C ∧ PySem.W.findIn M.K (.ref C) f = some none ∧ PySem.W.findIn M.K (.ref C) "__init__" = some (some (.ref fI)) ∧ PySem.W.typeIn M.K (.ref fI) = some (.type "function") ∧ FnOk M.P M.w M.K M.mg M.base (L2N.CX M.P M.w) k fI fd ps (spN M.K f) ∧ Binds M.K fd ps []
section
variable {M : Md} {cs : Cs} {W : WX} {k : Nat} {X : Cx}
end
end VF
namespace VF
open PySem PySem.Spec PyProof.Rows L2
structure AskF (M : Md) : Prop where
  ex : ∃ C E, M.mg "NoOption" = some (.ref C) ∧ M.mg "PollError" = some (.ref E) ∧ ExcK M.K C ∧ PySem.W.findIn M.K (.ref C) "name" = some none ∧ PySem.W.exmOne M.K (.ref C) (.ref C) = some true ∧ PySem.W.kitOne M.K (.ref C) (.type "KeyError") = some true ∧ PySem.W.kitOne M.K (.ref C) (.ref E) = some false
  is : M.mg "isinstance" = none
  ke : M.mg "KeyError" = none
section
variable {M : Md} {k : Nat}
end
end VF
namespace VF
open PySem PySem.Spec PyProof.Rows L2
end VF
namespace VF
open PySem PySem.Spec PyProof.Rows L2
open PySem.SeqAt (EqAt RcAt RcNeAt)
mutual
def nt : D → D
  | .tup xs => .tup (ntL xs)
  | .tpp xs => .tup (ntL xs)
  | .lst xs => .lst (ntL xs)
  | d => d
def ntL : List D → List D
  | [] => []
  | x :: xs => nt x :: ntL xs
end
mutual
def RepE (M : Md) (F : Addr → Prop) (H : Hp) : D → V → Prop
  | .non, v => v = .non
  | .bl b, v => v = .bl b
  | .int i, v => v = .int i
  | .str x, v => v = .str x
  | .tup ds, v => ∃ a vs, v = .ref a ∧ SqT M.K H a vs ∧ RepEL M F H ds vs
  | .lst ds, v => ∃ a vs, v = .ref a ∧ SqL M.K H a vs ∧ RepEL M F H ds vs
  | _, _ => True
def RepEL (M : Md) (F : Addr → Prop) (H : Hp) : List D → List V → Prop
  | [], vs => vs = []
  | d :: ds, vs => ∃ v r, vs = v :: r ∧ RepE M F H d v ∧ RepEL M F H ds r
end
mutual
theorem Rep.e {M : Md} {F : Addr → Prop} {H : Hp} : ∀ (d : D) {v : V}, Rep M F H d v → RepE M F H (nt d) v
  | .non, _, h => by unfold Rep at h; unfold nt RepE; exact h
  | .bl _, _, h => by unfold Rep at h; unfold nt RepE; exact h
  | .int _, _, h => by unfold Rep at h; unfold nt RepE; exact h
  | .str _, _, h => by unfold Rep at h; unfold nt RepE; exact h
  | .tup ds, _, h => by
    unfold Rep at h; unfold nt RepE
    obtain ⟨a, vs, e, q, r⟩ := h
    exact ⟨a, vs, e, q.1, RepL.e ds r⟩
  | .lst ds, _, h => by
    unfold Rep at h; unfold nt RepE
    obtain ⟨a, vs, e, q, r⟩ := h
    exact ⟨a, vs, e, q.imp (·.2) id, RepL.e ds r⟩
  | .tpp ds, _, h => by
    unfold Rep at h; unfold nt RepE
    obtain ⟨a, vs, o, e, f, q, n, r⟩ := h
    exact ⟨a, vs, e, .inl (.inr ⟨o, q⟩), RepL.e ds r⟩
  | .dck _ _, _, h => by unfold nt RepE; trivial
  | .dct _ _, _, h => by unfold nt RepE; trivial
  | .ins _ _ _, _, h => by unfold nt RepE; trivial
  | .exn _ _ _ _ _, _, h => by unfold nt RepE; trivial
theorem RepL.e {M : Md} {F : Addr → Prop} {H : Hp} : ∀ (ds : List D) {vs : List V}, RepL M F H ds vs → RepEL M F H (ntL ds) vs
  | [], _, h => by unfold RepL at h; unfold ntL RepEL; exact h
  | d :: ds, _, h => by
    unfold RepL at h; unfold ntL RepEL
    obtain ⟨v, r, e, p, q⟩ := h
    exact ⟨v, r, e, Rep.e d p, RepL.e ds q⟩
end
theorem OdR.e {M : Md} {F : Addr → Prop} {H : Hp} {d : D} {v : V} (h : OdR M F H d v) : RepE M F H (nt d) v := by
  rcases h with h | ⟨a, e, _, c⟩
  · exact Rep.e d h
  · cases d with
    | lst ds =>
      obtain ⟨vs, p, r⟩ := c
      unfold nt RepE
      exact ⟨a, vs, e, .inl p.rd, RepL.e ds r⟩
    | dck _ _ => unfold nt RepE; trivial
    | dct _ _ => unfold nt RepE; trivial
    | ins _ _ _ => unfold nt RepE; trivial
    | _ => exact c.elim
theorem RepEL.length {M : Md} {F : Addr → Prop} {H : Hp} : ∀ {ds : List D} {vs : List V}, RepEL M F H ds vs → ds.length = vs.length
  | [], _, h => by unfold RepEL at h; subst h; rfl
  | d :: ds, _, h => by
    unfold RepEL at h
    obtain ⟨v, r, rfl, _, q⟩ := h
    simp [RepEL.length q]
theorem RepEL.getV {M : Md} {F : Addr → Prop} {H : Hp} : ∀ {ds : List D} {vs : List V} {j : Nat} {v : V}, RepEL M F H ds vs → vs[j]? = some v → ∃ d, ds[j]? = some d ∧ RepE M F H d v
  | [], _, _, _, h, e => by unfold RepEL at h; subst h; simp at e
  | d :: ds, _, j, v', h, e => by
    unfold RepEL at h
    obtain ⟨v, r, rfl, p, q⟩ := h
    cases j with
    | zero =>
      simp at e
      subst e
      exact ⟨d, rfl, p⟩
    | succ j =>
      obtain ⟨w, h1, h2⟩ := RepEL.getV (j := j) (v := v') q (by simpa using e)
      exact ⟨w, by simpa using h1, h2⟩
section
variable {M : Md} {X : Cx} {pins : List (Addr × Obj)} {F : Addr → Prop} {σ : St} {H : Hp} {s : Shared}
end
section
variable {M : Md} {X : Cx}
end
end VF
namespace VF
open PySem PySem.Spec PyProof.Rows L2 PyProof.Rows.G
section
variable {M : Md} {X : Cx} {pins : List (Addr × Obj)} {F : Addr → Prop} {σ : St} {H : Hp} {s : Shared}
end
section
variable {M : Md} {X : Cx}
end
end VF
namespace VF
open PySem PySem.Spec PyProof.Rows L2
section
variable {prog : Program} {w : World} {A : Around} {E : Value → Shared → Prop} {s : Shared}
end
section
variable {M : Md} {X : Cx} {cs : Cs} {W : WX} {k : Nat}
end
end VF
namespace VF
open PySem PySem.Spec PyProof.Rows L2
section
variable {M : Md} {X : Cx} {pins : List (Addr × Obj)} {F : Addr → Prop} {σ : St} {H : Hp} {s : Shared}
end
section
variable {M : Md} {X : Cx}
end
end VF
namespace VF
open PySem PySem.Spec PyProof.Rows L2
structure AtTop (M : Md) (k : Nat) (x : Str) (f : Addr) (fd : FuncData) (φ : FSem) : Prop where
  run : ∀ (outer : List Env) (s : Shared) (H : Hp) (args : Args) (us : List Value) (vs : List V) (Q : VK) (E : XK), Room (k + 1) callerA → Env0 M.P M.w M.K M.mg M.base callerA outer s H → BindsTo s fd args ([x].zip us) → Vals vs us → spF M 1 φ vs H Q E → codeAny (model M.P M.w) callerA (.call (.ref f) args) (CR (L2N.CX M.P M.w) outer M.P M.w H s Q E) s
end VF
namespace VFx
open PySem PySem.Spec PyProof.Rows PySem.SeqAt
open PySem.AutoSeq1
open MeetsSeq
end VFx
namespace VF
open PySem PySem.Spec PyProof.Rows L2
open PySem.SeqAt (EqAt RcAt RcNeAt)
section
variable {ρ : En}
end
section
variable {T α : Type} {ρ : En} {o : Bool} {val : α → D} {fin : α → En → Prop} {env : T → En}
end
section
variable {M : Md} {F : Addr → Prop} {H : Hp} {X : Cx} {pins : List (Addr × Obj)} {σ : St} {s : Shared}
end
end VF
namespace VF
open PySem PySem.Spec PyProof.Rows L2
end VF
namespace VF
open PySem PySem.Spec PyProof.Rows L2
section
variable {κ : Type} {K : Kn κ} {ρ : En}
def augW : D → Option Int
  | .int w => some w
  | _ => none
def augY (w : Int) : D → Option D
  | .int n => some (.int (w + n))
  | _ => none
end
end VF
namespace VFx
open PySem PySem.Spec PySem.SeqAt
open PySem.AutoSeq1 (wpAny_loadPart')
end VFx
namespace VF
open PySem PySem.Spec PyProof.Rows L2
def isD : D → Bool
  | .dck _ _ => true
  | .dct _ _ => true
  | _ => false
section
variable {M : Md} {X : Cx}
end
end VF
namespace VF
open PySem PySem.Spec PyProof.Rows L2
section
variable {M : Md} {X : Cx}
end
end VF
namespace VF
open PySem PySem.Spec PyProof.Rows L2
structure IsFs (M : Md) (c : Str) (ds : List Str) (b : Bool) : Prop where
  hc : M.mg c = some (.ref (He.ga M.K c))
  hd : ∀ x ∈ ds, M.mg x = some (.ref (He.ga M.K x))
  hk : PySem.W.kitAny M.K (.ref (He.ga M.K c)) (ds.map fun x => .ref (He.ga M.K x)) = some b
section
variable {M : Md} {cs : Cs} {W : WX} {k : Nat} {X : Cx} {a dx C : Addr} {oe : Obj} {pn : List (Addr × Obj)} {i : Nat} {x : Ex}
end
def TB {T : Type} (ρ : En) (env : T → En) (s : SO) (c : R T) : Prop := match c with
  | .ok t => s = .nx (env t)
  | .exc x => s = .exc x ρ
  | .bad => True
def R.tryX {T : Type} (c : R T) (cl : Str) (h : Ex → R T) : R T := match c with
  | .ok t => .ok t
  | .exc x => if x.cls = cl then noE (h x) else .bad
  | .bad => .bad
theorem R.tryX_exc {T : Type} {x : Ex} {cl : Str} {h : Ex → R T} (e : x.cls = cl) : (R.exc x : R T).tryX cl h = noE (h x) := by
  show (if x.cls = cl then noE (h x) else .bad) = _
  rw [if_pos e]
section
variable {ρ : En} {T : Type} {env : T → En}
theorem tb_drop {o : Bool} {φ : ES} {c : R D} {t : T} (he : EvP o φ ρ c) (h : env t = ρ) : TB ρ env (dropE φ ρ) (c.bind fun _ => .ok t) := by
  cases c with
  | bad => trivial
  | exc x => show dropE φ ρ = .exc x ρ; unfold dropE; rw [show φ ρ = .exc x ρ from he]; rfl
  | ok d =>
    obtain ⟨rv, e, r⟩ := he
    show dropE φ ρ = .nx (env t)
    unfold dropE; rw [e, h]; rfl
theorem tb_if {t : BS} {a b : SS} {ct : R Bool} {ca cb : R T} (ht : EvT t ρ ct) (ha : TB ρ env (a ρ) ca) (hb : TB ρ env (b ρ) cb) : TB ρ env (ifS t a b ρ) (ct.bind fun k => if k = true then ca else cb) := by
  cases ct with
  | bad => trivial
  | exc x => show ifS t a b ρ = .exc x ρ; unfold ifS; rw [show t ρ = .exc x ρ from ht]; rfl
  | ok k =>
    have e : ifS t a b ρ = if k = true then a ρ else b ρ := by unfold ifS; rw [show t ρ = .ok k ρ from ht]; rfl
    rw [e, R.bind_ok]
    cases k with
    | true => exact ha
    | false => exact hb
theorem k_tryN {b : SS} {i : Nat} {cl : Str} {su : Ex → SS} {c : R T} {h : Ex → R T} (hi : okI ρ i = true) (hb : TB ρ env (b ρ) c) (hs : ∀ x, (kBn env).p (su x (ρ.set i none)) (h x)) (hn : ∀ t, (env t).set i none = env t) :
    (kBn env).p (tryAs b (tblC cl) i (suC cl su) ρ) (c.tryX cl h) := by
  have hi : noRef (gt ρ i) = true ∧ i < ρ.length := by simpa [okI] using hi
  cases c with
  | bad => trivial
  | ok t =>
    have e : b ρ = .nx (env t) := hb
    show tryAs b (tblC cl) i (suC cl su) ρ = .nx (env t)
    unfold tryAs
    rw [e]
  | exc x =>
    have e1 : b ρ = .exc x ρ := hb
    by_cases hx : x.cls = cl
    · rw [R.tryX_exc hx]
      have e2 : tryAs b (tblC cl) i (suC cl su) ρ = endK i (su x (ρ.set i none)) := by
        unfold tryAs tblC suC
        rw [e1]
        simp only [if_pos hx, if_pos hi]
      have hq := hs x
      cases hc : h x with
      | bad => trivial
      | ok t =>
        rw [hc] at hq
        have hq : su x (ρ.set i none) = .nx (env t) := hq
        show tryAs b (tblC cl) i (suC cl su) ρ = .nx (env t)
        rw [e2, hq]
        show SO.nx ((env t).set i none) = _
        rw [hn]
      | exc y => trivial
    · show (kBn env).p _ (if x.cls = cl then noE (h x) else .bad)
      rw [if_neg hx]
      trivial
end
end VF
namespace VF
open PySem PySem.Spec PyProof.Rows L2
section
variable {M : Md} {X : Cx}
theorem repL_rep {F : Addr → Prop} {H : Hp} {ds : List D} {vs : List V} (l : RepL M F H ds vs) : ∀ n : Nat, RepL M F H (List.replicate n ds).flatten (List.replicate n vs).flatten
  | 0 => by unfold RepL; rfl
  | n + 1 => by
    rw [List.replicate_succ, List.replicate_succ, List.flatten_cons, List.flatten_cons]
    exact RepL.append l (repL_rep l n)
end
end VF
namespace VF
open PySem PySem.Spec PyProof.Rows L2
def dadd (ns : List Int) (k : Int) : List Int := if k ∈ ns then ns else ns ++ [k]
def ddup (ns : List Int) : List Int := ns.foldl dadd []
section
variable {P : Program} {w : World} {A : Around} {E : Value → Shared → Prop} {s : Shared}
end
section
variable {X : Cx}
def rSetL (K : PySem.W.Frag) (w : World) : List V → Hp → VK → Prop := fun vs H Q => ∃ (l : Addr) (ns : List Int), vs = [.ref l] ∧ SqL K H l (ns.map V.int) ∧ ns.length + 1 < scanBound ∧ ∀ p, H p = none → Q (.ref p) (upd H p (SetO w p (fun j => decide (j ∈ ns)) (ddup ns).length))
end
def CoI (w0 : World) (H : Hp) (D : Addr) (acc : VF.D) : Prop := ∃ ns : List Int, acc = .lst (ns.map .int) ∧ ns.Nodup ∧ H D = some (SetO w0 D (fun k => decide (k ∈ ns)) ns.length)
theorem CoI.some_of {w0 : World} {H : Hp} {D : Addr} {acc : VF.D} (h : CoI w0 H D acc) : ∃ u, H D = some u ∧ Mut (some u) := by
  obtain ⟨ns, _, _, e⟩ := h
  exact ⟨_, e, trivial⟩
theorem CoI.keep {w0 : World} {H H' : Hp} {D : Addr} {acc : VF.D} (h : CoI w0 H D acc) (k : ∀ w, H D = some w → H' D = some w) : CoI w0 H' D acc := by
  obtain ⟨ns, a, b, e⟩ := h
  exact ⟨ns, a, b, k _ e⟩
theorem CoI.made {w0 : World} {H : Hp} {D : Addr} {acc : VF.D} {u : HO} (c : ∃ ns : List Int, acc = .lst (ns.map .int) ∧ ns.Nodup ∧ u = SetO w0 D (fun k => decide (k ∈ ns)) ns.length) : CoI w0 (upd H D u) D acc := by
  obtain ⟨ns, a, b, e⟩ := c
  exact ⟨ns, a, b, by rw [e]; exact upd_same⟩
structure BtI (w0 : World) (M : Md) (F1 : Addr → Prop) (H1 : Hp) (σb : St) (ρb : En) (D : Addr) (σi : St) (ρi : En) (acc : VF.D) (F : Addr → Prop) (H : Hp) (ρ : En) : Prop where
  stp : Stp F1 H1 (OwnAt σb ρb) (RefAt σb ρb) F H (OwnAt σi ρ) (RefAt σi ρ)
  sr : SR M F H σi ρ
  kp : Kp ρi ρ
  nf : ¬ F D
  con : CoI w0 H D acc
section
variable {w0 : World} {M : Md} {F1 : Addr → Prop} {H1 : Hp} {σb : St} {ρb : En} {D : Addr} {σi : St} {ρi : En} {acc acc' : VF.D} {F F' : Addr → Prop} {H H' : Hp} {ρ ρ' : En}
theorem BtI.po (b : BtI w0 M F1 H1 σb ρb D σi ρi acc F H ρ) (n : Nm σb ρb σi ρi) (s1 : SR M F1 H1 σb ρb) (hD : H1 D = none) (p : Po M F H σi ρ F' H' ρ') : BtI w0 M F1 H1 σb ρb D σi ρi acc F' H' ρ' := by
  have nm := n.kp b.kp
  have no : ¬ OwnAt σi ρ D := fun ⟨j, d, h1, h2⟩ => nm.notD s1 hD h1 rfl h2
  have nr : ¬ RefAt σi ρ D := fun ⟨j, d, h1, h2⟩ => nm.notD s1 hD h1 rfl h2
  obtain ⟨u, hu, _⟩ := b.con.some_of
  refine ⟨b.stp.trans p.stp, p.sr, b.kp.trans p.kp, fun z => ?_, b.con.keep fun w hw => (p.stp.keep D w hw no nr).no b.nf⟩
  rcases p.stp.new D z with y | y | y
  · exact b.nf y
  · rw [hu] at y; cases y
  · exact no y
theorem BtI.start (s1 : SR M F1 H1 σb ρb) (hD : H1 D = none) {u : HO} (c : ∃ ns : List Int, acc = .lst (ns.map .int) ∧ ns.Nodup ∧ u = SetO w0 D (fun k => decide (k ∈ ns)) ns.length) : BtI w0 M F1 H1 σb ρb D σb ρb acc F1 (upd H1 D u) ρb := by
  have nw : New F1 H1 F1 (upd H1 D u) := New.laid s1.dom hD
  exact ⟨(nw.po s1).stp, (nw.po s1).sr, .refl _, fun z => s1.dom D z hD, CoI.made c⟩
end
section
variable {M : Md} {cs : Cs} {W : WX} {k : Nat} {X : Cx}
theorem New.seq {F F' F2 : Addr → Prop} {H H' H2 : Hp} (a : New F H F' H') (b : New F' H' F2 H2) : New F H F2 H2 := by
  refine ⟨fun x o e => b.keep x o (a.keep x o e), fun x h => b.fro x (a.fro x h), fun x h => ?_, b.dom⟩
  rcases b.new x h with h | h
  · exact a.new x h
  · right
    cases e : H x with
    | none => rfl
    | some o => rw [a.keep x o e] at h; cases h
end
def siP (acc d : D) : Option D := match d, acc with
  | .int k, .lst ds => (match allOf D.int? ds with
    | some ns => if ns.length < 63 then some (.lst ((dadd ns k).map .int)) else none
    | none => none)
  | _, _ => none
section
variable {M : Md} {cs : Cs} {W : WX} {k : Nat} {X : Cx}
end
def siR (c : R D) (acc : D) : R D := c.bind fun d => ofO (siP acc d)
end VF
namespace VF
open PySem PySem.Spec PyProof.Rows L2
structure XfF (M : Md) (c f : Str) : Prop where
  ex : ∃ C, M.mg c = some (.ref C) ∧ ExcK M.K C ∧ PySem.W.findIn M.K (.ref C) f = some none
theorem xfF_of {M : Md} {c f : Str} (hm : M.mg c = some (.ref (He.ga M.K c))) (h : xfB c f M.K = true) : XfF M c f := by
  unfold xfB at h
  simp only [Bool.and_eq_true] at h
  exact ⟨_, hm, excK_of h.1, He.eqO_ok h.2⟩
section
variable {M : Md} {cs : Cs} {W : WX} {k : Nat} {X : Cx} {a dx C : Addr} {oe : Obj} {pn : List (Addr × Obj)} {i : Nat} {x : Ex}
theorem e_xfc (gx : GX M cs k X a dx C oe pn i x) {n f c : Str} {p pos : Pos} (hxc : x.cls = c) (q : XfF M c f) (hi : cs.N[i]? = some n) (hv : Vis cs.sc n) (hd : (n == ("__debug__" : Str)) = false) (hcd : (n == ("__classdict__" : Str)) = false)
    (hb : attributeBase (.Name n p) f X.env (eval (.Name n p) X.env) = eval (.Name n p) X.env) : PE (X.suite a ((a, oe) :: pn)) (.Attribute (.Name n p) f pos) (tE (M.on ⟨i, a, dx, x.fs, x.ds⟩) W (xfE x f)) := by
  subst hxc
  obtain ⟨C2, h6, T, hno⟩ := q.ex
  have e2 := gx.hC.symm.trans h6
  cases e2
  exact e_xf gx hi hv hd hcd T hno hb
end
theorem ev_xfE {ρ : En} {x : Ex} {f : Str} : EvP false (xfE x f) ρ (ofO (kget x.fs x.ds f)) := by
  cases e : kget x.fs x.ds f with
  | none => trivial
  | some d =>
    refine ⟨.val d, ?_, .inr ⟨rfl, rfl⟩⟩
    unfold xfE
    rw [e]
end VF
namespace VF
open PySem PySem.Spec PyProof.Rows L2
theorem rm_int (a : Int) (t : Tok) (l : Addr) (its : Array Value) (n : Nat) (dd : Option Addr) (sl : Array (Option Value)) :
    Meets (Builtin.«int.__rmul__» ⟨[.int a t, .ref l], []⟩) (fun _ R s => s.heap.get? l = some { cls := .type "list", dict := dd, data := .seq its n, slots := sl } ∧ R (.ok (.ret Value.notImplemented)) s) :=
  .of_wp fun prog w A R s h => by obtain ⟨hp, g, d, tk, os⟩ := s; obtain ⟨hl, h⟩ := h; wp_walk; exact ⟨_, rfl, h⟩
theorem lm_int (l : Addr) (its : Array Value) (n : Nat) (dd : Option Addr) (sl : Array (Option Value)) (k : Int) (t : Tok) (hc0 : ¬(!Builtin.List.listFitsIndex k) = true) (hc1 : ¬its.size * k.toNat > (2 ^ 63 - 1) / 8) (hc2 : ¬Builtin.List.listTooLong (its.size * k.toNat) = true) :
    Meets (Builtin.«list.__mul__» ⟨[.ref l, .int k t], []⟩) (fun _ R s => s.heap.get? l = some { cls := .type "list", dict := dd, data := .seq its n, slots := sl } ∧ R (.ok (.ret (Value.ref s.heap.objs.size))) { s with heap := s.heap.push { cls := Value.type "list", data := Data.seq (List.foldl (fun x1 x2 => x1 ++ x2) #[] (List.replicate (if its.isEmpty = true then 0 else k.toNat) its)) }, toks := s.toks }) :=
  .of_wp fun prog w A R s h => by
    obtain ⟨hp, g, d, tk, os⟩ := s; obtain ⟨hl, h⟩ := h
    have hsz := AutoListH.joined_fits hc2
    wp_walk; refine wpAny_ite_false (decide_eq_false (Nat.not_lt.mpr hsz)) ?_; wp_walk; exact ⟨_, rfl, h⟩
section
variable {X : Cx}
theorem op_repL : OpR X (binaryOp .Mult) (fun x y H Q => ∃ l k xs, x = V.ref l ∧ y = V.int k ∧ SqL X.K H l xs ∧ 0 ≤ k ∧ k ≤ 1000 ∧ xs.length ≤ 1000 ∧ ∀ p, H p = none → Q (.ref p) (upd H p (.lst (List.replicate k.toNat xs).flatten))) := by
  intro pins s σ H x y v u Q I rx ry h
  obtain ⟨a, k, xs, rfl, rfl, hs, h0, h1, hx, q⟩ := h
  obtain rfl : v = Value.ref a := rx
  obtain ⟨t, rfl⟩ := ry
  obtain ⟨its, rv, ⟨⟨cls, dd, data, sl⟩, n, ho, hc, hdn, hd⟩, hlen⟩ := I.list hs
  have hc1 : cls = Value.type "list" := hc
  have hd1 : data = Data.seq its.toArray n := hd
  subst hc1 hd1
  have hl : its.length = xs.length := rv.length.symm
  have hsl := sizeLine_eq
  have hm : its.toArray.size * k.toNat ≤ 1000 * 1000 := by
    rw [List.size_toArray, hl]
    exact Nat.mul_le_mul hx (by omega)
  have hfit : ¬ (!Builtin.List.listFitsIndex k) = true := by
    rw [fitsIndex_both (by omega) (by omega)]
    exact Bool.false_ne_true
  have hlong : ¬ Builtin.List.listTooLong (its.toArray.size * k.toNat) = true := by
    rw [notLongL (by omega)]
    exact Bool.false_ne_true
  have hnew : List.foldl (fun x1 x2 => x1 ++ x2) #[] (List.replicate (if its.toArray.isEmpty = true then 0 else k.toNat) its.toArray) = (List.replicate k.toNat its).flatten.toArray := by
    have f0 : ∀ m : Nat, List.foldl (fun x1 x2 => x1 ++ x2) #[] (List.replicate m its.toArray) = (List.replicate m its).flatten.toArray := fun m => by
      have z := foldl_rep its m []
      rw [List.nil_append] at z
      exact z
    rw [f0]
    cases its with
    | nil => simp
    | cons b r' => rw [if_neg (by simp)]
  refine wpAny_binaryOp_repeat_ref (T := "list") (U := "int") (by decide) ⟨_, ho, rfl⟩ (fun s' => typeIs_int s' k t) noFill_list_mul F.fills_int_mul F.slot_int_rmul repeat_list F.slot_int_index.lookup
    (call_meets F.slot_int_rmul (typeIs_int s k t) F.entry_int_rmul (F.args_int_rmul_2 _ _) (rm_int k t a its.toArray n dd sl)
      ⟨ho, rfl, ⟨_, ho, rfl⟩, call_meets F.slot_list_mul ⟨_, ho, rfl⟩ F.entry_list_mul (F.args_list_mul_2 _ _) (lm_int a its.toArray n dd sl k t hfit (by omega) hlong) ⟨ho, ?_⟩⟩)
  rw [hnew]
  have hz : (List.replicate k.toNat xs).flatten.length ≤ sizeLine := by
    rw [PyProof.Rows.lm_len_rep_flat, Nat.mul_comm]
    have := hm
    rw [List.size_toArray, hl] at this
    omega
  exact ⟨.ref s.heap.objs.size, upd H s.heap.objs.size (.lst (List.replicate k.toNat xs).flatten), I.laid (t' := s.toks) (fun b o e => Heap.get?_push_of_some _ e) (Nat.le_refl _) ⟨hz, _, 0, rv.rep k.toNat, Heap.get?_push_size _ rfl⟩, rfl, q _ (I.hok.fresh (Nat.le_refl _))⟩
end
def fMulL : List D → Option Rv
  | [.lst ds, .int k] => if 0 ≤ k ∧ k ≤ 1000 ∧ ds.length ≤ 1000 then some (.own (.lst (List.replicate k.toNat ds).flatten)) else none
  | _ => none
theorem o_mulL {M : Md} {X : Cx} (hK : X.K = M.K) : OpR X (binaryOp .Mult) (r2D M fMulL) := by
  refine OpR_imp op_repL fun x y H Q h => ?_
  obtain ⟨F, ds, rv, hd, od, ef, q⟩ := h
  unfold fMulL at ef
  split at ef
  · obtain ⟨v, w, e, r1, r2⟩ := od.two
    cases e
    cases r2.int
    obtain ⟨a, vs, rfl, p1, l1⟩ := r1.lst
    split at ef
    · rename_i hz
      cases ef
      exact ⟨a, _, vs, rfl, rfl, by rw [hK]; exact p1, hz.1, hz.2.1, by rw [← l1.length]; exact hz.2.2, fun p hp => q F _ _ (New.laid hd hp) (rv_list hd hp (repL_rep l1 _))⟩
    · cases ef
  · cases ef
end VF
namespace VF
open PySem PySem.Spec PyProof.Rows L2
section
variable {M : Md} {W : WX} {F : Addr → Prop} {H : Hp} {σ : St} {ρ : En}
end
section
variable {M : Md} {cs : Cs} {W : WX} {k : Nat} {X : Cx}
end
end VF
namespace VF
open PySem PySem.Spec PyProof.Rows L2
section
variable {prog : Program} {w : World} {A : Around} {E : Value → Shared → Prop} {s : Shared} {l : Addr}
end
def fSumT : List D → Option Rv
  | [.tup ds] => match allOf D.int? ds with
    | some ns => some (.val (.int ns.sum))
    | none => none
  | _ => none
end VF
namespace VF
open PySem PySem.Spec PyProof.Rows L2
structure Cla where
  c : Value
  i : Option Nat
  ts : Addr → Value → Option Addr → TS
inductive ClaOk (X : Cx) : Bool → List ExceptHandler → List Cla → Prop
  | nil : ClaOk X true [] []
  | stop {hs : List ExceptHandler} : ClaOk X false hs []
  | bare {x : Str} {q : Cla} {b : Stmt} {bs : List Stmt} {p1 p2 : Pos} {hs : List ExceptHandler} {l : List Cla} {f : Bool} (hq : q.i = none) (hc : Names X x q.c)
      (su : ∀ (a : Addr) (oe : Obj) (cls : Value) (d : Option Addr) (pn : List (Addr × Obj)), L2N.Zn cls d oe → (∃ vs, oe.data = .fields vs) → PSs (X.suite a ((a, oe) :: pn)) (b :: bs) (q.ts a cls d)) (r : ClaOk X f hs l) :
      ClaOk X f (.ExceptHandler (some (.Name x p1)) none (b :: bs) p2 :: hs) (q :: l)
  | named {x n : Str} {i : Nat} {q : Cla} {b : Stmt} {bs : List Stmt} {p1 p2 : Pos} {hs : List ExceptHandler} {l : List Cla} {f : Bool} (hq : q.i = some i) (hc : Names X x q.c) (hi : X.N[i]? = some n) (hn : X.env.kindOf n = some .local)
      (su : ∀ (a : Addr) (oe : Obj) (cls : Value) (d : Option Addr) (pn : List (Addr × Obj)), L2N.Zn cls d oe → (∃ vs, oe.data = .fields vs) → PSs (X.suite a ((a, oe) :: pn)) (b :: bs) (q.ts a cls d)) (r : ClaOk X f hs l) :
      ClaOk X f (.ExceptHandler (some (.Name x p1)) (some n) (b :: bs) p2 :: hs) (q :: l)
section
variable {X : Cx} {bd : List Stmt} {h0 : ExceptHandler} {hds : List ExceptHandler} {l : List Cla} {pos : Pos} {tb : WX → TS} {Wo : WX}
end
structure Hd where
  i : Option Nat
  tbl : Str → Option Bool
  su : Ex → SS
section
variable {M : Md} {F1 : Addr → Prop} {H1 : Hp} {σ1 : St} {ρ1 : En}
def TblOk (M : Md) (cv : Value) (tbl : Str → Option Bool) : Prop := ∀ e C r, M.mg e = some (.ref C) → tbl e = some r → PySem.W.exmOne M.K (.ref C) cv = some r
end
section
variable {M : Md} {cs : Cs} {W : WX} {k : Nat} {X : Cx}
inductive HdOk (M : Md) (cs : Cs) (k : Nat) (X : Cx) : Bool → List ExceptHandler → List (Value × Hd) → Prop
  | nil : HdOk M cs k X true [] []
  | stop {hs : List ExceptHandler} : HdOk M cs k X false hs []
  | bare {c : Str} {cv : Value} {tbl : Str → Option Bool} {su : Ex → SS} {b : Stmt} {bs : List Stmt} {p1 p2 : Pos} {hs : List ExceptHandler} {l : List (Value × Hd)} {f : Bool}
      (hg : cs.sc.names.lookup c = some .globalImplicit) (hdb : (c == ("__debug__" : Str)) = false) (hcv : M.mg c = some cv) (ht : TblOk M cv tbl)
      (hsu : ∀ (a : Addr) (oe : Obj) (pn : List (Addr × Obj)) (x : Ex), G0 M cs k (X.suite a ((a, oe) :: pn)) → PSs (X.suite a ((a, oe) :: pn)) (b :: bs) (tS M WF (su x))) (r : HdOk M cs k X f hs l) :
      HdOk M cs k X f (.ExceptHandler (some (.Name c p1)) none (b :: bs) p2 :: hs) ((cv, ⟨none, tbl, su⟩) :: l)
  | named {c n : Str} {i : Nat} {cv : Value} {tbl : Str → Option Bool} {su : Ex → SS} {b : Stmt} {bs : List Stmt} {p1 p2 : Pos} {hs : List ExceptHandler} {l : List (Value × Hd)} {f : Bool}
      (hi : cs.N[i]? = some n) (hln : cs.sc.names.lookup n = some .local) (hg : cs.sc.names.lookup c = some .globalImplicit) (hdb : (c == ("__debug__" : Str)) = false) (hcv : M.mg c = some cv) (ht : TblOk M cv tbl)
      (hsu : ∀ (a dx C : Addr) (oe : Obj) (pn : List (Addr × Obj)) (x : Ex), GX M cs k X a dx C oe pn i x → PSs (X.suite a ((a, oe) :: pn)) (b :: bs) (tS (M.on ⟨i, a, dx, x.fs, x.ds⟩) WF (su x))) (r : HdOk M cs k X f hs l) :
      HdOk M cs k X f (.ExceptHandler (some (.Name c p1)) (some n) (b :: bs) p2 :: hs) ((cv, ⟨some i, tbl, su⟩) :: l)
theorem HdOk.tbl {f : Bool} {hs : List ExceptHandler} {l : List (Value × Hd)} (h : HdOk M cs k X f hs l) : ∀ p ∈ l, TblOk M p.1 p.2.tbl := by
  induction h with
  | nil => exact fun p hp => by cases hp
  | stop => exact fun p hp => by cases hp
  | bare hg hdb hcv ht hsu r ih =>
    intro p hp
    rcases List.mem_cons.mp hp with rfl | hp
    · exact ht
    · exact ih p hp
  | named hi hln hg hdb hcv ht hsu r ih =>
    intro p hp
    rcases List.mem_cons.mp hp with rfl | hp
    · exact ht
    · exact ih p hp
end
end VF
namespace VF
open PySem PySem.Spec PyProof.Rows L2
def tblM (cl : Str) (no : List Str) : Str → Option Bool := fun s => if s = cl then some true else if s ∈ no then some false else none
def HdM (M : Md) (cs : Cs) (k : Nat) (X : Cx) (fin : Bool) (hs : List ExceptHandler) (L : List Hd) : Prop := ∃ l, HdOk M cs k X fin hs l ∧ l.map (·.2) = L
section
variable {M : Md} {cs : Cs} {W : WX} {k : Nat} {X : Cx} {fin : Bool} {hs : List ExceptHandler} {L : List Hd}
theorem HdM.nil : HdM M cs k X true [] [] := ⟨[], .nil, rfl⟩
theorem HdM.stop : HdM M cs k X false hs [] := ⟨[], .stop, rfl⟩
theorem tbl_of {c cl : Str} {no : List Str} {cv : Value} (hcv : M.mg c = some cv) (f : HdF M c cl true) (fn : ∀ n ∈ no, HdF M c n false) : TblOk M cv (tblM cl no) := fun e E' r hm ht => by
  unfold tblM at ht
  by_cases he : e = cl
  · rw [if_pos he] at ht
    cases ht
    subst he
    obtain ⟨C, E, h1, h2, h3⟩ := f.ex
    have z := hm.symm.trans h2
    cases z
    have z := hcv.symm.trans h1
    cases z
    exact h3
  · rw [if_neg he] at ht
    by_cases hn : e ∈ no
    · rw [if_pos hn] at ht
      cases ht
      obtain ⟨C, E, h1, h2, h3⟩ := (fn e hn).ex
      have z := hm.symm.trans h2
      cases z
      have z := hcv.symm.trans h1
      cases z
      exact h3
    · rw [if_neg hn] at ht
      cases ht
theorem HdM.named {c n cl : Str} {i : Nat} {no : List Str} {su : Ex → SS} {b : Stmt} {bs : List Stmt} {p1 p2 : Pos}
    (hi : cs.N[i]? = some n) (hln : cs.sc.names.lookup n = some .local) (hg : cs.sc.names.lookup c = some .globalImplicit) (hdb : (c == ("__debug__" : Str)) = false) (f : HdF M c cl true) (fn : ∀ n ∈ no, HdF M c n false)
    (hsu : ∀ (a dx C : Addr) (oe : Obj) (pn : List (Addr × Obj)) (x : Ex), GX M cs k X a dx C oe pn i x → x.cls = cl → PSs (X.suite a ((a, oe) :: pn)) (b :: bs) (tS (M.on ⟨i, a, dx, x.fs, x.ds⟩) WF (su x))) (r : HdM M cs k X fin hs L) :
    HdM M cs k X fin (.ExceptHandler (some (.Name c p1)) (some n) (b :: bs) p2 :: hs) (⟨some i, tblM cl no, suC cl su⟩ :: L) := by
  obtain ⟨l, h, e⟩ := r
  obtain ⟨C, E, h1, h2, h3⟩ := f.ex
  refine ⟨(.ref C, ⟨some i, tblM cl no, suC cl su⟩) :: l, .named hi hln hg hdb h1 (tbl_of h1 f fn) (fun a dx C' oe pn x gx => ?_) h, by rw [List.map_cons, e]⟩
  unfold suC
  by_cases hx : x.cls = cl
  · rw [if_pos hx]
    exact hsu a dx C' oe pn x gx hx
  · rw [if_neg hx]
    exact ss_bad
theorem HdM.bare {c cl : Str} {no : List Str} {su : Ex → SS} {b : Stmt} {bs : List Stmt} {p1 p2 : Pos}
    (hg : cs.sc.names.lookup c = some .globalImplicit) (hdb : (c == ("__debug__" : Str)) = false) (f : HdF M c cl true) (fn : ∀ n ∈ no, HdF M c n false)
    (hsu : ∀ (a : Addr) (oe : Obj) (pn : List (Addr × Obj)) (x : Ex), G0 M cs k (X.suite a ((a, oe) :: pn)) → x.cls = cl → PSs (X.suite a ((a, oe) :: pn)) (b :: bs) (tS M WF (su x))) (r : HdM M cs k X fin hs L) :
    HdM M cs k X fin (.ExceptHandler (some (.Name c p1)) none (b :: bs) p2 :: hs) (⟨none, tblM cl no, suC cl su⟩ :: L) := by
  obtain ⟨l, h, e⟩ := r
  obtain ⟨C, E, h1, h2, h3⟩ := f.ex
  refine ⟨(.ref C, ⟨none, tblM cl no, suC cl su⟩) :: l, .bare hg hdb h1 (tbl_of h1 f fn) (fun a oe pn x gx => ?_) h, by rw [List.map_cons, e]⟩
  unfold suC
  by_cases hx : x.cls = cl
  · rw [if_pos hx]
    exact hsu a oe pn x gx hx
  · rw [if_neg hx]
    exact ss_bad
end
section
variable {ρ : En} {o : Bool}
end
end VF
namespace VF
open PySem PySem.Spec PyProof.Rows L2
structure IsB (M : Md) (c : Str) (T : String) (b : Bool) : Prop where
  hc : M.mg c = some (.ref (He.ga M.K c))
  hk : PySem.W.kitOne M.K (.ref (He.ga M.K c)) (.type T) = some b
section
variable {M : Md} {cs : Cs} {W : WX} {k : Nat} {X : Cx} {a dx C : Addr} {oe : Obj} {pn : List (Addr × Obj)} {i : Nat} {x : Ex}
end
end VF
namespace VF
open PySem PySem.Spec PyProof.Rows L2
section
variable {M : Md} {X : Cx}
end
end VF
namespace VF
open PySem PySem.Spec PyProof.Rows L2
structure Apt (F : Addr → Prop) (H : Hp) (σ : St) (ρ : En) (a : Addr) (o : HO) : Prop where
  at_ : H a = some o
  nf : ¬ F a
  ap : ∀ j t, gt ρ j = some t → t.top = true → gv σ j ≠ some (.ref a)
section
variable {M : Md} {F F' : Addr → Prop} {H H' : Hp} {σ σ' : St} {ρ ρ' : En}
theorem Apt.own {a : Addr} {o : HO} (h : Apt F H σ ρ a o) : ¬ OwnAt σ ρ a := fun ⟨j, d, h1, h2⟩ => h.ap j _ h1 rfl h2
theorem Apt.ref {a : Addr} {o : HO} (h : Apt F H σ ρ a o) : ¬ RefAt σ ρ a := fun ⟨j, d, h1, h2⟩ => h.ap j _ h1 rfl h2
theorem Apt.step {a : Addr} {o : HO} (h : Apt F H σ ρ a o) (po : PoS M F H σ ρ F' H' σ' ρ') : Apt F' H' σ' ρ' a o := by
  refine ⟨(po.stp.keep a o h.at_ h.own h.ref).no h.nf, fun z => ?_, fun j t h1 h2 h3 => ?_⟩
  · rcases po.stp.new a z with q | q | q
    · exact h.nf q
    · rw [h.at_] at q; cases q
    · exact h.own q
  · cases t with
    | val d => cases h2
    | own d =>
      rcases po.stp.own a ⟨j, d, h1, h3⟩ with q | q
      · exact h.own q
      · rw [h.at_] at q; cases q
    | ref d => exact h.ref (po.stp.ref a ⟨j, d, h1, h3⟩)
    | rd d =>
      have q := (po.kp.2 j).2.2.2 d h1
      have e := ((po.kp.2 j).2.1 d q).2
      rw [e] at h3
      exact h.ap j _ q rfl h3
def Wait (M : Md) (F : Addr → Prop) (H : Hp) (σ : St) (ρ : En) : List D → List Addr → Prop
  | [], as => as = []
  | d :: ds, as => ∃ a r, as = a :: r ∧ (∃ o, Apt F H σ ρ a o) ∧ Cont M F H (fun u => H a = some u) d ∧ a ∉ r ∧ Wait M F H σ ρ ds r
theorem Wait.step (s : SR M F H σ ρ) (po : PoS M F H σ ρ F' H' σ' ρ') : ∀ {ds : List D} {as : List Addr}, Wait M F H σ ρ ds as → Wait M F' H' σ' ρ' ds as
  | [], _, h => h
  | d :: ds, _, ⟨a, r, e, ⟨o, ap⟩, c, n, w⟩ => ⟨a, r, e, ⟨o, ap.step po⟩, c.mono (s.ext po.stp) (fun u hu => by
    have z : H a = some u := hu
    rw [ap.at_] at z
    cases z
    exact (ap.step po).at_), n, w.step s po⟩
theorem Wait.len : ∀ {ds : List D} {as : List Addr}, Wait M F H σ ρ ds as → as.length = ds.length
  | [], _, h => by rw [show _ = [] from h]; rfl
  | d :: ds, _, ⟨a, r, e, _, _, _, w⟩ => by rw [e, List.length_cons, List.length_cons, w.len]
theorem Wait.there : ∀ {ds : List D} {as : List Addr}, Wait M F H σ ρ ds as → ∀ a ∈ as, H a ≠ none
  | [], _, h, a, ha => by rw [show _ = [] from h] at ha; cases ha
  | d :: ds, _, ⟨b, r, e, ⟨o, ap⟩, _, _, w⟩, a, ha => by
    subst e
    rcases List.mem_cons.mp ha with rfl | ha
    · rw [ap.at_]; exact fun z => by cases z
    · exact w.there a ha
theorem Wait.set {i : Nat} {b : Addr} {d0 : D} (hi : i < ρ.length) (hl : σ.length = ρ.length) : ∀ {ds : List D} {as : List Addr}, Wait M F H σ ρ ds as → b ∉ as → Wait M F H (σ.set i (some (.ref b))) (ρ.set i (some (.own d0))) ds as
  | [], _, h, _ => h
  | d :: ds, _, ⟨a, r, e, ⟨o, ap⟩, c, n, w⟩, hb => by
    subst e
    refine ⟨a, r, rfl, ⟨o, ap.at_, ap.nf, fun j t h1 h2 h3 => ?_⟩, c, n, w.set hi hl fun z => hb (List.mem_cons_of_mem _ z)⟩
    by_cases hj : i = j
    · subst hj
      rw [gv_set_self (by rw [hl]; exact hi)] at h3
      cases h3
      exact hb List.mem_cons_self
    · rw [gt_set_ne hj] at h1
      rw [gv_set_ne hj] at h3
      exact ap.ap j t h1 h2 h3
end
section
variable {M : Md} {W : WX}
end
section
variable {M : Md} {cs : Cs} {W : WX} {k : Nat} {X : Cx}
end
section
variable {ρ : En}
end
end VF
namespace VF
open PySem PySem.Spec PyProof.Rows L2
section
variable {X : Cx} {e : Expr} {te : TE} {p apos cpos pos : Pos}
end
section
variable {M : Md} {W : WX}
end
section
variable {M : Md} {cs : Cs} {W : WX} {k : Nat} {X : Cx}
end
end VF
namespace VF
open PySem PySem.Spec PyProof.Rows L2
def fLVals : List D → Option Rv
  | [d] => (dVals d).map fun ds => .own (.lst ds)
  | _ => none
section
variable {M : Md} {X : Cx} {ps1 : List (Addr × Obj)} {F : Addr → Prop} {σ : St} {H : Hp} {s : Shared}
end
section
variable {M : Md} {X : Cx} {e : Expr} {te : TE} {p apos cpos pos : Pos}
end
section
variable {M : Md} {cs : Cs} {W : WX} {k : Nat} {X : Cx}
end
end VF
namespace VF
open PySem PySem.Spec PyProof.Rows L2
open PySem.SeqAt (EqAt)
section
variable {prog : Program} {w : World} {A : Around} {E : Value → Shared → Prop} {s : Shared}
end
end VF
namespace VF
open PySem PySem.Spec PyProof.Rows L2
section
variable {M : Md} {X : Cx}
end
section
variable {M : Md} {cs : Cs} {W : WX} {k : Nat} {X : Cx}
end
end VF
namespace VF
open PySem PySem.Spec PyProof.Rows L2
def fMaxD (i : Int) : List D → Option Rv
  | [.lst ds] => match allOf D.int? ds with
    | some [] => some (.val (.int i))
    | some (n :: ns) => some (.val (.int (imax (n :: ns))))
    | none => none
  | _ => none
section
variable {prog : Program} {w : World} {A : Around} {E : Value → Shared → Prop} {s : Shared}
end
section
variable {M : Md} {X : Cx}
end
section
variable {M : Md} {cs : Cs} {W : WX} {k : Nat} {X : Cx}
end
def fMaxV : List D → Option Rv
  | [d] => match (dVals d).bind (allOf D.int?) with
    | some (n :: ns) => some (.val (.int (imax (n :: ns))))
    | _ => none
  | _ => none
section
variable {M : Md} {X : Cx} {e : Expr} {te : TE} {p apos cpos pos : Pos}
end
section
variable {M : Md} {cs : Cs} {W : WX} {k : Nat} {X : Cx}
end
end VF
namespace VF
open PySem PySem.Spec PyProof.Rows L2
section
variable {M : Md} {cs : Cs} {W : WX} {k : Nat} {X : Cx}
end
section
variable {M : Md} {cs : Cs} {W : WX} {k : Nat} {X : Cx}
end
section
variable {ρ : En} {T : Type} {env : T → En}
end
end VF
namespace VF
open PySem PySem.Spec PyProof.Rows L2
section
variable {X : Cx}
end
section
variable {M : Md} {X : Cx}
end
end VF
namespace VF
open PySem PySem.Spec PyProof.Rows L2
def btK : String → Option Bool := fun t => if t ∈ kinds7 then some false else none
def itK (S : Str) (l : List Str) : Str → Option Bool := fun c => if c ∈ l then some (c == S) else none
def fIso (S : Str) (l : List Str) : List D → Option Rv := fIsT btK (itK S l)
structure IsoF (M : Md) (S : Str) (l : List Str) : Prop where
  s : M.mg S = some (.ref (He.ga M.K S))
  c : ∀ c ∈ l, M.mg c = some (.ref (He.ga M.K c))
  b : isoB S l M.K = true
theorem isoF_of {M : Md} {S : Str} {l : List Str} (h1 : M.mg S = some (.ref (He.ga M.K S))) (h2 : ∀ c ∈ l, M.mg c = some (.ref (He.ga M.K c))) (h : isoB S l M.K = true) : IsoF M S l := ⟨h1, h2, h⟩
section
variable {M : Md} {cs : Cs} {W : WX} {k : Nat} {X : Cx}
theorem e_iso (g : G M cs W k X) {S : Str} {l : List Str} {p p2 pos : Pos} {e : Expr} {o : Opd} (f : IsoF M S l) (hg : cs.sc.names.lookup ("isinstance" : Str) = some .globalImplicit) (hm : M.mg "isinstance" = none) (hgS : cs.sc.names.lookup S = some .globalImplicit) (hd : (S == ("__debug__" : Str)) = false) (ho : PE X e (tO M W o))
    (he : starEach [e, .Name S p2] X.env = (false, eval e X.env) :: starEach [.Name S p2] X.env) : PE X (.Call (.Name "isinstance" p) [e, .Name S p2] [] pos) (tE M W (app (fIso S l) [o])) := by
  have hb := f.b
  unfold isoB at hb
  rw [Bool.and_eq_true, List.all_eq_true, List.all_eq_true] at hb
  refine e_isiC g.toG0 (cv := .ref (He.ga M.K S)) (u := .ref (He.ga M.K S)) hg hm (pe_glob (g.gl hgS) (by rw [g.hmg]; exact f.s) rfl hd) (.own _) (fun t b ht => ?_) (fun c C b hC hc => ?_) ho he
  · unfold btK at ht
    split at ht
    · rename_i hk
      cases ht
      exact of_decide_eq_true (hb.1 t hk)
    · cases ht
  · unfold itK at hc
    split at hc
    · rename_i hk
      cases hc
      have z := hb.2 c hk
      rw [Bool.and_eq_true] at z
      have e1 := hC.symm.trans (f.c c hk)
      cases e1
      exact ⟨insK_of z.1, of_decide_eq_true z.2⟩
    · cases hc
end
end VF
namespace VF
open PySem PySem.Spec PyProof.Rows L2
open PySem.SeqAt (EqAt RcAt RcNeAt)
section
variable {M : Md} {X : Cx}
end
end VF
namespace VF
open PySem PySem.Spec PyProof.Rows L2
structure IsjF (M : Md) (T : String) (l : List Str) : Prop where
  c : ∀ c ∈ l, M.mg c = some (.ref (He.ga M.K c))
  b : isjB T l M.K = true
section
variable {M : Md} {cs : Cs} {W : WX} {k : Nat} {X : Cx}
end
end VF
namespace VF
open PySem PySem.Spec PyProof.Rows L2
open PySem.SeqAt (EqAt RcAt RcNeAt)
section
variable {M : Md} {X : Cx}
end
end VF
namespace VF
end VF
namespace VF
open PySem PySem.Spec PyProof.Rows L2
section
variable {prog : Program} {w : World} {E : Value → Shared → Prop}
end
end VF
namespace VF
open PySem PySem.Spec PyProof.Rows L2
section
variable {M : Md} {cs : Cs} {W : WX} {k : Nat} {X : Cx}
end
section
variable {κ : Type} {K : Kn κ} {ρ : En}
end
end VF
namespace VF
open PySem PySem.Spec PyProof.Rows L2
structure CDict (K : PySem.W.Frag) (w : World) (d : Addr) (kvs : List (Str × D)) : Prop where
  tab : ∃ es n, KDict K w d es n ∧ es.toList.map He.keyOf = He.keysIn w.params (kvs.map (·.1))
  vals : ∀ q ∈ kvs, ∃ u, PySem.W.nsIn K d q.1 = some (some u) ∧ ∃ v, dvOf q.2 = some v ∧ RelV (v.v K) u
def lookC (kvs : List (Str × D)) (z : Str) : Option D := (kvs.find? fun q => q.1 == z).map (·.2)
theorem keyOf_some {e : DictEntry} {k : Str} {h : Int} (q : He.keyOf e = some (k, h)) : ∃ t, e.key = .str k t := by
  unfold He.keyOf at q
  split at q
  · rename_i x t e1
    have := Option.some.inj q
    obtain ⟨rfl, _⟩ := Prod.mk.inj this
    exact ⟨t, e1⟩
  · cases q
theorem CDict.look {K : PySem.W.Frag} {w : World} {d : Addr} {kvs : List (Str × D)} (c : CDict K w d kvs) (z : Str) : ∃ r, PySem.W.nsIn K d z = some r ∧ match lookC kvs z with
    | some v => ∃ u dv, r = some u ∧ dvOf v = some dv ∧ RelV (dv.v K) u
    | none => r = none := by
  obtain ⟨es, n, D, hk⟩ := c.tab
  cases e : lookC kvs z with
  | some v =>
    unfold lookC at e
    obtain ⟨q, hq, rfl⟩ := Option.map_eq_some_iff.mp e
    obtain ⟨u, h1, dv, h2, h3⟩ := c.vals q (List.mem_of_find?_eq_some hq)
    have hz : q.1 = z := by simpa using List.find?_some hq
    rw [hz] at h1
    exact ⟨_, h1, u, dv, rfl, h2, h3⟩
  | none =>
    refine ⟨none, ?_, rfl⟩
    have hn : ∀ q ∈ kvs, q.1 ≠ z := fun q hq => by
      unfold lookC at e
      rw [Option.map_eq_none_iff] at e
      have := List.find?_eq_none.mp e q hq
      simpa using this
    have hall : ∀ en ∈ es.toList, ∃ k t, en.key = .str k t ∧ k ≠ z := fun en hen => by
      have hm : He.keyOf en ∈ es.toList.map He.keyOf := List.mem_map.mpr ⟨en, hen, rfl⟩
      rw [hk] at hm
      unfold He.keysIn at hm
      obtain ⟨k, hk1, hk2⟩ := List.mem_map.mp hm
      obtain ⟨q, hq, rfl⟩ := List.mem_map.mp hk1
      obtain ⟨t, ht⟩ := keyOf_some hk2.symm
      exact ⟨_, t, ht, hn q hq⟩
    unfold PySem.W.nsIn
    rw [D.at_]
    dsimp only
    have h1 : es.toList.find? (·.key.isStr z) = none := List.find?_eq_none.mpr fun en hen => by
      obtain ⟨k, t, e1, e2⟩ := hall en hen
      rw [e1]
      simpa [Value.isStr] using e2
    have h2 : es.toList.any (·.refKey) = false := List.any_eq_false.mpr fun en hen => by
      obtain ⟨k, t, e1, e2⟩ := hall en hen
      unfold DictEntry.refKey
      rw [e1]
      simp
    rw [h1, h2]
    rfl
section
variable {X : Cx} {C : Str} {d : Addr} {kvs : List (Str × D)} {e f : Expr} {p apos cpos : Pos} {ty : TE} {w' : V}
end
structure CDF (M : Md) (w : World) (C : Str) (kvs : List (Str × D)) : Prop where
  c : M.mg C = some (.ref (He.ga M.K C))
  t : CDict M.K w (He.ga M.K C) kvs
section
variable {M : Md} {cs : Cs} {W : WX} {k : Nat} {X : Cx}
end
theorem SaysU.tab {fa : List He.Fa} {fb : List (PySem.W.Frag → Bool)} {fn : List He.DefD} {ts : List Tb} {w : World} {K : PySem.W.Frag} (c : SaysU fa fb fn ts w K) (i : Nat) {t : Tb} (h : ts[i]? = some t) {kvs : List (Str × D)} (hk : kvs.map (·.1) = keyCs t.2) (hv : ∀ q ∈ kvs, ∃ v, dvOf q.2 = some v ∧ (q.1, v) ∈ t.2) : CDict K w (He.ga K t.1) kvs := by
  have e2 : (ts.map fun t => (He.dicW K (He.ga K t.1), He.valsB K (He.ga K t.1) t.2))[i]? = (ts.map fun t => (some (He.keysIn w.params (keyCs t.2)), true))[i]? := by rw [c.2]
  rw [List.getElem?_map, List.getElem?_map, h] at e2
  have e3 := Option.some.inj e2
  have h1 : He.dicW K (He.ga K t.1) = some (He.keysIn w.params (keyCs t.2)) := congrArg Prod.fst e3
  have h2 : He.valsB K (He.ga K t.1) t.2 = true := congrArg Prod.snd e3
  obtain ⟨es, n, D⟩ := He.dicW_ok h1
  refine ⟨⟨es, n, D, ?_⟩, fun q hq => ?_⟩
  · unfold He.dicW at h1
    rw [D.at_] at h1
    dsimp only at h1
    rw [hk]
    split at h1
    · exact Option.some.inj h1
    · cases h1
  · obtain ⟨v, e4, e5⟩ := hv q hq
    obtain ⟨u, e6, e7⟩ := He.valsB_ok h2 e5
    exact ⟨u, e6, v, e4, e7⟩
end VF
namespace VF
open PySem PySem.Spec PyProof.Rows L2
section
variable {κ : Type} {K : Kn κ} {ρ : En}
end
end VF
namespace VF
open PySem PySem.Spec PyProof.Rows L2
theorem CDict.has {K : PySem.W.Frag} {w : World} {d : Addr} {kvs : List (Str × D)} (c : CDict K w d kvs) (z : Str) : ∃ r, PySem.W.nsIn K d z = some r ∧ r.isSome = (lookC kvs z).isSome := by
  obtain ⟨r, h1, h2⟩ := c.look z
  refine ⟨r, h1, ?_⟩
  cases e : lookC kvs z with
  | none =>
    rw [e] at h2
    rw [show r = none from h2]
    rfl
  | some v =>
    rw [e] at h2
    obtain ⟨u, dv, rfl, _, _⟩ := h2
    rfl
section
variable {M : Md} {cs : Cs} {W : WX} {k : Nat} {X : Cx}
end
section
variable {M : Md} {cs : Cs} {W : WX} {k : Nat} {X : Cx}
end
end VF
namespace VF
open PySem PySem.Spec PyProof.Rows L2
section
variable {M : Md} {cs : Cs} {W : WX} {k : Nat} {X : Cx}
end
end VF
namespace VF
open PySem PySem.Spec PyProof.Rows L2
section
variable {κ : Type} {K : Kn κ} {ρ : En}
end
end VF
namespace VF
open PySem PySem.Spec PyProof.Rows L2
section
variable {prog : Program} {w : World} {A : Around} {E : Value → Shared → Prop} {s : Shared} {z TI TO S T i1 i2 : Addr} {fp1 fp2 : List Addr} {n1 n2 i : Nat} {P1 P2 : Nat → Value → Prop} {St1 St2 : Nat → Heap → Prop} {f : Bool} {oT : Obj}
def ZlSt (St1 St2 : Nat → Heap → Prop) (z TI TO S i1 i2 : Addr) (i : Nat) (h : Heap) : Prop := IsTupOf2 h TI (.ref i1) (.ref i2) ∧ St1 i h ∧ St2 i h ∧
  ((IsZip h z TI TO .none ∧ ∃ a1 a2, IsTupOf2 h TO a1 a2) ∨ ∃ T f oT, IsZipHeld h z TI TO T f ∧ h.get? T = some oT ∧ T ≠ z ∧ T ≠ i1 ∧ T ≠ i2 ∧ T ≠ S)
end
section
variable {prog : Program} {w : World} {A : Around} {E : Value → Shared → Prop} {s : Shared} {z TI TO S i1 i2 : Addr} {fp1 fp2 : List Addr} {n1 n2 : Nat} {P1 P2 : Nat → Value → Prop} {St1 St2 : Nat → Heap → Prop} {es : Array DictEntry}
structure ZlIn (prog : Program) (w : World) (A : Around) (z TI TO S i1 i2 : Addr) (fp1 fp2 : List Addr) (n1 n2 : Nat) (P1 P2 : Nat → Value → Prop) (St1 St2 : Nat → Heap → Prop) (es : Array DictEntry) : Prop where
  sep : ZipSep2 z TI TO i1 i2 fp1 fp2
  d1 : Draws prog w A i1 fp1 n1 P1 St1
  d2 : Draws prog w A i2 fp2 n2 P2 St2
  le1 : es.size ≤ n1
  le2 : es.size ≤ n2
  fin : es.size = n1 ∨ es.size = n2
  are : ∀ j x y, P1 j x → P2 j y → ∃ hj : j < es.size, es[j].key = x ∧ es[j].val = y
  small : es.size ≤ sizeLine
  zS : z < S
  ts : TI < S
  oS : TO < S
  f1 : ∀ b ∈ fp1, b < S
  f2 : ∀ b ∈ fp2, b < S
theorem ZlIn.s1 (Z : ZlIn prog w A z TI TO S i1 i2 fp1 fp2 n1 n2 P1 P2 St1 St2 es) : i1 < S := Z.f1 _ Z.sep.mem1
theorem ZlIn.s2 (Z : ZlIn prog w A z TI TO S i1 i2 fp1 fp2 n1 n2 P1 P2 St1 St2 es) : i2 < S := Z.f2 _ Z.sep.mem2
theorem ZlSt.keep {h h' : Heap} {i : Nat} (Z : ZlIn prog w A z TI TO S i1 i2 fp1 fp2 n1 n2 P1 P2 St1 St2 es) (st : ZlSt St1 St2 z TI TO S i1 i2 i h) (up : ∀ b o, b ≠ S → h.get? b = some o → h'.get? b = some o) : ZlSt St1 St2 z TI TO S i1 i2 i h' := by
  obtain ⟨tt, q1, q2, zz⟩ := st
  refine ⟨up _ _ (Nat.ne_of_lt Z.ts) tt, Z.d1.frame _ _ _ q1 fun b hb o e => up b o (Nat.ne_of_lt (Z.f1 b hb)) e, Z.d2.frame _ _ _ q2 fun b hb o e => up b o (Nat.ne_of_lt (Z.f2 b hb)) e, ?_⟩
  rcases zz with ⟨zz, a1, a2, to⟩ | ⟨T, f, oT, zz, hT, t1, t2, t3, t4⟩
  · exact .inl ⟨up _ _ (Nat.ne_of_lt Z.zS) zz, a1, a2, up _ _ (Nat.ne_of_lt Z.oS) to⟩
  · exact .inr ⟨T, f, oT, up _ _ (Nat.ne_of_lt Z.zS) zz, up _ _ t4 hT, t1, t2, t3, t4⟩
end
end VF
namespace VF
open PySem PySem.Spec PyProof.Rows L2
section
variable {X : Cx}
structure ZSrc (P : Program) (w : World) (h : Heap) (a : Addr) (its : List Value) : Prop where
  lt : a < h.objs.size
  go : ∃ (o : Obj) (Hc : Heap → Prop), Begins (.ref a) o Hc ∧ Hc h ∧ ∀ it, a ≠ it → ∃ St : Nat → Heap → Prop, (∀ A : Around, A.handled = none → Draws P w A it [it, a] its.length (fun i v => its[i]? = some v) St) ∧ ∀ h2, Hc h2 → h2.get? it = some o → St 0 h2
variable {e1 e2 : Expr} {ta : TA} {p p2 q pos : Pos}
end
section
variable {M : Md} {cs : Cs} {W : WX} {k : Nat} {X : Cx}
end
end VF
namespace VF
open PySem PySem.Spec PyProof.Rows L2
end VF
namespace VF
open PySem PySem.Spec PyProof.Rows L2
section
variable {X : Cx}
end
section
variable {M : Md} {cs : Cs} {W : WX} {k : Nat} {X : Cx}
end
end VF
namespace VF
open PySem PySem.Spec PyProof.Rows L2
structure BDict (K : PySem.W.Frag) (w : World) (d : Addr) (kvs : List (Str × He.Dv)) : Prop where
  tab : ∃ es n, KDict K w d es n
  vals : ∀ q ∈ kvs, ∃ u, PySem.W.nsIn K d q.1 = some (some u) ∧ RelV (q.2.v K) u
structure BDF (M : Md) (w : World) (C : Str) (kvs : List (Str × He.Dv)) : Prop where
  c : M.mg C = some (.ref (He.ga M.K C))
  t : BDict M.K w (He.ga M.K C) kvs
  gl : ∀ q ∈ kvs, ∀ x, q.2 = .glo x → M.mg x = some (.ref (He.ga M.K x))
section
variable {M : Md} {F : Addr → Prop} {H : Hp} {σ : St} {ρ : En}
end
section
variable {M : Md} {W : WX} {F : Addr → Prop} {H : Hp} {σ : St}
end
section
variable {M : Md} {cs : Cs} {W : WX} {k : Nat} {X : Cx}
end
end VF
namespace VF
open PySem PySem.Spec PyProof.Rows L2
section
variable {M : Md} {cs : Cs} {W : WX} {k : Nat} {X : Cx}
end
end VF
namespace VF
open PySem PySem.Spec PyProof.Rows L2
section
variable {M : Md} {F : Addr → Prop} {H : Hp} {X : Cx} {pins : List (Addr × Obj)} {σ : St} {s : Shared}
end
end VF
namespace VF
open PySem PySem.Spec PyProof.Rows L2
section
variable {M : Md} {X : Cx}
end
end VF
namespace VF
open PySem PySem.Spec PyProof.Rows L2
section
variable {X : Cx}
end
section
variable {M : Md} {X : Cx}
end
end VF
namespace VF
open PySem PySem.Spec PyProof.Rows L2 PySem.SeqAt
section
variable {M : Md} {X : Cx} {F : Addr → Prop} {H : Hp} {σ : St} {s : Shared} {pins : List (Addr × Obj)} {A : Around}
end
end VF
namespace VF
open PySem PySem.Spec PyProof.Rows L2
section
variable {M : Md} {X : Cx}
end
end VF
namespace VF
open PySem PySem.Spec PyProof.Rows L2
abbrev kHash (P : Program) (w : World) (kk : List Key) : Int := tupleKeyHash (mixKind P w) kk
abbrev IsKT (P : Program) (w : World) (h : Heap) (kk : List Key) (aa : Addr) : Prop := IsTupleKey (mixKind P w) h kk aa
section
variable {P : Program} {w : World} {A : Around} {E : Value → Shared → Prop} {s : Shared}
variable {aa : Addr} {LL : List (Addr × List Key)} {ez : Array (Int × Value)} {eq0 : Nat} {tt : SetTable}
def rowsK (P : Program) (w : World) (LL : List (Addr × List Key)) : List (Int × Value) := LL.map fun pp => (kHash P w pp.2, Value.ref pp.1)
structure SetKR (P : Program) (w : World) (h : Heap) (aa : Addr) (LL : List (Addr × List Key)) (ez : Array (Int × Value)) (eq0 : Nat) (tt : SetTable) : Prop where
  ob : ∃ oo, h.get? aa = some oo ∧ oo.ExactSet ∧ oo.data = .set ez eq0 tt
  rows : ez.toList = rowsK P w LL
  tab : L2.TabOk tt (LL.map fun pp => kHash P w pp.2)
  nd : (LL.map (·.2)).Nodup
  tup : ∀ pp ∈ LL, IsKT P w h pp.2 pp.1
  led : w.params.followText "set-order" = true ∨ tt.led = true
  room : LL.length * 5 < tt.mask * 3
  few : LL.length < 64
theorem SetKR.size (RR : SetKR P w s.heap aa LL ez eq0 tt) : ez.size = LL.length := by
  have h := congrArg List.length RR.rows
  unfold rowsK at h
  rw [Array.length_toList, List.length_map] at h
  exact h
theorem SetKR.entry (RR : SetKR P w s.heap aa LL ez eq0 tt) {ii : Nat} {pp : Addr × List Key} (h : LL[ii]? = some pp) : ez[ii]? = some (kHash P w pp.2, Value.ref pp.1) := by
  rw [← Array.getElem?_toList, RR.rows]
  unfold rowsK
  rw [List.getElem?_map, h] <;> rfl
structure GotK (kks : List (Addr × List Key)) (ii : Nat) (LL : List (Addr × List Key)) : Prop where
  sub : ∀ pp ∈ LL, pp ∈ kks.take ii
  all : ∀ pp ∈ kks.take ii, pp.2 ∈ LL.map (·.2)
  len : LL.length ≤ ii
theorem GotK.zero (kks : List (Addr × List Key)) : GotK kks 0 [] := ⟨fun pp h => (by cases h), fun pp h => (by simp at h), Nat.le_refl _⟩
theorem GotK.same {kks LL : List (Addr × List Key)} {ii : Nat} {xx : Addr × List Key} (gg : GotK kks ii LL) (h : kks[ii]? = some xx) (gm : xx.2 ∈ LL.map (·.2)) : GotK kks (ii + 1) LL := by
  refine ⟨fun pp gp => ?_, fun pp gp => ?_, Nat.le_succ_of_le gg.len⟩
  · rw [take_next h]
    exact List.mem_append_left _ (gg.sub pp gp)
  · rw [take_next h] at gp
    rcases List.mem_append.mp gp with z | z
    · exact gg.all pp z
    · rw [List.mem_singleton.mp z]; exact gm
theorem GotK.more {kks LL LL9 : List (Addr × List Key)} {ii : Nat} {xx : Addr × List Key} (gg : GotK kks ii LL) (h : kks[ii]? = some xx) (prm : LL9.Perm (xx :: LL)) : GotK kks (ii + 1) LL9 := by
  refine ⟨fun pp gp => ?_, fun pp gp => ?_, ?_⟩
  · rw [take_next h]
    rcases List.mem_cons.mp (prm.mem_iff.mp gp) with ee | z
    · rw [ee]; exact List.mem_append_right _ (List.mem_singleton.mpr rfl)
    · exact List.mem_append_left _ (gg.sub pp z)
  · rw [(prm.map (·.2)).mem_iff, List.map_cons]
    rw [take_next h] at gp
    rcases List.mem_append.mp gp with z | z
    · exact List.mem_cons_of_mem _ (gg.all pp z)
    · rw [List.mem_singleton.mp z]; exact List.mem_cons_self
  · rw [prm.length_eq, List.length_cons]
    exact Nat.succ_le_succ gg.len
theorem SetKR.keep {h h9 : Heap} {aa : Addr} {LL : List (Addr × List Key)} {ez : Array (Int × Value)} {eq0 : Nat} {tt : SetTable} (RR : SetKR P w h aa LL ez eq0 tt) (ha : ∀ oo, h.get? aa = some oo → h9.get? aa = some oo) (ht : ∀ pp ∈ LL, IsKT P w h9 pp.2 pp.1) : SetKR P w h9 aa LL ez eq0 tt := by
  obtain ⟨oo, go0, r⟩ := RR.ob
  exact ⟨⟨oo, ha oo go0, r⟩, RR.rows, RR.tab, RR.nd, ht, RR.led, RR.room, RR.few⟩
structure SetK0 (P : Program) (w : World) (h : Heap) (aa : Addr) (LL : List (Addr × List Key)) : Prop where
  ex : ∃ (ez : Array (Int × Value)) (eq0 : Nat) (tt : SetTable), (∃ oo, h.get? aa = some oo ∧ oo.ExactSet ∧ oo.data = .set ez eq0 tt) ∧ ez.toList = rowsK P w LL ∧ L2.TabOk tt (LL.map fun pp => kHash P w pp.2) ∧ (LL.map (·.2)).Nodup ∧
    (w.params.followText "set-order" = true ∨ tt.led = true) ∧ LL.length * 5 < tt.mask * 3 ∧ LL.length < 64
theorem SetKR.t0 {P : Program} {w : World} {h : Heap} {aa : Addr} {LL : List (Addr × List Key)} {ez : Array (Int × Value)} {eq0 : Nat} {tt : SetTable} (RR : SetKR P w h aa LL ez eq0 tt) : SetK0 P w h aa LL :=
  ⟨ez, eq0, tt, RR.ob, RR.rows, RR.tab, RR.nd, RR.led, RR.room, RR.few⟩
end
end VF
namespace VF
open PySem PySem.Spec PyProof.Rows L2 PyProof.Rows.G
section
variable {M : Md} {X : Cx} {pins : List (Addr × Obj)} {F : Addr → Prop} {σ : St} {H : Hp} {s : Shared}
end
section
variable {M : Md} {X : Cx}
end
section
variable {M : Md} {cs : Cs} {W : WX} {k : Nat} {X : Cx}
end
end VF
namespace VF
open PySem PySem.Spec PyProof.Rows L2
structure FnOkG (P : Program) (w : World) (K : PySem.W.Frag) (mg : Str → Option Value) (base : Heap) (C : CXT) (k : Nat) (f : Addr) (fd : FuncData) (ps : List Str) (sp : Sp) : Prop where
  len : ∀ vs H Q E, sp vs H Q E → vs.length = ps.length
  run : ∀ (A : Around) (outer : List Env) (s : Shared) (H : Hp) (args : Args) (us : List Value) (vs : List V) (Q : VK) (E : XK), Room k A → A.guards = some [] → Env0 P w K mg base A outer s H → BindsTo s fd args (ps.zip us) → Vals vs us → sp vs H Q E →
    codeAny (model P w) A (.call (.ref f) args) (CR C outer P w H s Q E) s
structure FnVG (M : Md) (k : Nat) (x : Str) (np : Nat) (φ : FSem) : Prop where
  ex : ∃ f fd ps, FnOkG M.P M.w M.K M.mg M.base (L2N.CX M.P M.w) k f fd ps (spF M np φ) ∧ M.mg x = some (.ref f) ∧ PySem.W.keepIn M.K (.ref f) = true ∧ ps.length = np ∧ Binds M.K fd ps []
theorem FnOkG.up {P : Program} {w : World} {K : PySem.W.Frag} {mg : Str → Option Value} {base : Heap} {C : CXT} {j k : Nat} {f : Addr} {fd : FuncData} {ps : List Str} {sp : Sp} (F : FnOkG P w K mg base C j f fd ps sp) (h : j ≤ k) : FnOkG P w K mg base C k f fd ps sp :=
  ⟨F.len, fun A outer s H args us vs Q E hr => F.run A outer s H args us vs Q E (hr.mono h)⟩
section
variable {M : Md} {cs : Cs} {W : WX} {k : Nat} {X : Cx}
end
end VF
namespace L2
open PySem PySem.Spec PyProof.Rows
section
variable {prog : Program} {w : World} {A : Around} {R : Result → Shared → Prop} {s : Shared} {elt t0 i0 t1 i1 t2 i2 : Expr} {ifs0 ifs1 ifs2 : List Expr} {scope : Scope} {pos : Pos} {it acc : Value} {env : Env}
end
section
variable {X : Cx}
end
end L2
namespace VF
open PySem PySem.Spec PyProof.Rows L2
section
variable {M : Md} {cs : Cs} {W : WX} {k : Nat} {X : Cx}
structure Lc3Ok (M : Md) (cs : Cs) (k : Nat) (scope : Scope) (tg elt : Expr) (ifs : List Expr) (tg1 iter1 : Expr) (ifs1 : List Expr) (tg2 iter2 : Expr) (ifs2 : List Expr) (T : Tg) (t : BS) (src1 : Src) (T1 : Tg) (t1 : BS) (src2 : Src) (T2 : Tg) (t2 : BS) (φ : ES) : Prop where
  hg : ∀ X, G M (cs.blk scope) WF k X → PG X tg (gT X.K T)
  ht : ∀ X, G M (cs.blk scope) WF k X → PTs X ifs (tT M WF t)
  hi1 : ∀ X, G M (cs.blk scope) WF k X → PI X tg1 iter1 (tI M WF src1)
  hg1 : ∀ X, G M (cs.blk scope) WF k X → PG X tg1 (gT X.K T1)
  ht1 : ∀ X, G M (cs.blk scope) WF k X → PTs X ifs1 (tT M WF t1)
  hi2 : ∀ X, G M (cs.blk scope) WF k X → PI X tg2 iter2 (tI M WF src2)
  hg2 : ∀ X, G M (cs.blk scope) WF k X → PG X tg2 (gT X.K T2)
  ht2 : ∀ X, G M (cs.blk scope) WF k X → PTs X ifs2 (tT M WF t2)
  he : ∀ X, G M (cs.blk scope) WF k X → PE X elt (tE M WF φ)
end
end VF
namespace VF
open PySem PySem.Spec PyProof.Rows L2
section
variable {M : Md} {X : Cx} {cs : Cs} {W : WX} {k : Nat}
end
end VF
namespace L2H
open PySem PySem.Spec PyProof.Rows L2 HotX
section
variable {prog : Program} {w : World} {A : Around} {E : Value → Shared → Prop} {s : Shared}
theorem _root_.HotX.HotAt.up {A : Around} {x1 : Addr} {h h' : Heap} (hot : HotAt A x1 h) (k : ∀ o, h.get? x1 = some o → h'.get? x1 = some o) : HotAt A x1 h' := by
  obtain ⟨hh, o1, vs1, h1, d1, c1⟩ := hot
  exact ⟨hh, o1, vs1, k _ h1, d1, c1⟩
theorem _root_.HotX.HotAt.lt {A : Around} {x1 : Addr} {h : Heap} (hot : HotAt A x1 h) : x1 < h.objs.size := by
  obtain ⟨hh, o1, vs1, h1, d1, c1⟩ := hot
  exact Heap.lt_size h1
end
structure TurnP (P : Program) (w : World) (K : PySem.W.Frag) (tg : Expr) (J : It) (fp : List Addr) (it : Addr) (tn : Nat → Heap → Prop) : Prop where
  mem : it ∈ fp
  obj : ∀ i h, tn i h → ∀ b ∈ fp, ∃ o, h.get? b = some o ∧ ∀ v, o.data ≠ .cell v
  keep : ∀ i h h', tn i h → (∀ b ∈ fp, ∀ o, h.get? b = some o → h'.get? b = some o) → tn i h'
  item : ∀ (X : Cx), X.prog = P → X.w = w → X.K = K → ∀ (pins : List (Addr × Obj)), (∃ p, Hot1 X.A p ∧ p ∈ X.pn ++ pins) → ∀ (i : Nat) (s : Shared) (σ : L2.St) (H : Hp) (E : Value → Shared → Prop), Inv X pins σ H s → (∀ b ∈ fp, FpOk X pins H b) → tn i s.heap → J.go i H →
    wpAny (model P w) X.A (pyNext (.ref it)) (fun r s1 => ∃ u, r = some u ∧
      wpAny (model P w) X.A (letOwnedTupleGo tg (.ref it) u) (fun _ s2 => ∃ x H', Inv X pins σ H' s2 ∧ RelV x u ∧ J.yld i H x H' ∧ tn (i + 1) s2.heap ∧ ∀ b ∈ fp, H' b = none) E s1) E s
  done : ∀ (X : Cx), X.prog = P → X.w = w → X.K = K → ∀ (pins : List (Addr × Obj)), (∃ p, Hot1 X.A p ∧ p ∈ X.pn ++ pins) → ∀ (i : Nat) (s : Shared) (σ : L2.St) (H : Hp) (E : Value → Shared → Prop), Inv X pins σ H s → (∀ b ∈ fp, FpOk X pins H b) → tn i s.heap → J.stop i H →
    wpAny (model P w) X.A (pyNext (.ref it)) (fun r s1 => r = none ∧ Inv X pins σ H s1) E s
  self : ∀ (A : Around) (i : Nat) (s : Shared) (Q : Value → Shared → Prop) (E : Value → Shared → Prop), tn i s.heap → Q (.ref it) s → wpAny (model P w) A (pyIter (.ref it)) Q E s
structure PIP (X : Cx) (tg iter : Expr) (wi : TI) : Prop where
  run : ∀ (pins : List (Addr × Obj)) (s : Shared) (σ : L2.St) (H : Hp) (R : It → Hp → Prop), Inv X pins σ H s → wi σ H R →
    wpAny (model X.prog X.w) X.A (eval iter X.env) (fun v s1 => wpAny (model X.prog X.w) X.A (pyIter v) (fun itv s2 =>
      ∃ (it : Addr) (fp : List Addr) (tn : Nat → Heap → Prop) (J : It) (H' : Hp), itv = .ref it ∧ Inv X pins σ H' s2 ∧ TurnP X.prog X.w X.K tg J fp it tn ∧ tn 0 s2.heap ∧ (∀ b ∈ fp, FpOk X pins H' b) ∧ R J H') X.xe s1) X.xe s
structure PGP (X : Cx) (target : Expr) (t : TG) : Prop where
  run : ∀ (pins : List (Addr × Obj)), (∃ p, Hot1 X.A p ∧ p ∈ X.pn ++ pins) → ∀ (s : Shared) (σ : L2.St) (H : Hp) (v : V) (u : Value) (Q : L2.St → Hp → Prop), Inv X pins σ H s → RelV v u → t v σ H Q →
    wpAny (model X.prog X.w) X.A (assign target X.env u) (fun _ s' => ∃ σ' H', Inv X pins σ' H' s' ∧ Q σ' H') X.xe s
section
variable {X : Cx}
end
end L2H
namespace VF
open PySem PySem.Spec PyProof.Rows L2 HotX
section
variable {M : Md} {F F' : Addr → Prop} {H H' : Hp} {σ : St} {ρ ρ' : En} {cs : Cs} {k : Nat} {X : Cx}
theorem GX.hot {a dx C : Addr} {oe : Obj} {pn : List (Addr × Obj)} {i : Nat} {x : Ex} (gx : GX M cs k X a dx C oe pn i x) : L2H.HotC (X.suite a ((a, oe) :: pn)) := by
  obtain ⟨vs, hd⟩ := gx.hf
  exact ⟨(a, oe), ⟨rfl, vs, hd, gx.hz.2.2 vs hd⟩, List.mem_cons_self⟩
theorem G0.off {t : Xn} (g : G0 (M.on t) cs k X) : G0 M cs k X := ⟨g.hP, g.hw, g.hb, g.hK, g.hmg, g.hN, g.nd, g.hsc, g.hfn, g.un⟩
theorem G0.blk (g : G0 M cs k X) (s : Shared) (H : Hp) (scope : Scope) (cl : List (Str × Addr)) (C : Addr) (fp : List Addr) : G0 M (cs.blk scope) k (X.blk s H scope (compEnvC scope cl C X.env) fp) :=
  ⟨g.hP, g.hw, g.hb, g.hK, g.hmg, g.hN, g.nd, by show relS scope X.env.scope = relS scope cs.sc; rw [g.hsc], rfl, g.un⟩
theorem Po.on {t : Xn} (s : SR (M.on t) F H σ ρ) (p : Po M F H σ ρ F' H' ρ') : Po (M.on t) F H σ ρ F' H' ρ' :=
  ⟨p.stp, p.sr.same (same_on M t) (s.xn.extT (s.ext p.stp) p.sr.xn.2), p.kp⟩
theorem RvR.same {M N : Md} {F : Addr → Prop} {H0 H : Hp} {r : Rv} {v : V} (e : Same M N) (h : RvR M H0 F H r v) : RvR N H0 F H r v := by
  cases r with
  | val d => exact Rep.same e d h
  | own d =>
    obtain ⟨a, q, nf, z, c⟩ := h
    exact ⟨a, q, nf, z, c.same e⟩
theorem ExR.same {M N : Md} {F : Addr → Prop} {H : Hp} {x : Ex} {cls : Value} {d : Option Addr} (e : Same M N) (h : ExR M F H x cls d) : ExR N F H x cls d := by
  obtain ⟨C, dx, vs, hC, h1, h2, hF, hH, hk, l⟩ := h
  exact ⟨C, dx, vs, by rw [← e.g]; exact hC, h1, h2, hF, hH, hk, RepL.same e _ l⟩
end
end VF
namespace VF
open PySem PySem.Spec PyProof.Rows L2
def TAskS (M : Md) (tbl : Str → Option Bool) (hnd : Ex → Option D) (tl : XK → Hp → VK → Prop) (H : Hp) (Q : VK) : Prop :=
  tl (fun cls e H' => ∃ x F' d, (∀ a, F' a → H' a ≠ none) ∧ TabOk M F' H' ∧ ExR M F' H' x cls e ∧ tbl x.cls = some true ∧ hnd x = some d ∧ Gets M F' H' d Q) H fun _ _ => False
structure AskS (M : Md) (k : Nat) (x : Str) (tbl : Str → Option Bool) (hnd : Ex → Option D) : Prop where
  ex : ∃ (g : Addr) (a : Str) (Ng : List Str) (sg : Scope) (bg : List Stmt) (pg : Arguments) (dV kV doc pm cdv ct oc : Value) (an od : Option Addr) (osl : Array (Option Value)),
    M.mg x = some (.ref g) ∧ PySem.W.keepIn M.K (.ref g) = true ∧ M.K.lookup g = some ⟨oc, od, .func (PySem.W.fnOf x x pg bg sg dV kV doc pm an cdv ct), osl⟩ ∧ PySem.W.codeIn M.K cdv x = true ∧ Binds M.K (PySem.W.fnOf x x pg bg sg dV kV doc pm an cdv ct) [a] [] ∧ FnScope Ng [a] sg ∧ Ng[0]? = some a ∧ Vis sg a ∧
    (a == ("__debug__" : Str)) = false ∧ (a == ("__classdict__" : Str)) = false ∧
    ∀ (A : Around) (outer : List Env) (s : Shared) (H : Hp) (f c' : Addr) (q : Str) (tl : XK → Hp → VK → Prop) (Q : VK), Room k (A.deeper (envOfC x sg s.heap.objs.size g cdv)) →
      (∀ (W : WX) (pn : List (Addr × Obj)) (xe : Value → Shared → Prop) (E : XK) (p1 p2 : Pos), L2N.Takes ((cxOf C8.CX0 M.P M.w M.K M.mg M.base Ng x sg g cdv A outer s H C8.E0).tr pn xe) W → (∀ cls d σ' H', E cls d H' → W cls d σ' H') →
        PE ((cxOf C8.CX0 M.P M.w M.K M.mg M.base Ng x sg g cdv A outer s H C8.E0).tr pn xe) (.Call (.Name a p1) [] [] p2) (fun σZ HZ Q => σZ[0]? = some (some (.ref f)) ∧ HZ c' = some (LamX.CodeO c' q) ∧ tl E HZ Q)) →
      H c' = some (LamX.CodeO c' q) → TAskS M tbl hnd tl H Q →
      ∃ t, PSs (cxOf C8.CX0 M.P M.w M.K M.mg M.base Ng x sg g cdv A outer s H C8.E0) bg t ∧ t { nx := fun _ H' => Q .non H', rt := Q } (L2.start Ng [.ref f]) H
section
variable {M : Md} {cs : Cs} {W : WX} {k : Nat} {X : Cx}
end
end VF
namespace VF
open PySem PySem.Spec PyProof.Rows L2
def wordS (c : Str) : Option Str := if c = "BadPoll" then some "poll" else if c = "BadOrder" then some "order" else if c = "BadRule" then some "rule" else if c = "BadClaim" then some "claim" else none
def tblS : Str → Option Bool := fun c => (wordS c).map fun _ => true
def badW : List Str := ["BadPoll", "BadOrder", "BadRule", "BadClaim"]
theorem four {c : Str} (h : tblS c = some true) : c = "BadPoll" ∨ c = "BadOrder" ∨ c = "BadRule" ∨ c = "BadClaim" := by
  unfold tblS wordS at h
  split at h
  · exact .inl ‹_›
  · split at h
    · exact .inr (.inl ‹_›)
    · split at h
      · exact .inr (.inr (.inl ‹_›))
      · split at h
        · exact .inr (.inr (.inr ‹_›))
        · cases h
structure SaidF (M : Md) : Prop where
  xc : ∀ c, tblS c = some true → XcF M c
  is : ∀ c, tblS c = some true → ∀ d ∈ badW, IsF M c d (decide (c = d))
  no : ∀ c, tblS c = some true → HdF M "NoOption" c false
  po : ∀ c, tblS c = some true → HdF M "PollError" c true
theorem SaidF.htb {M : Md} (sF : SaidF M) {c1 c2 : Addr} (h1 : M.mg "NoOption" = some (.ref c1)) (h2 : M.mg "PollError" = some (.ref c2)) (e : Str) (C : Addr) (he : M.mg e = some (.ref C)) (ht : tblS e = some true) :
    PySem.W.exmOne M.K (.ref C) (.ref c1) = some false ∧ PySem.W.exmOne M.K (.ref C) (.ref c2) = some true := by
  obtain ⟨a1, a2, a3, a4, a5⟩ := (sF.no e ht).ex
  obtain ⟨b1, b2, b3, b4, b5⟩ := (sF.po e ht).ex
  cases h1.symm.trans a3
  cases h2.symm.trans b3
  cases he.symm.trans a4
  cases he.symm.trans b4
  exact ⟨a5, b5⟩
end VF
namespace VF
open PySem PySem.Spec PyProof.Rows L2
section
variable {M : Md} {cs : Cs} {W : WX} {k : Nat} {X : Cx}
end
end VF
namespace VF
open PySem PySem.Spec PyProof.Rows L2
def chg : D → Bool
  | .lst _ => true
  | .dck _ _ => true
  | .dct _ _ => true
  | _ => false
def two : Rv → Option (D × D)
  | .own (.ins _ [] [a, b]) => some (a, b)
  | _ => none
theorem two_some {r : Rv} {z : D × D} (h : two r = some z) : ∃ c, r = .own (.ins c [] [z.1, z.2]) := by
  unfold two at h
  split at h
  · cases h; exact ⟨_, rfl⟩
  · cases h
theorem no_pair {M : Md} {F : Addr → Prop} {H : Hp} {P : HO → Prop} {c : Str} {a b : D} (h : Cont M F H P (.ins c [] [a, b])) : False := by
  obtain ⟨C, dx, vs, m, p, k, r⟩ := h
  cases vs with
  | nil =>
    unfold RepL at r
    obtain ⟨v, q, e, _⟩ := r
    cases e
  | cons x xs => cases k
def PtR (M : Md) (O : Addr → Prop) (H0 : Hp) (F : Addr → Prop) (H : Hp) (d : D) (v : V) : Prop :=
  (chg d = true → ∃ a, v = .ref a ∧ ¬ F a ∧ (H0 a = none ∨ O a) ∧ Cont M F H (fun u => H a = some u) d) ∧ (chg d = false → Rep M F H d v)
def TwR (M : Md) (k : Bool) (O : Addr → Prop) (H0 : Hp) (F : Addr → Prop) (H : Hp) (d0 d1 : D) (v : V) : Prop :=
  ∃ t v0 v1, v = .ref t ∧ H t = some (.tup [v0, v1]) ∧ (k = true → Rep M F H d0 v0 ∧ PtR M O H0 F H d1 v1) ∧ (k = false → PtR M O H0 F H d0 v0 ∧ Rep M F H d1 v1)
theorem PtR.from {M : Md} {O O' : Addr → Prop} {H0 H0' : Hp} {F : Addr → Prop} {H : Hp} {d : D} {v : V} (h : PtR M O H0 F H d v) (k : ∀ a, H0 a = none ∨ O a → H0' a = none ∨ O' a) : PtR M O' H0' F H d v :=
  ⟨fun e => by obtain ⟨a, h1, h2, h3, h4⟩ := h.1 e; exact ⟨a, h1, h2, k a h3, h4⟩, h.2⟩
theorem TwR.from {M : Md} {b : Bool} {O O' : Addr → Prop} {H0 H0' : Hp} {F : Addr → Prop} {H : Hp} {d0 d1 : D} {v : V} (h : TwR M b O H0 F H d0 d1 v) (k : ∀ a, H0 a = none ∨ O a → H0' a = none ∨ O' a) : TwR M b O' H0' F H d0 d1 v := by
  obtain ⟨t, v0, v1, e, ht, h1, h2⟩ := h
  exact ⟨t, v0, v1, e, ht, fun z => ⟨(h1 z).1, (h1 z).2.from k⟩, fun z => ⟨(h2 z).1.from k, (h2 z).2⟩⟩
def WantT (b : Bool) (M : Md) (W : WX) (F : Addr → Prop) (H : Hp) (σ : St) (ρ : En) (o : SO) (D : Ends) : Prop := match o with
  | .nx ρ' => ∀ F' H' σ', PoS M F H σ ρ F' H' σ' ρ' → D.nx σ' H'
  | .bk ρ' => ∀ F' H' σ', PoS M F H σ ρ F' H' σ' ρ' → D.bk σ' H'
  | .ct ρ' => ∀ F' H' σ', PoS M F H σ ρ F' H' σ' ρ' → D.ct σ' H'
  | .rt r ρ' => ∀ F' H' σ', PoS M F H σ ρ F' H' σ' ρ' → ∃ z, two r = some z ∧ ∀ v, TwR M b (OwnAt σ ρ) H F' H' z.1 z.2 v → D.rt v H'
  | .exc x ρ' => ∀ F' H' σ' cls d, PoS M F H σ ρ F' H' σ' ρ' → ExR M F' H' x cls d → W cls d σ' H'
  | .bad => False
section
variable {M : Md} {W : WX} {F F1 : Addr → Prop} {H H1 : Hp} {σ σ1 : St} {ρ ρ1 : En} {b : Bool}
theorem WantT.up {o : SO} {D : Ends} (h : WantT b M W F H σ ρ o D) : WantS M W F H σ ρ o D := by
  cases o with
  | nx ρ' => exact h
  | bk ρ' => exact h
  | ct ρ' => exact h
  | rt r ρ' =>
    intro F' H' σ' v po rt
    obtain ⟨z, e, _⟩ := h F' H' σ' po
    obtain ⟨c, rfl⟩ := two_some e
    obtain ⟨a, _, _, _, c⟩ := rt
    exact (no_pair c).elim
  | exc x ρ' => exact h
  | bad => exact h
theorem WantT.step {o : SO} {D : Ends} (po : PoS M F H σ ρ F1 H1 σ1 ρ1) (h : WantT b M W F H σ ρ o D) : WantT b M W F1 H1 σ1 ρ1 o D := by
  cases o with
  | nx ρ' => exact fun F' H' σ' p => h F' H' σ' (po.trans p)
  | bk ρ' => exact fun F' H' σ' p => h F' H' σ' (po.trans p)
  | ct ρ' => exact fun F' H' σ' p => h F' H' σ' (po.trans p)
  | rt r ρ' =>
    intro F' H' σ' p
    obtain ⟨z, e, q⟩ := h F' H' σ' (po.trans p)
    refine ⟨z, e, fun v rt => q v (rt.from fun a => ?_)⟩
    rintro (z | z)
    · exact .inl (po.stp.dom a z)
    · exact (po.stp.own a z).symm
  | exc x ρ' => exact fun F' H' σ' cls d p xr => h F' H' σ' cls d (po.trans p) xr
  | bad => exact h
end
section
variable {M : Md} {cs : Cs} {W : WX} {k : Nat} {X : Cx} {b : Bool}
end
end VF
namespace VF
open PySem PySem.Spec PyProof.Rows L2
def nO : Addr → Prop := fun _ => False
def WantFT (b : Bool) (M : Md) (F : Addr → Prop) (H : Hp) (σ : St) (ρ : En) (o : FO) (Q : VK) (E : XK) : Prop := match o with
  | .ok r outs => ∀ F' H', Po M F H σ ρ F' H' (outs.map some) → ∃ z, two r = some z ∧ ∀ v, TwR M b nO H F' H' z.1 z.2 v → Q v H'
  | .exc x outs => ∀ F' H' cls d, Po M F H σ ρ F' H' (outs.map some) → ExR M F' H' x cls d → E cls d H'
  | .bad => False
def spT (b : Bool) (M : Md) (np : Nat) (φ : FSem) : Sp := fun vs H Q E => vs.length = np ∧ ∃ F sls, SR M F H (vs.map some) (sls.map some) ∧ sls.all noOwn = true ∧ WantFT b M F H (vs.map some) (sls.map some) (φ sls) Q E
section
variable {M : Md} {F F' : Addr → Prop} {H H' : Hp} {b : Bool}
end
structure FnT (b : Bool) (M : Md) (k : Nat) (x : Str) (np : Nat) (φ : FSem) : Prop where
  ex : ∃ f fd ps, FnOk M.P M.w M.K M.mg M.base (L2N.CX M.P M.w) k f fd ps (spT b M np φ) ∧ M.mg x = some (.ref f) ∧ PySem.W.keepIn M.K (.ref f) = true ∧ ps.length = np ∧ Binds M.K fd ps []
structure FnTK (b : Bool) (M : Md) (k : Nat) (x : Str) (n : Nat) (ks : List Str) (sel : List Pk) (φ : FSem) : Prop where
  ex : ∃ f fd ps g gV, FnOk M.P M.w M.K M.mg M.base (L2N.CX M.P M.w) k f fd ps (spT b M sel.length φ) ∧ M.mg x = some (.ref f) ∧ PySem.W.keepIn M.K (.ref f) = true ∧ KBn M.K fd ps n ks g gV ∧ ∀ vs zs, vs.length = n → zs.length = ks.length → PkV M (vs ++ zs) sel (gV vs zs)
section
variable {M : Md} {cs : Cs} {W : WX} {k : Nat} {X : Cx} {b : Bool}
end
end VF
namespace VF
open PySem PySem.Spec PyProof.Rows L2
structure Thw (F : Addr → Prop) (H : Hp) (b : Addr) (F' : Addr → Prop) (H' : Hp) : Prop where
  fro : ∀ a, F a → a ≠ b → F' a
  keep : ∀ a o, H a = some o → a ≠ b → H' a = some o
  new : ∀ a, F' a → (F a ∧ a ≠ b) ∨ H a = none
  dom : ∀ a, F' a → H' a ≠ none
  at_b : ∃ vs, H b = some (.lst vs)
  b' : H' b ≠ none
section
variable {M : Md} {F F' : Addr → Prop} {H H' : Hp} {b : Addr}
theorem Thw.rd (t : Thw F H b F' H') {a : Addr} {u : HO} (hu : ∀ vs, u ≠ .lst vs) (h : Rd H a u) : a ≠ b ∧ Rd H' a u := by
  obtain ⟨vs, hb⟩ := t.at_b
  have ne : a ≠ b := fun z => by
    subst z
    rcases h with h | ⟨o, h⟩
    · rw [hb] at h; cases h; exact hu vs rfl
    · rw [hb] at h; cases h
  exact ⟨ne, h.imp (fun h => t.keep _ _ h ne) fun ⟨o, h⟩ => ⟨o, t.keep _ _ h ne⟩⟩
theorem Thw.ex (t : Thw F H b F' H') {a : Addr} {u : HO} (hu : ∀ vs, u ≠ .lst vs) (h : H a = some u) : a ≠ b ∧ H' a = some u := by
  obtain ⟨vs, hb⟩ := t.at_b
  have ne : a ≠ b := fun z => by
    subst z
    rw [hb] at h
    cases h
    exact hu vs rfl
  exact ⟨ne, t.keep _ _ h ne⟩
theorem Thw.nf (t : Thw F H b F' H') {a : Addr} {o : HO} (nf : ¬ F a) (h : H a = some o) : ¬ F' a := fun z => by
  rcases t.new a z with z | z
  · exact nf z.1
  · rw [h] at z; cases z
theorem Thw.tab (t : Thw F H b F' H') {P : Addr} {q : Str} (h : TabF F H P q) : TabF F' H' P q := by
  unfold TabF at h ⊢
  obtain ⟨h0, ps, h1, h2, h3⟩ := h
  obtain ⟨n1, e1⟩ := t.ex (fun _ z => by cases z) h1
  refine ⟨t.fro P h0 n1, ps, e1, h2, fun pos cv hc => ?_⟩
  obtain ⟨c, e, hf, hco⟩ := h3 pos cv hc
  obtain ⟨n2, e2⟩ := t.ex (fun _ z => by unfold LamX.CodeO at z; cases z) hco
  exact ⟨c, e, t.fro c hf n2, e2⟩
end
end VF
namespace VF
open PySem PySem.Spec PyProof.Rows L2
section
variable {M : Md} {cs : Cs} {W : WX} {k : Nat} {X : Cx} {as : List Nat}
end
section
variable {M : Md} {W : WX} {F F1 : Addr → Prop} {H H1 : Hp} {σ : St} {ρ ρ1 : En}
end
theorem Thw.sub {F Fr F' : Addr → Prop} {H H' : Hp} {b : Addr} (t : Thw F H b F' H') (h : ∀ z, Fr z → F z ∧ z ≠ b) : Ext Fr H F' H' :=
  ⟨fun a f => t.fro a (h a f).1 (h a f).2, fun a u f _ r => r.imp (fun e => t.keep _ _ e (h a f).2) fun ⟨o, e⟩ => ⟨o, t.keep _ _ e (h a f).2⟩, fun a o f _ e => t.keep _ _ e (h a f).2, fun a vs r => (t.rd (fun _ z => by cases z) r).2, fun a vs r => (t.ex (fun _ z => by cases z) r).2⟩
section
variable {M : Md} {cs : Cs} {W : WX} {k : Nat} {X : Cx} {as : List Nat}
end
end VF
namespace VF
open PySem PySem.Spec PyProof.Rows L2
section
variable {M : Md} {W : WX}
end
section
variable {M : Md} {cs : Cs} {W : WX} {k : Nat} {X : Cx}
end
section
variable {α T : Type} {o : Bool} {val : α → D} {fin : α → En → Prop} {env : T → En} {ρ : En}
end
theorem val_of {o : Bool} {d : D} {r : Rv} (h : RvOk o r d) (hc : d.cont = false) : r = .val d := by
  rcases h with ⟨_, h⟩ | ⟨h, _⟩
  · rw [hc] at h; cases h
  · exact h
section
variable {ρ : En}
end
end VF
namespace VF
open PySem PySem.Spec PyProof.Rows L2
section
variable {M : Md} {cs : Cs} {W : WX} {k : Nat} {X : Cx}
end
end VF
namespace VF
open PySem PySem.Spec PyProof.Rows L2
end VF
namespace VF
open PySem PySem.Spec PyProof.Rows L2
end VF
namespace VF
open PySem PySem.Spec PyProof.Rows L2
end VF
namespace VF
open PySem PySem.Spec PyProof.Rows L2
section
variable {ρ : En}
end
end VF
namespace VF
open PySem PySem.Spec PyProof.Rows L2 PySem.SeqAt
section
variable {M : Md} {X : Cx}
end
end VF
namespace VF
open PySem PySem.Spec PyProof.Rows L2
section
variable {M : Md} {cs : Cs} {W : WX} {k : Nat} {X : Cx} {as : List Nat}
end
section
variable {M : Md} {F1 F4 F6 : Addr → Prop} {H1 H4 H6 : Hp} {σ σ4 : St} {ρ1 ρ4 : En} {i j : Nat} {as : List Nat}
end
section
variable {M : Md} {cs : Cs} {W : WX} {k : Nat} {X : Cx} {as : List Nat}
end
end VF
namespace VF
open PySem PySem.Spec PyProof.Rows L2
section
variable {M : Md} {cs : Cs} {W : WX} {k : Nat} {X : Cx} {as : List Nat}
end
section
variable {α T1 : Type} {o : Bool} {val : α → D} {fin : α → En → Prop} {ρ : En}
end
end VF
namespace VF
open PySem PySem.Spec PyProof.Rows L2
end VF
namespace VF
open PySem PySem.Spec PyProof.Rows L2
section
variable {M : Md} {cs : Cs} {W : WX} {k : Nat} {X : Cx}
end
end VF
namespace NeK
open PySem PySem.W PySem.Spec PyProof.Rows PySem.Calls
section
variable {prog : Program} {w : World} {A A₀ : Around} {E : Value → Shared → Prop} {s : Shared} {K : Frag} {x C L f : Addr} {h₀ : Heap} {m : Str → Option Value} {ox : Obj} {od : Option Obj} {name : Str} {b tb : Value}
theorem ifBoundB_K {M : Model} {id : String} {args : List Value} {Q : Option Value → Shared → Prop} (X : K.In s.heap) (I : InstAt s.heap x ox C od) (hs : findIn K (.ref C) name = some (some (.builtin id))) (hb : bindSpecial (.builtin id) (.ref x) = pure (.builtin id, [.ref x]))
    (h : wpAny M A (call (.builtin id) (.ref x :: args)) (fun v => Q (some v)) E s) : wpAny M A (callSpecialIfBound? (.ref x) name args) Q E s := by
  simp only [callSpecialIfBound?, bindSpecialIfBound?]
  refine wpAny_holding (wpAny_bind (wpAny_bind (wpAny_bind (I.type.here ((looks_findIn X hs).here ?_)))))
  refine wpAny_bind (wpAny_askSetting (wpAny_ite ?_))
  have fin : wpAny M A (call (.builtin id) ([.ref x] ++ args) >>= fun v => pure (some v)) Q E s := wpAny_bind (wpAny_mono h (fun v s' h' => wpAny_pure h') fun _ _ h' => h')
  rw [hb]
  split
  · exact wpAny_bind (wpAny_pure (wpAny_pure (by exact fin)))
  · exact wpAny_tryCatch (wpAny_bind (wpAny_pure (wpAny_pure (by exact fin))))
theorem ne_entry {Q : Fin → Shared → Prop} (X : K.In s.heap) (I : InstAt s.heap x ox C od) (hu : A.units < cLine) (heq : findIn K (.ref C) "__eq__" = some (some (.ref f))) (hf : isFn K (.ref f) = true)
    (hcall : wpAny (model prog w) A (call (.ref f) [.ref x, b]) (fun v s' => ∃ r, v = .bool r ∧ Q (.done (.ret (.bool (!r)))) s') E s) :
    wpAny (model prog w) A (Builtin.«object.__ne__» ⟨[.ref x, b], []⟩) Q E s := by
  unfold Builtin.«object.__ne__»
  repeat (first
    | with_reducible refine wpAny_cRoomFor hu ?_
    | (refine wpAny_bind (m := callSpecialIfBound? (.ref x) (Str.ofString "__eq__") [b])
        (ifBound_K X I heq hf (wpAny_mono hcall (fun r s' hr => by
          obtain ⟨b, rfl, hq⟩ := hr
          repeat (first | exact hq | exact wpAny_pure hq | exact wpAny_truthy_bool hq | (refine wpAny_bind (m := truthy (.bool _)) (wpAny_truthy_bool ?_)) | wp_step)) fun _ _ e => e)))
    | wp_step)
theorem ne_K {Q : Value → Shared → Prop} (hu : A.units + 1 < cLine) (F : Fr h₀ L s.heap m) (X₀ : K.In h₀) (I : InstAt s.heap x ox C od) (hb : Looks (model prog w) s.heap (typeOf b) tb) (hn : notFirst K C tb = true)
    (hne : findIn K (.ref C) "__ne__" = some (some (.builtin "object.__ne__"))) (heq : findIn K (.ref C) "__eq__" = some (some (.ref f))) (hf : isFn K (.ref f) = true) (ho : subIn K (.ref C) (.type "object") = some true)
    (h : wpAny (model prog w) A.in1 (call (.ref f) [.ref x, b]) (fun v s' => ∃ r, v = .bool r ∧ Q (.bool (!r)) s') E s) : wpAny (model prog w) A (richCompare .NotEq (.ref x) b) Q E s := by
  have X := X₀.keeps F.keep
  have one : wpAny (model prog w) A (tryCompare (.ref x) "__ne__" b) (fun r s' => ∃ v, r = some v ∧ Q v s') E s := by
    unfold tryCompare
    refine wpAny_bind (ifBoundB_K X I hne (PySem.F.cmp_object.ne.bind _) (wpAny_call (codeAny_call_builtin PySem.F.cmp_object.ne.plain PySem.F.cmpEntry_ne
      (check_slot PySem.F.cmpKind_ne PySem.F.cmpSplit_ne (I.type.andThen (looks_subIn X ho)) (PySem.F.cmpArgs_ne _ _)
        (ne_entry X I (by show A.units + 1 < cLine; exact hu) heq hf (wpAny_mono h (fun v s' hv => ?_) fun _ _ e => e))))))
    obtain ⟨r, rfl, hq⟩ := hv
    first
      | exact ⟨r, rfl, _, rfl, hq⟩
      | exact ⟨r, rfl, wpAny_pure ⟨_, rfl, hq⟩⟩
      | exact ⟨r, rfl, wpAny_pure (wpAny_pure ⟨_, rfl, hq⟩)⟩
  unfold richCompare
  simp only [oneThing_ref]
  refine wpAny_holding (wpAny_bind (wpAny_cRoomFor (Nat.lt_of_succ_lt hu) ?_))
  rw [cmpInfo_NotEq]
  dsimp only
  refine wpAny_bind (I.type.here (wpAny_bind (hb.here ?_)))
  split
  · rename_i q
    have e : subIn K tb (.ref C) = some false := by
      rcases Bool.or_eq_true_iff.mp hn with e | e
      · rw [beq_iff_eq.mp e] at q; simp at q
      · exact beq_iff_eq.mp e
    refine wpAny_bind ((looks_subIn X e).here ?_)
    simp only [Bool.false_eq_true, if_false]
    refine wpAny_bind (wpAny_mono one (fun r s' z => ?_) fun _ _ e => e)
    obtain ⟨v, rfl, hq⟩ := z
    exact wpAny_pure hq
  · refine wpAny_bind (wpAny_pure ?_)
    simp only [Bool.false_eq_true, if_false]
    refine wpAny_bind (wpAny_mono one (fun r s' z => ?_) fun _ _ e => e)
    obtain ⟨v, rfl, hq⟩ := z
    exact wpAny_pure hq
end
end NeK
namespace VF
open PySem PySem.Spec PyProof.Rows L2
structure EqV (M : Md) (k : Nat) (c : Str) (φ : FSem) : Prop where
  ex : ∃ C f fd ps, c ∈ M.cls ∧ M.mg c = some (.ref C) ∧ PySem.W.findIn M.K (.ref C) "__eq__" = some (some (.ref f)) ∧ PySem.W.isFn M.K (.ref f) = true ∧ PySem.W.findIn M.K (.ref C) "__ne__" = some (some (.builtin "object.__ne__")) ∧ PySem.W.subIn M.K (.ref C) (.type "object") = some true ∧ FnOk M.P M.w M.K M.mg M.base (L2N.CX M.P M.w) k f fd ps (spF M 2 φ) ∧ ps.length = 2 ∧ Binds M.K fd ps []
def eqI (neg : Bool) (c : Str) (φ : FSem) (o1 o2 : Opd) : ES := fun ρ => (o1.ev ρ).bind fun x ρ0 => (o2.ev ρ0).bind fun y ρ1 => match x.dat ρ1, y.dat ρ1 with
  | some (.ins c1 _ _), some (.ins c2 _ _) => if c1 = c ∧ c2 = c then (callT φ [x, y] [] ρ1).bind fun r ρ2 => (match r with
    | .val (.bl b) => .ok (.val (.bl (if neg = true then !b else b))) ρ2
    | _ => .bad) else .bad
  | _, _ => .bad
section
variable {M : Md} {cs : Cs} {W : WX} {k : Nat} {X : Cx}
theorem eqI_run (hx : M.xn = none) {neg : Bool} {c : Str} {φ : FSem} {o1 o2 : Opd} {C : Addr} {σ : St} {H : Hp} {Q : VK} (hC : M.mg c = some (.ref C)) (h : tE M W (eqI neg c φ o1 o2) σ H Q) :
    tO M W o1 σ H fun x H1 => tO M W o2 σ H1 fun y H2 => ∃ a dx fs b dy gs, x = .ref a ∧ y = .ref b ∧ H2 a = some (.ins C dx fs) ∧ H2 b = some (.ins C dy gs) ∧ spF M 2 φ [x, y] H2 (fun v H' => ∃ r, v = .bl r ∧ Q (.bl (if neg = true then !r else r)) H') fun cls d H' => W cls d σ H' := by
  obtain ⟨F, ρ, s, h⟩ := h
  refine op_bind s h fun x F1 H1 ρ1 v po rv q1 => ?_
  refine op_bind po.sr q1 fun y F2 H2 ρ2 w po2 rw' q => ?_
  clear q1
  have rx := rv.mono (po2.ext po.sr)
  cases e : x.dat ρ2 with
  | none => simp only [e] at q; exact q.elim
  | some d =>
    cases d with
    | ins c1 fs ds =>
      cases e2 : y.dat ρ2 with
      | none => simp only [e, e2] at q; exact q.elim
      | some d2 =>
        cases d2 with
        | ins c2 gs es =>
          simp only [e, e2] at q
          by_cases hc : c1 = c ∧ c2 = c
          · rw [if_pos hc] at q
            obtain ⟨a, C', dx, vs, rfl, ⟨_, hm'⟩, ha, _, _⟩ := (rx.od po2.sr e).ins
            obtain ⟨b, C2, dy, ws, rfl, ⟨_, hm2⟩, hb, _, _⟩ := (rw'.od po2.sr e2).ins
            rw [hc.1, hC] at hm'
            rw [hc.2, hC] at hm2
            cases hm'
            cases hm2
            refine ⟨a, dx, vs, b, dy, ws, rfl, rfl, ha, hb, ?_⟩
            refine callT_run (dd := []) (dvs := []) hx (xs := [x, y]) (vs := [.ref a, .ref b]) po2.sr ⟨_, _, rfl, rx, _, _, rfl, rw', rfl⟩ rfl rfl ?_
            cases ec : callT φ [x, y] [] ρ2 with
            | bad => rw [ec] at q; exact q.elim
            | exc z ρ3 => rw [ec] at q; exact fun F3 H3 cls d po3 xr => q F3 H3 cls d po3 xr
            | ok r ρ3 =>
              rw [ec] at q
              intro F3 H3 po3 v rv3
              cases r with
              | own d => exact q.elim
              | val d =>
                cases d with
                | bl bb =>
                  have rv3 : Rep M F3 H3 (.bl bb) v := rv3
                  unfold Rep at rv3
                  refine ⟨bb, rv3, ?_⟩
                  exact q F3 H3 po3 (po2.trans po3) (po.trans (po2.trans po3)) _ (by show Rep M F3 H3 (.bl _) _; unfold Rep; rfl)
                | _ => exact q.elim
          · rw [if_neg hc] at q
            exact q.elim
        | _ => simp only [e, e2] at q; exact q.elim
    | _ => simp only [e] at q; exact q.elim
theorem pc_eqI (g : G M cs W k X) {j : Nat} {c : Str} {φ : FSem} {a b : Expr} {o1 o2 : Opd} (ev : EqV M j c φ) (hj : j ≤ k) (h1 : PE X a (tO M W o1)) (h2 : PE X b (tO M W o2)) : PC X .Eq a b (tE M W (eqI false c φ o1 o2)) := by
  obtain ⟨C, f, fd, ps, hcl, hC, heq, hf, hne, hob, F, hps, hb⟩ := ev.ex
  rw [← g.hP, ← g.hw, ← g.hb, ← g.hK, ← g.hmg] at F
  rw [← g.hK] at heq hf hne hob hb
  refine ⟨fun pins s σ H Q I h => ?_⟩
  refine thn (h1.run pins s σ H _ I (eqI_run g.nx hC h)) fun u s1 ⟨x, H1, I1, rx, q1⟩ => ?_
  refine thn (h2.run pins s1 σ H1 _ I1 q1) fun v s2 ⟨y, H2, I2, ry, a1, dx, fs, b1, dy, gs, ex, ey, ha, hb2, q⟩ => ?_
  subst ex ey
  obtain rfl : u = Value.ref a1 := rx
  obtain rfl : v = Value.ref b1 := ry
  obtain ⟨mA, J, _⟩ := ins_get I2.hok ha
  obtain ⟨mB, J', _⟩ := ins_get I2.hok hb2
  obtain ⟨od, J, _⟩ := J.look
  obtain ⟨od', J', _⟩ := J'.look
  obtain ⟨m, hF⟩ := I2.fr
  refine PySem.W.cmp_ofEq (PySem.W.cmp_K (op := .Eq) (tb := .ref C) g.room.units0 hF I2.ok.mod.kin J J'.type (by simp [PySem.W.notFirst]) heq hf ?_)
  refine thn (run_fnW (us := [.ref a1, .ref b1]) (vs := [.ref a1, .ref b1]) (CX' := L2N.CX X.prog X.w) (F.mono hj) g.room hb .nil g.tk I2 (.cons rfl (.cons rfl .nil)) q) fun w s' ⟨z, H', I', rz, r, ez, qz⟩ => ?_
  subst ez
  obtain rfl : w = Value.bool r := rz
  exact (show EP X pins σ Q (.bool r) s' from ⟨.bl r, H', I', rfl, qz⟩)
theorem pc_neI (g : G M cs W k X) {j : Nat} {c : Str} {φ : FSem} {a b : Expr} {o1 o2 : Opd} (ev : EqV M j c φ) (hj : j + 1 ≤ k) (h1 : PE X a (tO M W o1)) (h2 : PE X b (tO M W o2)) : PC X .NotEq a b (tE M W (eqI true c φ o1 o2)) := by
  obtain ⟨C, f, fd, ps, hcl, hC, heq, hf, hne, hob, F, hps, hb⟩ := ev.ex
  rw [← g.hP, ← g.hw, ← g.hb, ← g.hK, ← g.hmg] at F
  rw [← g.hK] at heq hf hne hob hb
  refine ⟨fun pins s σ H Q I h => ?_⟩
  refine thn (h1.run pins s σ H _ I (eqI_run g.nx hC h)) fun u s1 ⟨x, H1, I1, rx, q1⟩ => ?_
  refine thn (h2.run pins s1 σ H1 _ I1 q1) fun v s2 ⟨y, H2, I2, ry, a1, dx, fs, b1, dy, gs, ex, ey, ha, hb2, q⟩ => ?_
  subst ex ey
  obtain rfl : u = Value.ref a1 := rx
  obtain rfl : v = Value.ref b1 := ry
  obtain ⟨mA, J, _⟩ := ins_get I2.hok ha
  obtain ⟨mB, J', _⟩ := ins_get I2.hok hb2
  obtain ⟨od, J, _⟩ := J.look
  obtain ⟨od', J', _⟩ := J'.look
  obtain ⟨m, hF⟩ := I2.fr
  have hr : Room j X.A.in1 := (g.room.mono hj).in1
  refine PySem.W.cmp_ofNotEq (NeK.ne_K (tb := .ref C) (by have := hr.units0; exact this) hF I2.ok.mod.kin J J'.type (by simp [PySem.W.notFirst]) hne heq hf hob ?_)
  have r2 : Vals [V.ref a1, V.ref b1] [Value.ref a1, Value.ref b1] := .cons rfl (.cons rfl .nil)
  have hl : [Value.ref a1, Value.ref b1].length = ps.length := by rw [hps]; rfl
  refine wpAny_call (codeAny_mono (F.run X.A.in1 X.stack s2 H2 ⟨[.ref a1, .ref b1], []⟩ ([.ref a1, .ref b1] ++ []) ([.ref a1, .ref b1] ++ []) _ _ hr I2.env0.in1 (hb s2 [.ref a1, .ref b1] I2.kIn (by simpa using hl)) (r2.append .nil) q) fun r s' hq => ?_)
  cases r with
  | error e => exact g.tk e s' (L2N.XE.of_call I2 (fun cls d H' h => h) hq)
  | ok fl =>
    cases fl with
    | ret w =>
      obtain ⟨z, H', I', rz, r, ez, qz⟩ := I2.after hq
      subst ez
      obtain rfl : w = Value.bool r := rz
      exact ⟨r, rfl, .bl (!r), H', I', rfl, qz⟩
    | next => exact False.elim hq
    | brk => exact False.elim hq
    | cont => exact False.elim hq
theorem e_eqI (g : G M cs W k X) {j : Nat} {c : Str} {φ : FSem} {a b : Expr} {o1 o2 : Opd} {pos : Pos} (ev : EqV M j c φ) (hj : j ≤ k) (h1 : PE X a (tO M W o1)) (h2 : PE X b (tO M W o2)) : PE X (.Compare a [.Eq] [b] pos) (tE M W (eqI false c φ o1 o2)) := pe_cmp (pc_eqI g ev hj h1 h2)
theorem t_eqI (g : G M cs W k X) {j : Nat} {c : Str} {φ : FSem} {a b : Expr} {o1 o2 : Opd} {pos : Pos} (ev : EqV M j c φ) (hj : j ≤ k) (h1 : PE X a (tO M W o1)) (h2 : PE X b (tO M W o2)) : PT X (.Compare a [.Eq] [b] pos) (tT M W (tst (eqI false c φ o1 o2))) := PT_imp (pt_cmp (pc_eqI g ev hj h1 h2)) fun σ H Q h => tst_run h
theorem t_neI (g : G M cs W k X) {j : Nat} {c : Str} {φ : FSem} {a b : Expr} {o1 o2 : Opd} {pos : Pos} (ev : EqV M j c φ) (hj : j + 1 ≤ k) (h1 : PE X a (tO M W o1)) (h2 : PE X b (tO M W o2)) : PT X (.Compare a [.NotEq] [b] pos) (tT M W (tst (eqI true c φ o1 o2))) := PT_imp (pt_cmp (pc_neI g ev hj h1 h2)) fun σ H Q h => tst_run h
end
def asBL : D → R Bool
  | .bl b => .ok b
  | _ => .bad
def eqR (neg : Bool) (cl : Str) (c : D → D → R D) (x y : D) : R D := match x, y with
  | .ins c1 _ _, .ins c2 _ _ => if c1 = cl ∧ c2 = cl then (c x y).bind fun d => (asBL d).bind fun b => .ok (.bl (if neg = true then !b else b)) else .bad
  | _, _ => .bad
section
variable {ρ : En} {o neg : Bool} {xf : FSem} {o1 o2 : Opd} {c1 c2 : R D} {c : Str}
theorem ev_eqI {f : D → D → R D} (h1 : EvA o1 ρ c1) (h2 : EvA o2 ρ c2) (hf : ∀ a b, FnP o xf [a, b] (f a b)) : EvP false (eqI neg c xf o1 o2) ρ (c1.bind fun a => c2.bind fun b => eqR neg c f a b) := by
  cases c1 with
  | bad => trivial
  | exc x =>
    show eqI neg c xf o1 o2 ρ = .exc x ρ
    unfold eqI
    rw [show o1.ev ρ = .exc x ρ from h1]
    rfl
  | ok a =>
    rw [R.bind_ok]
    obtain ⟨x, e1, e2⟩ := id h1
    cases c2 with
    | bad => trivial
    | exc y =>
      show eqI neg c xf o1 o2 ρ = .exc y ρ
      unfold eqI
      rw [e1]
      show (o2.ev ρ).bind _ = _
      rw [show o2.ev ρ = .exc y ρ from h2]
      rfl
    | ok b =>
      rw [R.bind_ok]
      obtain ⟨y, e3, e4⟩ := id h2
      have d1 := slO_dat e2
      have d2 := slO_dat e4
      have hq : EvP o (callF xf [o1, o2] []) ρ (f a b) := ev_call2 (dd := []) h1 h2 hf
      have ecf : callF xf [o1, o2] [] ρ = callT xf [x, y] [] ρ := by
        have e6 : evs [o1, o2] ρ = .ok [x, y] ρ := by
          show (o1.ev ρ).bind _ = _
          rw [e1]
          show ((o2.ev ρ).bind _).bind _ = _
          rw [e3]
          rfl
        unfold callF callT
        rw [e6]
        rfl
      have e0 : eqI neg c xf o1 o2 ρ = (match x.dat ρ, y.dat ρ with
          | some (.ins c1 _ _), some (.ins c2 _ _) => if c1 = c ∧ c2 = c then (callT xf [x, y] [] ρ).bind fun r ρ2 => (match r with
            | .val (.bl b) => .ok (.val (.bl (if neg = true then !b else b))) ρ2
            | _ => .bad) else .bad
          | _, _ => .bad) := by
        unfold eqI
        rw [e1]
        show (o2.ev ρ).bind _ = _
        rw [e3]
        rfl
      cases a with
      | ins c1' fs ds =>
        cases b with
        | ins c2' gs es =>
          rw [d1, d2] at e0
          simp only at e0
          show EvP false _ ρ (if c1' = c ∧ c2' = c then _ else .bad)
          by_cases hc : c1' = c ∧ c2' = c
          · rw [if_pos hc] at e0 ⊢
            rw [← ecf] at e0
            cases ef : f (.ins c1' fs ds) (.ins c2' gs es) with
            | bad => trivial
            | exc z =>
              rw [ef] at hq
              show eqI neg c xf o1 o2 ρ = .exc z ρ
              rw [e0, show callF xf [o1, o2] [] ρ = .exc z ρ from hq]
              rfl
            | ok d =>
              rw [ef] at hq
              obtain ⟨r, e5, rk⟩ := hq
              rw [R.bind_ok]
              cases d with
              | bl bb =>
                have er := val_of rk rfl
                subst er
                exact ⟨.val (.bl (if neg = true then !bb else bb)), by rw [e0, e5]; rfl, .inr ⟨rfl, rfl⟩⟩
              | _ => trivial
          · rw [if_neg hc]
            trivial
        | _ => trivial
      | _ => trivial
end
end VF
namespace VF
open PySem PySem.Spec PyProof.Rows L2
structure MtVK (M : Md) (k : Nat) (c m kn : Str) (φ : FSem) : Prop where
  ex : ∃ C f fd ps, c ∈ M.cls ∧ M.mg c = some (.ref C) ∧ Cls M.K C ∧ Meth M.K C m f ∧ FnOk M.P M.w M.K M.mg M.base (L2N.CX M.P M.w) k f fd ps (spF M 2 φ) ∧ ps.length = 2 ∧ ∀ (s : Shared) (u v : Value), M.K.In s.heap → BindsTo s fd ⟨[u], [(kn, v)]⟩ (ps.zip [u, v])
section
variable {M : Md} {cs : Cs} {W : WX} {k : Nat} {X : Cx}
end
theorem eqv_of {M : Md} {j : Nat} {c : Str} {φ : FSem} (hg : M.mg c = some (.ref (He.ga M.K c))) (hB : eqnB c M.K = true) (mv : MtV M j c "__eq__" 2 φ) : EqV M j c φ := by
  obtain ⟨C, f, fd, ps, hcl, hC, hcls, hm, F, hps, hb⟩ := mv.ex
  rw [hg] at hC
  cases hC
  obtain ⟨h1, h2⟩ := Bool.and_eq_true_iff.mp hB
  exact ⟨_, f, fd, ps, hcl, hg, hm.at_, hm.fn, He.eqO_ok h1, of_decide_eq_true h2, F, hps, hb⟩
end VF
namespace VF
open PySem PySem.Spec PyProof.Rows L2
end VF
namespace VX
open PySem PySem.HandSPX PySem.Builtin PySem.Builtin.ObjectAttr
section
variable {M : Model} {A : Around} {E : Value → Shared → Prop} {h : Heap} {g : Array GenState} {d : Drawn} {t : Nat} {os : OsState}
variable {nm q : Str} {C N : Addr} {bs bm bmB : List Value} {hdct : Bool} {sn : List Str} {sub : List Value} {ab : Bool} {col : Option Bool} {dd : Option Addr} {k0 k1 k2 k3 k5 : Option Value} {B newId initId : String}
theorem check_new_kw (F : ExcBaseFacts B newId initId bmB) (hT : ∀ X : String, bm.contains (.type X) = bmB.contains (.type X)) {rest : List Value} {kw : List (Str × Value)} {Q : Unit → Shared → Prop}
    (hC : h.get? C = some (excClassObj nm q C N bs bm hdct sn sub ab col dd k0 k1 k2 k3 k5 newId)) (hq : Q () ⟨h, g, d, t, os⟩) : wpAny M A (checkBuiltinCall newId ⟨.ref C :: rest, kw⟩) Q E ⟨h, g, d, t, os⟩ := by
  have hcont : (Value.ref C :: bm).contains (.type B) = true := by rw [List.contains_cons, hT, F.hasB, Bool.or_true]
  have hstar := F.noStar
  simp only [checkBuiltinCall, F.newKind, F.newSplit, F.newRow]
  repeat (first | refine wpAny_loadPart_at hC ?_ | (refine wpAny_isSubtype_exc hC ?_; rw [hcont]) | refine wpAny_staticBase_exc hC ?_ | refine wpAny_madeBy_exc hC ?_ | simp only [bne_self_eq_false, Bool.false_eq_true, if_false] | wp_step)
  exact hq
end
section
variable {prog : Program} {w : World} {A : Around} {E : Value → Shared → Prop} {R : Result → Shared → Prop} {h : Heap} {g : Array GenState} {d : Drawn} {t : Nat} {os : OsState}
variable {nm q : Str} {C N : Addr} {bs bm bmB : List Value} {hdct : Bool} {sn : List Str} {sub : List Value} {ab : Bool} {col : Option Bool} {dd : Option Addr} {k0 k1 k2 k3 k5 : Option Value} {B newId initId : String}
theorem new_kw (F : ExcBaseFacts B newId initId bmB) (hT : ∀ X : String, bm.contains (.type X) = bmB.contains (.type X)) {rest : List Value} {kw : List (Str × Value)}
    (hC : h.get? C = some (excClassObj nm q C N bs bm hdct sn sub ab col dd k0 k1 k2 k3 k5 newId))
    (hq : R (.ok (.ret (.ref (h.objs.size + 1)))) ⟨(h.push (W.kdv_tup rest)).push (excO C h.objs.size), g, d, t, os⟩) (hrest : rest.length ≤ sizeLine) :
    codeAny (model prog w) A (.builtin newId ⟨.ref C :: rest, kw⟩) R ⟨h, g, d, t, os⟩ := by
  have hends := F.ends
  have hcB : (Value.ref C :: bm).contains (.type B) = true := by rw [List.contains_cons, hT, F.hasB, Bool.or_true]
  have hcA : (Value.ref C :: bm).contains (.type "AttributeError") = false := by rw [List.contains_cons, hT, F.noAttr]; rfl
  have hcN : (Value.ref C :: bm).contains (.type "NameError") = false := by rw [List.contains_cons, hT, F.noName]; rfl
  refine codeAny_builtinAt F.entry ?_
  unfold Builtin.«BaseException.__new__»
  refine wpAt_bind ?_
  show wpAt _ _ _ (stack >>= _) _ _ _
  refine wpAt_bind (wpAt_stack fun p below => wpAt_of_wpAny ?_)
  wp_walk
  refine wpAt_of_wpAny ?_
  rw [F.owner]
  repeat (first | with_reducible refine wpAny_madeHere_exc F.canon hC ?_ | with_reducible refine wpAny_loadPart_at hC ?_ | (with_reducible refine wpAny_isSubtype_exc hC ?_; first | rw [hcB] | rw [hcA] | rw [hcN]) | wp_step)
  show R _ _
  rw [Heap.size_push]
  exact hq
theorem type_call_kw (F : ExcBaseFacts B newId initId bmB) (hT : ∀ X : String, bm.contains (.type X) = bmB.contains (.type X)) {rest : List Value} {kw : List (Str × Value)} {fI : Addr} {Q : Fin → Shared → Prop}
    (hC : h.get? C = some (excClassObj nm q C N bs bm hdct sn sub ab col dd k0 k1 k2 k3 k5 newId))
    (hi : W.Looks (model prog w) h (typeLookup (.ref C) "__init__") (some (.ref fI))) (hb : ∀ self, W.Looks (model prog w) h (bindSpecial (.ref fI) self) (.ref fI, [self])) (hrest : rest.length ≤ sizeLine) (hkw : kw ≠ [])
    (hq : codeAny (model prog w) A (.call (.ref fI) ⟨.ref (h.objs.size + 1) :: rest, kw⟩)
      (fun r s' => match r with | .ok (.ret v) => v = .none ∧ Q (.done (.ret (.ref (h.objs.size + 1)))) s' | .ok _ => False | .error e => E e s')
      ⟨(h.push (W.kdv_tup rest)).push (excO C h.objs.size), g, d, t, os⟩) :
    wpAny (model prog w) A (Builtin.«type.__call__» ⟨.ref C :: rest, kw⟩) Q E ⟨h, g, d, t, os⟩ := by
  repeat (first | with_reducible refine wpAny_loadPart_at hC ?_ | with_reducible refine wpAny_madeBy_exc hC ?_ | wp_step)
  refine codeAny_call_builtin_code (Code.quiet_builtin _ F.quiet) (check_new_kw F hT hC ?_)
  refine new_kw F hT hC ?_ hrest
  show wpAny _ _ _ _ _ _
  have k : ∀ b o, h.get? b = some o → ((h.push (W.kdv_tup rest)).push (excO C h.objs.size)).get? b = some o := fun b o e => Heap.get?_push_of_some _ (Heap.get?_push_of_some _ e)
  have hC₁ := k _ _ hC
  have hget : ((h.push (W.kdv_tup rest)).push (excO C h.objs.size)).get? (h.objs.size + 1) = some (excO C h.objs.size) := by heap_get
  have hcC : (Value.ref C :: bm).contains (.ref C) = true := by simp
  have i1 := hi.keeps k
  have b1 := (hb (.ref (h.objs.size + 1))).keeps k
  unfold isInstance
  repeat (first | with_reducible refine wpAny_loadPart_at hget ?_ | (with_reducible refine wpAny_isSubtype_exc hC₁ ?_; rw [hcC]) | wp_step)
  show wpAny _ _ (typeLookup (.ref C) _) _ _ _
  refine i1.at ?_
  refine wpAny_holding (wpAny_bind (b1.at ?_))
  refine wpAny_bind (wpAny_call (codeAny_mono hq fun r s' z => ?_))
  rcases r with e | (v | _ | _ | _) <;> first | exact z | exact z.elim | skip
  obtain ⟨rfl, z⟩ := z
  first
    | exact wpAny_pure (wpAny_pure z)
    | (wp_walk; exact z)
end
end VX
namespace VX
open PySem PySem.HandSPX PySem.Builtin PySem.Builtin.ObjectAttr
section
variable {prog : Program} {w : World} {A : Around} {E : Value → Shared → Prop} {R : Result → Shared → Prop} {h : Heap} {g : Array GenState} {d : Drawn} {t : Nat} {os : OsState}
variable {nm q : Str} {C N : Addr} {bs bm bmB : List Value} {hdct : Bool} {sn : List Str} {sub : List Value} {ab : Bool} {col : Option Bool} {dd : Option Addr} {k0 k1 k2 k3 k5 : Option Value} {B newId initId : String}
theorem check_tc_kw {rest : List Value} {kw : List (Str × Value)} {Q : Unit → Shared → Prop}
    (hC : h.get? C = some (excClassObj nm q C N bs bm hdct sn sub ab col dd k0 k1 k2 k3 k5 newId)) (hq : Q () ⟨h, g, d, t, os⟩) : wpAny (model prog w) A (checkBuiltinCall "type.__call__" ⟨.ref C :: rest, kw⟩) Q E ⟨h, g, d, t, os⟩ := by
  have f3 := tc_sub
  have hT : (⟨h, g, d, t, os⟩ : Shared).TypeIs (.ref C) "type" := ⟨_, hC, rfl⟩
  simp only [checkBuiltinCall, tc_kind, tc_split]
  repeat (any_goals (first | assumption | with_reducible refine wpAny_loadPart_at hC ?_ | with_reducible refine wpAny_onRaise ?_ | with_reducible refine wpAny_map ?_ | wp_step))
theorem call_own_kw (F : ExcBaseFacts B newId initId bmB) (hT : ∀ X : String, bm.contains (.type X) = bmB.contains (.type X)) {rest : List Value} {kw : List (Str × Value)} {fI : Addr}
    (hC : h.get? C = some (excClassObj nm q C N bs bm hdct sn sub ab col dd k0 k1 k2 k3 k5 newId))
    (hi : W.Looks (model prog w) h (typeLookup (.ref C) "__init__") (some (.ref fI))) (hb : ∀ self, W.Looks (model prog w) h (bindSpecial (.ref fI) self) (.ref fI, [self])) (hrest : rest.length ≤ sizeLine) (hkw : kw ≠ [])
    (hq : codeAny (model prog w) (A.under (.builtin "type.__call__" ⟨.ref C :: rest, kw⟩)) (.call (.ref fI) ⟨.ref (h.objs.size + 1) :: rest, kw⟩) (W.InitBack (h.objs.size + 1) R)
      ⟨(h.push (W.kdv_tup rest)).push (excO C h.objs.size), g, d, t, os⟩) :
    codeAny (model prog w) A (.call (.ref C) ⟨rest, kw⟩) R ⟨h, g, d, t, os⟩ := by
  have f1 := tc_lookup
  have f2 := tc_bind (.ref C)
  have hTy : (⟨h, g, d, t, os⟩ : Shared).TypeIs (.ref C) "type" := ⟨_, hC, rfl⟩
  refine codeAny_of_tree ?_
  show wpAny _ _ (callAny (.ref C) _) _ _ _
  repeat (any_goals (first | assumption | with_reducible refine wpAny_loadPart_at hC ?_ | wp_step))
  refine ⟨rfl, ?_⟩
  refine codeAny_call_builtin_at (Code.quiet_builtin _ (by decide +kernel)) entry_typeCall (check_tc_kw hC ?_)
  refine type_call_kw F hT hC hi hb hrest hkw ?_
  refine codeAny_mono hq fun r s' z => ?_
  rcases r with e | (v | _ | _ | _) <;> exact z
end
end VX
namespace VF
open PySem PySem.Spec PyProof.Rows L2
def tMkK (C : Addr) (sp : Sp) (ta tk : TA) : St → Hp → XK → Prop := fun σ H Q => ta σ H fun vs H0 => tk σ H0 fun zs H1 => (vs ++ zs).length ≤ 1000 ∧ ∀ a, H1 a = none → sp (.ref a :: (vs ++ zs)) (upd H1 a (exo a C none))
  (fun v H2 => v = .non ∧ ∃ (d : Addr) (fs : List (Str × V)), H2 a = some (exo a C (some d)) ∧ H2 d = some (exd d fs) ∧ H1 d = none ∧ Q (.ref C) (some d) (upd (del H2 a) d (.xd fs))) (fun _ _ _ => False)
section
variable {X : Cx} {e : Expr} {es : List Expr} {kws : List Keyword} {ta tk : TA} {p pos : Pos}
theorem pmk_kw {CX : CXT} {x : Str} {C fI : Addr} {k n : Nat} {fd : FuncData} {ps names : List Str} {sp : Sp} (T : OexC X.K C) (iC : PySem.W.findIn X.K (.ref C) "__init__" = some (some (.ref fI))) (tI : PySem.W.typeIn X.K (.ref fI) = some (.type "function"))
    (F1 : FnOk X.prog X.w X.K X.mg X.base CX k fI fd ps sp) (hr : Room (k + 1) X.A) (hb : ∀ (s : Shared) (us ks : List Value), X.K.In s.heap → (us ++ ks).length = ps.length → ks.length = names.length → BindsTo s fd ⟨us, names.zip ks⟩ (ps.zip (us ++ ks))) (hx : Passes CX X (fun _ _ _ => False)) (hg : Gl X x) (hm : X.mg x = some (.ref C)) (ha : PA X (e :: es) ta) (hk : PK X kws tk)
    (hnl : ∀ σ H Q, tk σ H Q → tk σ H fun zs H1 => zs.length = names.length ∧ Q zs H1) (hn0 : names ≠ [])
    (hall : (backToKw pos (keywordEach kws X.env)).all (·.1.isSome) = true) (hks : (backToKw pos (keywordEach kws X.env)).filterMap (·.1) = names)
    (hdb : (x == ("__debug__" : Str)) = false) (he : starEach (e :: es) X.env = (false, eval e X.env) :: starEach es X.env) (hpl : ((backTo pos (starEach (e :: es) X.env)).any (·.1) || (backToKw pos (keywordEach kws X.env)).any (·.1.isNone)) = false) :
    L2N.PMk X (.Call (.Name x p) (e :: es) kws pos) (tMkK C sp ta tk) := by
  intro pins s σ H Q I h
  obtain ⟨nm, q, N, bs, bm, sn, sub, ab, col, dd, k0, k1, k2, k3, k5, hC, hbm⟩ := T.cls
  refine wpAny_Call_Name_kw (ld_glob I hg hm ?_ hdb)
  refine PySem.W.callWith_KW (h₀ := X.base) I.ok.mod.kin T.kC hall (thn (ha.run pos pins s σ H _ I h) fun us s0 ⟨vs, H0, I0, r0, q0⟩ => thn (hk.run pos pins s0 σ H0 _ I0 (hnl _ _ _ q0)) fun ks s1 ⟨zs, H1, I1, rz, lz, hlen, q1⟩ => ⟨I1.kIn, ?_⟩) hpl he
  rw [hks]
  show wpAny _ _ (call (.ref C) us (names.zip ks)) _ _ _
  have lk : ks.length = names.length := by rw [← lz]; exact (Paired.length rz).symm
  have hkw : names.zip ks ≠ [] := by
    intro z
    have := congrArg List.length z
    rw [List.length_zip, lk, Nat.min_self] at this
    exact hn0 (List.length_eq_zero_iff.mp this)
  obtain ⟨hp, g, dr, tk', os⟩ := s1
  have hsz : hp.objs.size ≤ hp.objs.size + 1 := Nat.le_succ _
  have hn : H1 (hp.objs.size + 1) = none := I1.hok.fresh hsz
  have hq := q1 (hp.objs.size + 1) hn
  have kk : ∀ b o, hp.get? b = some o → ((hp.push (PySem.W.kdv_tup us)).push (PySem.HandSPX.excO C hp.objs.size)).get? b = some o := fun b o e => Heap.get?_push_of_some _ (Heap.get?_push_of_some _ e)
  have hget : ((hp.push (PySem.W.kdv_tup us)).push (PySem.HandSPX.excO C hp.objs.size)).get? (hp.objs.size + 1) = some (PySem.HandSPX.excO C hp.objs.size) := by heap_get
  have I2 : Inv X pins σ (upd H1 (hp.objs.size + 1) (exo (hp.objs.size + 1) C none)) ⟨(hp.push (PySem.W.kdv_tup us)).push (PySem.HandSPX.excO C hp.objs.size), g, dr, tk', os⟩ :=
    I1.laid (t' := tk') (a := hp.objs.size + 1) (o := exo (hp.objs.size + 1) C none) (h' := (hp.push (PySem.W.kdv_tup us)).push (PySem.HandSPX.excO C hp.objs.size)) kk hsz (exo_ok hget)
  have r2 : Vals (V.ref (hp.objs.size + 1) :: (vs ++ zs)) (Value.ref (hp.objs.size + 1) :: (us ++ ks)) := .cons rfl (r0.append rz)
  have hl : (Value.ref (hp.objs.size + 1) :: us ++ ks).length = ps.length := by
    have e := r2.length
    rw [F1.len _ _ _ _ hq] at e
    exact e.symm
  have hus : us.length ≤ sizeLine := by
    rw [← Paired.length r0, sizeLine_eq]
    rw [List.length_append] at hlen
    omega
  refine wpAny_call (VX.call_own_kw F.excBase_ValueError (fun Y => PySem.HandSPX.refsVE_contains Y bm hbm) (I1.kIn _ _ hC) (PySem.W.looks_findIn I1.kIn iC) (fun self => PySem.W.bind_fn I1.kIn self tI) hus hkw
    (codeAny_mono (F1.run _ X.stack _ _ ⟨Value.ref (hp.objs.size + 1) :: us, names.zip ks⟩ (Value.ref (hp.objs.size + 1) :: (us ++ ks)) _ _ (fun _ _ _ => False) (hr.make C us (names.zip ks)) (I2.env0.make C us (names.zip ks)) (hb _ (Value.ref (hp.objs.size + 1) :: us) ks I2.kIn hl lk) r2 hq) fun r s' hq' => ?_))
  cases r with
  | error er => exact hx pins σ _ _ er s' I2 hq'
  | ok fl =>
    cases fl with
    | ret u =>
      obtain ⟨v, H2, os2, bare2, un2, hok2, rv, ev, d, fs, ea, ed, hd1, q2⟩ := hq'
      subst ev
      obtain ⟨h2, g2, d2, t2, os'⟩ := s'
      exact ⟨rv, mk_endN (raises_own T.exC T.tyC) I1 hsz kk un2 hok2 os2 bare2 ea ed hd1 q2⟩
    | next => exact False.elim hq'
    | brk => exact False.elim hq'
    | cont => exact False.elim hq'
end
end VF
namespace L2
open PySem PySem.Spec PyProof.Rows
section
variable {X : Cx} {e : Expr} {es : List Expr} {t : TA} {p p1 p2 pos : Pos}
theorem pe_clsfn {CX : CXT} {x m : Str} {B f : Addr} {mc : Value} {k : Nat} {fd : FuncData} {ps : List Str} {sp : Sp} {E : XK} {ds : List Value} {dvs : List V} {pl : Sem Bool}
    (F : FnOk X.prog X.w X.K X.mg X.base CX k f fd ps sp) (hr : Room k X.A) (hg : Gl X x) (hm : X.mg x = some (.ref B)) (r : ClX.CRead X.K B mc) (vV : PySem.W.findCls X.K (.ref B) mc m = some (.val (.ref f))) (hk : PySem.W.keepIn X.K (.ref f) = true)
    (hb : Binds X.K fd ps ds) (hd : Vals dvs ds) (hx : Passes CX X E) (ha : PA X (e :: es) t)
    (hc : eval (.Call (.Attribute (.Name x p1) m p2) (e :: es) [] pos) X.env = (do
      let ov ← eval (.Name x p1) X.env
      standAt p2.atName
      let (f, first) ← holding [ov] (getMethod ov m pl)
      callWith pos f first (backTo pos (starEach (e :: es) X.env)) (backToKw pos (keywordEach [] X.env))))
    (hdb : (x == ("__debug__" : Str)) = false) (he : starEach (e :: es) X.env = (false, eval e X.env) :: starEach es X.env := by rfl) (hpl : (backTo pos (starEach es X.env)).any (·.1) = false := by rfl) :
    PE X (.Call (.Attribute (.Name x p1) m p2) (e :: es) [] pos) (tCall sp dvs E t) := by
  refine ⟨fun pins s σ H Q I h => ?_⟩
  refine PySem.W.methodCall_KW (ld_glob I hg hm ?_ hdb) hc
  refine PySem.W.method_cls I.kIn r.ga (PySem.W.cls_value I.kIn r.rd vV rfl ?_)
  refine PySem.W.callWith_K (h₀ := X.base) I.ok.mod.kin hk (thn (ha.run pos pins _ σ H _ (I.tok _) h) fun us s1 ⟨vs, H1, I1, r1, q⟩ => ⟨I1.kIn, ?_⟩) he hpl
  exact run_fn F hr hb hd hx I1 r1 q
end
end L2
namespace VF
open PySem PySem.Spec PyProof.Rows L2
def spS (K : PySem.W.Frag) (fs : List Str) (n : Nat) (g : List V → List (Str × V)) : Sp := fun vs H Q _ => ∃ (a C : Addr) (ws : List V), vs = .ref a :: ws ∧ ws.length = n ∧ OexC K C ∧ (∀ f, f ∈ fs → PySem.W.findIn K (.ref C) f = some none) ∧ H a = some (exo a C none) ∧
  ∀ dx, H dx = none → dx ≠ a → Q .non (upd (upd H dx (exd dx (g ws))) a (exo a C (some dx)))
theorem init_two {M : Md} {qual top tx : Str} {params : Arguments} {scope : Scope} {dvs : List V} {kws : List (Str × V)} {f fP B : Addr} {fd fdP : FuncData} {psP : List Str} {j4} {p1 p2 p3 p4 p5 p6 p7 p8 p9 p10 p11 p12 p13 p14 : Pos}
    (F : FunD M.K "__init__" qual params [.Expr (.Call (.Attribute (.Name top p1) "__init__" p2) [.Name "self" p3, .Constant (.str tx) j4 p4] [] p5) p6, .Assign [.Attribute (.Name "self" p7) "num" p8] (.Name "num" p9) p10, .Assign [.Attribute (.Name "self" p11) "over" p12] (.Name "over" p13) p14] scope dvs kws f fd)
    (S : FnScope ["self", "num", "over"] ["self", "num", "over"] scope) (hg : scope.names.lookup top = some .globalImplicit) (h0 : Vis scope "self") (h1 : Vis scope "num") (h2 : Vis scope "over") (hm : M.mg top = some (.ref B)) (hdb : (top == ("__debug__" : Str)) = false)
    (r : ClX.CRead M.K B (.type "type")) (vV : PySem.W.findCls M.K (.ref B) (.type "type") "__init__" = some (.val (.ref fP))) (hk : PySem.W.keepIn M.K (.ref fP) = true) (FP : FnOk M.P M.w M.K M.mg M.base (L2N.CX M.P M.w) 1 fP fdP psP (spW M.K "why")) {dsP : List Value} (hbd : Vals [] dsP) (hb : Binds M.K fdP psP dsP)
    {plq : Env → Sem Bool} (hev : ∀ env : Env, eval (.Call (.Attribute (.Name top p1) "__init__" p2) [.Name "self" p3, .Constant (.str tx) j4 p4] [] p5) env = (do
      let ov ← eval (.Name top p1) env
      standAt p2.atName
      let (f, first) ← holding [ov] (getMethod ov "__init__" (plq env))
      callWith p5 f first (backTo p5 (starEach [.Name "self" p3, .Constant (.str tx) j4 p4] env)) (backToKw p5 (keywordEach [] env))))
    (hst : ∀ env : Env, starEach [.Name "self" p3, .Constant (.str tx) j4 p4] env = (false, eval (.Name "self" p3) env) :: starEach [.Constant (.str tx) j4 p4] env) (hpl : ∀ env : Env, (backTo p5 (starEach [.Constant (.str tx) j4 p4] env)).any (·.1) = false) :
    FnOk M.P M.w M.K M.mg M.base (L2N.CX M.P M.w) 2 f fd ["self", "num", "over"] (spS M.K ["why", "num", "over"] 2 fun ws => [("over", ws.getD 1 .non), ("num", ws.getD 0 .non), ("why", .str tx)]) := by
  refine F.ok (k := 1) S (fun vs H Q E h => ?_) fun cdv A outer s H vs Q E hr h => ?_
  · obtain ⟨a, C, ws, rfl, hl, _⟩ := h
    simp [hl]
  · refine ⟨tSeq (tDrop (tCall (spW M.K "why") [] (fun _ _ _ => False) (tCons (tVar 0) (tCons (tC (.str tx)) tNil)))) (tSeq (tOst M.K "num" (tVar 0) (tVar 1)) (tOst M.K "over" (tVar 0) (tVar 2))), ?_, ?_⟩
    · have v0 : ∀ {pos : Pos}, PE (cxOf (L2N.CX M.P M.w) M.P M.w M.K M.mg M.base ["self", "num", "over"] qual scope f cdv A outer s H E) (.Name "self" pos) (tVar 0) := fun {pos} => pe_var rfl h0 (by decide +kernel) (by decide +kernel)
      have v1 : ∀ {pos : Pos}, PE (cxOf (L2N.CX M.P M.w) M.P M.w M.K M.mg M.base ["self", "num", "over"] qual scope f cdv A outer s H E) (.Name "num" pos) (tVar 1) := fun {pos} => pe_var rfl h1 (by decide +kernel) (by decide +kernel)
      have v2 : ∀ {pos : Pos}, PE (cxOf (L2N.CX M.P M.w) M.P M.w M.K M.mg M.base ["self", "num", "over"] qual scope f cdv A outer s H E) (.Name "over" pos) (tVar 2) := fun {pos} => pe_var rfl h2 (by decide +kernel) (by decide +kernel)
      have tk := L2N.takes_of (X := cxOf (L2N.CX M.P M.w) M.P M.w M.K M.mg M.base ["self", "num", "over"] qual scope f cdv A outer s H E) rfl rfl rfl rfl
      exact pss_cons (ps_expr (pe_clsfn FP hr hg hm r vV hk hb hbd (L2N.passes_call tk fun _ _ _ _ z => z.elim) (pa_cons v0 (pa_cons pe_str pa_nil)) (hev _) hdb (hst _) (hpl _))) (pss_cons (ps_ost v0 v1) (pss_one (ps_ost v0 v2)))
    · obtain ⟨a, C, ws, rfl, hl, T, hno, ha, q⟩ := h
      obtain ⟨n, o, rfl⟩ : ∃ n o, ws = [n, o] := by
        match ws, hl with
        | [n, o], _ => exact ⟨n, o, rfl⟩
      refine ⟨.ref a, rfl, a, C, .str tx, rfl, T, hno _ (by simp), ha, fun dx hdx hne => ?_⟩
      refine ⟨n, rfl, .ref a, rfl, a, C, rfl, T, hno _ (by simp), .inr ⟨dx, [("why", .str tx)], upd_same, by rw [upd_ne hne, upd_same], by simp, ?_⟩⟩
      refine ⟨o, rfl, .ref a, rfl, a, C, rfl, T, hno _ (by simp), .inr ⟨dx, [("num", n), ("why", .str tx)], by rw [upd_ne hne.symm, upd_same], upd_same, by simp, ?_⟩⟩
      have e : upd (upd (upd (upd H dx (exd dx [("why", V.str tx)])) a (exo a C (some dx))) dx (exd dx [("num", n), ("why", V.str tx)])) dx (exd dx [("over", o), ("num", n), ("why", V.str tx)]) = upd (upd H dx (exd dx [("over", o), ("num", n), ("why", V.str tx)])) a (exo a C (some dx)) := by
        funext b
        by_cases hbd : b = dx
        · subst hbd
          rw [upd_same, upd_ne hne, upd_same]
        · by_cases hba : b = a
          · subst hba
            rw [upd_ne hbd, upd_ne hbd, upd_same, upd_same]
          · rw [upd_ne hbd, upd_ne hbd, upd_ne hba, upd_ne hbd, upd_ne hba, upd_ne hbd]
      show Q .non _
      rw [e]
      exact q dx hdx hne
structure ErS (M : Md) (k : Nat) (c : Str) (fs : List Str) (n : Nat) (gd : List D → List D) (names : List Str) : Prop where
  ex : ∃ C fI fd ps gV, M.mg c = some (.ref C) ∧ OexC M.K C ∧ (∀ f, f ∈ fs → PySem.W.findIn M.K (.ref C) f = some none) ∧ PySem.W.findIn M.K (.ref C) "__init__" = some (some (.ref fI)) ∧ PySem.W.typeIn M.K (.ref fI) = some (.type "function") ∧
    FnOk M.P M.w M.K M.mg M.base (L2N.CX M.P M.w) k fI fd ps (spS M.K fs n gV) ∧ (∀ (F : Addr → Prop) (H : Hp) (ds : List D) (vs : List V), RepL M F H ds vs → vs.length = n → (gV vs).map (·.1) = fs.reverse ∧ RepL M F H (gd ds) ((gV vs).map (·.2))) ∧
    (∀ (s : Shared) (us ks : List Value), M.K.In s.heap → (us ++ ks).length = ps.length → ks.length = names.length → BindsTo s fd ⟨us, names.zip ks⟩ (ps.zip (us ++ ks)))
def raiseD (c : Str) (fs : List Str) (gd : List D → List D) (φs : List ES) : SS := fun ρ => (evs (φs.map .ex) ρ).bindS fun xs ρ' => match vals xs with
  | some ds => .exc ⟨c, fs, gd ds⟩ ρ'
  | none => .bad
theorem vals_len : ∀ {xs : List Ov} {ds : List D}, vals xs = some ds → ds.length = xs.length
  | [], ds, e => by cases e; rfl
  | .val d :: xs, ds, e => by
    obtain ⟨r, e1, rfl⟩ := Option.map_eq_some_iff.mp (show (vals xs).map (d :: ·) = some ds from e)
    simp [vals_len e1]
  | .at i :: xs, ds, e => by cases e
section
variable {M : Md} {cs : Cs} {W : WX} {k : Nat} {X : Cx}
theorem s_raiseD (g : G M cs W k X) {j n : Nat} {c : Str} {fs names : List Str} {gd : List D → List D} {e : Expr} {es : List Expr} {kws : List Keyword} {p p2 pos : Pos} {φs1 φs2 : List ES} (er : ErS M j c fs n gd names) (hj : j + 1 ≤ k) (hg : cs.sc.names.lookup c = some .globalImplicit) (hdb : (c == ("__debug__" : Str)) = false)
    (ha : PA X (e :: es) (tOs M W (φs1.map .ex))) (hkw : PK X kws (tOs M W (φs2.map .ex))) (hn : φs1.length + φs2.length = n) (hn1 : n ≤ 1000) (hk : φs2.length = names.length) (hn0 : names ≠ [])
    (hall : (backToKw p2 (keywordEach kws X.env)).all (·.1.isSome) = true) (hks : (backToKw p2 (keywordEach kws X.env)).filterMap (·.1) = names)
    (hst : starEach (e :: es) X.env = (false, eval e X.env) :: starEach es X.env) (hpl : ((backTo p2 (starEach (e :: es) X.env)).any (·.1) || (backToKw p2 (keywordEach kws X.env)).any (·.1.isNone)) = false) :
    PS X (.Raise (some (.Call (.Name c p) (e :: es) kws p2)) none pos) (tS M W (raiseD c fs.reverse gd (φs1 ++ φs2))) := by
  obtain ⟨C, fI, fd, ps, gV, hC, T, hno, iC, tI, F, hgv, hb⟩ := er.ex
  have hC' := hC
  rw [← g.hP, ← g.hw, ← g.hb, ← g.hK, ← g.hmg] at F
  rw [← g.hK] at T iC tI hb hno
  rw [← g.hmg] at hC
  refine PS_imp (L2N.ps_raise g.calm g.tk (pmk_kw (n := 0) T iC tI F (g.room.mono hj) hb (L2N.passes_call g.tk fun _ _ _ _ z => z.elim) (g.gl hg) hC ha hkw (fun σ H Q h => tOs_mono (tOs_len h) fun vs H1 ⟨l, q⟩ => ⟨by rw [l, List.length_map, hk], q⟩) hn0 hall hks hdb hst hpl)) fun D σ H ⟨F0, ρ, s, h⟩ => ?_
  show tOs M W (φs1.map .ex) σ H fun vs H0 => tOs M W (φs2.map .ex) σ H0 fun zs H1 => _
  refine tOs_two (os1 := φs1.map .ex) (os2 := φs2.map .ex) (Q := fun ws H1 => ws.length ≤ 1000 ∧ ∀ a, H1 a = none → spS X.K fs n gV (.ref a :: ws) (upd H1 a (exo a C none))
    (fun v H2 => v = .non ∧ ∃ (d : Addr) (fs : List (Str × V)), H2 a = some (exo a C (some d)) ∧ H2 d = some (exd d fs) ∧ H1 d = none ∧ W (.ref C) (some d) σ (upd (del H2 a) d (.xd fs))) (fun _ _ _ => False)) ?_
  rw [← List.map_append]
  refine ops_run _ s ?_
  cases ee : evs ((φs1 ++ φs2).map Opd.ex) ρ with
  | bad => unfold raiseD at h; rw [ee] at h; exact h.elim
  | exc x ρ' => unfold raiseD at h; rw [ee] at h; exact fun F' H' cls d po xr => h F' H' σ cls d po.s xr
  | ok xs ρ1 =>
   unfold raiseD at h
   rw [ee] at h
   intro F1 H1 po ws rs
   have z : WantS M W F0 H σ ρ (match vals xs with | some ds => .exc ⟨c, fs.reverse, gd ds⟩ ρ1 | none => .bad) D := h
   cases ev : vals xs with
   | none => simp only [ev] at z; exact z.elim
   | some ds =>
    simp only [ev] at z
    have rl := vals_rep ev rs
    have hl : ws.length = n := by
      rw [← rl.length, vals_len ev, evs_length ee, List.length_map, List.length_append, hn]
    obtain ⟨g1, g2⟩ := hgv _ _ _ _ rl hl
    refine ⟨by omega, fun a ha => ?_⟩
    refine ⟨a, C, ws, rfl, hl, T, hno, upd_same, fun dx hdx hne => ⟨rfl, dx, gV ws, upd_same, ?_, ?_, ?_⟩⟩
    · rw [upd_ne hne, upd_same]
    · rw [upd_ne hne] at hdx; exact hdx
    · rw [made_heap ha hne]
      have hdx1 : H1 dx = none := by rw [upd_ne hne] at hdx; exact hdx
      have nw0 : New F1 H1 F1 (upd H1 dx (.xd (gV ws))) := New.laid po.sr.dom hdx1
      have nw : New F1 H1 (fun b => F1 b ∨ b = dx) (upd H1 dx (.xd (gV ws))) := ⟨nw0.keep, fun _ h => .inl h, fun b h => h.imp id fun h => by rw [h]; exact hdx1, fun b h => by
        rcases h with h | h
        · exact nw0.dom b h
        · rw [h, upd_same]; exact fun q => by cases q⟩
      have po3 := nw.po po.sr
      exact z _ _ σ (.ref C) (some dx) (po.trans po3).s ⟨C, dx, gV ws, hC', rfl, rfl, .inr rfl, upd_same, g1, RepL.mono nw.ext _ g2⟩
end
end VF
namespace VF
open PySem PySem.Spec PyProof.Rows L2
theorem clf_of {K : PySem.W.Frag} {top m : Str} (h : clfB top m K = true) : ClX.CRead K (He.ga K top) (.type "type") ∧ PySem.W.findCls K (.ref (He.ga K top)) (.type "type") m = some (.val (.ref (He.fAd K (top, some m)))) ∧ PySem.W.keepIn K (.ref (He.fAd K (top, some m))) = true := by
  unfold clfB at h
  simp only [Bool.and_eq_true] at h
  obtain ⟨h1, h2, h3, h4⟩ := h
  refine ⟨⟨h1, He.eqO_ok h2⟩, ?_, h4⟩
  split at h3
  · rename_i v e
    rw [e, of_decide_eq_true h3]
  · cases h3
theorem ers_of {M : Md} {c : Str} {fs names : List Str} {n j : Nat} {gd : List D → List D} {fd : FuncData} {ps : List Str} {gV : List V → List (Str × V)} (hm : M.mg c = some (.ref (He.ga M.K c))) (h : ersB c fs M.K = true) (F : FnOk M.P M.w M.K M.mg M.base (L2N.CX M.P M.w) j (He.fAd M.K (c, some "__init__")) fd ps (spS M.K fs n gV))
    (hg : ∀ (F : Addr → Prop) (H : Hp) (ds : List D) (vs : List V), RepL M F H ds vs → vs.length = n → (gV vs).map (·.1) = fs.reverse ∧ RepL M F H (gd ds) ((gV vs).map (·.2)))
    (hb : ∀ (s : Shared) (us ks : List Value), M.K.In s.heap → (us ++ ks).length = ps.length → ks.length = names.length → BindsTo s fd ⟨us, names.zip ks⟩ (ps.zip (us ++ ks))) : ErS M j c fs n gd names := by
  unfold ersB at h
  simp only [Bool.and_eq_true, decide_eq_true_eq, List.all_eq_true] at h
  obtain ⟨h1, h2, h3, h4⟩ := h
  exact ⟨_, _, fd, ps, gV, hm, oex_of h1, fun f hf => He.eqO_ok (h2 f hf), He.eqO_ok h3, h4, F, hg, hb⟩
theorem ers_bind {K : PySem.W.Frag} {x qual : Str} {names : List Str} {params : Arguments} {body : List Stmt} {scope : Scope} {f : Addr} {fd : FuncData} {ps : List Str} (np : Nat) (hnp : np + names.length = ps.length) (F : FunD K x qual params body scope [] [] f fd)
    (h : ∀ (kV doc pm : Value) (an : Option Addr) (cdv ct : Value) (us ks : List Value), us.length = np → ks.length = names.length → bindArgs (PySem.W.fnOf x qual params body scope .none kV doc pm an cdv ct) ⟨us, names.zip ks⟩ = pure (ps.zip (us ++ ks))) : ∀ (s : Shared) (us ks : List Value), K.In s.heap → (us ++ ks).length = ps.length → ks.length = names.length → BindsTo s fd ⟨us, names.zip ks⟩ (ps.zip (us ++ ks)) := by
  obtain ⟨oc, od, dV, kV, doc, pm, an, cdv, ct, osl, rfl, lk, hcd, hD, hK⟩ := F.ex
  rcases hD with ⟨_, rfl⟩ | ⟨e, _⟩
  · exact fun s us ks _ h1 h2 => .of_eq (h kV doc pm an cdv ct us ks (by rw [List.length_append] at h1; omega) h2)
  · exact absurd rfl e
def noShD (ds : List D) : List D := [ds.getD 1 .non, ds.getD 0 .non, .str "over nought"]
def noShV (ws : List V) : List (Str × V) := [("over", ws.getD 1 .non), ("num", ws.getD 0 .non), ("why", .str "over nought")]
theorem noSh_rel {M : Md} (F : Addr → Prop) (H : Hp) (ds : List D) (vs : List V) (r : RepL M F H ds vs) (hl : vs.length = 2) : (noShV vs).map (·.1) = (["why", "num", "over"] : List Str).reverse ∧ RepL M F H (noShD ds) ((noShV vs).map (·.2)) := by
  match vs, hl with
  | [v1, v2], _ =>
    have l := r.length
    match ds, l with
    | [d1, d2], _ =>
      obtain ⟨a, t, e1, p1, r1⟩ := r
      cases e1
      obtain ⟨b, t, e2, p2, r2⟩ := r1
      cases e2
      exact ⟨rfl, .cons p2 (.cons p1 (.cons (by unfold Rep; rfl) .nil))⟩
section
variable {κ : Type} {K : Kn κ} {ρ : En}
theorem k_raiseD2 {o1 o2 : Bool} {c0 : Str} {fs : List Str} {gd : List D → List D} {φ1 φ2 : ES} {c1 c2 : R D} (h1 : EvP o1 φ1 ρ c1) (h2 : EvP o2 φ2 ρ c2) : K.p (raiseD c0 fs gd [φ1, φ2] ρ) (c1.bind fun d1 => c2.bind fun d2 => .exc ⟨c0, fs, gd [d1, d2]⟩) := by
  have h := eps_cons h1 (eps_cons h2 eps_nil)
  rw [show (c1.bind fun d1 => c2.bind fun d2 => (R.exc ⟨c0, fs, gd [d1, d2]⟩ : R κ)) = (seqR [c1, c2]).bind fun ds => .exc ⟨c0, fs, gd ds⟩ by simp only [seqR_cons, seqR_nil, R.bind_assoc, R.bind_ok]]
  generalize seqR [c1, c2] = k at h ⊢
  cases k with
  | bad => exact K.bad _
  | exc x =>
    have e : raiseD c0 fs gd [φ1, φ2] ρ = .exc x ρ := by unfold raiseD; rw [show evs (List.map Opd.ex [φ1, φ2]) ρ = .exc x ρ from h]; rfl
    rw [e]
    exact K.ex _ _
  | ok ds =>
    obtain ⟨xs, e1, e2⟩ := h
    have e : raiseD c0 fs gd [φ1, φ2] ρ = .exc ⟨c0, fs, gd ds⟩ ρ := by unfold raiseD; rw [e1]; show (match vals xs with | some ds => SO.exc ⟨c0, fs, gd ds⟩ ρ | none => .bad) = _; rw [e2]
    rw [e]
    exact K.ex _ _
end
end VF
namespace VF
open PySem PySem.Spec PyProof.Rows L2
structure UnV (M : Md) (k : Nat) (c m : Str) (φ : FSem) : Prop where
  ex : ∃ C f fd ps, c ∈ M.cls ∧ M.mg c = some (.ref C) ∧ PySem.W.findIn M.K (.ref C) m = some (some (.ref f)) ∧ PySem.W.isFn M.K (.ref f) = true ∧ FnOk M.P M.w M.K M.mg M.base (L2N.CX M.P M.w) k f fd ps (spF M 1 φ) ∧ ps.length = 1 ∧ Binds M.K fd ps []
def unI (c : Str) (φ : FSem) (o : Opd) : ES := fun ρ => (o.ev ρ).bind fun x ρ0 => match x.dat ρ0 with
  | some (.ins c1 _ _) => if c1 = c then (callT φ [x] [] ρ0).bind fun r ρ2 => (match r with
    | .val (.str b) => .ok (.val (.str b)) ρ2
    | _ => .bad) else .bad
  | _ => .bad
section
variable {M : Md} {cs : Cs} {W : WX} {k : Nat} {X : Cx}
theorem unI_run (hx : M.xn = none) {c : Str} {φ : FSem} {o : Opd} {C : Addr} {σ : St} {H : Hp} {Q : VK} (hC : M.mg c = some (.ref C)) (h : tE M W (unI c φ o) σ H Q) :
    tO M W o σ H fun x H2 => ∃ a dx fs, x = .ref a ∧ H2 a = some (.ins C dx fs) ∧ spF M 1 φ [x] H2 (fun v H' => ∃ r, v = .str r ∧ Q (.str r) H') fun cls d H' => W cls d σ H' := by
  obtain ⟨F, ρ, s, h⟩ := h
  refine op_bind s h fun x F2 H2 ρ2 v po2 rv q => ?_
  cases e : x.dat ρ2 with
  | none => simp only [e] at q; exact q.elim
  | some d =>
    cases d with
    | ins c1 fs ds =>
      simp only [e] at q
      by_cases hc : c1 = c
      · rw [if_pos hc] at q
        obtain ⟨a, C', dx, vs, rfl, ⟨_, hm'⟩, ha, _, _⟩ := (rv.od po2.sr e).ins
        rw [hc, hC] at hm'
        cases hm'
        refine ⟨a, dx, vs, rfl, ha, ?_⟩
        refine callT_run (dd := []) (dvs := []) hx (xs := [x]) (vs := [.ref a]) po2.sr ⟨_, _, rfl, rv, rfl⟩ rfl rfl ?_
        cases ec : callT φ [x] [] ρ2 with
        | bad => rw [ec] at q; exact q.elim
        | exc z ρ3 => rw [ec] at q; exact fun F3 H3 cls d po3 xr => q F3 H3 cls d po3 xr
        | ok r ρ3 =>
          rw [ec] at q
          intro F3 H3 po3 v rv3
          cases r with
          | own d => exact q.elim
          | val d =>
            cases d with
            | str bb =>
              have rv3 : Rep M F3 H3 (.str bb) v := rv3
              unfold Rep at rv3
              refine ⟨bb, rv3, ?_⟩
              exact q F3 H3 po3 (po2.trans po3) _ (by show Rep M F3 H3 (.str _) _; unfold Rep; rfl)
            | _ => exact q.elim
      · rw [if_neg hc] at q
        exact q.elim
    | _ => simp only [e] at q; exact q.elim
def rUn (M : Md) (φ : FSem) (C : Addr) (E : XK) : List V → Hp → VK → Prop := fun vs H Q => ∃ a dx fs, vs = [.ref a] ∧ H a = some (.ins C dx fs) ∧ spF M 1 φ [.ref a] H (fun v H' => ∃ r, v = .str r ∧ Q (.str r) H') E
theorem strBack {pins : List (Addr × Obj)} {σ : St} {Q : VK} {w : Value} {s' : Shared} (hq : EP X pins σ (fun v H' => ∃ r, v = .str r ∧ Q (.str r) H') w s') : PySem.W.StrBack (EP X pins σ Q) w s' := by
  obtain ⟨z, H', I', rz, r, ez, qz⟩ := hq
  subst ez
  obtain ⟨t, rfl⟩ := rz
  exact ⟨.str r, H', I', ⟨t, rfl⟩, qz⟩
theorem un_run (g : G M cs W k X) {j : Nat} {φ : FSem} {f : Addr} {fd : FuncData} {ps : List Str} {A : Around} (F : FnOk X.prog X.w X.K X.mg X.base (L2N.CX X.prog X.w) j f fd ps (spF M 1 φ)) (hps : ps.length = 1) (hb : Binds X.K fd ps []) (hr : Room j A) {pins : List (Addr × Obj)} {σ : St} {H : Hp} {s : Shared} {Q : VK} {a : Addr} (I : Inv X pins σ H s)
    (he : Env0 X.prog X.w X.K X.mg X.base A X.stack s H) (h : spF M 1 φ [.ref a] H (fun v H' => ∃ r, v = .str r ∧ Q (.str r) H') fun cls d H' => W cls d σ H') : wpAny (model X.prog X.w) A (call (.ref f) [.ref a]) (PySem.W.StrBack (EP X pins σ Q)) X.xe s := by
  have r2 : Vals [V.ref a] [Value.ref a] := .cons rfl .nil
  have hl : [Value.ref a].length = ps.length := by rw [hps]; rfl
  refine wpAny_call (codeAny_mono (F.run A X.stack s H ⟨[.ref a], []⟩ ([.ref a] ++ []) ([.ref a] ++ []) _ _ hr he (hb s [.ref a] I.kIn (by simpa using hl)) (r2.append .nil) h) fun r s' hq => ?_)
  cases r with
  | error e => exact g.tk e s' (L2N.XE.of_call I (fun cls d H' h => h) hq)
  | ok fl =>
    cases fl with
    | ret w => exact strBack (I.after hq)
    | next => exact False.elim hq
    | brk => exact False.elim hq
    | cont => exact False.elim hq
theorem c_unR (g : G M cs W k X) {j : Nat} {φ : FSem} {C f : Addr} {fd : FuncData} {ps : List Str} (hj : j + 1 ≤ k) (F : FnOk X.prog X.w X.K X.mg X.base (L2N.CX X.prog X.w) j f fd ps (spF M 1 φ)) (hps : ps.length = 1) (hb : Binds X.K fd ps []) (hs : PySem.W.findIn X.K (.ref C) "__repr__" = some (some (.ref f))) (hf : PySem.W.isFn X.K (.ref f) = true) {σ0 : St} :
    ∀ (pins : List (Addr × Obj)) (s : Shared) (H : Hp) (xs : List V) (us : List Value) (Q : VK), Inv X pins σ0 H s → Vals xs us → rUn M φ C (fun cls d H' => W cls d σ0 H') xs H Q → wpAny (model X.prog X.w) X.A (call (.builtin "repr") us) (EP X pins σ0 Q) X.xe s := by
  intro pins s H xs us Q I r ⟨a, dx, fs, ex, ha, q⟩
  subst ex
  obtain ⟨u, rfl, ru⟩ := vals1 r
  obtain rfl : u = Value.ref a := ru
  obtain ⟨mA, J, _⟩ := ins_get I.hok ha
  obtain ⟨od, J, _⟩ := J.look
  obtain ⟨m, hF⟩ := I.fr
  have hr : Room j X.A.in1 := (g.room.mono hj).in1
  exact PySem.W.repr_K (by have := hr.units0; exact this) hF I.ok.mod.kin J hs hf (un_run g F hps hb hr I I.env0.in1 q)
theorem c_unS (g : G M cs W k X) {j : Nat} {φ : FSem} {C f : Addr} {fd : FuncData} {ps : List Str} (hj : j + 1 + 1 ≤ k) (F : FnOk X.prog X.w X.K X.mg X.base (L2N.CX X.prog X.w) j f fd ps (spF M 1 φ)) (hps : ps.length = 1) (hb : Binds X.K fd ps []) (hs : PySem.W.findIn X.K (.ref C) "__str__" = some (some (.ref f))) (hf : PySem.W.isFn X.K (.ref f) = true) {σ0 : St} :
    ∀ (pins : List (Addr × Obj)) (s : Shared) (H : Hp) (xs : List V) (us : List Value) (Q : VK), Inv X pins σ0 H s → Vals xs us → rUn M φ C (fun cls d H' => W cls d σ0 H') xs H Q → wpAny (model X.prog X.w) X.A (call (.type "str") us) (EP X pins σ0 Q) X.xe s := by
  intro pins s H xs us Q I r ⟨a, dx, fs, ex, ha, q⟩
  subst ex
  obtain ⟨u, rfl, ru⟩ := vals1 r
  obtain rfl : u = Value.ref a := ru
  obtain ⟨mA, J, _⟩ := ins_get I.hok ha
  obtain ⟨od, J, _⟩ := J.look
  have hr : Room j X.A.in1.in1 := ((g.room.mono hj).in1 (k := j + 1)).in1
  exact PySem.W.kso_call (by have := hr.units0; exact this) I.kIn J hs hf (un_run g F hps hb hr I I.env0.in1.in1 q)
theorem e_unR (g : G M cs W k X) {j : Nat} {c : Str} {φ : FSem} {e : Expr} {o : Opd} {p pos : Pos} (uv : UnV M j c "__repr__" φ) (hj : j + 1 ≤ k) (hg : cs.sc.names.lookup ("repr" : Str) = some .globalImplicit) (hm : M.mg "repr" = none) (he : PE X e (tO M W o)) (hst : starEach [e] X.env = (false, eval e X.env) :: starEach [] X.env) :
    PE X (.Call (.Name "repr" p) [e] [] pos) (tE M W (unI c φ o)) := by
  obtain ⟨C, f, fd, ps, hcl, hC, hs, hf, F, hps, hb⟩ := uv.ex
  rw [← g.hP, ← g.hw, ← g.hb, ← g.hK, ← g.hmg] at F
  rw [← g.hK] at hs hf hb
  refine ⟨fun pins s σ H Q I h => ?_⟩
  refine wpAny_Call_Name_kw (ld_blt I (g.gl hg) (by rw [g.hmg]; exact hm) (show bootBuiltins ("repr" : Str) = some (.builtin "repr") from by decide +kernel) ?_ (by decide) (by decide))
  exact PyProof.Rows.callWith_builtin1 (thn ((pa_cons he pa_nil hst).run pos pins _ σ H _ (I.tok _) (show tCons (tO M W o) tNil σ H (fun vs H2 => rUn M φ C (fun cls d H' => W cls d σ H') vs H2 Q) from tO_mono (unI_run g.nx hC h) fun x H2 ⟨a, dx, fs, e1, e2, e3⟩ => (show rUn M φ C (fun cls d H' => W cls d σ H') [x] H2 Q from ⟨a, dx, fs, by rw [e1], e2, by rw [← e1]; exact e3⟩))) fun us s1 ⟨vs, H1, I1, r1, q1⟩ => c_unR g hj F hps hb hs hf pins s1 H1 vs us Q I1 r1 q1) hst rfl
theorem e_unS (g : G M cs W k X) {j : Nat} {c : Str} {φ : FSem} {e : Expr} {o : Opd} {p pos : Pos} (uv : UnV M j c "__str__" φ) (hj : j + 1 + 1 ≤ k) (hg : cs.sc.names.lookup ("str" : Str) = some .globalImplicit) (hm : M.mg "str" = none) (he : PE X e (tO M W o)) (hst : starEach [e] X.env = (false, eval e X.env) :: starEach [] X.env) :
    PE X (.Call (.Name "str" p) [e] [] pos) (tE M W (unI c φ o)) := by
  obtain ⟨C, f, fd, ps, hcl, hC, hs, hf, F, hps, hb⟩ := uv.ex
  rw [← g.hP, ← g.hw, ← g.hb, ← g.hK, ← g.hmg] at F
  rw [← g.hK] at hs hf hb
  refine ⟨fun pins s σ H Q I h => ?_⟩
  refine wpAny_Call_Name_kw (ld_blt I (g.gl hg) (by rw [g.hmg]; exact hm) (show bootBuiltins ("str" : Str) = some (.type "str") from by decide +kernel) ?_ (by decide) (by decide))
  exact PyProof.Rows.callWith_type1 (thn ((pa_cons he pa_nil hst).run pos pins _ σ H _ (I.tok _) (show tCons (tO M W o) tNil σ H (fun vs H2 => rUn M φ C (fun cls d H' => W cls d σ H') vs H2 Q) from tO_mono (unI_run g.nx hC h) fun x H2 ⟨a, dx, fs, e1, e2, e3⟩ => (show rUn M φ C (fun cls d H' => W cls d σ H') [x] H2 Q from ⟨a, dx, fs, by rw [e1], e2, by rw [← e1]; exact e3⟩))) fun us s1 ⟨vs, H1, I1, r1, q1⟩ => c_unS g hj F hps hb hs hf pins s1 H1 vs us Q I1 r1 q1) hst rfl
end
def unR (cl : Str) (c : D → R D) (x : D) : R D := match x with
  | .ins c1 _ _ => if c1 = cl then (c x).bind fun d => (match d with
    | .str b => .ok (.str b)
    | _ => .bad) else .bad
  | _ => .bad
section
variable {ρ : En} {o : Bool} {xf : FSem} {o1 : Opd} {c1 : R D} {c : Str}
theorem ev_unI {f : D → R D} (h1 : EvA o1 ρ c1) (hf : ∀ a, FnP o xf [a] (f a)) : EvP false (unI c xf o1) ρ (c1.bind fun a => unR c f a) := by
  cases c1 with
  | bad => trivial
  | exc x =>
    show unI c xf o1 ρ = .exc x ρ
    unfold unI
    rw [show o1.ev ρ = .exc x ρ from h1]
    rfl
  | ok a =>
    rw [R.bind_ok]
    obtain ⟨x, e1, e2⟩ := id h1
    have d1 := slO_dat e2
    have hq : EvP o (callF xf [o1] []) ρ (f a) := ev_call1 (dd := []) h1 hf
    have ecf : callF xf [o1] [] ρ = callT xf [x] [] ρ := by
      have e6 : evs [o1] ρ = .ok [x] ρ := by
        show (o1.ev ρ).bind _ = _
        rw [e1]
        rfl
      unfold callF callT
      rw [e6]
      rfl
    have e0 : unI c xf o1 ρ = (match x.dat ρ with
        | some (.ins c1 _ _) => if c1 = c then (callT xf [x] [] ρ).bind fun r ρ2 => (match r with
          | .val (.str b) => .ok (.val (.str b)) ρ2
          | _ => .bad) else .bad
        | _ => .bad) := by
      unfold unI
      rw [e1]
      rfl
    cases a with
    | ins c1' fs ds =>
      rw [d1] at e0
      simp only at e0
      show EvP false _ ρ (if c1' = c then _ else .bad)
      by_cases hc : c1' = c
      · rw [if_pos hc] at e0 ⊢
        rw [← ecf] at e0
        cases ef : f (.ins c1' fs ds) with
        | bad => trivial
        | exc z =>
          rw [ef] at hq
          show unI c xf o1 ρ = .exc z ρ
          rw [e0, show callF xf [o1] [] ρ = .exc z ρ from hq]
          rfl
        | ok d =>
          rw [ef] at hq
          obtain ⟨r, e5, rk⟩ := hq
          rw [R.bind_ok]
          cases d with
          | str bb =>
            have er := val_of rk rfl
            subst er
            exact ⟨.val (.str bb), by rw [e0, e5]; rfl, .inr ⟨rfl, rfl⟩⟩
          | _ => trivial
      · rw [if_neg hc]
        trivial
    | _ => trivial
end
def fFmt : List D → Option Rv
  | [.str y] => if y.length ≤ 1000000 then some (.val (.str y)) else none
  | [.int i] => if i.natAbs.log2 < 1920 then some (.val (.str (toString i))) else none
  | _ => none
def fstrA : List ES → Str → ES
  | [], acc => fun ρ => .ok (.val (.str acc)) ρ
  | φ :: φs, acc => fun ρ => (φ ρ).bind fun r ρ' => match r with
    | .val (.str y) => if (acc ++ y).length ≤ 1000000 then fstrA φs (acc ++ y) ρ' else .bad
    | _ => .bad
section
variable {M : Md} {cs : Cs} {W : WX} {k : Nat} {X : Cx}
theorem e_fmt {e : Expr} {o : Opd} {pos : Pos} (he : PE X e (tO M W o)) : PE X (.FormattedValue e (-1) none pos) (tE M W (app fFmt [o])) :=
  PE_imp (pe_fmt he) fun σ H Q h => tO_mono (M := M) (W := W) (o := o) (app_run (prim_ok M fFmt) h) fun v H1 ⟨F, ds, rv, hd, od, ef, q⟩ => by
    unfold fFmt at ef
    split at ef
    · obtain ⟨w, e1, r⟩ := od.one
      cases e1
      cases r.str
      split at ef
      · rename_i hl
        cases ef
        exact .inl ⟨_, rfl, by rw [sizeLine_eq]; omega, rv_same hd q (by show Rep M F H1 (.str _) _; unfold Rep; rfl)⟩
      · cases ef
    · obtain ⟨w, e1, r⟩ := od.one
      cases e1
      cases r.int
      split at ef
      · rename_i hl
        cases ef
        exact .inr ⟨_, rfl, hl, rv_same hd q (by show Rep M F H1 (.str _) _; unfold Rep; rfl)⟩
      · cases ef
    · cases ef
theorem fstr_run : ∀ (φs : List ES) (acc : Str) {σ : St} {H : Hp} {Q : VK}, tE M W (fstrA φs acc) σ H Q → tJs (φs.map (tE M W)) acc σ H fun out H1 => Q (.str out) H1
  | [], acc, σ, H, Q, ⟨F, ρ, s, h⟩ => h F H (.refl s) (.str acc) (by show Rep M F H (.str _) _; unfold Rep; rfl)
  | φ :: φs, acc, σ, H, Q, ⟨F, ρ, s, h⟩ => by
    show tE M W φ σ H fun x H1 => ∃ y : Str, x = .str y ∧ (acc ++ y).length ≤ sizeLine ∧ tJs (φs.map (tE M W)) (acc ++ y) σ H1 _
    refine tE_of' s h fun r F1 H1 ρ1 v po rv q => ?_
    cases r with
    | own d => exact q.elim
    | val d =>
      cases d with
      | str y =>
        have rv' : Rep M F1 H1 (.str y) v := rv
        unfold Rep at rv'
        simp only at q
        split at q
        · rename_i hl
          refine ⟨y, rv', by rw [sizeLine_eq]; omega, fstr_run φs (acc ++ y) ⟨F1, ρ1, po.sr, ?_⟩⟩
          revert q
          cases fstrA φs (acc ++ y) ρ1 with
          | bad => exact id
          | exc z ρ3 => exact fun q F3 H3 cls d po3 xr => q F3 H3 cls d po3 xr
          | ok r ρ3 => exact fun q F3 H3 po3 w rw' => q F3 H3 po3 (po.trans po3) w (rw'.from fun b z => po.stp.dom b z)
        · exact q.elim
      | _ => exact q.elim
theorem e_fstr {v1 v2 : Expr} {rest : List Expr} {φs : List ES} {pos : Pos} (h : PJ X (v1 :: v2 :: rest) (φs.map (tE M W))) : PE X (.JoinedStr (v1 :: v2 :: rest) pos) (tE M W (fstrA φs Str.empty)) :=
  PE_imp (pe_joined h) fun σ H Q q => fstr_run φs Str.empty q
end
def fstrC : List (R D) → Str → R D
  | [], acc => .ok (.str acc)
  | c :: cs, acc => c.bind fun d => match d with
    | .str y => if (acc ++ y).length ≤ 1000000 then fstrC cs (acc ++ y) else .bad
    | _ => .bad
inductive EvJ (ρ : En) : List ES → List (R D) → Prop where
  | nil : EvJ ρ [] []
  | cons {φ : ES} {c : R D} {φs : List ES} {cs : List (R D)} (h : EvP false φ ρ c) (r : EvJ ρ φs cs) : EvJ ρ (φ :: φs) (c :: cs)
theorem ev_fstrA {ρ : En} {φs : List ES} {cs : List (R D)} (h : EvJ ρ φs cs) : ∀ acc, EvP false (fstrA φs acc) ρ (fstrC cs acc) := by
  induction h with
  | nil => exact fun acc => ⟨.val (.str acc), rfl, .inr ⟨rfl, rfl⟩⟩
  | @cons φ c φs cs h r ih =>
    intro acc
    cases c with
    | bad => trivial
    | exc x =>
      show fstrA (φ :: φs) acc ρ = .exc x ρ
      show (φ ρ).bind _ = _
      rw [show φ ρ = .exc x ρ from h]
      rfl
    | ok d =>
      obtain ⟨rv, e, rk⟩ := h
      cases d with
      | str y =>
        have er := val_of rk rfl
        subst er
        have z := ih (acc ++ y)
        have e1 : fstrA (φ :: φs) acc ρ = if (acc ++ y).length ≤ 1000000 then fstrA φs (acc ++ y) ρ else .bad := by
          show (φ ρ).bind _ = _
          rw [e]
          rfl
        show EvP false _ ρ (if (acc ++ y).length ≤ 1000000 then fstrC cs (acc ++ y) else .bad)
        by_cases hl : (acc ++ y).length ≤ 1000000
        · rw [if_pos hl] at e1 ⊢
          cases ec : fstrC cs (acc ++ y) with
          | bad => trivial
          | exc x => rw [ec] at z; show fstrA (φ :: φs) acc ρ = _; rw [e1]; exact z
          | ok d => rw [ec] at z; obtain ⟨r1, z1, z2⟩ := z; exact ⟨r1, by rw [e1]; exact z1, z2⟩
        · rw [if_neg hl]
          trivial
      | _ => trivial
end VF
namespace VF
open PySem PySem.Spec PyProof.Rows L2
def mkZ (c : Str) (φ : FSem) (zs : List Ov) : En → Out Rv := fun ρ1 => match slOs ρ1 zs with
  | some sls => if ndB (tpI ρ1 zs) = true then (match φ (.ref (.ins c [] []) :: sls) with
    | .ok (.val .non) (.ref d' :: outs) => .ok (.own d') (back zs outs ρ1)
    | .exc x (.ref _ :: outs) => .exc x (back zs outs ρ1)
    | _ => .bad) else .bad
  | none => .bad
def mkK (c : Str) (φ : FSem) (os : List Opd) (sel : List Pk) : ES := fun ρ => (evs os ρ).bind fun xs ρ1 => mkZ c φ (pkO xs sel) ρ1
structure MkVK (M : Md) (k : Nat) (c : Str) (n : Nat) (ks : List Str) (sel : List Pk) (φ : FSem) : Prop where
  ex : ∃ C f fd ps g gV, (c ∈ M.cls ∧ M.mg c = some (.ref C)) ∧ Mk M.K C f ∧ FnOk M.P M.w M.K M.mg M.base (L2N.CX M.P M.w) k f fd ps (spF M (sel.length + 1) φ) ∧ KBn M.K fd ps (n + 1) ks g gV ∧ ∀ x vs zs, vs.length = n → zs.length = ks.length → ∃ rs, gV (x :: vs) zs = x :: rs ∧ PkV M (vs ++ zs) sel rs
section
variable {M : Md} {cs : Cs} {W : WX} {k : Nat} {X : Cx}
theorem mkK_run (hn0 : M.xn = none) {c : Str} {C : Addr} {φ : FSem} {os : List Opd} {sel : List Pk} {σ : St} {H : Hp} {Q : VK} (hc : c ∈ M.cls ∧ M.mg c = some (.ref C)) (h : tE M W (mkK c φ os sel) σ H Q) :
    tOs M W os σ H fun vs H1 => vs.length = os.length ∧ ∀ rs, PkV M vs sel rs → ∀ x dx, H1 x = none → H1 dx = none → dx ≠ x → spF M (sel.length + 1) φ (.ref x :: rs) (upd (upd H1 dx (.own x)) x (.ins C dx [])) (fun v H2 => v = .non ∧ Q (.ref x) H2) fun cls d H' => W cls d σ H' := by
  obtain ⟨F, ρ, s, h⟩ := h
  refine ops_run _ s ?_
  cases ev : evs os ρ with
  | bad => simp only [mkK, ev] at h; exact h
  | exc x ρ' => simp only [mkK, ev] at h; exact h
  | ok xs ρ1 =>
    simp only [mkK, ev, Out.bind] at h
    intro F1 H1 po vs rs0
    refine ⟨by rw [rs0.length, evs_length ev], fun ws hw x dx hx hdx hne => ?_⟩
    have rs' := hw.ov rs0
    generalize ez : pkO xs sel = zs at h rs'
    unfold mkZ at h
    cases e1 : slOs ρ1 zs with
    | none => simp only [e1] at h; exact h.elim
    | some sls =>
      simp only [e1] at h
      by_cases nd : ndB (tpI ρ1 zs) = true
      · rw [if_pos nd] at h
        obtain ⟨nn, sm⟩ := made_sr hn0 po.sr hc hx hdx hne
        have rs2 : OvRs M F1 (upd (upd H1 dx (.own x)) x (.ins C dx [])) (σ ++ [some (.ref x)]) (.at ρ1.length :: zs) (.ref x :: ws) :=
          ⟨_, _, rfl, by show gv _ _ = _; rw [← po.sr.len]; exact gv_last, rs'.app nn.ext⟩
        have e2 : slOs (ρ1 ++ [some (.own (.ins c [] []))]) (.at ρ1.length :: zs) = some (.ref (.ins c [] []) :: sls) := by
          unfold slOs
          rw [slOs_app e1]
          have : slO (ρ1 ++ [some (.own (.ins c [] []))]) (.at ρ1.length) = some (.ref (.ins c [] [])) := by
            rw [slO_at, gt_last]
          rw [this]
        obtain ⟨t1, t2⟩ := tpI_app (τ := [some (.own (.ins c [] []))]) e1
        have nd2 : ndB (tpI (ρ1 ++ [some (.own (.ins c [] []))]) (.at ρ1.length :: zs)) = true := by
          have it : isTop (ρ1 ++ [some (.own (.ins c [] []))]) ρ1.length = true := by
            unfold isTop
            rw [gt_last]
            rfl
          unfold tpI
          rw [if_pos it, t1]
          unfold ndB
          rw [nd]
          simp
          exact fun z => absurd (t2 _ z) (Nat.lt_irrefl _)
        obtain ⟨sa, hno⟩ := args_sr hn0 sm rs2 e2 nd2
        refine ⟨by rw [List.length_cons, hw.length], F1, _, sa, hno, ?_⟩
        have bl : ∀ outs : List Sl, (back zs outs ρ1).length = ρ1.length := fun outs => by simp [back]
        cases ef : φ (.ref (.ins c [] []) :: sls) with
        | bad => simp only [ef] at h; exact h
        | ok r outs =>
          simp only [ef] at h
          split at h
          · rename_i d' outs' heq
            cases heq
            intro F2 H2 v po2 rv
            have rv : Rep M F2 H2 .non v := rv
            unfold Rep at rv
            refine ⟨rv, ?_⟩
            have po3 := back_po hn0 sm rs2 e2 nd2 po2
            rw [back_app] at po3
            obtain ⟨po4, rx⟩ := made_po hn0 po.sr hx hdx hne (bl _) po3
            exact h F2 H2 (po.trans po4) (.ref x) (rx.from fun a z => po.stp.dom a z)
          · rename_i heq; cases heq
          · exact h.elim
        | exc y outs =>
          simp only [ef] at h
          split at h
          · rename_i heq; cases heq
          · rename_i y' d' outs' heq
            cases heq
            intro F2 H2 cls d po2 xr
            have po3 := back_po hn0 sm rs2 e2 nd2 po2
            rw [back_app] at po3
            obtain ⟨po4, _⟩ := made_po hn0 po.sr hx hdx hne (bl _) po3
            exact h F2 H2 cls d (po.trans po4) xr
          · exact h.elim
      · rw [if_neg nd] at h
        exact h.elim
theorem run_makeK {C f : Addr} {n : Nat} {fd : FuncData} {ps ks : List Str} {sp : Sp} {gg : List Value → List Value → List Value} {gV : List V → List V → List V} {pins : List (Addr × Obj)} {σ : St} {H : Hp} {s : Shared} {Q : VK} {us ws : List Value} {vs zs : List V} (MK : Mk X.K C f) (F : FnOk X.prog X.w X.K X.mg X.base (L2N.CX X.prog X.w) k f fd ps sp) (hr : Room (k + 1) X.A) (hb : KBn X.K fd ps (n + 1) ks gg gV) (tk : L2N.Takes X W)
    (I : Inv X pins σ H s) (r : Vals vs us) (rz : Vals zs ws) (l1 : vs.length = n) (l2 : zs.length = ks.length) (h : ∀ x dx, H x = none → H dx = none → dx ≠ x → sp (gV (.ref x :: vs) zs) (upd (upd H dx (.own x)) x (.ins C dx [])) (fun v H2 => v = .non ∧ Q (.ref x) H2) fun cls d H' => W cls d σ H') :
    wpAny (model X.prog X.w) X.A (call (.ref C) us (ks.zip ws)) (EP X pins σ Q) X.xe s := by
  have hq := h (s.heap.objs.size + 1) s.heap.objs.size (I.hok.fresh (Nat.le_succ _)) (I.hok.fresh (Nat.le_refl _)) (Nat.ne_of_lt (Nat.lt_succ_self _))
  have I2 := Inv.made (C := C) I
  have r1 : Vals (V.ref (s.heap.objs.size + 1) :: vs) (Value.ref (s.heap.objs.size + 1) :: us) := .cons rfl r
  have r2 := hb.rel r1 rz
  have e1 : (Value.ref (s.heap.objs.size + 1) :: us).length = n + 1 := r1.length.symm.trans (congrArg Nat.succ l1)
  have e2 : ws.length = ks.length := rz.length.symm.trans l2
  refine wpAny_call (make_map (f := f) I.kIn MK.makes MK.init (beq_iff_eq.mp MK.fn) (codeAny_mono (F.run _ X.stack _ _ ⟨Value.ref (s.heap.objs.size + 1) :: us, ks.zip ws⟩ (gg (Value.ref (s.heap.objs.size + 1) :: us) ws) _ _ _ (hr.make C us (ks.zip ws))
    (I2.env0.make C us (ks.zip ws)) (hb.to _ (Value.ref (s.heap.objs.size + 1) :: us) ws I2.kIn e1 e2) r2 hq) fun r s' hq' => ?_))
  cases r with
  | error e => exact tk e s' (L2N.XE.of_call I2 (fun cls d H' h => h) hq')
  | ok fl =>
    cases fl with
    | ret u =>
      obtain ⟨v, H', I3, rv, ev, q3⟩ := I2.after hq'
      subst ev
      exact ⟨rv, ⟨V.ref (s.heap.objs.size + 1), H', I3, rfl, q3⟩⟩
    | next => exact False.elim hq'
    | brk => exact False.elim hq'
    | cont => exact False.elim hq'
theorem e_makeK0 (g : G M cs W k X) {j : Nat} {c : Str} {ks : List Str} {sel : List Pk} {φ : FSem} {p pos : Pos} {kws : List Keyword} {os2 : List Opd} (mv : MkVK M j c 0 ks sel φ) (hj : j + 1 ≤ k) (hg : cs.sc.names.lookup c = some .globalImplicit) (hkw : PK X kws (tOs M W os2)) (hm : os2.length = ks.length)
    (hdb : (c == ("__debug__" : Str)) = false) (hall : (backToKw pos (keywordEach kws X.env)).all (·.1.isSome) = true) (hks : (backToKw pos (keywordEach kws X.env)).filterMap (·.1) = ks)
    (hpl : ((backTo pos (starEach [] X.env)).any (·.1) || (backToKw pos (keywordEach kws X.env)).any (·.1.isNone)) = false) : PE X (.Call (.Name c p) [] kws pos) (tE M W (mkK c φ os2 sel)) := by
  obtain ⟨C, f, fd, ps, gg, gV, hc, MK, F, hb, hp⟩ := mv.ex
  rw [← g.hP, ← g.hw, ← g.hb, ← g.hK, ← g.hmg] at F
  rw [← g.hK] at MK hb
  refine ⟨fun pins s σ H Q I h => ?_⟩
  refine wpAny_Call_Name_kw (ld_glob I (g.gl hg) (by rw [g.hmg]; exact hc.2) ?_ hdb)
  refine PySem.W.callWith_KW0 (first := []) (h₀ := X.base) I.ok.mod.kin MK.kp hall (thn (hkw.run pos pins s σ H _ I (tOs_len (mkK_run g.nx hc h))) fun ws s2 ⟨zs, H2, I2, rz, l2, _, q2⟩ => ⟨I2.kIn, ?_⟩) hpl
  rw [hks]
  refine run_makeK (k := j) (n := 0) (us := []) (vs := []) MK F (g.room.mono hj) hb g.tk I2 .nil rz rfl (l2.trans hm) fun x dx hx hdx hne => ?_
  obtain ⟨rs, e1, e2⟩ := hp (.ref x) [] zs rfl (l2.trans hm)
  rw [e1]
  exact q2 rs (by simpa using e2) x dx hx hdx hne
end
end VF
namespace VF
open PySem PySem.Spec PyProof.Rows L2
theorem finA_ref {d : D} {ds : List D} {ρ : En} : ∃ d', finA (.ref d :: ds.map .val) ρ = .ref d' :: ds.map .val := by
  have e : finA (.ref d :: ds.map .val) ρ = (match gt ρ 0 with
    | some (.ref d') => Sl.ref d'
    | _ => .ref d) :: ds.map .val := by
    apply List.ext_getElem?
    intro i
    unfold finA
    rw [List.getElem?_mapIdx]
    cases i with
    | zero => rfl
    | succ i =>
      show Option.map _ ((ds.map Sl.val)[i]?) = (ds.map Sl.val)[i]?
      rw [List.getElem?_map]
      cases ds[i]? <;> rfl
  rw [e]
  split
  · exact ⟨_, rfl⟩
  · exact ⟨_, rfl⟩
theorem fnS_exc {n : Nat} {b : SS} {d : D} {ds : List D} {x : Ex} {os : List Sl} (h : fnS n b (.ref d :: ds.map .val) = .exc x os) : ∃ d', os = .ref d' :: ds.map .val := by
  unfold fnS at h
  split at h
  · cases h
  · cases h
  · cases h
    exact finA_ref
  · cases h
def mkRX (f : List D → R D) (cs : List (R D)) : R D := (seqR cs).bind fun ds => (f ds).bind fun d => cnR d d
section
variable {ρ : En}
theorem mkZ_ev {c : Str} {n : Nat} {b : SS} {zs : List Ov} {es : List D} {r : R D} (e3 : slOs ρ zs = some (es.map .val)) (hk : FnS false (fnS n b) (.ref (.ins c [] []) :: es.map .val) r (fun _ => .non) (fun t => .ref t :: es.map .val)) : EvP true (fun _ => mkZ c (fnS n b) zs ρ) ρ (r.bind fun d => cnR d d) := by
  have e0 : mkZ c (fnS n b) zs ρ = (match fnS n b (.ref (.ins c [] []) :: es.map .val) with
    | .ok (.val .non) (.ref d' :: outs) => .ok (.own d') (back zs outs ρ)
    | .exc x (.ref _ :: outs) => .exc x (back zs outs ρ)
    | _ => .bad) := by
    unfold mkZ
    rw [e3]
    show (if ndB (tpI ρ zs) = true then _ else _) = _
    rw [tpI_vals e3]
    rfl
  cases r with
  | bad => trivial
  | exc x =>
    obtain ⟨os, e4⟩ := hk
    obtain ⟨d', e5⟩ := fnS_exc e4
    subst e5
    show mkZ c (fnS n b) zs ρ = .exc x ρ
    rw [e0, e4]
    show Out.exc x (back zs (es.map .val) ρ) = _
    rw [back_val]
  | ok d =>
    obtain ⟨rv, e4, r⟩ := hk
    have er : rv = .val .non := by
      rcases r with ⟨_, r⟩ | ⟨r, _⟩
      · cases r
      · exact r
    subst er
    show EvP true _ ρ ((R.ok d).bind fun d => cnR d d)
    rw [R.bind_ok]
    unfold cnR
    split
    · rename_i hc
      refine ⟨.own d, ?_, .inl ⟨rfl, hc⟩⟩
      show mkZ c (fnS n b) zs ρ = _
      rw [e0, e4]
      show Out.ok (Rv.own d) (back zs (es.map .val) ρ) = _
      rw [back_val]
    · trivial
theorem EvP.of_eq {o : Bool} {φ ψ : ES} {c : R D} (h : EvP o ψ ρ c) (e : φ ρ = ψ ρ) : EvP o φ ρ c := by
  cases c with
  | bad => trivial
  | exc x => show φ ρ = _; rw [e]; exact h
  | ok d => obtain ⟨r, e1, e2⟩ := h; exact ⟨r, by rw [e]; exact e1, e2⟩
theorem ev_mkX {c : Str} {n : Nat} {b : SS} {os : List Opd} {dd : List D} {cs : List (R D)} {f : List D → R D} (h : EvAs os ρ (seqR cs)) (hf : ∀ ds, FnS false (fnS n b) (.ref (.ins c [] []) :: (ds ++ dd).map .val) (f ds) (fun _ => .non) (fun t => .ref t :: (ds ++ dd).map .val)) :
    EvP true (mkI c (fnS n b) os dd) ρ (mkRX f cs) := by
  unfold mkRX
  generalize seqR cs = k at h
  cases k with
  | bad => trivial
  | exc x => show (evs os ρ).bind _ = _; rw [show evs os ρ = .exc x ρ from h]; rfl
  | ok ds =>
    obtain ⟨xs, e1, e2⟩ := h
    rw [R.bind_ok]
    have e3 : slOs ρ (xs ++ dd.map .val) = some ((ds ++ dd).map .val) := by rw [List.map_append]; exact slOs_app2 e2 (slOs_val (xs := xs))
    refine (mkZ_ev e3 (hf ds)).of_eq ?_
    unfold mkI
    rw [e1]
    rfl
theorem ev_mkK {c : Str} {n : Nat} {b : SS} {os : List Opd} {sel : List Pk} {cs : List (R D)} {f : List D → R D} (h : EvAs os ρ (seqR cs)) (hi : inPk os.length sel = true) (hf : ∀ ds, ds.length = os.length → FnS false (fnS n b) (.ref (.ins c [] []) :: (pkD ds sel).map .val) (f ds) (fun _ => .non) (fun t => .ref t :: (pkD ds sel).map .val)) :
    EvP true (mkK c (fnS n b) os sel) ρ (mkRX f cs) := by
  unfold mkRX
  generalize seqR cs = k at h
  cases k with
  | bad => trivial
  | exc x => show (evs os ρ).bind _ = _; rw [show evs os ρ = .exc x ρ from h]; rfl
  | ok ds =>
    obtain ⟨xs, e1, e2⟩ := h
    rw [R.bind_ok]
    have hl : ds.length = os.length := by
      have a := slOs_length e2
      rw [List.length_map] at a
      rw [a, evs_length e1]
    have e3 := slOs_pk e2 (sel := sel) (by rw [hl]; exact hi)
    refine (mkZ_ev e3 (hf ds hl)).of_eq ?_
    unfold mkK
    rw [e1]
    rfl
end
def eqO2 (neg : Bool) (c : Str) (φ : FSem) (o1 o2 : Opd) : ES := fun ρ => (o1.ev ρ).bind fun x ρ0 => (o2.ev ρ0).bind fun y ρ1 => match x.dat ρ1, y.dat ρ1 with
  | some (.ins c1 _ _), some d2 => if c1 = c ∧ d2.tyName.isSome = true then (callT φ [x, y] [] ρ1).bind fun r ρ2 => (match r with
    | .val (.bl b) => .ok (.val (.bl (if neg = true then !b else b))) ρ2
    | _ => .bad) else .bad
  | _, _ => .bad
theorem sub_ty {K : PySem.W.Frag} {C : Addr} {d : D} {t : String} (h : d.tyName = some t) : PySem.W.subIn K (.type t) (.ref C) = some false := by
  cases d <;> cases h <;> rfl
section
variable {M : Md} {cs : Cs} {W : WX} {k : Nat} {X : Cx}
theorem eqO2_run (hx : M.xn = none) {neg : Bool} {c : Str} {φ : FSem} {o1 o2 : Opd} {C : Addr} {σ : St} {H : Hp} {Q : VK} (hC : M.mg c = some (.ref C)) (hK : X.K = M.K) (h : tE M W (eqO2 neg c φ o1 o2) σ H Q) :
    tO M W o1 σ H fun x H1 => tO M W o2 σ H1 fun y H2 => ∃ a dx fs t, x = .ref a ∧ H2 a = some (.ins C dx fs) ∧ TyX X.K H2 y (.type t) ∧ PySem.W.subIn X.K (.type t) (.ref C) = some false ∧ spF M 2 φ [x, y] H2 (fun v H' => ∃ r, v = .bl r ∧ Q (.bl (if neg = true then !r else r)) H') fun cls d H' => W cls d σ H' := by
  obtain ⟨F, ρ, s, h⟩ := h
  refine op_bind s h fun x F1 H1 ρ1 v po rv q1 => ?_
  refine op_bind po.sr q1 fun y F2 H2 ρ2 w po2 rw' q => ?_
  clear q1
  have rx := rv.mono (po2.ext po.sr)
  cases e : x.dat ρ2 with
  | none => simp only [e] at q; exact q.elim
  | some d =>
    cases d with
    | ins c1 fs ds =>
      cases e2 : y.dat ρ2 with
      | none => simp only [e, e2] at q; exact q.elim
      | some d2 =>
        simp only [e, e2] at q
        by_cases hc : c1 = c ∧ d2.tyName.isSome = true
        · rw [if_pos hc] at q
          obtain ⟨hc1, hc2⟩ := hc
          obtain ⟨t, et⟩ := Option.isSome_iff_exists.mp hc2
          obtain ⟨a, C', dx, vs, rfl, ⟨_, hm'⟩, ha, _, _⟩ := (rx.od po2.sr e).ins
          rw [hc1, hC] at hm'
          cases hm'
          refine ⟨a, dx, vs, t, rfl, ha, od_ty (rw'.od po2.sr e2) et hK, sub_ty et, ?_⟩
          refine callT_run (dd := []) (dvs := []) hx (xs := [x, y]) (vs := [.ref a, w]) po2.sr ⟨_, _, rfl, rx, _, _, rfl, rw', rfl⟩ rfl rfl ?_
          cases ec : callT φ [x, y] [] ρ2 with
          | bad => rw [ec] at q; exact q.elim
          | exc z ρ3 => rw [ec] at q; exact fun F3 H3 cls d po3 xr => q F3 H3 cls d po3 xr
          | ok r ρ3 =>
            rw [ec] at q
            intro F3 H3 po3 v rv3
            cases r with
            | own d => exact q.elim
            | val d =>
              cases d with
              | bl bb =>
                have rv3 : Rep M F3 H3 (.bl bb) v := rv3
                unfold Rep at rv3
                refine ⟨bb, rv3, ?_⟩
                exact q F3 H3 po3 (po2.trans po3) (po.trans (po2.trans po3)) _ (by show Rep M F3 H3 (.bl _) _; unfold Rep; rfl)
              | _ => exact q.elim
        · rw [if_neg hc] at q
          exact q.elim
    | _ => simp only [e] at q; exact q.elim
theorem pc_eqO2 (g : G M cs W k X) {j : Nat} {c : Str} {φ : FSem} {a b : Expr} {o1 o2 : Opd} (ev : EqV M j c φ) (hj : j ≤ k) (h1 : PE X a (tO M W o1)) (h2 : PE X b (tO M W o2)) : PC X .Eq a b (tE M W (eqO2 false c φ o1 o2)) := by
  obtain ⟨C, f, fd, ps, hcl, hC, heq, hf, hne, hob, F, hps, hb⟩ := ev.ex
  rw [← g.hP, ← g.hw, ← g.hb, ← g.hK, ← g.hmg] at F
  rw [← g.hK] at heq hf hne hob hb
  refine ⟨fun pins s σ H Q I h => ?_⟩
  refine thn (h1.run pins s σ H _ I (eqO2_run g.nx hC g.hK h)) fun u s1 ⟨x, H1, I1, rx, q1⟩ => ?_
  refine thn (h2.run pins s1 σ H1 _ I1 q1) fun v s2 ⟨y, H2, I2, ry, a1, dx, fs, t, ex, ha, ty, hsub, q⟩ => ?_
  subst ex
  obtain rfl : u = Value.ref a1 := rx
  obtain ⟨mA, J, _⟩ := ins_get I2.hok ha
  obtain ⟨od, J, _⟩ := J.look
  obtain ⟨P, kx, hp, _⟩ := kit_of I2 ry ty
  obtain ⟨m, hF⟩ := I2.fr
  refine PySem.W.cmp_ofEq (PySem.W.cmp_K (op := .Eq) (tb := .type t) g.room.units0 hF I2.ok.mod.kin J (kx.ty _ _ I2.kIn hp) (by unfold PySem.W.notFirst; rw [hsub]; simp) heq hf ?_)
  refine thn (run_fnW (us := [.ref a1, v]) (vs := [.ref a1, y]) (CX' := L2N.CX X.prog X.w) (F.mono hj) g.room hb .nil g.tk I2 (.cons rfl (.cons ry .nil)) q) fun w s' ⟨z, H', I', rz, r, ez, qz⟩ => ?_
  subst ez
  obtain rfl : w = Value.bool r := rz
  exact (show EP X pins σ Q (.bool r) s' from ⟨.bl r, H', I', rfl, qz⟩)
theorem t_eqO2 (g : G M cs W k X) {j : Nat} {c : Str} {φ : FSem} {a b : Expr} {o1 o2 : Opd} {pos : Pos} (ev : EqV M j c φ) (hj : j ≤ k) (h1 : PE X a (tO M W o1)) (h2 : PE X b (tO M W o2)) : PT X (.Compare a [.Eq] [b] pos) (tT M W (tst (eqO2 false c φ o1 o2))) := PT_imp (pt_cmp (pc_eqO2 g ev hj h1 h2)) fun σ H Q h => tst_run h
end
theorem un_of {M : Md} {k : Nat} {c m : Str} {φ : FSem} (mv : MtV M k c m 1 φ) : UnV M k c m φ := by
  obtain ⟨C, f, fd, ps, hcl, hC, hcls, hm, F, hps, hb⟩ := mv.ex
  exact ⟨C, f, fd, ps, hcl, hC, hm.at_, hm.fn, F, hps, hb⟩
def eqR2 (neg : Bool) (cl : Str) (c : D → D → R D) (x y : D) : R D := match x with
  | .ins c1 _ _ => if c1 = cl ∧ y.tyName.isSome = true then (c x y).bind fun d => (asBL d).bind fun b => .ok (.bl (if neg = true then !b else b)) else .bad
  | _ => .bad
section
variable {ρ : En} {o neg : Bool} {xf : FSem} {o1 o2 : Opd} {c1 c2 : R D} {c : Str}
theorem ev_eqO2 {f : D → D → R D} (h1 : EvA o1 ρ c1) (h2 : EvA o2 ρ c2) (hf : ∀ a b, FnP o xf [a, b] (f a b)) : EvP false (eqO2 neg c xf o1 o2) ρ (c1.bind fun a => c2.bind fun b => eqR2 neg c f a b) := by
  cases c1 with
  | bad => trivial
  | exc x =>
    show eqO2 neg c xf o1 o2 ρ = .exc x ρ
    unfold eqO2
    rw [show o1.ev ρ = .exc x ρ from h1]
    rfl
  | ok a =>
    rw [R.bind_ok]
    obtain ⟨x, e1, e2⟩ := id h1
    cases c2 with
    | bad => trivial
    | exc y =>
      show eqO2 neg c xf o1 o2 ρ = .exc y ρ
      unfold eqO2
      rw [e1]
      show (o2.ev ρ).bind _ = _
      rw [show o2.ev ρ = .exc y ρ from h2]
      rfl
    | ok b =>
      rw [R.bind_ok]
      obtain ⟨y, e3, e4⟩ := id h2
      have d1 := slO_dat e2
      have d2 := slO_dat e4
      have hq : EvP o (callF xf [o1, o2] []) ρ (f a b) := ev_call2 (dd := []) h1 h2 hf
      have ecf : callF xf [o1, o2] [] ρ = callT xf [x, y] [] ρ := by
        have e6 : evs [o1, o2] ρ = .ok [x, y] ρ := by
          show (o1.ev ρ).bind _ = _
          rw [e1]
          show ((o2.ev ρ).bind _).bind _ = _
          rw [e3]
          rfl
        unfold callF callT
        rw [e6]
        rfl
      cases a with
      | ins c1' fs ds =>
        have e0 : eqO2 neg c xf o1 o2 ρ = if c1' = c ∧ b.tyName.isSome = true then (callT xf [x, y] [] ρ).bind fun r ρ2 => (match r with
            | .val (.bl b) => .ok (.val (.bl (if neg = true then !b else b))) ρ2
            | _ => .bad) else .bad := by
          unfold eqO2
          rw [e1]
          show (o2.ev ρ).bind _ = _
          rw [e3]
          show (match x.dat ρ, y.dat ρ with | some (.ins c1 _ _), some d2 => _ | _, _ => _) = _
          rw [d1, d2]
        show EvP false _ ρ (if c1' = c ∧ b.tyName.isSome = true then _ else .bad)
        by_cases hc : c1' = c ∧ b.tyName.isSome = true
        · rw [if_pos hc] at e0 ⊢
          rw [← ecf] at e0
          cases ef : f (.ins c1' fs ds) b with
          | bad => trivial
          | exc z =>
            rw [ef] at hq
            show eqO2 neg c xf o1 o2 ρ = .exc z ρ
            rw [e0, show callF xf [o1, o2] [] ρ = .exc z ρ from hq]
            rfl
          | ok d =>
            rw [ef] at hq
            obtain ⟨r, e5, rk⟩ := hq
            rw [R.bind_ok]
            cases d with
            | bl bb =>
              have er := val_of rk rfl
              subst er
              exact ⟨.val (.bl (if neg = true then !bb else bb)), by rw [e0, e5]; rfl, .inr ⟨rfl, rfl⟩⟩
            | _ => trivial
        · rw [if_neg hc]
          trivial
      | _ => trivial
end
end VF
namespace VF
open PySem PySem.Spec PyProof.Rows L2
def fMulS : List D → Option Rv
  | [.str x, .int n] => if n = 0 then some (.val (.str Str.empty)) else if n = 1 then some (.val (.str x)) else none
  | _ => none
theorem o_mulS {M : Md} {X : Cx} : OpR X (binaryOp .Mult) (r2D M fMulS) := by
  intro pins s σ H x y v u Q I rx ry h
  obtain ⟨F, ds, rv, hd, od, ef, q⟩ := h
  unfold fMulS at ef
  split at ef
  · rename_i sx n
    obtain ⟨v1, w1, e, r1, r2⟩ := od.two
    cases e
    cases r1.str
    cases r2.int
    obtain ⟨t, rfl⟩ := rx
    obtain ⟨t', rfl⟩ := ry
    split at ef
    · rename_i hn
      subst hn
      cases ef
      refine PySem.SB.mul (by refine ⟨by decide, fun h => absurd (by decide) h, fun h => absurd (by decide) h⟩) fun t2 k => ?_
      exact ⟨.str Str.empty, H, I.tok _, ⟨_, rfl⟩, rv_same hd q (by show Rep M F H (.str _) _; unfold Rep; rfl)⟩
    · split at ef
      · rename_i hn
        subst hn
        cases ef
        refine PySem.SB.mul (by refine ⟨by decide, fun _ h => absurd h (by simp), fun _ h => absurd h (by simp)⟩) fun t2 k => ?_
        exact ⟨.str sx, H, I.tok _, ⟨_, rfl⟩, rv_same hd q (by show Rep M F H (.str _) _; unfold Rep; rfl)⟩
      · cases ef
  · cases ef
end VF
namespace VP
open PySem PySem.Spec PyProof.Rows L2 VF
def c_are_unlike (p_7 : D) : R D :=
  ((ofO (sEnumG [p_7])).bind fun i3 => (mapR (un2 some some) (fun x1 : D × D => (slR (.ok p_7) none (some (.ok x1.1))).bind fun a2 => pr (gNotIn [x1.2, a2])) i3).bind fun ds4 => .ok (D.lst ds4)).bind fun a5 => pr (fAll [a5])
def c_are_some_of (p_7 : D) (p_9 : D) : R D :=
  (((ofO (sSeq [p_7])).bind fun i4 => (mapR some (fun x1 : D => (pr ((fIsi "str") [x1])).bind fun d2 => (trR d2).bind fun b3 => if b3 = true then (pr (gIn [x1, p_9])) else .ok d2) i4).bind fun ds5 => .ok (D.lst ds5)).bind fun a6 => pr (fAll [a6])).bind fun d7 => (trR d7).bind fun b8 => if b8 = true then (c_are_unlike p_7) else .ok d7
def c_is_whole (p_t : D) : R D :=
  (pr ((fIsi "int") [p_t])).bind fun d3 => (trR d3).bind fun b4 => if b4 = true then ((pr ((fIsi "bool") [p_t])).bind fun a2 => (trR a2).bind fun b1 => .ok (D.bl (!b1))) else .ok d3
def c_heights_of (p_9 : D) (p_l : D) : R D :=
  (R.ok p_l).bind fun d2 => (ofO (un2 some some d2)).bind fun t1 => ((ofO (sSeq [p_9])).bind fun i4 => (foldM some (fun (x3 : D) (acc6 : D) => dkR (.ok x3) (.ok (D.int 0)) acc6) i4 (D.dck [] [])).bind fun d5 => cnR d5 d5).bind fun v_7 => (((pr (fEq [t1.1, D.str "order"])).bind asB).bind fun b8 => if b8 = true then (((ofO (sEnumG [t1.2])).bind fun i24 => forN (un2 some some) (fun (t10 : D) (x11 : D × D) => (if D.ty t10 = some "dict" then (((ofO (sSeq [x11.2])).bind fun i14 => (foldM some (fun (x12 : D) (acc16 : D) => dkR (.ok x12) ((pr (gLen [t1.2])).bind fun a13 => pr (fSub [a13, x11.1])) acc16) i14 (D.dck [] [])).bind fun d15 => cnR d15 d15).bind fun d17 => (R.ok ()).bind fun a18 => .ok (d17, a18)).bind fun a19 => (ofO (mUpd [a19.1] t10)).bind fun q20 => .ok (q20.1, q20.2) else .bad).bind fun p23 => .ok p23.2) i24 v_7).bind fun t25 => .ok t25) else (((pr (fEq [t1.1, D.str "lets"])).bind asB).bind fun b26 => if b26 = true then ((if D.ty v_7 = some "dict" then (((ofO (sSeq [t1.2])).bind fun i28 => (foldM some (fun (x27 : D) (acc30 : D) => dkR (.ok x27) (.ok (D.int 1)) acc30) i28 (D.dck [] [])).bind fun d29 => cnR d29 d29).bind fun d31 => (R.ok ()).bind fun a32 => .ok (d31, a32)).bind fun a33 => (ofO (mUpd [a33.1] v_7)).bind fun q34 => .ok (q34.1, q34.2) else .bad).bind fun p37 => .ok p37.2) else ((if D.ty v_7 = some "dict" then ((pro (fDictK [t1.2])).bind fun d38 => (R.ok ()).bind fun a39 => .ok (d38, a39)).bind fun a40 => (ofO (mUpd [a40.1] v_7)).bind fun q41 => .ok (q41.1, q41.2) else .bad).bind fun p44 => .ok p44.2))).bind fun t9 => cnR t9 t9
def c_side_of (p_o : D) (p_6 : D) (p_2 : D) : R D :=
  (((pr (gItem [p_o, p_6])).bind fun a1 => (pr (gItem [p_o, p_2])).bind fun a2 => pr (fGt [a1, a2])).bind fun a3 => pr (fInt [a3])).bind fun a7 => (((pr (gItem [p_o, p_6])).bind fun a4 => (pr (gItem [p_o, p_2])).bind fun a5 => pr (fLt [a4, a5])).bind fun a6 => pr (fInt [a6])).bind fun a8 => pr (fSub [a7, a8])
def c_margins (p_0 : D) : R D :=
  ((srR sSeq [pr ((fFld "options") [p_0])]).bind fun i3 => (foldM some (fun (x1 : D) (acc7 : D) => (srR sSeq [pr ((fFld "options") [p_0])]).bind fun i4 => foldG some (fun x2 : D => (pr (fNe [x1, x2])).bind asB) (fun (x2 : D) (acc6 : D) => lsR (.ok (D.tup [x1, x2])) acc6) i4 acc7) i3 (D.lst [])).bind fun d5 => cnR d5 d5).bind fun v_8 => ((ofO (sSeq [v_8])).bind fun i10 => (foldM some (fun (x9 : D) (acc12 : D) => dtR (.ok x9) (.ok (D.int 0)) acc12) i10 (D.dct [] [])).bind fun d11 => cnR d11 d11).bind fun v_13 => ((srR sSeq [pr ((fFld "voices") [p_0])]).bind fun i27 => forN (un2 some some) (fun (t14 : D) (x15 : D × D) => ((pr ((fFld "options") [p_0])).bind fun a16 => c_heights_of a16 x15.1).bind fun v_17 => ((ofO (sSeq [v_8])).bind fun i25 => forN (un2 some some) (fun (t18 : D) (x19 : D × D) => (R.ok (D.tup [x19.1, x19.2])).bind fun y22 => (ofO (augA t18 y22)).bind fun w23 => ((c_side_of v_17 x19.1 x19.2).bind fun a20 => pr (fMul [x15.2, a20])).bind fun n24 => (ofO (augB t18 y22 w23 n24)).bind fun q21 => .ok q21.2) i25 t14).bind fun t26 => .ok t26) i27 v_13).bind fun t28 => cnR t28 t28
def c_sign_of (p_u : D) : R D :=
  ((pr (fGt [p_u, D.int 0])).bind fun a1 => pr (fInt [a1])).bind fun a3 => ((pr (fLt [p_u, D.int 0])).bind fun a2 => pr (fInt [a2])).bind fun a4 => pr (fSub [a3, a4])
def c_standings_of (p_0 : D) : R D :=
  ((c_margins p_0).bind fun d1 => ofO (dItems d1)).bind fun i3 => (foldM (un2 some some) (fun (x2 : D × D) (acc5 : D) => dtR (.ok x2.1) (c_sign_of x2.2) acc5) i3 (D.dct [] [])).bind fun d4 => cnR d4 d4
def c_ways_from (p_0 : D) (p_b : D) (p_m : D) : R D :=
  ((R.ok p_m).bind fun d1 => (R.ok (D.tup [p_m])).bind fun d2 => ofO (d1R d1 d2)).bind fun v_3 => (whN (fun t4 : D × D => (pr (fNe [t4.2, D.lst []])).bind asB) (fun t4 : D × D => (R.ok t4.2).bind fun d6 => (ofO (unS d6)).bind fun q5 => ((srR sSeq [pr ((fFld "options") [p_0])]).bind fun i17 => forN some (fun (t7 : D × D) (x8 : D) => (((pr (gNotIn [x8, t7.1])).bind asB).bind fun b10 => if b10 = true then (((pr (gItem [p_b, D.tup [q5.1, x8]])).bind fun a9 => pr (fGe [a9, D.int 0])).bind asB) else .ok false).bind fun b11 => if b11 = true then (((pr (gItem [t7.1, q5.1])).bind fun a12 => pr (fAdd [a12, D.tup [x8]])).bind fun d14 => (R.ok x8).bind fun j15 => (ofO (stG d14 j15 t7.1)).bind fun q13 => (pr (fAdd [t7.2, D.lst [x8]])).bind fun v_16 => .ok (q13.2, v_16)) else (.ok (t7.1, t7.2))) i17 (t4.1, q5.2)).bind fun t18 => .ok (t18.1, t18.2)) (2 ^ 64) (v_3, D.lst [p_m])).bind fun t19 => cnR t19.1 t19.1
def c_top_lot (p_0 : D) : R D :=
  (c_standings_of p_0).bind fun v_1 => (srR sSeq [pr ((fFld "options") [p_0])]).bind fun i7 => (filR some (fun x2 : D => (((c_ways_from p_0 v_1 x2).bind fun a3 => pr (gLen [a3])).bind fun a5 => ((pr ((fFld "options") [p_0])).bind fun a4 => pr (gLen [a4])).bind fun a6 => pr (fEq [a5, a6])).bind asB) (fun x2 : D => .ok x2) i7).bind fun ds8 => .ok (D.lst ds8)
def c_is_weighed (p_5 : D) : R D :=
  (pr ((fIsi "tuple") [p_5])).bind fun d5 => (trR d5).bind fun b6 => if b6 = true then (((pr (gLen [p_5])).bind fun a2 => pr (fEq [a2, D.int 2])).bind fun d3 => (trR d3).bind fun b4 => if b4 = true then ((pr (gItem [p_5, D.int 0])).bind fun a1 => pr (fEq [a1, D.str "weights"])) else .ok d3) else .ok d5
def c_check_weights (p_9 : D) (p_j : D) : R D :=
  (((((pr ((fIsi "tuple") [p_j])).bind fun a1 => trR a1).bind fun b2 => .ok (!b2)).bind fun b5 => if b5 = true then .ok true else (((pr (gLen [p_j])).bind fun a3 => (pr (gLen [p_9])).bind fun a4 => pr (fNe [a3, a4])).bind asB)).bind fun b6 => if b6 = true then ((R.ok (D.str "no weights")).bind fun d7 => (.exc ⟨"BadRule", ["why"], [d7]⟩ : R Empty)).bind fun e25 => nomatch e25 else (((((ofO (sSeq [p_j])).bind fun i9 => (mapR some (fun x8 : D => c_is_whole x8) i9).bind fun ds10 => .ok (D.lst ds10)).bind fun a11 => pr (fAll [a11])).bind fun a12 => trR a12).bind fun b13 => .ok (!b13)).bind fun b14 => if b14 = true then ((R.ok (D.str "no whole weights")).bind fun d15 => (.exc ⟨"BadRule", ["why"], [d15]⟩ : R Empty)).bind fun e24 => nomatch e24 else ((((srR sZip [.ok p_j, slR (.ok p_j) (some (.ok (D.int 1))) none]).bind fun i17 => (mapR (un2 some some) (fun x16 : D × D => pr (fLt [x16.1, x16.2])) i17).bind fun ds18 => .ok (D.lst ds18)).bind fun a19 => pr (fAny [a19])).bind fun a20 => trR a20).bind fun b21 => if b21 = true then ((R.ok (D.str "weights that rise")).bind fun d22 => (.exc ⟨"BadRule", ["why"], [d22]⟩ : R Empty)).bind fun e23 => nomatch e23 else .ok ()).bind fun _ => .ok D.non
def c_check_rule (p_9 : D) (p_5 : D) : R D :=
  (((c_is_weighed p_5).bind fun a1 => trR a1).bind fun b2 => if b2 = true then (((pr (gItem [p_5, D.int 1])).bind fun a3 => c_check_weights p_9 a3).bind fun _ => .ok ()) else (((((pr ((fIsi "str") [p_5])).bind fun a4 => trR a4).bind fun b5 => .ok (!b5)).bind fun b6 => if b6 = true then .ok true else ((pr (gNotIn [p_5, D.tup [.str "firsts", .str "lasts", .str "points", .str "lets", .str "wins", .str "losses", .str "ways", .str "best", .str "top", .str "uncovered", .str "rounds"]])).bind asB)).bind fun b7 => if b7 = true then ((R.ok (D.str "no rule")).bind fun d8 => (.exc ⟨"BadRule", ["why"], [d8]⟩ : R Empty)).bind fun e9 => nomatch e9 else .ok ())).bind fun _ => .ok D.non
def xb_common_part : SS := seq (parS 0 1 (app fAbs [.sl 0]) (app fAbs [.sl 1]))
  (seq (whileS (tst (app fNe [.sl 1, .ex (cst (.int 0))])) (seq (parS 0 1 (nm 1) (app fMod [.sl 0, .sl 1]))
  (skip)) (2 ^ 64))
  (retI 0))
def xf_common_part : FSem := fnS 2 xb_common_part
def c_common_part (p_6 : D) (p_2 : D) : R D :=
  (pr (fAbs [p_6])).bind fun v_1 => (pr (fAbs [p_2])).bind fun v_2 => (whN (fun t3 : D × D => (pr (fNe [t3.2, D.int 0])).bind asB) (fun t3 : D × D => (R.ok t3.2).bind fun v_4 => (pr (fMod [t3.1, t3.2])).bind fun v_5 => .ok (v_4, v_5)) (2 ^ 64) (v_1, v_2)).bind fun t6 => .ok t6.1
theorem xq_common_part (p_6 : D) (p_2 : D) : FnP false xf_common_part [p_6, p_2] (c_common_part p_6 p_2) :=
  by
  refine fn_tl ?_
  show (kTl false (fun d : D => d) yF).p (xb_common_part [some (.val p_6), some (.val p_2)]) (c_common_part p_6 p_2)
  unfold xb_common_part c_common_part
  refine k_par (i := 0) (j := 1) rfl rfl (ev_app1 (eo_sl (s := .val p_6) rfl)) (ev_app1 (eo_sl (s := .val p_2) rfl)) (fun v_1 v_2 => ?_)
  refine k_seqN (env := fun t6 : D × D => [some (.val t6.1), some (.val t6.2)]) ?_ (fun t6 => ?_)
  · refine k_while (env := fun t3 : D × D => [some (.val t3.1), some (.val t3.2)]) (fun t3 => et_tst (ev_app2 (eo_sl (s := .val t3.2) rfl) (eo_ex (ev_cst)))) (fun t3 => ?_) (2 ^ 64) (v_1, v_2)
    refine k_par (i := 0) (j := 1) rfl rfl (ev_nm (d := t3.2) rfl) (ev_app2 (eo_sl (s := .val t3.1) rfl) (eo_sl (s := .val t3.2) rfl)) (fun v_4 v_5 => ?_)
    exact k_nil (t := (v_4, v_5)) rfl
  · exact k_retV (d := t6.1) rfl rfl trivial
def c_Share_init (p_1 : D) (p_a : D) (p_8 : D) : R D :=
  ((pr (fEq [p_8, D.int 0])).bind asB).bind fun b1 => if b1 = true then (R.bad : R Empty).bind fun e10 => nomatch e10 else (c_common_part p_a p_8).bind fun v_2 => (((pr (fLt [p_8, D.int 0])).bind asB).bind fun b3 => if b3 = true then ((pr (fSub [D.int 0, v_2])).bind fun v_5 => .ok v_5) else (.ok v_2)).bind fun t4 => (pr (fFdiv [p_a, t4])).bind fun d7 => (ofO (stF "num" d7 p_1)).bind fun q6 => (pr (fFdiv [p_8, t4])).bind fun d9 => (ofO (stF "over" d9 q6.2)).bind fun q8 => .ok q8.2
def c_tiers (p_9 : D) (p_l : D) : R D :=
  (c_heights_of p_9 p_l).bind fun v_1 => (((ofO (sSeq [p_9])).bind fun i3 => (foldM some (fun (x2 : D) (acc5 : D) => siR (pr (gItem [v_1, x2])) acc5) i3 (D.lst [])).bind fun d4 => pro (fSortI [d4])).bind fun a6 => pr (fRev [a6])).bind fun v_7 => ((ofO (sSeq [v_7])).bind fun i14 => (mapR some (fun x8 : D => ((ofO (sSeq [p_9])).bind fun i11 => (filR some (fun x9 : D => ((pr (gItem [v_1, x9])).bind fun a10 => pr (fEq [a10, x8])).bind asB) (fun x9 : D => .ok x9) i11).bind fun ds12 => .ok (D.lst ds12)).bind fun a13 => pr (fTuple [a13])) i14).bind fun ds15 => .ok (D.lst ds15)).bind fun a16 => pr (fTuple [a16])
def c_Share_plus (p_1 : D) (p_2 : D) : R D :=
  mkR (ap2 fun a0 a1 => c_Share_init (D.ins "Share" [] []) a0 a1) [((pr ((fFld "num") [p_1])).bind fun a1 => (pr ((fFld "over") [p_2])).bind fun a2 => pr (fMul [a1, a2])).bind fun a5 => ((pr ((fFld "num") [p_2])).bind fun a3 => (pr ((fFld "over") [p_1])).bind fun a4 => pr (fMul [a3, a4])).bind fun a6 => pr (fAdd [a5, a6]), (pr ((fFld "over") [p_1])).bind fun a7 => (pr ((fFld "over") [p_2])).bind fun a8 => pr (fMul [a7, a8])]
def c_weighed (p_0 : D) (p_j : D) : R D :=
  ((pr ((fFld "options") [p_0])).bind fun a1 => c_check_weights a1 p_j).bind fun _ => ((srR sSeq [pr ((fFld "options") [p_0])]).bind fun i3 => (foldM some (fun (x2 : D) (acc5 : D) => dkR (.ok x2) (mkR (ap1 fun a0 => c_Share_init (D.ins "Share" [] []) a0 (D.int 1)) [.ok (D.int 0)]) acc5) i3 (D.dck [] [])).bind fun d4 => cnR d4 d4).bind fun v_6 => ((srR sSeq [pr ((fFld "voices") [p_0])]).bind fun i29 => forN (un2 some some) (fun (t7 : D) (x8 : D × D) => ((srR sSeq [(pr ((fFld "options") [p_0])).bind fun a9 => c_tiers a9 x8.1]).bind fun i27 => forN some (fun (t10 : D × D) (x11 : D) => (mkR (ap2 fun a0 a1 => c_Share_init (D.ins "Share" [] []) a0 a1) [((slR (.ok p_j) (some (.ok t10.2)) (some ((pr (gLen [x11])).bind fun a12 => pr (fAdd [t10.2, a12])))).bind fun a13 => pr (fSumT [a13])).bind fun a14 => pr (fMul [x8.2, a14]), pr (gLen [x11])]).bind fun v_15 => (ofO (augW t10.2)).bind fun w16 => (pr (gLen [x11])).bind fun n17 => (ofO (augY w16 n17)).bind fun v_18 => ((ofO (sSeq [x11])).bind fun i25 => forN some (fun (t19 : D) (x20 : D) => ((pr (gItem [t19, x20])).bind fun a21 => meC "Share" "plus" a21 (c_Share_plus a21 v_15)).bind fun d23 => (R.ok x20).bind fun j24 => (ofO (stG d23 j24 t19)).bind fun q22 => .ok q22.2) i25 t10.1).bind fun t26 => .ok (t26, v_18)) i27 (t7, D.int 0)).bind fun t28 => .ok t28.1) i29 v_6).bind fun t30 => cnR t30 t30
def c_Share_below (p_1 : D) (p_2 : D) : R D :=
  ((pr ((fFld "num") [p_1])).bind fun a1 => (pr ((fFld "over") [p_2])).bind fun a2 => pr (fMul [a1, a2])).bind fun a5 => ((pr ((fFld "num") [p_2])).bind fun a3 => (pr ((fFld "over") [p_1])).bind fun a4 => pr (fMul [a3, a4])).bind fun a6 => pr (fLt [a5, a6])
def c_weighed_lot (p_0 : D) (p_j : D) : R D :=
  (c_weighed p_0 p_j).bind fun v_1 => (srR sSeq [pr ((fFld "options") [p_0])]).bind fun i11 => (filR some (fun x2 : D => ((((srR sSeq [pr ((fFld "options") [p_0])]).bind fun i6 => (mapR some (fun x3 : D => (pr (gItem [v_1, x2])).bind fun a4 => meC "Share" "below" a4 ((pr (gItem [v_1, x3])).bind fun a5 => c_Share_below a4 a5)) i6).bind fun ds7 => .ok (D.lst ds7)).bind fun a8 => pr (fAny [a8])).bind fun a9 => trR a9).bind fun b10 => .ok (!b10)) (fun x2 : D => .ok x2) i11).bind fun ds12 => .ok (D.lst ds12)
def c_alone_at (p_0 : D) (p_z : D) : R D :=
  ((srR sSeq [pr ((fFld "options") [p_0])]).bind fun i2 => (foldM some (fun (x1 : D) (acc4 : D) => dkR (.ok x1) (.ok (D.int 0)) acc4) i2 (D.dck [] [])).bind fun d3 => cnR d3 d3).bind fun v_5 => ((srR sSeq [pr ((fFld "voices") [p_0])]).bind fun i17 => forN (un2 some some) (fun (t6 : D) (x7 : D × D) => (((pr ((fFld "options") [p_0])).bind fun a8 => c_tiers a8 x7.1).bind fun a9 => pr (gItem [a9, p_z])).bind fun v_10 => (((pr (gLen [v_10])).bind fun a11 => pr (fEq [a11, D.int 1])).bind asB).bind fun b12 => if b12 = true then ((pr (gItem [v_10, D.int 0])).bind fun y14 => (ofO (augA t6 y14)).bind fun w15 => (R.ok x7.2).bind fun n16 => (ofO (augB t6 y14 w15 n16)).bind fun q13 => .ok q13.2) else (.ok t6)) i17 v_5).bind fun t18 => cnR t18 t18
def c_firsts (p_0 : D) : R D :=
  c_alone_at p_0 (D.int 0)
def c_lasts (p_0 : D) : R D :=
  (pr (fNeg [D.int 1])).bind fun a1 => c_alone_at p_0 a1
def c_fewest_lasts (p_0 : D) : R D :=
  ((c_lasts p_0).bind fun d1 => ofO (dItems d1)).bind fun i3 => (foldM (un2 some some) (fun (x2 : D × D) (acc5 : D) => dkR (.ok x2.1) (pr (fSub [D.int 0, x2.2])) acc5) i3 (D.dck [] [])).bind fun d4 => cnR d4 d4
def c_points (p_0 : D) : R D :=
  (c_margins p_0).bind fun v_1 => (srR sSeq [pr ((fFld "options") [p_0])]).bind fun i7 => (foldM some (fun (x2 : D) (acc9 : D) => dkR (.ok x2) (((srR sSeq [pr ((fFld "options") [p_0])]).bind fun i4 => (filR some (fun x3 : D => (pr (fNe [x3, x2])).bind asB) (fun x3 : D => pr (gItem [v_1, D.tup [x2, x3]])) i4).bind fun ds5 => .ok (D.lst ds5)).bind fun a6 => pr (fSum [a6])) acc9) i7 (D.dck [] [])).bind fun d8 => cnR d8 d8
def c_lets (p_0 : D) : R D :=
  ((srR sSeq [pr ((fFld "options") [p_0])]).bind fun i2 => (foldM some (fun (x1 : D) (acc4 : D) => dkR (.ok x1) (.ok (D.int 0)) acc4) i2 (D.dck [] [])).bind fun d3 => cnR d3 d3).bind fun v_5 => ((srR sSeq [pr ((fFld "voices") [p_0])]).bind fun i21 => forN (un2 some some) (fun (t6 : D) (x7 : D × D) => ((pr ((fFld "options") [p_0])).bind fun a8 => c_heights_of a8 x7.1).bind fun v_9 => ((srR sSeq [pr ((fFld "options") [p_0])]).bind fun i19 => forN some (fun (t10 : D) (x11 : D) => (R.ok x11).bind fun y16 => (ofO (augA t10 y16)).bind fun w17 => ((((pr (gItem [v_9, x11])).bind fun a12 => pr (fGt [a12, D.int 0])).bind fun a13 => pr (fInt [a13])).bind fun a14 => pr (fMul [x7.2, a14])).bind fun n18 => (ofO (augB t10 y16 w17 n18)).bind fun q15 => .ok q15.2) i19 t6).bind fun t20 => .ok t20) i21 v_5).bind fun t22 => cnR t22 t22
def c_wins (p_0 : D) : R D :=
  ((srR sSeq [pr ((fFld "options") [p_0])]).bind fun i2 => (foldM some (fun (x1 : D) (acc4 : D) => dkR (.ok x1) (.ok (D.int 0)) acc4) i2 (D.dck [] [])).bind fun d3 => cnR d3 d3).bind fun v_5 => (((c_margins p_0).bind fun d6 => ofO (dItems d6)).bind fun i17 => forN (un2 some some) (fun (t7 : D) (x8 : D × D) => (pr (gItem [x8.1, D.int 0])).bind fun y14 => (ofO (augA t7 y14)).bind fun w15 => (((pr (fGt [x8.2, D.int 0])).bind fun a9 => pr (fInt [a9])).bind fun a11 => ((pr (fLt [x8.2, D.int 0])).bind fun a10 => pr (fInt [a10])).bind fun a12 => pr (fSub [a11, a12])).bind fun n16 => (ofO (augB t7 y14 w15 n16)).bind fun q13 => .ok q13.2) i17 v_5).bind fun t18 => cnR t18 t18
def c_losses (p_0 : D) : R D :=
  (R.ok (D.dck [] [])).bind fun v_1 => (c_margins p_0).bind fun v_2 => ((srR sSeq [pr ((fFld "options") [p_0])]).bind fun i16 => forN some (fun (t3 : D) (x4 : D) => (((R.ok v_2).bind fun d5 => ofO (dItems d5)).bind fun i8 => (foldG (un2 some some) (fun x6 : D × D => ((pr (gItem [x6.1, D.int 1])).bind fun a7 => pr (fEq [a7, x4])).bind asB) (fun (x6 : D × D) (acc10 : D) => lsR (.ok x6.2) acc10) i8 (D.lst [])).bind fun d9 => cnR d9 d9).bind fun v_11 => ((pr ((fMaxD 0) [v_11])).bind fun a12 => pr (fSub [D.int 0, a12])).bind fun d14 => (R.ok x4).bind fun j15 => (ofO (stG d14 j15 t3)).bind fun q13 => .ok q13.2) i16 v_1).bind fun t17 => cnR t17 t17
def c_numbers_of (p_0 : D) (p_5 : D) : R D :=
  ((pr (fEq [p_5, D.str "firsts"])).bind asB).bind fun b1 => if b1 = true then (c_firsts p_0) else ((pr (fEq [p_5, D.str "lasts"])).bind asB).bind fun b2 => if b2 = true then (c_fewest_lasts p_0) else ((pr (fEq [p_5, D.str "points"])).bind asB).bind fun b3 => if b3 = true then (c_points p_0) else ((pr (fEq [p_5, D.str "lets"])).bind asB).bind fun b4 => if b4 = true then (c_lets p_0) else ((pr (fEq [p_5, D.str "wins"])).bind asB).bind fun b5 => if b5 = true then (c_wins p_0) else ((pr (fEq [p_5, D.str "losses"])).bind asB).bind fun b6 => if b6 = true then (c_losses p_0) else .ok D.non
def c_led_to (p_b : D) (p_9 : D) (p_6 : D) (p_10 : D) : R D :=
  ((R.ok p_6).bind fun d1 => (R.ok (D.tup [p_6])).bind fun d2 => ofO (d1R d1 d2)).bind fun v_3 => (whN (fun t4 : D × D => (pr (fNe [t4.2, D.lst []])).bind asB) (fun t4 : D × D => (R.ok t4.2).bind fun d6 => (ofO (unS d6)).bind fun q5 => ((ofO (sSeq [p_9])).bind fun i17 => forN some (fun (t7 : D × D) (x8 : D) => (((pr (gNotIn [x8, t7.1])).bind asB).bind fun b10 => if b10 = true then (((pr (gItem [p_b, D.tup [q5.1, x8]])).bind fun a9 => pr (fGe [a9, p_10])).bind asB) else .ok false).bind fun b11 => if b11 = true then (((pr (gItem [t7.1, q5.1])).bind fun a12 => pr (fAdd [a12, D.tup [x8]])).bind fun d14 => (R.ok x8).bind fun j15 => (ofO (stG d14 j15 t7.1)).bind fun q13 => (pr (fAdd [t7.2, D.lst [x8]])).bind fun v_16 => .ok (q13.2, v_16)) else (.ok (t7.1, t7.2))) i17 (t4.1, q5.2)).bind fun t18 => .ok (t18.1, t18.2)) (2 ^ 64) (v_3, D.lst [p_6])).bind fun t19 => cnR t19.1 t19.1
def c_strongest_way (p_b : D) (p_9 : D) (p_6 : D) (p_2 : D) : R D :=
  ((((R.ok p_b).bind fun d1 => ofO (dItems d1)).bind fun i3 => (foldM (un2 some some) (fun (x2 : D × D) (acc5 : D) => lsR (.ok x2.2) acc5) i3 (D.lst [])).bind fun d4 => cnR d4 d4).bind fun a6 => pro (fSortR [a6])).bind fun v_7 => ((ofO (sSeq [v_7])).bind fun i10 => (filR some (fun x8 : D => ((c_led_to p_b p_9 p_6 x8).bind fun a9 => pr (gIn [p_2, a9])).bind asB) (fun x8 : D => .ok x8) i10).bind fun ds11 => .ok (D.lst ds11)).bind fun a12 => pr (gItem [a12, D.int 0])
def c_ways_lot (p_0 : D) : R D :=
  (c_margins p_0).bind fun v_1 => (((R.ok v_1).bind fun d2 => ofO (dKeys d2)).bind fun i7 => (foldM some (fun (x3 : D) (acc9 : D) => dtR (.ok x3) ((pr ((fFld "options") [p_0])).bind fun a4 => (pr (gItem [x3, D.int 0])).bind fun a5 => (pr (gItem [x3, D.int 1])).bind fun a6 => c_strongest_way v_1 a4 a5 a6) acc9) i7 (D.dct [] [])).bind fun d8 => cnR d8 d8).bind fun v_10 => (((R.ok v_10).bind fun d11 => ofO (dKeys d11)).bind fun i16 => (foldG some (fun x12 : D => ((pr (gItem [v_10, x12])).bind fun a14 => ((pr (fRev [x12])).bind fun a13 => pr (gItem [v_10, a13])).bind fun a15 => pr (fGt [a14, a15])).bind asB) (fun (x12 : D) (acc18 : D) => lsR (pr (gItem [x12, D.int 1])) acc18) i16 (D.lst [])).bind fun d17 => cnR d17 d17).bind fun v_19 => (srR sSeq [pr ((fFld "options") [p_0])]).bind fun i21 => (filR some (fun x20 : D => (pr (gNotIn [x20, v_19])).bind asB) (fun x20 : D => .ok x20) i21).bind fun ds22 => .ok (D.lst ds22)
def c_all_orders (p_9 : D) : R D :=
  ((ofO (sSeq [p_9])).bind fun i11 => forN some (fun (t1 : D) (x2 : D) => ((ofO (sSeq [t1])).bind fun i5 => (foldM some (fun (x3 : D) (acc9 : D) => (ofO (sSeq [p_9])).bind fun i6 => foldG some (fun x4 : D => (pr (gNotIn [x4, x3])).bind asB) (fun (x4 : D) (acc8 : D) => lsR (pr (fAdd [x3, D.tup [x4]])) acc8) i6 acc9) i5 (D.lst [])).bind fun d7 => cnR d7 d7).bind fun v_10 => .ok v_10) i11 (D.lst [D.tup []])).bind fun t12 => .ok t12
def c_pairs_in (p_p : D) : R D :=
  (ofO (sEnumG [p_p])).bind fun i3 => (foldM (un2 some some) (fun (x1 : D × D) (acc7 : D) => (srR sSeq [slR (.ok p_p) (some (pr (fAdd [x1.1, D.int 1]))) none]).bind fun i4 => foldM some (fun (x2 : D) (acc6 : D) => lsR (.ok (D.tup [x1.2, x2])) acc6) i4 acc7) i3 (D.lst [])).bind fun d5 => cnR d5 d5
def c_cost_at (p_b : D) (p_p : D) : R D :=
  ((srR sSeq [c_pairs_in p_p]).bind fun i3 => (mapR (un2 some some) (fun x1 : D × D => (pr (gItem [p_b, D.tup [x1.2, x1.1]])).bind fun a2 => pr (fMax2 [D.int 0, a2])) i3).bind fun ds4 => .ok (D.lst ds4)).bind fun a5 => pr (fSum [a5])
def c_all_costs (p_0 : D) : R D :=
  (c_margins p_0).bind fun v_1 => (srR sSeq [(pr ((fFld "options") [p_0])).bind fun a2 => c_all_orders a2]).bind fun i4 => (mapR some (fun x3 : D => tupR [c_cost_at v_1 x3, .ok x3]) i4).bind fun ds5 => .ok (D.lst ds5)
def c_best_orders (p_0 : D) : R D :=
  (c_all_costs p_0).bind fun v_1 => (((ofO (sSeq [v_1])).bind fun i3 => (mapR (un2 some some) (fun x2 : D × D => .ok x2.1) i3).bind fun ds4 => .ok (D.lst ds4)).bind fun a5 => pr (fMin [a5])).bind fun v_6 => (ofO (sSeq [v_1])).bind fun i8 => (filR (un2 some some) (fun x7 : D × D => (pr (fEq [x7.1, v_6])).bind asB) (fun x7 : D × D => .ok x7.2) i8).bind fun ds9 => .ok (D.lst ds9)
def c_best_heads (p_0 : D) : R D :=
  ((srR sSeq [c_best_orders p_0]).bind fun i2 => (mapR some (fun x1 : D => pr (gItem [x1, D.int 0])) i2).bind fun ds3 => .ok (D.lst ds3)).bind fun v_4 => (srR sSeq [pr ((fFld "options") [p_0])]).bind fun i6 => (filR some (fun x5 : D => (pr (gIn [x5, v_4])).bind asB) (fun x5 : D => .ok x5) i6).bind fun ds7 => .ok (D.lst ds7)
def c_is_less_against (p_b : D) (p_6 : D) (p_2 : D) (p_q : D) : R D :=
  ((pr (fEq [p_q, p_6])).bind asB).bind fun b1 => if b1 = true then (.ok (D.bl false)) else ((pr (fEq [p_q, p_2])).bind asB).bind fun b2 => if b2 = true then ((pr (gItem [p_b, D.tup [p_6, p_2]])).bind fun a3 => pr (fLt [a3, D.int 1])) else (pr (gItem [p_b, D.tup [p_6, p_q]])).bind fun a4 => (pr (gItem [p_b, D.tup [p_2, p_q]])).bind fun a5 => pr (fLt [a4, a5])
def c_is_cover (p_0 : D) (p_b : D) (p_6 : D) (p_2 : D) : R D :=
  (pr (fNe [p_6, p_2])).bind fun d7 => (trR d7).bind fun b8 => if b8 = true then ((((srR sSeq [pr ((fFld "options") [p_0])]).bind fun i2 => (mapR some (fun x1 : D => c_is_less_against p_b p_6 p_2 x1) i2).bind fun ds3 => .ok (D.lst ds3)).bind fun a4 => pr (fAny [a4])).bind fun a6 => (trR a6).bind fun b5 => .ok (D.bl (!b5))) else .ok d7
def c_covers_of (p_0 : D) (p_b : D) (p_m : D) : R D :=
  (srR sSeq [pr ((fFld "options") [p_0])]).bind fun i3 => (filR some (fun x1 : D => (c_is_cover p_0 p_b x1 p_m).bind fun a2 => trR a2) (fun x1 : D => .ok x1) i3).bind fun ds4 => .ok (D.lst ds4)
def c_uncovered_lot (p_0 : D) : R D :=
  (c_standings_of p_0).bind fun v_1 => (srR sSeq [pr ((fFld "options") [p_0])]).bind fun i4 => (filR some (fun x2 : D => ((c_covers_of p_0 v_1 x2).bind fun a3 => pr (fEq [a3, D.lst []])).bind asB) (fun x2 : D => .ok x2) i4).bind fun ds5 => .ok (D.lst ds5)
def c_fewest_of (p_v : D) : R D :=
  ((pro (fLVals [p_v])).bind fun a1 => pr (fMin [a1])).bind fun v_2 => ((R.ok p_v).bind fun d3 => ofO (dItems d3)).bind fun i5 => (foldG (un2 some some) (fun x4 : D × D => (pr (fEq [x4.2, v_2])).bind asB) (fun (x4 : D × D) (acc7 : D) => lsR (.ok x4.1) acc7) i5 (D.lst [])).bind fun d6 => cnR d6 d6
def c_foremost (p_9 : D) (p_l : D) (p_n : D) : R D :=
  (c_heights_of p_9 p_l).bind fun v_1 => (((ofO (sSeq [p_n])).bind fun i3 => (mapR some (fun x2 : D => pr (gItem [v_1, x2])) i3).bind fun ds4 => .ok (D.lst ds4)).bind fun a5 => pr (fMax [a5])).bind fun v_6 => ((ofO (sSeq [p_n])).bind fun i9 => (filR some (fun x7 : D => ((pr (gItem [v_1, x7])).bind fun a8 => pr (fEq [a8, v_6])).bind asB) (fun x7 : D => .ok x7) i9).bind fun ds10 => .ok (D.lst ds10)).bind fun v_11 => (((pr (gLen [v_11])).bind fun a12 => pr (fEq [a12, D.int 1])).bind asB).bind fun b13 => if b13 = true then (pr (gItem [v_11, D.int 0])) else (.ok D.non)
def c_tallies_of (p_0 : D) (p_n : D) : R D :=
  ((srR sSeq [pr ((fFld "options") [p_0])]).bind fun i2 => (foldG some (fun x1 : D => (pr (gIn [x1, p_n])).bind asB) (fun (x1 : D) (acc4 : D) => dkR (.ok x1) (.ok (D.int 0)) acc4) i2 (D.dck [] [])).bind fun d3 => cnR d3 d3).bind fun v_5 => ((srR sSeq [pr ((fFld "voices") [p_0])]).bind fun i15 => forN (un2 some some) (fun (t6 : D) (x7 : D × D) => ((pr ((fFld "options") [p_0])).bind fun a8 => c_foremost a8 x7.1 p_n).bind fun v_9 => ((pr (fIsNot [v_9, D.non])).bind asB).bind fun b10 => if b10 = true then ((R.ok v_9).bind fun y12 => (ofO (augA t6 y12)).bind fun w13 => (R.ok x7.2).bind fun n14 => (ofO (augB t6 y12 w13 n14)).bind fun q11 => .ok q11.2) else (.ok t6)) i15 v_5).bind fun t16 => cnR t16 t16
def c_left_behind (p_0 : D) (p_11 : D) : R D :=
  (R.ok (D.lst [])).bind fun v_1 => ((ofO (sSeq [p_11])).bind fun i21 => forN some (fun (t2 : D) (x3 : D) => ((srR sSeq [(c_tallies_of p_0 x3).bind fun a4 => c_fewest_of a4]).bind fun i19 => forN some (fun (t5 : D) (x6 : D) => ((ofO (sSeq [x3])).bind fun i8 => (filR some (fun x7 : D => (pr (fNe [x7, x6])).bind asB) (fun x7 : D => .ok x7) i8).bind fun ds9 => .ok (D.lst ds9)).bind fun v_10 => ((pr (gNotIn [v_10, t5])).bind asB).bind fun b11 => if b11 = true then ((if D.ty t5 = some "list" then (ofO (mAppend [v_10] t5)).bind fun q15 => .ok (q15.1, q15.2) else .bad).bind fun p18 => .ok p18.2) else (.ok t5)) i19 t2).bind fun t20 => .ok t20) i21 v_1).bind fun t22 => cnR t22 t22
def c_round_ends (p_0 : D) : R D :=
  (lstR [(pr ((fFld "options") [p_0])).bind fun a1 => pro (fList [a1])]).bind fun v_2 => ((srR sRng1 [((pr ((fFld "options") [p_0])).bind fun a3 => pr (gLen [a3])).bind fun a4 => pr (fSub [a4, D.int 1])]).bind fun i8 => forN some (fun (t5 : D) (x6 : D) => (c_left_behind p_0 t5).bind fun v_7 => .ok v_7) i8 v_2).bind fun t9 => (srR sSeq [pr ((fFld "options") [p_0])]).bind fun i11 => (filR some (fun x10 : D => (pr (gIn [D.lst [x10], t9])).bind asB) (fun x10 : D => .ok x10) i11).bind fun ds12 => .ok (D.lst ds12)
def c_other_lot (p_0 : D) (p_5 : D) : R D :=
  ((pr (fEq [p_5, D.str "ways"])).bind asB).bind fun b1 => if b1 = true then (c_ways_lot p_0) else ((pr (fEq [p_5, D.str "best"])).bind asB).bind fun b2 => if b2 = true then (c_best_heads p_0) else ((pr (fEq [p_5, D.str "top"])).bind asB).bind fun b3 => if b3 = true then (c_top_lot p_0) else ((pr (fEq [p_5, D.str "uncovered"])).bind asB).bind fun b4 => if b4 = true then (c_uncovered_lot p_0) else c_round_ends p_0
def c_lot (p_0 : D) (p_5 : D) : R D :=
  ((pr ((fFld "options") [p_0])).bind fun a1 => c_check_rule a1 p_5).bind fun _ => ((pr ((fIsi "tuple") [p_5])).bind fun a2 => trR a2).bind fun b3 => if b3 = true then ((pr (gItem [p_5, D.int 1])).bind fun a4 => c_weighed_lot p_0 a4) else (c_numbers_of p_0 p_5).bind fun v_5 => ((pr (fIs [v_5, D.non])).bind asB).bind fun b6 => if b6 = true then (c_other_lot p_0 p_5) else (srR sSeq [pr ((fFld "options") [p_0])]).bind fun i10 => (filR some (fun x7 : D => ((pr (gItem [v_5, x7])).bind fun a8 => (pr (fMaxV [v_5])).bind fun a9 => pr (fEq [a8, a9])).bind asB) (fun x7 : D => .ok x7) i10).bind fun ds11 => .ok (D.lst ds11)
def xb_l_cell_at : SS := seq (ifS (tst (app fLt [.sl 1, .ex (app gLen [.sl 0])])) (retE (app gItem [.sl 0, .sl 1])) skip)
  (retE (cst (.int 0)))
def xf_l_cell_at : FSem := fnS 2 xb_l_cell_at
def c_l_cell_at (p_4 : D) (p_f : D) : R D :=
  (((pr (gLen [p_4])).bind fun a1 => pr (fLt [p_f, a1])).bind asB).bind fun b2 => if b2 = true then (pr (gItem [p_4, p_f])) else .ok (D.int 0)
theorem xq_l_cell_at (p_4 : D) (p_f : D) : FnP false xf_l_cell_at [p_4, p_f] (c_l_cell_at p_4 p_f) :=
  by
  refine fn_tl ?_
  show (kTl false (fun d : D => d) yF).p (xb_l_cell_at [some (.val p_4), some (.val p_f)]) (c_l_cell_at p_4 p_f)
  unfold xb_l_cell_at c_l_cell_at
  refine k_ifrT (et_tst (ev_app2 (eo_sl (s := .val p_f) rfl) (eo_ex (ev_app1 (eo_sl (s := .val p_4) rfl))))) ?_ ?_
  · exact k_retP (ev_app2 (eo_sl (s := .val p_4) rfl) (eo_sl (s := .val p_f) rfl)) (fun h => h)
  · exact k_retP (ev_cst) (fun h => h)
def xb_l_well : SS := retE (disp mkL [app gItem [.ex (disp mkL [cst (.int 0), nm 0]), .ex (app fInt [.ex (app fGe [.sl 0, .ex (app fPow [.ex (cst (.int 10)), .ex (cst (.int 18))])])])], app fMod [.sl 0, .ex (cst (.int 2147483629))], cst (.int 0)])
def xf_l_well : FSem := fnS 1 xb_l_well
def c_l_well (p_i : D) : R D :=
  lstR [(((pr (fPow [D.int 10, D.int 18])).bind fun a1 => pr (fGe [p_i, a1])).bind fun a2 => pr (fInt [a2])).bind fun a3 => pr (gItem [D.lst [D.int 0, p_i], a3]), pr (fMod [p_i, D.int 2147483629]), .ok (D.int 0)]
theorem xq_l_well (p_i : D) : FnP true xf_l_well [p_i] (c_l_well p_i) :=
  by
  refine fn_tl ?_
  show (kTl true (fun d : D => d) yF).p (xb_l_well [some (.val p_i)]) (c_l_well p_i)
  unfold xb_l_well c_l_well
  exact k_retP (ev_lst (eps_cons (ev_app2 (eo_ex (ev_lst (eps_cons (ev_cst) (eps_cons (ev_nm (d := p_i) rfl) (eps_nil))))) (eo_ex (ev_app1 (eo_ex (ev_app2 (eo_sl (s := .val p_i) rfl) (eo_ex (ev_app2 (eo_ex (ev_cst)) (eo_ex (ev_cst))))))))) (eps_cons (ev_app2 (eo_sl (s := .val p_i) rfl) (eo_ex (ev_cst))) (eps_cons (ev_cst) (eps_nil))))) (fun h => h)
def xb_l_draw : SS := seq (ifS (tst (app fGt [.ex (app gItem [.sl 0, .ex (cst (.int 0))]), .ex (cst (.int 0))])) (seq (setI 3 (app fMod [.ex (app gItem [.sl 0, .ex (cst (.int 0))]), .sl 1]))
  (frz 3 (seq (storeG 0 (.ex (cst (.int 0))) (app fFdiv [.ex (app gItem [.sl 0, .ex (cst (.int 0))]), .sl 1]))
  (retI 3)))) skip)
  (seq (storeG 0 (.ex (cst (.int 2))) (app fAdd [.ex (app gItem [.sl 0, .ex (cst (.int 2))]), .ex (cst (.int 1))]))
  (seq (setI 2 (app fMod [.ex (app fPow [.ex (app fAdd [.ex (app fAdd [.ex (app gItem [.sl 0, .ex (cst (.int 1))]), .ex (app fMul [.ex (cst (.int 7919)), .ex (app gItem [.sl 0, .ex (cst (.int 2))])])]), .ex (cst (.int 1))]), .ex (cst (.int 5))]), .ex (cst (.int 2147483647))]))
  (frz 2 (seq (setI 2 (app fMod [.ex (app fMul [.sl 2, .ex (app fAdd [.ex (app fAdd [.ex (app fFdiv [.sl 2, .ex (cst (.int 1009))]), .ex (cst (.int 69621))]), .ex (app gItem [.sl 0, .ex (cst (.int 2))])])]), .ex (cst (.int 2147483629))]))
  (frz 2 (retE (app fMod [.ex (app fMod [.ex (app fMul [.sl 2, .ex (app fAdd [.ex (app fFdiv [.sl 2, .ex (cst (.int 2003))]), .ex (cst (.int 40692))])]), .ex (cst (.int 2147483399))]), .sl 1])))))))
def xf_l_draw : FSem := fnS 4 xb_l_draw
def c_l_draw (p_3 : D) (p_d : D) : R (D × D) :=
  (((pr (gItem [p_3, D.int 0])).bind fun a1 => pr (fGt [a1, D.int 0])).bind asB).bind fun b2 => if b2 = true then (((pr (gItem [p_3, D.int 0])).bind fun a3 => pr (fMod [a3, p_d])).bind fun v_4 => ((pr (gItem [p_3, D.int 0])).bind fun a5 => pr (fFdiv [a5, p_d])).bind fun d7 => (R.ok (D.int 0)).bind fun j8 => (ofO (stG d7 j8 p_3)).bind fun q6 => .ok (v_4, q6.2)) else ((pr (gItem [p_3, D.int 2])).bind fun a9 => pr (fAdd [a9, D.int 1])).bind fun d11 => (R.ok (D.int 2)).bind fun j12 => (ofO (stG d11 j12 p_3)).bind fun q10 => (((((pr (gItem [q10.2, D.int 1])).bind fun a14 => ((pr (gItem [q10.2, D.int 2])).bind fun a13 => pr (fMul [D.int 7919, a13])).bind fun a15 => pr (fAdd [a14, a15])).bind fun a16 => pr (fAdd [a16, D.int 1])).bind fun a17 => pr (fPow [a17, D.int 5])).bind fun a18 => pr (fMod [a18, D.int 2147483647])).bind fun v_19 => (((((pr (fFdiv [v_19, D.int 1009])).bind fun a20 => pr (fAdd [a20, D.int 69621])).bind fun a21 => (pr (gItem [q10.2, D.int 2])).bind fun a22 => pr (fAdd [a21, a22])).bind fun a23 => pr (fMul [v_19, a23])).bind fun a24 => pr (fMod [a24, D.int 2147483629])).bind fun v_25 => (((((pr (fFdiv [v_25, D.int 2003])).bind fun a26 => pr (fAdd [a26, D.int 40692])).bind fun a27 => pr (fMul [v_25, a27])).bind fun a28 => pr (fMod [a28, D.int 2147483399])).bind fun a29 => pr (fMod [a29, p_d])).bind fun d30 => .ok (d30, q10.2)
theorem xq_l_draw (p_3 : D) (p_d : D) : FnS false xf_l_draw [.ref p_3, .val p_d] (c_l_draw p_3 p_d) (fun b : D × D => b.1) (fun b => [.ref b.2, .val p_d]) :=
  by
  refine fs_tl ?_
  show (kTl false (fun b : D × D => b.1) (fun b ρ => finA [.ref p_3, .val p_d] ρ = [.ref b.2, .val p_d])).p (xb_l_draw [some (.ref p_3), some (.val p_d), none, none]) (c_l_draw p_3 p_d)
  unfold xb_l_draw c_l_draw
  refine k_ifrT (et_tst (ev_app2 (eo_ex (ev_app2 (eo_sl (s := .ref p_3) rfl) (eo_ex (ev_cst)))) (eo_ex (ev_cst)))) ?_ ?_
  · refine k_set (i := 3) rfl (ev_app2 (eo_ex (ev_app2 (eo_sl (s := .ref p_3) rfl) (eo_ex (ev_cst)))) (eo_sl (s := .val p_d) rfl)) (fun v_4 => ?_)
    refine k_storeG (sm := .ref) (d0 := p_3) (ev_app2 (eo_ex (ev_app2 (eo_sl (s := .ref p_3) rfl) (eo_ex (ev_cst)))) (eo_sl (s := .val p_d) rfl)) (eo_ex (ev_cst)) rfl (.inr rfl) (fun q6 => ?_)
    exact k_retV (d := v_4) rfl rfl rfl
  · refine k_storeG (sm := .ref) (d0 := p_3) (ev_app2 (eo_ex (ev_app2 (eo_sl (s := .ref p_3) rfl) (eo_ex (ev_cst)))) (eo_ex (ev_cst))) (eo_ex (ev_cst)) rfl (.inr rfl) (fun q10 => ?_)
    refine k_set (i := 2) rfl (ev_app2 (eo_ex (ev_app2 (eo_ex (ev_app2 (eo_ex (ev_app2 (eo_ex (ev_app2 (eo_sl (s := .ref q10.2) rfl) (eo_ex (ev_cst)))) (eo_ex (ev_app2 (eo_ex (ev_cst)) (eo_ex (ev_app2 (eo_sl (s := .ref q10.2) rfl) (eo_ex (ev_cst)))))))) (eo_ex (ev_cst)))) (eo_ex (ev_cst)))) (eo_ex (ev_cst))) (fun v_19 => ?_)
    refine k_set (i := 2) rfl (ev_app2 (eo_ex (ev_app2 (eo_sl (s := .val v_19) rfl) (eo_ex (ev_app2 (eo_ex (ev_app2 (eo_ex (ev_app2 (eo_sl (s := .val v_19) rfl) (eo_ex (ev_cst)))) (eo_ex (ev_cst)))) (eo_ex (ev_app2 (eo_sl (s := .ref q10.2) rfl) (eo_ex (ev_cst)))))))) (eo_ex (ev_cst))) (fun v_25 => ?_)
    exact k_ret (w := fun d30 : D => (d30, q10.2)) (ev_app2 (eo_ex (ev_app2 (eo_ex (ev_app2 (eo_sl (s := .val v_25) rfl) (eo_ex (ev_app2 (eo_ex (ev_app2 (eo_sl (s := .val v_25) rfl) (eo_ex (ev_cst)))) (eo_ex (ev_cst)))))) (eo_ex (ev_cst)))) (eo_sl (s := .val p_d) rfl)) (fun h => h) (fun _ => rfl) (fun _ => rfl)
def xb_l_one : SS := retE (app gItem [.sl 1, .ex (callF xf_l_draw [.sl 0, .ex (app gLen [.sl 1])] [])])
def xf_l_one : FSem := fnS 2 xb_l_one
def c_l_one (p_3 : D) (p_7 : D) : R (D × D) :=
  (((((pr (gLen [p_7])).bind fun d1 => (R.ok ()).bind fun a2 => .ok (d1, a2)).bind fun a3 => (c_l_draw p_3 a3.1).bind fun b4 => .ok (b4.1, b4.2)).bind fun p6 => (R.ok ()).bind fun a7 => .ok (p6, a7)).bind fun a8 => (pr (gItem [p_7, a8.1.1])).bind fun d9 => .ok (d9, a8.1.2)).bind fun p11 => .ok (p11.1, p11.2)
theorem xq_l_one (p_3 : D) (p_7 : D) : FnS false xf_l_one [.ref p_3, .val p_7] (c_l_one p_3 p_7) (fun b : D × D => b.1) (fun b => [.ref b.2, .val p_7]) :=
  by
  refine fs_tl ?_
  show (kTl false (fun b : D × D => b.1) (fun b ρ => finA [.ref p_3, .val p_7] ρ = [.ref b.2, .val p_7])).p (xb_l_one [some (.ref p_3), some (.val p_7)]) (c_l_one p_3 p_7)
  unfold xb_l_one c_l_one
  exact k_retS (w := fun p11 : D × D => (p11.1, p11.2)) (es_app (ds := fun a8 : ((D × D) × Unit) => [p_7, a8.1.1]) (st := fun a8 : ((D × D) × Unit) => a8.1.2) (enc := (fun s10 : D => [some (.ref s10), some (.val p_7)])) (xs_sl (s := .val p_7) rfl (xs_s (es_call (sls := fun a3 : (D × Unit) => [.ref p_3, .val a3.1]) (cf := fun a3 : (D × Unit) => c_l_draw p_3 a3.1) (val := (fun b : D × D => b.1)) (outs := fun (a3 : (D × Unit)) (b4 : D × D) => [.ref b4.2, .val a3.1]) (st := fun (a3 : (D × Unit)) (b4 : D × D) => b4.2) (enc := (fun s5 : D => [some (.ref s5), some (.val p_7)])) (xs_sl (s := .ref p_3) rfl (xs_p (ev_app1 (eo_sl (s := .val p_7) rfl)) (xs_nil))) (fun _ => rfl) (fun _ => rfl) (fun a3 => xq_l_draw p_3 a3.1) (fun _ _ => rfl)) (fun p6 => xs_nil))) (fun _ => rfl) (fun _ => rfl)) (fun h => h) (fun _ => rfl) (fun _ => rfl)
def xb_l_lowest : SS := seq (parS 2 3 (app fAbs [.sl 0]) (app fAbs [.sl 1]))
  (seq (whileS (tst (app fGt [.sl 3, .ex (cst (.int 0))])) (seq (parS 2 3 (nm 3) (app fMod [.sl 2, .sl 3]))
  (skip)) (2 ^ 64))
  (seq (ifS (tst (app fLt [.sl 1, .ex (cst (.int 0))])) (seq (setI 2 (app fSub [.ex (cst (.int 0)), .sl 2]))
  (frz 2 (skip))) (skip))
  (retE (disp mkT [app fFdiv [.sl 0, .sl 2], app fFdiv [.sl 1, .sl 2]]))))
def xf_l_lowest : FSem := fnS 4 xb_l_lowest
def c_l_lowest (p_g : D) (p_e : D) : R D :=
  (pr (fAbs [p_g])).bind fun v_1 => (pr (fAbs [p_e])).bind fun v_2 => (whN (fun t3 : D × D => (pr (fGt [t3.2, D.int 0])).bind asB) (fun t3 : D × D => (R.ok t3.2).bind fun v_4 => (pr (fMod [t3.1, t3.2])).bind fun v_5 => .ok (v_4, v_5)) (2 ^ 64) (v_1, v_2)).bind fun t6 => (((pr (fLt [p_e, D.int 0])).bind asB).bind fun b7 => if b7 = true then ((pr (fSub [D.int 0, t6.1])).bind fun v_9 => .ok v_9) else (.ok t6.1)).bind fun t8 => tupR [pr (fFdiv [p_g, t8]), pr (fFdiv [p_e, t8])]
theorem xq_l_lowest (p_g : D) (p_e : D) : FnP false xf_l_lowest [p_g, p_e] (c_l_lowest p_g p_e) :=
  by
  refine fn_tl ?_
  show (kTl false (fun d : D => d) yF).p (xb_l_lowest [some (.val p_g), some (.val p_e), none, none]) (c_l_lowest p_g p_e)
  unfold xb_l_lowest c_l_lowest
  refine k_par (i := 2) (j := 3) rfl rfl (ev_app1 (eo_sl (s := .val p_g) rfl)) (ev_app1 (eo_sl (s := .val p_e) rfl)) (fun v_1 v_2 => ?_)
  refine k_seqN (env := fun t6 : D × D => [some (.val p_g), some (.val p_e), some (.val t6.1), some (.val t6.2)]) ?_ (fun t6 => ?_)
  · refine k_while (env := fun t3 : D × D => [some (.val p_g), some (.val p_e), some (.val t3.1), some (.val t3.2)]) (fun t3 => et_tst (ev_app2 (eo_sl (s := .val t3.2) rfl) (eo_ex (ev_cst)))) (fun t3 => ?_) (2 ^ 64) (v_1, v_2)
    refine k_par (i := 2) (j := 3) rfl rfl (ev_nm (d := t3.2) rfl) (ev_app2 (eo_sl (s := .val t3.1) rfl) (eo_sl (s := .val t3.2) rfl)) (fun v_4 v_5 => ?_)
    exact k_nil (t := (v_4, v_5)) rfl
  · refine k_seqN (env := fun t8 : D => [some (.val p_g), some (.val p_e), some (.val t8), some (.val t6.2)]) ?_ (fun t8 => ?_)
    · refine k_if (et_tst (ev_app2 (eo_sl (s := .val p_e) rfl) (eo_ex (ev_cst)))) ?_ ?_
      · refine k_set (i := 2) rfl (ev_app2 (eo_ex (ev_cst)) (eo_sl (s := .val t6.1) rfl)) (fun v_9 => ?_)
        exact k_nil (t := v_9) rfl
      · exact k_nil (t := t6.1) rfl
    · exact k_retP (ev_tup (eps_cons (ev_app2 (eo_sl (s := .val p_g) rfl) (eo_sl (s := .val t8) rfl)) (eps_cons (ev_app2 (eo_sl (s := .val p_e) rfl) (eo_sl (s := .val t8) rfl)) (eps_nil)))) (fun h => h)
end VP
namespace VP
open PySem PySem.Spec PyProof.Rows L2 VF
end VP
namespace VP
open PySem PySem.Spec PyProof.Rows L2 VF
end VP
namespace VP
open PySem PySem.Spec PyProof.Rows L2 VF
end VP
namespace VP
open PySem PySem.Spec PyProof.Rows L2 VF
end VP
namespace VP
open PySem PySem.Spec PyProof.Rows L2 VF
def c_l_pair (p_3 : D) : R (D × D) :=
  ((((((((c_l_draw p_3 (D.int 9)).bind fun b4 => .ok (b4.1, b4.2)).bind fun p6 => ((R.ok (D.int 4)).bind fun d7 => (R.ok ()).bind fun a8 => .ok (d7, a8)).bind fun a9 => .ok (p6, a9)).bind fun a10 => (pr (fSub [a10.1.1, a10.2.1])).bind fun d11 => .ok (d11, a10.1.2)).bind fun p13 => ((((((pr (fPow [D.int 10, D.int 40])).bind fun d14 => (R.ok ()).bind fun a15 => .ok (d14, a15)).bind fun a16 => (c_l_draw p13.2 a16.1).bind fun b17 => .ok (b17.1, b17.2)).bind fun p19 => ((pr (fPow [D.int 10, D.int 39])).bind fun d20 => (R.ok ()).bind fun a21 => .ok (d20, a21)).bind fun a22 => .ok (p19, a22)).bind fun a23 => (pr (fSub [a23.1.1, a23.2.1])).bind fun d24 => .ok (d24, a23.1.2)).bind fun p26 => (R.ok ()).bind fun a27 => .ok (p26, a27)).bind fun a28 => .ok (p13, a28)).bind fun a29 => .ok (D.lst [a29.1.1, a29.2.1.1], a29.2.1.2)).bind fun p31 => (((((((c_l_draw p31.2 (D.int 4)).bind fun b35 => .ok (b35.1, b35.2)).bind fun p37 => ((R.ok (D.int 3)).bind fun d38 => (R.ok ()).bind fun a39 => .ok (d38, a39)).bind fun a40 => .ok (p37, a40)).bind fun a41 => (pr (fEq [a41.1.1, a41.2.1])).bind fun d42 => .ok (d42, a41.1.2)).bind fun p44 => (R.ok ()).bind fun a45 => .ok (p44, a45)).bind fun a46 => (pr (fInt [a46.1.1])).bind fun d47 => .ok (d47, a46.1.2)).bind fun p49 => (R.ok ()).bind fun a50 => .ok (p49, a50)).bind fun a51 => .ok (p31, a51)).bind fun a52 => (pr (gItem [a52.1.1, a52.2.1.1])).bind fun d53 => .ok (d53, a52.2.1.2)).bind fun p55 => (((R.ok (D.int 1)).bind fun d98 => (((((((c_l_draw p55.2 (D.int 6)).bind fun b59 => .ok (b59.1, b59.2)).bind fun p61 => ((((pr (fPow [D.int 10, D.int 40])).bind fun d62 => (R.ok ()).bind fun a63 => .ok (d62, a63)).bind fun a64 => (c_l_draw p61.2 a64.1).bind fun b65 => .ok (b65.1, b65.2)).bind fun p67 => (R.ok ()).bind fun a68 => .ok (p67, a68)).bind fun a69 => .ok (p61, a69)).bind fun a70 => .ok (D.lst [a70.1.1, a70.2.1.1], a70.2.1.2)).bind fun p72 => (((((((c_l_draw p72.2 (D.int 4)).bind fun b76 => .ok (b76.1, b76.2)).bind fun p78 => ((R.ok (D.int 3)).bind fun d79 => (R.ok ()).bind fun a80 => .ok (d79, a80)).bind fun a81 => .ok (p78, a81)).bind fun a82 => (pr (fEq [a82.1.1, a82.2.1])).bind fun d83 => .ok (d83, a82.1.2)).bind fun p85 => (R.ok ()).bind fun a86 => .ok (p85, a86)).bind fun a87 => (pr (fInt [a87.1.1])).bind fun d88 => .ok (d88, a87.1.2)).bind fun p90 => (R.ok ()).bind fun a91 => .ok (p90, a91)).bind fun a92 => .ok (p72, a92)).bind fun a93 => (pr (gItem [a93.1.1, a93.2.1.1])).bind fun d94 => .ok (d94, a93.2.1.2)).bind fun p96 => (R.ok ()).bind fun a97 => .ok (p96, a97)).bind fun a99 => .ok (d98, a99)).bind fun a100 => (pr (fAdd [a100.1, a100.2.1.1])).bind fun d101 => .ok (d101, a100.2.1.2)).bind fun p103 => (c_l_lowest p55.1 p103.1).bind fun d104 => .ok (d104, p103.2)
def c_shares_sum (p_r : D) : R D :=
  (mkR (ap1 fun a0 => c_Share_init (D.ins "Share" [] []) a0 (D.int 1)) [.ok (D.int 0)]).bind fun v_1 => ((ofO (sSeq [p_r])).bind fun i5 => forN some (fun (t2 : D) (x3 : D) => (meC "Share" "plus" t2 (c_Share_plus t2 x3)).bind fun v_4 => .ok v_4) i5 v_1).bind fun t6 => .ok t6
def c_Share_less (p_1 : D) (p_2 : D) : R D :=
  mkR (ap2 fun a0 a1 => c_Share_init (D.ins "Share" [] []) a0 a1) [((pr ((fFld "num") [p_1])).bind fun a1 => (pr ((fFld "over") [p_2])).bind fun a2 => pr (fMul [a1, a2])).bind fun a5 => ((pr ((fFld "num") [p_2])).bind fun a3 => (pr ((fFld "over") [p_1])).bind fun a4 => pr (fMul [a3, a4])).bind fun a6 => pr (fSub [a5, a6]), (pr ((fFld "over") [p_1])).bind fun a7 => (pr ((fFld "over") [p_2])).bind fun a8 => pr (fMul [a7, a8])]
def c_Share_times (p_1 : D) (p_2 : D) : R D :=
  mkR (ap2 fun a0 a1 => c_Share_init (D.ins "Share" [] []) a0 a1) [(pr ((fFld "num") [p_1])).bind fun a1 => (pr ((fFld "num") [p_2])).bind fun a2 => pr (fMul [a1, a2]), (pr ((fFld "over") [p_1])).bind fun a3 => (pr ((fFld "over") [p_2])).bind fun a4 => pr (fMul [a3, a4])]
def c_Share_eq (p_1 : D) (p_2 : D) : R D :=
  (pr ((fIso "Share" ["Share"]) [p_2])).bind fun d3 => (trR d3).bind fun b4 => if b4 = true then ((tupR [pr ((fFld "num") [p_1]), pr ((fFld "over") [p_1])]).bind fun a1 => (tupR [pr ((fFld "num") [p_2]), pr ((fFld "over") [p_2])]).bind fun a2 => pr (fEq [a1, a2])) else .ok d3
def c_Share_by (p_1 : D) (p_2 : D) : R D :=
  (((pr ((fFld "num") [p_2])).bind fun a1 => pr (fEq [a1, D.int 0])).bind asB).bind fun b2 => if b2 = true then ((pr ((fFld "num") [p_1])).bind fun d3 => (R.ok (D.int 0)).bind fun d4 => (.exc ⟨"NoShare", ["over", "num", "why"], [d4, d3, .str "over nought"]⟩ : R Empty)).bind fun e9 => nomatch e9 else mkR (ap2 fun a0 a1 => c_Share_init (D.ins "Share" [] []) a0 a1) [(pr ((fFld "num") [p_1])).bind fun a5 => (pr ((fFld "over") [p_2])).bind fun a6 => pr (fMul [a5, a6]), (pr ((fFld "over") [p_1])).bind fun a7 => (pr ((fFld "num") [p_2])).bind fun a8 => pr (fMul [a7, a8])]
def c_l_by (p_w : D) (p_12 : D) : R D :=
  (R.tryX ((meC "Share" "by" p_w (c_Share_by p_w p_12)).bind fun v_2 => noE ((tupR [pr ((fFld "num") [v_2]), pr ((fFld "over") [v_2])]).bind fun v_3 => .ok v_3)) "NoShare" (fun x => (tupR [.ok (D.str "none"), ofO (kget x.fs x.ds "num"), ofO (kget x.fs x.ds "over")]).bind fun v_4 => .ok v_4)).bind fun t1 => .ok t1
def c_l_two_right (p_x : D) (p_r : D) (p_f : D) (p_y : D) : R D :=
  (pr (gItem [p_x, p_f])).bind fun v_1 => (pr (gItem [p_x, p_y])).bind fun v_2 => (pr (gItem [p_r, p_f])).bind fun v_3 => (pr (gItem [p_r, p_y])).bind fun v_4 => (lstR [meC "Share" "plus" v_3 (c_Share_plus v_3 v_4), meC "Share" "less" v_3 (c_Share_less v_3 v_4), meC "Share" "times" v_3 (c_Share_times v_3 v_4), meC "Share" "plus" v_3 (c_Share_plus v_3 v_4), meC "Share" "less" v_3 (c_Share_less v_3 v_4)]).bind fun v_5 => ((ofO (sSeq [v_5])).bind fun i7 => (mapR some (fun x6 : D => tupR [pr ((fFld "num") [x6]), pr ((fFld "over") [x6])]) i7).bind fun ds8 => .ok (D.lst ds8)).bind fun v_9 => ((((pr (gItem [v_1, D.int 0])).bind fun a10 => (pr (gItem [v_2, D.int 1])).bind fun a11 => pr (fMul [a10, a11])).bind fun a14 => ((pr (gItem [v_2, D.int 0])).bind fun a12 => (pr (gItem [v_1, D.int 1])).bind fun a13 => pr (fMul [a12, a13])).bind fun a15 => pr (fAdd [a14, a15])).bind fun a18 => ((pr (gItem [v_1, D.int 1])).bind fun a16 => (pr (gItem [v_2, D.int 1])).bind fun a17 => pr (fMul [a16, a17])).bind fun a19 => c_l_lowest a18 a19).bind fun v_20 => ((((pr (gItem [v_1, D.int 0])).bind fun a21 => (pr (gItem [v_2, D.int 1])).bind fun a22 => pr (fMul [a21, a22])).bind fun a25 => ((pr (gItem [v_2, D.int 0])).bind fun a23 => (pr (gItem [v_1, D.int 1])).bind fun a24 => pr (fMul [a23, a24])).bind fun a26 => pr (fSub [a25, a26])).bind fun a29 => ((pr (gItem [v_1, D.int 1])).bind fun a27 => (pr (gItem [v_2, D.int 1])).bind fun a28 => pr (fMul [a27, a28])).bind fun a30 => c_l_lowest a29 a30).bind fun v_31 => (((pr (gItem [v_1, D.int 0])).bind fun a32 => (pr (gItem [v_2, D.int 0])).bind fun a33 => pr (fMul [a32, a33])).bind fun a36 => ((pr (gItem [v_1, D.int 1])).bind fun a34 => (pr (gItem [v_2, D.int 1])).bind fun a35 => pr (fMul [a34, a35])).bind fun a37 => c_l_lowest a36 a37).bind fun v_38 => (((pr (fNe [v_9, D.lst [v_20, v_31, v_38, v_20, v_31]])).bind asB).bind fun b47 => if b47 = true then .ok true else (((meC "Share" "below" v_3 (c_Share_below v_3 v_4)).bind fun a45 => (((pr (gItem [v_1, D.int 0])).bind fun a39 => (pr (gItem [v_2, D.int 1])).bind fun a40 => pr (fMul [a39, a40])).bind fun a43 => ((pr (gItem [v_2, D.int 0])).bind fun a41 => (pr (gItem [v_1, D.int 1])).bind fun a42 => pr (fMul [a41, a42])).bind fun a44 => pr (fLt [a43, a44])).bind fun a46 => pr (fNe [a45, a46])).bind asB)).bind fun b48 => if b48 = true then (.ok (D.bl false)) else ((((meC "Share" "times" v_3 (c_Share_times v_3 v_4)).bind fun a49 => (meC "Share" "times" v_3 (c_Share_times v_3 v_4)).bind fun a50 => eqR true "Share" c_Share_eq a49 a50).bind asB).bind fun b53 => if b53 = true then .ok true else (((meC "Share" "below" v_3 (c_Share_below v_3 v_4)).bind fun a51 => (meC "Share" "below" v_3 (c_Share_below v_3 v_4)).bind fun a52 => pr (fNe [a51, a52])).bind asB)).bind fun b54 => if b54 = true then (.ok (D.bl false)) else ((((pr (gItem [v_2, D.int 0])).bind fun a55 => pr (fNe [a55, D.int 0])).bind asB).bind fun b58 => if b58 = true then (((meC "Share" "by" v_3 (c_Share_by v_3 v_4)).bind fun a56 => (meC "Share" "by" v_3 (c_Share_by v_3 v_4)).bind fun a57 => eqR true "Share" c_Share_eq a56 a57).bind asB) else .ok false).bind fun b59 => if b59 = true then (.ok (D.bl false)) else (((pr (gItem [v_2, D.int 0])).bind fun a60 => pr (fEq [a60, D.int 0])).bind asB).bind fun b61 => if b61 = true then ((c_l_by v_3 v_4).bind fun a62 => (tupR [.ok (D.str "none"), pr (gItem [v_1, D.int 0]), .ok (D.int 0)]).bind fun a63 => pr (fEq [a62, a63])) else (c_l_by v_3 v_4).bind fun a70 => (((pr (gItem [v_1, D.int 0])).bind fun a64 => (pr (gItem [v_2, D.int 1])).bind fun a65 => pr (fMul [a64, a65])).bind fun a68 => ((pr (gItem [v_1, D.int 1])).bind fun a66 => (pr (gItem [v_2, D.int 0])).bind fun a67 => pr (fMul [a66, a67])).bind fun a69 => c_l_lowest a68 a69).bind fun a71 => pr (fEq [a70, a71])
def c_law_k04 (p_4 : D) : R D :=
  ((srR sSeq [(lstR [c_l_cell_at p_4 (D.int 0)]).bind fun a1 => (slR (.ok p_4) (some (.ok (D.int 1))) (some (.ok (D.int 20)))).bind fun a2 => pr (fAdd [a1, a2])]).bind fun i88 => forB some (fun (t3 : Unit) (x4 : D) => (c_l_well x4).bind fun v_5 => ((((((R.ok (D.int 2)).bind fun d13 => (((c_l_draw v_5 (D.int 6)).bind fun b9 => .ok (b9.1, b9.2)).bind fun p11 => (R.ok ()).bind fun a12 => .ok (p11, a12)).bind fun a14 => .ok (d13, a14)).bind fun a15 => (pr (fAdd [a15.1, a15.2.1.1])).bind fun d16 => .ok (d16, a15.2.1.2)).bind fun p18 => (R.ok ()).bind fun a19 => .ok (p18, a19)).bind fun a20 => (ofO (sRng1 [a20.1.1])).bind fun i21 => .ok (i21, a20.1.2)).bind fun p27 => (mapS some (fun (s28 : D) (x23 : D) => (c_l_pair s28).bind fun b30 => .ok (b30.1, b30.2)) p27.1 ((fun a35 : D => a35) p27.2)).bind fun q33 => .ok (D.lst q33.1, q33.2)).bind fun p36 => ((ofO (sSeq [p36.1])).bind fun i38 => (mapR (un2 some some) (fun x37 : D × D => mkR (ap2 fun a0 a1 => c_Share_init (D.ins "Share" [] []) a0 a1) [.ok x37.1, .ok x37.2]) i38).bind fun ds39 => .ok (D.lst ds39)).bind fun v_40 => ((ofO (sSeq [p36.1])).bind fun i51 => forN (un2 some some) (fun (t41 : D) (x42 : D × D) => ((((pr (gItem [t41, D.int 0])).bind fun a43 => pr (fMul [a43, x42.2])).bind fun a45 => ((pr (gItem [t41, D.int 1])).bind fun a44 => pr (fMul [x42.1, a44])).bind fun a46 => pr (fAdd [a45, a46])).bind fun a48 => ((pr (gItem [t41, D.int 1])).bind fun a47 => pr (fMul [a47, x42.2])).bind fun a49 => c_l_lowest a48 a49).bind fun v_50 => .ok v_50) i51 (D.tup [D.int 0, D.int 1])).bind fun t52 => ((srR sSeq [lstR [.ok v_40, pr (fRev [v_40])]]).bind fun i59 => forB some (fun (t53 : Unit) (x54 : D) => (c_shares_sum x54).bind fun v_55 => (((tupR [pr ((fFld "num") [v_55]), pr ((fFld "over") [v_55])]).bind fun a56 => pr (fNe [a56, t52])).bind asB).bind fun b57 => if b57 = true then (R.ok (D.bl false)).bind fun a58 => .ok (.rt a58) else .ok (.nx ())) i59 ()).bind (LS.el (fun t60 => ((srR sRng1 [pr (gLen [p36.1])]).bind fun i73 => forB some (fun (t61 : Unit) (x62 : D) => ((srR sRng1 [pr (gLen [p36.1])]).bind fun i69 => forB some (fun (t63 : Unit) (x64 : D) => (((c_l_two_right p36.1 v_40 x62 x64).bind fun a65 => trR a65).bind fun b66 => .ok (!b66)).bind fun b67 => if b67 = true then (R.ok (D.bl false)).bind fun a68 => .ok (.rt a68) else .ok (.nx ())) i69 ()).bind (LS.el (fun t70 => .ok (.nx ())) fun a72 => .ok (.rt a72))) i73 ()).bind (LS.el (fun t74 => (((((ofO (sSeq [v_40])).bind fun i76 => (mapR some (fun x75 : D => tupR [pr ((fFld "num") [x75]), pr ((fFld "over") [x75])]) i76).bind fun ds77 => .ok (D.lst ds77)).bind fun a78 => pr (fNe [a78, p36.1])).bind asB).bind fun b81 => if b81 = true then .ok true else (((c_shares_sum (D.lst [])).bind fun a79 => (mkR (ap1 fun a0 => c_Share_init (D.ins "Share" [] []) a0 (D.int 1)) [.ok (D.int 0)]).bind fun a80 => eqR true "Share" c_Share_eq a79 a80).bind asB)).bind fun b82 => if b82 = true then (R.ok (D.bl false)).bind fun a83 => .ok (.rt a83) else .ok (.nx ())) fun a85 => .ok (.rt a85))) fun a87 => .ok (.rt a87))) i88 ()).bind (LS.el (fun t89 => .ok (D.bl true)) fun a91 => .ok a91)
end VP
namespace VP
open PySem PySem.Spec PyProof.Rows L2 VF
def xb_l_number : SS := seq (setI 1 (app fSub [.ex (callF xf_l_draw [.sl 0, .ex (app fMul [.ex (app fPow [.ex (cst (.int 10)), .ex (cst (.int 40))]), .ex (app fPow [.ex (cst (.int 10)), .ex (cst (.int 40))])])] []), .ex (app fMul [.ex (app fPow [.ex (cst (.int 10)), .ex (cst (.int 40))]), .ex (app fPow [.ex (cst (.int 10)), .ex (cst (.int 39))])])]))
  (frz 1 (retE (callF xf_l_one [.sl 0, .ex (disp mkL [app fSub [.ex (callF xf_l_draw [.sl 0, .ex (cst (.int 13))] []), .ex (cst (.int 6))], app fSub [.ex (callF xf_l_draw [.sl 0, .ex (cst (.int 2000))] []), .ex (cst (.int 1000))], nm 1])] [])))
def xf_l_number : FSem := fnS 2 xb_l_number
def c_l_number (p_3 : D) : R (D × D) :=
  ((((((pr (fPow [D.int 10, D.int 40])).bind fun a1 => (pr (fPow [D.int 10, D.int 40])).bind fun a2 => pr (fMul [a1, a2])).bind fun d3 => (R.ok ()).bind fun a4 => .ok (d3, a4)).bind fun a5 => (c_l_draw p_3 a5.1).bind fun b6 => .ok (b6.1, b6.2)).bind fun p8 => (((pr (fPow [D.int 10, D.int 40])).bind fun a9 => (pr (fPow [D.int 10, D.int 39])).bind fun a10 => pr (fMul [a9, a10])).bind fun d11 => (R.ok ()).bind fun a12 => .ok (d11, a12)).bind fun a13 => .ok (p8, a13)).bind fun a14 => (pr (fSub [a14.1.1, a14.2.1])).bind fun d15 => .ok (d15, a14.1.2)).bind fun p17 => ((((((((c_l_draw p17.2 (D.int 13)).bind fun b21 => .ok (b21.1, b21.2)).bind fun p23 => ((R.ok (D.int 6)).bind fun d24 => (R.ok ()).bind fun a25 => .ok (d24, a25)).bind fun a26 => .ok (p23, a26)).bind fun a27 => (pr (fSub [a27.1.1, a27.2.1])).bind fun d28 => .ok (d28, a27.1.2)).bind fun p30 => (((((c_l_draw p30.2 (D.int 2000)).bind fun b34 => .ok (b34.1, b34.2)).bind fun p36 => ((R.ok (D.int 1000)).bind fun d37 => (R.ok ()).bind fun a38 => .ok (d37, a38)).bind fun a39 => .ok (p36, a39)).bind fun a40 => (pr (fSub [a40.1.1, a40.2.1])).bind fun d41 => .ok (d41, a40.1.2)).bind fun p43 => ((R.ok p17.1).bind fun d44 => (R.ok ()).bind fun a45 => .ok (d44, a45)).bind fun a46 => .ok (p43, a46)).bind fun a47 => .ok (p30, a47)).bind fun a48 => .ok (D.lst [a48.1.1, a48.2.1.1, a48.2.2.1], a48.2.1.2)).bind fun p50 => (R.ok ()).bind fun a51 => .ok (p50, a51)).bind fun a52 => (c_l_one a52.1.2 a52.1.1).bind fun b53 => .ok (b53.1, b53.2)).bind fun p55 => .ok (p55.1, p55.2)
theorem xq_l_number (p_3 : D) : FnS false xf_l_number [.ref p_3] (c_l_number p_3) (fun b : D × D => b.1) (fun b => [.ref b.2]) :=
  by
  refine fs_tl ?_
  show (kTl false (fun b : D × D => b.1) (fun b ρ => finA [.ref p_3] ρ = [.ref b.2])).p (xb_l_number [some (.ref p_3), none]) (c_l_number p_3)
  unfold xb_l_number c_l_number
  refine k_setS (i := 1) (es_app (ds := fun a14 : ((D × D) × (D × Unit)) => [a14.1.1, a14.2.1]) (st := fun a14 : ((D × D) × (D × Unit)) => a14.1.2) (enc := (fun s16 : D => [some (.ref s16), none])) (xs_s (es_call (sls := fun a5 : (D × Unit) => [.ref p_3, .val a5.1]) (cf := fun a5 : (D × Unit) => c_l_draw p_3 a5.1) (val := (fun b : D × D => b.1)) (outs := fun (a5 : (D × Unit)) (b6 : D × D) => [.ref b6.2, .val a5.1]) (st := fun (a5 : (D × Unit)) (b6 : D × D) => b6.2) (enc := (fun s7 : D => [some (.ref s7), none])) (xs_sl (s := .ref p_3) rfl (xs_p (ev_app2 (eo_ex (ev_app2 (eo_ex (ev_cst)) (eo_ex (ev_cst)))) (eo_ex (ev_app2 (eo_ex (ev_cst)) (eo_ex (ev_cst))))) (xs_nil))) (fun _ => rfl) (fun _ => rfl) (fun a5 => xq_l_draw p_3 a5.1) (fun _ _ => rfl)) (fun p8 => xs_p (ev_app2 (eo_ex (ev_app2 (eo_ex (ev_cst)) (eo_ex (ev_cst)))) (eo_ex (ev_app2 (eo_ex (ev_cst)) (eo_ex (ev_cst))))) (xs_nil))) (fun _ => rfl) (fun _ => rfl)) (fun _ => rfl) (fun p17 => ?_)
  exact k_retS (w := fun p55 : D × D => (p55.1, p55.2)) (es_call (sls := fun a52 : ((D × D) × Unit) => [.ref a52.1.2, .val a52.1.1]) (cf := fun a52 : ((D × D) × Unit) => c_l_one a52.1.2 a52.1.1) (val := (fun b : D × D => b.1)) (outs := fun (a52 : ((D × D) × Unit)) (b53 : D × D) => [.ref b53.2, .val a52.1.1]) (st := fun (a52 : ((D × D) × Unit)) (b53 : D × D) => b53.2) (enc := (fun s54 : D => [some (.ref s54), some (.val p17.1)])) (xs_sl (s := .ref p17.2) rfl (xs_s (es_lst (φs := [app fSub [.ex (callF xf_l_draw [.sl 0, .ex (cst (.int 13))] []), .ex (cst (.int 6))], app fSub [.ex (callF xf_l_draw [.sl 0, .ex (cst (.int 2000))] []), .ex (cst (.int 1000))], nm 1]) (ds := fun a48 : ((D × D) × ((D × D) × (D × Unit))) => [a48.1.1, a48.2.1.1, a48.2.2.1]) (st := fun a48 : ((D × D) × ((D × D) × (D × Unit))) => a48.2.1.2) (enc := (fun s49 : D => [some (.ref s49), some (.val p17.1)])) (xs_s (es_app (ds := fun a27 : ((D × D) × (D × Unit)) => [a27.1.1, a27.2.1]) (st := fun a27 : ((D × D) × (D × Unit)) => a27.1.2) (enc := (fun s29 : D => [some (.ref s29), some (.val p17.1)])) (xs_s (es_call (sls := fun a20 : (D × Unit) => [.ref p17.2, .val a20.1]) (cf := fun a20 : (D × Unit) => c_l_draw p17.2 a20.1) (val := (fun b : D × D => b.1)) (outs := fun (a20 : (D × Unit)) (b21 : D × D) => [.ref b21.2, .val a20.1]) (st := fun (a20 : (D × Unit)) (b21 : D × D) => b21.2) (enc := (fun s22 : D => [some (.ref s22), some (.val p17.1)])) (xs_sl (s := .ref p17.2) rfl (xs_p (ev_cst) (xs_nil))) (fun _ => rfl) (fun _ => rfl) (fun a20 => xq_l_draw p17.2 a20.1) (fun _ _ => rfl)) (fun p23 => xs_p (ev_cst) (xs_nil))) (fun _ => rfl) (fun _ => rfl)) (fun p30 => xs_s (es_app (ds := fun a40 : ((D × D) × (D × Unit)) => [a40.1.1, a40.2.1]) (st := fun a40 : ((D × D) × (D × Unit)) => a40.1.2) (enc := (fun s42 : D => [some (.ref s42), some (.val p17.1)])) (xs_s (es_call (sls := fun a33 : (D × Unit) => [.ref p30.2, .val a33.1]) (cf := fun a33 : (D × Unit) => c_l_draw p30.2 a33.1) (val := (fun b : D × D => b.1)) (outs := fun (a33 : (D × Unit)) (b34 : D × D) => [.ref b34.2, .val a33.1]) (st := fun (a33 : (D × Unit)) (b34 : D × D) => b34.2) (enc := (fun s35 : D => [some (.ref s35), some (.val p17.1)])) (xs_sl (s := .ref p30.2) rfl (xs_p (ev_cst) (xs_nil))) (fun _ => rfl) (fun _ => rfl) (fun a33 => xq_l_draw p30.2 a33.1) (fun _ _ => rfl)) (fun p36 => xs_p (ev_cst) (xs_nil))) (fun _ => rfl) (fun _ => rfl)) (fun p43 => xs_p (ev_nm (d := p17.1) rfl) (xs_nil)))) (fun _ => rfl) (fun _ => rfl)) (fun p50 => xs_nil))) (fun _ => rfl) (fun _ => rfl) (fun a52 => xq_l_one a52.1.2 a52.1.1) (fun _ _ => rfl)) (fun h => h) (fun _ => rfl) (fun _ => rfl)
def xb_Share_initX : SS := seq (ifS (tst (app fEq [.sl 2, .ex (cst (.int 0))])) (raiseD "NoShare" ["over", "num", "why"] noShD [nm 1, cst (.int 0)]) skip)
  (seq (setI 3 (callF xf_common_part [.ex (nm 1), .ex (nm 2)] []))
  (frz 3 (seq (ifS (tst (app fLt [.sl 2, .ex (cst (.int 0))])) (seq (setI 3 (app fSub [.ex (cst (.int 0)), .sl 3]))
  (frz 3 (skip))) (skip))
  (seq (setF 0 "num" (app fFdiv [.sl 1, .sl 3]))
  (seq (setF 0 "over" (app fFdiv [.sl 2, .sl 3]))
  (kill 3 (skip)))))))
def xf_Share_initX : FSem := fnS 4 xb_Share_initX
def c_Share_initX (p_1 : D) (p_a : D) (p_8 : D) : R D :=
  ((pr (fEq [p_8, D.int 0])).bind asB).bind fun b1 => if b1 = true then ((R.ok p_a).bind fun d2 => (R.ok (D.int 0)).bind fun d3 => (.exc ⟨"NoShare", ["over", "num", "why"], [d3, d2, .str "over nought"]⟩ : R Empty)).bind fun e12 => nomatch e12 else (c_common_part p_a p_8).bind fun v_4 => (((pr (fLt [p_8, D.int 0])).bind asB).bind fun b5 => if b5 = true then ((pr (fSub [D.int 0, v_4])).bind fun v_7 => .ok v_7) else (.ok v_4)).bind fun t6 => (pr (fFdiv [p_a, t6])).bind fun d9 => (ofO (stF "num" d9 p_1)).bind fun q8 => (pr (fFdiv [p_8, t6])).bind fun d11 => (ofO (stF "over" d11 q8.2)).bind fun q10 => .ok q10.2
theorem xq_Share_initX (p_1 : D) (p_a : D) (p_8 : D) : FnS false xf_Share_initX [.ref p_1, .val p_a, .val p_8] (c_Share_initX p_1 p_a p_8) (fun _ => .non) (fun b : D => [.ref b, .val p_a, .val p_8]) :=
  by
  unfold c_Share_initX
  refine fs_bn (env := (fun b : D => [some (.ref b), some (.val p_a), some (.val p_8), none])) ?_ (fun _ => rfl)
  show (kBn (fun b : D => [some (.ref b), some (.val p_a), some (.val p_8), none])).p (xb_Share_initX [some (.ref p_1), some (.val p_a), some (.val p_8), none]) _
  unfold xb_Share_initX
  refine k_ifx (et_tst (ev_app2 (eo_sl (s := .val p_8) rfl) (eo_ex (ev_cst)))) ?_ ?_
  · exact k_raiseD2 (gd := noShD) (ev_nm (d := p_a) rfl) (ev_cst)
  · refine k_set (i := 3) rfl (ev_call2 (f := c_common_part) (ea_ex (ev_nm (d := p_a) rfl)) (ea_ex (ev_nm (d := p_8) rfl)) xq_common_part) (fun v_4 => ?_)
    refine k_seqN (env := fun t6 : D => [some (.ref p_1), some (.val p_a), some (.val p_8), some (.val t6)]) ?_ (fun t6 => ?_)
    · refine k_if (et_tst (ev_app2 (eo_sl (s := .val p_8) rfl) (eo_ex (ev_cst)))) ?_ ?_
      · refine k_set (i := 3) rfl (ev_app2 (eo_ex (ev_cst)) (eo_sl (s := .val v_4) rfl)) (fun v_7 => ?_)
        exact k_nil (t := v_7) rfl
      · exact k_nil (t := v_4) rfl
    · refine k_setF (sm := .ref) (d0 := p_1) (ev_app2 (eo_sl (s := .val p_a) rfl) (eo_sl (s := .val t6) rfl)) rfl (.inr rfl) (fun q8 => ?_)
      refine k_setF (sm := .ref) (d0 := q8.2) (ev_app2 (eo_sl (s := .val p_8) rfl) (eo_sl (s := .val t6) rfl)) rfl (.inr rfl) (fun q10 => ?_)
      refine k_kill (i := 3) rfl ?_
      exact k_nil (t := q10.2) rfl
def xb_Share_repr : SS := retE (fstrA [cst (.str "Share("), app fFmt [.ex (app (fFld "num") [.sl 0])], cst (.str ", "), app fFmt [.ex (app (fFld "over") [.sl 0])], cst (.str ")")] Str.empty)
def xf_Share_repr : FSem := fnS 1 xb_Share_repr
def c_Share_repr (p_1 : D) : R D :=
  fstrC [.ok (D.str "Share("), (pr ((fFld "num") [p_1])).bind fun a1 => pr (fFmt [a1]), .ok (D.str ", "), (pr ((fFld "over") [p_1])).bind fun a2 => pr (fFmt [a2]), .ok (D.str ")")] Str.empty
theorem xq_Share_repr (p_1 : D) : FnP false xf_Share_repr [p_1] (c_Share_repr p_1) :=
  by
  refine fn_tl ?_
  show (kTl false (fun d : D => d) yF).p (xb_Share_repr [some (.val p_1)]) (c_Share_repr p_1)
  unfold xb_Share_repr c_Share_repr
  exact k_retP (ev_fstrA (.cons (ev_cst) (.cons (ev_app1 (eo_ex (ev_app1 (eo_sl (s := .val p_1) rfl)))) (.cons (ev_cst) (.cons (ev_app1 (eo_ex (ev_app1 (eo_sl (s := .val p_1) rfl)))) (.cons (ev_cst) (.nil)))))) _) (fun h => h)
def xb_Share_str : SS := retE (meth "str" fJoin (.ex (cst (.str "/"))) [.ex (app fAdd [.ex (disp mkL [app fStr [.ex (app (fFld "num") [.sl 0])]]), .ex (app fMulL [.ex (disp mkL [app fStr [.ex (app (fFld "over") [.sl 0])]]), .ex (app fInt [.ex (app fGt [.ex (app (fFld "over") [.sl 0]), .ex (cst (.int 1))])])])])])
def xf_Share_str : FSem := fnS 1 xb_Share_str
def c_Share_str (p_1 : D) : R D :=
  meR "str" fJoin (.ok (D.str "/")) [(lstR [(pr ((fFld "num") [p_1])).bind fun a1 => pr (fStr [a1])]).bind fun a7 => ((lstR [(pr ((fFld "over") [p_1])).bind fun a2 => pr (fStr [a2])]).bind fun a5 => (((pr ((fFld "over") [p_1])).bind fun a3 => pr (fGt [a3, D.int 1])).bind fun a4 => pr (fInt [a4])).bind fun a6 => pr (fMulL [a5, a6])).bind fun a8 => pr (fAdd [a7, a8])]
theorem xq_Share_str (p_1 : D) : FnP false xf_Share_str [p_1] (c_Share_str p_1) :=
  by
  refine fn_tl ?_
  show (kTl false (fun d : D => d) yF).p (xb_Share_str [some (.val p_1)]) (c_Share_str p_1)
  unfold xb_Share_str c_Share_str
  exact k_retP (ev_meth (eo_ex (ev_cst)) (eos_cons (eo_ex (ev_app2 (eo_ex (ev_lst (eps_cons (ev_app1 (eo_ex (ev_app1 (eo_sl (s := .val p_1) rfl)))) (eps_nil)))) (eo_ex (ev_app2 (eo_ex (ev_lst (eps_cons (ev_app1 (eo_ex (ev_app1 (eo_sl (s := .val p_1) rfl)))) (eps_nil)))) (eo_ex (ev_app1 (eo_ex (ev_app2 (eo_ex (ev_app1 (eo_sl (s := .val p_1) rfl))) (eo_ex (ev_cst)))))))))) (eos_nil))) (fun h => h)
def xb_l_shown : SS := seq (setI 1 (app fAdd [.ex (app fStr [.ex (app gItem [.sl 0, .ex (cst (.int 0))])]), .ex (app fMulS [.ex (app fAdd [.ex (cst (.str "/")), .ex (app fStr [.ex (app gItem [.sl 0, .ex (cst (.int 1))])])]), .ex (app fInt [.ex (app fGt [.ex (app gItem [.sl 0, .ex (cst (.int 1))]), .ex (cst (.int 1))])])])]))
  (frz 1 (retE (disp mkT [app fAdd [.ex (app fAdd [.ex (app fAdd [.ex (app fAdd [.ex (cst (.str "Share(")), .ex (app fStr [.ex (app gItem [.sl 0, .ex (cst (.int 0))])])]), .ex (cst (.str ", "))]), .ex (app fStr [.ex (app gItem [.sl 0, .ex (cst (.int 1))])])]), .ex (cst (.str ")"))], nm 1])))
def xf_l_shown : FSem := fnS 2 xb_l_shown
def c_l_shown (p_c : D) : R D :=
  (((pr (gItem [p_c, D.int 0])).bind fun a1 => pr (fStr [a1])).bind fun a8 => ((((pr (gItem [p_c, D.int 1])).bind fun a2 => pr (fStr [a2])).bind fun a3 => pr (fAdd [D.str "/", a3])).bind fun a6 => (((pr (gItem [p_c, D.int 1])).bind fun a4 => pr (fGt [a4, D.int 1])).bind fun a5 => pr (fInt [a5])).bind fun a7 => pr (fMulS [a6, a7])).bind fun a9 => pr (fAdd [a8, a9])).bind fun v_10 => tupR [(((((pr (gItem [p_c, D.int 0])).bind fun a11 => pr (fStr [a11])).bind fun a12 => pr (fAdd [D.str "Share(", a12])).bind fun a13 => pr (fAdd [a13, D.str ", "])).bind fun a15 => ((pr (gItem [p_c, D.int 1])).bind fun a14 => pr (fStr [a14])).bind fun a16 => pr (fAdd [a15, a16])).bind fun a17 => pr (fAdd [a17, D.str ")"]), .ok v_10]
theorem xq_l_shown (p_c : D) : FnP false xf_l_shown [p_c] (c_l_shown p_c) :=
  by
  refine fn_tl ?_
  show (kTl false (fun d : D => d) yF).p (xb_l_shown [some (.val p_c), none]) (c_l_shown p_c)
  unfold xb_l_shown c_l_shown
  refine k_set (i := 1) rfl (ev_app2 (eo_ex (ev_app1 (eo_ex (ev_app2 (eo_sl (s := .val p_c) rfl) (eo_ex (ev_cst)))))) (eo_ex (ev_app2 (eo_ex (ev_app2 (eo_ex (ev_cst)) (eo_ex (ev_app1 (eo_ex (ev_app2 (eo_sl (s := .val p_c) rfl) (eo_ex (ev_cst)))))))) (eo_ex (ev_app1 (eo_ex (ev_app2 (eo_ex (ev_app2 (eo_sl (s := .val p_c) rfl) (eo_ex (ev_cst)))) (eo_ex (ev_cst))))))))) (fun v_10 => ?_)
  exact k_retP (ev_tup (eps_cons (ev_app2 (eo_ex (ev_app2 (eo_ex (ev_app2 (eo_ex (ev_app2 (eo_ex (ev_cst)) (eo_ex (ev_app1 (eo_ex (ev_app2 (eo_sl (s := .val p_c) rfl) (eo_ex (ev_cst)))))))) (eo_ex (ev_cst)))) (eo_ex (ev_app1 (eo_ex (ev_app2 (eo_sl (s := .val p_c) rfl) (eo_ex (ev_cst)))))))) (eo_ex (ev_cst))) (eps_cons (ev_nm (d := v_10) rfl) (eps_nil)))) (fun h => h)
def xb_Share_eqX : SS := retE (andE (app (fIso "Share" ["Share"]) [.sl 1]) (app fEq [.ex (disp mkT [app (fFld "num") [.sl 0], app (fFld "over") [.sl 0]]), .ex (disp mkT [app (fFld "num") [.sl 1], app (fFld "over") [.sl 1]])]))
def xf_Share_eqX : FSem := fnS 2 xb_Share_eqX
def c_Share_eqX (p_1 : D) (p_2 : D) : R D :=
  (pr ((fIso "Share" ["Share"]) [p_2])).bind fun d3 => (trR d3).bind fun b4 => if b4 = true then ((tupR [pr ((fFld "num") [p_1]), pr ((fFld "over") [p_1])]).bind fun a1 => (tupR [pr ((fFld "num") [p_2]), pr ((fFld "over") [p_2])]).bind fun a2 => pr (fEq [a1, a2])) else .ok d3
theorem xq_Share_eqX (p_1 : D) (p_2 : D) : FnP false xf_Share_eqX [p_1, p_2] (c_Share_eqX p_1 p_2) :=
  by
  refine fn_tl ?_
  show (kTl false (fun d : D => d) yF).p (xb_Share_eqX [some (.val p_1), some (.val p_2)]) (c_Share_eqX p_1 p_2)
  unfold xb_Share_eqX c_Share_eqX
  exact k_retP (ev_and (ev_app1 (eo_sl (s := .val p_2) rfl)) (ev_app2 (eo_ex (ev_tup (eps_cons (ev_app1 (eo_sl (s := .val p_1) rfl)) (eps_cons (ev_app1 (eo_sl (s := .val p_1) rfl)) (eps_nil))))) (eo_ex (ev_tup (eps_cons (ev_app1 (eo_sl (s := .val p_2) rfl)) (eps_cons (ev_app1 (eo_sl (s := .val p_2) rfl)) (eps_nil))))))) (fun h => h)
def xb_l_refused : SS := seq (setI 2 (cst .non))
  (frz 2 (seq (tryAs (ifS (tst (app fEq [.sl 1, .ex (cst (.int 0))])) (dropE (mkI "Share" xf_Share_initX [.ex (nm 0), .ex (cst (.int 0))] [])) (ifS (tst (app fEq [.sl 1, .ex (cst (.int 1))])) (dropE (mkK "Share" xf_Share_initX [.ex (cst (.int 0)), .ex (nm 0)] [.at 1, .at 0])) (dropE (mkK "Share" xf_Share_initX [.ex (nm 0), .ex (cst (.int 0))] [.at 0, .at 1])))) (tblC "NoShare") 3 (suC "NoShare" (fun x => ifS (tru (.ex (cst (.bl true)))) (seq (setI 2 (disp mkT [xfE x "num", xfE x "over"]))
  (frz 2 (skip))) (skip))))
  (retI 2)))
def xf_l_refused : FSem := fnS 4 xb_l_refused
def c_l_refused (p_h : D) (p_k : D) : R D :=
  (R.tryX (((pr (fEq [p_k, D.int 0])).bind asB).bind fun b2 => if b2 = true then ((mkRX (ap2 fun a0 a1 => c_Share_initX (D.ins "Share" [] []) a0 a1) [.ok p_h, .ok (D.int 0)]).bind fun _ => .ok D.non) else (((pr (fEq [p_k, D.int 1])).bind asB).bind fun b3 => if b3 = true then ((mkRX (ap2 fun a0 a1 => c_Share_initX (D.ins "Share" [] []) a1 a0) [.ok (D.int 0), .ok p_h]).bind fun _ => .ok D.non) else ((mkRX (ap2 fun a0 a1 => c_Share_initX (D.ins "Share" [] []) a0 a1) [.ok p_h, .ok (D.int 0)]).bind fun _ => .ok D.non))) "NoShare" (fun x => (trR (D.bl true)).bind fun b4 => if b4 = true then ((tupR [ofO (kget x.fs x.ds "num"), ofO (kget x.fs x.ds "over")]).bind fun v_5 => .ok v_5) else (.ok D.non))).bind fun t1 => .ok t1
theorem xq_l_refused (p_h : D) (p_k : D) : FnP false xf_l_refused [p_h, p_k] (c_l_refused p_h p_k) :=
  by
  refine fn_tl ?_
  show (kTl false (fun d : D => d) yF).p (xb_l_refused [some (.val p_h), some (.val p_k), none, none]) (c_l_refused p_h p_k)
  unfold xb_l_refused c_l_refused
  refine k_setA (i := 2) (v := D.non) rfl (ev_cst) ?_
  refine k_seqN (env := fun t1 : D => [some (.val p_h), some (.val p_k), some (.val t1), none]) ?_ (fun t1 => ?_)
  · refine k_tryN rfl ?_ (fun x => ?_) (fun _ => rfl)
    · refine tb_if (et_tst (ev_app2 (eo_sl (s := .val p_k) rfl) (eo_ex (ev_cst)))) ?_ ?_
      · exact tb_drop (t := D.non) (ev_mkX (n := 4) (b := xb_Share_initX) (c := "Share") (dd := []) (f := (ap2 fun a0 a1 => c_Share_initX (D.ins "Share" [] []) a0 a1)) (eas_cons (ea_ex (ev_nm (d := p_h) rfl)) (eas_cons (ea_ex (ev_cst)) (eas_nil))) (fun ds => match ds with | [a0, a1] => xq_Share_initX (D.ins "Share" [] []) a0 a1 | [] => trivial | [_] => trivial | _ :: _ :: _ :: _ => trivial)) rfl
      · refine tb_if (et_tst (ev_app2 (eo_sl (s := .val p_k) rfl) (eo_ex (ev_cst)))) ?_ ?_
        · exact tb_drop (t := D.non) (ev_mkK (n := 4) (b := xb_Share_initX) (c := "Share") (sel := [.at 1, .at 0]) (f := (ap2 fun a0 a1 => c_Share_initX (D.ins "Share" [] []) a1 a0)) (eas_cons (ea_ex (ev_cst)) (eas_cons (ea_ex (ev_nm (d := p_h) rfl)) (eas_nil))) rfl (fun ds hl => match ds, hl with | [a0, a1], _ => xq_Share_initX (D.ins "Share" [] []) a1 a0)) rfl
        · exact tb_drop (t := D.non) (ev_mkK (n := 4) (b := xb_Share_initX) (c := "Share") (sel := [.at 0, .at 1]) (f := (ap2 fun a0 a1 => c_Share_initX (D.ins "Share" [] []) a0 a1)) (eas_cons (ea_ex (ev_nm (d := p_h) rfl)) (eas_cons (ea_ex (ev_cst)) (eas_nil))) rfl (fun ds hl => match ds, hl with | [a0, a1], _ => xq_Share_initX (D.ins "Share" [] []) a0 a1)) rfl
    · refine k_if (et_tru (eo_ex (ev_cst))) ?_ ?_
      · refine k_set (i := 2) rfl (ev_tup (eps_cons (ev_xfE) (eps_cons (ev_xfE) (eps_nil)))) (fun v_5 => ?_)
        exact k_nil (t := v_5) rfl
      · exact k_nil (t := D.non) rfl
  · exact k_retV (d := t1) rfl rfl trivial
def xb_law_k03 : SS := seq (forS ⟨[.ex (app fAdd [.ex (disp mkL [callF xf_l_cell_at [.ex (nm 0), .ex (cst (.int 0))] []]), .ex (slc (.sl 0) (some (.ex (cst (.int 1)))) (some (.ex (cst (.int 24)))))])], sSeq⟩ (.nm 1) (seq (setI 2 (callF xf_l_well [.ex (nm 1)] []))
  (seq (parS 9 10 (callF xf_l_number [.sl 2] []) (callF xf_l_number [.sl 2] []))
  (seq (ifS (tst (app fEq [.sl 10, .ex (cst (.int 0))])) (seq (setI 10 (cst (.int 1)))
  (frz 10 (skip))) (skip))
  (seq (setI 3 (app fAdd [.ex (cst (.int 1)), .ex (callF xf_l_draw [.sl 2, .ex (app gItem [.ex (disp mkL [cst (.int 3), app fPow [.ex (cst (.int 10)), .ex (cst (.int 30))]]), .ex (callF xf_l_draw [.sl 2, .ex (cst (.int 2))] [])])] [])]))
  (frz 3 (seq (setI 4 (callF xf_l_lowest [.ex (nm 9), .ex (nm 10)] []))
  (frz 4 (seq (setI 5 (disp mkL [mkI "Share" xf_Share_initX [.ex (nm 9), .ex (nm 10)] [], mkI "Share" xf_Share_initX [.ex (app fMul [.sl 9, .sl 3]), .ex (app fMul [.sl 10, .sl 3])] [], mkK "Share" xf_Share_initX [.ex (app fSub [.ex (cst (.int 0)), .sl 10]), .ex (app fSub [.ex (cst (.int 0)), .sl 9])] [.at 1, .at 0]]))
  (frz 5 (seq (forS ⟨[.ex (nm 5)], sSeq⟩ (.nm 6) (seq (ifS (bor (tst (app fNe [.ex (disp mkT [app (fFld "num") [.sl 6], app (fFld "over") [.sl 6]]), .sl 4])) (tst (app fNe [.ex (disp mkT [unI "Share" xf_Share_repr (.ex (nm 6)), unI "Share" xf_Share_str (.ex (nm 6))]), .ex (callF xf_l_shown [.ex (nm 4)] [])]))) (retE (cst (.bl false))) skip)
  (seq (ifS (bor (tst (eqI true "Share" xf_Share_eqX (.ex (nm 6)) (.ex (app gItem [.sl 5, .ex (cst (.int 0))])))) (bor (tst (eqO2 false "Share" xf_Share_eqX (.ex (nm 6)) (.ex (nm 4)))) (bor (tst (eqO2 false "Share" xf_Share_eqX (.ex (nm 6)) (.ex (unI "Share" xf_Share_str (.ex (nm 6)))))) (band (tst (eqO2 false "Share" xf_Share_eqX (.ex (nm 6)) (.ex (nm 9)))) (tst (app fEq [.ex (app gItem [.sl 4, .ex (cst (.int 1))]), .ex (cst (.int 1))])))))) (retE (cst (.bl false))) skip)
  (kill 6 (skip)))))
  (seq (setI 7 (mkI "Share" xf_Share_initX [.ex (nm 9)] [.int 1]))
  (frz 7 (seq (ifS (bor (tst (app fNe [.ex (disp mkT [app (fFld "num") [.sl 7], app (fFld "over") [.sl 7]]), .ex (disp mkT [nm 9, cst (.int 1)])])) (tst (app fNe [.ex (eqI false "Share" xf_Share_eqX (.ex (nm 7)) (.ex (app gItem [.sl 5, .ex (cst (.int 0))]))), .ex (app fEq [.sl 4, .ex (disp mkT [nm 9, cst (.int 1)])])]))) (retE (cst (.bl false))) skip)
  (seq (ifS (bor (tst (eqI false "Share" xf_Share_eqX (.ex (mkK "Share" xf_Share_initX [.ex (app fAdd [.sl 9, .ex (cst (.int 1))]), .ex (nm 10)] [.at 0, .at 1])) (.ex (app gItem [.sl 5, .ex (cst (.int 0))])))) (tst (eqI true "Share" xf_Share_eqX (.ex (mkI "Share" xf_Share_initX [.ex (nm 9), .ex (nm 10)] [])) (.ex (mkI "Share" xf_Share_initX [.ex (app fMul [.sl 9, .ex (cst (.int 2))]), .ex (app fMul [.sl 10, .ex (cst (.int 2))])] []))))) (retE (cst (.bl false))) skip)
  (seq (forS ⟨[.ex (cst (.int 3))], sRng1⟩ (.nm 8) (seq (ifS (tst (app fNe [.ex (callF xf_l_refused [.ex (nm 9), .ex (nm 8)] []), .ex (disp mkT [nm 9, cst (.int 0)])])) (retE (cst (.bl false))) skip)
  (kill 8 (skip))))
  (kill 10 (kill 9 (kill 7 (kill 5 (kill 4 (kill 3 (kill 2 (kill 1 (skip)))))))))))))))))))))))))
  (retE (cst (.bl true)))
def xf_law_k03 : FSem := fnS 11 xb_law_k03
def c_law_k03 (p_4 : D) : R D :=
  ((srR sSeq [(lstR [c_l_cell_at p_4 (D.int 0)]).bind fun a1 => (slR (.ok p_4) (some (.ok (D.int 1))) (some (.ok (D.int 24)))).bind fun a2 => pr (fAdd [a1, a2])]).bind fun i97 => forB some (fun (t3 : Unit) (x4 : D) => (c_l_well x4).bind fun v_5 => (((c_l_number v_5).bind fun b13 => .ok (b13.1, b13.2)).bind fun p15 => (((c_l_number p15.2).bind fun b17 => .ok (b17.1, b17.2)).bind fun p19 => (R.ok ()).bind fun a20 => .ok (p19, a20)).bind fun a21 => .ok (p15, a21)).bind fun a22 => (((pr (fEq [a22.2.1.1, D.int 0])).bind asB).bind fun b23 => if b23 = true then (.ok (D.int 1)) else (.ok a22.2.1.1)).bind fun t24 => (((R.ok (D.int 1)).bind fun d44 => ((((((lstR [.ok (D.int 3), pr (fPow [D.int 10, D.int 30])]).bind fun d32 => (((c_l_draw a22.2.1.2 (D.int 2)).bind fun b28 => .ok (b28.1, b28.2)).bind fun p30 => (R.ok ()).bind fun a31 => .ok (p30, a31)).bind fun a33 => .ok (d32, a33)).bind fun a34 => (pr (gItem [a34.1, a34.2.1.1])).bind fun d35 => .ok (d35, a34.2.1.2)).bind fun p37 => (R.ok ()).bind fun a38 => .ok (p37, a38)).bind fun a39 => (c_l_draw a39.1.2 a39.1.1).bind fun b40 => .ok (b40.1, b40.2)).bind fun p42 => (R.ok ()).bind fun a43 => .ok (p42, a43)).bind fun a45 => .ok (d44, a45)).bind fun a46 => (pr (fAdd [a46.1, a46.2.1.1])).bind fun d47 => .ok (d47, a46.2.1.2)).bind fun p49 => (c_l_lowest a22.1.1 t24).bind fun v_50 => (lstR [mkRX (ap2 fun a0 a1 => c_Share_initX (D.ins "Share" [] []) a0 a1) [.ok a22.1.1, .ok t24], mkRX (ap2 fun a0 a1 => c_Share_initX (D.ins "Share" [] []) a0 a1) [pr (fMul [a22.1.1, p49.1]), pr (fMul [t24, p49.1])], mkRX (ap2 fun a0 a1 => c_Share_initX (D.ins "Share" [] []) a1 a0) [pr (fSub [D.int 0, t24]), pr (fSub [D.int 0, a22.1.1])]]).bind fun v_51 => ((ofO (sSeq [v_51])).bind fun i69 => forB some (fun (t52 : Unit) (x53 : D) => ((((tupR [pr ((fFld "num") [x53]), pr ((fFld "over") [x53])]).bind fun a54 => pr (fNe [a54, v_50])).bind asB).bind fun b57 => if b57 = true then .ok true else (((tupR [unR "Share" c_Share_repr x53, unR "Share" c_Share_str x53]).bind fun a55 => (c_l_shown v_50).bind fun a56 => pr (fNe [a55, a56])).bind asB)).bind fun b58 => if b58 = true then (R.ok (D.bl false)).bind fun a68 => .ok (.rt a68) else ((((pr (gItem [v_51, D.int 0])).bind fun a59 => eqR true "Share" c_Share_eqX x53 a59).bind asB).bind fun b65 => if b65 = true then .ok true else (((eqR2 false "Share" c_Share_eqX x53 v_50).bind asB).bind fun b64 => if b64 = true then .ok true else ((((unR "Share" c_Share_str x53).bind fun a60 => eqR2 false "Share" c_Share_eqX x53 a60).bind asB).bind fun b63 => if b63 = true then .ok true else (((eqR2 false "Share" c_Share_eqX x53 a22.1.1).bind asB).bind fun b62 => if b62 = true then (((pr (gItem [v_50, D.int 1])).bind fun a61 => pr (fEq [a61, D.int 1])).bind asB) else .ok false)))).bind fun b66 => if b66 = true then (R.ok (D.bl false)).bind fun a67 => .ok (.rt a67) else .ok (.nx ())) i69 ()).bind (LS.el (fun t70 => (mkRX (ap1 fun a0 => c_Share_initX (D.ins "Share" [] []) a0 (D.int 1)) [.ok a22.1.1]).bind fun v_71 => ((((tupR [pr ((fFld "num") [v_71]), pr ((fFld "over") [v_71])]).bind fun a72 => pr (fNe [a72, D.tup [a22.1.1, D.int 1]])).bind asB).bind fun b76 => if b76 = true then .ok true else ((((pr (gItem [v_51, D.int 0])).bind fun a73 => eqR false "Share" c_Share_eqX v_71 a73).bind fun a74 => (pr (fEq [v_50, D.tup [a22.1.1, D.int 1]])).bind fun a75 => pr (fNe [a74, a75])).bind asB)).bind fun b77 => if b77 = true then (R.ok (D.bl false)).bind fun a94 => .ok (.rt a94) else ((((mkRX (ap2 fun a0 a1 => c_Share_initX (D.ins "Share" [] []) a0 a1) [pr (fAdd [a22.1.1, D.int 1]), .ok t24]).bind fun a78 => (pr (gItem [v_51, D.int 0])).bind fun a79 => eqR false "Share" c_Share_eqX a78 a79).bind asB).bind fun b82 => if b82 = true then .ok true else (((mkRX (ap2 fun a0 a1 => c_Share_initX (D.ins "Share" [] []) a0 a1) [.ok a22.1.1, .ok t24]).bind fun a80 => (mkRX (ap2 fun a0 a1 => c_Share_initX (D.ins "Share" [] []) a0 a1) [pr (fMul [a22.1.1, D.int 2]), pr (fMul [t24, D.int 2])]).bind fun a81 => eqR true "Share" c_Share_eqX a80 a81).bind asB)).bind fun b83 => if b83 = true then (R.ok (D.bl false)).bind fun a93 => .ok (.rt a93) else ((ofO (sRng1 [D.int 3])).bind fun i89 => forB some (fun (t84 : Unit) (x85 : D) => (((c_l_refused a22.1.1 x85).bind fun a86 => pr (fNe [a86, D.tup [a22.1.1, D.int 0]])).bind asB).bind fun b87 => if b87 = true then (R.ok (D.bl false)).bind fun a88 => .ok (.rt a88) else .ok (.nx ())) i89 ()).bind (LS.el (fun t90 => .ok (.nx ())) fun a92 => .ok (.rt a92))) fun a96 => .ok (.rt a96))) i97 ()).bind (LS.el (fun t98 => .ok (D.bl true)) fun a100 => .ok a100)
theorem xq_law_k03 (p_4 : D) : FnP false xf_law_k03 [p_4] (c_law_k03 p_4) :=
  by
  refine fn_tl ?_
  show (kTl false (fun d : D => d) yF).p (xb_law_k03 [some (.val p_4), none, none, none, none, none, none, none, none, none, none]) (c_law_k03 p_4)
  unfold xb_law_k03 c_law_k03
  refine k_seqT (env := fun t98 : Unit => [some (.val p_4), none, none, none, none, none, none, none, none, none, none]) ?_ (fun t98 => ?_)
  · refine k_forB (tg := .nm 1) (env := fun t3 : Unit => [some (.val p_4), none, none, none, none, none, none, none, none, none, none]) (u := some) (enc := fun (t3 : Unit) (x4 : D) => [some (.val p_4), some (.val x4), none, none, none, none, none, none, none, none, none]) (t0 := ()) (es_ex (φs := [app fAdd [.ex (disp mkL [callF xf_l_cell_at [.ex (nm 0), .ex (cst (.int 0))] []]), .ex (slc (.sl 0) (some (.ex (cst (.int 1)))) (some (.ex (cst (.int 24)))))]]) (eps_cons (ev_app2 (eo_ex (ev_lst (eps_cons (ev_call2 (f := c_l_cell_at) (ea_ex (ev_nm (d := p_4) rfl)) (ea_ex (ev_cst)) xq_l_cell_at) (eps_nil)))) (eo_ex (ev_slc (eo_sl (s := .val p_4) rfl) (show EvI (some _) _ (some _) from (eo_ex (ev_cst))) (show EvI (some _) _ (some _) from (eo_ex (ev_cst)))))) (eps_nil))) rfl (fun t3 => tg_nm rfl) (fun t3 x4 => ?_)
    refine k_setO (i := 2) rfl (ev_call1 (f := c_l_well) (ea_ex (ev_nm (d := x4) rfl)) xq_l_well) (fun v_5 => ?_)
    refine k_parS (S := Unit) (i := 9) (j := 10) (env := fun a22 : ((D × D) × ((D × D) × Unit)) => [some (.val p_4), some (.val x4), some (.own a22.2.1.2), none, none, none, none, none, none, none, none]) (v := fun a22 : ((D × D) × ((D × D) × Unit)) => a22.1.1) (w := fun a22 : ((D × D) × ((D × D) × Unit)) => a22.2.1.1) (xs_s (es_call (sls := fun a12 : Unit => [.ref v_5]) (cf := fun a12 : Unit => c_l_number v_5) (val := (fun b : D × D => b.1)) (outs := fun (a12 : Unit) (b13 : D × D) => [.ref b13.2]) (st := fun (a12 : Unit) (b13 : D × D) => b13.2) (enc := (fun s14 : D => [some (.val p_4), some (.val x4), some (.own s14), none, none, none, none, none, none, none, none])) (xs_sl (s := .own v_5) rfl (xs_nil)) (fun _ => rfl) (fun _ => rfl) (fun a12 => xq_l_number v_5) (fun _ _ => rfl)) (fun p15 => xs_s (es_call (sls := fun a16 : Unit => [.ref p15.2]) (cf := fun a16 : Unit => c_l_number p15.2) (val := (fun b : D × D => b.1)) (outs := fun (a16 : Unit) (b17 : D × D) => [.ref b17.2]) (st := fun (a16 : Unit) (b17 : D × D) => b17.2) (enc := (fun s18 : D => [some (.val p_4), some (.val x4), some (.own s18), none, none, none, none, none, none, none, none])) (xs_sl (s := .own p15.2) rfl (xs_nil)) (fun _ => rfl) (fun _ => rfl) (fun a16 => xq_l_number p15.2) (fun _ _ => rfl)) (fun p19 => xs_nil))) (fun _ => rfl) (fun _ => rfl) (fun _ => rfl) (fun a22 => ?_)
    refine k_seqN (env := fun t24 : D => [some (.val p_4), some (.val x4), some (.own a22.2.1.2), none, none, none, none, none, none, some (.val a22.1.1), some (.val t24)]) ?_ (fun t24 => ?_)
    · refine k_if (et_tst (ev_app2 (eo_sl (s := .val a22.2.1.1) rfl) (eo_ex (ev_cst)))) ?_ ?_
      · refine k_setA (i := 10) (v := D.int 1) rfl (ev_cst) ?_
        exact k_nil (t := D.int 1) rfl
      · exact k_nil (t := a22.2.1.1) rfl
    · refine k_setS (i := 3) (es_app (ds := fun a46 : (D × ((D × D) × Unit)) => [a46.1, a46.2.1.1]) (st := fun a46 : (D × ((D × D) × Unit)) => a46.2.1.2) (enc := (fun s48 : D => [some (.val p_4), some (.val x4), some (.own s48), none, none, none, none, none, none, some (.val a22.1.1), some (.val t24)])) (xs_p (ev_cst) (xs_s (es_call (sls := fun a39 : ((D × D) × Unit) => [.ref a39.1.2, .val a39.1.1]) (cf := fun a39 : ((D × D) × Unit) => c_l_draw a39.1.2 a39.1.1) (val := (fun b : D × D => b.1)) (outs := fun (a39 : ((D × D) × Unit)) (b40 : D × D) => [.ref b40.2, .val a39.1.1]) (st := fun (a39 : ((D × D) × Unit)) (b40 : D × D) => b40.2) (enc := (fun s41 : D => [some (.val p_4), some (.val x4), some (.own s41), none, none, none, none, none, none, some (.val a22.1.1), some (.val t24)])) (xs_sl (s := .own a22.2.1.2) rfl (xs_s (es_app (ds := fun a34 : (D × ((D × D) × Unit)) => [a34.1, a34.2.1.1]) (st := fun a34 : (D × ((D × D) × Unit)) => a34.2.1.2) (enc := (fun s36 : D => [some (.val p_4), some (.val x4), some (.own s36), none, none, none, none, none, none, some (.val a22.1.1), some (.val t24)])) (xs_p (ev_lst (eps_cons (ev_cst) (eps_cons (ev_app2 (eo_ex (ev_cst)) (eo_ex (ev_cst))) (eps_nil)))) (xs_s (es_call (sls := fun a27 : (D × Unit) => [.ref a22.2.1.2, .val a27.1]) (cf := fun a27 : (D × Unit) => c_l_draw a22.2.1.2 a27.1) (val := (fun b : D × D => b.1)) (outs := fun (a27 : (D × Unit)) (b28 : D × D) => [.ref b28.2, .val a27.1]) (st := fun (a27 : (D × Unit)) (b28 : D × D) => b28.2) (enc := (fun s29 : D => [some (.val p_4), some (.val x4), some (.own s29), none, none, none, none, none, none, some (.val a22.1.1), some (.val t24)])) (xs_sl (s := .own a22.2.1.2) rfl (xs_p (ev_cst) (xs_nil))) (fun _ => rfl) (fun _ => rfl) (fun a27 => xq_l_draw a22.2.1.2 a27.1) (fun _ _ => rfl)) (fun p30 => xs_nil))) (fun _ => rfl) (fun _ => rfl)) (fun p37 => xs_nil))) (fun _ => rfl) (fun _ => rfl) (fun a39 => xq_l_draw a39.1.2 a39.1.1) (fun _ _ => rfl)) (fun p42 => xs_nil))) (fun _ => rfl) (fun _ => rfl)) (fun _ => rfl) (fun p49 => ?_)
      refine k_set (i := 4) rfl (ev_call2 (f := c_l_lowest) (ea_ex (ev_nm (d := a22.1.1) rfl)) (ea_ex (ev_nm (d := t24) rfl)) xq_l_lowest) (fun v_50 => ?_)
      refine k_set (i := 5) rfl (ev_lst (eps_cons (ev_mkX (n := 4) (b := xb_Share_initX) (c := "Share") (dd := []) (f := (ap2 fun a0 a1 => c_Share_initX (D.ins "Share" [] []) a0 a1)) (eas_cons (ea_ex (ev_nm (d := a22.1.1) rfl)) (eas_cons (ea_ex (ev_nm (d := t24) rfl)) (eas_nil))) (fun ds => match ds with | [a0, a1] => xq_Share_initX (D.ins "Share" [] []) a0 a1 | [] => trivial | [_] => trivial | _ :: _ :: _ :: _ => trivial)) (eps_cons (ev_mkX (n := 4) (b := xb_Share_initX) (c := "Share") (dd := []) (f := (ap2 fun a0 a1 => c_Share_initX (D.ins "Share" [] []) a0 a1)) (eas_cons (ea_ex (ev_app2 (eo_sl (s := .val a22.1.1) rfl) (eo_sl (s := .val p49.1) rfl))) (eas_cons (ea_ex (ev_app2 (eo_sl (s := .val t24) rfl) (eo_sl (s := .val p49.1) rfl))) (eas_nil))) (fun ds => match ds with | [a0, a1] => xq_Share_initX (D.ins "Share" [] []) a0 a1 | [] => trivial | [_] => trivial | _ :: _ :: _ :: _ => trivial)) (eps_cons (ev_mkK (n := 4) (b := xb_Share_initX) (c := "Share") (sel := [.at 1, .at 0]) (f := (ap2 fun a0 a1 => c_Share_initX (D.ins "Share" [] []) a1 a0)) (eas_cons (ea_ex (ev_app2 (eo_ex (ev_cst)) (eo_sl (s := .val t24) rfl))) (eas_cons (ea_ex (ev_app2 (eo_ex (ev_cst)) (eo_sl (s := .val a22.1.1) rfl))) (eas_nil))) rfl (fun ds hl => match ds, hl with | [a0, a1], _ => xq_Share_initX (D.ins "Share" [] []) a1 a0)) (eps_nil))))) (fun v_51 => ?_)
      refine k_seqB (env := fun t70 : Unit => [some (.val p_4), some (.val x4), some (.own p49.2), some (.val p49.1), some (.val v_50), some (.val v_51), none, none, none, some (.val a22.1.1), some (.val t24)]) ?_ (fun t70 => ?_)
      · refine k_forB (tg := .nm 6) (env := fun t52 : Unit => [some (.val p_4), some (.val x4), some (.own p49.2), some (.val p49.1), some (.val v_50), some (.val v_51), none, none, none, some (.val a22.1.1), some (.val t24)]) (u := some) (enc := fun (t52 : Unit) (x53 : D) => [some (.val p_4), some (.val x4), some (.own p49.2), some (.val p49.1), some (.val v_50), some (.val v_51), some (.val x53), none, none, some (.val a22.1.1), some (.val t24)]) (t0 := ()) (es_ex (φs := [nm 5]) (eps_cons (ev_nm (d := v_51) rfl) (eps_nil))) rfl (fun t52 => tg_nm rfl) (fun t52 x53 => ?_)
        refine k_ifrB (et_or (et_tst (ev_app2 (eo_ex (ev_tup (eps_cons (ev_app1 (eo_sl (s := .val x53) rfl)) (eps_cons (ev_app1 (eo_sl (s := .val x53) rfl)) (eps_nil))))) (eo_sl (s := .val v_50) rfl))) (et_tst (ev_app2 (eo_ex (ev_tup (eps_cons (ev_unI (ea_ex (ev_nm (d := x53) rfl)) xq_Share_repr) (eps_cons (ev_unI (ea_ex (ev_nm (d := x53) rfl)) xq_Share_str) (eps_nil))))) (eo_ex (ev_call1 (f := c_l_shown) (ea_ex (ev_nm (d := v_50) rfl)) xq_l_shown))))) ?_ ?_
        · exact k_retP (ev_cst) (fun h => h)
        · refine k_ifrB (et_or (et_tst (ev_eqI (ea_ex (ev_nm (d := x53) rfl)) (ea_ex (ev_app2 (eo_sl (s := .val v_51) rfl) (eo_ex (ev_cst)))) xq_Share_eqX)) (et_or (et_tst (ev_eqO2 (ea_ex (ev_nm (d := x53) rfl)) (ea_ex (ev_nm (d := v_50) rfl)) xq_Share_eqX)) (et_or (et_tst (ev_eqO2 (ea_ex (ev_nm (d := x53) rfl)) (ea_ex (ev_unI (ea_ex (ev_nm (d := x53) rfl)) xq_Share_str)) xq_Share_eqX)) (et_and (et_tst (ev_eqO2 (ea_ex (ev_nm (d := x53) rfl)) (ea_ex (ev_nm (d := a22.1.1) rfl)) xq_Share_eqX)) (et_tst (ev_app2 (eo_ex (ev_app2 (eo_sl (s := .val v_50) rfl) (eo_ex (ev_cst)))) (eo_ex (ev_cst)))))))) ?_ ?_
          · exact k_retP (ev_cst) (fun h => h)
          · refine bn_bk (c := .ok ()) ?_
            refine k_kill (i := 6) rfl ?_
            exact k_nil (t := ()) rfl
      · refine k_set (i := 7) rfl (ev_mkX (n := 4) (b := xb_Share_initX) (c := "Share") (dd := [.int 1]) (f := (ap1 fun a0 => c_Share_initX (D.ins "Share" [] []) a0 (D.int 1))) (eas_cons (ea_ex (ev_nm (d := a22.1.1) rfl)) (eas_nil)) (fun ds => match ds with | [a0] => xq_Share_initX (D.ins "Share" [] []) a0 (.int 1) | [] => trivial | _ :: _ :: _ => trivial)) (fun v_71 => ?_)
        refine k_ifrB (et_or (et_tst (ev_app2 (eo_ex (ev_tup (eps_cons (ev_app1 (eo_sl (s := .val v_71) rfl)) (eps_cons (ev_app1 (eo_sl (s := .val v_71) rfl)) (eps_nil))))) (eo_ex (ev_tup (eps_cons (ev_nm (d := a22.1.1) rfl) (eps_cons (ev_cst) (eps_nil))))))) (et_tst (ev_app2 (eo_ex (ev_eqI (ea_ex (ev_nm (d := v_71) rfl)) (ea_ex (ev_app2 (eo_sl (s := .val v_51) rfl) (eo_ex (ev_cst)))) xq_Share_eqX)) (eo_ex (ev_app2 (eo_sl (s := .val v_50) rfl) (eo_ex (ev_tup (eps_cons (ev_nm (d := a22.1.1) rfl) (eps_cons (ev_cst) (eps_nil)))))))))) ?_ ?_
        · exact k_retP (ev_cst) (fun h => h)
        · refine k_ifrB (et_or (et_tst (ev_eqI (ea_ex (ev_mkK (n := 4) (b := xb_Share_initX) (c := "Share") (sel := [.at 0, .at 1]) (f := (ap2 fun a0 a1 => c_Share_initX (D.ins "Share" [] []) a0 a1)) (eas_cons (ea_ex (ev_app2 (eo_sl (s := .val a22.1.1) rfl) (eo_ex (ev_cst)))) (eas_cons (ea_ex (ev_nm (d := t24) rfl)) (eas_nil))) rfl (fun ds hl => match ds, hl with | [a0, a1], _ => xq_Share_initX (D.ins "Share" [] []) a0 a1))) (ea_ex (ev_app2 (eo_sl (s := .val v_51) rfl) (eo_ex (ev_cst)))) xq_Share_eqX)) (et_tst (ev_eqI (ea_ex (ev_mkX (n := 4) (b := xb_Share_initX) (c := "Share") (dd := []) (f := (ap2 fun a0 a1 => c_Share_initX (D.ins "Share" [] []) a0 a1)) (eas_cons (ea_ex (ev_nm (d := a22.1.1) rfl)) (eas_cons (ea_ex (ev_nm (d := t24) rfl)) (eas_nil))) (fun ds => match ds with | [a0, a1] => xq_Share_initX (D.ins "Share" [] []) a0 a1 | [] => trivial | [_] => trivial | _ :: _ :: _ :: _ => trivial))) (ea_ex (ev_mkX (n := 4) (b := xb_Share_initX) (c := "Share") (dd := []) (f := (ap2 fun a0 a1 => c_Share_initX (D.ins "Share" [] []) a0 a1)) (eas_cons (ea_ex (ev_app2 (eo_sl (s := .val a22.1.1) rfl) (eo_ex (ev_cst)))) (eas_cons (ea_ex (ev_app2 (eo_sl (s := .val t24) rfl) (eo_ex (ev_cst)))) (eas_nil))) (fun ds => match ds with | [a0, a1] => xq_Share_initX (D.ins "Share" [] []) a0 a1 | [] => trivial | [_] => trivial | _ :: _ :: _ :: _ => trivial))) xq_Share_eqX))) ?_ ?_
          · exact k_retP (ev_cst) (fun h => h)
          · refine k_seqB (env := fun t90 : Unit => [some (.val p_4), some (.val x4), some (.own p49.2), some (.val p49.1), some (.val v_50), some (.val v_51), none, some (.val v_71), none, some (.val a22.1.1), some (.val t24)]) ?_ (fun t90 => ?_)
            · refine k_forB (tg := .nm 8) (env := fun t84 : Unit => [some (.val p_4), some (.val x4), some (.own p49.2), some (.val p49.1), some (.val v_50), some (.val v_51), none, some (.val v_71), none, some (.val a22.1.1), some (.val t24)]) (u := some) (enc := fun (t84 : Unit) (x85 : D) => [some (.val p_4), some (.val x4), some (.own p49.2), some (.val p49.1), some (.val v_50), some (.val v_51), none, some (.val v_71), some (.val x85), some (.val a22.1.1), some (.val t24)]) (t0 := ()) (es_ex (φs := [cst (.int 3)]) (eps_cons (ev_cst) (eps_nil))) rfl (fun t84 => tg_nm rfl) (fun t84 x85 => ?_)
              refine k_ifrB (et_tst (ev_app2 (eo_ex (ev_call2 (f := c_l_refused) (ea_ex (ev_nm (d := a22.1.1) rfl)) (ea_ex (ev_nm (d := x85) rfl)) xq_l_refused)) (eo_ex (ev_tup (eps_cons (ev_nm (d := a22.1.1) rfl) (eps_cons (ev_cst) (eps_nil))))))) ?_ ?_
              · exact k_retP (ev_cst) (fun h => h)
              · refine bn_bk (c := .ok ()) ?_
                refine k_kill (i := 8) rfl ?_
                exact k_nil (t := ()) rfl
            · refine bn_bk (c := .ok ()) ?_
              refine k_kill (i := 10) rfl ?_
              refine k_kill (i := 9) rfl ?_
              refine k_kill (i := 7) rfl ?_
              refine k_kill (i := 5) rfl ?_
              refine k_kill (i := 4) rfl ?_
              refine k_kill (i := 3) rfl ?_
              refine k_kill (i := 2) rfl ?_
              refine k_kill (i := 1) rfl ?_
              exact k_nil (t := ()) rfl
  · exact k_retP (ev_cst) (fun h => h)
end VP
namespace VP
open PySem PySem.Spec PyProof.Rows L2 VF
theorem pr_some {d : D} : pr (some (.val d)) = .ok d := rfl
theorem pr_mulL {i j : Int} (h : i.natAbs < 18446744073709551616) : pr (fMul [.int i, .int j]) = .ok (.int (i * j)) := by
  rw [fMul_int, if_pos (.inr (.inl h))]; rfl
theorem pr_mod {i j : Int} (h : j ≠ 0) : pr (fMod [.int i, .int j]) = .ok (.int (i.fmod j)) := by
  show pr (if j ≠ 0 then some (.val (.int (i.fmod j))) else none) = _
  rw [if_pos h]; rfl
theorem pr_fdiv {i j : Int} (h : j ≠ 0) (h2 : j.natAbs < 2 ^ 64) : pr (fFdiv [.int i, .int j]) = .ok (.int (i.fdiv j)) := by
  rw [fFdiv_ok h h2]; rfl
theorem pr_add {i j : Int} : pr (fAdd [.int i, .int j]) = .ok (.int (i + j)) := rfl
theorem pr_sub {i j : Int} : pr (fSub [.int i, .int j]) = .ok (.int (i - j)) := rfl
theorem pr_gt {i j : Int} : pr (fGt [.int i, .int j]) = .ok (.bl (decide (j < i))) := rfl
theorem pr_lt {i j : Int} : pr (fLt [.int i, .int j]) = .ok (.bl (decide (i < j))) := rfl
theorem pr_ge {i j : Int} : pr (fGe [.int i, .int j]) = .ok (.bl (decide (j ≤ i))) := rfl
theorem asB_bl {b : Bool} : asB (.bl b) = .ok b := rfl
theorem fmod_lo {i j : Int} (h : 0 < j) : 0 ≤ i.fmod j ∧ i.fmod j < j := ⟨Int.fmod_nonneg_of_pos i h, Int.fmod_lt_of_pos i h⟩
theorem fdiv_nn {i j : Int} (h1 : 0 ≤ i) (h : 0 < j) : 0 ≤ i.fdiv j := by rw [Int.fdiv_eq_ediv_of_nonneg i (by omega)]; exact Int.ediv_nonneg h1 (by omega)
theorem fdiv_le {i j : Int} (h1 : 0 ≤ i) (h : 0 < j) : i.fdiv j ≤ i := by
  rw [Int.fdiv_eq_ediv_of_nonneg i (by omega)]
  exact Int.ediv_le_self j h1
end VP
namespace VP
open PySem PySem.Spec PyProof.Rows L2 VF
theorem atI_ok {α : Type} {ds : List α} {r : Int} (h0 : 0 ≤ r) (h1 : r < ds.length) : ∃ d, ds[r.toNat]? = some d ∧ atI ds r = some d := by
  have hl : r.toNat < ds.length := by omega
  refine ⟨ds[r.toNat], List.getElem?_eq_getElem hl, ?_⟩
  unfold atI ixN
  rw [if_pos h0, if_pos h1]
  exact List.getElem?_eq_getElem hl
theorem item_lst {ds : List D} {r : Int} (h0 : 0 ≤ r) (h1 : r < ds.length) : ∃ d, ds[r.toNat]? = some d ∧ pr (gItem [.lst ds, .int r]) = .ok d := by
  obtain ⟨d, e1, e2⟩ := atI_ok h0 h1
  refine ⟨d, e1, ?_⟩
  show pr ((atI ds r).map .val) = _
  rw [e2]; rfl
end VP
namespace VP
open PySem PySem.Spec PyProof.Rows L2 VF
end VP
namespace VP
open PySem PySem.Spec PyProof.Rows L2 VF
abbrev S (l : List Nat) : Str := ⟨l.toArray⟩
theorem S_inj {l m : List Nat} (h : S l = S m) : l = m := by
  have := congrArg (fun z : Str => z.cps.toList) h
  simpa using this
end VP
namespace VP
open PySem PySem.Spec PyProof.Rows L2 VF
def Lt (c : Nat) : Prop := 97 ≤ c ∧ c ≤ 122
theorem rng1 {n : Int} (h0 : 0 ≤ n) (h1 : n ≤ 1000) : ofO (sRng1 [.int n]) = .ok ((List.range n.toNat).map fun i => .int (i : Nat)) := by
  show ofO (if n ≤ 16777216 ∧ -(2 ^ 62) ≤ n then some ((List.range n.toNat).map fun i => D.int (i : Nat)) else none) = _
  rw [if_pos (by omega)]
  rfl
def sgn (f : Int) (k : Nat) : Nat := 97 + ((f + 5 * (k : Int)).fmod 26).toNat
def nm (f t : Int) (ys : List Nat) (k : Nat) : List Nat := if t = 0 then sgn f k :: ys else if t = 1 then ys ++ [sgn f k] else [sgn f k]
end VP
namespace VP
open PySem PySem.Spec PyProof.Rows L2 VF
def NameOk (l : List Nat) : Prop := 1 ≤ l.length ∧ l.length ≤ 8 ∧ ∀ c ∈ l, Lt c
def ds (l : List Nat) : D := .str (S l)
def dn (ns : List (List Nat)) : D := .tup (ns.map ds)
structure Names (ns : List (List Nat)) : Prop where
  nd : ns.Nodup
  lo : 1 ≤ ns.length
  hi : ns.length ≤ 6
  ok : ∀ l ∈ ns, NameOk l
end VP
namespace VP
open PySem PySem.Spec PyProof.Rows L2 VF
inductive Bal where
  | lets (xs : List (List Nat))
  | marks (ps : List (List Nat × Int))
  | order (ts : List (List (List Nat)))
def dB : Bal → D
  | .lets xs => .tup [.str "lets", .tup (xs.map ds)]
  | .marks ps => .tup [.str "marks", .tpp (ps.map fun p => .tup [ds p.1, .int p.2])]
  | .order ts => .tup [.str "order", .tup (ts.map fun t => .tup (t.map ds))]
def BalOk (ns : List (List Nat)) : Bal → Prop
  | .lets xs => xs.Nodup ∧ ∀ x ∈ xs, x ∈ ns
  | .marks ps => (ps.map (·.1)).Nodup ∧ (∀ p ∈ ps, p.1 ∈ ns) ∧ ∀ p ∈ ps, 0 ≤ p.2 ∧ p.2 ≤ 9
  | .order ts => ts.flatten.Nodup ∧ (∀ x ∈ ts.flatten, x ∈ ns) ∧ ∀ t ∈ ts, t ≠ []
end VP
namespace VP
open PySem PySem.Spec PyProof.Rows L2 VF
theorem sIx_hi {n : Nat} {k : Int} {d : Nat} (h : 0 ≤ k) : HT.sIx n d (some k) = min k.toNat n := by
  unfold HT.sIx
  simp
  omega
theorem sl_take {ds : List D} {k : Int} (h : 0 ≤ k) : slR (.ok (.tup ds)) none (some (.ok (.int k))) = .ok (.tup (ds.take k.toNat)) := by
  show pr (some (.val (.tup (VF.cutD ds none (some k))))) = _
  unfold VF.cutD
  rw [sIx_hi h]
  show R.ok (D.tup ((ds.drop 0).take (min k.toNat ds.length - 0))) = _
  rw [List.drop_zero, Nat.sub_zero]
  congr 2
  by_cases hk : k.toNat ≤ ds.length
  · rw [Nat.min_eq_left hk]
  · rw [Nat.min_eq_right (by omega), List.take_of_length_le (Nat.le_refl _), List.take_of_length_le (by omega)]
theorem fEq_int {i j : Int} : pr (fEq [.int i, .int j]) = .ok (.bl (decide (i = j))) := by
  show pr (some (.val (.bl (i == j)))) = _
  rfl
theorem mapR_ok {T : Type} {u : D → Option T} {f : T → R D} {g : D → D} : ∀ {xs : List D}, (∀ x ∈ xs, ∃ a, u x = some a ∧ f a = .ok (g x)) → mapR u f xs = .ok (xs.map g)
  | [], _ => rfl
  | x :: xs, h => by
    obtain ⟨a, e1, e2⟩ := h x List.mem_cons_self
    unfold mapR
    rw [e1]
    simp only [e2, noE_ok, R.bind_ok, mapR_ok (xs := xs) fun y hy => h y (List.mem_cons_of_mem _ hy)]
    rfl
def dT (t : List (List Nat)) : D := .tup (t.map ds)
end VP
namespace VP
open PySem PySem.Spec PyProof.Rows L2 VF
def dR (r : Bal × Int) : D := .tup [dB r.1, .int r.2]
structure RowsOk (ns : List (List Nat)) (rs : List (Bal × Int)) : Prop where
  len : rs.length ≤ 30
  ok : ∀ r ∈ rs, BalOk ns r.1 ∧ 1 ≤ r.2 ∧ r.2 ≤ 1000000
end VP
namespace VP
open PySem PySem.Spec PyProof.Rows L2 VF
theorem trR_bl {b : Bool} : trR (.bl b) = .ok b := rfl
theorem isi_str {z : Str} : pr (fIsi "str" [.str z]) = .ok (.bl true) := by
  have h : kitB "str" "str" = some true := by decide +kernel
  show pr ((kitB "str" "str").map fun b => .val (.bl b)) = _
  rw [h]; rfl
theorem all_true {ds : List D} (h : ∀ d ∈ ds, d = .bl true) : pr (fAll [.lst ds]) = .ok (.bl true) := by
  have key : ∀ ds : List D, (∀ d ∈ ds, d = .bl true) → ∃ bs : List Bool, allOf D.bl? ds = some bs ∧ bs.all id = true := by
    intro ds
    induction ds with
    | nil => intro _; exact ⟨[], rfl, rfl⟩
    | cons d ds ih =>
      intro h
      obtain ⟨bs, e1, e2⟩ := ih fun x hx => h x (List.mem_cons_of_mem _ hx)
      have ed := h d List.mem_cons_self
      subst ed
      exact ⟨true :: bs, by unfold allOf; rw [e1]; rfl, by simpa using e2⟩
  obtain ⟨bs, e1, e2⟩ := key ds h
  show pr (match allOf D.bl? ds with | some bs => some (.val (.bl (bs.all id))) | none => none) = _
  rw [e1]
  show R.ok (D.bl (bs.all id)) = _
  rw [e2]
end VP
namespace VP
open PySem PySem.Spec PyProof.Rows L2 VF
theorem eq_ds {a b : List Nat} : D.eq (ds a) (ds b) = decide (a = b) := by
  show (S a == S b) = _
  by_cases h : a = b
  · subst h; simp
  · rw [decide_eq_false h]
    exact beq_eq_false_iff_ne.mpr fun z => h (S_inj z)
theorem any_ds {l : List Nat} {ls : List (List Nat)} : (ls.map ds).any (fun e => D.eq e (ds l)) = decide (l ∈ ls) := by
  induction ls with
  | nil => rfl
  | cons a as ih =>
    rw [List.map_cons, List.any_cons, ih, eq_ds]
    by_cases h : a = l
    · subst h; simp
    · rw [decide_eq_false h]
      have h2 : ¬ l = a := fun z => h z.symm
      simp [h2]
theorem pl_all {ls : List (List Nat)} : (ls.map ds).all (pl 60) = true := List.all_eq_true.mpr fun d hd => by
  obtain ⟨l, _, rfl⟩ := List.mem_map.mp hd
  rfl
theorem in_tup {l : List Nat} {ls : List (List Nat)} : pr (gIn [ds l, .tup (ls.map ds)]) = .ok (.bl (decide (l ∈ ls))) := by
  show pr (if pl 60 (ds l) = true ∧ (ls.map ds).all (pl 60) = true then some (.val (.bl ((ls.map ds).any fun e => D.eq e (ds l)))) else none) = _
  rw [if_pos ⟨rfl, pl_all⟩, any_ds]; rfl
theorem notin_tup {l : List Nat} {ls : List (List Nat)} : pr (gNotIn [ds l, .tup (ls.map ds)]) = .ok (.bl (!decide (l ∈ ls))) := by
  show pr (if pl 60 (ds l) = true ∧ (ls.map ds).all (pl 60) = true then some (.val (.bl (!(ls.map ds).any fun e => D.eq e (ds l)))) else none) = _
  rw [if_pos ⟨rfl, pl_all⟩, any_ds]; rfl
theorem notin_lst {l : List Nat} {ls : List (List Nat)} : pr (gNotIn [ds l, .lst (ls.map ds)]) = .ok (.bl (!decide (l ∈ ls))) := by
  show pr (if pl 60 (ds l) = true ∧ (ls.map ds).all (pl 60) = true then some (.val (.bl (!(ls.map ds).any fun e => D.eq e (ds l)))) else none) = _
  rw [if_pos ⟨rfl, pl_all⟩, any_ds]; rfl
theorem sl_takeL {ds : List D} {k : Int} (h : 0 ≤ k) : slR (.ok (.lst ds)) none (some (.ok (.int k))) = .ok (.lst (ds.take k.toNat)) := by
  show pr (some (.own (.lst (VF.cutD ds none (some k))))) = _
  unfold VF.cutD
  rw [sIx_hi h]
  show R.ok (D.lst ((ds.drop 0).take (min k.toNat ds.length - 0))) = _
  rw [List.drop_zero, Nat.sub_zero]
  congr 2
  by_cases hk : k.toNat ≤ ds.length
  · rw [Nat.min_eq_left hk]
  · rw [Nat.min_eq_right (by omega), List.take_of_length_le (Nat.le_refl _), List.take_of_length_le (by omega)]
end VP
namespace VP
open PySem PySem.Spec PyProof.Rows L2 VF
theorem nodup_at {α : Type} {ls : List α} (h : ls.Nodup) {i : Nat} {l : α} (e : ls[i]? = some l) : l ∉ ls.take i := fun z => by
  obtain ⟨j, hj⟩ := List.mem_iff_getElem?.mp z
  have hji : j < i := by
    have := (List.getElem?_eq_some_iff.mp hj).1
    simp at this
    omega
  rw [List.getElem?_take, if_pos hji] at hj
  obtain ⟨hi1, hi2⟩ := List.getElem?_eq_some_iff.mp e
  obtain ⟨hj1, hj2⟩ := List.getElem?_eq_some_iff.mp hj
  exact (List.pairwise_iff_getElem.mp h) j i hj1 hi1 hji (hj2.trans hi2.symm)
theorem enum_mem {xs : List D} {d : D} (h : d ∈ xs.mapIdx fun i d => D.tup [.int (i : Nat), d]) : ∃ i x, xs[i]? = some x ∧ d = .tup [.int (i : Nat), x] := by
  obtain ⟨i, hi⟩ := List.mem_iff_getElem?.mp h
  rw [List.getElem?_mapIdx] at hi
  obtain ⟨x, e1, e2⟩ := Option.map_eq_some_iff.mp hi
  exact ⟨i, x, e1, e2.symm⟩
theorem unlike_tup {ls : List (List Nat)} (h : ls.Nodup) (hl : ls.length ≤ 1000) : c_are_unlike (.tup (ls.map ds)) = .ok (.bl true) := by
  have es : ofO (sEnumG [.tup (ls.map ds)]) = .ok ((ls.map ds).mapIdx fun i d => .tup [.int (i : Nat), d]) := by
    show ofO (if (ls.map ds).length ≤ 1000000 then some ((ls.map ds).mapIdx fun i d => D.tup [.int (i : Nat), d]) else none) = _
    rw [if_pos (by simp; omega)]; rfl
  unfold c_are_unlike
  rw [es, R.bind_ok]
  rw [mapR_ok (g := fun _ => .bl true) fun x hx => ?_]
  · rw [R.bind_ok]
    exact all_true fun d hd => by
      obtain ⟨_, _, rfl⟩ := List.mem_map.mp hd
      rfl
  · obtain ⟨i, y, e1, rfl⟩ := enum_mem hx
    rw [List.getElem?_map] at e1
    obtain ⟨l, e2, rfl⟩ := Option.map_eq_some_iff.mp e1
    refine ⟨(.int (i : Nat), ds l), rfl, ?_⟩
    simp only
    rw [sl_take (by omega), R.bind_ok, ← List.map_take, notin_tup]
    have := nodup_at h e2
    simp [this]
theorem unlike_lst {ls : List (List Nat)} (h : ls.Nodup) (hl : ls.length ≤ 1000) : c_are_unlike (.lst (ls.map ds)) = .ok (.bl true) := by
  have es : ofO (sEnumG [.lst (ls.map ds)]) = .ok ((ls.map ds).mapIdx fun i d => .tup [.int (i : Nat), d]) := by
    show ofO (if (ls.map ds).length ≤ 1000000 then some ((ls.map ds).mapIdx fun i d => D.tup [.int (i : Nat), d]) else none) = _
    rw [if_pos (by simp; omega)]; rfl
  unfold c_are_unlike
  rw [es, R.bind_ok]
  rw [mapR_ok (g := fun _ => .bl true) fun x hx => ?_]
  · rw [R.bind_ok]
    exact all_true fun d hd => by
      obtain ⟨_, _, rfl⟩ := List.mem_map.mp hd
      rfl
  · obtain ⟨i, y, e1, rfl⟩ := enum_mem hx
    rw [List.getElem?_map] at e1
    obtain ⟨l, e2, rfl⟩ := Option.map_eq_some_iff.mp e1
    refine ⟨(.int (i : Nat), ds l), rfl, ?_⟩
    simp only
    rw [sl_takeL (by omega), R.bind_ok, ← List.map_take, notin_lst]
    have := nodup_at h e2
    simp [this]
end VP
namespace VP
open PySem PySem.Spec PyProof.Rows L2 VF
theorem some_of {ns xs : List (List Nat)} (d : D) (hd : d = .tup (xs.map ds) ∨ d = .lst (xs.map ds)) (h1 : xs.Nodup) (h2 : ∀ x ∈ xs, x ∈ ns) (hl : xs.length ≤ 1000) : c_are_some_of d (dn ns) = .ok (.bl true) := by
  have es : ofO (sSeq [d]) = .ok (xs.map ds) := by rcases hd with rfl | rfl <;> rfl
  have em : mapR some (fun x : D => (pr (fIsi "str" [x])).bind fun d2 => (trR d2).bind fun b3 => if b3 = true then (pr (gIn [x, dn ns])) else .ok d2) (xs.map ds) = .ok ((xs.map ds).map fun _ => .bl true) := mapR_ok (g := fun _ => .bl true) fun x hx => by
    obtain ⟨l, hl, rfl⟩ := List.mem_map.mp hx
    refine ⟨_, rfl, ?_⟩
    rw [show pr (fIsi "str" [ds l]) = .ok (.bl true) from isi_str, R.bind_ok, trR_bl, R.bind_ok, if_pos rfl]
    unfold dn
    rw [in_tup, decide_eq_true (h2 l hl)]
  have ea : pr (fAll [.lst ((xs.map ds).map fun _ => D.bl true)]) = .ok (.bl true) := all_true fun d hd => by
    obtain ⟨_, _, rfl⟩ := List.mem_map.mp hd
    rfl
  unfold c_are_some_of
  simp only [es, R.bind_ok, em, ea, trR_bl, if_true]
  rcases hd with rfl | rfl
  · exact unlike_tup h1 hl
  · exact unlike_lst h1 hl
end VP
namespace VP
open PySem PySem.Spec PyProof.Rows L2 VF
end VP
namespace VP
open PySem PySem.Spec PyProof.Rows L2 VF
end VP
namespace VP
open PySem PySem.Spec PyProof.Rows L2 VF
end VP
namespace VP
open PySem PySem.Spec PyProof.Rows L2 VF
abbrev N := List Nat
theorem R.step {α β : Type} {c : R α} {a : α} {f : α → R β} {r : R β} (h : c = .ok a) (k : f a = r) : c.bind f = r := by rw [h]; exact k
section
variable {α β T : Type}
end
section
variable {α S T X A : Type}
end
section
variable {α κ : Type} [DecidableEq α] [DecidableEq κ] {k : α → κ} {f : α → D}
def up {β : Type} (f : α → β) (a : α) (d : β) : α → β := fun b => if b = a then d else f b
theorem any_map (hk : ∀ a b, k a = k b → a = b) {a : α} {ks : List α} : ((ks.map k).any fun g => decide (g = k a)) = decide (a ∈ ks) := by
  induction ks with
  | nil => rfl
  | cons b ks ih =>
    rw [List.map_cons, List.any_cons, ih]
    by_cases h : b = a
    · subst h; simp
    · have h2 : ¬ a = b := fun z => h z.symm
      have h3 : ¬ k b = k a := fun z => h (hk _ _ z)
      simp [h2, h3]
end
end VP
namespace VP
open PySem PySem.Spec PyProof.Rows L2 VF
def dP (p : N × N) : D := .tup [ds p.1, ds p.2]
end VP
namespace VP
open PySem PySem.Spec PyProof.Rows L2 VF
def dRows (rs : List (Bal × Int)) : D := .tup (rs.map dR)
def dPoll (ns : List N) (rs : List (Bal × Int)) : D := .ins "Poll" ["options", "voices"] [dn ns, dRows rs]
theorem all_map {α : Type} {p : α → Bool} {xs : List α} : pr (fAll [.lst (xs.map fun a => .bl (p a))]) = .ok (.bl (xs.all p)) := by
  have e := allOf_map (g := D.bl?) (c := D.bl) (fun a => rfl) (xs.map p)
  rw [List.map_map] at e
  show pr (match allOf D.bl? (xs.map (D.bl ∘ p)) with | some bs => some (.val (.bl (bs.all id))) | none => none) = _
  rw [e]
  show R.ok (D.bl ((xs.map p).all id)) = _
  rw [List.all_map]; rfl
def ht : Bal → N → Int
  | .lets xs, a => if a ∈ xs then 1 else 0
  | .marks ps, a => ((ps.filter fun p => decide (p.1 = a)).map (·.2)).sum
  | .order ts, a => ((ts.zipIdx.filter fun p => decide (a ∈ p.1)).map fun p => (ts.length : Int) - (p.2 : Nat)).sum
theorem int_bl {b : Bool} : pr (fInt [.bl b]) = .ok (.int (if b then 1 else 0)) := rfl
end VP
namespace VP
open PySem PySem.Spec PyProof.Rows L2 VF
theorem seq_lst {xs : List D} : ofO (sSeq [.lst xs]) = .ok xs := rfl
end VP
namespace VP
open PySem PySem.Spec PyProof.Rows L2 VF
theorem forN_eqI {α S T X : Type} {u : D → Option X} {f : T → X → R T} {e : α → D} {e' : α → X} {c : S → T} {g : S → α → S} {K : Nat} (hu : ∀ a, u (e a) = some (e' a)) (I : Nat → S → Prop) : ∀ (xs : List α) (n : Nat) (s : S), n + xs.length ≤ K → I n s → (∀ a ∈ xs, ∀ n s, n < K → I n s → f (c s) (e' a) = .ok (c (g s a)) ∧ I (n + 1) (g s a)) → forN u f (xs.map e) (c s) = .ok (c (xs.foldl g s))
  | [], n, s, _, _, _ => rfl
  | x :: xs, n, s, hK, hs, h => by
    simp only [List.length_cons] at hK
    obtain ⟨h1, h2⟩ := h x List.mem_cons_self n s (by omega) hs
    rw [List.map_cons]
    unfold forN
    rw [hu x]
    simp only [h1, R.bind_ok]
    exact forN_eqI hu I xs (n + 1) (g s x) (by omega) h2 fun a ha => h a (List.mem_cons_of_mem _ ha)
def sg (x y : Int) : Int := (if y < x then 1 else 0) - (if x < y then 1 else 0)
theorem sg_neg (x y : Int) : sg y x = - sg x y := by unfold sg; split <;> split <;> omega
theorem sg_abs (x y : Int) : (sg x y).natAbs ≤ 1 := by unfold sg; split <;> split <;> omega
def mg (rs : List (Bal × Int)) (p : N × N) : Int := (rs.map fun r => r.2 * sg (ht r.1 p.1) (ht r.1 p.2)).sum
theorem mg_neg (rs : List (Bal × Int)) (a b : N) : mg rs (b, a) = - mg rs (a, b) := by
  unfold mg
  induction rs with
  | nil => rfl
  | cons r rs ih =>
    simp only [List.map_cons, List.sum_cons, ih, sg_neg (ht r.1 a) (ht r.1 b)]
    rw [Int.mul_neg]
    omega
def prs (ns : List N) : List (N × N) := ns.flatMap fun a => (ns.filter fun b => !decide (a = b)).map fun b => (a, b)
theorem mem_prs {ns : List N} {p : N × N} : p ∈ prs ns ↔ p.1 ∈ ns ∧ p.2 ∈ ns ∧ p.1 ≠ p.2 := by
  unfold prs
  rw [List.mem_flatMap]
  constructor
  · rintro ⟨a, ha, h⟩
    obtain ⟨b, hb, rfl⟩ := List.mem_map.mp h
    rw [List.mem_filter] at hb
    exact ⟨ha, hb.1, by simpa using hb.2⟩
  · rintro ⟨h1, h2, h3⟩
    exact ⟨p.1, h1, List.mem_map.mpr ⟨p.2, List.mem_filter.mpr ⟨h2, by simpa using h3⟩, rfl⟩⟩
theorem flat_len {α β : Type} {k : α → List β} {m : Nat} : ∀ {xs : List α}, (∀ a ∈ xs, (k a).length ≤ m) → (xs.flatMap k).length ≤ xs.length * m
  | [], _ => by simp
  | x :: xs, h => by
    have h1 := h x List.mem_cons_self
    have h2 := flat_len (xs := xs) fun a ha => h a (List.mem_cons_of_mem _ ha)
    rw [List.flatMap_cons, List.length_append, List.length_cons, Nat.add_mul]
    omega
end VP
namespace VP
open PySem PySem.Spec PyProof.Rows L2 VF
theorem add_lst {xs ys : List D} (h : xs.length + ys.length ≤ 1000000) : pr (fAdd [.lst xs, .lst ys]) = .ok (.lst (xs ++ ys)) := by
  show pr (if xs.length + ys.length ≤ sizeLine then some (.own (.lst (xs ++ ys))) else none) = _
  rw [if_pos (by rw [sizeLine_eq]; omega)]; rfl
end VP
namespace VP
open PySem PySem.Spec PyProof.Rows L2 VF
inductive Rch (ns : List N) (st : N → N → Prop) (o : N) : N → Prop
  | refl : Rch ns st o o
  | step {a b : N} : Rch ns st o a → b ∈ ns → st a b → Rch ns st o b
structure WayOk (ns : List N) (st : N → N → Prop) (o a : N) (l : List N) : Prop where
  hd : l.head? = some o
  lt : l.getLast? = some a
  nd : l.Nodup
  sub : ∀ x ∈ l, x ∈ ns
  ch : ∀ i a b, l[i]? = some a → l[i + 1]? = some b → st a b
structure WaysOk (ns : List N) (st : N → N → Prop) (o : N) (ks : List N) (w : N → List N) : Prop where
  nd : ks.Nodup
  sub : ∀ a ∈ ks, a ∈ ns
  rch : ∀ a, a ∈ ks ↔ Rch ns st o a
  way : ∀ a ∈ ks, WayOk ns st o a (w a)
structure WInv (ns : List N) (st : N → N → Prop) (o : N) (ks : List N) (w : N → List N) (line : List N) : Prop where
  nd : ks.Nodup
  sub : ∀ a ∈ ks, a ∈ ns
  rch : ∀ a ∈ ks, Rch ns st o a
  way : ∀ a ∈ ks, WayOk ns st o a (w a)
  inn : ∀ a ∈ ks, ∀ x ∈ w a, x ∈ ks
  ori : o ∈ ks
  lin : ∀ a ∈ line, a ∈ ks
theorem nodup_len {ns ks : List N} (h1 : ks.Nodup) (h2 : ∀ x ∈ ks, x ∈ ns) : ks.length ≤ ns.length := List.Nodup.length_le_of_subset h1 h2
end VP
namespace VP
open PySem PySem.Spec PyProof.Rows L2 VF
def Tops (ns : List N) (st : N → N → Prop) (a : N) : Prop := ∀ b ∈ ns, Rch ns st a b
noncomputable def cdec (p : Prop) : Bool := @decide p (Classical.propDecidable p)
theorem cdec_iff {p : Prop} : cdec p = true ↔ p := by unfold cdec; exact @decide_eq_true_iff p (Classical.propDecidable p)
theorem Rch.trans {ns : List N} {st : N → N → Prop} {a b c : N} (h1 : Rch ns st a b) (h2 : Rch ns st b c) : Rch ns st a c := by
  induction h2 with
  | refl => exact h1
  | step _ h4 h5 ih => exact .step ih h4 h5
theorem Rch.congr {ns ms : List N} (h : ∀ a, a ∈ ns ↔ a ∈ ms) {st : N → N → Prop} {a b : N} (r : Rch ns st a b) : Rch ms st a b := by
  induction r with
  | refl => exact .refl
  | step _ h4 h5 ih => exact .step ih ((h _).mp h4) h5
theorem Tops.congr {ns ms : List N} (h : ∀ a, a ∈ ns ↔ a ∈ ms) {st : N → N → Prop} {a : N} : Tops ns st a ↔ Tops ms st a :=
  ⟨fun z b hb => (z b ((h b).mpr hb)).congr h, fun z b hb => (z b ((h b).mp hb)).congr fun x => (h x).symm⟩
theorem sub_filter {ns l : List N} (h : l.Sublist ns) (hn : ns.Nodup) : l = ns.filter fun x => decide (x ∈ l) := by
  induction h with
  | slnil => rfl
  | @cons l ns a h ih =>
    obtain ⟨h1, h2⟩ := List.nodup_cons.mp hn
    have ha : a ∉ l := fun z => h1 (h.subset z)
    rw [List.filter_cons_of_neg (by simpa using ha)]
    exact ih h2
  | @cons_cons l ns a h ih =>
    obtain ⟨h1, h2⟩ := List.nodup_cons.mp hn
    rw [List.filter_cons_of_pos (by simp)]
    congr 1
    rw [show (ns.filter fun x => decide (x ∈ a :: l)) = ns.filter fun x => decide (x ∈ l) from List.filter_congr fun x hx => by
      have : x ≠ a := fun z => h1 (by rw [← z]; exact hx)
      simp [this]]
    exact ih h2
end VP
namespace VP
open PySem PySem.Spec PyProof.Rows L2 VF
theorem srR1 {f : List D → Option (List D)} {a : R D} : srR f [a] = a.bind fun x => ofO (f [x]) := by
  cases a <;> rfl
end VP
namespace VP
open PySem PySem.Spec PyProof.Rows L2 VF
theorem forB_unit {α X A : Type} {u : D → Option X} {f : Unit → X → R (LS Unit A)} {e : α → D} {e' : α → X} (hu : ∀ a, u (e a) = some (e' a)) : ∀ (xs : List α), (∀ a ∈ xs, (f () (e' a)).wp fun s => s = .nx ()) → forB u f (xs.map e) () = .ok (.nx ())
  | [], _ => rfl
  | x :: xs, k => by
    rw [List.map_cons]
    unfold forB
    rw [hu x]
    obtain ⟨s, e1, e2⟩ := k x List.mem_cons_self
    subst e2
    simp only [e1, R.bind_ok]
    exact forB_unit hu xs fun a ha => k a (List.mem_cons_of_mem _ ha)
end VP
namespace VP
open PySem PySem.Spec PyProof.Rows L2 VF
def stp (T : N × N → Int) (v : Int) (a b : N) : Prop := v ≤ T (a, b)
structure IsStr (ns : List N) (T : N × N → Int) (a b : N) (S : Int) : Prop where
  way : Rch ns (stp T S) a b
  top : ∀ v, Rch ns (stp T v) a b → v ≤ S
theorem IsStr.uniq {ns : List N} {T : N × N → Int} {a b : N} {S S' : Int} (h : IsStr ns T a b S) (h' : IsStr ns T a b S') : S = S' := by
  have := h.top _ h'.way
  have := h'.top _ h.way
  omega
theorem Rch.weak {ns : List N} {st st' : N → N → Prop} {a b : N} (h : Rch ns st a b) (k : ∀ x y, st x y → st' x y) : Rch ns st' a b := by
  induction h with
  | refl => exact .refl
  | step _ h4 h5 ih => exact .step ih h4 (k _ _ h5)
theorem Rch.mem {ns : List N} {st : N → N → Prop} {a b : N} (h : Rch ns st a b) (ha : a ∈ ns) : b ∈ ns := by
  cases h with
  | refl => exact ha
  | step _ h4 _ => exact h4
theorem Rch.conv {ns : List N} {st st' : N → N → Prop} {a b : N} (h : Rch ns st a b) (ha : a ∈ ns) (k : ∀ x y, x ∈ ns → y ∈ ns → x ≠ y → st x y → st' x y) : Rch ns st' a b := by
  induction h with
  | refl => exact .refl
  | @step c d h3 h4 h5 ih =>
    by_cases e : c = d
    · subst e; exact ih
    · exact .step ih h4 (k c d (h3.mem ha) h4 e h5)
theorem Rch.some_step {ns : List N} {st : N → N → Prop} {a b : N} (h : Rch ns st a b) (ha : a ∈ ns) (hab : a ≠ b) : ∃ x y, x ∈ ns ∧ y ∈ ns ∧ x ≠ y ∧ st x y := by
  induction h with
  | refl => exact absurd rfl hab
  | @step c d h3 h4 h5 ih =>
    by_cases e : c = d
    · subst e; exact ih hab
    · exact ⟨c, d, h3.mem ha, h4, e, h5⟩
theorem least_from {v : Int} : ∀ {xs : List Int}, (∃ x ∈ xs, v ≤ x) → ∃ u ∈ xs, v ≤ u ∧ ∀ x ∈ xs, v ≤ x → u ≤ x
  | [], ⟨x, hx, _⟩ => by cases hx
  | y :: ys, h => by
    by_cases hy : ∃ x ∈ ys, v ≤ x
    · obtain ⟨u, hu, h1, h2⟩ := least_from hy
      by_cases hz : v ≤ y ∧ y < u
      · refine ⟨y, List.mem_cons_self, hz.1, fun x hx hv => ?_⟩
        rcases List.mem_cons.mp hx with rfl | hx
        · exact Int.le_refl _
        · have := h2 x hx hv; omega
      · refine ⟨u, List.mem_cons_of_mem _ hu, h1, fun x hx hv => ?_⟩
        rcases List.mem_cons.mp hx with rfl | hx
        · omega
        · exact h2 x hx hv
    · obtain ⟨x, hx, hv⟩ := h
      rcases List.mem_cons.mp hx with rfl | hx
      · refine ⟨x, List.mem_cons_self, hv, fun z hz hv2 => ?_⟩
        rcases List.mem_cons.mp hz with rfl | hz
        · exact Int.le_refl _
        · exact absurd ⟨z, hz, hv2⟩ hy
      · exact absurd ⟨x, hx, hv⟩ hy
def vals (ns : List N) (T : N × N → Int) : List Int := (prs ns).map T
theorem mem_vals {ns : List N} {T : N × N → Int} {a b : N} (ha : a ∈ ns) (hb : b ∈ ns) (h : a ≠ b) : T (a, b) ∈ vals ns T := List.mem_map.mpr ⟨(a, b), mem_prs.mpr ⟨ha, hb, h⟩, rfl⟩
theorem strong_val {ns : List N} {T : N × N → Int} {a b : N} {v : Int} (h : Rch ns (stp T v) a b) (ha : a ∈ ns) (hab : a ≠ b) : ∃ u ∈ vals ns T, v ≤ u ∧ Rch ns (stp T u) a b := by
  obtain ⟨x, y, hx, hy, hxy, hs⟩ := h.some_step ha hab
  obtain ⟨u, hu, h1, h2⟩ := least_from (v := v) (xs := vals ns T) ⟨_, mem_vals hx hy hxy, hs⟩
  exact ⟨u, hu, h1, h.conv ha fun c d hc hd hcd hs => h2 _ (mem_vals hc hd hcd) hs⟩
theorem first_str {ns : List N} {T : N × N → Int} {a b : N} (ha : a ∈ ns) (hb : b ∈ ns) (hab : a ≠ b) : ∃ S rest, ((isort (vals ns T)).reverse.filter fun v => cdec (Rch ns (stp T v) a b)) = S :: rest ∧ IsStr ns T a b S := by
  have hm : ∀ v, v ∈ (isort (vals ns T)).reverse ↔ v ∈ vals ns T := fun v => by rw [List.mem_reverse, (isort_perm _).mem_iff]
  have hs : (isort (vals ns T)).reverse.Pairwise (· ≥ ·) := List.pairwise_reverse.mpr (isort_sorted _)
  cases e : ((isort (vals ns T)).reverse.filter fun v => cdec (Rch ns (stp T v) a b)) with
  | nil =>
    exfalso
    have : T (a, b) ∈ ((isort (vals ns T)).reverse.filter fun v => cdec (Rch ns (stp T v) a b)) := List.mem_filter.mpr ⟨(hm _).mpr (mem_vals ha hb hab), cdec_iff.mpr (.step .refl hb (Int.le_refl _))⟩
    rw [e] at this
    cases this
  | cons S rest =>
    refine ⟨S, rest, rfl, ?_, fun v hv => ?_⟩
    · have : S ∈ ((isort (vals ns T)).reverse.filter fun v => cdec (Rch ns (stp T v) a b)) := by rw [e]; exact List.mem_cons_self
      exact cdec_iff.mp (List.mem_filter.mp this).2
    · obtain ⟨u, hu, h1, h2⟩ := strong_val hv ha hab
      have hin : u ∈ ((isort (vals ns T)).reverse.filter fun v => cdec (Rch ns (stp T v) a b)) := List.mem_filter.mpr ⟨(hm u).mpr hu, cdec_iff.mpr h2⟩
      have hp : (S :: rest).Pairwise (· ≥ ·) := by rw [← e]; exact List.Pairwise.filter _ hs
      rw [e] at hin
      rcases List.mem_cons.mp hin with rfl | hin
      · exact h1
      · have := (List.pairwise_cons.mp hp).1 u hin
        omega
noncomputable def Sg (ns : List N) (T : N × N → Int) (p : N × N) : Int := @dite Int (∃ S, IsStr ns T p.1 p.2 S) (Classical.propDecidable _) (fun h => Classical.choose h) fun _ => 0
theorem Sg_eq {ns : List N} {T : N × N → Int} {a b : N} {S : Int} (h : IsStr ns T a b S) : Sg ns T (a, b) = S := by
  have hx : ∃ S, IsStr ns T a b S := ⟨S, h⟩
  unfold Sg
  rw [dif_pos hx]
  exact (Classical.choose_spec hx).uniq h
theorem Sg_str {ns : List N} {T : N × N → Int} {a b : N} (ha : a ∈ ns) (hb : b ∈ ns) (hab : a ≠ b) : IsStr ns T a b (Sg ns T (a, b)) := by
  obtain ⟨S, _, _, h⟩ := first_str (T := T) ha hb hab
  rw [Sg_eq h]
  exact h
theorem item0_lst {d : D} {ds : List D} : pr (gItem [.lst (d :: ds), .int 0]) = .ok d := by
  obtain ⟨x, e1, e2⟩ := item_lst (ds := d :: ds) (r := 0) (by decide) (by simp only [List.length_cons]; omega)
  have e1 : some d = some x := e1
  cases e1
  exact e2
end VP
namespace VP
open PySem PySem.Spec PyProof.Rows L2 VF
structure Simple (ns : List N) (a b : N) (w : List N) : Prop where
  hd : w.head? = some a
  lt : w.getLast? = some b
  nd : w.Nodup
  sub : ∀ x ∈ w, x ∈ ns
structure Pre (ns : List N) (a b : N) (p : List N) : Prop where
  hd : p.head? = some a
  nd : p.Nodup
  sub : ∀ x ∈ p, x ∈ ns
  nob : b ∉ p
theorem Pre.ext {ns : List N} {a b x : N} {p : List N} (h : Pre ns a b p) (hx : x ∈ ns) (hp : x ∉ p) (hb : x ≠ b) : Pre ns a b (p ++ [x]) := by
  refine ⟨?_, ?_, ?_, ?_⟩
  · have h0 := h.hd
    cases p with
    | nil => cases h0
    | cons c p => exact h0
  · rw [List.nodup_append]
    exact ⟨h.nd, by simp, fun y hy z hz e => by rw [List.mem_singleton.mp hz] at e; rw [e] at hy; exact hp hy⟩
  · intro y hy
    rcases List.mem_append.mp hy with hy | hy
    · exact h.sub y hy
    · rw [List.mem_singleton.mp hy]; exact hx
  · intro z
    rcases List.mem_append.mp z with z | z
    · exact h.nob z
    · exact hb (List.mem_singleton.mp z).symm
theorem Pre.fin {ns : List N} {a b : N} {p : List N} (h : Pre ns a b p) (hb : b ∈ ns) : Simple ns a b (p ++ [b]) := by
  refine ⟨?_, by simp, ?_, ?_⟩
  · have h0 := h.hd
    cases p with
    | nil => cases h0
    | cons c p => exact h0
  · rw [List.nodup_append]
    exact ⟨h.nd, by simp, fun y hy z hz e => by rw [List.mem_singleton.mp hz] at e; rw [e] at hy; exact h.nob hy⟩
  · intro y hy
    rcases List.mem_append.mp hy with hy | hy
    · exact h.sub y hy
    · rw [List.mem_singleton.mp hy]; exact hb
end VP
namespace VP
open PySem PySem.Spec PyProof.Rows L2 VF
def steps (T : N × N → Int) (w : List N) : List Int := (List.range (w.length - 1)).map fun i => T (w.getD i [], w.getD (i + 1) [])
theorem Simple.len {ns : List N} {a b : N} {w : List N} (h : Simple ns a b w) (hab : a ≠ b) : 2 ≤ w.length := by
  have h1 := h.hd
  have h2 := h.lt
  match w, h1, h2 with
  | [c], h1, h2 => cases h1; cases h2; exact absurd rfl hab
  | c :: d :: r, _, _ => simp
end VP
namespace VP
open PySem PySem.Spec PyProof.Rows L2 VF
def Win (ns : List N) (T : N × N → Int) (a : N) : Prop := ∀ b ∈ ns, b ≠ a → ¬ Sg ns T (a, b) < Sg ns T (b, a)
end VP
namespace VP
open PySem PySem.Spec PyProof.Rows L2 VF
theorem Sg_tri {ns : List N} {T : N × N → Int} {a b c : N} (ha : a ∈ ns) (hb : b ∈ ns) (hc : c ∈ ns) (hab : a ≠ b) (hbc : b ≠ c) (hac : a ≠ c) {v : Int} (h1 : v ≤ Sg ns T (a, b)) (h2 : v ≤ Sg ns T (b, c)) : v ≤ Sg ns T (a, c) := by
  have s1 := (Sg_str (T := T) ha hb hab).way
  have s2 := (Sg_str (T := T) hb hc hbc).way
  have r1 : Rch ns (stp T v) a b := s1.weak fun x y h => Int.le_trans h1 h
  have r2 : Rch ns (stp T v) b c := s2.weak fun x y h => Int.le_trans h2 h
  exact (Sg_str (T := T) ha hc hac).top v (r1.trans r2)
def Bt (ns : List N) (T : N × N → Int) (a b : N) : Prop := a ≠ b ∧ Sg ns T (b, a) < Sg ns T (a, b)
theorem Bt.trans {ns : List N} {T : N × N → Int} {a b c : N} (ha : a ∈ ns) (hb : b ∈ ns) (hc : c ∈ ns) (h1 : Bt ns T a b) (h2 : Bt ns T b c) : Bt ns T a c := by
  obtain ⟨n1, h1⟩ := h1
  obtain ⟨n2, h2⟩ := h2
  have hac : a ≠ c := fun z => by subst z; omega
  refine ⟨hac, ?_⟩
  rcases Int.le_total (Sg ns T (b, c)) (Sg ns T (a, b)) with h | h
  · have k1 : Sg ns T (b, c) ≤ Sg ns T (a, c) := Sg_tri ha hb hc n1 n2 hac h (Int.le_refl _)
    have k2 : Sg ns T (c, a) < Sg ns T (b, c) := by
      refine Classical.byContradiction fun z => ?_
      have := Sg_tri (v := Sg ns T (b, c)) hc ha hb (fun z => hac z.symm) n1 (fun z => n2 z.symm) (by omega) h
      omega
    omega
  · have k1 : Sg ns T (a, b) ≤ Sg ns T (a, c) := Sg_tri ha hb hc n1 n2 hac (Int.le_refl _) h
    have k2 : Sg ns T (c, a) < Sg ns T (a, b) := by
      refine Classical.byContradiction fun z => ?_
      have := Sg_tri (v := Sg ns T (a, b)) hb hc ha n2 (fun z => hac z.symm) (fun z => n1 z.symm) h (by omega)
      omega
    omega
theorem mg_twice (rs : List (Bal × Int)) : mg (rs ++ rs) = fun p => 2 * mg rs p := by
  funext p
  unfold mg
  rw [List.map_append, List.sum_append]
  omega
theorem Sg_twice {ns : List N} {T : N × N → Int} {a b : N} (ha : a ∈ ns) (hb : b ∈ ns) (hab : a ≠ b) : Sg ns (fun p => 2 * T p) (a, b) = 2 * Sg ns T (a, b) := by
  have s := Sg_str (T := T) ha hb hab
  apply Sg_eq
  refine ⟨s.way.weak fun x y h => ?_, fun v hv => ?_⟩
  · have h : Sg ns T (a, b) ≤ T (x, y) := h
    show 2 * Sg ns T (a, b) ≤ 2 * T (x, y)
    omega
  · have := s.top ((v + 1) / 2) (hv.weak fun x y h => by
      have h : v ≤ 2 * T (x, y) := h
      show (v + 1) / 2 ≤ T (x, y)
      omega)
    omega
theorem Win.twice {ns : List N} {rs : List (Bal × Int)} {a : N} (ha : a ∈ ns) : Win ns (mg (rs ++ rs)) a ↔ Win ns (mg rs) a := by
  rw [mg_twice]
  unfold Win
  constructor
  · intro h b hb hne
    have := h b hb hne
    rw [Sg_twice ha hb fun z => hne z.symm, Sg_twice hb ha hne] at this
    omega
  · intro h b hb hne
    rw [Sg_twice ha hb fun z => hne z.symm, Sg_twice hb ha hne]
    have := h b hb hne
    omega
end VP
namespace VP
open PySem PySem.Spec PyProof.Rows L2 VF
def stn (rs : List (Bal × Int)) (p : N × N) : Int := sg (mg rs p) 0
end VP
namespace VP
open PySem PySem.Spec PyProof.Rows L2 VF
theorem stn_neg {rs : List (Bal × Int)} {a b : N} : stn rs (b, a) = - stn rs (a, b) := by
  unfold stn
  rw [mg_neg rs a b]
  unfold sg
  split <;> split <;> split <;> split <;> omega
theorem stn_hi {rs : List (Bal × Int)} {p : N × N} : stn rs p ≤ 1 ∧ -1 ≤ stn rs p := by
  have := sg_abs (mg rs p) 0
  unfold stn
  omega
structure Cov (ns : List N) (rs : List (Bal × Int)) (a b : N) : Prop where
  ne : a ≠ b
  bt : stn rs (a, b) = 1
  al : ∀ c ∈ ns, c ≠ a → c ≠ b → stn rs (b, c) ≤ stn rs (a, c)
theorem Cov.trans {ns : List N} {rs : List (Bal × Int)} {a b c : N} (ha : a ∈ ns) (hb : b ∈ ns) (hc : c ∈ ns) (h1 : Cov ns rs a b) (h2 : Cov ns rs b c) : Cov ns rs a c := by
  have hac : a ≠ c := by
    rintro rfl
    have := h1.bt
    have e := stn_neg (rs := rs) (a := a) (b := b)
    have := h2.bt
    omega
  refine ⟨hac, ?_, fun d hd h3 h4 => ?_⟩
  · have := h1.al c hc (fun z => hac z.symm) fun z => h2.ne z.symm
    have e := h2.bt
    have := (stn_hi (rs := rs) (p := (a, c))).1
    omega
  · by_cases h5 : d = b
    · subst h5
      have := h1.bt
      have := (stn_hi (rs := rs) (p := (c, d))).1
      omega
    · have := h1.al d hd h3 h5
      have := h2.al d hd h5 h4
      omega
end VP
namespace VP
open PySem PySem.Spec PyProof.Rows L2 VF
structure WF (ns : List N) (a o : N) (w : List N) : Prop where
  nd : w.Nodup
  sub : ∀ x ∈ w, x ∈ ns
  lo : 2 ≤ w.length
  hd : w.head? = some a
  lt : w.getLast? = some o
end VP
namespace VP
open PySem PySem.Spec PyProof.Rows L2 VF
end VP
namespace VP
open PySem PySem.Spec PyProof.Rows L2 VF
theorem script_cut {ns : List Int} {lo hi : Int} : ∃ ms : List Int, ms.length ≤ ns.length ∧ slR (.ok (.lst (ns.map .int))) (some (.ok (.int lo))) (some (.ok (.int hi))) = .ok (.lst (ms.map .int)) := by
  refine ⟨(ns.drop (HT.sIx ns.length 0 (some lo))).take (HT.sIx ns.length ns.length (some hi) - HT.sIx ns.length 0 (some lo)), ?_, ?_⟩
  · rw [List.length_take, List.length_drop]; omega
  · show pr (some (.own (.lst (VF.cutD (ns.map D.int) (some lo) (some hi))))) = _
    unfold VF.cutD
    rw [List.length_map, List.map_take, List.map_drop]
    rfl
end VP
namespace VP
open PySem PySem.Spec PyProof.Rows L2 VF
def grow (ns : List N) (f : List (List N)) : List (List N) := f.flatMap fun o => (ns.filter fun x => !decide (x ∈ o)).map fun x => o ++ [x]
def growN (ns : List N) (f : List (List N)) (ms : List N) : List (List N) := ms.foldl (fun f _ => grow ns f) f
def allO (ns : List N) : List (List N) := growN ns [[]] ns
structure OrdK (ns : List N) (k : Nat) (f : List (List N)) : Prop where
  len : f.length ≤ 6 ^ k
  ok : ∀ o ∈ f, o.length = k ∧ o.Nodup ∧ ∀ x ∈ o, x ∈ ns
theorem OrdK.grow {ns : List N} {k : Nat} {f : List (List N)} (h : OrdK ns k f) (hl : ns.length ≤ 6) : OrdK ns (k + 1) (grow ns f) := by
  refine ⟨?_, fun o ho => ?_⟩
  · refine Nat.le_trans (flat_len (m := 6) fun a _ => ?_) ?_
    · rw [List.length_map]
      exact Nat.le_trans (List.length_filter_le _ _) hl
    · rw [Nat.pow_succ]
      exact Nat.mul_le_mul_right _ h.len
  · obtain ⟨p, hp, ho⟩ := List.mem_flatMap.mp ho
    obtain ⟨x, hx, rfl⟩ := List.mem_map.mp ho
    obtain ⟨h1, h2, h3⟩ := h.ok p hp
    obtain ⟨hx1, hx2⟩ := List.mem_filter.mp hx
    have hx3 : x ∉ p := by simpa using hx2
    refine ⟨by simp [h1], ?_, fun y hy => ?_⟩
    · rw [List.nodup_append]
      refine ⟨h2, by simp, fun y hy z hz e => ?_⟩
      rw [List.mem_singleton.mp hz] at e
      exact hx3 (e ▸ hy)
    · rcases List.mem_append.mp hy with hy | hy
      · exact h3 y hy
      · rw [List.mem_singleton.mp hy]; exact hx1
end VP
namespace VP
open PySem PySem.Spec PyProof.Rows L2 VF
def mx (a : Int) : Int := if a > 0 then a else 0
def pin (o : List N) : List (N × N) := o.zipIdx.flatMap fun p => (o.drop (p.2 + 1)).map fun x => (p.1, x)
def cst (T : N × N → Int) (o : List N) : Int := ((pin o).map fun p => mx (T (p.2, p.1))).sum
structure Ord (ns o : List N) : Prop where
  len : o.length = ns.length
  nd : o.Nodup
  sub : ∀ x ∈ o, x ∈ ns
def nums (ns : List N) (T : N × N → Int) : List Int := (allO ns).map (cst T)
def least (ns : List N) (T : N × N → Int) : Int := imin (nums ns T)
def bst (ns : List N) (T : N × N → Int) : List (List N) := (allO ns).filter fun o => decide (cst T o = least ns T)
def hds (ns : List N) (T : N × N → Int) : List N := ns.filter fun a => decide (a ∈ (bst ns T).map fun o => o.headD [])
end VP
namespace VP
open PySem PySem.Spec PyProof.Rows L2 VF
end VP
namespace VP
open PySem PySem.Spec PyProof.Rows L2 VF
end VP
namespace VP
open PySem PySem.Spec PyProof.Rows L2 VF
def WA (n : Nat) (w : D) : Prop := ∃ a b c : Int, w = .lst [.int a, .int b, .int c] ∧ 0 ≤ a ∧ 0 ≤ b ∧ b < 2147483629 ∧ 0 ≤ c ∧ c ≤ n
theorem WA.mono {n m : Nat} {w : D} (h : WA n w) (l : n ≤ m) : WA m w := by
  obtain ⟨a, b, c, h1, h2, h3, h4, h5, h6⟩ := h
  exact ⟨a, b, c, h1, h2, h3, h4, h5, by omega⟩
theorem pr_pow {i j : Int} (h0 : 0 ≤ j) (h1 : j ≤ 1000000) (h : i.natAbs < 2 ^ 64) : pr (fPow [.int i, .int j]) = .ok (.int (i ^ j.toNat)) := by
  show pr (if 0 ≤ j ∧ j ≤ 1000000 ∧ i.natAbs < 2 ^ 64 then some (.val (.int (i ^ j.toNat))) else none) = _
  rw [if_pos ⟨h0, h1, h⟩]; rfl
theorem wellA_ok {c : Int} : (c_l_well (.int c)).wp (WA 0) := by
  have m := fmod_lo (i := c) (j := 2147483629) (by decide)
  unfold c_l_well
  rw [pr_pow (by decide) (by decide) (by decide), R.bind_ok, pr_ge, R.bind_ok, show pr (fInt [D.bl (decide ((10 : Int) ^ (18 : Int).toNat ≤ c))]) = .ok (.int (if decide ((10 : Int) ^ (18 : Int).toNat ≤ c) = true then 1 else 0)) by cases (decide ((10 : Int) ^ (18 : Int).toNat ≤ c)) <;> rfl, R.bind_ok, pr_mod (by decide)]
  by_cases h : (10 : Int) ^ (18 : Int).toNat ≤ c
  · rw [decide_eq_true h, if_pos rfl]
    refine ⟨_, rfl, c, _, 0, rfl, Int.le_trans (by decide) h, m.1, m.2, by decide, by decide⟩
  · rw [decide_eq_false h, if_neg (by decide)]
    exact ⟨_, rfl, 0, _, 0, rfl, by decide, m.1, m.2, by decide, by decide⟩
theorem drawA {k : Nat} {w : D} {n : Int} (hw : WA k w) (hk : k ≤ 1000000) (hn : 0 < n) (hs : n.natAbs < 2 ^ 64) : (c_l_draw w (.int n)).wp fun p => ∃ r : Int, p.1 = .int r ∧ 0 ≤ r ∧ r < n ∧ WA (k + 1) p.2 := by
  obtain ⟨a, b, c, rfl, ha, hb, hb2, hc, hck⟩ := hw
  have g0 : ∀ x y z : D, pr (gItem [.lst [x, y, z], .int 0]) = .ok x := fun _ _ _ => rfl
  have g1 : ∀ x y z : D, pr (gItem [.lst [x, y, z], .int 1]) = .ok y := fun _ _ _ => rfl
  have g2 : ∀ x y z : D, pr (gItem [.lst [x, y, z], .int 2]) = .ok z := fun _ _ _ => rfl
  have s0 : ∀ v x y z : D, ofO (stG v (.int 0) (.lst [x, y, z])) = .ok ((), .lst [v, y, z]) := fun _ _ _ _ => rfl
  have s2 : ∀ v x y z : D, ofO (stG v (.int 2) (.lst [x, y, z])) = .ok ((), .lst [x, y, v]) := fun _ _ _ _ => rfl
  unfold c_l_draw
  rw [g0, R.bind_ok, pr_gt, R.bind_ok, asB_bl, R.bind_ok]
  by_cases h : 0 < a
  · rw [if_pos (by simpa using h), R.bind_ok, pr_mod (by omega), R.bind_ok, R.bind_ok, pr_fdiv (by omega) hs, R.bind_ok, R.bind_ok, s0, R.bind_ok]
    have := fmod_lo (i := a) hn
    exact ⟨_, rfl, _, rfl, this.1, this.2, _, b, c, rfl, fdiv_nn (by omega) hn, hb, hb2, hc, by push_cast; omega⟩
  · rw [if_neg (by simpa using h), g2, R.bind_ok, pr_add, R.bind_ok, R.bind_ok, s2, R.bind_ok]
    simp only [g1, g2, R.bind_ok, pr_add]
    rw [pr_mulL (by decide), R.bind_ok, pr_add, R.bind_ok, pr_add, R.bind_ok, pr_pow (by decide) (by decide) (by omega), R.bind_ok, pr_mod (by decide), R.bind_ok]
    have m1 := fmod_lo (i := (b + 7919 * (c + 1) + 1) ^ (5 : Int).toNat) (j := 2147483647) (by decide)
    generalize ((b + 7919 * (c + 1) + 1) ^ (5 : Int).toNat).fmod 2147483647 = x1 at m1 ⊢
    have d1 := fdiv_le (i := x1) (j := 1009) m1.1 (by decide)
    have d2 := fdiv_nn (i := x1) (j := 1009) m1.1 (by decide)
    rw [pr_fdiv (by decide) (by decide), R.bind_ok, pr_add, R.bind_ok, pr_add, R.bind_ok, pr_mulL (by omega), R.bind_ok, pr_mod (by decide), R.bind_ok]
    have m2 := fmod_lo (i := x1 * (x1.fdiv 1009 + 69621 + (c + 1))) (j := 2147483629) (by decide)
    generalize (x1 * (x1.fdiv 1009 + 69621 + (c + 1))).fmod 2147483629 = x2 at m2 ⊢
    rw [pr_fdiv (by decide) (by decide), R.bind_ok, pr_add, R.bind_ok, pr_mulL (by omega), R.bind_ok, pr_mod (by decide), R.bind_ok, pr_mod (by omega), R.bind_ok]
    have m3 := fmod_lo (i := (x2 * (x2.fdiv 2003 + 40692)).fmod 2147483399) hn
    exact ⟨_, rfl, _, rfl, m3.1, m3.2, a, b, c + 1, rfl, ha, hb, hb2, by omega, by push_cast; omega⟩
theorem oneA {k : Nat} {w : D} {ds : List D} (hw : WA k w) (hk : k ≤ 1000000) (h0 : ds ≠ []) (h1 : ds.length < 1000000) : (c_l_one w (.lst ds)).wp fun p => p.1 ∈ ds ∧ WA (k + 1) p.2 := by
  have hl : 0 < ds.length := List.length_pos_iff.mpr h0
  have e : pr (gLen [.lst ds]) = .ok (.int ds.length) := rfl
  unfold c_l_one
  simp only [e, R.bind_assoc, R.bind_ok]
  refine R.wp_bind (drawA hw hk (by omega) (by omega)) fun p ⟨r, e1, r0, r1, w1⟩ => ?_
  rw [e1]
  obtain ⟨d, e2, e3⟩ := item_lst r0 r1
  rw [e3, R.bind_ok]
  exact R.wp_ok ⟨List.mem_of_getElem? e2, w1⟩
theorem mapS_wpI {S T : Type} {u : D → Option T} {f : S → T → R (D × S)} (P : Nat → S → Prop) (Q : D → Prop) : ∀ (xs : List D) (n : Nat) (s : S), P n s → (∀ i x s, xs[i]? = some x → P (n + i) s → ∃ a, u x = some a ∧ (f s a).wp fun p => Q p.1 ∧ P (n + i + 1) p.2) → (mapS u f xs s).wp fun p => p.1.length = xs.length ∧ (∀ d ∈ p.1, Q d) ∧ P (n + xs.length) p.2
  | [], n, s, h, _ => R.wp_ok ⟨rfl, fun d hd => (by cases hd), h⟩
  | x :: xs, n, s, h, k => by
    obtain ⟨a, e, p, e1, q1, h1⟩ := k 0 x s rfl h
    obtain ⟨r, e2, h2, q2, h3⟩ := mapS_wpI P Q xs (n + 1) p.2 h1 fun i y s hy hp => by
      have z := k (i + 1) y s (by simpa using hy) (by rw [show n + (i + 1) = n + 1 + i by omega]; exact hp)
      rw [show n + (i + 1) + 1 = n + 1 + i + 1 by omega] at z
      exact z
    refine ⟨(p.1 :: r.1, r.2), ?_, by simp [h2], fun d hd => ?_, by rw [show n + (x :: xs).length = n + 1 + xs.length by simp; omega]; exact h3⟩
    · unfold mapS
      rw [e]
      simp only [e1, noE_ok, R.bind_ok, e2]
    · rcases List.mem_cons.mp hd with z | z
      · rw [z]; exact q1
      · exact q2 d z
end VP
namespace VP
open PySem PySem.Spec PyProof.Rows L2 VF
end VP
namespace VP
open PySem PySem.Spec PyProof.Rows L2 VF
end VP
namespace VP
open PySem PySem.Spec PyProof.Rows L2 VF
def hls (h : N → Int) (ns : List N) : List Int := (isort (ddup (ns.map h))).reverse
def trs (h : N → Int) (ns : List N) : List (List N) := (hls h ns).map fun s => ns.filter fun a => decide (h a = s)
end VP
namespace VP
open PySem PySem.Spec PyProof.Rows L2 VF
def hz : Bal → N → Int
  | .order ts, a => ((ts.zipIdx.filter fun p => decide (a ∈ p.1)).map fun p => (99 : Int) - (p.2 : Nat)).sum
  | b, a => ht b a
end VP
namespace VP
open PySem PySem.Spec PyProof.Rows L2 VF
def gcp (t3 : D × D) : R (D × D) := (R.ok t3.2).bind fun v_4 => (pr (fMod [t3.1, t3.2])).bind fun v_5 => .ok (v_4, v_5)
theorem fmod_nat (a b : Nat) : ((a : Int)).fmod (b : Int) = ((a % b : Nat) : Int) := by
  rw [Int.fmod_eq_emod_of_nonneg _ (by omega)]
  first | exact (Int.natCast_emod a b).symm | exact (Int.ofNat_emod a b).symm | (push_cast; rfl)
theorem gcd_run {p : D × D → R Bool} (hp : ∀ (x : D) (b : Nat), p (x, .int b) = .ok (decide (b ≠ 0))) : ∀ (k a b n : Nat), b < 2 ^ k → 2 * k + 1 ≤ n → whN p gcp n (.int a, .int b) = .ok (.int (Nat.gcd a b : Nat), .int (0 : Nat))
  | k, a, b, 0, _, h => by omega
  | k, a, 0, n + 1, _, _ => by
    unfold whN
    rw [hp, R.bind_ok, decide_eq_false (by simp), if_neg (by decide), Nat.gcd_zero_right]
  | 0, a, b + 1, n + 1, h, _ => by simp at h
  | k + 1, a, b + 1, n + 1, h, hn => by
    unfold whN
    rw [hp, R.bind_ok, decide_eq_true (by omega), if_pos rfl]
    unfold gcp
    rw [R.bind_ok, pr_mod (by omega), R.bind_ok, R.bind_ok, fmod_nat]
    show whN p gcp n (.int ((b + 1 : Nat) : Int), .int ((a % (b + 1) : Nat) : Int)) = _
    rw [show Nat.gcd a (b + 1) = Nat.gcd (b + 1) (a % (b + 1)) by rw [Nat.gcd_comm a, Nat.gcd_rec (b + 1) a, Nat.gcd_comm]]
    have hr : a % (b + 1) < b + 1 := Nat.mod_lt _ (by omega)
    generalize a % (b + 1) = r at hr ⊢
    cases n with
    | zero => omega
    | succ n =>
      cases r with
      | zero =>
        unfold whN
        rw [hp, R.bind_ok, decide_eq_false (by simp), if_neg (by decide), Nat.gcd_zero_right]
      | succ r =>
        unfold whN
        rw [hp, R.bind_ok, decide_eq_true (by omega), if_pos rfl]
        unfold gcp
        rw [R.bind_ok, pr_mod (by omega), R.bind_ok, R.bind_ok, fmod_nat]
        show whN p gcp n (.int ((r + 1 : Nat) : Int), .int (((b + 1) % (r + 1) : Nat) : Int)) = _
        rw [show Nat.gcd (b + 1) (r + 1) = Nat.gcd (r + 1) ((b + 1) % (r + 1)) by rw [Nat.gcd_comm (b + 1), Nat.gcd_rec (r + 1) (b + 1), Nat.gcd_comm]]
        refine gcd_run hp k (r + 1) ((b + 1) % (r + 1)) n ?_ (by omega)
        have h1 : (b + 1) % (r + 1) < r + 1 := Nat.mod_lt _ (by omega)
        have h2 : (b + 1) % (r + 1) ≤ b + 1 - (r + 1) := by
          rw [Nat.mod_eq_sub_mod (by omega)]
          exact Nat.mod_le _ _
        rw [Nat.pow_succ] at h
        omega
def low (a b : Int) : Int × Int := (a / (Int.gcd a b : Int), b / (Int.gcd a b : Int))
theorem gcd_pos {a b : Int} (hb : 0 < b) : 0 < (Int.gcd a b : Int) := by
  have : 0 < Int.gcd a b := Nat.pos_of_ne_zero fun z => by rw [Int.gcd_eq_zero_iff] at z; omega
  omega
theorem low_scale {g a b : Int} (hg : 0 < g) (hb : 0 < b) : low (g * a) (g * b) = low a b := by
  unfold low
  have e : (Int.gcd (g * a) (g * b) : Int) = g * (Int.gcd a b : Int) := by
    rw [Int.gcd_mul_left]
    push_cast
    rw [Int.natAbs_of_nonneg (by omega)]
  rw [e, Int.mul_ediv_mul_of_pos _ _ hg, Int.mul_ediv_mul_of_pos _ _ hg]
theorem low_pos {a b : Int} (hb : 0 < b) : 0 < (low a b).2 ∧ (low a b).2 ≤ b ∧ (low a b).1.natAbs ≤ a.natAbs := by
  have hg := gcd_pos (a := a) hb
  have hd : (Int.gcd a b : Int) ∣ b := Int.gcd_dvd_right ..
  refine ⟨Int.ediv_pos_of_pos_of_dvd hb (by omega) hd, Int.ediv_le_self _ (by omega), ?_⟩
  show (a / (Int.gcd a b : Int)).natAbs ≤ a.natAbs
  exact Int.natAbs_ediv_le_natAbs a _
theorem low_eq {a b : Int} : (low a b).1 * (Int.gcd a b : Int) = a ∧ (low a b).2 * (Int.gcd a b : Int) = b := ⟨Int.ediv_mul_cancel (Int.gcd_dvd_left ..), Int.ediv_mul_cancel (Int.gcd_dvd_right ..)⟩
theorem abs_ok {a : Int} : pr (fAbs [.int a]) = .ok (.int (a.natAbs : Nat)) := by
  show R.ok (D.int (if a < 0 then -a else a)) = _
  congr 2
  split <;> omega
theorem pow64 : ((2 : Nat) ^ 64) = 18446744073709551616 := by decide
def dSh (p : Int × Int) : D := .ins "Share" ["num", "over"] [.int p.1, .int p.2]
def stpS (p : Int × Int) (top len : Int) : Int × Int := low (p.1 * len + top * p.2) (p.2 * len)
end VP
namespace VP
open PySem PySem.Spec PyProof.Rows L2 VF
def wsum (ws : List Int) (at_ l : Nat) : Int := ((ws.drop at_).take l).sum
def tStep (ws : List Int) (many : Int) (b : N) (p : (Int × Int) × Nat) (t : List N) : (Int × Int) × Nat := (if b ∈ t then stpS p.1 (many * wsum ws p.2 t.length) t.length else p.1, p.2 + t.length)
def rowS (ns : List N) (ws : List Int) (b : N) (acc : Int × Int) (r : Bal × Int) : Int × Int := ((trs (ht r.1) ns).foldl (tStep ws r.2 b) (acc, 0)).1
def total (ns : List N) (ws : List Int) (rs : List (Bal × Int)) (b : N) : Int × Int := rs.foldl (rowS ns ws b) (0, 1)
def Bd (_ : Nat) (p : Int × Int) : Prop := 0 < p.2 ∧ p.2 ∣ 60
theorem Bd.up {k : Nat} {p : Int × Int} (h : Bd k p) : Bd (k + 1) p := h
theorem Bd.small {k : Nat} {p : Int × Int} (h : Bd k p) (hk : k ≤ 99) : p.2.natAbs < 2 ^ 40 := by
  have h1 := Int.le_of_dvd (by decide) h.2
  have := h.1
  have p40 : (2 : Nat) ^ 40 = 1099511627776 := by decide
  omega
end VP
namespace VP
open PySem PySem.Spec PyProof.Rows L2 VF
section
variable {ns : List N} {ws : List Int}
end
end VP
namespace VP
open PySem PySem.Spec PyProof.Rows L2 VF
theorem pr_fdivB {i j : Int} (h : j ≠ 0) (h2 : j.natAbs.log2 < 9000) : pr (fFdiv [.int i, .int j]) = .ok (.int (i.fdiv j)) := by
  show pr (if j ≠ 0 ∧ j.natAbs.log2 < 9000 then some (.val (.int (i.fdiv j))) else none) = _
  rw [if_pos ⟨h, h2⟩]; rfl
theorem drawB {k : Nat} {w : D} {n : Int} (hw : WA k w) (hk : k ≤ 1000000) (hn : 0 < n) (hs : n.natAbs.log2 < 9000) : (c_l_draw w (.int n)).wp fun p => ∃ r : Int, p.1 = .int r ∧ 0 ≤ r ∧ r < n ∧ WA (k + 1) p.2 := by
  obtain ⟨a, b, c, rfl, ha, hb, hb2, hc, hck⟩ := hw
  have g0 : ∀ x y z : D, pr (gItem [.lst [x, y, z], .int 0]) = .ok x := fun _ _ _ => rfl
  have g1 : ∀ x y z : D, pr (gItem [.lst [x, y, z], .int 1]) = .ok y := fun _ _ _ => rfl
  have g2 : ∀ x y z : D, pr (gItem [.lst [x, y, z], .int 2]) = .ok z := fun _ _ _ => rfl
  have s0 : ∀ v x y z : D, ofO (stG v (.int 0) (.lst [x, y, z])) = .ok ((), .lst [v, y, z]) := fun _ _ _ _ => rfl
  have s2 : ∀ v x y z : D, ofO (stG v (.int 2) (.lst [x, y, z])) = .ok ((), .lst [x, y, v]) := fun _ _ _ _ => rfl
  unfold c_l_draw
  rw [g0, R.bind_ok, pr_gt, R.bind_ok, asB_bl, R.bind_ok]
  by_cases h : 0 < a
  · rw [if_pos (by simpa using h), R.bind_ok, pr_mod (by omega), R.bind_ok, R.bind_ok, pr_fdivB (by omega) hs, R.bind_ok, R.bind_ok, s0, R.bind_ok]
    have := fmod_lo (i := a) hn
    exact ⟨_, rfl, _, rfl, this.1, this.2, _, b, c, rfl, fdiv_nn (by omega) hn, hb, hb2, hc, by push_cast; omega⟩
  · rw [if_neg (by simpa using h), g2, R.bind_ok, pr_add, R.bind_ok, R.bind_ok, s2, R.bind_ok]
    simp only [g1, g2, R.bind_ok, pr_add]
    rw [pr_mulL (by decide), R.bind_ok, pr_add, R.bind_ok, pr_add, R.bind_ok, pr_pow (by decide) (by decide) (by omega), R.bind_ok, pr_mod (by decide), R.bind_ok]
    have m1 := fmod_lo (i := (b + 7919 * (c + 1) + 1) ^ (5 : Int).toNat) (j := 2147483647) (by decide)
    generalize ((b + 7919 * (c + 1) + 1) ^ (5 : Int).toNat).fmod 2147483647 = x1 at m1 ⊢
    have d1 := fdiv_le (i := x1) (j := 1009) m1.1 (by decide)
    have d2 := fdiv_nn (i := x1) (j := 1009) m1.1 (by decide)
    rw [pr_fdiv (by decide) (by decide), R.bind_ok, pr_add, R.bind_ok, pr_add, R.bind_ok, pr_mulL (by omega), R.bind_ok, pr_mod (by decide), R.bind_ok]
    have m2 := fmod_lo (i := x1 * (x1.fdiv 1009 + 69621 + (c + 1))) (j := 2147483629) (by decide)
    generalize (x1 * (x1.fdiv 1009 + 69621 + (c + 1))).fmod 2147483629 = x2 at m2 ⊢
    rw [pr_fdiv (by decide) (by decide), R.bind_ok, pr_add, R.bind_ok, pr_mulL (by omega), R.bind_ok, pr_mod (by decide), R.bind_ok, pr_mod (by omega), R.bind_ok]
    have m3 := fmod_lo (i := (x2 * (x2.fdiv 2003 + 40692)).fmod 2147483399) hn
    exact ⟨_, rfl, _, rfl, m3.1, m3.2, a, b, c + 1, rfl, ha, hb, hb2, by omega, by push_cast; omega⟩
theorem item2 {x y : D} {b : Bool} : pr (gItem [D.lst [x, y], .int (if b = true then 1 else 0)]) = .ok (if b = true then y else x) := by cases b <;> rfl
section
variable {ns : List N}
end
end VP
namespace VP
open PySem PySem.Spec PyProof.Rows L2 VF
theorem log2_lt9 {n k : Nat} (h : n < 2 ^ k) (hk : k ≤ 8000) : n.log2 < 9000 := by
  by_cases hn : n = 0
  · subst hn; rw [Nat.log2_zero]; omega
  · have := (Nat.log2_lt hn).mpr h
    omega
theorem pr_mulB {i j : Int} {k m : Nat} (hi : i.natAbs < 2 ^ k) (hj : j.natAbs < 2 ^ m) (hk : k ≤ 8000) (hm : m ≤ 8000) : pr (fMul [.int i, .int j]) = .ok (.int (i * j)) := by
  have h1 := log2_lt9 hi hk
  have h2 := log2_lt9 hj hm
  rw [fMul_int, if_pos (.inl (by omega))]; rfl
theorem whN_gcdB {p : D × D → R Bool} (hp : ∀ (x : D) (b : Nat), p (x, .int b) = .ok (decide (b ≠ 0))) {a b k : Nat} (hb : b < 2 ^ k) (hk : k ≤ 8000) : whN p gcp (2 ^ 64) (.int a, .int b) = .ok (.int (Nat.gcd a b : Nat), .int (0 : Nat)) :=
  gcd_run hp k a b _ hb (by rw [pow64]; omega)
theorem common_okB {a b : Int} {k : Nat} (h : b.natAbs < 2 ^ k) (hk : k ≤ 8000) : c_common_part (.int a) (.int b) = .ok (.int (Int.gcd a b : Nat)) := by
  unfold c_common_part
  rw [abs_ok, R.bind_ok, abs_ok, R.bind_ok]
  have z := whN_gcdB (a := a.natAbs) (p := fun t3 : D × D => (pr (fNe [t3.2, D.int 0])).bind asB) (fun x b => by
    show (pr (fNe [D.int b, D.int 0])).bind asB = _
    rw [show pr (fNe [D.int b, D.int 0]) = .ok (.bl (!decide ((b : Int) = 0))) from rfl, R.bind_ok, asB_bl]
    congr 1
    by_cases hb : b = 0
    · subst hb; rfl
    · rw [decide_eq_true hb, decide_eq_false (by omega)]; rfl) h hk
  unfold gcp at z
  rw [z, R.bind_ok]
  rfl
def sgg (a b : Int) : Int := if b < 0 then 0 - (Int.gcd a b : Int) else (Int.gcd a b : Int)
def lowS (a b : Int) : Int × Int := (a.fdiv (sgg a b), b.fdiv (sgg a b))
theorem sgg_ne {a b : Int} (hb : b ≠ 0) : sgg a b ≠ 0 := by
  have : 0 < Int.gcd a b := Nat.pos_of_ne_zero fun z => by rw [Int.gcd_eq_zero_iff] at z; omega
  unfold sgg
  split <;> omega
theorem sgg_lt {a b : Int} {k : Nat} (hb : b ≠ 0) (h : b.natAbs < 2 ^ k) : (sgg a b).natAbs < 2 ^ k := by
  have : Int.gcd a b ≤ b.natAbs := Nat.le_of_dvd (by omega) (Nat.gcd_dvd_right ..)
  unfold sgg
  split <;> omega
theorem sgg_run {g : Int} {b : Int} : ((((pr (fLt [D.int b, D.int 0])).bind asB).bind fun b3 => if b3 = true then ((pr (fSub [D.int 0, D.int g])).bind fun v_5 => .ok v_5) else (.ok (D.int g))) : R D) = .ok (.int (if b < 0 then 0 - g else g)) := by
  rw [pr_lt, R.bind_ok, asB_bl, R.bind_ok]
  by_cases hb : b < 0
  · rw [decide_eq_true hb, if_pos rfl, if_pos hb, pr_sub, R.bind_ok]
  · rw [decide_eq_false hb, if_neg (by decide), if_neg hb]
theorem fdiv_s {a b x : Int} {k : Nat} (hb : b ≠ 0) (h : b.natAbs < 2 ^ k) (hk : k ≤ 8000) : pr (fFdiv [.int x, .int (sgg a b)]) = .ok (.int (x.fdiv (sgg a b))) :=
  pr_fdivB (sgg_ne hb) (log2_lt9 (sgg_lt hb h) hk)
theorem share_okB {a b : Int} {k : Nat} (hb : b ≠ 0) (h : b.natAbs < 2 ^ k) (hk : k ≤ 8000) : c_Share_init (D.ins "Share" [] []) (.int a) (.int b) = .ok (dSh (lowS a b)) := by
  unfold c_Share_init
  rw [show pr (fEq [D.int b, D.int 0]) = .ok (.bl (decide (b = 0))) from rfl, R.bind_ok, asB_bl, R.bind_ok, decide_eq_false hb, if_neg (by decide : ¬(false = true)), common_okB h hk, R.bind_ok, sgg_run, R.bind_ok]
  show ((pr (fFdiv [D.int a, D.int (sgg a b)])).bind fun d7 => (ofO (stF "num" d7 (D.ins "Share" [] []))).bind fun q6 => (pr (fFdiv [D.int b, D.int (sgg a b)])).bind fun d9 => (ofO (stF "over" d9 q6.2)).bind fun q8 => R.ok q8.2) = _
  rw [fdiv_s hb h hk, R.bind_ok, fdiv_s hb h hk]
  rfl
theorem mk_shareB {a b : Int} {k : Nat} {ca cb : R D} (ea : ca = .ok (.int a)) (eb : cb = .ok (.int b)) (hb : b ≠ 0) (h : b.natAbs < 2 ^ k) (hk : k ≤ 8000) : mkR (ap2 fun a0 a1 => c_Share_init (D.ins "Share" [] []) a0 a1) [ca, cb] = .ok (dSh (lowS a b)) := by
  subst ea eb
  show ((R.ok [D.int a, D.int b]).bind fun ds => (noE (ap2 (fun a0 a1 => c_Share_init (D.ins "Share" [] []) a0 a1) ds)).bind fun d => cnR d d) = _
  rw [R.bind_ok]
  show ((noE (c_Share_init (D.ins "Share" [] []) (.int a) (.int b))).bind fun d => cnR d d) = _
  rw [share_okB hb h hk]
  rfl
def dPr (p : Int × Int) : D := .tup [.int p.1, .int p.2]
theorem lowest_okB {a b : Int} {k : Nat} (hb : b ≠ 0) (h : b.natAbs < 2 ^ k) (hk : k ≤ 8000) : c_l_lowest (.int a) (.int b) = .ok (dPr (lowS a b)) := by
  unfold c_l_lowest
  rw [abs_ok, R.bind_ok, abs_ok, R.bind_ok]
  have z := whN_gcdB (a := a.natAbs) (p := fun t3 : D × D => (pr (fGt [t3.2, D.int 0])).bind asB) (fun x b => by
    show (pr (fGt [D.int b, D.int 0])).bind asB = _
    rw [pr_gt, R.bind_ok, asB_bl]
    congr 1
    by_cases hb : b = 0
    · subst hb; rfl
    · rw [decide_eq_true hb, decide_eq_true (by omega)]) h hk
  unfold gcp at z
  rw [z, R.bind_ok, sgg_run, R.bind_ok]
  show tupR [pr (fFdiv [D.int a, D.int (sgg a b)]), pr (fFdiv [D.int b, D.int (sgg a b)])] = _
  rw [fdiv_s hb h hk, fdiv_s hb h hk]
  rfl
theorem mul_lt {i j : Int} {k m : Nat} (hi : i.natAbs < 2 ^ k) (hj : j.natAbs < 2 ^ m) : (i * j).natAbs < 2 ^ (k + m) := by
  rw [Int.natAbs_mul, Nat.pow_add]
  exact Nat.mul_lt_mul'' hi hj
theorem f_num {p : Int × Int} : pr ((fFld "num") [dSh p]) = .ok (.int p.1) := rfl
theorem f_over {p : Int × Int} : pr ((fFld "over") [dSh p]) = .ok (.int p.2) := rfl
section
variable {p q : Int × Int} {k m : Nat}
theorem plus_okB (hp1 : p.1.natAbs < 2 ^ k) (hp2 : p.2.natAbs < 2 ^ k) (hq1 : q.1.natAbs < 2 ^ m) (hq2 : q.2.natAbs < 2 ^ m) (hk : k + m ≤ 8000) (h0 : p.2 * q.2 ≠ 0) : c_Share_plus (dSh p) (dSh q) = .ok (dSh (lowS (p.1 * q.2 + q.1 * p.2) (p.2 * q.2))) := by
  unfold c_Share_plus
  refine mk_shareB ?_ ?_ h0 (mul_lt hp2 hq2) hk
  · simp only [f_num, f_over, R.bind_ok, pr_mulB hp1 hq2 (by omega) (by omega), pr_mulB hq1 hp2 (by omega) (by omega), pr_add]
  · simp only [f_num, f_over, R.bind_ok, pr_mulB hp2 hq2 (by omega) (by omega)]
end
end VP
namespace VP
open PySem PySem.Spec PyProof.Rows L2 VF
theorem lowS_pos {a b : Int} (hb : 0 < b) : lowS a b = low a b := by
  have hg := gcd_pos (a := a) hb
  unfold lowS sgg low
  rw [if_neg (by omega), Int.fdiv_eq_ediv_of_nonneg _ (by omega), Int.fdiv_eq_ediv_of_nonneg _ (by omega)]
def stU (p x : Int × Int) : Int × Int := (p.1 * x.2 + x.1 * p.2, p.2 * x.2)
theorem stU_comm (p x y : Int × Int) : stU (stU p x) y = stU (stU p y) x := by
  unfold stU
  refine Prod.ext ?_ ?_
  · show (p.1 * x.2 + x.1 * p.2) * y.2 + y.1 * (p.2 * x.2) = (p.1 * y.2 + y.1 * p.2) * x.2 + x.1 * (p.2 * y.2)
    simp only [Int.add_mul, Int.mul_add, Int.mul_assoc, Int.mul_comm, Int.mul_left_comm, Int.add_comm, Int.add_left_comm]
  · show p.2 * x.2 * y.2 = p.2 * y.2 * x.2
    simp only [Int.mul_assoc, Int.mul_comm, Int.mul_left_comm]
theorem foldl_swap {α β : Type} {f : β → α → β} (hf : ∀ p x y, f (f p x) y = f (f p y) x) : ∀ (xs : List α) (p : β) (x : α), xs.foldl f (f p x) = f (xs.foldl f p) x
  | [], _, _ => rfl
  | y :: ys, p, x => by
    rw [List.foldl_cons, hf, foldl_swap hf ys (f p y) x, List.foldl_cons]
theorem foldl_rev {α β : Type} {f : β → α → β} (hf : ∀ p x y, f (f p x) y = f (f p y) x) : ∀ (xs : List α) (p : β), xs.reverse.foldl f p = xs.foldl f p
  | [], _ => rfl
  | x :: xs, p => by
    rw [List.reverse_cons, List.foldl_append, foldl_rev hf xs p, List.foldl_cons, List.foldl_cons, List.foldl_nil, foldl_swap hf]
theorem stU_low {P x : Int × Int} (hP : 0 < P.2) (hx : 0 < x.2) : low (stU (low P.1 P.2) x).1 (stU (low P.1 P.2) x).2 = low (stU P x).1 (stU P x).2 := by
  obtain ⟨e1, e2⟩ := low_eq (a := P.1) (b := P.2)
  have hg := gcd_pos (a := P.1) hP
  have hl := (low_pos (a := P.1) hP).1
  generalize (Int.gcd P.1 P.2 : Int) = g at e1 e2 hg
  generalize low P.1 P.2 = q at e1 e2 hl ⊢
  unfold stU
  rw [← e1, ← e2]
  dsimp only
  rw [← low_scale (g := g) (b := q.2 * x.2) hg (Int.mul_pos hl hx)]
  congr 1
  · simp only [Int.mul_add, Int.mul_assoc, Int.mul_comm, Int.mul_left_comm]
  · simp only [Int.mul_assoc, Int.mul_comm, Int.mul_left_comm]
def sumL (xs : List (Int × Int)) : Int × Int := xs.foldl (fun p x => lowS (stU p x).1 (stU p x).2) (0, 1)
theorem stU_pos {p x : Int × Int} (h : 0 < p.2) (hx : 0 < x.2) : 0 < (stU p x).2 := Int.mul_pos h hx
theorem sum_low : ∀ (xs : List (Int × Int)), (∀ x ∈ xs, 0 < x.2) → ∀ (P : Int × Int), 0 < P.2 → xs.foldl (fun p x => lowS (stU p x).1 (stU p x).2) (low P.1 P.2) = low (xs.foldl stU P).1 (xs.foldl stU P).2
  | [], _, P, _ => rfl
  | x :: xs, h, P, hP => by
    have hx := h x List.mem_cons_self
    rw [List.foldl_cons, List.foldl_cons, lowS_pos (stU_pos (low_pos hP).1 hx), stU_low hP hx]
    exact sum_low xs (fun y hy => h y (List.mem_cons_of_mem _ hy)) _ (stU_pos hP hx)
theorem sum_rev {xs : List (Int × Int)} (h : ∀ x ∈ xs, 0 < x.2) : sumL xs.reverse = sumL xs := by
  have z := sum_low xs h (0, 1) (by decide)
  have z' := sum_low xs.reverse (fun x hx => h x (List.mem_reverse.mp hx)) (0, 1) (by decide)
  rw [foldl_rev stU_comm] at z'
  have e : low (0, 1).1 (0, 1).2 = ((0, 1) : Int × Int) := by decide
  rw [e] at z z'
  unfold sumL
  rw [z, z']
end VP
namespace VP
open PySem PySem.Spec PyProof.Rows L2 VF
structure PrOk (x : Int × Int) : Prop where
  pos : 0 < x.2
  b1 : x.1.natAbs < 2 ^ 133
  b2 : x.2.natAbs < 2 ^ 133
  lw : lowS x.1 x.2 = x
theorem p133 (n : Nat) : (2 : Nat) ^ (134 * (n + 2)) = 2 ^ (134 * (n + 1) + 133) + 2 ^ (134 * (n + 1) + 133) := by
  rw [show 134 * (n + 2) = (134 * (n + 1) + 133) + 1 by omega, Nat.pow_succ]; omega
def SumI (n : Nat) (p : Int × Int) : Prop := 0 < p.2 ∧ p.1.natAbs < 2 ^ (134 * (n + 1)) ∧ p.2.natAbs < 2 ^ (134 * (n + 1))
theorem sum_step {n : Nat} {p x : Int × Int} (hp : SumI n p) (hx : PrOk x) : SumI (n + 1) (lowS (stU p x).1 (stU p x).2) := by
  obtain ⟨h0, h1, h2⟩ := hp
  have hs := stU_pos h0 hx.pos
  rw [lowS_pos hs]
  obtain ⟨l1, l2, l3⟩ := low_pos (a := (stU p x).1) hs
  have m1 := mul_lt h1 hx.b2
  have m2 := mul_lt h2 hx.b1
  have m3 := mul_lt h2 hx.b2
  have e := p133 n
  have e1 : (stU p x).1 = p.1 * x.2 + p.2 * x.1 := by unfold stU; rw [Int.mul_comm x.1 p.2]
  have e2 : (stU p x).2 = p.2 * x.2 := rfl
  refine ⟨l1, ?_, ?_⟩
  · show _ < 2 ^ (134 * (n + 2))
    rw [e]
    generalize (2 : Nat) ^ (134 * (n + 1) + 133) = B at *
    omega
  · show _ < 2 ^ (134 * (n + 2))
    rw [e]
    generalize (2 : Nat) ^ (134 * (n + 1) + 133) = B at *
    omega
theorem sum_run {xs : List (Int × Int)} (h : ∀ x ∈ xs, PrOk x) (hl : xs.length ≤ 20) {u : D → Option D} {f : D → D → R D} (hu : ∀ a, u (dSh a) = some (dSh a)) (hf : ∀ p x : Int × Int, f (dSh p) (dSh x) = meC "Share" "plus" (dSh p) (c_Share_plus (dSh p) (dSh x))) : forN u f (xs.map dSh) (dSh (0, 1)) = .ok (dSh (sumL xs)) := by
  refine forN_eqI (e := dSh) (e' := dSh) (c := dSh) (g := fun p x => lowS (stU p x).1 (stU p x).2) (K := 20) hu SumI xs 0 (0, 1) (by omega) ⟨by decide, by decide, by decide⟩ fun x hx n p hn hp => ?_
  have hx' := h x hx
  refine ⟨?_, sum_step hp hx'⟩
  rw [hf]
  have hz : p.2 * x.2 ≠ 0 := by have := Int.mul_pos hp.1 hx'.pos; omega
  show c_Share_plus (dSh p) (dSh x) = _
  exact plus_okB hp.2.1 hp.2.2 hx'.b1 hx'.b2 (by omega) hz
theorem shares_sum_ok {xs : List (Int × Int)} (h : ∀ x ∈ xs, PrOk x) (hl : xs.length ≤ 20) : c_shares_sum (.lst (xs.map dSh)) = .ok (dSh (sumL xs)) := by
  unfold c_shares_sum
  have e0 : mkR (ap1 fun a0 => c_Share_init (D.ins "Share" [] []) a0 (D.int 1)) [.ok (D.int 0)] = .ok (dSh (0, 1)) := by
    show ((R.ok [D.int 0]).bind fun ds => (noE (c_Share_init (D.ins "Share" [] []) (.int 0) (.int 1))).bind fun d => cnR d d) = _
    rw [R.bind_ok, share_okB (k := 1) (by decide) (by decide) (by decide)]
    rfl
  rw [e0, R.bind_ok]
  show ((R.ok (xs.map dSh)).bind fun i5 => forN some (fun (t2 : D) (x3 : D) => (meC "Share" "plus" t2 (c_Share_plus t2 x3)).bind fun v_4 => .ok v_4) i5 (dSh (0, 1))).bind (fun t6 => .ok t6) = _
  rw [R.bind_ok, sum_run h hl (fun _ => rfl) (fun p x => by
    show (c_Share_plus (dSh p) (dSh x)).bind (fun d => .ok d) = c_Share_plus (dSh p) (dSh x)
    cases c_Share_plus (dSh p) (dSh x) <;> rfl)]
  rfl
theorem total_ok {xs : List (Int × Int)} (h : ∀ x ∈ xs, PrOk x) (hl : xs.length ≤ 20) {f : D → D × D → R D} (hf : ∀ p x : Int × Int, f (dPr p) (.int x.1, .int x.2) = ((((pr (gItem [dPr p, D.int 0])).bind fun a43 => pr (fMul [a43, .int x.2])).bind fun a45 => ((pr (gItem [dPr p, D.int 1])).bind fun a44 => pr (fMul [.int x.1, a44])).bind fun a46 => pr (fAdd [a45, a46])).bind fun a48 => ((pr (gItem [dPr p, D.int 1])).bind fun a47 => pr (fMul [a47, .int x.2])).bind fun a49 => c_l_lowest a48 a49).bind fun v_50 => .ok v_50) : forN (un2 some some) f (xs.map dPr) (dPr (0, 1)) = .ok (dPr (sumL xs)) := by
  refine forN_eqI (e := dPr) (e' := fun x => (.int x.1, .int x.2)) (c := dPr) (g := fun p x => lowS (stU p x).1 (stU p x).2) (K := 20) (fun _ => rfl) SumI xs 0 (0, 1) (by omega) ⟨by decide, by decide, by decide⟩ fun x hx n p hn hp => ?_
  have hx' := h x hx
  refine ⟨?_, sum_step hp hx'⟩
  rw [hf]
  have hz : p.2 * x.2 ≠ 0 := by have := Int.mul_pos hp.1 hx'.pos; omega
  have g0 : pr (gItem [dPr p, D.int 0]) = .ok (.int p.1) := rfl
  have g1 : pr (gItem [dPr p, D.int 1]) = .ok (.int p.2) := rfl
  rw [g0, g1]
  simp only [R.bind_ok]
  rw [pr_mulB hp.2.1 hx'.b2 (by omega) (by omega), pr_mulB hx'.b1 hp.2.2 (by omega) (by omega), pr_mulB hp.2.2 hx'.b2 (by omega) (by omega)]
  simp only [R.bind_ok, pr_add]
  rw [lowest_okB hz (mul_lt hp.2.2 hx'.b2) (by omega)]
  rfl
theorem share_self {x : Int × Int} (h : PrOk x) : mkR (ap2 fun a0 a1 => c_Share_init (D.ins "Share" [] []) a0 a1) [.ok (.int x.1), .ok (.int x.2)] = .ok (dSh x) := by
  rw [mk_shareB (k := 133) rfl rfl (by have := h.pos; omega) h.b2 (by omega), h.lw]
theorem eqR_self {p : Int × Int} : eqR true "Share" c_Share_eq (dSh p) (dSh p) = .ok (.bl false) := by
  have e : c_Share_eq (dSh p) (dSh p) = .ok (.bl true) := by
    show pr (fEq [D.tup [.int p.1, .int p.2], D.tup [.int p.1, .int p.2]]) = _
    show pr (some (.val (.bl (((p.1 == p.1) && ((p.2 == p.2) && true)))))) = _
    simp [pr_some]
  show (if ("Share" : Str) = "Share" ∧ ("Share" : Str) = "Share" then (c_Share_eq (dSh p) (dSh p)).bind fun d => (asBL d).bind fun b => R.ok (D.bl (if true = true then !b else b)) else R.bad) = _
  rw [if_pos ⟨rfl, rfl⟩, e]
  rfl
end VP
namespace VP
open PySem PySem.Spec PyProof.Rows L2 VF
section
variable {ns : List N} {ws : List Int}
end
theorem cellT {ns : List Int} : ∃ c : Int, c_l_cell_at (.lst (ns.map .int)) (.int 0) = .ok (.int c) := by
  unfold c_l_cell_at
  cases ns with
  | nil => exact ⟨0, rfl⟩
  | cons a ns =>
    refine ⟨a, ?_⟩
    rw [show pr (gLen [D.lst ((a :: ns).map .int)]) = .ok (.int (((a :: ns).map D.int).length : Nat)) from rfl, R.bind_ok, pr_lt, R.bind_ok, asB_bl, R.bind_ok, if_pos (by simp)]
    exact item0_lst
end VP
namespace VP
open PySem PySem.Spec PyProof.Rows L2 VF
end VP
namespace VP
open PySem PySem.Spec PyProof.Rows L2 VF
def row (rs : List (Bal × Int)) (p : N × N) : D := .tup [dP p, .int (mg rs p)]
def its (ns : List N) (f : N → Int) : D := .lst (ns.map fun a => .tup [ds a, .int (f a)])
end VP
namespace VP
open PySem PySem.Spec PyProof.Rows L2 VF
end VP
namespace VP
open PySem PySem.Spec PyProof.Rows L2 VF
end VP
namespace VP
open PySem PySem.Spec PyProof.Rows L2 VF
def firstsOf (b : Bal) (l : List N) : List N := l.filter fun a => decide (ht b a = imax (l.map (ht b)))
def sole (l : List N) : Option N := match l with
  | [a] => some a
  | _ => none
def fmost (b : Bal) (l : List N) : Option N := sole (firstsOf b l)
def tal (rs : List (Bal × Int)) (l : List N) (a : N) : Int := ((rs.filter fun r => decide (fmost r.1 l = some a)).map (·.2)).sum
def lft (ns l : List N) : List N := ns.filter fun a => decide (a ∈ l)
def few (ks : List N) (f : N → Int) : List N := ks.filter fun a => decide (f a = imin (ks.map f))
theorem few_ne {ks : List N} {f : N → Int} (h : ks ≠ []) : few ks f ≠ [] := by
  have hm : ks.map f ≠ [] := by simpa using h
  obtain ⟨a, ha, e⟩ := List.mem_map.mp (imin_spec _ hm).1
  intro z
  have : a ∈ few ks f := List.mem_filter.mpr ⟨ha, by simpa using e⟩
  rw [z] at this
  cases this
theorem few_sub {ks : List N} {f : N → Int} {a : N} (h : a ∈ few ks f) : a ∈ ks := (List.mem_filter.mp h).1
def wo (l : List N) (g : N) : List N := l.filter fun a => !decide (a = g)
def ins (l : List N) (f : List (List N)) (g : N) : List (List N) := if wo l g ∈ f then f else f ++ [wo l g]
theorem mem_ins {l : List N} {x : List N} : ∀ {gs : List N} {f : List (List N)}, x ∈ gs.foldl (ins l) f ↔ x ∈ f ∨ ∃ g ∈ gs, x = wo l g
  | [], f => by simp
  | g :: gs, f => by
    rw [List.foldl_cons, mem_ins]
    have e : x ∈ ins l f g ↔ x ∈ f ∨ x = wo l g := by
      unfold ins
      split
      · rename_i h
        exact ⟨.inl, fun z => z.elim id fun q => by rw [q]; exact h⟩
      · simp
    rw [e]
    constructor
    · rintro ((q | q) | ⟨y, hy, q⟩)
      · exact .inl q
      · exact .inr ⟨g, List.mem_cons_self, q⟩
      · exact .inr ⟨y, List.mem_cons_of_mem _ hy, q⟩
    · rintro (q | ⟨y, hy, q⟩)
      · exact .inl (.inl q)
      · rcases List.mem_cons.mp hy with z | z
        · exact .inl (.inr (by rw [q, z]))
        · exact .inr ⟨y, z, q⟩
theorem ins_len {l : List N} : ∀ (gs : List N) (f : List (List N)), (gs.foldl (ins l) f).length ≤ f.length + gs.length
  | [], f => by simp
  | g :: gs, f => by
    have h1 := ins_len (l := l) gs (ins l f g)
    have h2 : (ins l f g).length ≤ f.length + 1 := by
      unfold ins
      split
      · omega
      · simp
    rw [List.foldl_cons, List.length_cons]
    omega
def gos (ns : List N) (rs : List (Bal × Int)) (l : List N) : List N := few (lft ns l) (tal rs l)
def lbN (ns : List N) (rs : List (Bal × Int)) (f : List (List N)) (l : List N) : List (List N) := (gos ns rs l).foldl (ins l) f
def lb (ns : List N) (rs : List (Bal × Int)) (ls : List (List N)) : List (List N) := ls.foldl (lbN ns rs) []
theorem mem_lbF {ns : List N} {rs : List (Bal × Int)} {x : List N} : ∀ {ls f : List (List N)}, x ∈ ls.foldl (lbN ns rs) f ↔ x ∈ f ∨ ∃ l ∈ ls, ∃ g ∈ gos ns rs l, x = wo l g
  | [], f => by simp
  | l :: ls, f => by
    rw [List.foldl_cons, mem_lbF]
    unfold lbN
    rw [mem_ins]
    constructor
    · rintro ((q | ⟨y, hy, q⟩) | ⟨m, hm, q⟩)
      · exact .inl q
      · exact .inr ⟨l, List.mem_cons_self, y, hy, q⟩
      · exact .inr ⟨m, List.mem_cons_of_mem _ hm, q⟩
    · rintro (q | ⟨m, hm, y, hy, q⟩)
      · exact .inl (.inl q)
      · rcases List.mem_cons.mp hm with z | z
        · subst z
          exact .inl (.inr ⟨y, hy, q⟩)
        · exact .inr ⟨m, z, y, hy, q⟩
theorem mem_lb {ns : List N} {rs : List (Bal × Int)} {x : List N} {ls : List (List N)} : x ∈ lb ns rs ls ↔ ∃ l ∈ ls, ∃ g ∈ gos ns rs l, x = wo l g := by
  unfold lb
  rw [mem_lbF]
  simp
theorem lft_sub {ns l : List N} (h : l.Sublist ns) (hn : ns.Nodup) : lft ns l = l := (sub_filter h hn).symm
theorem gos_len {ns l : List N} {rs : List (Bal × Int)} (hi : ns.length ≤ 6) : (gos ns rs l).length ≤ 6 :=
  Nat.le_trans (List.length_filter_le _ _) (Nat.le_trans (List.length_filter_le _ _) hi)
theorem lbF_len {ns : List N} {rs : List (Bal × Int)} (hi : ns.length ≤ 6) : ∀ (ls f : List (List N)), (ls.foldl (lbN ns rs) f).length ≤ f.length + 6 * ls.length
  | [], f => by simp
  | l :: ls, f => by
    have h1 := lbF_len (rs := rs) hi ls (lbN ns rs f l)
    have h2 : (lbN ns rs f l).length ≤ f.length + 6 := Nat.le_trans (ins_len _ _) (by have := gos_len (l := l) (rs := rs) hi; omega)
    rw [List.foldl_cons, List.length_cons]
    omega
structure Lts (ns : List N) (k : Nat) (ls : List (List N)) : Prop where
  ne : ls ≠ []
  len : ls.length ≤ 6 ^ k
  sub : ∀ l ∈ ls, l.Sublist ns ∧ l.length + k = ns.length
theorem wo_len {l : List N} {g : N} (hn : l.Nodup) (hg : g ∈ l) : (wo l g).length + 1 = l.length := by
  induction l with
  | nil => cases hg
  | cons x l ih =>
    obtain ⟨n1, n2⟩ := List.nodup_cons.mp hn
    unfold wo
    by_cases hx : x = g
    · subst hx
      rw [List.filter_cons_of_neg (by simp), List.length_cons, List.filter_eq_self.mpr fun a ha => by
        have : a ≠ x := fun z => n1 (by rw [← z]; exact ha)
        simp [this]]
    · have hg' : g ∈ l := by
        rcases List.mem_cons.mp hg with z | z
        · exact absurd z.symm hx
        · exact z
      rw [List.filter_cons_of_pos (by simp [hx]), List.length_cons, List.length_cons]
      have := ih n2 hg'
      unfold wo at this
      omega
theorem Lts.step {ns : List N} {rs : List (Bal × Int)} {k : Nat} {ls : List (List N)} (hn : Names ns) (h : Lts ns k ls) (hk : k + 1 < ns.length) : Lts ns (k + 1) (lb ns rs ls) := by
  have hne : ∀ l ∈ ls, gos ns rs l ≠ [] ∧ ∀ g ∈ gos ns rs l, g ∈ l := fun l hl => by
    obtain ⟨h1, h2⟩ := h.sub l hl
    unfold gos
    rw [lft_sub h1 hn.nd]
    have : l ≠ [] := fun z => by rw [z] at h2; simp at h2; omega
    exact ⟨few_ne this, fun g hg => few_sub hg⟩
  refine ⟨?_, ?_, fun x hx => ?_⟩
  · obtain ⟨l, hl⟩ := List.exists_mem_of_ne_nil _ h.ne
    obtain ⟨g, hg⟩ := List.exists_mem_of_ne_nil _ (hne l hl).1
    intro z
    have : wo l g ∈ lb ns rs ls := mem_lb.mpr ⟨l, hl, g, hg, rfl⟩
    rw [z] at this
    cases this
  · have h1 := lbF_len (rs := rs) hn.hi ls []
    have h2 := h.len
    rw [Nat.pow_succ]
    unfold lb
    simp at h1
    omega
  · obtain ⟨l, hl, g, hg, rfl⟩ := mem_lb.mp hx
    obtain ⟨h1, h2⟩ := h.sub l hl
    have h3 := wo_len (List.Sublist.nodup h1 hn.nd) ((hne l hl).2 g hg)
    exact ⟨List.Sublist.trans List.filter_sublist h1, by omega⟩
def rl (ns : List N) (rs : List (Bal × Int)) : Nat → List (List N)
  | 0 => [ns]
  | k + 1 => lb ns rs (rl ns rs k)
end VP
namespace VP
open PySem PySem.Spec PyProof.Rows L2 VF
def most (ns : List N) (f : N → Int) : List N := ns.filter fun a => decide (f a = imax (ns.map f))
theorem Names.ne {ns : List N} (hn : Names ns) : ns ≠ [] := fun z => by
  have := hn.lo
  rw [z] at this
  simp at this
end VP
namespace VP
open PySem PySem.Spec PyProof.Rows L2 VF
def q60 (l : Nat) : Int := (60 : Int).fdiv (l : Int)
theorem q60_ok {l : Nat} (h0 : 0 < l) (h1 : l ≤ 6) : q60 l * (l : Int) = 60 ∧ 0 ≤ q60 l ∧ q60 l ≤ 60 := by
  have : l = 1 ∨ l = 2 ∨ l = 3 ∨ l = 4 ∨ l = 5 ∨ l = 6 := by omega
  rcases this with h | h | h | h | h | h <;> subst h <;> decide
def Val (p : Int × Int) (z : Int) : Prop := 0 < p.2 ∧ p.1 * 60 = z * p.2
theorem Val.stp {p : Int × Int} {z top : Int} {l : Nat} (h : Val p z) (h0 : 0 < l) (h1 : l ≤ 6) : Val (stpS p top l) (z + q60 l * top) := by
  obtain ⟨v0, v1⟩ := h
  obtain ⟨q1, _, _⟩ := q60_ok h0 h1
  have hb : 0 < p.2 * (l : Int) := Int.mul_pos v0 (by omega)
  unfold stpS
  obtain ⟨g1, g2⟩ := low_eq (a := p.1 * (l : Int) + top * p.2) (b := p.2 * (l : Int))
  have hg := gcd_pos (a := p.1 * (l : Int) + top * p.2) hb
  have hp := (low_pos (a := p.1 * (l : Int) + top * p.2) hb).1
  generalize low (p.1 * (l : Int) + top * p.2) (p.2 * (l : Int)) = L at g1 g2 hp ⊢
  generalize ((Int.gcd (p.1 * (l : Int) + top * p.2) (p.2 * (l : Int)) : Nat) : Int) = g at g1 g2 hg
  refine ⟨hp, ?_⟩
  have e1 : (p.1 * (l : Int) + top * p.2) * 60 = (z + q60 l * top) * (p.2 * (l : Int)) := by
    have a1 : p.1 * (l : Int) * 60 = z * p.2 * (l : Int) := by
      rw [Int.mul_right_comm, v1]
    have a2 : top * p.2 * 60 = q60 l * top * (p.2 * (l : Int)) := by
      rw [← q1]
      simp only [Int.mul_assoc, Int.mul_comm, Int.mul_left_comm]
    rw [Int.add_mul, Int.add_mul, a1, a2]
    simp only [Int.mul_assoc, Int.mul_comm, Int.mul_left_comm]
  rw [← g1, ← g2] at e1
  have e2 : L.1 * 60 * g = (z + q60 l * top) * L.2 * g := by
    have : L.1 * g * 60 = L.1 * 60 * g := Int.mul_right_comm ..
    rw [← this, e1, Int.mul_assoc]
  exact Int.eq_of_mul_eq_mul_right (by omega) e2
structure LotIs (ns : List N) (rs : List (Bal × Int)) (rule : D) (l : List N) : Prop where
  chk : c_check_rule (dn ns) rule = .ok .non
  lot : c_lot (dPoll ns rs) rule = .ok (.lst (l.map ds))
  ne : l ≠ []
  sub : l.Sublist ns
end VP
namespace VP
open PySem PySem.Spec PyProof.Rows L2 VF
section
variable {ns : List N} {rs : List (Bal × Int)} {a : N}
end
end VP
namespace VP
open PySem PySem.Spec PyProof.Rows L2 VF
end VP
namespace VP
open PySem PySem.Spec PyProof.Rows L2 VF
section
variable {ns : List N}
variable {rs : List (Bal × Int)}
end
end VP
namespace VP
open PySem PySem.Spec PyProof.Rows L2 VF
def SA (n : Nat) (w : D) : Prop := ∃ a b c : Int, w = .lst [.int a, .int b, .int c] ∧ 0 ≤ c ∧ c ≤ n
theorem SA.mono {n m : Nat} {w : D} (h : SA n w) (l : n ≤ m) : SA m w := by
  obtain ⟨a, b, c, e, h1, h2⟩ := h
  exact ⟨a, b, c, e, h1, by omega⟩
end VP
namespace VP
open PySem PySem.Spec PyProof.Rows L2 VF
end VP
namespace VP
open PySem PySem.Spec PyProof.Rows L2 VF
def isStr : D → Bool
  | .str _ => true
  | _ => false
inductive Row : D → List D → Prop
  | tup (xs : List D) : Row (.tup xs) xs
  | lst (xs : List D) : Row (.lst xs) xs
def anyE (ys : List D) (x : D) : Bool := ys.any fun e => D.eq e x
def unl (ns : List N) (xs : List D) : Bool := xs.zipIdx.all fun p => anyE (ns.map ds) p.1 && !anyE (xs.take p.2) p.1
end VP
namespace VP
open PySem PySem.Spec PyProof.Rows L2 VF
end VP
namespace VP
open PySem PySem.Spec PyProof.Rows L2 VF
def kpt (r : Bal × Int) (m : Int) : List (Bal × Int) := if m < r.2 then [(r.1, r.2 - m)] else []
def mv (rs : List (Bal × Int)) (r : Bal × Int) (i : Nat) (b : Bal) (m : Int) : List (Bal × Int) := rs.take i ++ kpt r m ++ rs.drop (i + 1) ++ [(b, m)]
section
variable {ns : List N} {rs : List (Bal × Int)} {r : Bal × Int} {i : Nat} {m : Int}
open Classical in
end
end VP
namespace VP
open PySem PySem.Spec PyProof.Rows L2 VF
section
variable {ns : List N} {rs : List (Bal × Int)} {rule t : D} {os : List N} {E : List (Bal × Int) → N} {m : Int}
end
end VP
namespace VP
open PySem PySem.Spec PyProof.Rows L2 VF
end VP
namespace VP
open PySem PySem.Spec PyProof.Rows L2 VF
inductive Clm where
  | before (a b : N)
  | within (a b : N) (l : List N)
section
variable {ns l : List N} {rs : List (Bal × Int)} {a b : N}
end
end VP
namespace VP
open PySem PySem.Spec PyProof.Rows L2 VF
end VP
namespace VP
open PySem PySem.Spec PyProof.Rows L2 VF
section
variable {ns l : List N} {a b : N} {w : Str} {x y z : D} {r xs : List D}
end
end VP
namespace VP
open PySem PySem.Spec PyProof.Rows L2 VF
section
variable {ns l : List N} {a b f : N} {x y z : D} {r xs : List D}
end
end VP
namespace VP
open PySem PySem.Spec PyProof.Rows L2 VF
end VP
namespace VP
open PySem PySem.Spec PyProof.Rows L2 VF
section
variable {ns l : List N} {rs : List (Bal × Int)} {b : Bal} {a : N}
end
end VP
namespace VP
open PySem PySem.Spec PyProof.Rows L2 VF
section
variable {ns l : List N} {rs : List (Bal × Int)} {b : Bal} {a c : N}
end
end VP
namespace VP
open PySem PySem.Spec PyProof.Rows L2 VF
end VP
namespace VP
open PySem PySem.Spec PyProof.Rows L2 VF
section
variable {ns l : List N} {rs : List (Bal × Int)} {cs : List Clm}
end
end VP
namespace VP
open PySem PySem.Spec PyProof.Rows L2 VF
end VP
namespace VP
open PySem PySem.Spec PyProof.Rows L2 VF
section
variable {ns l l' o p : List N} {rs : List (Bal × Int)} {a b c : N}
theorem sub_full {d : List N} (hl : l.Nodup) (hd : d.Nodup) (h : ∀ x ∈ l, x ∈ d) (hn : d.length ≤ l.length) : ∀ x ∈ d, x ∈ l := fun x hx => Classical.byContradiction fun z => by
  have := nodup_len (ns := d) (ks := x :: l) (List.nodup_cons.mpr ⟨z, hl⟩) fun y hy => by
    rcases List.mem_cons.mp hy with rfl | hy
    · exact hx
    · exact h y hy
  rw [List.length_cons] at this
  omega
theorem Ord.all (hn : Names ns) (h : Ord ns o) : ∀ x ∈ ns, x ∈ o := sub_full h.nd hn.nd h.sub (by rw [h.len]; exact Nat.le_refl _)
end
end VP
namespace VP
open PySem PySem.Spec PyProof.Rows L2 VF
end VP
namespace VP
open PySem PySem.Spec PyProof.Rows L2 VF
section
variable {ns l o : List N} {rs : List (Bal × Int)} {a b e : N}
end
end VP
namespace VP
open PySem PySem.Spec PyProof.Rows L2 VF
section
variable {ns l o p : List N} {rs : List (Bal × Int)} {a b e : N}
end
end VP
namespace VP
open PySem PySem.Spec PyProof.Rows L2 VF
section
variable {ns : List N} {rs : List (Bal × Int)} {e : N}
end
end VP
namespace VP
open PySem PySem.Spec PyProof.Rows L2 VF
section
variable {ns l : List N} {rs rs' : List (Bal × Int)} {a b e : N}
end
end VP
namespace VP
open PySem PySem.Spec PyProof.Rows L2 VF
end VP
namespace VP
open PySem PySem.Spec PyProof.Rows L2 VF
end VP
namespace VP
open PySem PySem.Spec PyProof.Rows L2 VF
section
variable {ns l : List N} {rs : List (Bal × Int)} {a : N}
end
end VP
namespace VP
open PySem PySem.Spec PyProof.Rows L2 VF
theorem ne_reflK {d : D} (h : pl 60 d = true) : pr (fNe [d, d]) = .ok (.bl false) := by
  show pr (if pl 60 d = true ∧ pl 60 d = true then some (.val (.bl (!D.eq d d))) else none) = _
  rw [if_pos ⟨h, h⟩, D.eq_refl d 60 h]
  rfl
section
variable {xs : List (Int × Int)} {i j : Nat} {p q : Int × Int}
end
end VP
namespace VP
open PySem PySem.Spec PyProof.Rows L2 VF
theorem low_low {a b : Int} (hb : 0 < b) : low (low a b).1 (low a b).2 = low a b := by
  obtain ⟨e1, e2⟩ := low_eq (a := a) (b := b)
  have hg := gcd_pos (a := a) hb
  have hl := (low_pos (a := a) hb).1
  have z := low_scale (g := (Int.gcd a b : Int)) (a := (low a b).1) (b := (low a b).2) hg hl
  rw [← z, Int.mul_comm _ (low a b).1, Int.mul_comm _ (low a b).2, e1, e2]
theorem prOk_low {a b : Int} (hb : 0 < b) (h1 : a.natAbs < 2 ^ 133) (h2 : b.natAbs < 2 ^ 133) : PrOk (lowS a b) := by
  rw [lowS_pos hb]
  obtain ⟨l1, l2, l3⟩ := low_pos (a := a) hb
  refine ⟨l1, by omega, by omega, ?_⟩
  rw [lowS_pos l1, low_low hb]
theorem pairA {k : Nat} {w : D} (hw : WA k w) (hk : k ≤ 900000) : (c_l_pair w).wp fun p => (∃ x, p.1 = dPr x ∧ PrOk x) ∧ WA (k + 6) p.2 := by
  unfold c_l_pair
  simp only [R.bind_assoc, R.bind_ok]
  refine R.wp_bind (drawA hw (by omega) (by decide) (by decide)) fun c1 ⟨a1, e1, a10, a11, w1⟩ => ?_
  rw [e1, pr_sub, R.bind_ok, pr_pow (by decide) (by decide) (by decide), R.bind_ok]
  refine R.wp_bind (drawB w1 (by omega) (by decide) (by decide +kernel)) fun c2 ⟨a2, e2, a20, a21, w2⟩ => ?_
  rw [e2, pr_pow (by decide) (by decide) (by decide), R.bind_ok, pr_sub, R.bind_ok]
  refine R.wp_bind (drawA w2 (by omega) (by decide) (by decide)) fun c3 ⟨a3, e3, _, _, w3⟩ => ?_
  rw [e3, fEq_int, R.bind_ok, int_bl, R.bind_ok, item2, R.bind_ok]
  refine R.wp_bind (drawA w3 (by omega) (by decide) (by decide)) fun c4 ⟨a4, e4, a40, a41, w4⟩ => ?_
  rw [e4, R.bind_ok]
  refine R.wp_bind (drawB w4 (by omega) (by decide) (by decide +kernel)) fun c5 ⟨a5, e5, a50, a51, w5⟩ => ?_
  rw [e5]
  refine R.wp_bind (drawA w5 (by omega) (by decide) (by decide)) fun c6 ⟨a6, e6, _, _, w6⟩ => ?_
  rw [e6, fEq_int, R.bind_ok, int_bl, R.bind_ok, item2, R.bind_ok]
  have p40 : (10 : Int) ^ (40 : Int).toNat = 10000000000000000000000000000000000000000 := by decide
  have p39 : (10 : Int) ^ (39 : Int).toNat = 1000000000000000000000000000000000000000 := by decide
  have q133 : (2 : Nat) ^ 133 = 10889035741470030830827987437816582766592 := by decide
  rw [p40] at a21 a51
  obtain ⟨t, ht, t1⟩ : ∃ t : Int, (if decide (a3 = 3) = true then D.int (a2 - 10 ^ (39 : Int).toNat) else D.int (a1 - 4)) = .int t ∧ t.natAbs < 2 ^ 133 := by
    rw [p39, q133]
    split
    · exact ⟨_, rfl, by omega⟩
    · exact ⟨_, rfl, by omega⟩
  obtain ⟨g, hg, g0, g1⟩ : ∃ g : Int, (if decide (a6 = 3) = true then D.int a5 else D.int a4) = .int g ∧ 0 ≤ g ∧ g < 10000000000000000000000000000000000000000 := by
    split
    · exact ⟨_, rfl, by omega, by omega⟩
    · exact ⟨_, rfl, by omega, by omega⟩
  rw [ht, hg, pr_add, R.bind_ok]
  have g2 : (1 + g).natAbs < 2 ^ 133 := by rw [q133]; omega
  rw [lowest_okB (k := 133) (by omega) g2 (by decide), R.bind_ok]
  exact R.wp_ok ⟨⟨_, rfl, prOk_low (by omega) t1 g2⟩, w6.mono (by omega)⟩
end VP
namespace VP
open PySem PySem.Spec PyProof.Rows L2 VF
section
variable {ns : List N} {rs : List (Bal × Int)} {rule : D} {l : List N}
end
end VP
namespace VP
open PySem PySem.Spec PyProof.Rows L2 VF
section
variable {ns : List N} {rs : List (Bal × Int)} {rule : D} {l : List N}
end
end VP
namespace VP
open PySem PySem.Spec PyProof.Rows L2 VF
section
variable {ns : List N} {rs qs : List (Bal × Int)} {r : Bal × Int} {i : Nat} {rule : D} {l : List N} {x : N}
end
end VP
namespace VP
open PySem PySem.Spec PyProof.Rows L2 VF
section
variable {ns : List N} {rs qs : List (Bal × Int)} {r : Bal × Int} {i : Nat} {rule : D} {x : N}
end
end VP
namespace VP
open PySem PySem.Spec PyProof.Rows L2 VF
theorem prs_of : ∀ {l : List D}, (∀ d ∈ l, ∃ x, d = dPr x ∧ PrOk x) → ∃ xs : List (Int × Int), l = xs.map dPr ∧ xs.length = l.length ∧ ∀ x ∈ xs, PrOk x
  | [], _ => ⟨[], rfl, rfl, fun x h => by cases h⟩
  | d :: l, h => by
    obtain ⟨x, rfl, hx⟩ := h _ List.mem_cons_self
    obtain ⟨xs, rfl, _, h3⟩ := prs_of fun d hd => h d (List.mem_cons_of_mem _ hd)
    exact ⟨x :: xs, rfl, by simp, fun y hy => by
      rcases List.mem_cons.mp hy with z | z
      · rw [z]; exact hx
      · exact h3 y z⟩
theorem mapR_map {α T : Type} {u : D → Option T} {f : T → R D} {e e' : α → D} : ∀ {xs : List α}, (∀ x ∈ xs, ∃ a, u (e x) = some a ∧ f a = .ok (e' x)) → mapR u f (xs.map e) = .ok (xs.map e')
  | [], _ => rfl
  | x :: xs, h => by
    obtain ⟨a, e1, e2⟩ := h x List.mem_cons_self
    have ih := mapR_map (xs := xs) fun y hy => h y (List.mem_cons_of_mem _ hy)
    rw [List.map_cons]
    unfold mapR
    rw [e1]
    simp only [e2, noE_ok, R.bind_ok, ih]
    rfl
theorem pl_prs {xs : List (Int × Int)} : pl 60 (.lst (xs.map dPr)) = true := by
  show (xs.map dPr).all (pl 59) = true
  rw [List.all_eq_true]
  intro d hd
  obtain ⟨x, _, rfl⟩ := List.mem_map.mp hd
  rfl
theorem answer_of (H : ∀ (xs : List (Int × Int)) (i j : Nat), (∀ x ∈ xs, PrOk x) → i < xs.length → j < xs.length → c_l_two_right (.lst (xs.map dPr)) (.lst (xs.map dSh)) (.int (i : Nat)) (.int (j : Nat)) = .ok (.bl true)) (ns : List Int) (h1 : ns.length ≤ 63) (h2 : ∀ z ∈ ns, Builtin.Int.intBits z ≤ 1048576) : c_law_k04 (.lst (ns.map .int)) = .ok (.bl true) := by
  have f1 : (false = true) = False := by simp
  unfold c_law_k04
  obtain ⟨c, ec⟩ := cellT (ns := ns)
  obtain ⟨ms, hml, em⟩ := script_cut (ns := ns) (lo := 1) (hi := 20)
  rw [srR1, ec, show lstR [R.ok (D.int c)] = .ok (.lst ([c].map .int)) from rfl, R.bind_ok, em, R.bind_ok, add_lst (by simp; omega), R.bind_ok, ← List.map_append, seq_lst, R.bind_ok]
  rw [forB_unit (e := D.int) (e' := D.int) (fun _ => rfl) _ fun z _ => ?_]
  · rfl
  refine R.wp_bind wellA_ok fun w hw => ?_
  simp only [R.bind_assoc, R.bind_ok]
  refine R.wp_bind (drawA hw (by omega) (by decide) (by decide)) fun b ⟨r, er, r0, r1, w1⟩ => ?_
  rw [er, pr_add, R.bind_ok, rng1 (by omega) (by omega), R.bind_ok]
  refine R.wp_bind (mapS_wpI (fun n s => WA (1 + 6 * n) s) (fun d => ∃ x, d = dPr x ∧ PrOk x) _ 0 _ (by simpa using w1) fun j y s hy w5 => ⟨y, rfl, ?_⟩) fun q ⟨hql, hqq, w6⟩ => ?_
  · have hj : j < (2 + r).toNat := by
      have := (List.getElem?_eq_some_iff.mp hy).1
      simpa using this
    rw [Nat.zero_add] at w5 ⊢
    refine R.wp_bind (pairA w5 (by omega)) fun b2 ⟨hb, w7⟩ => ?_
    exact R.wp_ok ⟨hb, w7.mono (by omega)⟩
  obtain ⟨xs, e3, e4, hx⟩ := prs_of hqq
  have hl : xs.length ≤ 20 := by
    rw [e4, hql, List.length_map, List.length_range]
    omega
  rw [e3]
  have s1 : ∀ l : List D, ofO (sSeq [D.lst l]) = .ok l := fun _ => rfl
  simp only [s1, R.bind_ok]
  rw [mapR_map (e := dPr) (e' := dSh) fun x hx' => ⟨(.int x.1, .int x.2), rfl, share_self (hx x hx')⟩, R.bind_ok]
  rw [show D.tup [D.int 0, D.int 1] = dPr (0, 1) from rfl, total_ok hx hl (fun _ _ => by simp only [R.bind_assoc]), R.bind_ok]
  rw [show srR sSeq [lstR [R.ok (D.lst (xs.map dSh)), pr (fRev [D.lst (xs.map dSh)])]] = .ok ([xs, xs.reverse].map fun l => D.lst (l.map dSh)) by
    rw [show pr (fRev [D.lst (xs.map dSh)]) = .ok (.lst (xs.map dSh).reverse) from rfl, ← List.map_reverse]; rfl, R.bind_ok]
  rw [forB_unit (e := fun l : List (Int × Int) => D.lst (l.map dSh)) (e' := fun l => D.lst (l.map dSh)) (fun _ => rfl) _ fun l hl' => ?_]
  · rw [R.bind_ok]
    show R.wp (R.bind _ _) _
    have er : srR sRng1 [pr (gLen [D.lst (xs.map dPr)])] = .ok ((List.range xs.length).map fun i => D.int (i : Nat)) := by
      have := rng1 (n := (xs.length : Nat)) (by omega) (by omega)
      rw [Int.toNat_natCast] at this
      rw [← this, ← List.length_map (as := xs) (f := dPr)]
      rfl
    simp only [er, R.bind_ok]
    rw [forB_unit (e := fun i : Nat => D.int (i : Nat)) (e' := fun i : Nat => D.int (i : Nat)) (fun _ => rfl) _ fun i hi => ?_]
    · rw [R.bind_ok]
      show R.wp (R.bind _ _) _
      rw [mapR_map (e := dSh) (e' := dPr) fun x _ => ⟨dSh x, rfl, rfl⟩, R.bind_ok, ne_reflK pl_prs, R.bind_ok, asB_bl, R.bind_ok, if_neg (by decide : ¬(false = true))]
      have z := shares_sum_ok (xs := []) (fun x h => by cases h) (by decide)
      have e0 : mkR (ap1 fun a0 => c_Share_init (D.ins "Share" [] []) a0 (D.int 1)) [.ok (D.int 0)] = .ok (dSh (0, 1)) := by
        show ((R.ok [D.int 0]).bind fun ds => (noE (c_Share_init (D.ins "Share" [] []) (.int 0) (.int 1))).bind fun d => cnR d d) = _
        rw [R.bind_ok, share_okB (k := 1) (by decide) (by decide) (by decide)]
        rfl
      rw [List.map_nil] at z
      rw [z, e0, R.bind_ok, R.bind_ok, show sumL [] = (0, 1) from rfl, eqR_self]
      exact R.wp_ok rfl
    · rw [forB_unit (e := fun i : Nat => D.int (i : Nat)) (e' := fun i : Nat => D.int (i : Nat)) (fun _ => rfl) _ fun j hj => ?_]
      · exact R.wp_ok rfl
      · rw [H xs i j hx (List.mem_range.mp hi) (List.mem_range.mp hj)]
        exact R.wp_ok rfl
  · have e : c_shares_sum (D.lst (l.map dSh)) = .ok (dSh (sumL xs)) := by
      simp only [List.mem_cons, List.not_mem_nil, or_false] at hl'
      rcases hl' with rfl | rfl
      · exact shares_sum_ok hx hl
      · rw [shares_sum_ok (fun x h => hx x (List.mem_reverse.mp h)) (by rw [List.length_reverse]; exact hl), sum_rev fun x h => (hx x h).pos]
    rw [e, R.bind_ok, f_num, f_over, show tupR [R.ok (D.int (sumL xs).1), R.ok (D.int (sumL xs).2)] = .ok (dPr (sumL xs)) from rfl, R.bind_ok, ne_reflK rfl, R.bind_ok, asB_bl, R.bind_ok, if_neg (by decide : ¬(false = true))]
    exact R.wp_ok rfl
end VP
namespace VP
open PySem PySem.Spec PyProof.Rows L2 VF
section
variable {xs : List (Int × Int)} {i j : Nat} {p q : Int × Int}
end
end VP
namespace VP
open PySem PySem.Spec PyProof.Rows L2 VF
theorem sgg_mul {a b : Int} : (a.fdiv (sgg a b)) * sgg a b = a ∧ (b.fdiv (sgg a b)) * sgg a b = b := by
  have d1 : sgg a b ∣ a := by
    unfold sgg
    split
    · rw [Int.zero_sub]; exact Int.neg_dvd.mpr (Int.gcd_dvd_left ..)
    · exact Int.gcd_dvd_left ..
  have d2 : sgg a b ∣ b := by
    unfold sgg
    split
    · rw [Int.zero_sub]; exact Int.neg_dvd.mpr (Int.gcd_dvd_right ..)
    · exact Int.gcd_dvd_right ..
  exact ⟨Int.fdiv_mul_cancel d1, Int.fdiv_mul_cancel d2⟩
theorem lowS_cross {a b : Int} : (lowS a b).1 * b = a * (lowS a b).2 := by
  obtain ⟨h1, h2⟩ := sgg_mul (a := a) (b := b)
  show (a.fdiv (sgg a b)) * b = a * (b.fdiv (sgg a b))
  generalize a.fdiv (sgg a b) = p at *
  generalize b.fdiv (sgg a b) = q at *
  generalize sgg a b = s at *
  subst h1 h2
  rw [Int.mul_assoc, Int.mul_comm s q]
theorem lowS_ne {a b : Int} (hb : b ≠ 0) : (lowS a b).2 ≠ 0 := fun h => by
  have := (sgg_mul (a := a) (b := b)).2
  rw [show b.fdiv (sgg a b) = 0 from h] at this
  omega
theorem lowS_neg {a b : Int} (hb : b ≠ 0) : lowS (0 - a) (0 - b) = lowS a b := by
  have e : sgg (0 - a) (0 - b) = - sgg a b := by
    unfold sgg
    rw [show (0 - a : Int) = -a by omega, show (0 - b : Int) = -b by omega, Int.neg_gcd, Int.gcd_neg]
    by_cases h : b < 0
    · rw [if_neg (by omega), if_pos h]; omega
    · rw [if_pos (by omega), if_neg h]; omega
  unfold lowS
  rw [e, Int.zero_sub, Int.zero_sub, Int.neg_fdiv_neg, Int.neg_fdiv_neg]
theorem lowS_scale {a b p : Int} (hp : 0 < p) : lowS (a * p) (b * p) = lowS a b := by
  have e : sgg (a * p) (b * p) = p * sgg a b := by
    unfold sgg
    rw [Int.gcd_mul_right]
    have hn : (p.natAbs : Int) = p := Int.natAbs_of_nonneg (by omega)
    rw [Int.natCast_mul, hn]
    by_cases h : b < 0
    · rw [if_pos (Int.mul_neg_of_neg_of_pos h hp), if_pos h, Int.zero_sub, Int.zero_sub, Int.mul_neg, Int.mul_comm]
    · rw [if_neg (by have := Int.mul_nonneg (Int.not_lt.mp h) (Int.le_of_lt hp); omega), if_neg h, Int.mul_comm]
  unfold lowS
  rw [e, Int.mul_comm a p, Int.mul_comm b p, Int.mul_fdiv_mul_of_pos _ _ hp, Int.mul_fdiv_mul_of_pos _ _ hp]
theorem lowS_one {a : Int} : lowS a 1 = (a, 1) := by
  have e : sgg a 1 = 1 := by
    unfold sgg
    rw [if_neg (by decide), Int.gcd_one]
    rfl
  unfold lowS
  rw [e, Int.fdiv_one, Int.fdiv_one]
theorem lowS_next {a b : Int} (hb : b ≠ 0) : lowS (a + 1) b ≠ lowS a b := fun h => by
  have h1 := lowS_cross (a := a + 1) (b := b)
  have h2 := lowS_cross (a := a) (b := b)
  rw [h] at h1
  rw [h1, Int.add_mul] at h2
  have := lowS_ne (a := a) hb
  omega
theorem eq_pr {p q : Int × Int} : pr (fEq [dPr p, dPr q]) = .ok (.bl (decide (p = q))) := by
  have e : D.eq (dPr p) (dPr q) = decide (p = q) := by
    obtain ⟨a, b⟩ := p
    obtain ⟨c, d⟩ := q
    show (decide (a = c) && (decide (b = d) && true)) = decide ((a, b) = (c, d))
    by_cases h1 : a = c <;> by_cases h2 : b = d <;> simp [h1, h2]
  show pr (if pl 60 (dPr p) = true ∧ pl 60 (dPr q) = true then some (.val (.bl (D.eq (dPr p) (dPr q)))) else none) = _
  rw [if_pos ⟨rfl, rfl⟩, e]
  rfl
theorem ne_pr {p q : Int × Int} : pr (fNe [dPr p, dPr q]) = .ok (.bl (!decide (p = q))) := by
  have e : D.eq (dPr p) (dPr q) = decide (p = q) := by
    obtain ⟨a, b⟩ := p
    obtain ⟨c, d⟩ := q
    show (decide (a = c) && (decide (b = d) && true)) = decide ((a, b) = (c, d))
    by_cases h1 : a = c <;> by_cases h2 : b = d <;> simp [h1, h2]
  show pr (if pl 60 (dPr p) = true ∧ pl 60 (dPr q) = true then some (.val (.bl (!D.eq (dPr p) (dPr q)))) else none) = _
  rw [if_pos ⟨rfl, rfl⟩, e]
  rfl
theorem shareX {a b : Int} (hb : b ≠ 0) : c_Share_initX (D.ins "Share" [] []) (.int a) (.int b) = c_Share_init (D.ins "Share" [] []) (.int a) (.int b) := by
  unfold c_Share_initX c_Share_init
  rw [show pr (fEq [D.int b, D.int 0]) = .ok (.bl (decide (b = 0))) from rfl, R.bind_ok, asB_bl, R.bind_ok, decide_eq_false hb, if_neg (by decide : ¬(false = true)), R.bind_ok, if_neg (by decide : ¬(false = true))]
theorem shareX0 {a : Int} : c_Share_initX (D.ins "Share" [] []) (.int a) (.int 0) = .exc ⟨"NoShare", ["over", "num", "why"], [.int 0, .int a, .str "over nought"]⟩ := by
  unfold c_Share_initX
  rfl
theorem mkX {a b : Int} {k : Nat} (hb : b ≠ 0) (h : b.natAbs < 2 ^ k) (hk : k ≤ 8000) : (c_Share_initX (D.ins "Share" [] []) (.int a) (.int b)).bind (fun d => cnR d d) = .ok (dSh (lowS a b)) := by
  rw [shareX hb, share_okB hb h hk]
  rfl
theorem mk2 {a b : Int} {k : Nat} {ca cb : R D} (ea : ca = .ok (.int a)) (eb : cb = .ok (.int b)) (hb : b ≠ 0) (h : b.natAbs < 2 ^ k) (hk : k ≤ 8000) : mkRX (ap2 fun a0 a1 => c_Share_initX (D.ins "Share" [] []) a0 a1) [ca, cb] = .ok (dSh (lowS a b)) := by
  subst ea eb
  exact mkX hb h hk
theorem mk2r {a b : Int} {k : Nat} {ca cb : R D} (ea : ca = .ok (.int b)) (eb : cb = .ok (.int a)) (hb : b ≠ 0) (h : b.natAbs < 2 ^ k) (hk : k ≤ 8000) : mkRX (ap2 fun a0 a1 => c_Share_initX (D.ins "Share" [] []) a1 a0) [ca, cb] = .ok (dSh (lowS a b)) := by
  subst ea eb
  exact mkX hb h hk
theorem mk1 {a : Int} : mkRX (ap1 fun a0 => c_Share_initX (D.ins "Share" [] []) a0 (D.int 1)) [.ok (.int a)] = .ok (dSh (a, 1)) := by
  have := mkX (a := a) (b := 1) (k := 1) (by decide) (by decide) (by decide)
  rw [lowS_one] at this
  exact this
theorem refusedS {a w : Int} (hw : w = 0 ∨ w = 1 ∨ w = 2) : c_l_refused (.int a) (.int w) = .ok (dPr (a, 0)) := by
  unfold c_l_refused
  have m1 : mkRX (ap2 fun a0 a1 => c_Share_initX (D.ins "Share" [] []) a0 a1) [.ok (.int a), .ok (D.int 0)] = .exc ⟨"NoShare", ["over", "num", "why"], [.int 0, .int a, .str "over nought"]⟩ := by
    show (c_Share_initX (D.ins "Share" [] []) (.int a) (.int 0)).bind (fun d => cnR d d) = _
    rw [shareX0]; rfl
  have m2 : mkRX (ap2 fun a0 a1 => c_Share_initX (D.ins "Share" [] []) a1 a0) [.ok (D.int 0), .ok (.int a)] = .exc ⟨"NoShare", ["over", "num", "why"], [.int 0, .int a, .str "over nought"]⟩ := by
    show (c_Share_initX (D.ins "Share" [] []) (.int a) (.int 0)).bind (fun d => cnR d d) = _
    rw [shareX0]; rfl
  rw [m1, m2]
  rcases hw with rfl | rfl | rfl <;> rfl
theorem eqX_sh {p q : Int × Int} : c_Share_eqX (dSh p) (dSh q) = .ok (.bl (decide (p = q))) := by
  have e := eq_pr (p := p) (q := q)
  unfold c_Share_eqX
  exact e
theorem eqR_sh {neg : Bool} {p q : Int × Int} : eqR neg "Share" c_Share_eqX (dSh p) (dSh q) = .ok (.bl (if neg = true then !decide (p = q) else decide (p = q))) := by
  show (if ("Share" : Str) = "Share" ∧ ("Share" : Str) = "Share" then (c_Share_eqX (dSh p) (dSh q)).bind fun d => (asBL d).bind fun b => R.ok (D.bl (if neg = true then !b else b)) else .bad) = _
  rw [if_pos ⟨rfl, rfl⟩, eqX_sh]
  rfl
theorem eqR2_pr {p q : Int × Int} : eqR2 false "Share" c_Share_eqX (dSh p) (dPr q) = .ok (.bl false) := rfl
theorem eqR2_str {p : Int × Int} {x : Str} : eqR2 false "Share" c_Share_eqX (dSh p) (.str x) = .ok (.bl false) := rfl
theorem eqR2_int {p : Int × Int} {x : Int} : eqR2 false "Share" c_Share_eqX (dSh p) (.int x) = .ok (.bl false) := rfl
theorem str_empty (x : Str) : Str.empty ++ x = x := by
  obtain ⟨a⟩ := x
  show Str.mk (#[] ++ a) = _
  simp
theorem str_empty' (x : Str) : x ++ Str.empty = x := by
  obtain ⟨a⟩ := x
  show Str.mk (a ++ #[]) = _
  simp
theorem str_assoc (x y z : Str) : x ++ y ++ z = x ++ (y ++ z) := by
  obtain ⟨a⟩ := x
  obtain ⟨b⟩ := y
  obtain ⟨c⟩ := z
  show Str.mk (a ++ b ++ c) = Str.mk (a ++ (b ++ c))
  simp
theorem txt_len {i : Int} (h : i.natAbs < 10 ^ 100) : (Str.ofString (toString i)).length ≤ 101 := by
  rw [PySem.ofString_length]
  exact int_text_length_le10 (k := 100) (by decide) h
theorem log_len {i : Int} (h : i.natAbs < 10 ^ 100) : i.natAbs.log2 < 1920 := by
  by_cases h0 : i.natAbs = 0
  · rw [h0]; decide
  · exact (Nat.log2_lt h0).mpr (Nat.lt_of_lt_of_le h (by decide +kernel))
def shT (p : Int × Int) : Str := ((((("Share(" : Str) ++ (toString p.1 : Str)) ++ (", " : Str)) ++ (toString p.2 : Str)) ++ (")" : Str))
def stT (p : Int × Int) : Str := (toString p.1 : Str) ++ (if p.2 > 1 then ("/" : Str) ++ (toString p.2 : Str) else Str.empty)
theorem len_app (x y : Str) : (x ++ y).length = x.length + y.length := by
  obtain ⟨a⟩ := x
  obtain ⟨b⟩ := y
  show (a ++ b).size = a.size + b.size
  simp
theorem fmtI {i : Int} (h : i.natAbs < 10 ^ 100) : pr (fFmt [.int i]) = .ok (.str (toString i)) := by
  show pr (if i.natAbs.log2 < 1920 then _ else none) = _
  rw [if_pos (log_len h)]
  rfl
theorem strI {i : Int} (h : i.natAbs < 10 ^ 100) : pr (fStr [.int i]) = .ok (.str (toString i)) := by
  show pr (if i.natAbs.log2 < 1920 then _ else none) = _
  rw [if_pos (log_len h)]
  rfl
theorem repr_sh {p : Int × Int} (h1 : p.1.natAbs < 10 ^ 100) (h2 : p.2.natAbs < 10 ^ 100) : c_Share_repr (dSh p) = .ok (.str (shT p)) := by
  have l1 := txt_len h1
  have l2 := txt_len h2
  have k1 : ("Share(" : Str).length = 6 := by decide +kernel
  have k2 : (", " : Str).length = 2 := by decide +kernel
  have k3 : (")" : Str).length = 1 := by decide +kernel
  unfold c_Share_repr
  rw [f_num, R.bind_ok, fmtI h1, f_over, R.bind_ok, fmtI h2]
  simp only [fstrC, R.bind_ok, str_empty, len_app]
  rw [if_pos (by omega), if_pos (by omega), if_pos (by omega), if_pos (by omega), if_pos (by omega)]
  rfl
theorem addS {x y : Str} (h : x.length + y.length ≤ 16777216) : pr (fAdd [.str x, .str y]) = .ok (.str (x ++ y)) := by
  show pr (if x.length + y.length ≤ sizeLine then _ else none) = _
  rw [if_pos (by rw [sizeLine_eq]; exact h)]
  rfl
theorem join1 {x : Str} (h : x.length ≤ 1000) : meR "str" fJoin (.ok (D.str "/")) [.ok (.lst [.str x])] = .ok (.str x) := by
  show pr (if ([x].map (·.length)).sum + [x].length * ("/" : Str).length ≤ 16777216 then some (.val (.str (Txt.join "/" [x]))) else none) = _
  rw [if_pos (by have : ("/" : Str).length = 1 := by decide +kernel
                 simp [this]; omega)]
  rfl
theorem join2 {x y : Str} (h : x.length ≤ 1000) (h2 : y.length ≤ 1000) : meR "str" fJoin (.ok (D.str "/")) [.ok (.lst [.str x, .str y])] = .ok (.str (x ++ (("/" : Str) ++ y))) := by
  have e : Txt.join "/" [x, y] = x ++ (("/" : Str) ++ y) := by
    rw [← str_assoc]
    rfl
  show pr (if ([x, y].map (·.length)).sum + [x, y].length * ("/" : Str).length ≤ 16777216 then some (.val (.str (Txt.join "/" [x, y]))) else none) = _
  rw [if_pos (by have : ("/" : Str).length = 1 := by decide +kernel
                 simp [this]; omega), e]
  rfl
theorem gt_int {i j : Int} : pr (fGt [.int i, .int j]) = .ok (.bl (decide (i > j))) := rfl
theorem int_blT {b : Bool} : pr (fInt [.bl b]) = .ok (.int (if b = true then 1 else 0)) := by cases b <;> rfl
theorem str_sh {p : Int × Int} (h1 : p.1.natAbs < 10 ^ 100) (h2 : p.2.natAbs < 10 ^ 100) : c_Share_str (dSh p) = .ok (.str (stT p)) := by
  have l1 := txt_len h1
  have l2 := txt_len h2
  unfold c_Share_str stT
  rw [f_num, R.bind_ok, strI h1, f_over, R.bind_ok, strI h2, R.bind_ok, gt_int, R.bind_ok, int_blT]
  by_cases h : p.2 > 1
  · rw [decide_eq_true h, if_pos rfl, if_pos h]
    exact join2 (by omega) (by omega)
  · rw [decide_eq_false h, if_neg (by decide), if_neg h, str_empty']
    exact join1 (by omega)
theorem shown_sh {p : Int × Int} (h1 : p.1.natAbs < 10 ^ 100) (h2 : p.2.natAbs < 10 ^ 100) : c_l_shown (dPr p) = .ok (.tup [.str (shT p), .str (stT p)]) := by
  have l1 := txt_len h1
  have l2 := txt_len h2
  have k1 : ("Share(" : Str).length = 6 := by decide +kernel
  have k2 : (", " : Str).length = 2 := by decide +kernel
  have k3 : (")" : Str).length = 1 := by decide +kernel
  have k4 : ("/" : Str).length = 1 := by decide +kernel
  have i0 : pr (gItem [dPr p, D.int 0]) = .ok (.int p.1) := rfl
  have i1 : pr (gItem [dPr p, D.int 1]) = .ok (.int p.2) := rfl
  unfold c_l_shown
  rw [i0, i1]
  simp only [R.bind_ok]
  rw [strI h1, strI h2]
  simp only [R.bind_ok]
  rw [addS (by omega), gt_int]
  simp only [R.bind_ok]
  rw [int_blT]
  simp only [R.bind_ok]
  have em : pr (fMulS [.str (("/" : Str) ++ (toString p.2 : Str)), .int (if decide (p.2 > 1) = true then 1 else 0)]) = .ok (.str (if p.2 > 1 then ("/" : Str) ++ (toString p.2 : Str) else Str.empty)) := by
    by_cases h : p.2 > 1
    · rw [decide_eq_true h, if_pos rfl, if_pos h]; rfl
    · rw [decide_eq_false h, if_neg (by decide), if_neg h]; rfl
  rw [em]
  simp only [R.bind_ok]
  have le : (if p.2 > 1 then ("/" : Str) ++ (toString p.2 : Str) else Str.empty).length ≤ 200 := by
    split
    · rw [len_app]; omega
    · exact Nat.zero_le _
  rw [addS (by omega)]
  simp only [R.bind_ok]
  rw [addS (by omega)]
  simp only [R.bind_ok]
  rw [addS (by rw [len_app]; omega)]
  simp only [R.bind_ok]
  rw [addS (by rw [len_app, len_app]; omega)]
  simp only [R.bind_ok]
  rw [addS (by rw [len_app, len_app, len_app]; omega)]
  rfl
end VP
namespace VP
open PySem PySem.Spec PyProof.Rows L2 VF
theorem p80 : (10 : Int) ^ (40 : Int).toNat * 10 ^ (40 : Int).toNat = 100000000000000000000000000000000000000000000000000000000000000000000000000000000 := by decide
theorem numberC {k : Nat} {w : D} (hw : WA k w) (hk : k ≤ 900000) : (c_l_number w).wp fun p => (∃ r : Int, p.1 = .int r ∧ r.natAbs < 10 ^ 81) ∧ WA (k + 4) p.2 := by
  have m1 : pr (fMul [D.int (10 ^ (40 : Int).toNat), D.int (10 ^ (40 : Int).toNat)]) = .ok (.int (10 ^ (40 : Int).toNat * 10 ^ (40 : Int).toNat)) := pr_mulB (k := 140) (m := 140) (by decide) (by decide) (by decide) (by decide)
  have m2 : pr (fMul [D.int (10 ^ (40 : Int).toNat), D.int (10 ^ (39 : Int).toNat)]) = .ok (.int (10 ^ (40 : Int).toNat * 10 ^ (39 : Int).toNat)) := pr_mulB (k := 140) (m := 140) (by decide) (by decide) (by decide) (by decide)
  unfold c_l_number
  simp only [R.bind_assoc, R.bind_ok]
  rw [pr_pow (by decide) (by decide) (by decide), R.bind_ok, R.bind_ok, m1, R.bind_ok]
  refine R.wp_bind (drawB hw (by omega) (by decide) (by decide +kernel)) fun c1 ⟨a1, e1, a10, a11, w1⟩ => ?_
  rw [R.bind_ok, pr_pow (by decide) (by decide) (by decide), R.bind_ok, m2, R.bind_ok, e1, pr_sub, R.bind_ok]
  refine R.wp_bind (drawA w1 (by omega) (by decide) (by decide)) fun c2 ⟨a2, e2, a20, a21, w2⟩ => ?_
  rw [e2, pr_sub, R.bind_ok]
  refine R.wp_bind (drawA w2 (by omega) (by decide) (by decide)) fun c3 ⟨a3, e3, a30, a31, w3⟩ => ?_
  rw [e3, pr_sub, R.bind_ok]
  refine R.wp_bind (oneA w3 (by omega) (by simp) (by simp)) fun c4 ⟨e4, w4⟩ => ?_
  refine R.wp_ok ⟨?_, w4.mono (by omega)⟩
  have q79 : (10 : Int) ^ (40 : Int).toNat * 10 ^ (39 : Int).toNat = 10000000000000000000000000000000000000000000000000000000000000000000000000000000 := by decide
  have q81 : (10 : Nat) ^ 81 = 1000000000000000000000000000000000000000000000000000000000000000000000000000000000 := by decide
  rw [p80] at a11
  rw [q79] at e4
  rw [q81]
  simp only [List.mem_cons, List.not_mem_nil, or_false] at e4
  rcases e4 with e | e | e
  · exact ⟨_, e, by omega⟩
  · exact ⟨_, e, by omega⟩
  · exact ⟨_, e, by omega⟩
theorem fdiv_leS {a s : Int} : (a.fdiv s * s = a) → s ≠ 0 → (a.fdiv s).natAbs ≤ a.natAbs := fun h hs => by
  have e : a.natAbs = (a.fdiv s).natAbs * s.natAbs := by rw [← Int.natAbs_mul, h]
  rw [e]
  exact Nat.le_mul_of_pos_right _ (Int.natAbs_pos.mpr hs)
theorem lowS_le {a b : Int} (hb : b ≠ 0) : (lowS a b).1.natAbs ≤ a.natAbs ∧ (lowS a b).2.natAbs ≤ b.natAbs := by
  obtain ⟨h1, h2⟩ := sgg_mul (a := a) (b := b)
  exact ⟨fdiv_leS h1 (sgg_ne hb), fdiv_leS h2 (sgg_ne hb)⟩
theorem un_sh {c : D → R D} {L : Int × Int} {t : Str} (h : c (dSh L) = .ok (.str t)) : unR "Share" c (dSh L) = .ok (.str t) := by
  show (if ("Share" : Str) = "Share" then (c (dSh L)).bind fun d => (match d with
    | .str b => R.ok (D.str b)
    | _ => .bad) else .bad) = _
  rw [if_pos rfl, h]
  rfl
theorem answer_k03 (ns : List Int) (h1 : ns.length ≤ 63) (h2 : ∀ z ∈ ns, Builtin.Int.intBits z ≤ 1048576) : c_law_k03 (.lst (ns.map .int)) = .ok (.bl true) := by
  have f1 : (false = true) = False := by simp
  have t10 : (10 : Nat) ^ 81 < 2 ^ 400 := by decide +kernel
  have t11 : (10 : Nat) ^ 81 < 10 ^ 100 := by decide +kernel
  have t12 : (10 : Nat) ^ 81 * 10 ^ 31 < 2 ^ 400 := by decide +kernel
  unfold c_law_k03
  obtain ⟨c, ec⟩ := cellT (ns := ns)
  obtain ⟨ms, hml, em⟩ := script_cut (ns := ns) (lo := 1) (hi := 24)
  rw [srR1, ec, show lstR [R.ok (D.int c)] = .ok (.lst ([c].map .int)) from rfl, R.bind_ok, em, R.bind_ok, add_lst (by simp; omega), R.bind_ok, ← List.map_append, seq_lst, R.bind_ok]
  rw [forB_unit (e := D.int) (e' := D.int) (fun _ => rfl) _ fun z _ => ?_]
  · rfl
  refine R.wp_bind wellA_ok fun w hw => ?_
  simp only [R.bind_assoc, R.bind_ok]
  refine R.wp_bind (numberC hw (by omega)) fun n1 ⟨⟨A, e1, hA⟩, w1⟩ => ?_
  refine R.wp_bind (numberC w1 (by omega)) fun n2 ⟨⟨B0, e2, hB0⟩, w2⟩ => ?_
  rw [e1, e2]
  obtain ⟨B, hB0', eB, hB⟩ : ∃ B : Int, B ≠ 0 ∧ (∀ (K : D → R (LS Unit D)), ((pr (fEq [D.int B0, D.int 0])).bind fun a => (asB a).bind fun a => (if a = true then (R.ok (D.int 1)) else (R.ok (D.int B0))).bind K) = K (.int B)) ∧ B.natAbs < 10 ^ 81 := by
    by_cases h : B0 = 0
    · exact ⟨1, by decide, fun K => by rw [fEq_int, decide_eq_true h]; rfl, by decide +kernel⟩
    · exact ⟨B0, h, fun K => by rw [fEq_int, decide_eq_false h]; rfl, hB0⟩
  rw [eB, pr_pow (by decide) (by decide) (by decide), show lstR [R.ok (D.int 3), R.ok (D.int (10 ^ (30 : Int).toNat))] = .ok (.lst [.int 3, .int (10 ^ (30 : Int).toNat)]) from rfl, R.bind_ok]
  refine R.wp_bind (drawA w2 (by omega) (by decide) (by decide)) fun n3 ⟨r3, e3, r30, r31, w3⟩ => ?_
  rw [e3]
  have p30 : (10 : Int) ^ (30 : Int).toNat = 1000000000000000000000000000000 := by decide
  obtain ⟨s, es, s0, s1⟩ : ∃ s : Int, pr (gItem [D.lst [.int 3, .int (10 ^ (30 : Int).toNat)], D.int r3]) = .ok (.int s) ∧ 0 < s ∧ s ≤ 1000000000000000000000000000000 := by
    rw [p30]
    rcases (by omega : r3 = 0 ∨ r3 = 1) with rfl | rfl
    · exact ⟨3, rfl, by decide, by decide⟩
    · exact ⟨_, rfl, by decide, by decide⟩
  rw [es, R.bind_ok]
  have sl : s.natAbs.log2 < 9000 := by
    refine log2_lt9 (k := 400) (Nat.lt_of_le_of_lt (m := 1000000000000000000000000000000) (by omega) (by decide +kernel)) (by decide)
  refine R.wp_bind (drawB w3 (by omega) s0 sl) fun n4 ⟨r4, e4, r40, r41, w4⟩ => ?_
  rw [e4, pr_add, R.bind_ok]
  generalize hp : (1 + r4 : Int) = p
  have p0 : 0 < p := by omega
  have p1 : p.natAbs < 10 ^ 31 := by
    have : (10 : Nat) ^ 31 = 10000000000000000000000000000000 := by decide
    omega
  have p2 : p.natAbs < 2 ^ 400 := Nat.lt_trans p1 (by decide +kernel)
  have A2 : A.natAbs < 2 ^ 400 := Nat.lt_trans hA t10
  have B2 : B.natAbs < 2 ^ 400 := Nat.lt_trans hB t10
  have Bp : (B * p).natAbs < 2 ^ 400 := by
    rw [Int.natAbs_mul]
    exact Nat.lt_of_lt_of_le (Nat.mul_lt_mul_of_lt_of_lt hB p1) (Nat.le_of_lt t12)
  have Bp0 : B * p ≠ 0 := Int.mul_ne_zero hB0' (by omega)
  rw [lowest_okB hB0' B2 (by decide), R.bind_ok]
  have k1 := mk2 (a := A) (b := B) rfl rfl hB0' B2 (by decide)
  have k2 := mk2 (pr_mulB A2 p2 (by decide) (by decide)) (pr_mulB B2 p2 (by decide) (by decide)) Bp0 Bp (by decide)
  have k3 := mk2r (a := 0 - A) (b := 0 - B) (ca := pr (fSub [D.int 0, D.int B])) (cb := pr (fSub [D.int 0, D.int A])) pr_sub pr_sub (by omega) (k := 400) (by rw [show (0 - B : Int) = -B by omega, Int.natAbs_neg]; exact B2) (by decide)
  have k4 := mk2 (a := A + 1) (b := B) (ca := pr (fAdd [D.int A, D.int 1])) pr_add rfl hB0' B2 (by decide)
  have B22 : (B * 2).natAbs < 2 ^ 401 := by
    rw [Int.natAbs_mul, Nat.pow_succ]
    exact Nat.mul_lt_mul_of_pos_right B2 (by decide)
  have k5 := mk2 (pr_mulB A2 (show (2 : Int).natAbs < 2 ^ 2 by decide) (by decide) (by decide)) (pr_mulB B2 (show (2 : Int).natAbs < 2 ^ 2 by decide) (by decide) (by decide)) (by omega) B22 (by decide)
  rw [lowS_scale p0] at k2
  rw [lowS_neg hB0'] at k3
  rw [lowS_scale (by decide)] at k5
  have kn := lowS_next (a := A) hB0'
  obtain ⟨c1, c2⟩ := lowS_le (a := A) hB0'
  generalize lowS A B = L at *
  have L1 : L.1.natAbs < 10 ^ 100 := by omega
  have L2 : L.2.natAbs < 10 ^ 100 := by omega
  rw [k1, k2, k3, show lstR [R.ok (dSh L), R.ok (dSh L), R.ok (dSh L)] = .ok (.lst ([L, L, L].map dSh)) from rfl, R.bind_ok, show ofO (sSeq [D.lst ([L, L, L].map dSh)]) = .ok ([L, L, L].map dSh) from rfl, R.bind_ok]
  have i0 : pr (gItem [D.lst ([L, L, L].map dSh), D.int 0]) = .ok (dSh L) := rfl
  have un1 := un_sh (repr_sh L1 L2)
  have un2 := un_sh (str_sh L1 L2)
  have ne1 : pr (fNe [D.tup [.str (shT L), .str (stT L)], D.tup [.str (shT L), .str (stT L)]]) = .ok (.bl false) := ne_reflK rfl
  rw [forB_unit (e := dSh) (e' := dSh) (fun _ => rfl) _ fun x hx => ?_]
  · rw [R.bind_ok]
    show R.wp (R.bind _ _) _
    have wh : (tupR [pr ((fFld "num") [dSh (A, 1)]), pr ((fFld "over") [dSh (A, 1)])]) = .ok (dPr (A, 1)) := rfl
    rw [mk1, R.bind_ok, wh, R.bind_ok, show D.tup [D.int A, D.int 1] = dPr (A, 1) from rfl, ne_pr, R.bind_ok, i0]
    simp only [decide_true, Bool.not_true, asB_bl, R.bind_ok, f1, if_false, eqR_sh, eq_pr]
    have es2 : decide ((A, (1 : Int)) = L) = decide (L = (A, 1)) := by simp only [eq_comm]
    rw [es2, show pr (fNe [D.bl (decide (L = (A, 1))), D.bl (decide (L = (A, 1)))]) = .ok (.bl false) from ne_reflK rfl]
    simp only [R.bind_ok, asB_bl, f1, if_false]
    rw [k4, R.bind_ok, eqR_sh]
    simp only [R.bind_ok, asB_bl, f1, if_false, decide_eq_false kn]
    rw [k5]
    simp only [R.bind_ok, asB_bl, f1, if_false, eqR_sh, decide_true, Bool.not_true, if_true]
    rw [show ofO (sRng1 [D.int 3]) = .ok ([(0 : Int), 1, 2].map D.int) from rfl, R.bind_ok]
    rw [forB_unit (e := D.int) (e' := D.int) (fun _ => rfl) _ fun x hx => ?_]
    · exact R.wp_ok rfl
    · rw [refusedS (by simpa using hx), R.bind_ok, show D.tup [D.int A, D.int 0] = dPr (A, 0) from rfl, ne_pr]
      simp only [decide_true, Bool.not_true, R.bind_ok, asB_bl, f1, if_false]
      exact R.wp_ok rfl
  · have ex : x = L := by simpa using hx
    subst ex
    rw [show tupR [pr ((fFld "num") [dSh x]), pr ((fFld "over") [dSh x])] = .ok (dPr x) from rfl, R.bind_ok, ne_pr]
    simp only [decide_true, Bool.not_true, R.bind_ok, asB_bl, f1, if_false]
    rw [un1, un2, show tupR [R.ok (D.str (shT x)), R.ok (D.str (stT x))] = .ok (.tup [.str (shT x), .str (stT x)]) from rfl, R.bind_ok, shown_sh L1 L2, R.bind_ok, ne1]
    simp only [R.bind_ok, asB_bl, f1, if_false]
    rw [i0]
    simp only [R.bind_ok, asB_bl, f1, if_false, eqR_sh, decide_true, Bool.not_true, if_true, eqR2_pr, eqR2_str, eqR2_int]
    exact R.wp_ok rfl
end VP
namespace K03
open PySem PySem.Spec PyProof.Rows L2 VF VP
structure Env (M : Md) : Prop where
  b_abs : M.mg "abs" = none
  b_int : M.mg "int" = none
  b_isinstance : M.mg "isinstance" = none
  b_len : M.mg "len" = none
  b_range : M.mg "range" = none
  b_repr : M.mg "repr" = none
  b_str : M.mg "str" = none
  f_num : FldOk M "num"
  f_over : FldOk M "over"
  ers_NoShare : ErS M 2 "NoShare" ["why", "num", "over"] 2 noShD ["over"]
  hd_PollError_NoShare : HdF M "PollError" "NoShare" true
  is_NoShare_NoShare : IsF M "NoShare" "NoShare" true
  iso_Share : IsoF M "Share" ["Share"]
  xc_NoShare : XcF M "NoShare"
  xf_NoShare_num : XfF M "NoShare" "num"
  xf_NoShare_over : XfF M "NoShare" "over"
abbrev xN_l_cell_at : List Str := ["_law_script", "_law_k"]
abbrev xC_l_cell_at : Cs := ⟨xN_l_cell_at, defScope xs_l_cell_at, fun _ => true⟩
section
variable {M : Md} {W : WX} {k : Nat} {X : Cx}
theorem xo_l_cell_at_0 (g : G M xC_l_cell_at W k X) {pos : Pos} : PE X (.Name "_law_script" pos) (tO M W (.sl 0)) := e_sl g.toG0 rfl (by first | exact Or.inl (by decide +kernel) | exact Or.inr (Or.inl (by decide +kernel)) | exact Or.inr (Or.inr (by decide +kernel))) (by decide +kernel) (by decide +kernel)
theorem xo_l_cell_at_1 (g : G M xC_l_cell_at W k X) {pos : Pos} : PE X (.Name "_law_k" pos) (tO M W (.sl 1)) := e_sl g.toG0 rfl (by first | exact Or.inl (by decide +kernel) | exact Or.inr (Or.inl (by decide +kernel)) | exact Or.inr (Or.inr (by decide +kernel))) (by decide +kernel) (by decide +kernel)
theorem xw_l_cell_at (E : Env M)  (hk : 0 ≤ k) (g : G M xC_l_cell_at W k X) : PSs X (defBody xs_l_cell_at) (tS M W xb_l_cell_at) :=
  s_cons (s_if (t_cmp o_lt (xo_l_cell_at_1 g) (o_ex (e_callB g.toG0 (f := gLen) (c_glen g.hK) (by decide +kernel) E.b_len boot_len (a_cons (xo_l_cell_at_0 g) (a_nil) rfl) (by decide +kernel) (by decide +kernel) rfl rfl)) rfl) (s_one (s_ret (e_gix g.toG0 (xo_l_cell_at_0 g) (xo_l_cell_at_1 g) (by intro _ _; rfl)))) s_nil)
  (s_one (s_ret (e_int)))
theorem xsc_l_cell_at : FnScope xN_l_cell_at ["_law_script", "_law_k"] (defScope xs_l_cell_at) := ⟨rfl, rfl, rfl, by decide +kernel, rfl, by decide +kernel, by decide +kernel⟩
abbrev xF_l_cell_at (K : PySem.W.Frag) (f : Addr) (fd : FuncData) : Prop := FunD K "_law_cell_at" "_law_cell_at" (defArgs xs_l_cell_at) (defBody xs_l_cell_at) (defScope xs_l_cell_at) [] [] f fd
theorem xv_l_cell_at (hx : M.xn = none) (E : Env M)  {f : Addr} {fd : FuncData} (F : xF_l_cell_at M.K f fd) (hm : M.mg "_law_cell_at" = some (.ref f)) : FnV M 1 "_law_cell_at" 2 xf_l_cell_at :=
  ⟨f, fd, ["_law_script", "_law_k"], fn_ok hx (k := 0) F xsc_l_cell_at (fun X W g => xw_l_cell_at E  (Nat.le_refl _) g), hm, F.kp, rfl, F.bindsN fun _ _ _ _ _ _ us hl => match us, hl with | [_, _], _ => rfl⟩
end
abbrev xN_l_well : List Str := ["_law_cell"]
abbrev xC_l_well : Cs := ⟨xN_l_well, defScope xs_l_well, fun _ => true⟩
section
variable {M : Md} {W : WX} {k : Nat} {X : Cx}
theorem xo_l_well_0 (g : G M xC_l_well W k X) {pos : Pos} : PE X (.Name "_law_cell" pos) (tO M W (.sl 0)) := e_sl g.toG0 rfl (by first | exact Or.inl (by decide +kernel) | exact Or.inr (Or.inl (by decide +kernel)) | exact Or.inr (Or.inr (by decide +kernel))) (by decide +kernel) (by decide +kernel)
theorem xn_l_well_0 (g : G M xC_l_well W k X) {pos : Pos} : PE X (.Name "_law_cell" pos) (tE M W (nm 0)) := e_nm g.toG0 rfl (by first | exact Or.inl (by decide +kernel) | exact Or.inr (Or.inl (by decide +kernel)) | exact Or.inr (Or.inr (by decide +kernel))) (by decide +kernel) (by decide +kernel)
theorem xw_l_well (E : Env M)  (hk : 0 ≤ k) (g : G M xC_l_well W k X) : PSs X (defBody xs_l_well) (tS M W xb_l_well) :=
  s_one (s_ret (e_lst (φs := [app gItem [.ex (disp mkL [cst (.int 0), nm 0]), .ex (app fInt [.ex (app fGe [.sl 0, .ex (app fPow [.ex (cst (.int 10)), .ex (cst (.int 18))])])])], app fMod [.sl 0, .ex (cst (.int 2147483629))], cst (.int 0)]) (a_cons (o_ex (e_gix g.toG0 (o_ex (e_lst (φs := [cst (.int 0), nm 0]) (a_cons (o_ex (e_int)) (a_cons (o_ex (xn_l_well_0 g)) (a_nil) rfl) rfl) (by decide))) (o_ex (e_callTy g.toG0 (f := fInt) (c_int) (by decide +kernel) E.b_int boot_int (a_cons (o_ex (e_cmp o_ge (xo_l_well_0 g) (o_ex (e_bin o_pow (o_ex (e_int)) (o_ex (e_int)))) rfl)) (a_nil) rfl) (by decide +kernel) (by decide +kernel) rfl rfl)) (by intro _ _; rfl))) (a_cons (o_ex (e_bin o_mod (xo_l_well_0 g) (o_ex (e_int)))) (a_cons (o_ex (e_int)) (a_nil) rfl) rfl) rfl) (by decide)))
theorem xsc_l_well : FnScope xN_l_well ["_law_cell"] (defScope xs_l_well) := ⟨rfl, rfl, rfl, by decide +kernel, rfl, by decide +kernel, by decide +kernel⟩
abbrev xF_l_well (K : PySem.W.Frag) (f : Addr) (fd : FuncData) : Prop := FunD K "_law_well" "_law_well" (defArgs xs_l_well) (defBody xs_l_well) (defScope xs_l_well) [] [] f fd
theorem xv_l_well (hx : M.xn = none) (E : Env M)  {f : Addr} {fd : FuncData} (F : xF_l_well M.K f fd) (hm : M.mg "_law_well" = some (.ref f)) : FnV M 1 "_law_well" 1 xf_l_well :=
  ⟨f, fd, ["_law_cell"], fn_ok hx (k := 0) F xsc_l_well (fun X W g => xw_l_well E  (Nat.le_refl _) g), hm, F.kp, rfl, F.bindsN fun _ _ _ _ _ _ us hl => match us, hl with | [_], _ => rfl⟩
end
abbrev xN_l_draw : List Str := ["_law_well_here", "_law_size", "_law_mix", "_law_digit"]
abbrev xC_l_draw : Cs := ⟨xN_l_draw, defScope xs_l_draw, fun _ => true⟩
section
variable {M : Md} {W : WX} {k : Nat} {X : Cx}
theorem xo_l_draw_0 (g : G M xC_l_draw W k X) {pos : Pos} : PE X (.Name "_law_well_here" pos) (tO M W (.sl 0)) := e_sl g.toG0 rfl (by first | exact Or.inl (by decide +kernel) | exact Or.inr (Or.inl (by decide +kernel)) | exact Or.inr (Or.inr (by decide +kernel))) (by decide +kernel) (by decide +kernel)
theorem xo_l_draw_1 (g : G M xC_l_draw W k X) {pos : Pos} : PE X (.Name "_law_size" pos) (tO M W (.sl 1)) := e_sl g.toG0 rfl (by first | exact Or.inl (by decide +kernel) | exact Or.inr (Or.inl (by decide +kernel)) | exact Or.inr (Or.inr (by decide +kernel))) (by decide +kernel) (by decide +kernel)
theorem xo_l_draw_2 (g : G M xC_l_draw W k X) {pos : Pos} : PE X (.Name "_law_mix" pos) (tO M W (.sl 2)) := e_sl g.toG0 rfl (by first | exact Or.inl (by decide +kernel) | exact Or.inr (Or.inl (by decide +kernel)) | exact Or.inr (Or.inr (by decide +kernel))) (by decide +kernel) (by decide +kernel)
theorem xw_l_draw (E : Env M)  (hk : 0 ≤ k) (g : G M xC_l_draw W k X) : PSs X (defBody xs_l_draw) (tS M W xb_l_draw) :=
  s_cons (s_if (t_cmp o_gt (o_ex (e_gix g.toG0 (xo_l_draw_0 g) (o_ex (e_int)) (by intro _ _; rfl))) (o_ex (e_int)) rfl) (s_cons (s_set g (i := 3) rfl (by first | exact Or.inl (by decide +kernel) | exact Or.inr (by decide +kernel)) (e_bin o_mod (o_ex (e_gix g.toG0 (xo_l_draw_0 g) (o_ex (e_int)) (by intro _ _; rfl))) (xo_l_draw_1 g)) rfl (.inl rfl))
  (s_frz (s_cons (s_storeG g (i := 0) rfl (by first | exact Or.inl (by decide +kernel) | exact Or.inr (Or.inl (by decide +kernel)) | exact Or.inr (Or.inr (by decide +kernel))) (by decide +kernel) (by decide +kernel) (e_bin o_fdiv (o_ex (e_gix g.toG0 (xo_l_draw_0 g) (o_ex (e_int)) (by intro _ _; rfl))) (xo_l_draw_1 g)) (o_ex (e_int)) (by intro _; rfl) rfl rfl rfl)
  (s_one (s_retI g.toG0 (i := 3) rfl (by first | exact Or.inl (by decide +kernel) | exact Or.inr (Or.inl (by decide +kernel)) | exact Or.inr (Or.inr (by decide +kernel))) (by decide +kernel) (by decide +kernel)))))) s_nil)
  (s_cons (s_storeG g (i := 0) rfl (by first | exact Or.inl (by decide +kernel) | exact Or.inr (Or.inl (by decide +kernel)) | exact Or.inr (Or.inr (by decide +kernel))) (by decide +kernel) (by decide +kernel) (e_bin (o_add g.hK) (o_ex (e_gix g.toG0 (xo_l_draw_0 g) (o_ex (e_int)) (by intro _ _; rfl))) (o_ex (e_int))) (o_ex (e_int)) (by intro _; rfl) rfl rfl rfl)
  (s_cons (s_set g (i := 2) rfl (by first | exact Or.inl (by decide +kernel) | exact Or.inr (by decide +kernel)) (e_bin o_mod (o_ex (e_bin o_pow (o_ex (e_bin (o_add g.hK) (o_ex (e_bin (o_add g.hK) (o_ex (e_gix g.toG0 (xo_l_draw_0 g) (o_ex (e_int)) (by intro _ _; rfl))) (o_ex (e_bin o_mul (o_ex (e_int)) (o_ex (e_gix g.toG0 (xo_l_draw_0 g) (o_ex (e_int)) (by intro _ _; rfl))))))) (o_ex (e_int)))) (o_ex (e_int)))) (o_ex (e_int))) rfl (.inl rfl))
  (s_frz (s_cons (s_set g (i := 2) rfl (by first | exact Or.inl (by decide +kernel) | exact Or.inr (by decide +kernel)) (e_bin o_mod (o_ex (e_bin o_mul (xo_l_draw_2 g) (o_ex (e_bin (o_add g.hK) (o_ex (e_bin (o_add g.hK) (o_ex (e_bin o_fdiv (xo_l_draw_2 g) (o_ex (e_int)))) (o_ex (e_int)))) (o_ex (e_gix g.toG0 (xo_l_draw_0 g) (o_ex (e_int)) (by intro _ _; rfl))))))) (o_ex (e_int))) rfl (.inl rfl))
  (s_frz (s_one (s_ret (e_bin o_mod (o_ex (e_bin o_mod (o_ex (e_bin o_mul (xo_l_draw_2 g) (o_ex (e_bin (o_add g.hK) (o_ex (e_bin o_fdiv (xo_l_draw_2 g) (o_ex (e_int)))) (o_ex (e_int)))))) (o_ex (e_int)))) (xo_l_draw_1 g)))))))))
theorem xsc_l_draw : FnScope xN_l_draw ["_law_well_here", "_law_size"] (defScope xs_l_draw) := ⟨rfl, rfl, rfl, by decide +kernel, rfl, by decide +kernel, by decide +kernel⟩
abbrev xF_l_draw (K : PySem.W.Frag) (f : Addr) (fd : FuncData) : Prop := FunD K "_law_draw" "_law_draw" (defArgs xs_l_draw) (defBody xs_l_draw) (defScope xs_l_draw) [] [] f fd
theorem xv_l_draw (hx : M.xn = none) (E : Env M)  {f : Addr} {fd : FuncData} (F : xF_l_draw M.K f fd) (hm : M.mg "_law_draw" = some (.ref f)) : FnV M 1 "_law_draw" 2 xf_l_draw :=
  ⟨f, fd, ["_law_well_here", "_law_size"], fn_ok hx (k := 0) F xsc_l_draw (fun X W g => xw_l_draw E  (Nat.le_refl _) g), hm, F.kp, rfl, F.bindsN fun _ _ _ _ _ _ us hl => match us, hl with | [_, _], _ => rfl⟩
end
abbrev xN_l_one : List Str := ["_law_well_here", "_law_some"]
abbrev xC_l_one : Cs := ⟨xN_l_one, defScope xs_l_one, fun _ => true⟩
section
variable {M : Md} {W : WX} {k : Nat} {X : Cx}
theorem xo_l_one_0 (g : G M xC_l_one W k X) {pos : Pos} : PE X (.Name "_law_well_here" pos) (tO M W (.sl 0)) := e_sl g.toG0 rfl (by first | exact Or.inl (by decide +kernel) | exact Or.inr (Or.inl (by decide +kernel)) | exact Or.inr (Or.inr (by decide +kernel))) (by decide +kernel) (by decide +kernel)
theorem xo_l_one_1 (g : G M xC_l_one W k X) {pos : Pos} : PE X (.Name "_law_some" pos) (tO M W (.sl 1)) := e_sl g.toG0 rfl (by first | exact Or.inl (by decide +kernel) | exact Or.inr (Or.inl (by decide +kernel)) | exact Or.inr (Or.inr (by decide +kernel))) (by decide +kernel) (by decide +kernel)
theorem xw_l_one (E : Env M) (xh_l_draw : FnV M 1 "_law_draw" 2 xf_l_draw) (hk : 1 ≤ k) (g : G M xC_l_one W k X) : PSs X (defBody xs_l_one) (tS M W xb_l_one) :=
  s_one (s_ret (e_gix g.toG0 (xo_l_one_1 g) (o_ex (e_call g xh_l_draw (Nat.le_trans (by decide) hk) (by decide +kernel) (a_cons (xo_l_one_0 g) (a_cons (o_ex (e_callB g.toG0 (f := gLen) (c_glen g.hK) (by decide +kernel) E.b_len boot_len (a_cons (xo_l_one_1 g) (a_nil) rfl) (by decide +kernel) (by decide +kernel) rfl rfl)) (a_nil) rfl) rfl) rfl (by decide +kernel) rfl rfl)) (by intro _ _; rfl)))
theorem xsc_l_one : FnScope xN_l_one ["_law_well_here", "_law_some"] (defScope xs_l_one) := ⟨rfl, rfl, rfl, by decide +kernel, rfl, by decide +kernel, by decide +kernel⟩
abbrev xF_l_one (K : PySem.W.Frag) (f : Addr) (fd : FuncData) : Prop := FunD K "_law_one" "_law_one" (defArgs xs_l_one) (defBody xs_l_one) (defScope xs_l_one) [] [] f fd
theorem xv_l_one (hx : M.xn = none) (E : Env M) (xh_l_draw : FnV M 1 "_law_draw" 2 xf_l_draw) {f : Addr} {fd : FuncData} (F : xF_l_one M.K f fd) (hm : M.mg "_law_one" = some (.ref f)) : FnV M 2 "_law_one" 2 xf_l_one :=
  ⟨f, fd, ["_law_well_here", "_law_some"], fn_ok hx (k := 1) F xsc_l_one (fun X W g => xw_l_one E xh_l_draw (Nat.le_refl _) g), hm, F.kp, rfl, F.bindsN fun _ _ _ _ _ _ us hl => match us, hl with | [_, _], _ => rfl⟩
end
abbrev xN_l_number : List Str := ["_law_well_here", "_law_far"]
abbrev xC_l_number : Cs := ⟨xN_l_number, defScope xs_l_number, fun _ => true⟩
section
variable {M : Md} {W : WX} {k : Nat} {X : Cx}
theorem xo_l_number_0 (g : G M xC_l_number W k X) {pos : Pos} : PE X (.Name "_law_well_here" pos) (tO M W (.sl 0)) := e_sl g.toG0 rfl (by first | exact Or.inl (by decide +kernel) | exact Or.inr (Or.inl (by decide +kernel)) | exact Or.inr (Or.inr (by decide +kernel))) (by decide +kernel) (by decide +kernel)
theorem xn_l_number_1 (g : G M xC_l_number W k X) {pos : Pos} : PE X (.Name "_law_far" pos) (tE M W (nm 1)) := e_nm g.toG0 rfl (by first | exact Or.inl (by decide +kernel) | exact Or.inr (Or.inl (by decide +kernel)) | exact Or.inr (Or.inr (by decide +kernel))) (by decide +kernel) (by decide +kernel)
theorem xw_l_number (E : Env M) (xh_l_draw : FnV M 1 "_law_draw" 2 xf_l_draw) (xh_l_one : FnV M 2 "_law_one" 2 xf_l_one) (hk : 2 ≤ k) (g : G M xC_l_number W k X) : PSs X (defBody xs_l_number) (tS M W xb_l_number) :=
  s_cons (s_set g (i := 1) rfl (by first | exact Or.inl (by decide +kernel) | exact Or.inr (by decide +kernel)) (e_bin o_sub (o_ex (e_call g xh_l_draw (Nat.le_trans (by decide) hk) (by decide +kernel) (a_cons (xo_l_number_0 g) (a_cons (o_ex (e_bin o_mul (o_ex (e_bin o_pow (o_ex (e_int)) (o_ex (e_int)))) (o_ex (e_bin o_pow (o_ex (e_int)) (o_ex (e_int)))))) (a_nil) rfl) rfl) rfl (by decide +kernel) rfl rfl)) (o_ex (e_bin o_mul (o_ex (e_bin o_pow (o_ex (e_int)) (o_ex (e_int)))) (o_ex (e_bin o_pow (o_ex (e_int)) (o_ex (e_int))))))) rfl (.inl rfl))
  (s_frz (s_one (s_ret (e_call g xh_l_one (Nat.le_trans (by decide) hk) (by decide +kernel) (a_cons (xo_l_number_0 g) (a_cons (o_ex (e_lst (φs := [app fSub [.ex (callF xf_l_draw [.sl 0, .ex (cst (.int 13))] []), .ex (cst (.int 6))], app fSub [.ex (callF xf_l_draw [.sl 0, .ex (cst (.int 2000))] []), .ex (cst (.int 1000))], nm 1]) (a_cons (o_ex (e_bin o_sub (o_ex (e_call g xh_l_draw (Nat.le_trans (by decide) hk) (by decide +kernel) (a_cons (xo_l_number_0 g) (a_cons (o_ex (e_int)) (a_nil) rfl) rfl) rfl (by decide +kernel) rfl rfl)) (o_ex (e_int)))) (a_cons (o_ex (e_bin o_sub (o_ex (e_call g xh_l_draw (Nat.le_trans (by decide) hk) (by decide +kernel) (a_cons (xo_l_number_0 g) (a_cons (o_ex (e_int)) (a_nil) rfl) rfl) rfl (by decide +kernel) rfl rfl)) (o_ex (e_int)))) (a_cons (o_ex (xn_l_number_1 g)) (a_nil) rfl) rfl) rfl) (by decide))) (a_nil) rfl) rfl) rfl (by decide +kernel) rfl rfl))))
theorem xsc_l_number : FnScope xN_l_number ["_law_well_here"] (defScope xs_l_number) := ⟨rfl, rfl, rfl, by decide +kernel, rfl, by decide +kernel, by decide +kernel⟩
abbrev xF_l_number (K : PySem.W.Frag) (f : Addr) (fd : FuncData) : Prop := FunD K "_law_number" "_law_number" (defArgs xs_l_number) (defBody xs_l_number) (defScope xs_l_number) [] [] f fd
theorem xv_l_number (hx : M.xn = none) (E : Env M) (xh_l_draw : FnV M 1 "_law_draw" 2 xf_l_draw) (xh_l_one : FnV M 2 "_law_one" 2 xf_l_one) {f : Addr} {fd : FuncData} (F : xF_l_number M.K f fd) (hm : M.mg "_law_number" = some (.ref f)) : FnV M 3 "_law_number" 1 xf_l_number :=
  ⟨f, fd, ["_law_well_here"], fn_ok hx (k := 2) F xsc_l_number (fun X W g => xw_l_number E xh_l_draw xh_l_one (Nat.le_refl _) g), hm, F.kp, rfl, F.bindsN fun _ _ _ _ _ _ us hl => match us, hl with | [_], _ => rfl⟩
end
abbrev xN_l_lowest : List Str := ["_law_top", "_law_ground", "_law_one_here", "_law_rest"]
abbrev xC_l_lowest : Cs := ⟨xN_l_lowest, defScope xs_l_lowest, fun _ => true⟩
section
variable {M : Md} {W : WX} {k : Nat} {X : Cx}
theorem xo_l_lowest_0 (g : G M xC_l_lowest W k X) {pos : Pos} : PE X (.Name "_law_top" pos) (tO M W (.sl 0)) := e_sl g.toG0 rfl (by first | exact Or.inl (by decide +kernel) | exact Or.inr (Or.inl (by decide +kernel)) | exact Or.inr (Or.inr (by decide +kernel))) (by decide +kernel) (by decide +kernel)
theorem xo_l_lowest_1 (g : G M xC_l_lowest W k X) {pos : Pos} : PE X (.Name "_law_ground" pos) (tO M W (.sl 1)) := e_sl g.toG0 rfl (by first | exact Or.inl (by decide +kernel) | exact Or.inr (Or.inl (by decide +kernel)) | exact Or.inr (Or.inr (by decide +kernel))) (by decide +kernel) (by decide +kernel)
theorem xo_l_lowest_2 (g : G M xC_l_lowest W k X) {pos : Pos} : PE X (.Name "_law_one_here" pos) (tO M W (.sl 2)) := e_sl g.toG0 rfl (by first | exact Or.inl (by decide +kernel) | exact Or.inr (Or.inl (by decide +kernel)) | exact Or.inr (Or.inr (by decide +kernel))) (by decide +kernel) (by decide +kernel)
theorem xo_l_lowest_3 (g : G M xC_l_lowest W k X) {pos : Pos} : PE X (.Name "_law_rest" pos) (tO M W (.sl 3)) := e_sl g.toG0 rfl (by first | exact Or.inl (by decide +kernel) | exact Or.inr (Or.inl (by decide +kernel)) | exact Or.inr (Or.inr (by decide +kernel))) (by decide +kernel) (by decide +kernel)
theorem xn_l_lowest_3 (g : G M xC_l_lowest W k X) {pos : Pos} : PE X (.Name "_law_rest" pos) (tE M W (nm 3)) := e_nm g.toG0 rfl (by first | exact Or.inl (by decide +kernel) | exact Or.inr (Or.inl (by decide +kernel)) | exact Or.inr (Or.inr (by decide +kernel))) (by decide +kernel) (by decide +kernel)
theorem xw_l_lowest (E : Env M)  (hk : 0 ≤ k) (g : G M xC_l_lowest W k X) : PSs X (defBody xs_l_lowest) (tS M W xb_l_lowest) :=
  s_cons (s_par g (i := 2) (j := 3) rfl rfl (by decide) rfl (by decide +kernel) (by decide +kernel) (by decide +kernel) rfl rfl rfl rfl (a_cons (o_ex (e_callB g.toG0 (f := fAbs) (c_abs) (by decide +kernel) E.b_abs boot_abs (a_cons (xo_l_lowest_0 g) (a_nil) rfl) (by decide +kernel) (by decide +kernel) rfl rfl)) (a_cons (o_ex (e_callB g.toG0 (f := fAbs) (c_abs) (by decide +kernel) E.b_abs boot_abs (a_cons (xo_l_lowest_1 g) (a_nil) rfl) (by decide +kernel) (by decide +kernel) rfl rfl)) a_nil rfl) rfl) rfl)
  (s_cons (s_while g (2 ^ 64) (t_cmp o_gt (xo_l_lowest_3 g) (o_ex (e_int)) rfl) (s_cons (s_par g (i := 2) (j := 3) rfl rfl (by decide) rfl (by decide +kernel) (by decide +kernel) (by decide +kernel) rfl rfl rfl rfl (a_cons (o_ex (xn_l_lowest_3 g)) (a_cons (o_ex (e_bin o_mod (xo_l_lowest_2 g) (xo_l_lowest_3 g))) a_nil rfl) rfl) rfl)
  (s_nil)))
  (s_cons (s_if (t_cmp o_lt (xo_l_lowest_1 g) (o_ex (e_int)) rfl) (s_cons (s_set g (i := 2) rfl (by first | exact Or.inl (by decide +kernel) | exact Or.inr (by decide +kernel)) (e_bin o_sub (o_ex (e_int)) (xo_l_lowest_2 g)) rfl (.inl rfl))
  (s_frz (s_nil))) (s_nil))
  (s_one (s_ret (e_tup (φs := [app fFdiv [.sl 0, .sl 2], app fFdiv [.sl 1, .sl 2]]) (a_cons (o_ex (e_bin o_fdiv (xo_l_lowest_0 g) (xo_l_lowest_2 g))) (a_cons (o_ex (e_bin o_fdiv (xo_l_lowest_1 g) (xo_l_lowest_2 g))) (a_nil) rfl) rfl) (by decide))))))
theorem xsc_l_lowest : FnScope xN_l_lowest ["_law_top", "_law_ground"] (defScope xs_l_lowest) := ⟨rfl, rfl, rfl, by decide +kernel, rfl, by decide +kernel, by decide +kernel⟩
abbrev xF_l_lowest (K : PySem.W.Frag) (f : Addr) (fd : FuncData) : Prop := FunD K "_law_lowest" "_law_lowest" (defArgs xs_l_lowest) (defBody xs_l_lowest) (defScope xs_l_lowest) [] [] f fd
theorem xv_l_lowest (hx : M.xn = none) (E : Env M)  {f : Addr} {fd : FuncData} (F : xF_l_lowest M.K f fd) (hm : M.mg "_law_lowest" = some (.ref f)) : FnV M 1 "_law_lowest" 2 xf_l_lowest :=
  ⟨f, fd, ["_law_top", "_law_ground"], fn_ok hx (k := 0) F xsc_l_lowest (fun X W g => xw_l_lowest E  (Nat.le_refl _) g), hm, F.kp, rfl, F.bindsN fun _ _ _ _ _ _ us hl => match us, hl with | [_, _], _ => rfl⟩
end
abbrev xN_common_part : List Str := ["one", "other"]
abbrev xC_common_part : Cs := ⟨xN_common_part, defScope xs_common_part, fun _ => true⟩
section
variable {M : Md} {W : WX} {k : Nat} {X : Cx}
theorem xo_common_part_0 (g : G M xC_common_part W k X) {pos : Pos} : PE X (.Name "one" pos) (tO M W (.sl 0)) := e_sl g.toG0 rfl (by first | exact Or.inl (by decide +kernel) | exact Or.inr (Or.inl (by decide +kernel)) | exact Or.inr (Or.inr (by decide +kernel))) (by decide +kernel) (by decide +kernel)
theorem xo_common_part_1 (g : G M xC_common_part W k X) {pos : Pos} : PE X (.Name "other" pos) (tO M W (.sl 1)) := e_sl g.toG0 rfl (by first | exact Or.inl (by decide +kernel) | exact Or.inr (Or.inl (by decide +kernel)) | exact Or.inr (Or.inr (by decide +kernel))) (by decide +kernel) (by decide +kernel)
theorem xn_common_part_1 (g : G M xC_common_part W k X) {pos : Pos} : PE X (.Name "other" pos) (tE M W (nm 1)) := e_nm g.toG0 rfl (by first | exact Or.inl (by decide +kernel) | exact Or.inr (Or.inl (by decide +kernel)) | exact Or.inr (Or.inr (by decide +kernel))) (by decide +kernel) (by decide +kernel)
theorem xw_common_part (E : Env M)  (hk : 0 ≤ k) (g : G M xC_common_part W k X) : PSs X (defBody xs_common_part) (tS M W xb_common_part) :=
  s_cons (s_par g (i := 0) (j := 1) rfl rfl (by decide) rfl (by decide +kernel) (by decide +kernel) (by decide +kernel) rfl rfl rfl rfl (a_cons (o_ex (e_callB g.toG0 (f := fAbs) (c_abs) (by decide +kernel) E.b_abs boot_abs (a_cons (xo_common_part_0 g) (a_nil) rfl) (by decide +kernel) (by decide +kernel) rfl rfl)) (a_cons (o_ex (e_callB g.toG0 (f := fAbs) (c_abs) (by decide +kernel) E.b_abs boot_abs (a_cons (xo_common_part_1 g) (a_nil) rfl) (by decide +kernel) (by decide +kernel) rfl rfl)) a_nil rfl) rfl) rfl)
  (s_cons (s_while g (2 ^ 64) (t_cmp (o_ne g.hK g.hu) (xo_common_part_1 g) (o_ex (e_int)) rfl) (s_cons (s_par g (i := 0) (j := 1) rfl rfl (by decide) rfl (by decide +kernel) (by decide +kernel) (by decide +kernel) rfl rfl rfl rfl (a_cons (o_ex (xn_common_part_1 g)) (a_cons (o_ex (e_bin o_mod (xo_common_part_0 g) (xo_common_part_1 g))) a_nil rfl) rfl) rfl)
  (s_nil)))
  (s_one (s_retI g.toG0 (i := 0) rfl (by first | exact Or.inl (by decide +kernel) | exact Or.inr (Or.inl (by decide +kernel)) | exact Or.inr (Or.inr (by decide +kernel))) (by decide +kernel) (by decide +kernel))))
theorem xsc_common_part : FnScope xN_common_part ["one", "other"] (defScope xs_common_part) := ⟨rfl, rfl, rfl, by decide +kernel, rfl, by decide +kernel, by decide +kernel⟩
abbrev xF_common_part (K : PySem.W.Frag) (f : Addr) (fd : FuncData) : Prop := FunD K "common_part" "common_part" (defArgs xs_common_part) (defBody xs_common_part) (defScope xs_common_part) [] [] f fd
theorem xv_common_part (hx : M.xn = none) (E : Env M)  {f : Addr} {fd : FuncData} (F : xF_common_part M.K f fd) (hm : M.mg "common_part" = some (.ref f)) : FnV M 1 "common_part" 2 xf_common_part :=
  ⟨f, fd, ["one", "other"], fn_ok hx (k := 0) F xsc_common_part (fun X W g => xw_common_part E  (Nat.le_refl _) g), hm, F.kp, rfl, F.bindsN fun _ _ _ _ _ _ us hl => match us, hl with | [_, _], _ => rfl⟩
end
abbrev xN_Share_initX : List Str := ["self", "num", "over", "part"]
abbrev xC_Share_initX : Cs := ⟨xN_Share_initX, defScope xs_Share_initX, fun _ => true⟩
section
variable {M : Md} {W : WX} {k : Nat} {X : Cx}
theorem xo_Share_init_1 (g : G M xC_Share_initX W k X) {pos : Pos} : PE X (.Name "num" pos) (tO M W (.sl 1)) := e_sl g.toG0 rfl (by first | exact Or.inl (by decide +kernel) | exact Or.inr (Or.inl (by decide +kernel)) | exact Or.inr (Or.inr (by decide +kernel))) (by decide +kernel) (by decide +kernel)
theorem xn_Share_init_1 (g : G M xC_Share_initX W k X) {pos : Pos} : PE X (.Name "num" pos) (tE M W (nm 1)) := e_nm g.toG0 rfl (by first | exact Or.inl (by decide +kernel) | exact Or.inr (Or.inl (by decide +kernel)) | exact Or.inr (Or.inr (by decide +kernel))) (by decide +kernel) (by decide +kernel)
theorem xo_Share_init_2 (g : G M xC_Share_initX W k X) {pos : Pos} : PE X (.Name "over" pos) (tO M W (.sl 2)) := e_sl g.toG0 rfl (by first | exact Or.inl (by decide +kernel) | exact Or.inr (Or.inl (by decide +kernel)) | exact Or.inr (Or.inr (by decide +kernel))) (by decide +kernel) (by decide +kernel)
theorem xn_Share_init_2 (g : G M xC_Share_initX W k X) {pos : Pos} : PE X (.Name "over" pos) (tE M W (nm 2)) := e_nm g.toG0 rfl (by first | exact Or.inl (by decide +kernel) | exact Or.inr (Or.inl (by decide +kernel)) | exact Or.inr (Or.inr (by decide +kernel))) (by decide +kernel) (by decide +kernel)
theorem xo_Share_init_3 (g : G M xC_Share_initX W k X) {pos : Pos} : PE X (.Name "part" pos) (tO M W (.sl 3)) := e_sl g.toG0 rfl (by first | exact Or.inl (by decide +kernel) | exact Or.inr (Or.inl (by decide +kernel)) | exact Or.inr (Or.inr (by decide +kernel))) (by decide +kernel) (by decide +kernel)
theorem xw_Share_initX (E : Env M) (xh_common_part : FnV M 1 "common_part" 2 xf_common_part) (hk : 3 ≤ k) (g : G M xC_Share_initX W k X) : PSs X (defBody xs_Share_initX) (tS M W xb_Share_initX) :=
  s_cons (s_if (t_cmp (o_eq g.hK g.hu) (xo_Share_init_2 g) (o_ex (e_int)) rfl) (s_one (s_raiseD (φs1 := [nm 1]) (φs2 := [cst (.int 0)]) g E.ers_NoShare (Nat.le_trans (by decide) hk) (by decide +kernel) (by decide +kernel) (pa_cons (o_ex (xn_Share_init_1 g)) pa_nil rfl) (k_consK (o_ex (e_int)) k_nilK) rfl (by decide) rfl (by decide) rfl rfl rfl rfl)) s_nil)
  (s_cons (s_set g (i := 3) rfl (by first | exact Or.inl (by decide +kernel) | exact Or.inr (by decide +kernel)) (e_call g xh_common_part (Nat.le_trans (by decide) hk) (by decide +kernel) (a_cons (o_ex (xn_Share_init_1 g)) (a_cons (o_ex (xn_Share_init_2 g)) (a_nil) rfl) rfl) rfl (by decide +kernel) rfl rfl) rfl (.inl rfl))
  (s_frz (s_cons (s_if (t_cmp o_lt (xo_Share_init_2 g) (o_ex (e_int)) rfl) (s_cons (s_set g (i := 3) rfl (by first | exact Or.inl (by decide +kernel) | exact Or.inr (by decide +kernel)) (e_bin o_sub (o_ex (e_int)) (xo_Share_init_3 g)) rfl (.inl rfl))
  (s_frz (s_nil))) (s_nil))
  (s_cons (s_fld g (i := 0) E.f_num rfl (by first | exact Or.inl (by decide +kernel) | exact Or.inr (Or.inl (by decide +kernel)) | exact Or.inr (Or.inr (by decide +kernel))) (by decide +kernel) (by decide +kernel) (e_bin o_fdiv (xo_Share_init_1 g) (xo_Share_init_3 g)) rfl)
  (s_cons (s_fld g (i := 0) E.f_over rfl (by first | exact Or.inl (by decide +kernel) | exact Or.inr (Or.inl (by decide +kernel)) | exact Or.inr (Or.inr (by decide +kernel))) (by decide +kernel) (by decide +kernel) (e_bin o_fdiv (xo_Share_init_2 g) (xo_Share_init_3 g)) rfl)
  (s_kill (s_nil)))))))
theorem xsc_Share_initX : FnScope xN_Share_initX ["self", "num", "over"] (defScope xs_Share_initX) := ⟨rfl, rfl, rfl, by decide +kernel, rfl, by decide +kernel, by decide +kernel⟩
abbrev xF_Share_initX (dv0 : V) (K : PySem.W.Frag) (f : Addr) (fd : FuncData) : Prop := FunD K "__init__" "Share.__init__" (defArgs xs_Share_initX) (defBody xs_Share_initX) (defScope xs_Share_initX) [dv0] [] f fd
theorem xm_Share_1 (hx : M.xn = none) (E : Env M) (xh_common_part : FnV M 1 "common_part" 2 xf_common_part) {C f : Addr} {fd : FuncData} (F : xF_Share_initX (V.int 1) M.K f fd) (hcl : ("Share" : Str) ∈ M.cls) (hm : M.mg "Share" = some (.ref C)) (mk : Mk M.K C f) : MkV M 4 "Share" 2 [.int 1] xf_Share_initX := by
  obtain ⟨ds, h1, h2⟩ := F.binds1 (ps := ["self", "num", "over"]) 2 0 (fun z => nomatch z) rfl fun _ _ _ _ _ _ _ us its hl hi => match us, its, hl, hi with | [_, _], [_], _, _ => ⟨_, rfl, by kernel_rfl⟩
  exact ⟨C, f, fd, ["self", "num", "over"], [V.int 1], ds, ⟨hcl, hm⟩, mk, fn_ok hx (k := 3) F xsc_Share_initX (fun X W g => xw_Share_initX E xh_common_part (Nat.le_refl _) g), ⟨_, _, rfl, fun F H => (by unfold Rep; rfl), rfl⟩, h1, h2⟩
theorem xm_Share_2 (hx : M.xn = none) (E : Env M) (xh_common_part : FnV M 1 "common_part" 2 xf_common_part) {dv0 : V} {C f : Addr} {fd : FuncData} (F : xF_Share_initX dv0 M.K f fd) (hcl : ("Share" : Str) ∈ M.cls) (hm : M.mg "Share" = some (.ref C)) (mk : Mk M.K C f) : MkV M 4 "Share" 2 [] xf_Share_initX := by
  obtain ⟨ds, h1, h2⟩ := F.binds1 (ps := ["self", "num", "over"]) 3 1 (fun z => nomatch z) rfl fun _ _ _ _ _ _ _ us its hl hi => match us, its, hl, hi with | [_, _, _], [_], _, _ => ⟨_, rfl, by kernel_rfl⟩
  exact ⟨C, f, fd, ["self", "num", "over"], [], ds, ⟨hcl, hm⟩, mk, fn_ok hx (k := 3) F xsc_Share_initX (fun X W g => xw_Share_initX E xh_common_part (Nat.le_refl _) g), rfl, h1, h2⟩
theorem xmk_Share_0_num_over (hx : M.xn = none) (E : Env M) (xh_common_part : FnV M 1 "common_part" 2 xf_common_part) {dv0 : V} {C f : Addr} {fd : FuncData} (F : xF_Share_initX dv0 M.K f fd) (hcl : ("Share" : Str) ∈ M.cls) (hm : M.mg "Share" = some (.ref C)) (mk : Mk M.K C f) : MkVK M 4 "Share" 0 ["num", "over"] [.at 0, .at 1] xf_Share_initX := by
  obtain ⟨its, hb⟩ := F.kbindsD (ps := ["self", "num", "over"]) 1 ["num", "over"] (fun us its ws => gsel [0, 1, 2] (us ++ ws ++ its)) (fun z => nomatch z) (fun h1 h2 h3 => vals_sel ((h1.append h3).append h2) [0, 1, 2]) fun _ _ _ _ _ _ _ us its ws h1 h2 h3 => match us, its, ws, h1, h2, h3 with | [_], [_], [_, _], _, _, _ => ⟨_, rfl, by kernel_rfl⟩
  exact ⟨C, f, fd, ["self", "num", "over"], _, _, ⟨hcl, hm⟩, mk, fn_ok hx (k := 3) F xsc_Share_initX (fun X W g => xw_Share_initX E xh_common_part (Nat.le_refl _) g), hb, fun x vs zs h1 h2 => match vs, zs, h1, h2 with | [], [_, _], _, _ => ⟨_, rfl, ⟨_, _, rfl, rfl, ⟨_, _, rfl, rfl, rfl⟩⟩⟩⟩
theorem xmk_Share_0_over_num (hx : M.xn = none) (E : Env M) (xh_common_part : FnV M 1 "common_part" 2 xf_common_part) {dv0 : V} {C f : Addr} {fd : FuncData} (F : xF_Share_initX dv0 M.K f fd) (hcl : ("Share" : Str) ∈ M.cls) (hm : M.mg "Share" = some (.ref C)) (mk : Mk M.K C f) : MkVK M 4 "Share" 0 ["over", "num"] [.at 1, .at 0] xf_Share_initX := by
  obtain ⟨its, hb⟩ := F.kbindsD (ps := ["self", "num", "over"]) 1 ["over", "num"] (fun us its ws => gsel [0, 2, 1] (us ++ ws ++ its)) (fun z => nomatch z) (fun h1 h2 h3 => vals_sel ((h1.append h3).append h2) [0, 2, 1]) fun _ _ _ _ _ _ _ us its ws h1 h2 h3 => match us, its, ws, h1, h2, h3 with | [_], [_], [_, _], _, _, _ => ⟨_, rfl, by kernel_rfl⟩
  exact ⟨C, f, fd, ["self", "num", "over"], _, _, ⟨hcl, hm⟩, mk, fn_ok hx (k := 3) F xsc_Share_initX (fun X W g => xw_Share_initX E xh_common_part (Nat.le_refl _) g), hb, fun x vs zs h1 h2 => match vs, zs, h1, h2 with | [], [_, _], _, _ => ⟨_, rfl, ⟨_, _, rfl, rfl, ⟨_, _, rfl, rfl, rfl⟩⟩⟩⟩
end
abbrev xN_Share_repr : List Str := ["self"]
abbrev xC_Share_repr : Cs := ⟨xN_Share_repr, defScope xs_Share_repr, fun _ => true⟩
section
variable {M : Md} {W : WX} {k : Nat} {X : Cx}
theorem xo_Share_repr_0 (g : G M xC_Share_repr W k X) {pos : Pos} : PE X (.Name "self" pos) (tO M W (.sl 0)) := e_sl g.toG0 rfl (by first | exact Or.inl (by decide +kernel) | exact Or.inr (Or.inl (by decide +kernel)) | exact Or.inr (Or.inr (by decide +kernel))) (by decide +kernel) (by decide +kernel)
theorem xw_Share_repr (E : Env M)  (hk : 0 ≤ k) (g : G M xC_Share_repr W k X) : PSs X (defBody xs_Share_repr) (tS M W xb_Share_repr) :=
  s_one (s_ret (e_fstr (φs := [cst (.str "Share("), app fFmt [.ex (app (fFld "num") [.sl 0])], cst (.str ", "), app fFmt [.ex (app (fFld "over") [.sl 0])], cst (.str ")")]) (.cons (e_str) (.cons (e_fmt (o_ex (e_fld g.toG0 E.f_num (xo_Share_repr_0 g) rfl))) (.cons (e_str) (.cons (e_fmt (o_ex (e_fld g.toG0 E.f_over (xo_Share_repr_0 g) rfl))) (.cons (e_str) (.nil))))))))
theorem xsc_Share_repr : FnScope xN_Share_repr ["self"] (defScope xs_Share_repr) := ⟨rfl, rfl, rfl, by decide +kernel, rfl, by decide +kernel, by decide +kernel⟩
abbrev xF_Share_repr (K : PySem.W.Frag) (f : Addr) (fd : FuncData) : Prop := FunD K "__repr__" "Share.__repr__" (defArgs xs_Share_repr) (defBody xs_Share_repr) (defScope xs_Share_repr) [] [] f fd
theorem xvm_Share_repr (hx : M.xn = none) (E : Env M)  {C f : Addr} {fd : FuncData} (F : xF_Share_repr M.K f fd) (hcl : ("Share" : Str) ∈ M.cls) (hm : M.mg "Share" = some (.ref C)) (hc : Cls M.K C) (hme : Meth M.K C "__repr__" f) : MtV M 1 "Share" "__repr__" 1 xf_Share_repr :=
  ⟨C, f, fd, ["self"], hcl, hm, hc, hme, fn_ok hx (k := 0) F xsc_Share_repr (fun X W g => xw_Share_repr E  (Nat.le_refl _) g), rfl, F.bindsN fun _ _ _ _ _ _ us hl => match us, hl with | [_], _ => rfl⟩
end
abbrev xN_Share_str : List Str := ["self"]
abbrev xC_Share_str : Cs := ⟨xN_Share_str, defScope xs_Share_str, fun _ => true⟩
section
variable {M : Md} {W : WX} {k : Nat} {X : Cx}
theorem xo_Share_str_0 (g : G M xC_Share_str W k X) {pos : Pos} : PE X (.Name "self" pos) (tO M W (.sl 0)) := e_sl g.toG0 rfl (by first | exact Or.inl (by decide +kernel) | exact Or.inr (Or.inl (by decide +kernel)) | exact Or.inr (Or.inr (by decide +kernel))) (by decide +kernel) (by decide +kernel)
theorem xw_Share_str (E : Env M)  (hk : 0 ≤ k) (g : G M xC_Share_str W k X) : PSs X (defBody xs_Share_str) (tS M W xb_Share_str) :=
  s_one (s_ret (e_meth g.toG0 PySem.F.plainAttrs_str PySem.F.slot_str_join PySem.F.type_str_join (m_join g.hK) (o_ex (e_str)) (a_cons (o_ex (e_bin (o_add g.hK) (o_ex (e_lst (φs := [app fStr [.ex (app (fFld "num") [.sl 0])]]) (a_cons (o_ex (e_callTy g.toG0 (f := fStr) (c_str) (by decide +kernel) E.b_str boot_str (a_cons (o_ex (e_fld g.toG0 E.f_num (xo_Share_str_0 g) rfl)) (a_nil) rfl) (by decide +kernel) (by decide +kernel) rfl rfl)) (a_nil) rfl) (by decide))) (o_ex (e_bin (o_mulL g.hK) (o_ex (e_lst (φs := [app fStr [.ex (app (fFld "over") [.sl 0])]]) (a_cons (o_ex (e_callTy g.toG0 (f := fStr) (c_str) (by decide +kernel) E.b_str boot_str (a_cons (o_ex (e_fld g.toG0 E.f_over (xo_Share_str_0 g) rfl)) (a_nil) rfl) (by decide +kernel) (by decide +kernel) rfl rfl)) (a_nil) rfl) (by decide))) (o_ex (e_callTy g.toG0 (f := fInt) (c_int) (by decide +kernel) E.b_int boot_int (a_cons (o_ex (e_cmp o_gt (o_ex (e_fld g.toG0 E.f_over (xo_Share_str_0 g) rfl)) (o_ex (e_int)) rfl)) (a_nil) rfl) (by decide +kernel) (by decide +kernel) rfl rfl)))))) (a_nil) rfl) rfl rfl rfl rfl rfl))
theorem xsc_Share_str : FnScope xN_Share_str ["self"] (defScope xs_Share_str) := ⟨rfl, rfl, rfl, by decide +kernel, rfl, by decide +kernel, by decide +kernel⟩
abbrev xF_Share_str (K : PySem.W.Frag) (f : Addr) (fd : FuncData) : Prop := FunD K "__str__" "Share.__str__" (defArgs xs_Share_str) (defBody xs_Share_str) (defScope xs_Share_str) [] [] f fd
theorem xvm_Share_str (hx : M.xn = none) (E : Env M)  {C f : Addr} {fd : FuncData} (F : xF_Share_str M.K f fd) (hcl : ("Share" : Str) ∈ M.cls) (hm : M.mg "Share" = some (.ref C)) (hc : Cls M.K C) (hme : Meth M.K C "__str__" f) : MtV M 1 "Share" "__str__" 1 xf_Share_str :=
  ⟨C, f, fd, ["self"], hcl, hm, hc, hme, fn_ok hx (k := 0) F xsc_Share_str (fun X W g => xw_Share_str E  (Nat.le_refl _) g), rfl, F.bindsN fun _ _ _ _ _ _ us hl => match us, hl with | [_], _ => rfl⟩
end
abbrev xN_l_shown : List Str := ["_law_due", "_law_text"]
abbrev xC_l_shown : Cs := ⟨xN_l_shown, defScope xs_l_shown, fun _ => true⟩
section
variable {M : Md} {W : WX} {k : Nat} {X : Cx}
theorem xo_l_shown_0 (g : G M xC_l_shown W k X) {pos : Pos} : PE X (.Name "_law_due" pos) (tO M W (.sl 0)) := e_sl g.toG0 rfl (by first | exact Or.inl (by decide +kernel) | exact Or.inr (Or.inl (by decide +kernel)) | exact Or.inr (Or.inr (by decide +kernel))) (by decide +kernel) (by decide +kernel)
theorem xn_l_shown_1 (g : G M xC_l_shown W k X) {pos : Pos} : PE X (.Name "_law_text" pos) (tE M W (nm 1)) := e_nm g.toG0 rfl (by first | exact Or.inl (by decide +kernel) | exact Or.inr (Or.inl (by decide +kernel)) | exact Or.inr (Or.inr (by decide +kernel))) (by decide +kernel) (by decide +kernel)
theorem xw_l_shown (E : Env M)  (hk : 0 ≤ k) (g : G M xC_l_shown W k X) : PSs X (defBody xs_l_shown) (tS M W xb_l_shown) :=
  s_cons (s_set g (i := 1) rfl (by first | exact Or.inl (by decide +kernel) | exact Or.inr (by decide +kernel)) (e_bin (o_add g.hK) (o_ex (e_callTy g.toG0 (f := fStr) (c_str) (by decide +kernel) E.b_str boot_str (a_cons (o_ex (e_gix g.toG0 (xo_l_shown_0 g) (o_ex (e_int)) (by intro _ _; rfl))) (a_nil) rfl) (by decide +kernel) (by decide +kernel) rfl rfl)) (o_ex (e_bin o_mulS (o_ex (e_bin (o_add g.hK) (o_ex (e_str)) (o_ex (e_callTy g.toG0 (f := fStr) (c_str) (by decide +kernel) E.b_str boot_str (a_cons (o_ex (e_gix g.toG0 (xo_l_shown_0 g) (o_ex (e_int)) (by intro _ _; rfl))) (a_nil) rfl) (by decide +kernel) (by decide +kernel) rfl rfl)))) (o_ex (e_callTy g.toG0 (f := fInt) (c_int) (by decide +kernel) E.b_int boot_int (a_cons (o_ex (e_cmp o_gt (o_ex (e_gix g.toG0 (xo_l_shown_0 g) (o_ex (e_int)) (by intro _ _; rfl))) (o_ex (e_int)) rfl)) (a_nil) rfl) (by decide +kernel) (by decide +kernel) rfl rfl))))) rfl (.inl rfl))
  (s_frz (s_one (s_ret (e_tup (φs := [app fAdd [.ex (app fAdd [.ex (app fAdd [.ex (app fAdd [.ex (cst (.str "Share(")), .ex (app fStr [.ex (app gItem [.sl 0, .ex (cst (.int 0))])])]), .ex (cst (.str ", "))]), .ex (app fStr [.ex (app gItem [.sl 0, .ex (cst (.int 1))])])]), .ex (cst (.str ")"))], nm 1]) (a_cons (o_ex (e_bin (o_add g.hK) (o_ex (e_bin (o_add g.hK) (o_ex (e_bin (o_add g.hK) (o_ex (e_bin (o_add g.hK) (o_ex (e_str)) (o_ex (e_callTy g.toG0 (f := fStr) (c_str) (by decide +kernel) E.b_str boot_str (a_cons (o_ex (e_gix g.toG0 (xo_l_shown_0 g) (o_ex (e_int)) (by intro _ _; rfl))) (a_nil) rfl) (by decide +kernel) (by decide +kernel) rfl rfl)))) (o_ex (e_str)))) (o_ex (e_callTy g.toG0 (f := fStr) (c_str) (by decide +kernel) E.b_str boot_str (a_cons (o_ex (e_gix g.toG0 (xo_l_shown_0 g) (o_ex (e_int)) (by intro _ _; rfl))) (a_nil) rfl) (by decide +kernel) (by decide +kernel) rfl rfl)))) (o_ex (e_str)))) (a_cons (o_ex (xn_l_shown_1 g)) (a_nil) rfl) rfl) (by decide)))))
theorem xsc_l_shown : FnScope xN_l_shown ["_law_due"] (defScope xs_l_shown) := ⟨rfl, rfl, rfl, by decide +kernel, rfl, by decide +kernel, by decide +kernel⟩
abbrev xF_l_shown (K : PySem.W.Frag) (f : Addr) (fd : FuncData) : Prop := FunD K "_law_shown" "_law_shown" (defArgs xs_l_shown) (defBody xs_l_shown) (defScope xs_l_shown) [] [] f fd
theorem xv_l_shown (hx : M.xn = none) (E : Env M)  {f : Addr} {fd : FuncData} (F : xF_l_shown M.K f fd) (hm : M.mg "_law_shown" = some (.ref f)) : FnV M 1 "_law_shown" 1 xf_l_shown :=
  ⟨f, fd, ["_law_due"], fn_ok hx (k := 0) F xsc_l_shown (fun X W g => xw_l_shown E  (Nat.le_refl _) g), hm, F.kp, rfl, F.bindsN fun _ _ _ _ _ _ us hl => match us, hl with | [_], _ => rfl⟩
end
abbrev xN_Share_eqX : List Str := ["self", "other"]
abbrev xC_Share_eqX : Cs := ⟨xN_Share_eqX, defScope xs_Share_eqX, fun _ => true⟩
section
variable {M : Md} {W : WX} {k : Nat} {X : Cx}
theorem xo_Share_eq_0 (g : G M xC_Share_eqX W k X) {pos : Pos} : PE X (.Name "self" pos) (tO M W (.sl 0)) := e_sl g.toG0 rfl (by first | exact Or.inl (by decide +kernel) | exact Or.inr (Or.inl (by decide +kernel)) | exact Or.inr (Or.inr (by decide +kernel))) (by decide +kernel) (by decide +kernel)
theorem xo_Share_eq_1 (g : G M xC_Share_eqX W k X) {pos : Pos} : PE X (.Name "other" pos) (tO M W (.sl 1)) := e_sl g.toG0 rfl (by first | exact Or.inl (by decide +kernel) | exact Or.inr (Or.inl (by decide +kernel)) | exact Or.inr (Or.inr (by decide +kernel))) (by decide +kernel) (by decide +kernel)
theorem xw_Share_eqX (E : Env M)  (hk : 0 ≤ k) (g : G M xC_Share_eqX W k X) : PSs X (defBody xs_Share_eqX) (tS M W xb_Share_eqX) :=
  s_one (s_ret (e_and g.toG0 (e_iso g E.iso_Share (by decide +kernel) E.b_isinstance (by decide +kernel) (by decide +kernel) (xo_Share_eq_1 g) rfl) (e_and1 (e_cmp (o_eq g.hK g.hu) (o_ex (e_tup (φs := [app (fFld "num") [.sl 0], app (fFld "over") [.sl 0]]) (a_cons (o_ex (e_fld g.toG0 E.f_num (xo_Share_eq_0 g) rfl)) (a_cons (o_ex (e_fld g.toG0 E.f_over (xo_Share_eq_0 g) rfl)) (a_nil) rfl) rfl) (by decide))) (o_ex (e_tup (φs := [app (fFld "num") [.sl 1], app (fFld "over") [.sl 1]]) (a_cons (o_ex (e_fld g.toG0 E.f_num (xo_Share_eq_1 g) rfl)) (a_cons (o_ex (e_fld g.toG0 E.f_over (xo_Share_eq_1 g) rfl)) (a_nil) rfl) rfl) (by decide))) rfl))))
theorem xsc_Share_eqX : FnScope xN_Share_eqX ["self", "other"] (defScope xs_Share_eqX) := ⟨rfl, rfl, rfl, by decide +kernel, rfl, by decide +kernel, by decide +kernel⟩
abbrev xF_Share_eqX (K : PySem.W.Frag) (f : Addr) (fd : FuncData) : Prop := FunD K "__eq__" "Share.__eq__" (defArgs xs_Share_eqX) (defBody xs_Share_eqX) (defScope xs_Share_eqX) [] [] f fd
theorem xvm_Share_eqX (hx : M.xn = none) (E : Env M)  {C f : Addr} {fd : FuncData} (F : xF_Share_eqX M.K f fd) (hcl : ("Share" : Str) ∈ M.cls) (hm : M.mg "Share" = some (.ref C)) (hc : Cls M.K C) (hme : Meth M.K C "__eq__" f) : MtV M 1 "Share" "__eq__" 2 xf_Share_eqX :=
  ⟨C, f, fd, ["self", "other"], hcl, hm, hc, hme, fn_ok hx (k := 0) F xsc_Share_eqX (fun X W g => xw_Share_eqX E  (Nat.le_refl _) g), rfl, F.bindsN fun _ _ _ _ _ _ us hl => match us, hl with | [_, _], _ => rfl⟩
end
abbrev xN_l_refused : List Str := ["_law_first", "_law_way", "_law_found", "e"]
abbrev xC_l_refused : Cs := ⟨xN_l_refused, defScope xs_l_refused, fun _ => true⟩
section
variable {M : Md} {W : WX} {k : Nat} {X : Cx}
theorem xn_l_refused_0 (g : G M xC_l_refused W k X) {pos : Pos} : PE X (.Name "_law_first" pos) (tE M W (nm 0)) := e_nm g.toG0 rfl (by first | exact Or.inl (by decide +kernel) | exact Or.inr (Or.inl (by decide +kernel)) | exact Or.inr (Or.inr (by decide +kernel))) (by decide +kernel) (by decide +kernel)
theorem xo_l_refused_1 (g : G M xC_l_refused W k X) {pos : Pos} : PE X (.Name "_law_way" pos) (tO M W (.sl 1)) := e_sl g.toG0 rfl (by first | exact Or.inl (by decide +kernel) | exact Or.inr (Or.inl (by decide +kernel)) | exact Or.inr (Or.inr (by decide +kernel))) (by decide +kernel) (by decide +kernel)
theorem xw_l_refused (E : Env M) (xkk_Share_0_num_over : MkVK M 4 "Share" 0 ["num", "over"] [.at 0, .at 1] xf_Share_initX) (xkk_Share_0_over_num : MkVK M 4 "Share" 0 ["over", "num"] [.at 1, .at 0] xf_Share_initX) (xk_Share_2 : MkV M 4 "Share" 2 [] xf_Share_initX) (hk : 5 ≤ k) (gf : GF M xC_l_refused W k X) : PSs X (defBody xs_l_refused) (tS M W xb_l_refused) :=
  have g := gf.toG
  s_cons (s_set g (i := 2) rfl (by first | exact Or.inl (by decide +kernel) | exact Or.inr (by decide +kernel)) (e_non) rfl (.inl rfl))
  (s_frz (s_cons (s_try1 gf (i := 3) rfl (by decide +kernel) (by decide +kernel) (by decide +kernel) E.hd_PollError_NoShare (fun X W gf => have g := gf.toG; s_one (s_if (t_cmp (o_eq g.hK g.hu) (xo_l_refused_1 g) (o_ex (e_int)) rfl) (s_one (s_expr (e_make g xk_Share_2 (Nat.le_trans (by decide) hk) (by decide +kernel) (a_cons (o_ex (xn_l_refused_0 g)) (a_cons (o_ex (e_int)) (a_nil) rfl) rfl) rfl (by decide +kernel) rfl rfl) rfl)) (s_one (s_if (t_cmp (o_eq g.hK g.hu) (xo_l_refused_1 g) (o_ex (e_int)) rfl) (s_one (s_expr (e_makeK0 g xkk_Share_0_over_num (Nat.le_trans (by decide) hk) (by decide +kernel) (k_consK (o_ex (e_int)) (k_consK (o_ex (xn_l_refused_0 g)) (k_nilK))) rfl (by decide +kernel) rfl rfl rfl) rfl)) (s_one (s_expr (e_makeK0 g xkk_Share_0_num_over (Nat.le_trans (by decide) hk) (by decide +kernel) (k_consK (o_ex (xn_l_refused_0 g)) (k_consK (o_ex (e_int)) (k_nilK))) rfl (by decide +kernel) rfl rfl rfl) rfl)))))) (fun a dx C oe pn x gx hxc => s_one (s_if (t_tru gx.g (o_ex (e_isX1 gx hxc E.xc_NoShare E.is_NoShare_NoShare rfl (by first | exact Or.inl (by decide +kernel) | exact Or.inr (Or.inl (by decide +kernel)) | exact Or.inr (Or.inr (by decide +kernel))) (by decide +kernel) (by decide +kernel) (by decide +kernel) E.b_isinstance (by decide +kernel) (by decide +kernel))) (by intro _; rfl)) (s_cons (s_setH gx.g (i := 2) (fun t e => by have e : some _ = some t := e; cases e; show (3 : Nat) ≠ 2; decide) rfl (by first | exact Or.inl (by decide +kernel) | exact Or.inr (by decide +kernel)) (e_tup (φs := [xfE x "num", xfE x "over"]) (a_cons (o_ex (e_xfc gx hxc E.xf_NoShare_num rfl (by first | exact Or.inl (by decide +kernel) | exact Or.inr (Or.inl (by decide +kernel)) | exact Or.inr (Or.inr (by decide +kernel))) (by decide +kernel) (by decide +kernel) rfl)) (a_cons (o_ex (e_xfc gx hxc E.xf_NoShare_over rfl (by first | exact Or.inl (by decide +kernel) | exact Or.inr (Or.inl (by decide +kernel)) | exact Or.inr (Or.inr (by decide +kernel))) (by decide +kernel) (by decide +kernel) rfl)) (a_nil) rfl) rfl) (show 2 ≤ sizeLine by decide)) rfl (.inl rfl))
  (s_frz (s_nil))) (s_nil))))
  (s_one (s_retI g.toG0 (i := 2) rfl (by first | exact Or.inl (by decide +kernel) | exact Or.inr (Or.inl (by decide +kernel)) | exact Or.inr (Or.inr (by decide +kernel))) (by decide +kernel) (by decide +kernel)))))
theorem xsc_l_refused : FnScope xN_l_refused ["_law_first", "_law_way"] (defScope xs_l_refused) := ⟨rfl, rfl, rfl, by decide +kernel, rfl, by decide +kernel, by decide +kernel⟩
abbrev xF_l_refused (K : PySem.W.Frag) (f : Addr) (fd : FuncData) : Prop := FunD K "_law_refused" "_law_refused" (defArgs xs_l_refused) (defBody xs_l_refused) (defScope xs_l_refused) [] [] f fd
theorem xv_l_refused (hx : M.xn = none) (E : Env M) (xkk_Share_0_num_over : MkVK M 4 "Share" 0 ["num", "over"] [.at 0, .at 1] xf_Share_initX) (xkk_Share_0_over_num : MkVK M 4 "Share" 0 ["over", "num"] [.at 1, .at 0] xf_Share_initX) (xk_Share_2 : MkV M 4 "Share" 2 [] xf_Share_initX) {f : Addr} {fd : FuncData} (F : xF_l_refused M.K f fd) (hm : M.mg "_law_refused" = some (.ref f)) : FnV M 6 "_law_refused" 2 xf_l_refused :=
  ⟨f, fd, ["_law_first", "_law_way"], fn_okF hx (k := 5) F xsc_l_refused (fun X W g => xw_l_refused E xkk_Share_0_num_over xkk_Share_0_over_num xk_Share_2 (Nat.le_refl _) g), hm, F.kp, rfl, F.bindsN fun _ _ _ _ _ _ us hl => match us, hl with | [_, _], _ => rfl⟩
end
abbrev xN_law_k03 : List Str := ["_law_script", "_law_cell", "_law_well_here", "_law_part", "_law_due", "_law_some", "_law_share", "_law_whole", "_law_way", "_law_first", "_law_second"]
abbrev xC_law_k03 : Cs := ⟨xN_law_k03, defScope xs_law_k03, fun _ => true⟩
section
variable {M : Md} {W : WX} {k : Nat} {X : Cx}
theorem xo_law_k03_0 (g : G M xC_law_k03 W k X) {pos : Pos} : PE X (.Name "_law_script" pos) (tO M W (.sl 0)) := e_sl g.toG0 rfl (by first | exact Or.inl (by decide +kernel) | exact Or.inr (Or.inl (by decide +kernel)) | exact Or.inr (Or.inr (by decide +kernel))) (by decide +kernel) (by decide +kernel)
theorem xn_law_k03_0 (g : G M xC_law_k03 W k X) {pos : Pos} : PE X (.Name "_law_script" pos) (tE M W (nm 0)) := e_nm g.toG0 rfl (by first | exact Or.inl (by decide +kernel) | exact Or.inr (Or.inl (by decide +kernel)) | exact Or.inr (Or.inr (by decide +kernel))) (by decide +kernel) (by decide +kernel)
theorem xn_law_k03_1 (g : G M xC_law_k03 W k X) {pos : Pos} : PE X (.Name "_law_cell" pos) (tE M W (nm 1)) := e_nm g.toG0 rfl (by first | exact Or.inl (by decide +kernel) | exact Or.inr (Or.inl (by decide +kernel)) | exact Or.inr (Or.inr (by decide +kernel))) (by decide +kernel) (by decide +kernel)
theorem xo_law_k03_2 (g : G M xC_law_k03 W k X) {pos : Pos} : PE X (.Name "_law_well_here" pos) (tO M W (.sl 2)) := e_sl g.toG0 rfl (by first | exact Or.inl (by decide +kernel) | exact Or.inr (Or.inl (by decide +kernel)) | exact Or.inr (Or.inr (by decide +kernel))) (by decide +kernel) (by decide +kernel)
theorem xo_law_k03_3 (g : G M xC_law_k03 W k X) {pos : Pos} : PE X (.Name "_law_part" pos) (tO M W (.sl 3)) := e_sl g.toG0 rfl (by first | exact Or.inl (by decide +kernel) | exact Or.inr (Or.inl (by decide +kernel)) | exact Or.inr (Or.inr (by decide +kernel))) (by decide +kernel) (by decide +kernel)
theorem xo_law_k03_4 (g : G M xC_law_k03 W k X) {pos : Pos} : PE X (.Name "_law_due" pos) (tO M W (.sl 4)) := e_sl g.toG0 rfl (by first | exact Or.inl (by decide +kernel) | exact Or.inr (Or.inl (by decide +kernel)) | exact Or.inr (Or.inr (by decide +kernel))) (by decide +kernel) (by decide +kernel)
theorem xn_law_k03_4 (g : G M xC_law_k03 W k X) {pos : Pos} : PE X (.Name "_law_due" pos) (tE M W (nm 4)) := e_nm g.toG0 rfl (by first | exact Or.inl (by decide +kernel) | exact Or.inr (Or.inl (by decide +kernel)) | exact Or.inr (Or.inr (by decide +kernel))) (by decide +kernel) (by decide +kernel)
theorem xo_law_k03_5 (g : G M xC_law_k03 W k X) {pos : Pos} : PE X (.Name "_law_some" pos) (tO M W (.sl 5)) := e_sl g.toG0 rfl (by first | exact Or.inl (by decide +kernel) | exact Or.inr (Or.inl (by decide +kernel)) | exact Or.inr (Or.inr (by decide +kernel))) (by decide +kernel) (by decide +kernel)
theorem xn_law_k03_5 (g : G M xC_law_k03 W k X) {pos : Pos} : PE X (.Name "_law_some" pos) (tE M W (nm 5)) := e_nm g.toG0 rfl (by first | exact Or.inl (by decide +kernel) | exact Or.inr (Or.inl (by decide +kernel)) | exact Or.inr (Or.inr (by decide +kernel))) (by decide +kernel) (by decide +kernel)
theorem xo_law_k03_6 (g : G M xC_law_k03 W k X) {pos : Pos} : PE X (.Name "_law_share" pos) (tO M W (.sl 6)) := e_sl g.toG0 rfl (by first | exact Or.inl (by decide +kernel) | exact Or.inr (Or.inl (by decide +kernel)) | exact Or.inr (Or.inr (by decide +kernel))) (by decide +kernel) (by decide +kernel)
theorem xn_law_k03_6 (g : G M xC_law_k03 W k X) {pos : Pos} : PE X (.Name "_law_share" pos) (tE M W (nm 6)) := e_nm g.toG0 rfl (by first | exact Or.inl (by decide +kernel) | exact Or.inr (Or.inl (by decide +kernel)) | exact Or.inr (Or.inr (by decide +kernel))) (by decide +kernel) (by decide +kernel)
theorem xo_law_k03_7 (g : G M xC_law_k03 W k X) {pos : Pos} : PE X (.Name "_law_whole" pos) (tO M W (.sl 7)) := e_sl g.toG0 rfl (by first | exact Or.inl (by decide +kernel) | exact Or.inr (Or.inl (by decide +kernel)) | exact Or.inr (Or.inr (by decide +kernel))) (by decide +kernel) (by decide +kernel)
theorem xn_law_k03_7 (g : G M xC_law_k03 W k X) {pos : Pos} : PE X (.Name "_law_whole" pos) (tE M W (nm 7)) := e_nm g.toG0 rfl (by first | exact Or.inl (by decide +kernel) | exact Or.inr (Or.inl (by decide +kernel)) | exact Or.inr (Or.inr (by decide +kernel))) (by decide +kernel) (by decide +kernel)
theorem xn_law_k03_8 (g : G M xC_law_k03 W k X) {pos : Pos} : PE X (.Name "_law_way" pos) (tE M W (nm 8)) := e_nm g.toG0 rfl (by first | exact Or.inl (by decide +kernel) | exact Or.inr (Or.inl (by decide +kernel)) | exact Or.inr (Or.inr (by decide +kernel))) (by decide +kernel) (by decide +kernel)
theorem xo_law_k03_9 (g : G M xC_law_k03 W k X) {pos : Pos} : PE X (.Name "_law_first" pos) (tO M W (.sl 9)) := e_sl g.toG0 rfl (by first | exact Or.inl (by decide +kernel) | exact Or.inr (Or.inl (by decide +kernel)) | exact Or.inr (Or.inr (by decide +kernel))) (by decide +kernel) (by decide +kernel)
theorem xn_law_k03_9 (g : G M xC_law_k03 W k X) {pos : Pos} : PE X (.Name "_law_first" pos) (tE M W (nm 9)) := e_nm g.toG0 rfl (by first | exact Or.inl (by decide +kernel) | exact Or.inr (Or.inl (by decide +kernel)) | exact Or.inr (Or.inr (by decide +kernel))) (by decide +kernel) (by decide +kernel)
theorem xo_law_k03_10 (g : G M xC_law_k03 W k X) {pos : Pos} : PE X (.Name "_law_second" pos) (tO M W (.sl 10)) := e_sl g.toG0 rfl (by first | exact Or.inl (by decide +kernel) | exact Or.inr (Or.inl (by decide +kernel)) | exact Or.inr (Or.inr (by decide +kernel))) (by decide +kernel) (by decide +kernel)
theorem xn_law_k03_10 (g : G M xC_law_k03 W k X) {pos : Pos} : PE X (.Name "_law_second" pos) (tE M W (nm 10)) := e_nm g.toG0 rfl (by first | exact Or.inl (by decide +kernel) | exact Or.inr (Or.inl (by decide +kernel)) | exact Or.inr (Or.inr (by decide +kernel))) (by decide +kernel) (by decide +kernel)
theorem xw_law_k03 (E : Env M) (xh_l_cell_at : FnV M 1 "_law_cell_at" 2 xf_l_cell_at) (xh_l_well : FnV M 1 "_law_well" 1 xf_l_well) (xh_l_number : FnV M 3 "_law_number" 1 xf_l_number) (xh_l_draw : FnV M 1 "_law_draw" 2 xf_l_draw) (xh_l_lowest : FnV M 1 "_law_lowest" 2 xf_l_lowest) (xh_l_shown : FnV M 1 "_law_shown" 1 xf_l_shown) (xh_l_refused : FnV M 6 "_law_refused" 2 xf_l_refused) (xkk_Share_0_num_over : MkVK M 4 "Share" 0 ["num", "over"] [.at 0, .at 1] xf_Share_initX) (xkk_Share_0_over_num : MkVK M 4 "Share" 0 ["over", "num"] [.at 1, .at 0] xf_Share_initX) (xk_Share_1 : MkV M 4 "Share" 2 [.int 1] xf_Share_initX) (xk_Share_2 : MkV M 4 "Share" 2 [] xf_Share_initX) (xhm_Share_eqX : MtV M 1 "Share" "__eq__" 2 xf_Share_eqX) (xhm_Share_repr : MtV M 1 "Share" "__repr__" 1 xf_Share_repr) (xhm_Share_str : MtV M 1 "Share" "__str__" 1 xf_Share_str) (xhe_Share_eqX : EqV M 1 "Share" xf_Share_eqX) (hk : 6 ≤ k) (g : G M xC_law_k03 W k X) : PSs X (defBody xs_law_k03) (tS M W xb_law_k03) :=
  s_cons (s_for g (i_seq g (o_ex (e_bin (o_add g.hK) (o_ex (e_lst (φs := [callF xf_l_cell_at [.ex (nm 0), .ex (cst (.int 0))] []]) (a_cons (o_ex (e_call g xh_l_cell_at (Nat.le_trans (by decide) hk) (by decide +kernel) (a_cons (o_ex (xn_law_k03_0 g)) (a_cons (o_ex (e_int)) (a_nil) rfl) rfl) rfl (by decide +kernel) rfl rfl)) (a_nil) rfl) (by decide))) (o_ex (e_slc g.toG0 (ol := (some (.ex (cst (.int 1))))) (oh := (some (.ex (cst (.int 24))))) (xo_law_k03_0 g) (o_ex (e_int)) (o_ex (e_int))))))) (p_s g (i := 1) rfl (by first | exact Or.inl (by decide +kernel) | exact Or.inr (by decide +kernel)) (.inl rfl)) (s_cons (s_set g (i := 2) rfl (by first | exact Or.inl (by decide +kernel) | exact Or.inr (by decide +kernel)) (e_call g xh_l_well (Nat.le_trans (by decide) hk) (by decide +kernel) (a_cons (o_ex (xn_law_k03_1 g)) (a_nil) rfl) rfl (by decide +kernel) rfl rfl) rfl (.inl rfl))
  (s_cons (s_par g (i := 9) (j := 10) rfl rfl (by decide) rfl (by decide +kernel) (by decide +kernel) (by decide +kernel) rfl rfl rfl rfl (a_cons (o_ex (e_call g xh_l_number (Nat.le_trans (by decide) hk) (by decide +kernel) (a_cons (xo_law_k03_2 g) (a_nil) rfl) rfl (by decide +kernel) rfl rfl)) (a_cons (o_ex (e_call g xh_l_number (Nat.le_trans (by decide) hk) (by decide +kernel) (a_cons (xo_law_k03_2 g) (a_nil) rfl) rfl (by decide +kernel) rfl rfl)) a_nil rfl) rfl) rfl)
  (s_cons (s_if (t_cmp (o_eq g.hK g.hu) (xo_law_k03_10 g) (o_ex (e_int)) rfl) (s_cons (s_set g (i := 10) rfl (by first | exact Or.inl (by decide +kernel) | exact Or.inr (by decide +kernel)) (e_int) rfl (.inl rfl))
  (s_frz (s_nil))) (s_nil))
  (s_cons (s_set g (i := 3) rfl (by first | exact Or.inl (by decide +kernel) | exact Or.inr (by decide +kernel)) (e_bin (o_add g.hK) (o_ex (e_int)) (o_ex (e_call g xh_l_draw (Nat.le_trans (by decide) hk) (by decide +kernel) (a_cons (xo_law_k03_2 g) (a_cons (o_ex (e_gix g.toG0 (o_ex (e_lst (φs := [cst (.int 3), app fPow [.ex (cst (.int 10)), .ex (cst (.int 30))]]) (a_cons (o_ex (e_int)) (a_cons (o_ex (e_bin o_pow (o_ex (e_int)) (o_ex (e_int)))) (a_nil) rfl) rfl) (by decide))) (o_ex (e_call g xh_l_draw (Nat.le_trans (by decide) hk) (by decide +kernel) (a_cons (xo_law_k03_2 g) (a_cons (o_ex (e_int)) (a_nil) rfl) rfl) rfl (by decide +kernel) rfl rfl)) (by intro _ _; rfl))) (a_nil) rfl) rfl) rfl (by decide +kernel) rfl rfl))) rfl (.inl rfl))
  (s_frz (s_cons (s_set g (i := 4) rfl (by first | exact Or.inl (by decide +kernel) | exact Or.inr (by decide +kernel)) (e_call g xh_l_lowest (Nat.le_trans (by decide) hk) (by decide +kernel) (a_cons (o_ex (xn_law_k03_9 g)) (a_cons (o_ex (xn_law_k03_10 g)) (a_nil) rfl) rfl) rfl (by decide +kernel) rfl rfl) rfl (.inl rfl))
  (s_frz (s_cons (s_set g (i := 5) rfl (by first | exact Or.inl (by decide +kernel) | exact Or.inr (by decide +kernel)) (e_lst (φs := [mkI "Share" xf_Share_initX [.ex (nm 9), .ex (nm 10)] [], mkI "Share" xf_Share_initX [.ex (app fMul [.sl 9, .sl 3]), .ex (app fMul [.sl 10, .sl 3])] [], mkK "Share" xf_Share_initX [.ex (app fSub [.ex (cst (.int 0)), .sl 10]), .ex (app fSub [.ex (cst (.int 0)), .sl 9])] [.at 1, .at 0]]) (a_cons (o_ex (e_make g xk_Share_2 (Nat.le_trans (by decide) hk) (by decide +kernel) (a_cons (o_ex (xn_law_k03_9 g)) (a_cons (o_ex (xn_law_k03_10 g)) (a_nil) rfl) rfl) rfl (by decide +kernel) rfl rfl)) (a_cons (o_ex (e_make g xk_Share_2 (Nat.le_trans (by decide) hk) (by decide +kernel) (a_cons (o_ex (e_bin o_mul (xo_law_k03_9 g) (xo_law_k03_3 g))) (a_cons (o_ex (e_bin o_mul (xo_law_k03_10 g) (xo_law_k03_3 g))) (a_nil) rfl) rfl) rfl (by decide +kernel) rfl rfl)) (a_cons (o_ex (e_makeK0 g xkk_Share_0_over_num (Nat.le_trans (by decide) hk) (by decide +kernel) (k_consK (o_ex (e_bin o_sub (o_ex (e_int)) (xo_law_k03_10 g))) (k_consK (o_ex (e_bin o_sub (o_ex (e_int)) (xo_law_k03_9 g))) (k_nilK))) rfl (by decide +kernel) rfl rfl rfl)) (a_nil) rfl) rfl) rfl) (by decide)) rfl (.inl rfl))
  (s_frz (s_cons (s_for g (i_seq g (o_ex (xn_law_k03_5 g))) (p_s g (i := 6) rfl (by first | exact Or.inl (by decide +kernel) | exact Or.inr (by decide +kernel)) (.inl rfl)) (s_cons (s_if (t_w (w_or (t_cmp (o_ne g.hK g.hu) (o_ex (e_tup (φs := [app (fFld "num") [.sl 6], app (fFld "over") [.sl 6]]) (a_cons (o_ex (e_fld g.toG0 E.f_num (xo_law_k03_6 g) rfl)) (a_cons (o_ex (e_fld g.toG0 E.f_over (xo_law_k03_6 g) rfl)) (a_nil) rfl) rfl) (by decide))) (xo_law_k03_4 g) rfl) (w_or1 (t_cmp (o_ne g.hK g.hu) (o_ex (e_tup (φs := [unI "Share" xf_Share_repr (.ex (nm 6)), unI "Share" xf_Share_str (.ex (nm 6))]) (a_cons (o_ex (e_unR g (un_of xhm_Share_repr) (Nat.le_trans (by decide) hk) (by decide +kernel) E.b_repr (o_ex (xn_law_k03_6 g)) rfl)) (a_cons (o_ex (e_unS g (un_of xhm_Share_str) (Nat.le_trans (by decide) hk) (by decide +kernel) E.b_str (o_ex (xn_law_k03_6 g)) rfl)) (a_nil) rfl) rfl) (by decide))) (o_ex (e_call g xh_l_shown (Nat.le_trans (by decide) hk) (by decide +kernel) (a_cons (o_ex (xn_law_k03_4 g)) (a_nil) rfl) rfl (by decide +kernel) rfl rfl)) rfl)))) (s_one (s_ret (e_bl))) s_nil)
  (s_cons (s_if (t_w (w_or (t_neI g xhe_Share_eqX (Nat.le_trans (by decide) hk) (o_ex (xn_law_k03_6 g)) (o_ex (e_gix g.toG0 (xo_law_k03_5 g) (o_ex (e_int)) (by intro _ _; rfl)))) (w_or (t_eqO2 g xhe_Share_eqX (Nat.le_trans (by decide) hk) (o_ex (xn_law_k03_6 g)) (o_ex (xn_law_k03_4 g))) (w_or (t_eqO2 g xhe_Share_eqX (Nat.le_trans (by decide) hk) (o_ex (xn_law_k03_6 g)) (o_ex (e_unS g (un_of xhm_Share_str) (Nat.le_trans (by decide) hk) (by decide +kernel) E.b_str (o_ex (xn_law_k03_6 g)) rfl))) (w_or1 (t_w (w_and (t_eqO2 g xhe_Share_eqX (Nat.le_trans (by decide) hk) (o_ex (xn_law_k03_6 g)) (o_ex (xn_law_k03_9 g))) (w_and1 (t_cmp (o_eq g.hK g.hu) (o_ex (e_gix g.toG0 (xo_law_k03_4 g) (o_ex (e_int)) (by intro _ _; rfl))) (o_ex (e_int)) rfl))))))))) (s_one (s_ret (e_bl))) s_nil)
  (s_kill (s_nil)))) (by intro _; rfl))
  (s_cons (s_set g (i := 7) rfl (by first | exact Or.inl (by decide +kernel) | exact Or.inr (by decide +kernel)) (e_make g xk_Share_1 (Nat.le_trans (by decide) hk) (by decide +kernel) (a_cons (o_ex (xn_law_k03_9 g)) (a_nil) rfl) rfl (by decide +kernel) rfl rfl) rfl (.inl rfl))
  (s_frz (s_cons (s_if (t_w (w_or (t_cmp (o_ne g.hK g.hu) (o_ex (e_tup (φs := [app (fFld "num") [.sl 7], app (fFld "over") [.sl 7]]) (a_cons (o_ex (e_fld g.toG0 E.f_num (xo_law_k03_7 g) rfl)) (a_cons (o_ex (e_fld g.toG0 E.f_over (xo_law_k03_7 g) rfl)) (a_nil) rfl) rfl) (by decide))) (o_ex (e_tup (φs := [nm 9, cst (.int 1)]) (a_cons (o_ex (xn_law_k03_9 g)) (a_cons (o_ex (e_int)) (a_nil) rfl) rfl) (by decide))) rfl) (w_or1 (t_cmp (o_ne g.hK g.hu) (o_ex (e_eqI g xhe_Share_eqX (Nat.le_trans (by decide) hk) (o_ex (xn_law_k03_7 g)) (o_ex (e_gix g.toG0 (xo_law_k03_5 g) (o_ex (e_int)) (by intro _ _; rfl))))) (o_ex (e_cmp (o_eq g.hK g.hu) (xo_law_k03_4 g) (o_ex (e_tup (φs := [nm 9, cst (.int 1)]) (a_cons (o_ex (xn_law_k03_9 g)) (a_cons (o_ex (e_int)) (a_nil) rfl) rfl) (by decide))) rfl)) rfl)))) (s_one (s_ret (e_bl))) s_nil)
  (s_cons (s_if (t_w (w_or (t_eqI g xhe_Share_eqX (Nat.le_trans (by decide) hk) (o_ex (e_makeK0 g xkk_Share_0_num_over (Nat.le_trans (by decide) hk) (by decide +kernel) (k_consK (o_ex (e_bin (o_add g.hK) (xo_law_k03_9 g) (o_ex (e_int)))) (k_consK (o_ex (xn_law_k03_10 g)) (k_nilK))) rfl (by decide +kernel) rfl rfl rfl)) (o_ex (e_gix g.toG0 (xo_law_k03_5 g) (o_ex (e_int)) (by intro _ _; rfl)))) (w_or1 (t_neI g xhe_Share_eqX (Nat.le_trans (by decide) hk) (o_ex (e_make g xk_Share_2 (Nat.le_trans (by decide) hk) (by decide +kernel) (a_cons (o_ex (xn_law_k03_9 g)) (a_cons (o_ex (xn_law_k03_10 g)) (a_nil) rfl) rfl) rfl (by decide +kernel) rfl rfl)) (o_ex (e_make g xk_Share_2 (Nat.le_trans (by decide) hk) (by decide +kernel) (a_cons (o_ex (e_bin o_mul (xo_law_k03_9 g) (o_ex (e_int)))) (a_cons (o_ex (e_bin o_mul (xo_law_k03_10 g) (o_ex (e_int)))) (a_nil) rfl) rfl) rfl (by decide +kernel) rfl rfl)))))) (s_one (s_ret (e_bl))) s_nil)
  (s_cons (s_for g (i_rng1 g (by decide +kernel) E.b_range (a_cons (o_ex (e_int)) (a_nil) rfl) rfl) (p_s g (i := 8) rfl (by first | exact Or.inl (by decide +kernel) | exact Or.inr (by decide +kernel)) (.inl rfl)) (s_cons (s_if (t_cmp (o_ne g.hK g.hu) (o_ex (e_call g xh_l_refused (Nat.le_trans (by decide) hk) (by decide +kernel) (a_cons (o_ex (xn_law_k03_9 g)) (a_cons (o_ex (xn_law_k03_8 g)) (a_nil) rfl) rfl) rfl (by decide +kernel) rfl rfl)) (o_ex (e_tup (φs := [nm 9, cst (.int 0)]) (a_cons (o_ex (xn_law_k03_9 g)) (a_cons (o_ex (e_int)) (a_nil) rfl) rfl) (by decide))) rfl) (s_one (s_ret (e_bl))) s_nil)
  (s_kill (s_nil))) (by intro _; rfl))
  (s_kill (s_kill (s_kill (s_kill (s_kill (s_kill (s_kill (s_kill (s_nil)))))))))))))))))))))))) (by intro _; rfl))
  (s_one (s_ret (e_bl)))
theorem xsc_law_k03 : FnScope xN_law_k03 ["_law_script"] (defScope xs_law_k03) := ⟨rfl, rfl, rfl, by decide +kernel, rfl, by decide +kernel, by decide +kernel⟩
end
theorem factsX {P : Program} {w : World} {K : PySem.W.Frag} {h : Heap} {mg : Str → Option Value} {f : Addr} (Y : K.In h) (N : h.Ns mainGlobals mg) (hfa : mg ("law" : Str) = some (.ref f)) (cE : VF.SaysE faL fbL fnL K) :
    ∃ fd : FuncData, (∀ (s : Shared) (v : Value), BindsTo s fd ⟨[v], []⟩ [("_law_script", v)]) ∧ ∀ base : Heap, K.In base → base.Ns mainGlobals mg → FnOk P w K mg base (L2N.CX P w) 7 f fd ["_law_script"] (spF ⟨P, w, base, K, mg, ["Share"], none, []⟩ 1 xf_law_k03) := by
  have c := cE.d
  obtain ⟨fd0, F0⟩ := c.def_ 0 (d := xd_l_cell_at) rfl
  obtain ⟨fd1, F1⟩ := c.def_ 1 (d := xd_l_well) rfl
  obtain ⟨fd2, F2⟩ := c.def_ 2 (d := xd_l_draw) rfl
  obtain ⟨fd3, F3⟩ := c.def_ 3 (d := xd_l_one) rfl
  obtain ⟨fd4, F4⟩ := c.def_ 4 (d := xd_l_number) rfl
  obtain ⟨fd5, F5⟩ := c.def_ 5 (d := xd_l_lowest) rfl
  obtain ⟨fd6, F6⟩ := c.def_ 6 (d := xd_common_part) rfl
  obtain ⟨fd7, F7⟩ := c.def_ 7 (d := xd_Share_initX) rfl
  obtain ⟨fd8, F8⟩ := c.def_ 8 (d := xd_Share_repr) rfl
  obtain ⟨fd9, F9⟩ := c.def_ 9 (d := xd_Share_str) rfl
  obtain ⟨fd10, F10⟩ := c.def_ 10 (d := xd_l_shown) rfl
  obtain ⟨fd11, F11⟩ := c.def_ 11 (d := xd_Share_eqX) rfl
  obtain ⟨fd12, F12⟩ := c.def_ 12 (d := xd_l_refused) rfl
  obtain ⟨fd13, F13⟩ := c.def_ 13 (d := xd_law_k03) rfl
  have g0 := He.glo_ok Y N (c.fact 0 (f := .glo "_law_cell_at") rfl)
  have g1 := He.glo_ok Y N (c.fact 1 (f := .glo "_law_well") rfl)
  have g2 := He.glo_ok Y N (c.fact 2 (f := .glo "_law_draw") rfl)
  have g3 := He.glo_ok Y N (c.fact 3 (f := .glo "_law_one") rfl)
  have g4 := He.glo_ok Y N (c.fact 4 (f := .glo "_law_number") rfl)
  have g5 := He.glo_ok Y N (c.fact 5 (f := .glo "_law_lowest") rfl)
  have g6 := He.glo_ok Y N (c.fact 6 (f := .glo "common_part") rfl)
  have g7 := He.glo_ok Y N (c.fact 7 (f := .glo "Share") rfl)
  have g8 := He.glo_ok Y N (c.fact 8 (f := .glo "Share") rfl)
  have g9 := He.glo_ok Y N (c.fact 9 (f := .glo "Share") rfl)
  have g10 := He.glo_ok Y N (c.fact 10 (f := .glo "_law_shown") rfl)
  have g11 := He.glo_ok Y N (c.fact 11 (f := .glo "Share") rfl)
  have g12 := He.glo_ok Y N (c.fact 12 (f := .glo "_law_refused") rfl)
  have g13 := He.glo_ok Y N (c.fact 13 (f := .glo "law") rfl)
  have g14 := He.free_ok Y N (c.fact 14 (f := .free "abs") rfl)
  have g15 := He.free_ok Y N (c.fact 15 (f := .free "int") rfl)
  have g16 := He.free_ok Y N (c.fact 16 (f := .free "isinstance") rfl)
  have g17 := He.free_ok Y N (c.fact 17 (f := .free "len") rfl)
  have g18 := He.free_ok Y N (c.fact 18 (f := .free "range") rfl)
  have g19 := He.free_ok Y N (c.fact 19 (f := .free "repr") rfl)
  have g20 := He.free_ok Y N (c.fact 20 (f := .free "str") rfl)
  have g21 := He.cls_ok (c.fact 21 (f := .cls "Share") rfl)
  have g22 := He.mkr_ok (c.fact 22 (f := .mkr "Share") rfl)
  have g23 := He.noat_ok (c.fact 23 (f := .noat "Share" "num") rfl)
  have g24 := He.noat_ok (c.fact 24 (f := .noat "Share" "over") rfl)
  have g25 := He.meth_ok (c.fact 25 (f := .meth "Share" "__eq__") rfl)
  have g26 := He.meth_ok (c.fact 26 (f := .meth "Share" "__repr__") rfl)
  have g27 := He.meth_ok (c.fact 27 (f := .meth "Share" "__str__") rfl)
  have g28 := He.glo_ok Y N (c.fact 28 (f := .glo "NoShare") rfl)
  have g29 := He.glo_ok Y N (c.fact 29 (f := .glo "PollError") rfl)
  have g30 := He.glo_ok Y N (c.fact 30 (f := .glo "Share") rfl)
  have g31 := He.free_ok Y N (c.fact 31 (f := .free "ValueError") rfl)
  have e := hfa.symm.trans g13
  cases e
  have b := FunD.bindsA (ps := ["_law_script"]) F13 fun _ _ _ _ _ _ us hl => match us, hl with | [_], _ => rfl
  refine ⟨fd13, fun s v => b s [v] rfl, fun base _ _ => ?_⟩
  obtain ⟨fdNS, FNS⟩ := c.def_ 15 (d := xd_NS) rfl
  obtain ⟨fdPE, FPE⟩ := c.def_ 14 (d := xd_PE) rfl
  have e_num : FldOk ⟨P, w, base, K, mg, ["Share"], none, []⟩ "num" := fun c C hc hm => by
    rcases List.mem_cons.mp (show c ∈ ("Share" : Str) :: _ from hc) with hq | hc
    · subst hq
      have z := hm.symm.trans g30
      cases z
      exact ⟨g21, g23⟩
    cases hc
  have e_over : FldOk ⟨P, w, base, K, mg, ["Share"], none, []⟩ "over" := fun c C hc hm => by
    rcases List.mem_cons.mp (show c ∈ ("Share" : Str) :: _ from hc) with hq | hc
    · subst hq
      have z := hm.symm.trans g30
      cases z
      exact ⟨g21, g24⟩
    cases hc
  have SPE : FnScope ["self", "why"] ["self", "why"] (defScope xs_PE) := ⟨rfl, rfl, rfl, by decide +kernel, rfl, by decide +kernel, by decide +kernel⟩
  have nPE := init_why (M := ⟨P, w, base, K, mg, ["Share"], none, []⟩) FPE SPE (by decide +kernel) (by first | exact Or.inl (by decide +kernel) | exact Or.inr (Or.inl (by decide +kernel)) | exact Or.inr (Or.inr (by decide +kernel))) (by first | exact Or.inl (by decide +kernel) | exact Or.inr (Or.inl (by decide +kernel)) | exact Or.inr (Or.inr (by decide +kernel))) g31 (fun _ => rfl) (by rfl)
  obtain ⟨dsPE, vPE, bPE⟩ := FPE.binds1 (ps := ["self", "why"]) 2 1 (fun z => nomatch z) rfl fun _ _ _ _ _ _ _ us its hl hi => match us, its, hl, hi with | [_, _], [_], _, _ => ⟨_, rfl, by kernel_rfl⟩
  have SNS : FnScope ["self", "num", "over"] ["self", "num", "over"] (defScope xs_NS) := ⟨rfl, rfl, rfl, by decide +kernel, rfl, by decide +kernel, by decide +kernel⟩
  have cNS := clf_of (cE.more 1 rfl)
  have nNS := init_two (M := ⟨P, w, base, K, mg, ["Share"], none, []⟩) FNS SNS (by decide +kernel) (by first | exact Or.inl (by decide +kernel) | exact Or.inr (Or.inl (by decide +kernel)) | exact Or.inr (Or.inr (by decide +kernel))) (by first | exact Or.inl (by decide +kernel) | exact Or.inr (Or.inl (by decide +kernel)) | exact Or.inr (Or.inr (by decide +kernel))) (by first | exact Or.inl (by decide +kernel) | exact Or.inr (Or.inl (by decide +kernel)) | exact Or.inr (Or.inr (by decide +kernel))) g29 (by decide +kernel) cNS.1 cNS.2.1 cNS.2.2 nPE vPE bPE (fun _ => rfl) (fun _ => rfl) (fun _ => rfl)
  have bNS := ers_bind (names := ["over"]) (ps := ["self", "num", "over"]) 2 rfl FNS fun _ _ _ _ _ _ us ks h1 h2 => match us, ks, h1, h2 with | [_, _], [_], _, _ => by kernel_rfl
  have E : Env ⟨P, w, base, K, mg, ["Share"], none, []⟩ := ⟨g14, g15, g16, g17, g18, g19, g20, e_num, e_over, ers_of g28 (cE.more 0 rfl) nNS noSh_rel bNS, hdF_of g29 g28 (cE.more 2 rfl), isF_of g28 g28 (cE.more 3 rfl), isoF_of g30 (fun x hx => by simp only [List.mem_cons, List.not_mem_nil, or_false] at hx; rcases hx with rfl; exact g30) (cE.more 4 rfl), xcf_of g28 (cE.more 5 rfl), xfF_of g28 (cE.more 6 rfl), xfF_of g28 (cE.more 7 rfl)⟩
  have v0 := xv_l_cell_at (M := ⟨P, w, base, K, mg, ["Share"], none, []⟩) rfl E  F0 g0
  have v1 := xv_l_well (M := ⟨P, w, base, K, mg, ["Share"], none, []⟩) rfl E  F1 g1
  have v2 := xv_l_draw (M := ⟨P, w, base, K, mg, ["Share"], none, []⟩) rfl E  F2 g2
  have v3 := xv_l_one (M := ⟨P, w, base, K, mg, ["Share"], none, []⟩) rfl E v2 F3 g3
  have v4 := xv_l_number (M := ⟨P, w, base, K, mg, ["Share"], none, []⟩) rfl E v2 v3 F4 g4
  have v5 := xv_l_lowest (M := ⟨P, w, base, K, mg, ["Share"], none, []⟩) rfl E  F5 g5
  have v6 := xv_common_part (M := ⟨P, w, base, K, mg, ["Share"], none, []⟩) rfl E  F6 g6
  have k_Share_1 := xm_Share_1 (M := ⟨P, w, base, K, mg, ["Share"], none, []⟩) rfl E v6 F7 (List.mem_cons_self) g30 g22
  have k_Share_2 := xm_Share_2 (M := ⟨P, w, base, K, mg, ["Share"], none, []⟩) rfl E v6 F7 (List.mem_cons_self) g30 g22
  have kk_Share_0_num_over := xmk_Share_0_num_over (M := ⟨P, w, base, K, mg, ["Share"], none, []⟩) rfl E v6 F7 (List.mem_cons_self) g30 g22
  have kk_Share_0_over_num := xmk_Share_0_over_num (M := ⟨P, w, base, K, mg, ["Share"], none, []⟩) rfl E v6 F7 (List.mem_cons_self) g30 g22
  have vm_Share_repr := xvm_Share_repr (M := ⟨P, w, base, K, mg, ["Share"], none, []⟩) rfl E  F8 (List.mem_cons_self) g30 g21 g26
  have vm_Share_str := xvm_Share_str (M := ⟨P, w, base, K, mg, ["Share"], none, []⟩) rfl E  F9 (List.mem_cons_self) g30 g21 g27
  have v10 := xv_l_shown (M := ⟨P, w, base, K, mg, ["Share"], none, []⟩) rfl E  F10 g10
  have vm_Share_eqX := xvm_Share_eqX (M := ⟨P, w, base, K, mg, ["Share"], none, []⟩) rfl E  F11 (List.mem_cons_self) g30 g21 g25
  have ve_Share_eqX := eqv_of (M := ⟨P, w, base, K, mg, ["Share"], none, []⟩) g30 (cE.more 8 rfl) vm_Share_eqX
  have v12 := xv_l_refused (M := ⟨P, w, base, K, mg, ["Share"], none, []⟩) rfl E kk_Share_0_num_over kk_Share_0_over_num k_Share_2 F12 g12
  exact fn_ok (M := ⟨P, w, base, K, mg, ["Share"], none, []⟩) rfl (k := 6) F13 xsc_law_k03 (fun X W g => xw_law_k03 E v0 v1 v4 v2 v5 v10 v12 kk_Share_0_num_over kk_Share_0_over_num k_Share_1 k_Share_2 vm_Share_eqX vm_Share_repr vm_Share_str ve_Share_eqX (Nat.le_refl _) g)
end K03
open PySem PySem.W PySem.Calls PyProof.Rows
theorem PySem.Challenge.cw_voicefold_k03_shares_made_holds : PySem.Challenge.rw_voicefold_k03_shares_made.Holds := by
  w_on; o_law
  refine HandSHeadRun.head_any (r := (PySem.W.OpenLaw.row PySem.Challenge.rw_voicefold_k03_shares_made)) (q := view (PySem.W.OpenLaw.row PySem.Challenge.rw_voicefold_k03_shares_made).prog [16]) (H := K03.hkX) (ob := K03.obX) (M := 20000) (loose := K03.nmX) (d := HandSHeadRun.topDef (PySem.W.OpenLaw.row PySem.Challenge.rw_voicefold_k03_shares_made).prog 16) (kwd := []) K03.obX_eq
    (by kernel_rfl) (fun s => by kernel_rfl) K03.runX (by kernel_rfl) (by kernel_rfl) (by kernel_rfl) (by rfl) (by first | assumption | decide +kernel) (by decide +kernel) ⟨rfl, rfl, rfl, rfl, rfl, by decide +kernel⟩ ?hw ?hc
  case hw => w_witness2
  case hc =>
    refine VF.walk_ofV (l := PySem.Challenge.rw_voicefold_k03_shares_made) (n := 63) (k := 7) (x := "_law_script") (φ := VP.xf_law_k03) rfl (by decide) (by kernel_rfl) ⟨rfl, by decide, by decide⟩ ?F (fun ns h1 h2 => VF.answer_of (VP.xq_law_k03 _) (VP.answer_k03 ns h1 h2))
    intro w mg fa h Y N hmg0
    obtain ⟨K, KX, c⟩ := Y
    have hmg : mg ("law" : PySem.Str) = some (.ref fa) := by
      have e : (HandSHeadRun.topDef (PySem.W.OpenLaw.row PySem.Challenge.rw_voicefold_k03_shares_made).prog 16).name = ("law" : PySem.Str) := by kernel_rfl
      rw [← e]
      exact hmg0
    obtain ⟨fd, hb, hF⟩ := K03.factsX (P := (PySem.Challenge.rw_voicefold_k03_shares_made).prog) (w := w) KX N hmg c
    exact ⟨K, fd, ["Share"], KX, hb, hF⟩
